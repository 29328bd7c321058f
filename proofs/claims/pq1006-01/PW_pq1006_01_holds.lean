import PyProof.Rows.All
import Wide.All
import OpenK.AllK
import Wide.FinOn
import PySem.Challenge.RW_pq1006_01
open PySem PySem.W PyProof.Rows
set_option Elab.async false
set_option maxRecDepth 100000
namespace Mine
open PySem.Calls PySem.Spec
local macro_rules | `(tactic| walk_at $s:str) => `(tactic| k_extra $s)
local macro_rules | `(tactic| k_all) => `(tactic| k_extra "k_all")
local macro_rules | `(tactic| k_mem) => `(tactic| k_extra "k_mem")
local macro_rules | `(tactic| k_upd) => `(tactic| k_extra "k_upd")
local macro_rules | `(tactic| k_ne) => `(tactic| k_extra "k_ne")
local macro_rules | `(tactic| k_room) => `(tactic| k_extra "k_room")
local macro_rules | `(tactic| k_units) => `(tactic| k_extra "k_units")
local macro_rules | `(tactic| units_room) => `(tactic| k_extra "units_room")
local macro_rules | `(tactic| ktr_room) => `(tactic| k_extra "ktr_room")
local macro_rules | `(tactic| ktr_units) => `(tactic| k_extra "ktr_units")
local macro_rules | `(tactic| cell_enter) => `(tactic| k_extra "cell_enter")
/-! Mk: the written part of the text's heap (Mine.hd.heap_1) made by the kit's own k_head, the head's proof left out: o_head is told to take the hypothesis. -/
section
local macro_rules | `(tactic| o_head $_) => `(tactic| assumption)
set_option maxHeartbeats 4000000 in
theorem hd (h : PySem.Challenge.rw_pq1006_01.row.Holds) : PySem.Challenge.rw_pq1006_01.row.Holds := by k_head
end
/-! A: the general rules. A call whose ledger is split: `news` (what the def may touch) and `rest` (what it leaves as it lies). -/
theorem allLt_ne {d : Addr} {l : List (Addr × Obj)} (h : AllLt d l) : ∀ p ∈ l, p.1 ≠ d := by
  induction l with
  | nil => intro p hp; cases hp
  | cons x r ih =>
    intro p hp
    rcases List.mem_cons.mp hp with rfl | hp
    · exact Nat.ne_of_lt h.1
    · exact ih h.2 p hp

/-- the addresses of two ledgers differ -/
def Apart (xs ys : List (Addr × Obj)) : Prop := ∀ p ∈ xs, ∀ q ∈ ys, p.1 ≠ q.1
theorem Apart.nil_left {ys : List (Addr × Obj)} : Apart [] ys := fun _ h => nomatch h
theorem Apart.nil_right {xs : List (Addr × Obj)} : Apart xs [] := fun _ _ _ h => nomatch h
theorem Apart.cons {x : Addr × Obj} {xs ys : List (Addr × Obj)} (h : ∀ q ∈ ys, x.1 ≠ q.1) (r : Apart xs ys) : Apart (x :: xs) ys := fun p hp q hq => by
  rcases List.mem_cons.mp hp with rfl | hp
  · exact h q hq
  · exact r p hp q hq
theorem Apart.symm {xs ys : List (Addr × Obj)} (h : Apart xs ys) : Apart ys xs := fun p hp q hq e => h q hq p hp e.symm
theorem News.part {h₀ h : Heap} {L : Addr} {xs ys : List (Addr × Obj)} (N : News h₀ L h ys) (s : ∀ p ∈ xs, p ∈ ys) : News h₀ L h xs := fun p hp => N p (s p hp)
theorem News.both {h₀ h : Heap} {L : Addr} {xs ys : List (Addr × Obj)} (N : News h₀ L h xs) (M : News h₀ L h ys) : News h₀ L h (xs ++ ys) := fun p hp => (List.mem_append.mp hp).elim (N p) (M p)

section
variable {prog : Program} {w : World} {A₀ A : Around} {s : Shared} {base h₀ : Heap} {outer : List Env} {L : Addr} {m mg mb : Str → Option Value} {env : Env} {news rest : List (Addr × Obj)} {K : Frag} {p : Program} {loose : List Str} {mean : ExcName → Option Value}
  {R : Result → Shared → Prop} {name qual : Str} {params : Arguments} {body : List Stmt} {scope : Scope} {dV kV doc pm cdv ct oc : Value} {an od : Option Addr} {osl : Array (Option Value)} {f : Addr} {args : Args} {binds : List (Str × Value)}

theorem code_defR (B : Below A₀ base outer h₀) (F : Fr h₀ L s.heap m) (X₀ : K.In h₀) (N : News h₀ L s.heap news) (M : News h₀ L s.heap rest) (off : Apart rest news) (T : Top p loose mean mg mb h₀) (hA : A.frames = some (env :: outer)) (hf : env.frame = some L) (hke : env.scope.kind = .function)
    (ho : K.lookup f = some ⟨oc, od, .func (fnOf name qual params body scope dV kV doc pm an cdv ct), osl⟩) (hcd : codeIn K cdv qual = true) (hroom : A.depth < recursionLimit)
    (hbind : BindsTo s (fnOf name qual params body scope dV kV doc pm an cdv ct) args binds) (hloc : ∀ y ∈ binds, scope.names.lookup y.1 = some .local)
    (h : ∀ g L' h₁, Fr h₀ L g m → Fr g L' h₁ (fun y => binds.reverse.lookup y) → News g L' h₁ news → Below A base (env :: outer) g → K.In g → Top p loose mean mg mb g → (∀ q ∈ rest, g.get? q.1 = some q.2) →
      wpAny (model prog w) (A.deeper (envOf qual scope L' f cdv)) (execs body (envOf qual scope L' f cdv))
        (fun fl s' => LeaveK h₀ L m g (fun r s'' => News h₀ L s''.heap rest → R r s'') (match fl with | .ret v => v | _ => .none) s')
        (fun e s' => wpAny (model prog w) (A.deeper (envOf qual scope L' f cdv)) (leaving (envOf qual scope L' f cdv) e) (fun _ s'' => R (.error e) s'') (fun e' s'' => R (.error e') s'') s')
        { s with heap := h₁, toks := s.toks + binds.length })
    (hco : scope.isCoroutine = false) (hgen : scope.isGenerator = false) (hk : scope.kind = .function)
    (hcell : ∀ x ∈ scope.names, x.2 ≠ .cell) : codeAny (model prog w) A (.call (.ref f) args) R s := by
  have X := X₀.keeps F.keep
  obtain ⟨FG, BG, st, lv⟩ := groundX (R := R) B F N hA hf hke
  have hg : ∀ q ∈ rest, (hideAll s.heap (news.map (·.1))).get? q.1 = some q.2 := fun q hq => hideAll_get _ (M q hq).1 fun hm => by
    obtain ⟨r, hr, e⟩ := List.mem_map.mp hm
    exact off q hq r hr e.symm
  refine codeAny_call_def (fd := fnOf name qual params body scope dV kV doc pm an cdv ct) (body := body) (binds := binds) hroom (X _ _ ho) rfl (T.nolimit.keeps F.keep) (codeRec_of X hcd) rfl hbind hcell hloc (fun h₁ hns hk₁ => ?_) hco hgen hk
  refine wpAny_mono (h _ s.heap.objs.size h₁ FG ⟨hns, fun b o e => hk₁ b o (of_hideAll _ e), Nat.le_of_eq (hideAll_size _ _)⟩
    (fun q hq => ⟨hk₁ _ _ (N q hq).1, Nat.ne_of_lt (Heap.lt_size (N q hq).1), hideAll_none _ (List.mem_map_of_mem hq)⟩) BG (X₀.keeps st) (T.keeps st) hg) (fun fl s' hl => ?_) fun _ _ y => y
  obtain ⟨L', m', news', F', N', k⟩ := hl
  exact lv _ _ ⟨L', m', news', F', N', fun a b => k a b fun q hq => ⟨F'.keep _ _ (hg q hq), (M q hq).2⟩⟩
end
/-- x taken out of a ledger -/
inductive Rem (x : Addr × Obj) : List (Addr × Obj) → List (Addr × Obj) → Prop
  | head {r} : Rem x (x :: r) r
  | tail {y r r'} : Rem x r r' → Rem x (y :: r) (y :: r')
theorem Rem.mem {x : Addr × Obj} {l r : List (Addr × Obj)} (h : Rem x l r) : x ∈ l := by
  induction h with
  | head => exact List.mem_cons_self
  | tail _ ih => exact List.mem_cons_of_mem _ ih
theorem Rem.sub {x : Addr × Obj} {l r : List (Addr × Obj)} (h : Rem x l r) : ∀ p ∈ r, p ∈ l := by
  induction h with
  | head => exact fun p hp => List.mem_cons_of_mem _ hp
  | tail _ ih =>
    intro p hp
    rcases List.mem_cons.mp hp with rfl | hp
    · exact List.mem_cons_self
    · exact List.mem_cons_of_mem _ (ih p hp)
theorem Rem.cases9 {x : Addr × Obj} {l r : List (Addr × Obj)} (h : Rem x l r) : ∀ p ∈ l, p = x ∨ p ∈ r := by
  induction h with
  | head => exact fun p hp => List.mem_cons.mp hp
  | tail _ ih =>
    intro p hp
    rcases List.mem_cons.mp hp with rfl | hp
    · exact .inr List.mem_cons_self
    · rcases ih p hp with e | hp
      · exact .inl e
      · exact .inr (List.mem_cons_of_mem _ hp)
theorem Rem.news {x : Addr × Obj} {l r : List (Addr × Obj)} {h₀ h : Heap} {L : Addr} (R : Rem x l r) (N : News h₀ L h l) : News h₀ L h (x :: r) := fun p hp => by
  rcases List.mem_cons.mp hp with rfl | hp
  · exact N _ R.mem
  · exact N p (R.sub p hp)
def AllNe (d : Addr) : List (Addr × Obj) → Prop
  | [] => True
  | p :: r => @Ne Nat p.1 d ∧ AllNe d r
theorem AllNe.mem {d : Addr} {l : List (Addr × Obj)} (h : AllNe d l) : ∀ p ∈ l, p.1 ≠ d := by
  induction l with
  | nil => intro p hp; cases hp
  | cons x r ih =>
    intro p hp
    rcases List.mem_cons.mp hp with rfl | hp
    · exact h.1
    · exact ih h.2 p hp
theorem AllNe.of {d : Addr} {l : List (Addr × Obj)} (h : ∀ p ∈ l, p.1 ≠ d) : AllNe d l := by
  induction l with
  | nil => trivial
  | cons x r ih => exact ⟨h x List.mem_cons_self, ih fun p hp => h p (List.mem_cons_of_mem _ hp)⟩
theorem AllNe.apart {a b : Addr} {oa ob : Obj} {l : List (Addr × Obj)} (h : AllNe a l) (k : AllNe b l) : Apart l [(a, oa), (b, ob)] := fun p hp q hq => by
  rcases List.mem_cons.mp hq with rfl | hq
  · exact h.mem p hp
  · rcases List.mem_cons.mp hq with rfl | hq
    · exact k.mem p hp
    · cases hq
/-! P1: orders; the questions asked of one order -/
/-- an order whose code is c -/
inductive OrdIn (nw : List (Addr × Obj)) (v : Value) (c : Int) : Prop
  | mk (a d : Addr) (x1 x2 x3 x4 x5 x6 : Int) (y1 y2 y3 y4 y5 y6 t1 : Tok) (v2 v3 v4 v5 v6 : Value) : v = .ref a → (a, instObj 658 d) ∈ nw → (d, dictOf [⟨x1, .str "code" y1, .int c t1⟩, ⟨x2, .str "dst" y2, v2⟩, ⟨x3, .str "src" y3, v3⟩, ⟨x4, .str "off" y4, v4⟩, ⟨x5, .str "imm" y5, v5⟩, ⟨x6, .str "more" y6, v6⟩] 6) ∈ nw → OrdIn nw v c
theorem OrdIn.mono {nw nw' : List (Addr × Obj)} (h : ∀ p ∈ nw, p ∈ nw') {v : Value} {c : Int} : OrdIn nw v c → OrdIn nw' v c
  | ⟨a, d, x1, x2, x3, x4, x5, x6, y1, y2, y3, y4, y5, y6, t1, v2, v3, v4, v5, v6, e, h1, h2⟩ => ⟨a, d, x1, x2, x3, x4, x5, x6, y1, y2, y3, y4, y5, y6, t1, v2, v3, v4, v5, v6, e, h _ h1, h _ h2⟩
/-- the def at f, asked of an order whose code is c, answers b c and leaves all as it lies -/
def PredC (w : World) (k u : Nat) (f : Addr) (b : Int → Bool) : Prop :=
  ∀ {p : Program} {loose : List Str} {mean : ExcName → Option Value} {mg mb : Str → Option Value} {dp un : Nat} {gd : Option (List Code)} {cn : Str} {cs : Scope} {a : Addr} {ccd : Value} {cl : List (Str × Addr)} {outer : List Env} {A₀ : Around} {base h₀ : Heap} {L : Addr}
    {m : Str → Option Value} {s : Shared} {Q E : Value → Shared → Prop} {nw : List (Addr × Obj)} {v : Value} {c : Int},
    Below A₀ base outer h₀ → Fr h₀ L s.heap m → (hd.heap_1 w.params).In h₀ → News h₀ L s.heap nw → Top p loose mean mg mb h₀ → cs.kind = .function → c = 183 ∨ c = 149 → OrdIn nw v c → dp + k < recursionLimit → un + u < cLine →
    (∀ h' tk', Fr h₀ L h' m → News h₀ L h' nw → Q (.bool (b c)) { s with heap := h', toks := tk' }) →
    wpAny (model PySem.Challenge.rw_pq1006_01.row.prog w) (ktrTop dp un gd cn cs L a ccd cl outer) (call (.ref f) [v]) Q E s
set_option maxHeartbeats 4000000 in
theorem is_jumping_c (w : World) : PredC w 20 500 669 (fun c => decide (c = 149)) := by
  k_with_none
  (k_with "k_all" => assumption)
  (k_with "units_room" => ktr_units)
  (k_with "k_room" => ktr_room)
  (k_with "k_units" => ktr_units)
  (k_with "cell_enter" => (refine' code_def ?q4_k1 ?q4_k2 ?q4_k3 ?q4_k4 ?q4_k5 ?q4_kA ?q4_kF ?q4_kK ?q4_k6 ?q4_k7 ?q4_k8 ?q4_k9 ?q4_kB ?_ ?q4_c2 ?q4_c3 ?q4_c4 ?q4_c5; (case q4_kA => exact rfl); (case q4_kF => exact rfl); (case q4_kK => first | assumption | exact rfl); (case q4_k1 => k_asm); (case q4_k2 => k_asm); (case q4_k3 => k_asm); (case q4_k4 => k_asm); (case q4_k5 => k_asm); (case q4_k6 => k_is); (case q4_k7 => k_is); (case q4_k8 => ktr_room); (case q4_k9 => first | exact BindsTo.of_eq (binds := [(_, _)]) rfl | exact BindsTo.of_eq rfl | exact binds_K (by k_in) rfl (by k_is) rfl rfl rfl); (case q4_c5 => decide); (case q4_kB => exact locs rfl); (case q4_c2 => exact rfl); (case q4_c3 => exact rfl); (case q4_c4 => exact rfl); k_whole; intro zg9 zL9 zh9 zFG9 zF9 zN9 zB9 zX9 zT9; (try dsimp only); (try k_lift zB9); (try k_fold)))
  intro p loose mean mg mb dp un gd cn cs a ccd cl outer A₀ base h₀ L m s Q E nw v c B F X N T hk hc ho hd hu ret
  revert X; k_fill; intro X
  obtain ⟨o, d, x1, x2, x3, x4, x5, x6, y1, y2, y3, y4, y5, y6, t1, v2, v3, v4, v5, v6, rfl, h1, h2⟩ := ho
  rcases hc with rfl | rfl
  all_goals (
    refine wpAny_call ?_
    k_dflt cell_enter
    k_steps
    exact ret _ _ (by assumption) (by assumption))
/-! P2: is_jump, is_exit, is_local_call, is_wide -/
set_option maxHeartbeats 4000000 in
theorem is_jump_c (w : World) : PredC w 30 1000 683 (fun _ => false) := by
  k_with_none
  (k_with "k_all" => assumption)
  (k_with "units_room" => ktr_units)
  (k_with "k_room" => ktr_room)
  (k_with "k_units" => ktr_units)
  (k_with "cell_enter" => (refine' code_def ?q4_k1 ?q4_k2 ?q4_k3 ?q4_k4 ?q4_k5 ?q4_kA ?q4_kF ?q4_kK ?q4_k6 ?q4_k7 ?q4_k8 ?q4_k9 ?q4_kB ?_ ?q4_c2 ?q4_c3 ?q4_c4 ?q4_c5; (case q4_kA => exact rfl); (case q4_kF => exact rfl); (case q4_kK => first | assumption | exact rfl); (case q4_k1 => k_asm); (case q4_k2 => k_asm); (case q4_k3 => k_asm); (case q4_k4 => k_asm); (case q4_k5 => k_asm); (case q4_k6 => k_is); (case q4_k7 => k_is); (case q4_k8 => ktr_room); (case q4_k9 => first | exact BindsTo.of_eq (binds := [(_, _)]) rfl | exact BindsTo.of_eq rfl | exact binds_K (by k_in) rfl (by k_is) rfl rfl rfl); (case q4_c5 => decide); (case q4_kB => exact locs rfl); (case q4_c2 => exact rfl); (case q4_c3 => exact rfl); (case q4_c4 => exact rfl); k_whole; intro zg9 zL9 zh9 zFG9 zF9 zN9 zB9 zX9 zT9; (try dsimp only); (try k_lift zB9); (try k_fold)))
  (k_with "call ref" => (k_here; (with_reducible show wpAny _ _ (call (Value.ref _) [Value.ref _]) _ _ _); k_dflt ((first | with_unfolding_all refine' is_jumping_c _ ?q5_B ?q5_F ?q5_X ?q5_N ?q5_T ?q5_k ?q5_c ?q5_o ?q5_d ?q5_u ?_); (case q5_k => rfl); (case q5_F => k_asm); (case q5_N => k_asm); (case q5_B => k_asm); (case q5_X => k_asm); (case q5_T => k_asm); (case q5_c => assumption); (case q5_o => first | assumption | exact OrdIn.mono (by intro p hp; repeat (first | exact hp | refine List.Mem.tail _ ?_)) (by assumption)); (case q5_d => ktr_room); (case q5_u => ktr_units); k_whole); (intro zh9 ztk9 zF9 zN9; (try k_sweep))))
  intro p loose mean mg mb dp un gd cn cs a ccd cl outer A₀ base h₀ L m s Q E nw v c B F X N T hk hc ho hd hu ret
  revert X; k_fill; intro X
  have hO := ho
  obtain ⟨o, d, x1, x2, x3, x4, x5, x6, y1, y2, y3, y4, y5, y6, t1, v2, v3, v4, v5, v6, rfl, h1, h2⟩ := ho
  rcases hc with rfl | rfl
  all_goals (
    have hc : (183 : Int) = 183 ∨ (183 : Int) = 149 := .inl rfl
    have hc' : (149 : Int) = 183 ∨ (149 : Int) = 149 := .inr rfl
    refine wpAny_call ?_
    k_dflt cell_enter
    k_steps
    exact ret _ _ (by assumption) (by assumption))
set_option maxHeartbeats 4000000 in
theorem is_exit_c (w : World) : PredC w 20 500 704 (fun c => c == 149) := by
  k_with_none
  (k_with "k_all" => assumption)
  (k_with "units_room" => ktr_units)
  (k_with "k_room" => ktr_room)
  (k_with "k_units" => ktr_units)
  (k_with "cell_enter" => (refine' code_def ?q4_k1 ?q4_k2 ?q4_k3 ?q4_k4 ?q4_k5 ?q4_kA ?q4_kF ?q4_kK ?q4_k6 ?q4_k7 ?q4_k8 ?q4_k9 ?q4_kB ?_ ?q4_c2 ?q4_c3 ?q4_c4 ?q4_c5; (case q4_kA => exact rfl); (case q4_kF => exact rfl); (case q4_kK => first | assumption | exact rfl); (case q4_k1 => k_asm); (case q4_k2 => k_asm); (case q4_k3 => k_asm); (case q4_k4 => k_asm); (case q4_k5 => k_asm); (case q4_k6 => k_is); (case q4_k7 => k_is); (case q4_k8 => ktr_room); (case q4_k9 => first | exact BindsTo.of_eq (binds := [(_, _)]) rfl | exact BindsTo.of_eq rfl | exact binds_K (by k_in) rfl (by k_is) rfl rfl rfl); (case q4_c5 => decide); (case q4_kB => exact locs rfl); (case q4_c2 => exact rfl); (case q4_c3 => exact rfl); (case q4_c4 => exact rfl); k_whole; intro zg9 zL9 zh9 zFG9 zF9 zN9 zB9 zX9 zT9; (try dsimp only); (try k_lift zB9); (try k_fold)))
  (k_with "call ref" => (k_here; (with_reducible show wpAny _ _ (call (Value.ref _) [Value.ref _]) _ _ _); k_dflt ((first | with_unfolding_all refine' is_jumping_c _ ?q5_B ?q5_F ?q5_X ?q5_N ?q5_T ?q5_k ?q5_c ?q5_o ?q5_d ?q5_u ?_); (case q5_k => rfl); (case q5_F => k_asm); (case q5_N => k_asm); (case q5_B => k_asm); (case q5_X => k_asm); (case q5_T => k_asm); (case q5_c => assumption); (case q5_o => first | assumption | exact OrdIn.mono (by intro p hp; repeat (first | exact hp | refine List.Mem.tail _ ?_)) (by assumption)); (case q5_d => ktr_room); (case q5_u => ktr_units); k_whole); (intro zh9 ztk9 zF9 zN9; (try k_sweep))))
  intro p loose mean mg mb dp un gd cn cs a ccd cl outer A₀ base h₀ L m s Q E nw v c B F X N T hk hc ho hd hu ret
  revert X; k_fill; intro X
  have hO := ho
  obtain ⟨o, d, x1, x2, x3, x4, x5, x6, y1, y2, y3, y4, y5, y6, t1, v2, v3, v4, v5, v6, rfl, h1, h2⟩ := ho
  refine wpAny_call ?_
  k_dflt cell_enter
  k_steps
  exact ret _ _ (by assumption) (by assumption)
set_option maxHeartbeats 4000000 in
theorem is_local_call_c (w : World) : PredC w 20 500 697 (fun _ => false) := by
  k_with_none
  (k_with "k_all" => assumption)
  (k_with "units_room" => ktr_units)
  (k_with "k_room" => ktr_room)
  (k_with "k_units" => ktr_units)
  (k_with "cell_enter" => (refine' code_def ?q4_k1 ?q4_k2 ?q4_k3 ?q4_k4 ?q4_k5 ?q4_kA ?q4_kF ?q4_kK ?q4_k6 ?q4_k7 ?q4_k8 ?q4_k9 ?q4_kB ?_ ?q4_c2 ?q4_c3 ?q4_c4 ?q4_c5; (case q4_kA => exact rfl); (case q4_kF => exact rfl); (case q4_kK => first | assumption | exact rfl); (case q4_k1 => k_asm); (case q4_k2 => k_asm); (case q4_k3 => k_asm); (case q4_k4 => k_asm); (case q4_k5 => k_asm); (case q4_k6 => k_is); (case q4_k7 => k_is); (case q4_k8 => ktr_room); (case q4_k9 => first | exact BindsTo.of_eq (binds := [(_, _)]) rfl | exact BindsTo.of_eq rfl | exact binds_K (by k_in) rfl (by k_is) rfl rfl rfl); (case q4_c5 => decide); (case q4_kB => exact locs rfl); (case q4_c2 => exact rfl); (case q4_c3 => exact rfl); (case q4_c4 => exact rfl); k_whole; intro zg9 zL9 zh9 zFG9 zF9 zN9 zB9 zX9 zT9; (try dsimp only); (try k_lift zB9); (try k_fold)))
  (k_with "call ref" => (k_here; (with_reducible show wpAny _ _ (call (Value.ref _) [Value.ref _]) _ _ _); k_dflt ((first | with_unfolding_all refine' is_jumping_c _ ?q5_B ?q5_F ?q5_X ?q5_N ?q5_T ?q5_k ?q5_c ?q5_o ?q5_d ?q5_u ?_); (case q5_k => rfl); (case q5_F => k_asm); (case q5_N => k_asm); (case q5_B => k_asm); (case q5_X => k_asm); (case q5_T => k_asm); (case q5_c => assumption); (case q5_o => first | assumption | exact OrdIn.mono (by intro p hp; repeat (first | exact hp | refine List.Mem.tail _ ?_)) (by assumption)); (case q5_d => ktr_room); (case q5_u => ktr_units); k_whole); (intro zh9 ztk9 zF9 zN9; (try k_sweep))))
  intro p loose mean mg mb dp un gd cn cs a ccd cl outer A₀ base h₀ L m s Q E nw v c B F X N T hk hc ho hd hu ret
  revert X; k_fill; intro X
  have hO := ho
  obtain ⟨o, d, x1, x2, x3, x4, x5, x6, y1, y2, y3, y4, y5, y6, t1, v2, v3, v4, v5, v6, rfl, h1, h2⟩ := ho
  rcases hc with rfl | rfl
  all_goals (
    have hc : (183 : Int) = 183 ∨ (183 : Int) = 149 := .inl rfl
    have hc' : (149 : Int) = 183 ∨ (149 : Int) = 149 := .inr rfl
    refine wpAny_call ?_
    k_dflt cell_enter
    k_steps
    exact ret _ _ (by assumption) (by assumption))
set_option maxHeartbeats 4000000 in
theorem is_wide_c (w : World) : PredC w 20 500 676 (fun _ => false) := by
  k_with_none
  (k_with "k_all" => assumption)
  (k_with "units_room" => ktr_units)
  (k_with "k_room" => ktr_room)
  (k_with "k_units" => ktr_units)
  (k_with "cell_enter" => (refine' code_def ?q4_k1 ?q4_k2 ?q4_k3 ?q4_k4 ?q4_k5 ?q4_kA ?q4_kF ?q4_kK ?q4_k6 ?q4_k7 ?q4_k8 ?q4_k9 ?q4_kB ?_ ?q4_c2 ?q4_c3 ?q4_c4 ?q4_c5; (case q4_kA => exact rfl); (case q4_kF => exact rfl); (case q4_kK => first | assumption | exact rfl); (case q4_k1 => k_asm); (case q4_k2 => k_asm); (case q4_k3 => k_asm); (case q4_k4 => k_asm); (case q4_k5 => k_asm); (case q4_k6 => k_is); (case q4_k7 => k_is); (case q4_k8 => ktr_room); (case q4_k9 => first | exact BindsTo.of_eq (binds := [(_, _)]) rfl | exact BindsTo.of_eq rfl | exact binds_K (by k_in) rfl (by k_is) rfl rfl rfl); (case q4_c5 => decide); (case q4_kB => exact locs rfl); (case q4_c2 => exact rfl); (case q4_c3 => exact rfl); (case q4_c4 => exact rfl); k_whole; intro zg9 zL9 zh9 zFG9 zF9 zN9 zB9 zX9 zT9; (try dsimp only); (try k_lift zB9); (try k_fold)))
  (k_with "call ref" => (k_here; (with_reducible show wpAny _ _ (call (Value.ref _) [Value.ref _]) _ _ _); k_dflt ((first | with_unfolding_all refine' is_jumping_c _ ?q5_B ?q5_F ?q5_X ?q5_N ?q5_T ?q5_k ?q5_c ?q5_o ?q5_d ?q5_u ?_); (case q5_k => rfl); (case q5_F => k_asm); (case q5_N => k_asm); (case q5_B => k_asm); (case q5_X => k_asm); (case q5_T => k_asm); (case q5_c => assumption); (case q5_o => first | assumption | exact OrdIn.mono (by intro p hp; repeat (first | exact hp | refine List.Mem.tail _ ?_)) (by assumption)); (case q5_d => ktr_room); (case q5_u => ktr_units); k_whole); (intro zh9 ztk9 zF9 zN9; (try k_sweep))))
  intro p loose mean mg mb dp un gd cn cs a ccd cl outer A₀ base h₀ L m s Q E nw v c B F X N T hk hc ho hd hu ret
  revert X; k_fill; intro X
  have hO := ho
  obtain ⟨o, d, x1, x2, x3, x4, x5, x6, y1, y2, y3, y4, y5, y6, t1, v2, v3, v4, v5, v6, rfl, h1, h2⟩ := ho
  rcases hc with rfl | rfl
  all_goals (
    have hc : (183 : Int) = 183 ∨ (183 : Int) = 149 := .inl rfl
    have hc' : (149 : Int) = 183 ∨ (149 : Int) = 149 := .inr rfl
    refine wpAny_call ?_
    k_dflt cell_enter
    k_steps
    exact ret _ _ (by assumption) (by assumption))
/-! P3: is_branch -/
set_option maxHeartbeats 4000000 in
theorem is_branch_c (w : World) : PredC w 40 1500 711 (fun _ => false) := by
  k_with_none
  (k_with "k_all" => assumption)
  (k_with "units_room" => ktr_units)
  (k_with "k_room" => ktr_room)
  (k_with "k_units" => ktr_units)
  (k_with "cell_enter" => (refine' code_def ?q4_k1 ?q4_k2 ?q4_k3 ?q4_k4 ?q4_k5 ?q4_kA ?q4_kF ?q4_kK ?q4_k6 ?q4_k7 ?q4_k8 ?q4_k9 ?q4_kB ?_ ?q4_c2 ?q4_c3 ?q4_c4 ?q4_c5; (case q4_kA => exact rfl); (case q4_kF => exact rfl); (case q4_kK => first | assumption | exact rfl); (case q4_k1 => k_asm); (case q4_k2 => k_asm); (case q4_k3 => k_asm); (case q4_k4 => k_asm); (case q4_k5 => k_asm); (case q4_k6 => k_is); (case q4_k7 => k_is); (case q4_k8 => ktr_room); (case q4_k9 => first | exact BindsTo.of_eq (binds := [(_, _)]) rfl | exact BindsTo.of_eq rfl | exact binds_K (by k_in) rfl (by k_is) rfl rfl rfl); (case q4_c5 => decide); (case q4_kB => exact locs rfl); (case q4_c2 => exact rfl); (case q4_c3 => exact rfl); (case q4_c4 => exact rfl); k_whole; intro zg9 zL9 zh9 zFG9 zF9 zN9 zB9 zX9 zT9; (try dsimp only); (try k_lift zB9); (try k_fold)))
  (k_with "call ref" => (k_here; (with_reducible show wpAny _ _ (call (Value.ref _) [Value.ref _]) _ _ _); k_dflt ((first | with_unfolding_all refine' is_jumping_c _ ?q5_B ?q5_F ?q5_X ?q5_N ?q5_T ?q5_k ?q5_c ?q5_o ?q5_d ?q5_u ?_ | with_unfolding_all refine' is_jump_c _ ?q5_B ?q5_F ?q5_X ?q5_N ?q5_T ?q5_k ?q5_c ?q5_o ?q5_d ?q5_u ?_ | with_unfolding_all refine' is_local_call_c _ ?q5_B ?q5_F ?q5_X ?q5_N ?q5_T ?q5_k ?q5_c ?q5_o ?q5_d ?q5_u ?_ | with_unfolding_all refine' is_exit_c _ ?q5_B ?q5_F ?q5_X ?q5_N ?q5_T ?q5_k ?q5_c ?q5_o ?q5_d ?q5_u ?_); (case q5_k => rfl); (case q5_F => k_asm); (case q5_N => k_asm); (case q5_B => k_asm); (case q5_X => k_asm); (case q5_T => k_asm); (case q5_c => assumption); (case q5_o => first | assumption | exact OrdIn.mono (by intro p hp; repeat (first | exact hp | refine List.Mem.tail _ ?_)) (by assumption)); (case q5_d => ktr_room); (case q5_u => ktr_units); k_whole); (intro zh9 ztk9 zF9 zN9; (try k_sweep))))
  intro p loose mean mg mb dp un gd cn cs a ccd cl outer A₀ base h₀ L m s Q E nw v c B F X N T hk hc ho hd hu ret
  revert X; k_fill; intro X
  have hO := ho
  obtain ⟨o, d, x1, x2, x3, x4, x5, x6, y1, y2, y3, y4, y5, y6, t1, v2, v3, v4, v5, v6, rfl, h1, h2⟩ := ho
  rcases hc with rfl | rfl
  all_goals (
    have hc : (183 : Int) = 183 ∨ (183 : Int) = 149 := .inl rfl
    have hc' : (149 : Int) = 183 ∨ (149 : Int) = 149 := .inr rfl
    refine wpAny_call ?_
    k_dflt cell_enter
    k_steps
    exact ret _ _ (by assumption) (by assumption))
/-! P4: has_goal -/
set_option maxHeartbeats 4000000 in
theorem has_goal_c (w : World) : PredC w 50 2000 815 (fun _ => false) := by
  k_with_none
  (k_with "k_all" => assumption)
  (k_with "units_room" => ktr_units)
  (k_with "k_room" => ktr_room)
  (k_with "k_units" => ktr_units)
  (k_with "cell_enter" => (refine' code_def ?q4_k1 ?q4_k2 ?q4_k3 ?q4_k4 ?q4_k5 ?q4_kA ?q4_kF ?q4_kK ?q4_k6 ?q4_k7 ?q4_k8 ?q4_k9 ?q4_kB ?_ ?q4_c2 ?q4_c3 ?q4_c4 ?q4_c5; (case q4_kA => exact rfl); (case q4_kF => exact rfl); (case q4_kK => first | assumption | exact rfl); (case q4_k1 => k_asm); (case q4_k2 => k_asm); (case q4_k3 => k_asm); (case q4_k4 => k_asm); (case q4_k5 => k_asm); (case q4_k6 => k_is); (case q4_k7 => k_is); (case q4_k8 => ktr_room); (case q4_k9 => first | exact BindsTo.of_eq (binds := [(_, _)]) rfl | exact BindsTo.of_eq rfl | exact binds_K (by k_in) rfl (by k_is) rfl rfl rfl); (case q4_c5 => decide); (case q4_kB => exact locs rfl); (case q4_c2 => exact rfl); (case q4_c3 => exact rfl); (case q4_c4 => exact rfl); k_whole; intro zg9 zL9 zh9 zFG9 zF9 zN9 zB9 zX9 zT9; (try dsimp only); (try k_lift zB9); (try k_fold)))
  (k_with "call ref" => (k_here; (with_reducible show wpAny _ _ (call (Value.ref _) [Value.ref _]) _ _ _); k_dflt ((first | with_unfolding_all refine' is_jump_c _ ?q5_B ?q5_F ?q5_X ?q5_N ?q5_T ?q5_k ?q5_c ?q5_o ?q5_d ?q5_u ?_ | with_unfolding_all refine' is_local_call_c _ ?q5_B ?q5_F ?q5_X ?q5_N ?q5_T ?q5_k ?q5_c ?q5_o ?q5_d ?q5_u ?_ | with_unfolding_all refine' is_branch_c _ ?q5_B ?q5_F ?q5_X ?q5_N ?q5_T ?q5_k ?q5_c ?q5_o ?q5_d ?q5_u ?_); (case q5_k => rfl); (case q5_F => k_asm); (case q5_N => k_asm); (case q5_B => k_asm); (case q5_X => k_asm); (case q5_T => k_asm); (case q5_c => assumption); (case q5_o => first | assumption | exact OrdIn.mono (by intro p hp; repeat (first | exact hp | refine List.Mem.tail _ ?_)) (by assumption)); (case q5_d => ktr_room); (case q5_u => ktr_units); k_whole); (intro zh9 ztk9 zF9 zN9; (try k_sweep))))
  intro p loose mean mg mb dp un gd cn cs a ccd cl outer A₀ base h₀ L m s Q E nw v c B F X N T hk hc ho hd hu ret
  revert X; k_fill; intro X
  have hO := ho
  obtain ⟨o, d, x1, x2, x3, x4, x5, x6, y1, y2, y3, y4, y5, y6, t1, v2, v3, v4, v5, v6, rfl, h1, h2⟩ := ho
  refine wpAny_call ?_
  k_dflt cell_enter
  k_steps
  exact ret _ _ (by assumption) (by assumption)
/-! X1: an own exception class is called: BaseException.__new__, then the class's own __init__ -/
abbrev excObj (C t : Addr) : Obj := { cls := .ref C, data := .fields #[.ref t, .none, .none, .none, .bool false, .none] }
abbrev tupObj (vs : List Value) : Obj := { cls := .type "tuple", data := .seq vs.toArray }

structure ExcCls (M : Model) (h : Heap) (C : Addr) : Prop where
  obj : ∃ oc od cd sl, h.get? C = some ⟨oc, od, .cls cd, sl⟩ ∧ cd.hasDel = false ∧ cd.mro.isEmpty = false
  made : Looks M h (Bind.madeBy (.ref C)) (some "Exception.__new__")
  base : Looks M h (Bind.staticBase (.ref C)) (.ref C)
  self : Looks M h (isSubtype (.ref C) (.ref C)) true
  exc : Looks M h (isSubtype (.ref C) (.type "Exception")) true
  noA : Looks M h (isSubtype (.ref C) (.type "AttributeError")) false
  noN : Looks M h (isSubtype (.ref C) (.type "NameError")) false
  call : Looks M h (specialOf (.ref C) "__call__") (some (.builtin "type.__call__"))
  typ : Looks M h (isInstance (.ref C) (.type "type")) true

theorem excCls_of {K : Frag} {M : Model} {h : Heap} (X : K.In h) {C : Addr} {oc : Value} {od : Option Addr} {cd : ClassData} {sl : Array (Option Value)} {c0 : Value} {bm : List Value}
    (ho : K.lookup C = some ⟨oc, od, .cls cd, sl⟩) (e1 : cd.hasDel = false) (e2 : cd.mro = c0 :: bm) (e3 : (sl.toList[4]?).join = some (.builtin "Exception.__new__"))
    (s1 : mroIn K C (.ref C) = some true) (s2 : mroIn K C (.type "Exception") = some true) (s3 : mroIn K C (.type "AttributeError") = some false) (s4 : mroIn K C (.type "NameError") = some false)
    (s5 : specialIn K (.ref C) "__call__" = some (some (.builtin "type.__call__"))) (s6 : instIn K (.ref C) (.type "type") = some true) : ExcCls M h C := by
  have hc : clsIn K C = some cd := by unfold clsIn; rw [ho]
  have hm : Looks M h (mroOf (.ref C)) cd.mro := (looks_clsIn X hc).andThen .now
  have made : Looks M h (Bind.madeBy (.ref C)) (some "Exception.__new__") := by
    intro A Q E s k q
    unfold Bind.madeBy
    refine wpAny_bind (hm A _ E s k ?_)
    rw [e2, List.forIn_cons]
    refine wpAny_bind (wpAny_bind (wpAny_bind (wpAny_bind (wpAny_loadPart (k _ _ (X _ _ ho)) (wpAny_pure ?_)))))
    dsimp only
    rw [← Array.getElem?_toList, e3]
    exact wpAny_pure (wpAny_pure (wpAny_pure q))
  refine ⟨⟨oc, od, cd, sl, X _ _ ho, e1, by rw [e2]; rfl⟩, made, ?_, looks_mroIn X s1, looks_mroIn X s2, looks_mroIn X s3, looks_mroIn X s4, looks_specialIn X s5, looks_instIn X s6⟩
  intro A Q E s k q
  unfold Bind.staticBase
  refine wpAny_bind (hm A _ E s k ?_)
  rw [e2, List.forIn_cons]
  exact wpAny_bind (wpAny_bind (wpAny_bind (made A _ E s k (wpAny_pure (wpAny_pure (wpAny_pure q))))))

section
variable {prog : Program} {w : World} {A : Around} {C : Addr} {R : Result → Shared → Prop} {h : Heap} {g : Array GenState} {d : Drawn} {t : Nat} {os : OsState}
theorem exc_new {rest : List Value} (Y : ExcCls (model prog w) h C) (hz : rest.length ≤ sizeLine)
    (hq : R (.ok (.ret (.ref (h.objs.size + 1)))) ⟨(h.push (tupObj rest)).push (excObj C h.objs.size), g, d, t, os⟩) :
    codeAny (model prog w) A (.call (.builtin "Exception.__new__") ⟨.ref C :: rest, []⟩) R ⟨h, g, d, t, os⟩ := by
  obtain ⟨⟨oc, od, cd, sl, hC, e1, e4⟩, made, base, self, exc, noA, noN, call, typ⟩ := Y
  have F := PySem.F.excBase_Exception
  refine codeAny_call_builtin_code (Code.quiet_builtin _ F.quiet) ?_
  have hstar := F.noStar
  simp only [checkBuiltinCall, F.newKind, F.newSplit, F.newRow]
  repeat (first | simp only [bne_self_eq_false, Bool.false_eq_true, if_false] | lk)
  have hends := F.ends
  refine PySem.codeAny_builtinAt F.entry ?_
  unfold Builtin.«BaseException.__new__»
  refine PySem.wpAt_bind ?_
  show PySem.wpAt _ _ _ (stack >>= _) _ _ _
  refine PySem.wpAt_bind (PySem.wpAt_stack fun p below => PySem.wpAt_of_wpAny ?_)
  wp_walk
  refine PySem.wpAt_of_wpAny ?_
  rw [F.owner]
  have here : Looks (model prog w) h (Bind.madeHere "BaseException.__new__" (.ref C)) () := base.andThen (made.andThen (Looks.of_pure (by simp only [Option.map_some, F.canon, bne_self_eq_false, Bool.false_eq_true, if_false])))
  repeat (first | simp only [bne_self_eq_false, Bool.false_eq_true, if_false] | lk)
  rw [if_neg (by rw [List.size_toArray]; exact Nat.not_lt.mpr hz)]
  unfold newObjAsIs
  refine wpAny_bind (wpAny_alloc ?_)
  have hC' := Heap.get?_push_of_some (excObj C h.objs.size) (Heap.get?_push_of_some (tupObj rest) hC)
  repeat (first | simp only [bne_self_eq_false, Bool.false_eq_true, if_false] | lk)
  rw [e1]
  simp only [Bool.false_eq_true, if_false]
  refine wpAny_pure ?_
  refine wpAny_pure ?_
  show R _ _
  rw [Heap.size_push]
  exact hq

theorem exc_make {rest : List Value} {fI : Addr} (Y : ExcCls (model prog w) h C) (hz : rest.length ≤ sizeLine) (hi : Looks (model prog w) h (typeLookup (.ref C) "__init__") (some (.ref fI)))
    (hb : ∀ self, Looks (model prog w) h (bindSpecial (.ref fI) self) (.ref fI, [self]))
    (hq : codeAny (model prog w) (A.under (.builtin "type.__call__" ⟨.ref C :: rest, []⟩)) (.call (.ref fI) ⟨.ref (h.objs.size + 1) :: rest, []⟩) (InitBack (h.objs.size + 1) R) ⟨(h.push (tupObj rest)).push (excObj C h.objs.size), g, d, t, os⟩) :
    codeAny (model prog w) A (.call (.ref C) ⟨rest, []⟩) R ⟨h, g, d, t, os⟩ := by
  have Y' := Y
  obtain ⟨⟨oc, od, cd, sl, hC, e1, e4⟩, made, base, self, exc, noA, noN, call, typ⟩ := Y
  refine codeAny_of_tree ?_
  show wpAny _ _ (callAny (.ref C) _) _ _ _
  refine nd_load hC ?_
  show wpAny _ _ (callAny.viaDunder (.ref C) _) _ _ _
  unfold callAny.viaDunder
  refine wpAny_bind (call.at ?_)
  dsimp only
  rw [tc_bind]
  refine wpAny_bind (wpAny_pure (wpAny_bind (wpAny_pure ?_)))
  refine wpAny_pure (a := Fin.again (.call (.builtin "type.__call__") ⟨.ref C :: rest, []⟩)) (And.intro rfl ?_)
  refine codeAny_call_builtin_at (Code.quiet_builtin _ (by decide +kernel)) entry_typeCall (check_slot tc_kind tc_split typ (tc_args _ _ _) ?_)
  unfold Builtin.«type.__call__»
  have hm : Looks (model prog w) h (mroOf (.ref C)) cd.mro := ((Looks.ld (part := none) hC).andThen .now).andThen .now
  repeat (first | simp only [e4, Bool.false_eq_true, if_false] | with_reducible refine wpAny_call ?_ | lk)
  refine exc_new Y' hz ?_
  have k : ∀ b o, h.get? b = some o → ((h.push (tupObj rest)).push (excObj C h.objs.size)).get? b = some o := fun b o e => Heap.get?_push_of_some _ (Heap.get?_push_of_some _ e)
  have hx : ((h.push (tupObj rest)).push (excObj C h.objs.size)).get? (h.objs.size + 1) = some (excObj C h.objs.size) := by heap_get
  have t1 : Looks (model prog w) ((h.push (tupObj rest)).push (excObj C h.objs.size)) (typeOf (.ref (h.objs.size + 1))) (.ref C) := (Looks.ld hx).andThen .now
  have s1 := self.keeps k
  have i1 := hi.keeps k
  have b1 := (hb (.ref (h.objs.size + 1))).keeps k
  unfold isInstance callSpecial? specialOf
  repeat (first | with_reducible refine wpAny_call ?_ | lk)
  refine codeAny_mono hq fun r s' z => ?_
  rcases r with e | (v | _ | _ | _) <;> first | exact z | exact z.elim | skip
  obtain ⟨rfl, z⟩ := z
  exact wpAny_pure (wpAny_pure z)
end
section
variable {prog : Program} {w : World} {A : Around} {K : Frag} {C : Addr} {s : Shared} {h₀ : Heap} {L : Addr} {m : Str → Option Value} {news : List (Addr × Obj)} {R : Result → Shared → Prop}
theorem exc_call {rest : List Value} {fI : Addr} (F : Fr h₀ L s.heap m) (N : News h₀ L s.heap news) (X : K.In s.heap) (Y : ExcCls (model prog w) s.heap C) (hz : rest.length ≤ sizeLine)
    (hi : findIn K (.ref C) "__init__" = some (some (.ref fI))) (hf : typeIn K (.ref fI) = some (.type "function"))
    (h : ∀ e t h', Fr h₀ L h' m → News h₀ L h' ((e, excObj C t) :: (t, tupObj rest) :: news) → (∀ p ∈ news, p.1 < t) → t < e →
      codeAny (model prog w) (A.under (.builtin "type.__call__" ⟨.ref C :: rest, []⟩)) (.call (.ref fI) ⟨.ref e :: rest, []⟩) (InitBack e R) { s with heap := h' }) :
    codeAny (model prog w) A (.call (.ref C) ⟨rest, []⟩) R s := by
  obtain ⟨hh, g, d, t, os⟩ := s
  refine exc_make Y hz (looks_findIn X hi) (fun self => bind_fn X self hf) (h _ hh.objs.size _ ((F.push _).push _) ?_ (fun p hp => Heap.lt_size (N p hp).1) (Nat.lt_succ_self _))
  have := (N.push F (tupObj rest)).push (F.push _) (excObj C hh.objs.size)
  rwa [Heap.size_push] at this
end
/-! X3: the steps of the class's own __init__ -/
theorem meta_exception : typeOf (.type "Exception") = pure (.type "type") := by kernel_rfl
theorem exc_stub : Manifest.isStub "Exception" = false := by decide +kernel
abbrev excAt (C : Addr) (dct : Option Addr) (a0 : Value) (sl : Array (Option Value)) : Obj := ⟨.ref C, dct, .fields #[a0, .none, .none, .none, .bool false, .none], sl⟩
section
variable {prog : Program} {w : World} {A : Around} {E : Value → Shared → Prop} {K : Frag} {C e : Addr} {s : Shared} {h₀ : Heap} {L : Addr} {m : Str → Option Value} {news : List (Addr × Obj)} {Q : Value → Shared → Prop}
theorem exc_init {v : Value} {t0 : Addr} {dct : Option Addr} {sl : Array (Option Value)} {pre post : List (Addr × Obj)} (F : Fr h₀ L s.heap m) (X : K.In h₀)
    (N : News h₀ L s.heap (pre ++ (e, excAt C dct (.ref t0) sl) :: post)) (h1 : ∀ p ∈ pre, p.1 ≠ e) (h2 : ∀ p ∈ post, p.1 ≠ e)
    (hs : subIn K (.ref C) (.type "Exception") = some true) {oc : Value} {od : Option Addr} {cd : ClassData} {sc : Array (Option Value)} (ho : K.lookup C = some ⟨oc, od, .cls cd, sc⟩)
    (h : ∀ t h', Fr h₀ L h' m → News h₀ L h' ((t, tupObj [v]) :: (pre ++ (e, excAt C dct (.ref t) sl) :: post)) → (∀ p ∈ pre ++ (e, excAt C dct (.ref t0) sl) :: post, p.1 < t) → Q .none { s with heap := h' }) :
    wpAny (model prog w) A (call (.builtin "Exception.__init__") [.ref e, v]) Q E s := by
  have FX := PySem.F.excBase_Exception
  have he : s.heap.get? e = some (excAt C dct (.ref t0) sl) := (N (e, excAt C dct (.ref t0) sl) (List.mem_append.mpr (.inr (.head _)))).1
  have hi : Looks (model prog w) s.heap (isInstance (.ref e) (.type "Exception")) true := ((Looks.ld he).andThen .now).andThen (looks_subIn (X.keeps F.keep) hs)
  have hstar := FX.noStar
  have he' : (s.heap.push (tupObj [v])).get? e = some (excAt C dct (.ref t0) sl) := Heap.get?_push_of_some _ he
  have hC : s.heap.get? C = some ⟨oc, od, .cls cd, sc⟩ := X.keeps F.keep _ _ ho
  refine wpAny_call (codeAny_call_builtin FX.init.plain FX.initEntry ?_)
  simp only [checkBuiltinCall, FX.initKind, FX.initSplit, FX.initRow]
  repeat (first | simp only [Bool.false_eq_true, Bool.not_true, if_false] | lk)
  refine wpAny_update (a := e) he' ?_
  show wpAny _ _ (letGo [Value.ref t0]) _ _ _
  refine wpAny_letGo ?_
  refine wpAny_pure ?_
  have hne : s.heap.objs.size ≠ e := Nat.ne_of_gt (Heap.lt_size he)
  have N₁ := N.push F (tupObj [v])
  obtain ⟨F₂, N₂⟩ := news_upd (pre := (s.heap.objs.size, tupObj [v]) :: pre) (post := post) (o := excAt C dct (.ref t0) sl) (o' := excAt C dct (.ref s.heap.objs.size) sl) (f := Obj.mapFields fun x => x.setIfInBounds 0 (Value.ref s.heap.objs.size)) (F.push (tupObj [v])) N₁
    (fun p hp => by
      rcases List.mem_cons.mp hp with rfl | hp
      · exact hne
      · exact h1 p hp) h2 rfl rfl
  exact h _ _ F₂ N₂ fun p hp => Heap.lt_size (N p hp).1
end
theorem exc_refuse (self : Value) : refuseLoop self "__setattr__" [.ref 83, .ref 46, .type "Exception", .type "BaseException", .type "object"] = pure () := by
  rw [refuseLoop_ref, refuseLoop_ref]; kernel_rfl
section
variable {prog : Program} {w : World} {A : Around} {E : Value → Shared → Prop} {K : Frag} {x : Addr} {s : Shared} {h₀ : Heap} {L : Addr} {m : Str → Option Value} {R : Result → Shared → Prop}
theorem osa_exc {ox : Obj} {od : Option Obj} {name : Str} {tk : Tok} {v : Value} {cd : ClassData} (X : K.In s.heap) (I : InstAt s.heap x ox 83 od) (hc : clsIn K 83 = some cd) (hm : cd.mro = [.ref 83, .ref 46, .type "Exception", .type "BaseException", .type "object"]) (ht : takerIn K 83 name = some none)
    (h : ∀ b, wpAny (model prog w) A.in1 (PySem.Builtin.ObjectAttr.storeInOwnDict (.ref x) (.ref 83) (.str name tk) name v b)
      (fun fin s' => match fin with | .done f => R (.ok f) s' | .again c' => c'.quiet = true ∧ codeAny (model prog w) A c' R s') (fun e s' => R (.error e) s') s) :
    codeAny (model prog w) A (.call (.builtin "object.__setattr__") ⟨[.ref x, .str name tk, v], []⟩) R s := by
  have SF := PySem.F.store_object
  have sub : Looks (model prog w) s.heap (isInstance (.ref x) (.type "object")) true := I.type.andThen (looks_mroIn X (by unfold mroIn; rw [hc, Option.bind_some, hm]; rfl))
  refine codeAny_call_builtin SF.slot.plain SF.entry (@check_slot (model prog w) _ _ s "object.__setattr__" "object" "__setattr__" (.ref x) [.str name tk, v] [] _ SF.kind SF.split sub (SF.args (.ref x) (.str name tk) v) ?_)
  obtain ⟨attr, ha, hr⟩ := Option.bind_eq_some_iff.mp ht
  have hml : Looks (model prog w) s.heap (mroOf (.ref 83)) cd.mro := (looks_clsIn X hc).andThen .now
  have L3 : Looks (model prog w) s.heap (PySem.Builtin.ObjectAttr.storeTaker? attr) none := by
    cases attr with
    | none => exact .now
    | some a =>
      obtain ⟨b, hb, hr⟩ := Option.map_eq_some_iff.mp hr
      refine (looks_takesIn X hb).andThen ?_
      cases b <;> first | exact .now | cases hr
  rw [osa_eq, refuse_eq]
  refine wpAny_bind (wpAny_bind (I.type.here (wpAny_bind (hml.here ?_))))
  rw [hm, exc_refuse]
  refine wpAny_pure (wpAny_bind (I.type.here (wpAny_bind ((looks_findIn X ha).here (wpAny_bind (L3.here ?_))))))
  exact h _
end
section
variable {prog : Program} {w : World} {A : Around} {E : Value → Shared → Prop} {K : Frag} {x : Addr} {s : Shared} {h₀ : Heap} {L : Addr} {m : Str → Option Value} {Q : PySem.Fin → Shared → Prop}
theorem sid_new {a0 : Value} {sl : Array (Option Value)} {pre post : List (Addr × Obj)} {name : Str} {tk : Tok} {v : Value} {cd : ClassData} {b : Bool} (F : Fr h₀ L s.heap m) (X : K.In h₀) (N : News h₀ L s.heap (pre ++ (x, excAt 83 none a0 sl) :: post))
    (h1 : ∀ p ∈ pre, p.1 ≠ x) (h2 : ∀ p ∈ post, p.1 ≠ x) (hc : clsIn K 83 = some cd) (hh : cd.hasDict = true)
    (h : ∀ d h', Fr h₀ L h' m → News h₀ L h' ((d, dictOf [⟨PyData.keyHash w.params name, .str name s.toks, v⟩] 1) :: (pre ++ (x, excAt 83 (some d) a0 sl) :: post)) → (∀ p ∈ pre ++ (x, excAt 83 none a0 sl) :: post, p.1 < d) → Q (.done (.ret .none)) { s with heap := h', toks := s.toks + 1 }) :
    wpAny (model prog w) A (PySem.Builtin.ObjectAttr.storeInOwnDict (.ref x) (.ref 83) (.str name tk) name v b) Q E s := by
  have hx : s.heap.get? x = some (excAt 83 none a0 sl) := (N (x, excAt 83 none a0 sl) (List.mem_append.mpr (.inr (.head _)))).1
  have hcl := looks_clsIn (M := model prog w) (X.keeps F.keep) hc
  unfold PySem.Builtin.ObjectAttr.storeInOwnDict PySem.Builtin.ObjectAttr.ownDictForStores instanceDict
  repeat (first | simp only [hh, Bool.not_true, Bool.false_eq_true, if_false] | lk)
  have hx' := Heap.get?_push_of_some emptyDict hx
  have hne : s.heap.objs.size ≠ x := Nat.ne_of_gt (Heap.lt_size hx)
  refine wpAny_update (a := x) (by exact hx') ?_
  obtain ⟨F₂, N₂⟩ := news_upd (pre := (s.heap.objs.size, emptyDict) :: pre) (post := post) (o := excAt 83 none a0 sl) (o' := excAt 83 (some s.heap.objs.size) a0 sl) (f := fun o => { cls := o.cls, dict := some s.heap.objs.size, data := o.data, slots := o.slots }) (F.push emptyDict) (N.push F emptyDict)
    (fun p hp => by
      rcases List.mem_cons.mp hp with rfl | hp
      · exact hne
      · exact h1 p hp) h2 rfl rfl
  have D := (N₂ (s.heap.objs.size, emptyDict) (.head _)).1
  obtain ⟨F₃, N₃⟩ := news_upd (pre := []) (post := pre ++ (x, excAt 83 (some s.heap.objs.size) a0 sl) :: post) (d := s.heap.objs.size) (o := emptyDict) (o' := dictOf [⟨PyData.keyHash w.params name, .str name s.toks, v⟩] 1) (f := Obj.putName name (PyData.keyHash w.params name) (.str name s.toks) v) F₂ N₂
    (fun p hp => nomatch hp) (fun p hp => by
      rcases List.mem_append.mp hp with hp | hp
      · exact Nat.ne_of_lt (Heap.lt_size (N p (List.mem_append_left _ hp)).1)
      · rcases List.mem_cons.mp hp with rfl | hp
        · exact hne.symm
        · exact Nat.ne_of_lt (Heap.lt_size (N p (List.mem_append_right _ (.tail _ hp))).1)) (by exact putName_dict _ _ _ _ [] 0) rfl
  have D' := (N₃ (s.heap.objs.size, dictOf [⟨PyData.keyHash w.params name, .str name s.toks, v⟩] 1) (.head _)).1
  refine wpAny_pure (a := some s.heap.objs.size) ?_
  unfold PySem.Builtin.ObjectAttr.storeInDict
  refine wpAny_bind (wpAny_pure (wpAny_bind ?_))
  unfold nsSet
  refine wpAny_bind (wpAny_bind (wpAny_askSetting (wpAny_pure (wpAny_bind (wpAny_mkText (wpAny_bind (wpAny_loadPart (by exact D) ?_)))))))
  dsimp only
  rw [aRefKeyMayBeTheName_at, if_neg (by simp)]
  refine wpAny_updatePart (by exact D) ?_
  refine wpAny_bind (wpAny_lookBehind (by exact D') (by exact pastItsLine_dict (show 1 ≤ sizeLine + 1 by decide)) ?_)
  exact wpAny_pure (h _ _ F₃ N₃ fun p hp => Heap.lt_size (N p hp).1)

theorem sid_old {ox : Obj} {dx : Addr} {pre post : List (Addr × Obj)} {es es' : List DictEntry} {n n' : Nat} {name : Str} {tk : Tok} {v : Value} {cd : ClassData} {b : Bool} (F : Fr h₀ L s.heap m) (X : K.In h₀) (N : News h₀ L s.heap (pre ++ (dx, dictOf es n) :: post))
    (hx : s.heap.get? x = some ox) (hox : ox.cls = .ref 83) (hdx : ox.dict = some dx) (h1 : ∀ p ∈ pre, p.1 ≠ dx) (h2 : ∀ p ∈ post, p.1 ≠ dx) (hc : clsIn K 83 = some cd) (hh : cd.hasDict = true) (hr : es.any (·.refKey) = false)
    (e : (putL name (PyData.keyHash w.params name) (.str name s.toks) v es, putN name es n) = (es', n')) (hz : es'.length ≤ 1000)
    (h : ∀ h', Fr h₀ L h' m → News h₀ L h' (pre ++ (dx, dictOf es' n') :: post) → Q (.done (.ret .none)) { s with heap := h', toks := s.toks + 1 }) :
    wpAny (model prog w) A (PySem.Builtin.ObjectAttr.storeInOwnDict (.ref x) (.ref 83) (.str name tk) name v b) Q E s := by
  obtain ⟨e1, e2⟩ := Prod.mk.inj e
  obtain ⟨oc, odi, oda, osl⟩ := ox
  dsimp only at hox hdx
  subst hox hdx
  have hcl := looks_clsIn (M := model prog w) (X.keeps F.keep) hc
  have D := (N (dx, dictOf es n) (List.mem_append.mpr (.inr (.head _)))).1
  obtain ⟨F₃, N₃⟩ := news_upd (o' := dictOf es' n') (f := Obj.putName name (PyData.keyHash w.params name) (.str name s.toks) v) F N h1 h2 (by rw [putName_dict, e1, e2]) rfl
  have D' := (N₃ (dx, dictOf es' n') (List.mem_append.mpr (.inr (.head _)))).1
  unfold PySem.Builtin.ObjectAttr.storeInOwnDict PySem.Builtin.ObjectAttr.ownDictForStores instanceDict
  repeat (first | simp only [hh, Bool.not_true, Bool.false_eq_true, if_false] | lk)
  rw [aRefKeyMayBeTheName_at, if_neg (by simp only [List.any_toArray, hr, Bool.and_false]; decide)]
  refine wpAny_updatePart (by exact D) ?_
  refine wpAny_bind (wpAny_lookBehind (by exact D') (by exact pastItsLine_dict (by rw [List.size_toArray, sizeLine_eq]; omega)) ?_)
  exact wpAny_pure (h _ F₃ N₃)
end
/-! X6: a field is stored in an own exception; the exception is raised -/
section
variable {prog : Program} {w : World} {A : Around} {E : Value → Shared → Prop} {K : Frag} {x : Addr} {s : Shared} {h₀ : Heap} {L : Addr} {m : Str → Option Value} {Q : Unit → Shared → Prop} {news rest : List (Addr × Obj)}
theorem setx_new {a0 : Value} {sl : Array (Option Value)} {name : Str} {v : Value} {cd : ClassData} (F : Fr h₀ L s.heap m) (X : K.In h₀) (N : News h₀ L s.heap news) (hR : Rem (x, excAt 83 none a0 sl) news rest) (hne : AllNe x rest)
    (hs : findIn K (.ref 83) "__setattr__" = some (some (.builtin "object.__setattr__"))) (ht : takerIn K 83 name = some none) (hc : clsIn K 83 = some cd) (hm : cd.mro = [.ref 83, .ref 46, .type "Exception", .type "BaseException", .type "object"]) (hh : cd.hasDict = true)
    (h : ∀ d h', Fr h₀ L h' m → News h₀ L h' ((d, dictOf [⟨PyData.keyHash w.params name, .str name (s.toks + 1), v⟩] 1) :: (x, excAt 83 (some d) a0 sl) :: rest) → (∀ p ∈ news, p.1 < d) → Q () { s with heap := h', toks := s.toks + 2 }) :
    wpAny (model prog w) A (setAttr (.ref x) name v) Q E s := by
  have I : InstAt s.heap x (excAt 83 none a0 sl) 83 none := ⟨(N _ hR.mem).1, rfl, rfl, trivial⟩
  refine set_plain (X.keeps F.keep) I hs (osa_exc (s := { s with toks := s.toks + 1 }) (X.keeps F.keep) I hc hm ht fun b => sid_new (s := { s with toks := s.toks + 1 }) (pre := []) F X (hR.news N) (fun p hp => nomatch hp) hne.mem hc hh fun d h' F' N' hlt => ?_)
  exact h d h' F' N' fun p hp => hlt p (List.mem_cons.mpr (hR.cases9 p hp))

theorem setx_old {ox : Obj} {dx : Addr} {es es' : List DictEntry} {n n' : Nat} {name : Str} {v : Value} {cd : ClassData} (F : Fr h₀ L s.heap m) (X : K.In h₀) (N : News h₀ L s.heap news) (hx : (x, ox) ∈ news) (hox : ox.cls = .ref 83) (hdx : ox.dict = some dx) (hno : notCls ox = true)
    (hR : Rem (dx, dictOf es n) news rest) (hne : AllNe dx rest)
    (hs : findIn K (.ref 83) "__setattr__" = some (some (.builtin "object.__setattr__"))) (ht : takerIn K 83 name = some none) (hc : clsIn K 83 = some cd) (hm : cd.mro = [.ref 83, .ref 46, .type "Exception", .type "BaseException", .type "object"]) (hh : cd.hasDict = true) (hr : es.any (·.refKey) = false)
    (e : (putL name (PyData.keyHash w.params name) (.str name (s.toks + 1)) v es, putN name es n) = (es', n')) (hz : es'.length ≤ 1000)
    (h : ∀ h', Fr h₀ L h' m → News h₀ L h' ((dx, dictOf es' n') :: rest) → Q () { s with heap := h', toks := s.toks + 2 }) :
    wpAny (model prog w) A (setAttr (.ref x) name v) Q E s := by
  have hxa := (N _ hx).1
  have I : InstAt s.heap x ox 83 (some (dictOf es n)) := ⟨hxa, hox, hno, by rw [hdx]; exact (N _ hR.mem).1⟩
  exact set_plain (X.keeps F.keep) I hs (osa_exc (s := { s with toks := s.toks + 1 }) (X.keeps F.keep) I hc hm ht fun b => sid_old (s := { s with toks := s.toks + 1 }) (pre := []) F X (hR.news N) hxa hox hdx (fun p hp => nomatch hp) hne.mem hc hh hr e hz fun h' F' N' => h h' F' N')

theorem raise_exc {env : Env} {y : Expr} {pos : Pos} {Q : Flow → Shared → Prop} (hh : A.handled = none)
    (h : wpAny (model prog w) A (eval y env) (fun v s₁ => ∃ e dct a0 sl od cd sc, v = .ref e ∧ s₁.heap.get? e = some (excAt 83 dct a0 sl) ∧ Looks (model prog w) s₁.heap (isSubtype (.ref 83) (.type "BaseException")) true ∧ Looks (model prog w) s₁.heap (isSubtype (.ref 83) (.type "type")) false ∧ s₁.heap.get? 83 = some ⟨.type "type", od, .cls cd, sc⟩ ∧ E (.ref e) s₁) E s) :
    wpAny (model prog w) A (exec (.Raise (some y) none pos) env) Q E s := by
  rw [arm_exec_Raise]
  refine wpAny_bind (wpAny_standAt ?_)
  unfold raiseStmt
  refine wpAny_bind (wpAny_bind (wpAny_mono h (fun v s₁ h₁ => wpAny_bind (wpAny_standAt (wpAny_pure ?_))) fun _ _ x => x))
  obtain ⟨e, dct, a0, sl, od, cd, sc, rfl, he, hb, ht, hC, hE⟩ := h₁
  repeat (first | rw [if_pos rfl] | lk)
  refine wpAny_handled ?_
  rw [hh]
  exact wpAny_throw hE
end
section
variable {prog : Program} {w : World} {A : Around} {E : Value → Shared → Prop} {K : Frag} {C e : Addr} {s : Shared} {h₀ : Heap} {L : Addr} {m : Str → Option Value} {news rest : List (Addr × Obj)} {Q : Value → Shared → Prop}
theorem exc_initR {v : Value} {t0 : Addr} {dct : Option Addr} {sl : Array (Option Value)} (F : Fr h₀ L s.heap m) (X : K.In h₀)
    (N : News h₀ L s.heap news) (hR : Rem (e, excAt C dct (.ref t0) sl) news rest) (hne : AllNe e rest)
    (hs : subIn K (.ref C) (.type "Exception") = some true) {oc : Value} {od : Option Addr} {cd : ClassData} {sc : Array (Option Value)} (ho : K.lookup C = some ⟨oc, od, .cls cd, sc⟩)
    (h : ∀ t h', Fr h₀ L h' m → News h₀ L h' ((t, tupObj [v]) :: (e, excAt C dct (.ref t) sl) :: rest) → (∀ p ∈ news, p.1 < t) → Q .none { s with heap := h' }) :
    wpAny (model prog w) A (call (.builtin "Exception.__init__") [.ref e, v]) Q E s :=
  exc_init (pre := []) F X (hR.news N) (fun p hp => nomatch hp) hne.mem hs ho fun t h' F' N' hlt => h t h' F' N' fun p hp => hlt p (List.mem_cons.mpr (hR.cases9 p hp))
end
/-! X7: ProofError(what) and ProofError(what, at) -/
theorem apart_new {a b : Addr} {oa ob : Obj} {rest : List (Addr × Obj)} (h : ∀ p ∈ rest, p.1 < b) (k : b < a) : Apart rest [(a, oa), (b, ob)] := fun p hp q hq => by
  have := h p hp
  rcases List.mem_cons.mp hq with rfl | hq
  · exact Nat.ne_of_lt (Nat.lt_trans this k)
  · rcases List.mem_cons.mp hq with rfl | hq
    · exact Nat.ne_of_lt this
    · cases hq
theorem news_take2 {h₀ h : Heap} {L : Addr} {a b : Addr × Obj} {rest : List (Addr × Obj)} (N : News h₀ L h (a :: b :: rest)) : News h₀ L h [a, b] := fun p hp => N p (by
  rcases List.mem_cons.mp hp with rfl | hp
  · exact .head _
  · rcases List.mem_cons.mp hp with rfl | hp
    · exact .tail _ (.head _)
    · cases hp)
theorem news_drop2 {h₀ h : Heap} {L : Addr} {a b : Addr × Obj} {rest : List (Addr × Obj)} (N : News h₀ L h (a :: b :: rest)) : News h₀ L h rest := fun p hp => N p (.tail _ (.tail _ hp))
/-- the dict of a made ProofError -/
abbrev excDict (w : World) (x : Str) (tx y1 y2 : Tok) (atv : Value) : Obj := dictOf [⟨PyData.keyHash w.params (Str.ofString "what"), .str (Str.ofString "what") y1, .str x tx⟩, ⟨PyData.keyHash w.params (Str.ofString "at"), .str (Str.ofString "at") y2, atv⟩] 2

set_option maxHeartbeats 4000000 in
theorem exc_c1 (w : World) {p : Program} {loose : List Str} {mean : ExcName → Option Value} {mg mb : Str → Option Value}
  {dp un : Nat} {gd : Option (List Code)} {cn : Str} {cs : Scope} {a : Addr} {ccd : Value} {cl : List (Str × Addr)} {outer : List Env} {A₀ : Around} {base h₀ : Heap} {L : Addr} {m : Str → Option Value} {s : Shared} {Q E : Value → Shared → Prop}
  {x : Str} {tx : Tok} {rest : List (Addr × Obj)}
  (B : Below A₀ base outer h₀) (F : Fr h₀ L s.heap m) (X : (hd.heap_1 w.params).In h₀) (M : News h₀ L s.heap rest)
  (T : Top p loose mean mg mb h₀) (hk : cs.kind = .function)
  (hd : dp + 20 < recursionLimit) (hu : un + 500 < cLine)
  (ret : ∀ e dx t y1 y2 h' tk', Fr h₀ L h' m → News h₀ L h' ((dx, excDict w x tx y1 y2 .none) :: (e, excAt 83 (some dx) (.ref t) #[]) :: rest) → (∀ p ∈ rest, p.1 < e) → e < dx → Q (.ref e) { s with heap := h', toks := tk' }) :
  wpAny (model PySem.Challenge.rw_pq1006_01.row.prog w) (ktrTop dp un gd cn cs L a ccd cl outer) (call (.ref 83) [.str x tx]) Q E s := by
  k_with_none
  (k_with "k_all" => assumption)
  (k_with "units_room" => ktr_units)
  (k_with "k_room" => ktr_room)
  (k_with "k_units" => ktr_units)
  (k_with "cell_enter" => (refine' code_def ?q4_k1 ?q4_k2 ?q4_k3 ?q4_k4 ?q4_k5 ?q4_kA ?q4_kF ?q4_kK ?q4_k6 ?q4_k7 ?q4_k8 ?q4_k9 ?q4_kB ?_ ?q4_c2 ?q4_c3 ?q4_c4 ?q4_c5; (case q4_kA => exact rfl); (case q4_kF => exact rfl); (case q4_kK => first | assumption | exact rfl); (case q4_k1 => k_asm); (case q4_k2 => k_asm); (case q4_k3 => k_asm); (case q4_k4 => k_asm); (case q4_k5 => k_asm); (case q4_k6 => k_is); (case q4_k7 => k_is); (case q4_k8 => ktr_room); (case q4_k9 => first | exact BindsTo.of_eq rfl | exact binds_K (by k_in) rfl (by k_is) rfl rfl rfl); (case q4_c5 => decide); (case q4_kB => exact locs rfl); (case q4_c2 => exact rfl); (case q4_c3 => exact rfl); (case q4_c4 => exact rfl); k_whole; intro zg9 zL9 zh9 zFG9 zF9 zN9 zB9 zX9 zT9; (try dsimp only); (try k_lift zB9); (try k_fold)))
  (k_with "k_upd" => first | exact Rem.head | (refine' Rem.tail ?q5_b; (case q5_b => k_upd)))
  (k_with "k_all" => first | exact True.intro | assumption | (refine' And.intro ?q6_a ?q6_b; (case q6_a => k_ne); (case q6_b => k_all)))
  (k_with "getMethod type:Exception" => (k_here; refine' method_type ?q7_F ?q7_X ?q7_m exc_stub ?q7_e ?q7_h ?_; (case q7_F => k_asm); (case q7_X => k_asm); (case q7_m => exact meta_exception); (case q7_e => k_dflt k_is); (case q7_h => k_handed)))
  (k_with "call builtin:Exception.__init__" => (k_here; k_dflt (refine' exc_initR ?q8_F ?q8_X ?q8_N ?q8_R ?q8_n ?q8_s ?q8_o ?_; (case q8_F => k_asm); (case q8_X => k_asm); (case q8_N => k_asm); (case q8_R => k_upd); (case q8_n => k_all); (case q8_s => k_is); (case q8_o => k_is); k_whole); intro zt9 zh9 zF9 zN9 zl1; (try k_lt zl1); (try k_sweep)))
  (k_with "setAttr ref" => (k_here; k_dflt (first | (refine' setx_new ?q9_F ?q9_X ?q9_N ?q9_R ?q9_n ?q9_s ?q9_t ?q9_c ?q9_m ?q9_h ?_; (case q9_F => k_asm); (case q9_X => k_asm); (case q9_N => k_asm); (case q9_R => k_upd); (case q9_n => k_all); (case q9_s => k_is); (case q9_t => k_is); (case q9_c => k_is); (case q9_m => rfl); (case q9_h => rfl); k_whole; intro zd9 zh9 zF9 zN9 zl1; (try k_lt zl1); (try k_sweep)) | (refine' setx_old ?q9_F ?q9_X ?q9_N ?q9_x ?q9_ox ?q9_dx ?q9_no ?q9_R ?q9_n ?q9_s ?q9_t ?q9_c ?q9_m ?q9_h ?q9_r ?q9_e ?q9_z ?_; (case q9_F => k_asm); (case q9_X => k_asm); (case q9_N => k_asm); (case q9_x => k_mem); (case q9_ox => exact rfl); (case q9_dx => exact rfl); (case q9_no => exact rfl); (case q9_R => k_upd); (case q9_n => k_all); (case q9_s => k_is); (case q9_t => k_is); (case q9_c => k_is); (case q9_m => rfl); (case q9_h => rfl); (case q9_r => rfl); (case q9_e => k_put); (case q9_z => exact Nat.le_of_ble_eq_true rfl); k_whole; intro zh9 zF9 zN9; (try k_sweep)))))
  revert X; k_fill; intro X
  refine wpAny_call (exc_call F M (X.keeps F.keep) (excCls_of (X.keeps F.keep) (by k_is) rfl rfl rfl (by k_is) (by k_is) (by k_is) (by k_is) (by k_is) (by k_is)) (by size_fits) (by k_is) (by k_is) ?_)
  intro e' t' h' F' N' l1 l2
  k_lt2 l2
  refine code_defR B F' X (news_take2 N') (news_drop2 N') (apart_new l1 l2) T (by exact rfl) (by exact rfl) hk (by k_is) (by k_is) (by k_room) (by exact binds_K (by k_in) rfl (by k_is) rfl rfl rfl) (by exact locs rfl) ?_ (by exact rfl) (by exact rfl) (by exact rfl) (by decide)
  intro g' L' h₁ FG' F' N' B' X' T' G'
  dsimp only
  k_fold
  k_steps
  rename_i hM
  with_reducible rename News _ _ _ (_ :: _) => kN9
  exact ret _ _ _ _ _ _ _ (by k_asm) (News.both (xs := [_, _]) (news_take2 kN9) hM) (fun p hp => Nat.lt_trans (l1 p hp) l2) (by exact ltN (by omega))
set_option maxHeartbeats 4000000 in
theorem exc_c2 (w : World) {p : Program} {loose : List Str} {mean : ExcName → Option Value} {mg mb : Str → Option Value}
  {dp un : Nat} {gd : Option (List Code)} {cn : Str} {cs : Scope} {a : Addr} {ccd : Value} {cl : List (Str × Addr)} {outer : List Env} {A₀ : Around} {base h₀ : Heap} {L : Addr} {m : Str → Option Value} {s : Shared} {Q E : Value → Shared → Prop}
  {x : Str} {tx : Tok} {i : Int} {ti : Tok} {rest : List (Addr × Obj)}
  (B : Below A₀ base outer h₀) (F : Fr h₀ L s.heap m) (X : (hd.heap_1 w.params).In h₀) (M : News h₀ L s.heap rest)
  (T : Top p loose mean mg mb h₀) (hk : cs.kind = .function)
  (hd : dp + 20 < recursionLimit) (hu : un + 500 < cLine)
  (ret : ∀ e dx t y1 y2 h' tk', Fr h₀ L h' m → News h₀ L h' ((dx, excDict w x tx y1 y2 (.int i ti)) :: (e, excAt 83 (some dx) (.ref t) #[]) :: rest) → (∀ p ∈ rest, p.1 < e) → e < dx → Q (.ref e) { s with heap := h', toks := tk' }) :
  wpAny (model PySem.Challenge.rw_pq1006_01.row.prog w) (ktrTop dp un gd cn cs L a ccd cl outer) (call (.ref 83) [.str x tx, .int i ti]) Q E s := by
  k_with_none
  (k_with "k_all" => assumption)
  (k_with "units_room" => ktr_units)
  (k_with "k_room" => ktr_room)
  (k_with "k_units" => ktr_units)
  (k_with "cell_enter" => (refine' code_def ?q4_k1 ?q4_k2 ?q4_k3 ?q4_k4 ?q4_k5 ?q4_kA ?q4_kF ?q4_kK ?q4_k6 ?q4_k7 ?q4_k8 ?q4_k9 ?q4_kB ?_ ?q4_c2 ?q4_c3 ?q4_c4 ?q4_c5; (case q4_kA => exact rfl); (case q4_kF => exact rfl); (case q4_kK => first | assumption | exact rfl); (case q4_k1 => k_asm); (case q4_k2 => k_asm); (case q4_k3 => k_asm); (case q4_k4 => k_asm); (case q4_k5 => k_asm); (case q4_k6 => k_is); (case q4_k7 => k_is); (case q4_k8 => ktr_room); (case q4_k9 => first | exact BindsTo.of_eq rfl | exact binds_K (by k_in) rfl (by k_is) rfl rfl rfl); (case q4_c5 => decide); (case q4_kB => exact locs rfl); (case q4_c2 => exact rfl); (case q4_c3 => exact rfl); (case q4_c4 => exact rfl); k_whole; intro zg9 zL9 zh9 zFG9 zF9 zN9 zB9 zX9 zT9; (try dsimp only); (try k_lift zB9); (try k_fold)))
  (k_with "k_upd" => first | exact Rem.head | (refine' Rem.tail ?q5_b; (case q5_b => k_upd)))
  (k_with "k_all" => first | exact True.intro | assumption | (refine' And.intro ?q6_a ?q6_b; (case q6_a => k_ne); (case q6_b => k_all)))
  (k_with "getMethod type:Exception" => (k_here; refine' method_type ?q7_F ?q7_X ?q7_m exc_stub ?q7_e ?q7_h ?_; (case q7_F => k_asm); (case q7_X => k_asm); (case q7_m => exact meta_exception); (case q7_e => k_dflt k_is); (case q7_h => k_handed)))
  (k_with "call builtin:Exception.__init__" => (k_here; k_dflt (refine' exc_initR ?q8_F ?q8_X ?q8_N ?q8_R ?q8_n ?q8_s ?q8_o ?_; (case q8_F => k_asm); (case q8_X => k_asm); (case q8_N => k_asm); (case q8_R => k_upd); (case q8_n => k_all); (case q8_s => k_is); (case q8_o => k_is); k_whole); intro zt9 zh9 zF9 zN9 zl1; (try k_lt zl1); (try k_sweep)))
  (k_with "setAttr ref" => (k_here; k_dflt (first | (refine' setx_new ?q9_F ?q9_X ?q9_N ?q9_R ?q9_n ?q9_s ?q9_t ?q9_c ?q9_m ?q9_h ?_; (case q9_F => k_asm); (case q9_X => k_asm); (case q9_N => k_asm); (case q9_R => k_upd); (case q9_n => k_all); (case q9_s => k_is); (case q9_t => k_is); (case q9_c => k_is); (case q9_m => rfl); (case q9_h => rfl); k_whole; intro zd9 zh9 zF9 zN9 zl1; (try k_lt zl1); (try k_sweep)) | (refine' setx_old ?q9_F ?q9_X ?q9_N ?q9_x ?q9_ox ?q9_dx ?q9_no ?q9_R ?q9_n ?q9_s ?q9_t ?q9_c ?q9_m ?q9_h ?q9_r ?q9_e ?q9_z ?_; (case q9_F => k_asm); (case q9_X => k_asm); (case q9_N => k_asm); (case q9_x => k_mem); (case q9_ox => exact rfl); (case q9_dx => exact rfl); (case q9_no => exact rfl); (case q9_R => k_upd); (case q9_n => k_all); (case q9_s => k_is); (case q9_t => k_is); (case q9_c => k_is); (case q9_m => rfl); (case q9_h => rfl); (case q9_r => rfl); (case q9_e => k_put); (case q9_z => exact Nat.le_of_ble_eq_true rfl); k_whole; intro zh9 zF9 zN9; (try k_sweep)))))
  revert X; k_fill; intro X
  refine wpAny_call (exc_call F M (X.keeps F.keep) (excCls_of (X.keeps F.keep) (by k_is) rfl rfl rfl (by k_is) (by k_is) (by k_is) (by k_is) (by k_is) (by k_is)) (by size_fits) (by k_is) (by k_is) ?_)
  intro e' t' h' F' N' l1 l2
  k_lt2 l2
  refine code_defR B F' X (news_take2 N') (news_drop2 N') (apart_new l1 l2) T (by exact rfl) (by exact rfl) hk (by k_is) (by k_is) (by k_room) (by exact binds_K (by k_in) rfl (by k_is) rfl rfl rfl) (by exact locs rfl) ?_ (by exact rfl) (by exact rfl) (by exact rfl) (by decide)
  intro g' L' h₁ FG' F' N' B' X' T' G'
  dsimp only
  k_fold
  k_steps
  rename_i hM
  with_reducible rename News _ _ _ (_ :: _) => kN9
  exact ret _ _ _ _ _ _ _ (by k_asm) (News.both (xs := [_, _]) (news_take2 kN9) hM) (fun p hp => Nat.lt_trans (l1 p hp) l2) (by exact ltN (by omega))
/-! X8: an own exception on its way, its dict kept in sight -/
/-- e is a ProofError with the dict dx and a traceback T (not in the ground) whose flight cell is fl -/
def XAt (base h : Heap) (e dx : Addr) (fl : Value) : Prop :=
  ∃ vs sl T oT ts, h.get? e = some ⟨.ref 83, some dx, .fields vs, sl⟩ ∧ vs[1]? = some (.ref T) ∧ base.get? T = none ∧ T ≠ e ∧ h.get? T = some oT ∧ oT.data = .fields ts ∧ ts[3]? = some fl
structure XFly (base : Heap) (l : List Env) (e dx : Addr) (fl : Value) (h : Heap) : Prop where
  stays : base.StaysIn h
  new : base.get? e = none
  frames : h.FunFrames base l
  at_ : XAt base h e dx fl
theorem XAt.exc {base h : Heap} {e dx : Addr} {fl : Value} (x : XAt base h e dx fl) : ∃ vs sl, h.get? e = some ⟨.ref 83, some dx, .fields vs, sl⟩ := let ⟨vs, sl, _, _, _, he, _⟩ := x; ⟨vs, sl, he⟩

section
variable {M : Model} {A : Around} {E : Value → Shared → Prop} {s : Shared}
theorem x_entry {base : Heap} {env : Env} {outer : List Env} {L e dx : Addr} {vs : Array Value} {sl : Array (Option Value)} {head : Value} {hadNext : Bool} {Q : Unit → Shared → Prop}
    (hfr : A.frames = some (env :: outer)) (hl : s.heap.FunFrames base (env :: outer)) (hf : env.frame = some L)
    (he : s.heap.get? e = some ⟨.ref 83, some dx, .fields vs, sl⟩) (hkb : base.StaysIn s.heap) (hen : base.get? e = none) (hsz : 1 < vs.size)
    (h : ∀ h', XFly base (env :: outer) e dx (rawInt L) h' → s.heap.UpToSlots h' → Q () { s with heap := h' }) :
    wpAny M A (do let a ← frameOf env; let pl ← entryPlaceOf L hadNext; let b ← EntryCells.newEntry head a .none (rawInt L) .none pl; setField (.ref e) 1 b) Q E s := by
  have hene : e ∉ (env :: outer).filterMap (·.frame) := fun hm => by
    obtain ⟨_, o, ho, hnf⟩ := hl.mem hm
    rw [he] at ho
    cases ho
    exact hnf vs rfl
  refine wpAny_bind (wpAny_frameOf_fun hfr hl hf fun h₁ hs₁ => ?_)
  refine wpAny_bind (wpAny_entryPlaceOf fun pl hpl => ?_)
  unfold EntryCells.newEntry newFields
  refine wpAny_bind (wpAny_newObj_type ?_ (hpl.sizeOk5 _ _ _ _ _))
  have he₁ := (hs₁.2.1 e hene).trans he
  have kb₁ : base.StaysIn h₁ := fun b o hbo => (hs₁.2.1 b fun hm => by rw [(hl.mem hm).1] at hbo; cases hbo).trans (hkb b o hbo)
  generalize hT : ({ cls := .type "traceback", dict := none, data := .fields ([head, .ref L, .none, rawInt L, .none] ++ (if pl.isEmpty then List.replicate 6 Value.none else pl)).toArray } : Obj) = oT
  have he₂ := Heap.get?_push_of_some (h := h₁) oT he₁
  refine wpAny_setField (by subst hT; exact he₂) rfl hsz (h _ ?_ ?_)
  all_goals (
    have hTe : h₁.objs.size ≠ e := Nat.ne_of_gt (Heap.lt_size he₁)
    have keep : ∀ b o, b ≠ e → h₁.get? b = some o → ((h₁.push oT).update e (Obj.mapFields (·.setIfInBounds 1 (Value.ref h₁.objs.size)))).get? b = some o := fun b o hbe hb => by
      rw [Heap.get?_update_other _ _ (Ne.symm hbe)]
      exact Heap.get?_push_of_some _ hb
    have noRecord : ∀ b o, s.heap.get? b = some o → (∀ ws, o.data ≠ .fields ws) → b ≠ e := fun b o hb hnf q => by
      rw [q, he] at hb
      cases hb
      exact hnf vs rfl)
  · refine ⟨fun b o hbo => by subst hT; exact keep b o (fun q => by rw [q, hen] at hbo; cases hbo) (kb₁ b o hbo), hen, hl.of_keeps fun b o hb hnf => ?_, ?_⟩
    · obtain ⟨sl', hs⟩ := hs₁.2.2 b o hb
      exact ⟨{ o with slots := sl' }, by subst hT; exact keep b { o with slots := sl' } (noRecord b o hb hnf) hs, rfl⟩
    · refine ⟨vs.setIfInBounds 1 (.ref h₁.objs.size), sl, h₁.objs.size, oT, ([head, .ref L, .none, rawInt L, .none] ++ (if pl.isEmpty then List.replicate 6 Value.none else pl)).toArray, ?_, by simp [hsz], kb₁.fresh, hTe, ?_, by rw [← hT], by first | (simp; done) | (rcases hpl with rfl | ⟨_, _, _, _, _, _, _, rfl⟩ <;> simp)⟩
      · subst hT; exact Heap.get?_update_self _ he₂ rfl
      · subst hT; rw [Heap.get?_update_other _ _ (Ne.symm hTe)]; exact Heap.get?_push_size _ rfl
  · intro b o hb hnf
    obtain ⟨sl', hs⟩ := hs₁.2.2 b o hb
    exact ⟨sl', by subst hT; exact keep b { o with slots := sl' } (noRecord b o hb hnf) hs⟩

theorem x_note_first {base : Heap} {env : Env} {outer : List Env} {L e dx : Addr} {vs : Array Value} {sl : Array (Option Value)} {Q : Unit → Shared → Prop}
    (hfr : A.frames = some (env :: outer)) (hl : s.heap.FunFrames base (env :: outer)) (hf : env.frame = some L)
    (he : s.heap.get? e = some ⟨.ref 83, some dx, .fields vs, sl⟩) (hkb : base.StaysIn s.heap) (hen : base.get? e = none) (h1 : vs[1]? = some .none)
    (h : ∀ h', XFly base (env :: outer) e dx (rawInt L) h' → s.heap.UpToSlots h' → Q () { s with heap := h' }) : wpAny M A (noteFrame (.ref e) env) Q E s := by
  unfold noteFrame
  simp only [hf]
  refine wpAny_bind (wpAny_field he rfl h1 ?_)
  rw [if_neg (by decide)]
  exact x_entry hfr hl hf he hkb hen (Array.getElem?_eq_some_iff.mp h1).1 h

theorem x_note_on {base : Heap} {env : Env} {outer : List Env} {L e dx : Addr} {Q : Unit → Shared → Prop}
    (hfr : A.frames = some (env :: outer)) (hf : env.frame = some L) (x : XFly base (env :: outer) e dx .none s.heap)
    (h : ∀ h', XFly base (env :: outer) e dx (rawInt L) h' → s.heap.UpToSlots h' → Q () { s with heap := h' }) : wpAny M A (noteFrame (.ref e) env) Q E s := by
  obtain ⟨hkb, hen, hl, vs, sl, T, oT, ts, he, h1, hnT, hTe, hT, hdT, h3⟩ := x
  unfold noteFrame
  simp only [hf]
  refine wpAny_bind (wpAny_field he rfl h1 ?_)
  rw [if_pos (show (Value.ref T != Value.none) = true from by simp)]
  refine wpAny_bind (wpAny_field hT hdT h3 ?_)
  rw [if_neg (show ¬ ((Value.none == rawInt L) = true) from by simp [rawInt])]
  refine wpAny_bind (wpAny_setField hT hdT (Array.getElem?_eq_some_iff.mp h3).1 ?_)
  have other : ∀ b, b ≠ T → (s.heap.update T (Obj.mapFields (·.setIfInBounds 3 Value.none))).get? b = s.heap.get? b := fun b hb => Heap.get?_update_other _ _ (Ne.symm hb)
  have noRecord : ∀ b o, s.heap.get? b = some o → (∀ ws, o.data ≠ .fields ws) → b ≠ T := fun b o hb hnf q => by
    rw [q, hT] at hb
    cases hb
    exact hnf ts hdT
  refine x_entry (s := { s with heap := s.heap.update T (Obj.mapFields (·.setIfInBounds 3 Value.none)) }) hfr (hl.of_keeps fun b o hb hnf => ⟨o, (other b (noRecord b o hb hnf)).trans hb, rfl⟩) hf ((other e (Ne.symm hTe)).trans he)
    (fun b o hbo => (other b fun q => by rw [q, hnT] at hbo; cases hbo).trans (hkb b o hbo)) hen (Array.getElem?_eq_some_iff.mp h1).1
    fun h' x y => h h' x fun b o hb hnf => y b o ((other b (noRecord b o hb hnf)).trans hb) hnf

theorem x_land {base : Heap} {l : List Env} {e dx : Addr} {fl : Value} {Q : Unit → Shared → Prop} (x : XFly base l e dx fl s.heap)
    (h : ∀ h', XFly base l e dx .none h' → s.heap.UpToSlots h' → Q () { s with heap := h' }) : wpAny M A (setFlight (.ref e) none) Q E s := by
  obtain ⟨hkb, hen, hl, vs, sl, T, oT, ts, he, h1, hnT, hTe, hT, hdT, h3⟩ := x
  have hsz3 : 3 < ts.size := (Array.getElem?_eq_some_iff.mp h3).1
  unfold setFlight
  refine wpAny_bind (wpAny_field he rfl h1 ?_)
  rw [if_pos (show (Value.ref T != Value.none) = true from by simp)]
  have other : ∀ b, b ≠ T → (s.heap.update T (Obj.mapFields (·.setIfInBounds 3 ((none : Option Addr).elim Value.none fun f => rawInt f)))).get? b = s.heap.get? b := fun b hb => Heap.get?_update_other _ _ (Ne.symm hb)
  have noRecord : ∀ b o, s.heap.get? b = some o → (∀ ws, o.data ≠ .fields ws) → b ≠ T := fun b o hb hnf q => by
    rw [q, hT] at hb
    cases hb
    exact hnf ts hdT
  refine wpAny_setField hT hdT hsz3 (h _ ⟨fun b o hbo => (other b fun q => by rw [q, hnT] at hbo; cases hbo).trans (hkb b o hbo), hen, hl.of_keeps fun b o hb hnf => ⟨o, (other b (noRecord b o hb hnf)).trans hb, rfl⟩, ?_⟩ fun b o hb hnf => ⟨o.slots, (other b (noRecord b o hb hnf)).trans hb⟩)
  exact ⟨vs, sl, T, _, _, (other e (Ne.symm hTe)).trans he, h1, hnT, hTe, Heap.get?_update_self _ hT (Obj.isFreed_of_fields (Obj.data_mapFields hdT _)), Obj.data_mapFields hdT _, by simp [hsz3]⟩
end
/-! X9: it leaves its frame; it is caught by «except ProofError as n» -/
def RaisedX (base G : Heap) (l : List Env) (e dx : Addr) (news : List (Addr × Obj)) (h : Heap) : Prop :=
  ∃ B, base.StaysIn B ∧ (∀ b o, G.get? b = some o → b ∉ l.filterMap (·.frame) → B.get? b = some o) ∧ (∀ q ∈ news, B.get? q.1 = some q.2 ∧ G.get? q.1 = none ∧ base.get? q.1 = none) ∧ XFly B l e dx .none h

section
variable {M : Model} {A : Around} {E : Value → Shared → Prop} {s' : Shared} {base g h : Heap} {outer : List Env} {L a e dx t : Addr} {m : Str → Option Value} {name : Str} {scope : Scope} {cd : Value} {Q : Unit → Shared → Prop} {news : List (Addr × Obj)}
theorem leave_raiseX (K : Below A base outer g) (F : Fr g L s'.heap m) (N : News g L s'.heap ((e, excAt 83 (some dx) (.ref t) #[]) :: news)) (off : ∀ q ∈ news, q.1 ≠ e)
    (hQ : ∀ h', RaisedX base g outer e dx news h' → g.UpToSlots h' → Q () { s' with heap := h' }) (hk : scope.kind = .function := by rfl) :
    wpAny M (A.deeper (envOf name scope L a cd)) (leaving (envOf name scope L a cd) (.ref e)) Q E s' := by
  have K' := K.push (name := name) (a := a) (cd := cd) F hk
  have he := (N (e, excAt 83 (some dx) (.ref t) #[]) (.head _))
  have Nr : News g L s'.heap news := fun q hq => N q (.tail _ hq)
  have hne : base.get? e = none := fresh_of_stays K.stays he.2.2
  generalize hfs : (envOf name scope L a cd :: outer).filterMap (·.frame) = fs
  have inFs : ∀ env ∈ (envOf name scope L a cd :: outer), ∀ b, env.frame = some b → b ∈ e :: fs := fun env hm b hb => .tail _ (hfs ▸ List.mem_filterMap.mpr ⟨env, hm, hb⟩)
  have notF : ∀ b o, base.get? b = some o → b ∉ e :: fs := fun b o q hm => by
    rcases List.mem_cons.mp hm with z | z
    · rw [z, hne] at q; cases q
    · rw [← hfs] at z; rw [(K'.frames.mem z).1] at q; cases q
  have st : base.StaysIn (hideAll s'.heap (e :: fs)) := fun b o q => hideAll_get _ (K'.stays b o q) (notF b o q)
  have sg : ∀ b o, g.get? b = some o → b ∉ outer.filterMap (·.frame) → (hideAll s'.heap (e :: fs)).get? b = some o := fun b o q nm => hideAll_get _ (F.keep b o q) fun hm => by
    rcases List.mem_cons.mp hm with z | z
    · rw [z, he.2.2] at q; cases q
    · rw [← hfs] at z
      rcases kts_mem z with z | z
      · rw [z, kts_self F] at q; cases q
      · exact nm z
  have hl : ∀ q ∈ news, (hideAll s'.heap (e :: fs)).get? q.1 = some q.2 ∧ g.get? q.1 = none ∧ base.get? q.1 = none := fun q hq => by
    refine ⟨hideAll_get _ (Nr q hq).1 fun hm => ?_, (Nr q hq).2.2, fresh_of_stays K.stays (Nr q hq).2.2⟩
    rcases List.mem_cons.mp hm with z | z
    · exact off q hq z
    · rw [← hfs] at z
      rcases kts_mem z with z | z
      · exact (Nr q hq).2.1 z
      · obtain ⟨o, ho, _⟩ := (K.frames.mem z).2
        rw [(Nr q hq).2.2] at ho; cases ho
  have hB : (hideAll s'.heap (e :: fs)).get? e = none := hideAll_none _ (.head _)
  unfold leaving
  refine wpAny_bind (x_note_first (base := hideAll s'.heap (e :: fs)) K'.stack (funFrames_hide K'.frames inFs) rfl he.1 (fun b o q => of_hideAll _ q) hB rfl fun h₁ x₁ y₁ => ?_)
  refine x_land (s := { s' with heap := h₁ }) x₁ fun h₂ x₂ y₂ => ?_
  obtain ⟨k1, k2, ⟨_, _, k3⟩, k4⟩ := x₂
  exact hQ h₂ ⟨_, st, sg, hl, k1, k2, k3, k4⟩ ((Heap.UpToSlots.of_keeps F.keep).trans (y₁.trans y₂))
end

section
variable {prog : Program} {w : World} {A₀ : Around} {E : Value → Shared → Prop} {s' : Shared} {base g g₀ G : Heap} {outer : List Env} {L a e dx : Addr} {m : Str → Option Value} {name : Str} {scope : Scope} {cd : Value}
  {n : Str} {b₀ : Stmt} {suite : List Stmt} {pos np : Pos} {rest : List ExceptHandler} {Q : Flow → Shared → Prop} {news : List (Addr × Obj)} {KF : Frag}
  {p : Program} {loose : List Str} {mean : ExcName → Option Value} {mg mb : Str → Option Value} {x : Str}
theorem caughtX (R : RaisedX base G (envOf name scope L a cd :: outer) e dx news s'.heap) (F : Fr g L G m) (K : Below A₀ base outer g) (hsm : G.UpToSlots s'.heap) (XB : KF.In base) (TB : Top p loose mean mg mb base)
    (D : KtsDicts (outer.filterMap (·.frame)) g) (T0 : KtsTurn (outer.filterMap (·.frame)) g₀ g)
    (ex : nsIn KF mainGlobals x = some (some (.ref 83))) (q : ktsIn KF 83 "BaseException" = true)
    (k : ∀ h' g' vs sl tk, KtsTurn (outer.filterMap (·.frame)) g₀ g' → Fr g' L h' (fun y => if y = n then some (.ref e) else m y) → News g' L h' ((e, ⟨.ref 83, some dx, .fields vs, sl⟩) :: news) → Below A₀ base outer g' → KF.In g' → Top p loose mean mg mb g' → KtsDicts (outer.filterMap (·.frame)) g' →
      wpAny (model prog w) ((A₀.deeper (envOf name scope L a cd)).mark (some (.ref e))) (execs (b₀ :: suite) (envOf name scope L a cd))
        (fun f s₄ => wpAny (model prog w) (A₀.deeper (envOf name scope L a cd)) (do bindName (envOf name scope L a cd) n .none; unbindBehindTheSuite (envOf name scope L a cd) n pos) (fun _ s₅ => Q f s₅) E s₄)
        (AsSuiteRaised (model prog w) ((A₀.deeper (envOf name scope L a cd)).mark (some (.ref e))) (envOf name scope L a cd) n pos (notedBy (model prog w) ((A₀.deeper (envOf name scope L a cd)).mark (some (.ref e))) (envOf name scope L a cd) (cameBackBy (model prog w) (A₀.deeper (envOf name scope L a cd)) (envOf name scope L a cd) E)))
        { s' with heap := h', toks := tk })
    (hk : scope.kind = .function := by rfl) (hlo : (envOf name scope L a cd).kindOf n = some .local := by rfl) (hx : (envOf name scope L a cd).kindOf x = some .globalImplicit := by rfl) (hd : (x == ("__debug__" : Str)) = false := by decide) :
    wpAny (model prog w) (A₀.deeper (envOf name scope L a cd)) (noteFrame (.ref e) (envOf name scope L a cd))
      (fun _ s₂ => wpAny (model prog w) (A₀.deeper (envOf name scope L a cd)) (setFlight (.ref e) none) (fun _ s₃ =>
        wpAny (model prog w) (A₀.deeper (envOf name scope L a cd)) (handleBy (.ref e) (envOf name scope L a cd) (.ExceptHandler (some (.Name x np)) (some n) (b₀ :: suite) pos :: rest)) Q E s₃) E s₂) E s' := by
  obtain ⟨B, hB, hBG, hl, hfl⟩ := R
  have hL : B.get? L = none := by
    obtain ⟨_, ⟨L', _, hf, hn', _⟩, _⟩ := hfl.frames
    obtain rfl : L = L' := Option.some.inj hf
    exact hn'
  refine x_note_on (Around.frames_deeper K.stack) rfl hfl fun h₄ x₄ y₄ => ?_
  refine x_land (s := { s' with heap := h₄ }) x₄ fun h₅ x₅ y₅ => ?_
  have hsm₅ := hsm.trans (y₄.trans y₅)
  obtain ⟨g₅, T₅, F₅, K₅⟩ := kts_ground K F hBG x₅.stays hsm₅
  have X₅ : KF.In g₅ := XB.keeps K₅.stays
  have P₅ : TopRead p loose mg mb g₅ := topRead_of (TB.keeps K₅.stays)
  obtain ⟨vs, sl, hob⟩ := x₅.at_.exc
  obtain ⟨nm, q', N, bs, bm, hdct, sn, sub, ab, col, dd, k0, k1, k2, k3, k5, newId, hC, hbase, hbT⟩ := kts_cls X₅ q
  have hC₅ := F₅.keep _ _ hC
  refine wpAny_handleBy_cons (codeAny_handlers_test (name_K F₅ X₅ P₅ ex ?_ hk hx hd)) (by intro q; cases q)
  refine wpAny_excMatches_sub_self hC₅ hob rfl hbase (codeAny_handlers_suite_as ?_)
  refine x_land (s := { s' with heap := h₅, toks := _ }) x₅ fun h₆ x₆ y₆ => ?_
  have hsm₆ := hsm₅.trans y₆
  obtain ⟨g₆, T₆, F₆, K₆⟩ := kts_ground K F hBG x₆.stays hsm₆
  obtain ⟨ws, sl₆, hoe⟩ := x₆.at_.exc
  have ne₆ : g₆.get? e = none := T₆.none_ _ (kts_fresh F hBG x₆.new fun o ho hm => by
    obtain ⟨_, o', ho', hd⟩ := K.frames.mem hm
    rw [ho] at ho'
    cases ho'
    obtain ⟨sl', hs⟩ := hsm₆ _ _ (F.keep _ _ ho) hd
    rw [hoe] at hs
    exact hd ws (congrArg Obj.data (Option.some.inj hs)).symm)
  have N₆ : News g₆ L h₆ [(e, ⟨.ref 83, some dx, .fields ws, sl₆⟩)] := News.more F₆ News.nil hoe (fun es n q => by cases q) ne₆
  have Nl : News g₆ L h₆ news := fun q hq => ⟨x₆.stays _ _ (hl q hq).1, (fun z => by have := (hl q hq).1; rw [z, hL] at this; cases this), T₆.none_ _ (kts_none F.keep (hl q hq).2.1)⟩
  refine stN F₆ (news := (e, ⟨.ref 83, some dx, .fields ws, sl₆⟩) :: news) (fun q hq => (List.mem_cons.mp hq).elim (fun z => N₆ q (by rw [z]; exact .head _)) (Nl q)) (fun h₇ F₇ N₇ => ?_) hk hlo
  exact k h₇ g₆ _ _ _ (T0.trans T₆) F₇ N₇ K₆ (XB.keeps K₆.stays) (TB.keeps K₆.stays) (D.turn T₆)
end
/-! X10: its attributes are read -/
theorem canon_exc_ga : (Manifest.canonical "BaseException.__getattribute__" != "object.__getattribute__") = false := by decide +kernel
theorem slot_exc_ga : Slot "BaseException" "__getattribute__" "BaseException.__getattribute__" :=
  Slot.of (owner := "BaseException") (n := "__getattribute__") (by rw [typeLookup_type, builtinLookup_eq_fast]; kernel_rfl) (by decide +kernel) (by decide +kernel) (by decide +kernel) (.inl (by decide +kernel)) (by rw [isSubtype_type]; kernel_rfl)
section
variable {prog : Program} {w : World} {A : Around} {E : Value → Shared → Prop} {s : Shared} {K : Frag} {x C : Addr} {ox : Obj} {od : Option Obj} {name : Str}
theorem getx_value {expr : Bool} {Q : Value → Shared → Prop} {v : Value} (X : K.In s.heap) (I : InstAt s.heap x ox C od) (hga : findIn K (.ref C) "__getattribute__" = some (some (.builtin "BaseException.__getattribute__"))) (hgt : findIn K (.ref C) "__getattr__" = some none)
    (hb : subIn K (.ref C) (.type "BaseException") = some true) (hf : findObj K C od name = some (.value v)) (hh : handedIn v = true) (h : Q v { s with toks := s.toks + 1 }) : wpAny (model prog w) A (getAttr (.ref x) name expr) Q E s := by
  have hx0 : (expr && onTheHeap (Value.builtin "BaseException.__getattribute__")) = false := by cases expr <;> rfl
  obtain ⟨hp, g, d, t, os⟩ := s
  have L0 := I.type (M := model prog w)
  have L1 := looks_findIn (M := model prog w) X hga
  have L2 := looks_findIn (M := model prog w) X hgt
  have L3 : Looks (model prog w) hp (isInstance (.ref x) (.type "BaseException")) true := L0.andThen (looks_subIn X hb)
  have L4 := looks_find (M := model prog w) X I hf
  unfold getAttr getAttrBy
  refine wpAny_bind (wpAny_mkText (wpAny_holding (wpAny_bind (L0.at (wpAny_bind (L1.at ?_))))))
  show wpAny _ _ (getAttrByItsOwn _ _ _ _ _ _) _ _ _
  unfold getAttrByItsOwn hookBefore callGetattribute boundAndCalled
  rw [hx0]
  refine wpAny_bind (L2.at (wpAny_bind (wpAny_attempt (wpAny_holding (wpAny_bind ?_)))))
  rw [slot_exc_ga.bind]
  refine wpAny_bind (wpAny_pure ?_)
  refine wpAny_pure ?_
  refine wpAny_call (codeAny_call_builtin slot_exc_ga.plain PySem.F.entry_bexc_ga (@check_slot (model prog w) _ _ ⟨hp, g, d, t + 1, os⟩ "BaseException.__getattribute__" "BaseException" "__getattribute__" (.ref x) [.str name t] [] _ (by decide +kernel) (by decide +kernel) L3 (PySem.F.args_bexc_ga _ _) ?_))
  unfold Builtin.«object.__getattribute__»
  repeat lk
  show wpAny _ _ (handedOut v) _ _ _
  rw [handedOut_of hh]; exact wpAny_pure h

theorem methodx {pl : Sem Bool} {Q : Value × List Value → Shared → Prop} {f : Addr} (X : K.In s.heap) (I : InstAt s.heap x ox C od) (hga : findIn K (.ref C) "__getattribute__" = some (some (.builtin "BaseException.__getattribute__"))) (hk : findIn K (.ref C) "__getattr__" = some none)
    (hf : findIn K (.ref C) name = some (some (.ref f))) (ht : typeIn K (.ref f) = some (.type "function")) (hs : shadowIn od name = some false) (h : Q (.ref f, [.ref x]) s) :
    wpAny (model prog w) A (getMethod (.ref x) name pl) Q E s := by
  have hcan := canon_exc_ga
  unfold getMethod specialOf
  refine wpAny_bind (wpAny_bind (I.type.here ((looks_findIn X hga).here ?_)))
  dsimp only
  rw [hcan, if_neg (by decide)]
  refine wpAny_bind (wpAny_bind (I.type.here ((looks_findIn X hk).here ?_)))
  refine wpAny_bind (wpAny_bind (I.type.here ((looks_findIn X hf).here (wpAny_bind ((looks_typeIn X ht).here ?_)))))
  rw [if_neg (by decide +kernel)]
  refine wpAny_bind (wpAny_loadPart I.at_ ?_)
  have hd := I.dict
  cases e : ox.dict with
  | none => exact wpAny_bind (wpAny_rule (wpAny_pure h))
  | some dx =>
    cases od with
    | none => rw [e] at hd; exact hd.elim
    | some o =>
      rw [e] at hd
      obtain ⟨r, a, b⟩ := Option.map_eq_some_iff.mp hs
      refine wpAny_bind (wpAny_bind (wpAny_loadPart hd ?_))
      rw [nsLook_of a]
      refine wpAny_pure ?_
      rw [b]
      exact wpAny_bind (wpAny_rule (wpAny_pure h))
end
/-! R1: loops over lists of any length: ItemsRest by an invariant J; enumerate(tuple) as a source -/
theorem allObj_of : ∀ {ws : List (Addr × String)} {k : List (Addr × Obj) → Prop}, (∀ its, Objs ws its → k its) → AllObj ws k
  | [], k, h => h [] trivial
  | w :: r, k, h => fun o ho => allObj_of fun its hi => h ((w.1, o) :: its) ⟨⟨rfl, ho⟩, hi⟩
section
variable {prog : Program} {w : World} {A : Around} {E : Value → Shared → Prop} {s : Shared} {env : Env} {h₀ : Heap} {target : Expr} {body : List Stmt} {Q : Flow → Shared → Prop}
theorem rest_inv {ws : List (Addr × String)} {keep : List (Addr × Obj)} {xs : List Itm} (J : Nat → (Str → Option Value) → List (Addr × Obj) → Prop)
    (turn : ∀ i a v m news h tk its, xs[i]? = some a → a.Is v h → J i m news → Objs ws its → Fr h₀ env.locals h m → News h₀ env.locals h (its ++ news) →
      wpAny (model prog w) A (assign target env v) (fun _ s₂ => wpAny (model prog w) A (execs body env) (UnrPostW h₀ env.locals { s with heap := h, toks := tk } its (fun m' n' => SubL keep n' ∧ J (i + 1) m' n') Q) E s₂) E { s with heap := h, toks := tk })
    (done : ∀ m news h tk, J xs.length m news → Fr h₀ env.locals h m → News h₀ env.locals h news → Q .next { s with heap := h, toks := tk }) :
    ∀ (ys : List Itm) (i : Nat) (m : Str → Option Value) (news : List (Addr × Obj)), i + ys.length = xs.length → xs.drop i = ys → J i m news → ItemsRest prog w A E h₀ env target body Q s ws keep ys m news
  | [], i, m, news, hl, e, hJ => fun h tk F N => done m news h tk (by have : i = xs.length := by simpa using hl
                                                                      exact this ▸ hJ) F N
  | a :: r, i, m, news, hl, e, hJ => by
    have hg : xs[i]? = some a := by rw [← List.head?_drop, e]; rfl
    have hr : xs.drop (i + 1) = r := by rw [← List.tail_drop, e]; rfl
    intro v h tk hv F
    refine allObj_of fun its ho N => ?_
    refine wpAny_mono (turn i a v m news h tk its hg hv hJ ho F N) (fun _ s₂ h₂ => wpAny_mono h₂ (fun f s₃ p => ?_) fun _ _ e => e) fun _ _ e => e
    have up : ∀ {s₃ : Shared}, UnrEndW h₀ env.locals { s with heap := h, toks := tk } its (fun m' n' => SubL keep n' ∧ J (i + 1) m' n') s₃ →
        UnrEndW h₀ env.locals { s with heap := h, toks := tk } its (fun m' n' => SubL keep n' ∧ ItemsRest prog w A E h₀ env target body Q s ws keep r m' n') s₃ := by
      rintro s₃ ⟨h', tk', m', news', e, F', N', ho', hk', j⟩
      exact ⟨h', tk', m', news', e, F', N', ho', hk', rest_inv J turn done r (i + 1) m' news' (by simp at hl; omega) hr j⟩
    cases f with
    | ret v => exact p
    | brk => exact p
    | next => exact up p
    | cont => exact up p
theorem rest_all {ws : List (Addr × String)} {keep : List (Addr × Obj)} {xs : List Itm} {m : Str → Option Value} {news : List (Addr × Obj)} (J : Nat → (Str → Option Value) → List (Addr × Obj) → Prop) (h0 : J 0 m news)
    (turn : ∀ i a v m news h tk its, xs[i]? = some a → a.Is v h → J i m news → Objs ws its → Fr h₀ env.locals h m → News h₀ env.locals h (its ++ news) →
      wpAny (model prog w) A (assign target env v) (fun _ s₂ => wpAny (model prog w) A (execs body env) (UnrPostW h₀ env.locals { s with heap := h, toks := tk } its (fun m' n' => SubL keep n' ∧ J (i + 1) m' n') Q) E s₂) E { s with heap := h, toks := tk })
    (done : ∀ m news h tk, J xs.length m news → Fr h₀ env.locals h m → News h₀ env.locals h news → Q .next { s with heap := h, toks := tk }) :
    ItemsRest prog w A E h₀ env target body Q s ws keep xs m news := rest_inv J turn done xs 0 m news (by simp) (by simp) h0
end

section
variable {prog : Program} {w : World} {A : Around} {E : Value → Shared → Prop} {s : Shared}
theorem nextOf_tuple_item {it l : Addr} {i : Nat} {items} {x : Value} {Q : Value → Shared → Prop} (hit : s.heap.IsTupleIter it l i)
    (hl : s.heap.IsTuple l items) (hx : items[i]? = some x)
    (hQ : ∀ h', h'.IsTupleIter it l (i + 1) → Heap.SameBut it s.heap h' → Q x { s with heap := h' }) :
    wpAny (model prog w) A (Builtin.SmallTypes.nextOf (.ref it)) Q E s := by
  obtain ⟨o, ho, hc, hd⟩ := id hit
  obtain ⟨ol, hol, _, nl, hdl⟩ := hl
  unfold Builtin.SmallTypes.nextOf
  refine wpAny_bind (wpAny_callSpecial?_slot (name := Str.ofString "__next__") hit.typeIs PySem.F.slot_tuple_iterator_next
    (wpAny_call_entry PySem.F.slot_tuple_iterator_next hit.typeIs PySem.F.entry_tuple_iterator_next ?_ (PySem.F.args_tuple_iterator_next_1 _)))
  show wpAny _ _ (field (.ref it) 0 >>= _) _ _ s
  refine wpAny_bind (wpAny_field ho hd (x := .ref l) rfl ?_)
  show wpAny _ _ (if (Value.ref l == Value.none) = true then _ else _) _ _ s
  rw [if_neg (show ¬ ((Value.ref l == Value.none) = true) from Bool.false_ne_true)]
  show wpAny _ _ (field (.ref it) 1 >>= _) _ _ s
  refine wpAny_bind (wpAny_field ho hd (x := .int i 0) rfl ?_)
  show wpAny _ _ (seqItems? (.ref l) >>= _) _ _ s
  refine wpAny_bind (wpAny_seqItems hol hdl ?_)
  simp only [Int.toNat_natCast, hx]
  refine wpAny_bind (wpAny_setField ho hd (by simp) (wpAny_pure ⟨x, rfl, wpAny_pure (hQ _ ?_ (Heap.SameBut.update ..))⟩))
  exact ⟨_, Heap.get?_update_self _ ho (Obj.isFreed_of_fields (Obj.data_mapFields hd _)), (Obj.cls_mapFields ..).trans hc, by
    rw [Obj.data_mapFields hd]; simp [rawInt]⟩
theorem nextOf_tuple_end {it l : Addr} {i : Nat} {items} {Q : Value → Shared → Prop} (hh : A.handled = none)
    (hit : s.heap.IsTupleIter it l i) (hl : s.heap.IsTuple l items) (hx : items[i]? = none)
    (hE : ∀ h' e, Heap.ExtBut it s.heap h' → (∃ o, h'.get? e = some o ∧ o.cls = .type "StopIteration") → E (.ref e) { s with heap := h' }) :
    wpAny (model prog w) A (Builtin.SmallTypes.nextOf (.ref it)) Q E s := by
  obtain ⟨o, ho, hc, hd⟩ := id hit
  obtain ⟨ol, hol, _, nl, hdl⟩ := hl
  unfold Builtin.SmallTypes.nextOf
  refine wpAny_bind (wpAny_callSpecial?_slot (name := Str.ofString "__next__") hit.typeIs PySem.F.slot_tuple_iterator_next
    (wpAny_call_entry PySem.F.slot_tuple_iterator_next hit.typeIs PySem.F.entry_tuple_iterator_next ?_ (PySem.F.args_tuple_iterator_next_1 _)))
  show wpAny _ _ (field (.ref it) 0 >>= _) _ _ s
  refine wpAny_bind (wpAny_field ho hd (x := .ref l) rfl ?_)
  show wpAny _ _ (if (Value.ref l == Value.none) = true then _ else _) _ _ s
  rw [if_neg (show ¬ ((Value.ref l == Value.none) = true) from Bool.false_ne_true)]
  show wpAny _ _ (field (.ref it) 1 >>= _) _ _ s
  refine wpAny_bind (wpAny_field ho hd (x := .int i 0) rfl ?_)
  show wpAny _ _ (seqItems? (.ref l) >>= _) _ _ s
  refine wpAny_bind (wpAny_seqItems hol hdl ?_)
  simp only [Int.toNat_natCast, hx]
  refine wpAny_bind (wpAny_rule (wpAny_bind (wpAny_setField ho hd (by simp) ?_)))
  show wpAny _ _ (newExc (.type "StopIteration") [] >>= _) _ _ _
  refine wpAny_bind ?_
  simp only [newExc, newTuple]
  refine wpAny_bind (wpAny_newObj_type ?_ (by size_fits))
  refine wpAny_bind (m := firstArgMember _ _) (wpAny_of_eq (a := Value.none) (by first | rfl | (simp only [firstArgMember]; rfl)) ?_)
  refine wpAny_newObj_type ?_ (by size_fits)
  simp only [raiseNew]
  refine wpAny_bind (wpAny_handled ?_)
  first | rw [show A.in1.handled = none from hh] | rw [hh]
  refine wpAny_bind (wpAny_pure (wpAny_throw ?_))
  exact hE _ _ (((Heap.SameBut.update ..).extBut.push _).push _) ⟨_, Heap.get?_push_size _ rfl, rfl⟩
end
theorem draws_tuple {prog : Program} {w : World} {A : Around} (hh : A.handled = none) (it l : Addr) (hne : l ≠ it) (items : Array Value) :
    Draws prog w A it [it, l] items.size (fun i v => items[i]? = some v) (fun i h => h.IsTupleIter it l i ∧ h.IsTuple l items) where
  live := fun _ _ st => let ⟨o, ho, _⟩ := st.1; ⟨o, ho⟩
  frame := fun _ _ _ st hk => ⟨let ⟨o, ho, r⟩ := st.1; ⟨o, hk it (by simp) o ho, r⟩, let ⟨o, ho, r⟩ := st.2; ⟨o, hk l (by simp) o ho, r⟩⟩
  item := fun i s Q E hi st hQ => by
    refine nextOf_tuple_item st.1 st.2 (x := items[i]) (by simp [hi]) fun h' hit' hs' => ?_
    exact hQ _ h' s.toks (by simp [hi]) ⟨hit', st.2.extBut hs'.extBut hne⟩ hs'
  done := fun s Q E st hE => nextOf_tuple_end hh st.1 st.2 (by simp) hE
theorem meets_enumerate_newT (l : Addr) (items : Array Value) (n : Nat) (dct : Option Addr) (sl : Array (Option Value)) :
    Meets (Builtin.«enumerate.__new__» ⟨[.type "enumerate", .ref l], []⟩) (fun _ R s => s.heap.get? l = some { cls := .type "tuple", dict := dct, data := .seq items n, slots := sl } ∧
      R (.ok (.ret (.ref (s.heap.push { cls := .type "tuple_iterator", data := .fields #[.ref l, .int 0 0] }).objs.size)))
        { s with heap := (s.heap.push { cls := .type "tuple_iterator", data := .fields #[.ref l, .int 0 0] }).push { cls := .type "enumerate", data := .fields #[.none, .bool false, .ref s.heap.objs.size, rawInt 0, .none, .none] } }) :=
  .of_wp fun prog w A R s h => by
    obtain ⟨hp, g, d, tk, os⟩ := s; obtain ⟨hl, h⟩ := h
    have hsub := sub_enumerate
    have hL : Heap.IsTuple (Shared.heap ⟨hp, g, d, tk, os⟩) l items := ⟨_, hl, rfl, n, rfl⟩
    wp_walk using PySem.AutoSeq1.wpAny_loadPart' hl
    refine wpAny_stack_any fun st => wpAny_pure ?_
    split
    · rename_i c _ _ _ _ _
      cases (c == Value.type "enumerate")
      · wp_walk using PySem.AutoSeq1.wpAny_loadPart' hl, wpAny_pyIter_tuple hL
        exact ⟨_, rfl, h⟩
      · wp_walk using PySem.AutoSeq1.wpAny_loadPart' hl, wpAny_pyIter_tuple hL
        exact ⟨_, rfl, h⟩
    · wp_walk using PySem.AutoSeq1.wpAny_loadPart' hl, wpAny_pyIter_tuple hL
      exact ⟨_, rfl, h⟩
section
variable {prog : Program} {w : World} {A : Around} {E : Value → Shared → Prop} {s : Shared} {env : Env} {h₀ : Heap} {body : List Stmt} {Q : Flow → Shared → Prop}
theorem call_enumerate_tuple {l : Addr} {items : Array Value} {Q : Value → Shared → Prop} (hL : s.heap.IsTuple l items)
    (h : ∀ h', IsEnum h' (s.heap.objs.size + 1) s.heap.objs.size 0 .none → h'.IsTupleIter s.heap.objs.size l 0 → h'.objs.size = s.heap.objs.size + 2 →
      (∀ b o, s.heap.get? b = some o → h'.get? b = some o) → Q (.ref (s.heap.objs.size + 1)) { s with heap := h' }) :
    wpAny (model prog w) A (call (.type "enumerate") [.ref l]) Q E s := by
  obtain ⟨⟨c, dct, dt, sl⟩, hl, hc, n, hd⟩ := hL
  replace hc : c = .type "tuple" := hc
  replace hd : dt = .seq items n := hd
  subst hc hd
  refine callType_new F.called_enumerate (by decide) (F.typeCall_enumerate_1 _) (F.newCall_enumerate_1 _) (fun obj => F.args_object_init_2 obj _) F.entry_enumerate_new
    (meets_enumerate_newT l items n dct sl) ⟨hl, ?_⟩
  have hz : (s.heap.push { cls := .type "tuple_iterator", data := .fields #[.ref l, .int 0 0] }).objs.size = s.heap.objs.size + 1 := Heap.size_push ..
  show _ ∧ _
  rw [hz]
  have he : IsEnum ((s.heap.push { cls := .type "tuple_iterator", data := .fields #[.ref l, .int 0 0] }).push
      { cls := .type "enumerate", data := .fields #[.none, .bool false, .ref s.heap.objs.size, rawInt 0, .none, .none] }) (s.heap.objs.size + 1) s.heap.objs.size 0 .none := by
    have := Heap.get?_push_size (s.heap.push { cls := .type "tuple_iterator", data := .fields #[.ref l, .int 0 0] })
      (o := { cls := .type "enumerate", data := .fields #[.none, .bool false, .ref s.heap.objs.size, rawInt 0, .none, .none] }) rfl
    rw [hz] at this; exact this
  refine ⟨⟨_, he, rfl⟩, h _ he ⟨_, Heap.get?_push_of_some _ (Heap.get?_push_size _ rfl), rfl, rfl⟩ (by rw [Heap.size_push, hz]) fun b o x => Heap.get?_push_of_some _ (Heap.get?_push_of_some _ x)⟩

theorem ktu_enumT {elts : List Expr} {k : Nat} {pos : Pos} {l : Addr} {lo : Obj} {vs : List Value} {n : Nat} {m₀ : Str → Option Value} {news : List (Addr × Obj)}
    (hh : A.handled = none) (F : Fr h₀ env.locals s.heap m₀) (N : News h₀ env.locals s.heap news) (hm : (l, lo) ∈ news) (hc : lo.cls = .type "tuple") (hd : lo.data = .seq vs.toArray n)
    (rest₀ : ∀ I : Addr, (∀ p ∈ news, p.1 < I) → ItemsRest prog w A E h₀ env (.Tuple elts k pos) body Q s [(I + 1, "enumerate"), (I, "tuple_iterator")] [(l, lo)] (enumItems 0 vs) m₀ news) :
    wpAny (model prog w) A (call (.type "enumerate") [.ref l]) (fun xv s₁ => wpAny (model prog w) A (pyIter xv) (fun it s₂ => TurnsAt prog w A h₀ env (.Tuple elts k pos) body Q E it s₂) E s₁) E s := by
  have hax := N _ hm
  have hl : s.heap.IsTuple l vs.toArray := ⟨lo, hax.1, hc, n, hd⟩
  have hlt : l < s.heap.objs.size := Heap.lt_size hax.1
  have hLs : env.locals < s.heap.objs.size := F.ns.lt
  refine call_enumerate_tuple hl fun h' hE hI hsz hk => ?_
  refine wpAny_pyIter_enum hE ?_
  refine ktu_core (tk0 := s.toks) (keep := [(l, lo)]) (KTurns.ofWalksU (WalksT.enumerateD (draws_tuple (prog := prog) (w := w) (A := A.in1) hh s.heap.objs.size l (Nat.ne_of_lt hlt) vs.toArray) (s.heap.objs.size + 1) (Nat.succ_ne_self _) ?_ (by simp)).toU) (by simp [enumItems_length]) ?_ ?_ ?_ ?_ ?_ ?_ ?_ ?_ (F.keeps hk) (N.grown hk) (And.intro hm trivial) (rest₀ _ fun p hp => Heap.lt_size (N p hp).1)
  · intro hb
    have hb' : s.heap.objs.size + 1 = s.heap.objs.size ∨ s.heap.objs.size + 1 = l := by simpa using hb
    rcases hb' with e | e
    · exact Nat.succ_ne_self _ e
    · exact (ktu_ne 1 hlt) e.symm
  · rintro i v h ⟨T, vals, rfl, ⟨t, x, hx, rfl⟩, hT⟩
    refine ⟨_, enumItems_get vs 0 i (v := x) (by simpa using hx), T, t, rfl, ?_⟩
    show IsTup h T #[.int ((0 + i : Nat) : Int) t, x]
    rw [Nat.zero_add]
    exact hT
  · rintro i h ⟨⟨old, he⟩, ⟨oi, hoi, hic, _⟩, _⟩
    have he' : ∃ oe : Obj, h.get? (s.heap.objs.size + 1) = some oe ∧ oe.cls = .type "enumerate" := ⟨_, he, rfl⟩
    obtain ⟨oe, h1, h2⟩ := he'
    refine ⟨[(s.heap.objs.size + 1, oe), (s.heap.objs.size, oi)], ⟨⟨rfl, h2⟩, ⟨rfl, hic⟩, trivial⟩, fun p hp => ?_⟩
    rcases List.mem_cons.mp hp with rfl | hp
    · exact h1
    · rw [List.mem_singleton.mp hp]; exact hoi
  · intro b hb
    have hb' : b = s.heap.objs.size + 1 ∨ b = s.heap.objs.size := by simpa using hb
    rcases hb' with rfl | rfl
    · exact ⟨by simp, ktu_new F (Nat.le_add_right _ _)⟩
    · exact ⟨by simp, ktu_new F (Nat.le_refl _)⟩
  · intro b hb
    simpa using hb
  · intro b hb
    have hb' : b = s.heap.objs.size + 1 ∨ b = s.heap.objs.size ∨ b = l := by simpa using hb
    rcases hb' with rfl | rfl | rfl
    · exact .inl (by simp)
    · exact .inl (by simp)
    · exact .inr ⟨lo, by simp⟩
  · intro hI'
    have hb' : env.locals = s.heap.objs.size + 1 ∨ env.locals = s.heap.objs.size ∨ env.locals = l := by simpa using hI'
    rcases hb' with e | e | e
    · exact ktu_ne 1 hLs e
    · exact Nat.ne_of_lt hLs e
    · exact hax.2.1 e.symm
  · intro p hp hI'
    have hb' : p.1 = s.heap.objs.size + 1 ∨ p.1 = s.heap.objs.size := by simpa using hI'
    have hlp := Heap.lt_size (N p hp).1
    rcases hb' with e | e
    · exact ktu_ne 1 hlp e
    · exact Nat.ne_of_lt hlp e
  · exact ⟨⟨.none, hE⟩, hI, hl.at fun o e => hk l o e⟩
end
/-! R2: a loop that leaves the ledger as it lies and stores only the names of a list -/
abbrev stB (stored : List Str) (u m₀ : Str → Option Value) : Str → Option Value := fun y => if stored.contains y then u y else m₀ y
theorem st_ne {stored : List Str} {x y : Str} (h : stored.contains y = false) (k : stored.contains x = true) : y ≠ x := fun e => by rw [e, k] at h; cases h
theorem keep_if {x y : Str} {v : Option Value} {a b : Option Value} (h : y ≠ x) (k : a = b) : (if y = x then v else a) = b := by rw [if_neg h]; exact k
theorem stB_out {stored : List Str} {u m₀ : Str → Option Value} {y : Str} (h : stored.contains y = false) : stB stored u m₀ y = m₀ y := by
  show (if stored.contains y = true then _ else _) = _
  rw [if_neg (by rw [h]; simp)]
theorem stB_is {stored : List Str} {m m₀ : Str → Option Value} (h : ∀ y, stored.contains y = false → m y = m₀ y) : m = stB stored m m₀ := funext fun y => by
  show m y = if stored.contains y = true then m y else m₀ y
  cases e : stored.contains y
  · rw [if_neg (by simp)]; exact h y e
  · rw [if_pos rfl]
def TurnPost (h₀ : Heap) (L : Addr) (s₁ : Shared) (nw : List (Addr × Obj)) (K : (Str → Option Value) → Prop) (Q : Flow → Shared → Prop) (f : Flow) (s₂ : Shared) : Prop :=
  match f with
  | .ret v => Q (.ret v) s₂
  | .brk => Q .next s₂
  | _ => ∃ h' tk m', s₂ = { s₁ with heap := h', toks := tk } ∧ Fr h₀ L h' m' ∧ News h₀ L h' nw ∧ K m'
theorem objs_off1 {I : Addr} {c : String} {nw its : List (Addr × Obj)} (hI : ∀ p ∈ nw, p.1 < I) (ho : Objs [(I, c)] its) : ∀ p ∈ nw, ∀ q ∈ its, p.1 ≠ q.1 := fun p hp q hq => by
  have hm : q.1 ∈ its.map (·.1) := List.mem_map.mpr ⟨q, hq, rfl⟩
  rw [ho.map] at hm
  have e : q.1 = I := by simpa using hm
  rw [e]; exact Nat.ne_of_lt (hI p hp)
theorem objs_off2 {I : Addr} {c d : String} {nw its : List (Addr × Obj)} (hI : ∀ p ∈ nw, p.1 < I) (ho : Objs [(I + 1, c), (I, d)] its) : ∀ p ∈ nw, ∀ q ∈ its, p.1 ≠ q.1 := fun p hp q hq => by
  have hm : q.1 ∈ its.map (·.1) := List.mem_map.mpr ⟨q, hq, rfl⟩
  rw [ho.map] at hm
  have e : q.1 = I + 1 ∨ q.1 = I := by simpa using hm
  have hl := hI p hp
  rcases e with e | e
  · rw [e]; exact Nat.ne_of_lt (Nat.lt_succ_of_lt hl)
  · rw [e]; exact Nat.ne_of_lt hl
section
variable {prog : Program} {w : World} {A : Around} {E : Value → Shared → Prop} {s : Shared} {env : Env} {h₀ : Heap} {target : Expr} {body : List Stmt} {Q : Flow → Shared → Prop}
theorem items_inv {ws : List (Addr × String)} {keep : List (Addr × Obj)} {xs : List Itm} {m₀ : Str → Option Value} {nw : List (Addr × Obj)} (stored : List Str) (P : Nat → Prop) (h0 : P 0) (hk : SubL keep nw)
    (hws : ∀ its, Objs ws its → ∀ p ∈ nw, ∀ q ∈ its, p.1 ≠ q.1)
    (turn : ∀ i a v u h tk nw', xs[i]? = some a → a.Is v h → P i → (∀ p ∈ nw, p ∈ nw') → Fr h₀ env.locals h (stB stored u m₀) → News h₀ env.locals h nw' →
      wpAny (model prog w) A (assign target env v) (fun _ s₂ => wpAny (model prog w) A (execs body env) (TurnPost h₀ env.locals { s with heap := h, toks := tk } nw' (fun m' => (∀ y, stored.contains y = false → m' y = m₀ y) ∧ P (i + 1)) Q) E s₂) E { s with heap := h, toks := tk })
    (done : ∀ u h tk, P xs.length → Fr h₀ env.locals h (stB stored u m₀) → News h₀ env.locals h nw → Q .next { s with heap := h, toks := tk }) :
    ItemsRest prog w A E h₀ env target body Q s ws keep xs m₀ nw := by
  refine rest_all (fun i m' n' => n' = nw ∧ (∀ y, stored.contains y = false → m' y = m₀ y) ∧ P i) ⟨rfl, fun _ _ => rfl, h0⟩ ?_ ?_
  · rintro i a v m news h tk its hx hv ⟨rfl, hm, hP⟩ ho F N
    rw [stB_is hm] at F
    refine wpAny_mono (turn i a v m h tk (its ++ news) hx hv hP (fun p hp => List.mem_append_right _ hp) F N) (fun _ s₂ h₂ => wpAny_mono h₂ (fun f s₃ q => ?_) fun _ _ e => e) fun _ _ e => e
    have up : ∀ {s₃ : Shared}, (∃ h' tk' m', s₃ = { ({ s with heap := h, toks := tk } : Shared) with heap := h', toks := tk' } ∧ Fr h₀ env.locals h' m' ∧ News h₀ env.locals h' (its ++ news) ∧ ((∀ y, stored.contains y = false → m' y = m₀ y) ∧ P (i + 1))) →
        UnrEndW h₀ env.locals { s with heap := h, toks := tk } its (fun m' n' => SubL keep n' ∧ n' = news ∧ (∀ y, stored.contains y = false → m' y = m₀ y) ∧ P (i + 1)) s₃ := by
      rintro s₃ ⟨h', tk', m', e, F', N', k1, k2⟩
      exact ⟨h', tk', m', news, e, F', N', hws its ho, hk, rfl, k1, k2⟩
    cases f with
    | ret v => exact q
    | brk => exact q
    | next => exact up q
    | cont => exact up q
  · rintro m news h tk ⟨rfl, hm, hP⟩ F N
    rw [stB_is hm] at F
    exact done m h tk hP F N
theorem enumT_inv {elts : List Expr} {k : Nat} {pos : Pos} {l : Addr} {vs : List Value} {m₀ : Str → Option Value} {nw : List (Addr × Obj)} (stored : List Str) (P : Nat → Prop) (h0 : P 0)
    (hh : A.handled = none) (F : Fr h₀ env.locals s.heap m₀) (N : News h₀ env.locals s.heap nw) (hm : (l, tupObj vs) ∈ nw)
    (turn : ∀ i v T t u h tk nw', vs[i]? = some v → P i → (∀ p ∈ nw, p ∈ nw') → IsTup h T #[.int (i : Int) t, v] → Fr h₀ env.locals h (stB stored u m₀) → News h₀ env.locals h nw' →
      wpAny (model prog w) A (assign (.Tuple elts k pos) env (.ref T)) (fun _ s₂ => wpAny (model prog w) A (execs body env) (TurnPost h₀ env.locals { s with heap := h, toks := tk } nw' (fun m' => (∀ y, stored.contains y = false → m' y = m₀ y) ∧ P (i + 1)) Q) E s₂) E { s with heap := h, toks := tk })
    (done : ∀ u h tk, P vs.length → Fr h₀ env.locals h (stB stored u m₀) → News h₀ env.locals h nw → Q .next { s with heap := h, toks := tk }) :
    wpAny (model prog w) A (call (.type "enumerate") [.ref l]) (fun xv s₁ => wpAny (model prog w) A (pyIter xv) (fun it s₂ => TurnsAt prog w A h₀ env (.Tuple elts k pos) body Q E it s₂) E s₁) E s := by
  refine ktu_enumT hh F N hm rfl rfl fun I hI => items_inv stored P h0 ⟨hm, trivial⟩ (fun its ho => objs_off2 hI ho) ?_ (fun u h tk hP => done u h tk (by rw [enumItems_length] at hP; exact hP))
  intro i a v u h tk nw' hx hv hP hsub F' N'
  have hi : i < vs.length := by
    have := (List.getElem?_eq_some_iff.mp hx).1
    rw [enumItems_length] at this
    exact this
  have hg := enumItems_get vs 0 i (List.getElem?_eq_getElem hi)
  rw [hx] at hg
  cases hg
  obtain ⟨T, t, rfl, hT⟩ := hv
  rw [Nat.zero_add] at hT
  exact turn i _ T t u h tk nw' (List.getElem?_eq_getElem hi) hP hsub hT F' N'
theorem enumL_inv {elts : List Expr} {k : Nat} {pos : Pos} {l : Addr} {vs : List Value} {cap : Nat} {m₀ : Str → Option Value} {nw : List (Addr × Obj)} (stored : List Str) (P : Nat → Prop) (h0 : P 0)
    (hh : A.handled = none) (F : Fr h₀ env.locals s.heap m₀) (N : News h₀ env.locals s.heap nw) (hm : (l, W.listOf vs.toArray cap) ∈ nw)
    (turn : ∀ i v T t u h tk nw', vs[i]? = some v → P i → (∀ p ∈ nw, p ∈ nw') → IsTup h T #[.int (i : Int) t, v] → Fr h₀ env.locals h (stB stored u m₀) → News h₀ env.locals h nw' →
      wpAny (model prog w) A (assign (.Tuple elts k pos) env (.ref T)) (fun _ s₂ => wpAny (model prog w) A (execs body env) (TurnPost h₀ env.locals { s with heap := h, toks := tk } nw' (fun m' => (∀ y, stored.contains y = false → m' y = m₀ y) ∧ P (i + 1)) Q) E s₂) E { s with heap := h, toks := tk })
    (done : ∀ u h tk, P vs.length → Fr h₀ env.locals h (stB stored u m₀) → News h₀ env.locals h nw → Q .next { s with heap := h, toks := tk }) :
    wpAny (model prog w) A (call (.type "enumerate") [.ref l]) (fun xv s₁ => wpAny (model prog w) A (pyIter xv) (fun it s₂ => TurnsAt prog w A h₀ env (.Tuple elts k pos) body Q E it s₂) E s₁) E s := by
  refine ktu_enum hh F N hm rfl rfl rfl fun I hI => items_inv stored P h0 ⟨hm, trivial⟩ (fun its ho => objs_off2 hI ho) ?_ (fun u h tk hP => done u h tk (by rw [enumItems_length] at hP; exact hP))
  intro i a v u h tk nw' hx hv hP hsub F' N'
  have hi : i < vs.length := by
    have := (List.getElem?_eq_some_iff.mp hx).1
    rw [enumItems_length] at this
    exact this
  have hg := enumItems_get vs 0 i (List.getElem?_eq_getElem hi)
  rw [hx] at hg
  cases hg
  obtain ⟨T, t, rfl, hT⟩ := hv
  rw [Nat.zero_add] at hT
  exact turn i _ T t u h tk nw' (List.getElem?_eq_getElem hi) hP hsub hT F' N'
theorem tupT_inv {l : Addr} {vs : List Value} {m₀ : Str → Option Value} {nw : List (Addr × Obj)} (stored : List Str) (P : Nat → Prop) (h0 : P 0)
    (hh : A.handled = none) (F : Fr h₀ env.locals s.heap m₀) (N : News h₀ env.locals s.heap nw) (hm : (l, tupObj vs) ∈ nw)
    (turn : ∀ i v u h tk nw', vs[i]? = some v → P i → (∀ p ∈ nw, p ∈ nw') → Fr h₀ env.locals h (stB stored u m₀) → News h₀ env.locals h nw' →
      wpAny (model prog w) A (assign target env v) (fun _ s₂ => wpAny (model prog w) A (execs body env) (TurnPost h₀ env.locals { s with heap := h, toks := tk } nw' (fun m' => (∀ y, stored.contains y = false → m' y = m₀ y) ∧ P (i + 1)) Q) E s₂) E { s with heap := h, toks := tk })
    (done : ∀ u h tk, P vs.length → Fr h₀ env.locals h (stB stored u m₀) → News h₀ env.locals h nw → Q .next { s with heap := h, toks := tk }) :
    wpAny (model prog w) A (pyIter (.ref l)) (fun it s₂ => TurnsAt prog w A h₀ env target body Q E it s₂) E s := by
  refine iter_tupTurns hh F N hm rfl rfl fun I hI => items_inv stored P h0 ⟨hm, trivial⟩ (fun its ho => objs_off1 hI ho) ?_ (fun u h tk hP => done u h tk (by rw [List.length_map] at hP; exact hP))
  intro i a v u h tk nw' hx hv hP hsub F' N'
  have hi : i < vs.length := by
    have := (List.getElem?_eq_some_iff.mp hx).1
    rw [List.length_map] at this
    exact this
  rw [List.getElem?_map, List.getElem?_eq_getElem hi] at hx
  cases hx
  have hv' : v = vs[i] := hv
  subst hv'
  exact turn i _ u h tk nw' (List.getElem?_eq_getElem hi) hP hsub F' N'
theorem tupL_inv {l : Addr} {vs : List Value} {cap : Nat} {m₀ : Str → Option Value} {nw : List (Addr × Obj)} (stored : List Str) (P : Nat → Prop) (h0 : P 0)
    (hh : A.handled = none) (F : Fr h₀ env.locals s.heap m₀) (N : News h₀ env.locals s.heap nw) (hm : (l, W.listOf vs.toArray cap) ∈ nw)
    (turn : ∀ i v u h tk nw', vs[i]? = some v → P i → (∀ p ∈ nw, p ∈ nw') → Fr h₀ env.locals h (stB stored u m₀) → News h₀ env.locals h nw' →
      wpAny (model prog w) A (assign target env v) (fun _ s₂ => wpAny (model prog w) A (execs body env) (TurnPost h₀ env.locals { s with heap := h, toks := tk } nw' (fun m' => (∀ y, stored.contains y = false → m' y = m₀ y) ∧ P (i + 1)) Q) E s₂) E { s with heap := h, toks := tk })
    (done : ∀ u h tk, P vs.length → Fr h₀ env.locals h (stB stored u m₀) → News h₀ env.locals h nw → Q .next { s with heap := h, toks := tk }) :
    wpAny (model prog w) A (pyIter (.ref l)) (fun it s₂ => TurnsAt prog w A h₀ env target body Q E it s₂) E s := by
  refine iter_listTurns hh F N hm rfl rfl fun I hI => items_inv stored P h0 ⟨hm, trivial⟩ (fun its ho => objs_off1 hI ho) ?_ (fun u h tk hP => done u h tk (by rw [List.length_map] at hP; exact hP))
  intro i a v u h tk nw' hx hv hP hsub F' N'
  have hi : i < vs.length := by
    have := (List.getElem?_eq_some_iff.mp hx).1
    rw [List.length_map] at this
    exact this
  rw [List.getElem?_map, List.getElem?_eq_getElem hi] at hx
  cases hx
  have hv' : v = vs[i] := hv
  subst hv'
  exact turn i _ u h tk nw' (List.getElem?_eq_getElem hi) hP hsub F' N'
end
theorem st_one {stored : List Str} {x y : Str} (h : stored.contains y = false) (k : stored.contains x = true) : ([x] : List Str).contains y = false := by
  have := st_ne h k
  simpa using this
/-! S1: check_shape: its data, its law -/
/-- a made ProofRow: place, ways on, rank -/
inductive RowIn (nw : List (Addr × Obj)) (v : Value) (r : Int × List Int × Int) : Prop
  | mk (a d g : Addr) (x1 x2 x3 x4 : Int) (y1 y2 y3 y4 t1 t4 : Tok) (sv : Value) (gs : List Value) : v = .ref a → (a, instObj 125 d) ∈ nw → (d, dictOf [⟨x1, .str "at" y1, .int r.1 t1⟩, ⟨x2, .str "state" y2, sv⟩, ⟨x3, .str "goes" y3, .ref g⟩, ⟨x4, .str "rank" y4, .int r.2.2 t4⟩] 4) ∈ nw → (g, tupObj gs) ∈ nw → IntsAre gs r.2.1 → RowIn nw v r
def RowsIn (nw : List (Addr × Obj)) : List Value → List (Int × List Int × Int) → Prop
  | [], [] => True
  | v :: vs, r :: rs => RowIn nw v r ∧ RowsIn nw vs rs
  | _, _ => False
theorem RowIn.mono {nw nw' : List (Addr × Obj)} (h : ∀ p ∈ nw, p ∈ nw') {v : Value} {r : Int × List Int × Int} : RowIn nw v r → RowIn nw' v r
  | ⟨a, d, g, x1, x2, x3, x4, y1, y2, y3, y4, t1, t4, sv, gs, e, h1, h2, h3, h4⟩ => ⟨a, d, g, x1, x2, x3, x4, y1, y2, y3, y4, t1, t4, sv, gs, e, h _ h1, h _ h2, h _ h3, h4⟩
theorem RowsIn.mono {nw nw' : List (Addr × Obj)} (h : ∀ p ∈ nw, p ∈ nw') : ∀ {vs : List Value} {rs : List (Int × List Int × Int)}, RowsIn nw vs rs → RowsIn nw' vs rs
  | [], [], _ => trivial
  | _ :: _, _ :: _, x => ⟨x.1.mono h, RowsIn.mono h x.2⟩
  | [], _ :: _, x => x.elim
  | _ :: _, [], x => x.elim
theorem RowsIn.length {nw : List (Addr × Obj)} : ∀ {vs : List Value} {rs : List (Int × List Int × Int)}, RowsIn nw vs rs → vs.length = rs.length
  | [], [], _ => rfl
  | _ :: _, _ :: _, x => by simp [RowsIn.length x.2]
  | [], _ :: _, x => x.elim
  | _ :: _, [], x => x.elim
theorem RowsIn.get {nw : List (Addr × Obj)} : ∀ {vs : List Value} {rs : List (Int × List Int × Int)}, RowsIn nw vs rs → ∀ {i : Nat} {v : Value}, vs[i]? = some v → ∃ r, rs[i]? = some r ∧ RowIn nw v r
  | [], _, _, _, _, h => by simp at h
  | _ :: _, [], x, _, _, _ => x.elim
  | v :: _, r :: _, x, 0, u, h => by
    have e : v = u := by simpa using h
    subst e
    exact ⟨r, rfl, x.1⟩
  | _ :: _, _ :: _, x, i + 1, _, h => by
    have h' := RowsIn.get x.2 (i := i) (by simpa using h)
    simpa using h'
theorem RowsIn.at {nw : List (Addr × Obj)} {vs : List Value} {rs : List (Int × List Int × Int)} (x : RowsIn nw vs rs) {i : Nat} {r : Int × List Int × Int} (h : rs[i]? = some r) : ∃ v, vs[i]? = some v ∧ RowIn nw v r := by
  have hi : i < vs.length := by rw [x.length]; exact (List.getElem?_eq_some_iff.mp h).1
  obtain ⟨r', h1, h2⟩ := x.get (List.getElem?_eq_getElem hi)
  rw [h] at h1
  cases h1
  exact ⟨_, List.getElem?_eq_getElem hi, h2⟩

/-- what _law_wrong says of the ways on of a row of rank rk -/
def wGoes (rows : List (Int × List Int × Int)) (rk : Int) : List Int → Option Str
  | [] => none
  | o :: r => if o < 0 ∨ (rows.length : Int) ≤ o then some "no such row" else if rk ≤ (rows.getD o.toNat (0, [], 0)).2.2 then some "the rank does not fall" else wGoes rows rk r
def wRow (count : Nat) (rows : List (Int × List Int × Int)) (r : Int × List Int × Int) : Option Str :=
  if r.1 < 0 ∨ (count : Int) ≤ r.1 then some "no such order" else match wGoes rows r.2.2 r.2.1 with
    | some x => some x
    | none => if r.2.2 < 0 then some "a rank below 0" else none
def wFrom (count : Nat) (rows : List (Int × List Int × Int)) : Nat → List (Int × List Int × Int) → Option (Str × Option Nat)
  | _, [] => none
  | i, r :: rs => match wRow count rows r with
    | some x => some (x, some i)
    | none => wFrom count rows (i + 1) rs
def wrong (count : Nat) (rows : List (Int × List Int × Int)) : Option (Str × Option Nat) :=
  match rows with
  | [] => some ("no row for the first order", none)
  | r :: _ => if r.1 ≠ 0 then some ("no row for the first order", none) else wFrom count rows 0 rows
/-! S2: length and item of a tuple or a list of any length in the ledger -/
section
variable {prog : Program} {w : World} {A : Around} {E : Value → Shared → Prop} {s : Shared} {h₀ : Heap} {L : Addr} {news : List (Addr × Obj)} {a : Addr} {vs : List Value} {cap n : Nat} {Q : Value → Shared → Prop}
theorem lenT_any (N : News h₀ L s.heap news) (hm : (a, tupObj vs) ∈ news) (hl : vs.length = n) (hz : n ≤ 100) (h : Q (.int n (s.toks + 1)) { s with toks := s.toks + 1 + 1 }) :
    wpAny (model prog w) A (call (.builtin "len") [.ref a]) Q E s :=
  kun_lenT (items := vs.toArray) ⟨_, (N _ hm).1, rfl, 0, rfl⟩ (by simp [hl]) (by omega) h
theorem lenL_any (N : News h₀ L s.heap news) (hm : (a, W.listOf vs.toArray cap) ∈ news) (hl : vs.length = n) (hz : n ≤ 100) (h : Q (.int n (s.toks + 1)) { s with toks := s.toks + 1 + 1 }) :
    wpAny (model prog w) A (call (.builtin "len") [.ref a]) Q E s :=
  kun_lenL (items := vs.toArray) ⟨_, (N _ hm).1, rfl, cap, rfl⟩ (by simp [hl]) (by omega) h
theorem rowAt {value slice : Expr} {rows : List (Int × List Int × Int)} {k : Int} {u : Tok} (N : News h₀ L s.heap news) (hm : (a, tupObj vs) ∈ news) (hr : RowsIn news vs rows) (h0 : 0 ≤ k) (h1 : k < rows.length) (hz : rows.length ≤ 100)
    (h : ∀ v, RowIn news v (rows.getD k.toNat (0, [], 0)) → Q v s)
    (hs : subscripted slice false (.ref a) (.int k u) = operate [.ref a, .int k u] (getItem (.ref a) (.int k u)) := by with_unfolding_all rfl) (hg : ∀ r, letTemporaryGo value (.ref a) r = pure () := by intro _; with_unfolding_all rfl) :
    wpAny (model prog w) A (subscriptTail value slice (.ref a) (.int k u)) Q E s := by
  obtain ⟨j, rfl⟩ := Int.eq_ofNat_of_zero_le h0
  have hj : j < rows.length := by omega
  have hlen := hr.length
  obtain ⟨v, hv, hR⟩ := hr.at (i := j) (List.getElem?_eq_getElem hj)
  refine kim_tup (j := j) N hm rfl rfl (by omega) (by omega) ?_ hv (h v ?_) hs hg
  · unfold seqIndex?
    first | rfl | (simp; omega) | (split <;> simp_all <;> omega)
  · have e : rows.getD ((j : Int)).toNat (0, [], 0) = rows[j] := by simp [hj]
    rw [e]; exact hR
end
/-! S3: check_shape: the contract -/
def atIs (o : Option Nat) (v : Value) : Prop := match o with
  | none => v = .none
  | some i => ∃ t, v = .int (i : Int) t
abbrev Row := Int × List Int × Int
theorem wrong0 {c : Nat} {rows : List Row} (h : (rows.length : Int) = 0) : wrong c rows = some (("no row for the first order" : Str), (none : Option Nat)) := by
  have : rows = [] := List.length_eq_zero_iff.mp (by omega)
  rw [this]; rfl
theorem wrong1 {c : Nat} {rows : List Row} (h : (rows.getD (Int.toNat 0) (0, [], 0)).1 ≠ 0) : wrong c rows = some (("no row for the first order" : Str), (none : Option Nat)) := by
  cases rows with
  | nil => exact absurd rfl h
  | cons r rs =>
    show (if r.1 ≠ 0 then _ else _) = _
    exact if_pos h
theorem wrong2 {c : Nat} {rows : List Row} (h0 : ¬ (rows.length : Int) = 0) (h : (rows.getD (Int.toNat 0) (0, [], 0)).1 = 0) : wrong c rows = wFrom c rows 0 (rows.drop 0) := by
  cases rows with
  | nil => exact absurd rfl h0
  | cons r rs =>
    show (if r.1 ≠ 0 then _ else _) = _
    exact if_neg (by simpa using h)
theorem drop_at {α : Type} {l : List α} {i : Nat} {x : α} (h : l[i]? = some x) : l.drop i = x :: l.drop (i + 1) := by
  obtain ⟨hi, e⟩ := List.getElem?_eq_some_iff.mp h
  rw [List.drop_eq_getElem_cons hi, e]
theorem wFrom_err {c i : Nat} {rows : List Row} {r : Row} {x : Str} (hP : wrong c rows = wFrom c rows i (rows.drop i)) (hr : rows[i]? = some r) (hx : wRow c rows r = some x) : wrong c rows = some (x, some i) := by
  rw [hP, drop_at hr]; unfold wFrom; rw [hx]
theorem wFrom_on {c i : Nat} {rows : List Row} {r : Row} (hP : wrong c rows = wFrom c rows i (rows.drop i)) (hr : rows[i]? = some r) (hx : wRow c rows r = none) : wrong c rows = wFrom c rows (i + 1) (rows.drop (i + 1)) := by
  rw [hP, drop_at hr]
  conv => lhs; unfold wFrom
  rw [hx]
theorem wFrom_end {c n : Nat} {rows : List Row} (hP : wrong c rows = wFrom c rows n (rows.drop n)) (hn : n = rows.length) : wrong c rows = none := by
  rw [hP, hn, List.drop_length]; rfl
theorem wRow_order {c : Nat} {rows : List Row} {r : Row} (h : r.1 < 0 ∨ (c : Int) ≤ r.1) : wRow c rows r = some "no such order" := if_pos h
theorem wRow_goes {c : Nat} {rows : List Row} {r : Row} {x : Str} (h : ¬ (r.1 < 0 ∨ (c : Int) ≤ r.1)) (hg : wGoes rows r.2.2 r.2.1 = some x) : wRow c rows r = some x := by
  unfold wRow; rw [if_neg h, hg]
theorem wRow_rank {c : Nat} {rows : List Row} {r : Row} (h : ¬ (r.1 < 0 ∨ (c : Int) ≤ r.1)) (hg : wGoes rows r.2.2 r.2.1 = none) (hk : r.2.2 < 0) : wRow c rows r = some "a rank below 0" := by
  unfold wRow; rw [if_neg h, hg]; exact if_pos hk
theorem wRow_none {c : Nat} {rows : List Row} {r : Row} (h : ¬ (r.1 < 0 ∨ (c : Int) ≤ r.1)) (hg : wGoes rows r.2.2 r.2.1 = none) (hk : ¬ r.2.2 < 0) : wRow c rows r = none := by
  unfold wRow; rw [if_neg h, hg]; exact if_neg hk
theorem wGoes_row {rows : List Row} {rk o : Int} {gs : List Int} {j : Nat} (hP : wGoes rows rk gs = wGoes rows rk (gs.drop j)) (ho : gs[j]? = some o) (h : o < 0 ∨ (rows.length : Int) ≤ o) : wGoes rows rk gs = some "no such row" := by
  rw [hP, drop_at ho]; exact if_pos h
theorem wGoes_fall {rows : List Row} {rk o : Int} {gs : List Int} {j : Nat} (hP : wGoes rows rk gs = wGoes rows rk (gs.drop j)) (ho : gs[j]? = some o) (h : ¬ (o < 0 ∨ (rows.length : Int) ≤ o)) (hk : rk ≤ (rows.getD o.toNat (0, [], 0)).2.2) : wGoes rows rk gs = some "the rank does not fall" := by
  rw [hP, drop_at ho]; unfold wGoes; rw [if_neg h]; exact if_pos hk
theorem wGoes_on {rows : List Row} {rk o : Int} {gs : List Int} {j : Nat} (hP : wGoes rows rk gs = wGoes rows rk (gs.drop j)) (ho : gs[j]? = some o) (h : ¬ (o < 0 ∨ (rows.length : Int) ≤ o)) (hk : ¬ rk ≤ (rows.getD o.toNat (0, [], 0)).2.2) : wGoes rows rk gs = wGoes rows rk (gs.drop (j + 1)) := by
  rw [hP, drop_at ho]
  conv => lhs; unfold wGoes
  rw [if_neg h]; exact if_neg hk
theorem wGoes_end {rows : List Row} {rk : Int} {gs : List Int} {n : Nat} (hP : wGoes rows rk gs = wGoes rows rk (gs.drop n)) (hn : n = gs.length) : wGoes rows rk gs = none := by
  rw [hP, hn, List.drop_length]; rfl
theorem ints_at {vs : List Value} {ns : List Int} (h : IntsAre vs ns) {i : Nat} {v : Value} (hv : vs[i]? = some v) : ∃ n t, ns[i]? = some n ∧ v = .int n t := by
  have hi : i < ns.length := by rw [← h.length]; exact (List.getElem?_eq_some_iff.mp hv).1
  obtain ⟨t, ht⟩ := h.get i ns[i] (List.getElem?_eq_getElem hi)
  rw [hv] at ht
  cases ht
  exact ⟨_, t, List.getElem?_eq_getElem hi, rfl⟩
section
variable {M : Model} {A : Around} {E : Value → Shared → Prop} {s' : Shared} {base g : Heap} {outer : List Env} {L a e dx t : Addr} {m : Str → Option Value} {name : Str} {scope : Scope} {cd : Value} {Q : Unit → Shared → Prop} {nw nw' : List (Addr × Obj)} {D : Obj}
theorem pe_leave (K : Below A base outer g) (F : Fr g L s'.heap m) (N : News g L s'.heap ((dx, D) :: (e, excAt 83 (some dx) (.ref t) #[]) :: nw')) (l1 : ∀ p ∈ nw', p.1 < e) (l2 : e < dx) (hsub : ∀ p ∈ nw, p ∈ nw')
    (hQ : ∀ h', RaisedX base g outer e dx ((dx, D) :: nw) h' → g.UpToSlots h' → Q () { s' with heap := h' }) (hk : scope.kind = .function := by rfl) :
    wpAny M (A.deeper (envOf name scope L a cd)) (leaving (envOf name scope L a cd) (.ref e)) Q E s' := by
  refine leave_raiseX (t := t) K F (News.part N fun p hp => ?_) (fun q hq => ?_) hQ hk
  · rcases List.mem_cons.mp hp with rfl | hp
    · exact .tail _ (.head _)
    · rcases List.mem_cons.mp hp with rfl | hp
      · exact .head _
      · exact .tail _ (.tail _ (hsub p hp))
  · rcases List.mem_cons.mp hq with rfl | hq
    · exact Nat.ne_of_gt l2
    · exact Nat.ne_of_lt (l1 q (hsub q hq))
end
/-! S4: the contract of check_shape -/
set_option maxHeartbeats 8000000 in
theorem cs_c (w : World) {p : Program} {loose : List Str} {mean : ExcName → Option Value} {mg mb : Str → Option Value}
  {dp un : Nat} {gd : Option (List Code)} {cn : Str} {cs : Scope} {a : Addr} {ccd : Value} {cl : List (Str × Addr)} {outer : List Env} {A₀ : Around} {base h₀ : Heap} {L : Addr} {m : Str → Option Value} {s : Shared} {Q E : Value → Shared → Prop}
  {nw : List (Addr × Obj)} {pg pgd ol pr prd tt : Addr} {x1 x2 x3 x4 x5 x6 : Int} {y1 y2 y3 y4 y5 y6 : Tok} {v2 v3 v4 v5 : Value} {ovs : List Value} {cap cnt : Nat} {vs : List Value} {rows : List (Int × List Int × Int)}
  (B : Below A₀ base outer h₀) (F : Fr h₀ L s.heap m) (X : (hd.heap_1 w.params).In h₀) (N : News h₀ L s.heap nw)
  (T : Top p loose mean mg mb h₀) (hk : cs.kind = .function)
  (m1 : (pg, instObj 804 pgd) ∈ nw) (m2 : (pgd, dictOf [⟨x1, .str "orders" y1, .ref ol⟩, ⟨x2, .str "slots" y2, v2⟩, ⟨x3, .str "by_slot" y3, v3⟩, ⟨x4, .str "many_slots" y4, v4⟩, ⟨x5, .str "subs" y5, v5⟩] 5) ∈ nw)
  (m3 : (ol, W.listOf ovs.toArray cap) ∈ nw) (m4 : (pr, instObj 158 prd) ∈ nw) (m5 : (prd, dictOf [⟨x6, .str "rows" y6, .ref tt⟩] 1) ∈ nw) (m6 : (tt, tupObj vs) ∈ nw) (hr : RowsIn nw vs rows)
  (hlen : rows.length ≤ 100) (hov : ovs.length = cnt) (hlo : cnt ≤ 100)
  (hd : dp + 60 < recursionLimit) (hu : un + 2500 < cLine)
  (ret : wrong cnt rows = none → ∀ h' tk', Fr h₀ L h' m → News h₀ L h' nw → Q .none { s with heap := h', toks := tk' })
  (exc : ∀ x at_ G e dx tx y1 y2 atv h' tk', wrong cnt rows = some (x, at_) → atIs at_ atv → Fr h₀ L G m → RaisedX base G (envX cn cs L a ccd cl :: outer) e dx ((dx, excDict w x tx y1 y2 atv) :: nw) h' → G.UpToSlots h' → E (.ref e) { s with heap := h', toks := tk' }) :
  wpAny (model PySem.Challenge.rw_pq1006_01.row.prog w) (ktrTop dp un gd cn cs L a ccd cl outer) (call (.ref 169) [.ref pg, .ref pr]) Q E s := by
  k_with_none
  (k_with "k_all" => assumption)
  (k_with "units_room" => ktr_units)
  (k_with "k_room" => ktr_room)
  (k_with "k_units" => ktr_units)
  (k_with "cell_enter" => (refine' code_def ?q4_k1 ?q4_k2 ?q4_k3 ?q4_k4 ?q4_k5 ?q4_kA ?q4_kF ?q4_kK ?q4_k6 ?q4_k7 ?q4_k8 ?q4_k9 ?q4_kB ?_ ?q4_c2 ?q4_c3 ?q4_c4 ?q4_c5; (case q4_kA => exact rfl); (case q4_kF => exact rfl); (case q4_kK => first | assumption | exact rfl); (case q4_k1 => k_asm); (case q4_k2 => k_asm); (case q4_k3 => k_asm); (case q4_k4 => k_asm); (case q4_k5 => k_asm); (case q4_k6 => k_is); (case q4_k7 => k_is); (case q4_k8 => ktr_room); (case q4_k9 => first | exact BindsTo.of_eq (binds := [(_, _), (_, _)]) rfl | exact BindsTo.of_eq rfl | exact binds_K (by k_in) rfl (by k_is) rfl rfl rfl); (case q4_c5 => decide); (case q4_kB => exact locs rfl); (case q4_c2 => exact rfl); (case q4_c3 => exact rfl); (case q4_c4 => exact rfl); k_whole; intro zg9 zL9 zh9 zFG9 zF9 zN9 zB9 zX9 zT9; (try dsimp only); (try k_lift zB9); (try k_fold)))
  (k_with "exec Raise some none" => (k_here; refine raise_exc rfl ?_; k_whole))
  (k_with "call builtin:len" => (k_here; (with_reducible show wpAny _ _ (call (Value.builtin "len") [Value.ref _]) _ _ _); k_dflt (first | (refine' lenT_any ?q6_N ?q6_m ?q6_l ?q6_z ?_; (case q6_N => k_asm); (case q6_m => k_mem); (case q6_l => assumption); (case q6_z => assumption); k_whole) | (refine' lenL_any ?q6_N ?q6_m ?q6_l ?q6_z ?_; (case q6_N => k_asm); (case q6_m => k_mem); (case q6_l => assumption); (case q6_z => assumption); k_whole))))
  (k_with "subscriptTail" => (k_here; (with_reducible show wpAny _ _ (subscriptTail _ _ (Value.ref _) (Value.int _ _)) _ _ _); k_dflt (refine' rowAt ?q7_N ?q7_m ?q7_r ?q7_lo ?q7_hi ?q7_z ?_; (case q7_N => k_asm); (case q7_m => k_mem); (case q7_r => assumption); (case q7_z => assumption); (case q7_lo => first | omega | (simp only [decide_eq_false_iff_not, decide_eq_true_eq] at *; omega)); (case q7_hi => first | omega | (simp only [decide_eq_false_iff_not, decide_eq_true_eq] at *; omega)); k_whole); (intro zv9 zhR9; obtain ⟨za9, zd9, zg9, zx19, zx29, zx39, zx49, zy19, zy29, zy39, zy49, zt19, zt49, zsv9, zgs9, zhv9, zhm19, zhm29, zhm39, zhi9⟩ := zhR9; subst zhv9)))
  (k_with "exec For Tuple Call cons nil" => (k_here; (rename Fr _ _ _ _ => zlF9); (with_unfolding_all refine' For_turns zlF9 ?_; k_whole)))
  (k_with "exec For Name Attribute cons nil" => (k_here; (rename Fr _ _ _ _ => zlF9); (with_unfolding_all refine' For_turns zlF9 ?_; k_whole)))
  revert X; k_fill; intro X
  have hvl := hr.length
  refine wpAny_call ?_
  k_dflt cell_enter
  k_steps
  rotate_left 2
  with_reducible rename Fr _ _ _ (fun _ => _) => kF
  with_reducible rename News _ _ _ _ => kN
  refine enumT_inv ["number", "row", "other"] (fun i => wrong cnt rows = wFrom cnt rows i (rows.drop i)) (wrong2 (by assumption) (by assumption)) rfl kF kN m6 ?turn ?done
  case turn =>
    intro i v T t u h tk nw' hv hP hsub hT F2 N2
    obtain ⟨r, hri, hR⟩ := hr.get hv
    obtain ⟨a', d', g', x1', x2', x3', x4', y1', y2', y3', y4', t1', t4', sv', gs', rfl, hm1', hm2', hm3', hi'⟩ := hR.mono hsub
    have m1' := hsub _ m1
    have m2' := hsub _ m2
    have m3' := hsub _ m3
    have m4' := hsub _ m4
    have m5' := hsub _ m5
    have m6' := hsub _ m6
    have hr' := hr.mono hsub
    clear m1 m2 m3 m4 m5 m6 hr kF kN
    k_steps
    rotate_left 2
    with_reducible rename Fr _ _ _ (fun _ => _) => kF
    with_reducible rename News _ _ _ nw' => kN
    refine tupT_inv ["other"] (fun j => wGoes rows r.2.2 r.2.1 = wGoes rows r.2.2 (r.2.1.drop j)) rfl rfl kF kN hm3' ?turn2 ?done2
    case turn2 =>
      intro j v2 u2 h2 tk2 nw2 hv2 hP2 hsub2 F3 N3
      obtain ⟨o, to, ho, rfl⟩ := ints_at hi' hv2
      have m1'' := hsub2 _ m1'
      have m2'' := hsub2 _ m2'
      have m3'' := hsub2 _ m3'
      have m4'' := hsub2 _ m4'
      have m5'' := hsub2 _ m5'
      have m6'' := hsub2 _ m6'
      have hm1'' := hsub2 _ hm1'
      have hm2'' := hsub2 _ hm2'
      have hm3'' := hsub2 _ hm3'
      have hr'' := hr'.mono hsub2
      clear m1' m2' m3' m4' m5' m6' hr' hm1' hm2' hm3' kF kN
      k_steps
      all_goals (try (
        with_reducible rename Fr _ _ _ (fun _ => _) => kF9
        with_reducible rename News _ _ _ nw2 => kN9
        exact ⟨_, _, _, rfl, kF9, kN9, fun y hy => keep_if (st_ne hy (by decide)) (stB_out hy), wGoes_on hP2 ho (by omega) (by assumption)⟩))
      all_goals (
      with_unfolding_all refine' exc_c2 w ?B ?F ?X ?N ?T ?k ?d ?u ?_
      (case k => rfl)
      (case F => k_asm)
      (case N => k_asm)
      (case B => k_asm)
      (case X => k_asm)
      (case T => k_asm)
      (case d => ktr_room)
      (case u => ktr_units)
      intro e dx te z1 z2 h9 tk9 F9 N9 l1 l2
      refine ⟨e, _, _, _, _, _, _, rfl, (N9 _ (.tail _ (.head _))).1, looks_subIn (Frag.In.keeps (K := Mine.hd.heap_1 w.params) (by assumption) F9.keep) (by k_is), looks_subIn (Frag.In.keeps (K := Mine.hd.heap_1 w.params) (by assumption) F9.keep) (by k_is), (Frag.In.keeps (K := Mine.hd.heap_1 w.params) (by assumption) F9.keep) _ _ (by k_is), ?_⟩
      with_unfolding_all refine' pe_leave ?K F9 N9 l1 l2 ?s ?_
      (case K => k_asm)
      (case s => exact fun q hq => hsub2 _ (hsub _ hq))
      intro h' R' U'
      refine exc _ (some i) _ _ _ _ _ _ _ _ _ ?wr ?ata (by k_asm) R' U'
      (case wr => first | exact wFrom_err hP hri (wRow_goes (by omega) (wGoes_row hP2 ho (by omega))) | exact wFrom_err hP hri (wRow_goes (by omega) (wGoes_fall hP2 ho (by omega) (by assumption))))
      (case ata => exact ⟨_, rfl⟩))
    case done2 =>
      intro u2 h2 tk2 hP2 F3 N3
      clear kF kN
      have hg := wGoes_end hP2 (by rw [hi'.length])
      k_steps
      all_goals (try (
        with_reducible rename Fr _ _ _ (fun _ => _) => kF9
        with_reducible rename News _ _ _ nw' => kN9
        refine ⟨_, _, _, rfl, kF9, kN9, ?st, wFrom_on hP hri (wRow_none (by omega) hg (by assumption))⟩
        case st => exact fun y hy => (stB_out (st_one hy (by decide))).trans (keep_if (st_ne hy (by decide)) (keep_if (st_ne hy (by decide)) (stB_out hy)))))
      all_goals (
      with_unfolding_all refine' exc_c2 w ?B ?F ?X ?N ?T ?k ?d ?u ?_
      (case k => rfl)
      (case F => k_asm)
      (case N => k_asm)
      (case B => k_asm)
      (case X => k_asm)
      (case T => k_asm)
      (case d => ktr_room)
      (case u => ktr_units)
      intro e dx te z1 z2 h9 tk9 F9 N9 l1 l2
      refine ⟨e, _, _, _, _, _, _, rfl, (N9 _ (.tail _ (.head _))).1, looks_subIn (Frag.In.keeps (K := Mine.hd.heap_1 w.params) (by assumption) F9.keep) (by k_is), looks_subIn (Frag.In.keeps (K := Mine.hd.heap_1 w.params) (by assumption) F9.keep) (by k_is), (Frag.In.keeps (K := Mine.hd.heap_1 w.params) (by assumption) F9.keep) _ _ (by k_is), ?_⟩
      with_unfolding_all refine' pe_leave ?K F9 N9 l1 l2 ?s ?_
      (case K => k_asm)
      (case s => exact hsub)
      intro h' R' U'
      refine exc _ (some i) _ _ _ _ _ _ _ _ _ ?wr ?ata (by k_asm) R' U'
      (case wr => exact wFrom_err hP hri (wRow_rank (by omega) hg (by assumption)))
      (case ata => exact ⟨_, rfl⟩))
    all_goals (
      with_unfolding_all refine' exc_c2 w ?B ?F ?X ?N ?T ?k ?d ?u ?_
      (case k => rfl)
      (case F => k_asm)
      (case N => k_asm)
      (case B => k_asm)
      (case X => k_asm)
      (case T => k_asm)
      (case d => ktr_room)
      (case u => ktr_units)
      intro e dx te z1 z2 h9 tk9 F9 N9 l1 l2
      refine ⟨e, _, _, _, _, _, _, rfl, (N9 _ (.tail _ (.head _))).1, looks_subIn (Frag.In.keeps (K := Mine.hd.heap_1 w.params) (by assumption) F9.keep) (by k_is), looks_subIn (Frag.In.keeps (K := Mine.hd.heap_1 w.params) (by assumption) F9.keep) (by k_is), (Frag.In.keeps (K := Mine.hd.heap_1 w.params) (by assumption) F9.keep) _ _ (by k_is), ?_⟩
      with_unfolding_all refine' pe_leave ?K F9 N9 l1 l2 ?s ?_
      (case K => k_asm)
      (case s => exact hsub)
      intro h' R' U'
      refine exc _ (some i) _ _ _ _ _ _ _ _ _ ?wr ?ata (by k_asm) R' U'
      (case wr => exact wFrom_err hP hri (wRow_order (by omega)))
      (case ata => exact ⟨_, rfl⟩))
  case done =>
    intro u h tk hP F2 N2
    clear kF kN
    have hw := wFrom_end hP hvl
    k_steps
    exact ret hw _ _ (by assumption) (by assumption)
  all_goals (
      with_unfolding_all refine' exc_c1 w ?B ?F ?X ?N ?T ?k ?d ?u ?_
      (case k => rfl)
      (case F => k_asm)
      (case N => k_asm)
      (case B => k_asm)
      (case X => k_asm)
      (case T => k_asm)
      (case d => ktr_room)
      (case u => ktr_units)
      intro e dx te z1 z2 h9 tk9 F9 N9 l1 l2
      refine ⟨e, _, _, _, _, _, _, rfl, (N9 _ (.tail _ (.head _))).1, looks_subIn (Frag.In.keeps (K := Mine.hd.heap_1 w.params) (by assumption) F9.keep) (by k_is), looks_subIn (Frag.In.keeps (K := Mine.hd.heap_1 w.params) (by assumption) F9.keep) (by k_is), (Frag.In.keeps (K := Mine.hd.heap_1 w.params) (by assumption) F9.keep) _ _ (by k_is), ?_⟩
      with_unfolding_all refine' pe_leave ?K F9 N9 l1 l2 ?s ?_
      (case K => k_asm)
      (case s => exact fun _ h => h)
      intro h' R' U'
      refine exc _ none _ _ _ _ _ _ _ _ _ ?wr ?ata (by k_asm) R' U'
      (case wr => first | exact wrong0 (by assumption) | exact wrong1 (by assumption))
      (case ata => rfl))
/-! F0: an own exception in the ledger: its attributes, its method -/
theorem instx {h₀ h : Heap} {L e dx : Addr} {news : List (Addr × Obj)} {vs : Array Value} {sl : Array (Option Value)} {od : Obj} (N : News h₀ L h news) (h1 : (e, (⟨.ref 83, some dx, .fields vs, sl⟩ : Obj)) ∈ news) (h2 : (dx, od) ∈ news) : InstAt h e ⟨.ref 83, some dx, .fields vs, sl⟩ 83 (some od) := ⟨(N _ h1).1, rfl, rfl, (N _ h2).1⟩
theorem getx_own {prog : Program} {w : World} {A : Around} {E : Value → Shared → Prop} {s : Shared} {K : Frag} {x C : Addr} {ox : Obj} {name : Str} {es : List DictEntry} {n : Nat} {attr : Option Value} {expr : Bool} {Q : Value → Shared → Prop} {v : Value}
    (X : K.In s.heap) (I : InstAt s.heap x ox C (some (dictOf es n))) (hga : findIn K (.ref C) "__getattribute__" = some (some (.builtin "BaseException.__getattribute__"))) (hgt : findIn K (.ref C) "__getattr__" = some none)
    (hb : subIn K (.ref C) (.type "BaseException") = some true) (hh : hasDictIn K C = true) (ha : findIn K (.ref C) name = some attr) (hn : noGet K attr = true) (hl : getL name es = some (some v)) (hv : handedIn v = true)
    (h : Q v { s with toks := s.toks + 1 }) : wpAny (model prog w) A (getAttr (.ref x) name expr) Q E s := getx_value X I hga hgt hb (findObj_own hh ha hn hl) hv h
theorem atIs_handed {o : Option Nat} {v : Value} (h : atIs o v) : handedIn v = true := by
  cases o with
  | none => cases h; rfl
  | some i => obtain ⟨t, rfl⟩ := h; rfl
theorem allLt_mem {d : Addr} {l : List (Addr × Obj)} (h : AllLt d l) : ∀ p ∈ l, p.1 < d := by
  induction l with
  | nil => intro p hp; cases hp
  | cons x r ih =>
    intro p hp
    rcases List.mem_cons.mp hp with rfl | hp
    · exact h.1
    · exact ih h.2 p hp
/-! F1: the contract of _law_found -/
set_option maxHeartbeats 8000000 in
theorem found_c (w : World) {p : Program} {loose : List Str} {mean : ExcName → Option Value} {mg mb : Str → Option Value}
  {dp un : Nat} {gd : Option (List Code)} {cn : Str} {cs : Scope} {a : Addr} {ccd : Value} {A₀ : Around} {base h₀ : Heap} {L : Addr} {m : Str → Option Value} {s : Shared} {Q E : Value → Shared → Prop}
  {nw : List (Addr × Obj)} {pg pgd ol pr prd tt : Addr} {x1 x2 x3 x4 x5 x6 : Int} {y1 y2 y3 y4 y5 y6 : Tok} {v2 v3 v4 v5 : Value} {ovs : List Value} {cap cnt : Nat} {vs : List Value} {rows : List (Int × List Int × Int)}
  (B : Below A₀ base [] h₀) (F : Fr h₀ L s.heap m) (X : (hd.heap_1 w.params).In h₀) (N : News h₀ L s.heap nw)
  (T : Top p loose mean mg mb h₀) (hk : cs.kind = .function) (XB : (hd.heap_1 w.params).In base) (TB : Top p loose mean mg mb base)
  (m1 : (pg, instObj 804 pgd) ∈ nw) (m2 : (pgd, dictOf [⟨x1, .str "orders" y1, .ref ol⟩, ⟨x2, .str "slots" y2, v2⟩, ⟨x3, .str "by_slot" y3, v3⟩, ⟨x4, .str "many_slots" y4, v4⟩, ⟨x5, .str "subs" y5, v5⟩] 5) ∈ nw)
  (m3 : (ol, W.listOf ovs.toArray cap) ∈ nw) (m4 : (pr, instObj 158 prd) ∈ nw) (m5 : (prd, dictOf [⟨x6, .str "rows" y6, .ref tt⟩] 1) ∈ nw) (m6 : (tt, tupObj vs) ∈ nw) (hr : RowsIn nw vs rows)
  (hlen : rows.length ≤ 100) (hov : ovs.length = cnt) (hlo : cnt ≤ 100)
  (hd : dp + 80 < recursionLimit) (hu : un + 4500 < cLine)
  (ret0 : wrong cnt rows = none → ∀ h' tk', Fr h₀ L h' m → News h₀ L h' nw → Q .none { s with heap := h', toks := tk' })
  (ret1 : ∀ x o, wrong cnt rows = some (x, o) → ∀ D tx atv h' tk', atIs o atv → Fr h₀ L h' m → News h₀ L h' ((D, tupObj [.str x tx, atv]) :: nw) → (∀ p ∈ nw, p.1 < D) → Q (.ref D) { s with heap := h', toks := tk' }) :
  wpAny (model PySem.Challenge.rw_pq1006_01.row.prog w) { handled := none, depth := dp, frames := some [envOf cn cs L a ccd], guards := gd, units := un } (call (.ref 923) [.ref pg, .ref pr]) Q E s := by
  k_with_none
  (k_with "k_all" => assumption)
  (k_with "units_room" => ktr_units)
  (k_with "k_room" => ktr_room)
  (k_with "k_units" => ktr_units)
  (k_with "cell_enter" => (refine' code_def ?q4_k1 ?q4_k2 ?q4_k3 ?q4_k4 ?q4_k5 ?q4_kA ?q4_kF ?q4_kK ?q4_k6 ?q4_k7 ?q4_k8 ?q4_k9 ?q4_kB ?_ ?q4_c2 ?q4_c3 ?q4_c4 ?q4_c5; (case q4_kA => exact rfl); (case q4_kF => exact rfl); (case q4_kK => first | assumption | exact rfl); (case q4_k1 => k_asm); (case q4_k2 => k_asm); (case q4_k3 => k_asm); (case q4_k4 => k_asm); (case q4_k5 => k_asm); (case q4_k6 => k_is); (case q4_k7 => k_is); (case q4_k8 => first | ktr_room | (simp only [depth_mark, depth_deeper]; omega)); (case q4_k9 => first | exact BindsTo.of_eq rfl | exact binds_K (by k_in) rfl (by k_is) rfl rfl rfl); (case q4_c5 => decide); (case q4_kB => exact locs rfl); (case q4_c2 => exact rfl); (case q4_c3 => exact rfl); (case q4_c4 => exact rfl); k_whole; intro zg9 zL9 zh9 zFG9 zF9 zN9 zB9 zX9 zT9; (try dsimp only); (try k_lift zB9); (try k_fold)))
  (k_with "call ref" => (k_here; (with_reducible show wpAny _ _ (call (Value.ref 169) [Value.ref _, Value.ref _]) _ _ _); k_dflt (with_unfolding_all refine' cs_c _ ?q5_B ?q5_F ?q5_X ?q5_N ?q5_T ?q5_k ?q5_a1 ?q5_a2 ?q5_a3 ?q5_a4 ?q5_a5 ?q5_a6 ?q5_a7 ?q5_b1 ?q5_b2 ?q5_b3 ?q5_d ?q5_u ?ret ?exc; (case q5_k => rfl); (case q5_F => k_asm); (case q5_N => k_asm); (case q5_B => k_asm); (case q5_X => k_asm); (case q5_T => k_asm); (case q5_a1 => k_mem); (case q5_a2 => k_mem); (case q5_a3 => k_mem); (case q5_a4 => k_mem); (case q5_a5 => k_mem); (case q5_a6 => k_mem); (case q5_a7 => assumption); (case q5_b1 => assumption); (case q5_b2 => assumption); (case q5_b3 => assumption); (case q5_d => ktr_room); (case q5_u => ktr_units))))
  (k_with "getMethod ref" => (k_here; (with_reducible show wpAny _ _ (getMethod (Value.ref _) (PySem.Str.ofString "told") _) _ _ _); k_dflt (refine' methodx ?q6_X ?q6_I ?q6_ga ?q6_gt ?q6_f ?q6_t ?q6_s ?_; (case q6_X => exact Frag.In.keeps (by k_asm) (Fr.keep (by k_asm))); (case q6_I => exact instx (by k_asm) (by k_mem) (by k_mem)); (case q6_ga => k_is); (case q6_gt => k_is); (case q6_f => k_is); (case q6_t => k_is); (case q6_s => rfl); k_whole)))
  (k_with "getAttr ref" => (k_here; k_dflt (refine' getx_own ?q7_X ?q7_I ?q7_ga ?q7_gt ?q7_b ?q7_hh ?q7_ha ?q7_hn ?q7_f ?q7_h ?_; (case q7_X => exact Frag.In.keeps (by k_asm) (Fr.keep (by k_asm))); (case q7_I => exact instx (by k_asm) (by k_mem) (by k_mem)); (case q7_ga => k_is); (case q7_gt => k_is); (case q7_b => k_is); (case q7_hh => k_is); (case q7_ha => k_is); (case q7_hn => k_is); (case q7_f => k_get); (case q7_h => first | assumption | k_handed); k_whole)))
  revert X; k_fill; intro X
  refine wpAny_call ?_
  k_dflt (refine' code_defS0 ?k1 ?k2 ?k3 ?k4 ?k5 ?kA ?k6 ?k7 ?k8 ?k9 ?kB ?_ ?cK ?c2 ?c3 ?c4 ?c5; (case kA => exact rfl); (case k2 => k_asm); (case k1 => k_asm); (case k3 => k_asm); (case k4 => k_asm); (case k5 => k_asm); (case k6 => k_is); (case k7 => k_is); (case k8 => k_room); (case k9 => exact BindsTo.of_eq rfl); (case kB => exact locs rfl); (case cK => exact hk); (case c2 => exact rfl); (case c3 => exact rfl); (case c4 => exact rfl); (case c5 => decide); k_whole; intro g' L' h' FG' F' N' B' X' T' D'; (try dsimp only); (try k_fold))
  k_steps
  case' ret => skip
  case exc =>
    rename_i x at_ G e dx tx z1 z2 atv h9 tk9 hw hat F9 R9 U9
    refine caughtX R9 F9 (by k_asm) U9 XB TB (by assumption) KtsTurn.refl (by k_is) (by kts_isx) ?_
    intro h7 g7 vx sx tk7 T7 F7 N7 B7 X7 P7 D7
    have hav := atIs_handed hat
    have e1 : (e, (⟨.ref 83, some dx, .fields vx, sx⟩ : Obj)) ∈ ((e, (⟨.ref 83, some dx, .fields vx, sx⟩ : Obj)) :: (dx, excDict w x tx z1 z2 atv) :: nw) := .head _
    have e2 : (dx, excDict w x tx z1 z2 atv) ∈ ((e, (⟨.ref 83, some dx, .fields vx, sx⟩ : Obj)) :: (dx, excDict w x tx z1 z2 atv) :: nw) := .tail _ (.head _)
    k_steps
    dsimp only [List.append_nil]
    refine wpAny_call ?_
    k_dflt cell_enter
    k_steps
    with_reducible rename _ ∧ _ ∧ AllLt _ _ => l9
    with_reducible rename Fr h₀ _ _ _ => kF9
    with_reducible rename News h₀ _ _ _ => kN9
    exact ret1 x at_ hw _ tx atv _ _ hat kF9 (News.part kN9 fun p hp => by
      rcases List.mem_cons.mp hp with rfl | hp
      · first | exact List.Mem.head _ | exact List.Mem.tail _ (List.Mem.head _) | exact List.Mem.tail _ (List.Mem.tail _ (List.Mem.head _))
      · repeat (first | exact hp | refine List.Mem.tail _ ?_)) (allLt_mem l9.2.2)
  case ret.refine'_5 =>
    rename_i kF9 kN9 _ _
    exact ret0 (by assumption) _ _ kF9 kN9
/-! W0: «x not in range(n)» -/
section
variable {prog : Program} {w : World} {A : Around} {E : Value → Shared → Prop} {s : Shared}
theorem place_of (n x : Int) : (Builtin.Range.rangePlace? 0 n 1 x).isSome = decide (0 ≤ x ∧ x < n) := by
  unfold Builtin.Range.rangePlace?
  by_cases h : 0 ≤ x ∧ x < n
  · simp [h]
  · simp [h]
theorem call_range_has {r : Addr} {n x : Int} {t u v tx : Tok} {Q : Value → Shared → Prop} (hr : IsRange s.heap r 0 n 1 t u v)
    (h : Q (.bool (decide (0 ≤ x ∧ x < n))) s) : wpAny (model prog w) A (call (.builtin "range.__contains__") [.ref r, .int x tx]) Q E s := by
  have hT : s.TypeIs (.ref r) "range" := ⟨_, hr, rfl⟩
  refine wpAny_call_entry PySem.F.slot_range_contains hT PySem.F.entry_range_contains ?_ (PySem.F.args_range_contains_2 _ _)
  obtain ⟨hp, g, d, tk, os⟩ := s
  rw [← place_of] at h
  wp_walk using PySem.AutoSeq1.wpAny_loadPart' hr
  exact ⟨_, rfl, h⟩
theorem notIn_range {r : Addr} {n x : Int} {t u v tx : Tok} {Q : Value → Shared → Prop} (hr : IsRange s.heap r 0 n 1 t u v)
    (h : Q (.bool (!decide (0 ≤ x ∧ x < n))) s) : wpAny (model prog w) A (compareOp .NotIn (.int x tx) (.ref r)) Q E s := by
  show wpAny _ _ (do return .bool (!(← contains (.ref r) (.int x tx)))) Q E s
  refine wpAny_bind (wpAny_contains_slot ⟨_, hr, rfl⟩ PySem.F.slot_range_contains (call_range_has hr (wpAny_pure (wpAny_pure h))))
end
theorem ret_tup {h₀ h : Heap} {L D : Addr} {xs : List Value} {l nw : List (Addr × Obj)} (N : News h₀ L h ((D, tupObj xs) :: l)) (hs : ∀ p ∈ nw, p ∈ l) : News h₀ L h ((D, tupObj xs) :: nw) := fun p hp => by
  rcases List.mem_cons.mp hp with rfl | hp
  · exact N _ (.head _)
  · exact N _ (.tail _ (hs p hp))
/-! W1: the rows as the law makes them: a list of tuples (place, ways on, rank) -/
def rowD (r : Int × List Int × Int) : Dat := .tuple [.int r.1, .list (r.2.1.map Dat.int), .int r.2.2]
abbrev rowsD (rows : List (Int × List Int × Int)) : List Dat := rows.map rowD
theorem rowD_ok (rows : List (Int × List Int × Int)) : ∀ d ∈ rowsD rows, kqdOk 8 d = true := fun d hd => by
  obtain ⟨r, _, rfl⟩ := List.mem_map.mp hd
  simp [rowD, kqdOk]
theorem ints_of_dat {nw : List (Addr × Obj)} : ∀ {us : List Value} {gs : List Int}, DatAll nw us (gs.map Dat.int) → IntsAre us gs
  | [], [], _ => .nil
  | [], _ :: _, h => by cases h
  | _ :: _, [], h => by cases h
  | v :: us, g :: gs, h => by
    cases h with
    | cons a b =>
      cases a with
      | int i t => exact .cons _ t (ints_of_dat b)
theorem dat_of_ints {nw : List (Addr × Obj)} : ∀ {us : List Value} {gs : List Int}, IntsAre us gs → DatAll nw us (gs.map Dat.int)
  | [], [], _ => .nil
  | [], _ :: _, h => by cases h
  | _ :: _, [], h => by cases h
  | v :: us, g :: gs, h => by
    cases h with
    | cons n t b => exact .cons (.int g t) (dat_of_ints b)
theorem row_open {nw : List (Addr × Obj)} {v : Value} {r : Int × List Int × Int} (h : DatIn nw v (rowD r)) :
    ∃ (t g : Addr) (n cap : Nat) (t1 t3 : Tok) (us : List Value), v = .ref t ∧ (t, ({ cls := .type "tuple", data := .seq [.int r.1 t1, .ref g, .int r.2.2 t3].toArray n } : Obj)) ∈ nw ∧ (g, W.listOf us.toArray cap) ∈ nw ∧ IntsAre us r.2.1 := by
  unfold rowD at h
  cases h with
  | @tuple t vs n _ hm ha =>
    cases ha with
    | cons a1 ha =>
      cases ha with
      | cons a2 ha =>
        cases ha with
        | cons a3 ha =>
          cases ha
          cases a1 with
          | int i t1 =>
            cases a3 with
            | int k t3 =>
              cases a2 with
              | @list g us cap _ hg hu => exact ⟨t, g, n, cap, t1, t3, us, rfl, hm, hg, ints_of_dat hu⟩
theorem dat_at {nw : List (Addr × Obj)} {vs : List Value} {rows : List (Int × List Int × Int)} (h : DatAll nw vs (rowsD rows)) {i : Nat} {v : Value} (hv : vs[i]? = some v) : ∃ r, rows[i]? = some r ∧ DatIn nw v (rowD r) := by
  have hl := h.length
  have hi : i < (rowsD rows).length := by rw [← hl]; exact (List.getElem?_eq_some_iff.mp hv).1
  obtain ⟨v', hv', hd⟩ := h.get hi
  rw [hv] at hv'
  cases hv'
  have hi' : i < rows.length := by simpa using hi
  refine ⟨rows[i], List.getElem?_eq_getElem hi', ?_⟩
  simpa using hd
section
variable {prog : Program} {w : World} {A : Around} {E : Value → Shared → Prop} {s : Shared} {h₀ : Heap} {L : Addr} {news nw : List (Addr × Obj)} {a b : Addr} {vs : List Value} {cap cap' : Nat} {Q : Value → Shared → Prop} {rows : List (Int × List Int × Int)}
theorem tupAt {value slice : Expr} {k : Int} {u : Tok} (N : News h₀ L s.heap news) (hm : (a, W.listOf vs.toArray cap) ∈ news) (hD : DatAll nw vs (rowsD rows)) (h0 : 0 ≤ k) (h1 : k < rows.length) (hz : rows.length ≤ 100)
    (h : ∀ v, DatIn nw v (rowD (rows.getD k.toNat (0, [], 0))) → Q v s)
    (hs : subscripted slice false (.ref a) (.int k u) = operate [.ref a, .int k u] (getItem (.ref a) (.int k u)) := by with_unfolding_all rfl) :
    wpAny (model prog w) A (subscriptTail value slice (.ref a) (.int k u)) Q E s := by
  refine kd_item N hm hD h0 (by simpa using h1) (by omega) (fun v d hd _ hin => h v ?_) hs
  have hk : k.toNat < rows.length := by omega
  have e : d = rowD (rows.getD k.toNat (0, [], 0)) := by
    rw [List.getElem?_map, List.getElem?_eq_getElem hk] at hd
    simp only [Option.map_some, Option.some.injEq] at hd
    rw [← hd]
    simp [hk]
  rw [← e]; exact hin
theorem eqNil (N : News h₀ L s.heap news) (ma : (a, W.listOf vs.toArray cap) ∈ news) (hD : DatAll nw vs (rowsD rows)) (hs : ∀ p ∈ nw, p ∈ news) (mb : (b, W.listOf #[] cap') ∈ news) (hu : A.units + 64 < cLine) (h : Q (.bool (decide ((rows.length : Int) = 0))) s) :
    wpAny (model prog w) A (compareOp .Eq (.ref a) (.ref b)) Q E s := by
  refine kqd_eq (ys := []) N ma rfl rfl hD hs mb rfl rfl (DatAll.nil (news := news)) (fun _ h => h) (rowD_ok rows) (by simp) hu ?_
  have e : decide (rowsD rows = []) = decide ((rows.length : Int) = 0) := by
    cases rows with
    | nil => rfl
    | cons r rs => simp [rowsD]; omega
  have h' := h
  rw [← e] at h'
  have e2 : (@decide (rowsD rows = []) (Classical.propDecidable _)) = decide (rowsD rows = []) := by
    by_cases hq : rowsD rows = [] <;> simp [hq]
  first | exact h' | (rw [e2]; exact h')
end
/-! B: _law_draw: an int in 0 .. n - 1; the pen's place grows by one at most, its stock stays 0 or more -/
theorem fm0 (a : Int) {n : Int} (h : 1 ≤ n) : 0 ≤ a.fmod n := Int.fmod_nonneg_of_pos a (by omega)
theorem fm1 (a : Int) {n : Int} (h : 1 ≤ n) : a.fmod n < n := Int.fmod_lt_of_pos a (by omega)
theorem pow_b1 (c spot : Int) (h0 : 0 ≤ spot) (h1 : spot < 100000) : (c.fmod 2147483587 + 70309 * spot + 7207).natAbs < 2 ^ 64 := by
  have a := fm0 c (n := 2147483587) (by decide)
  have b := fm1 c (n := 2147483587) (by decide)
  omega
theorem pow_b2 (c spot : Int) (h0 : 0 ≤ spot) (h1 : spot < 100000) : (c.fmod 2147483629 * (2 * spot + 9173) + 70309 * spot * spot + 109).natAbs < 2 ^ 64 := by
  have a := fm0 c (n := 2147483629) (by decide)
  have b := fm1 c (n := 2147483629) (by decide)
  generalize c.fmod 2147483629 = x at *
  have q1 : x * (2 * spot + 9173) ≤ 2147483629 * (2 * spot + 9173) := Int.mul_le_mul_of_nonneg_right (by omega) (by omega)
  have q0 : 0 ≤ x * (2 * spot + 9173) := Int.mul_nonneg a (by omega)
  have r1 : 70309 * spot * spot ≤ 70309 * spot * 100000 := Int.mul_le_mul_of_nonneg_left (by omega) (by omega)
  have r0 : 0 ≤ 70309 * spot * spot := Int.mul_nonneg (by omega) h0
  omega
theorem great0 (c K : Int) (h : K ≤ if c < 0 then -c else c) : 0 ≤ 2 * ((if c < 0 then -c else c) - K) + if decide (c < 0) = true then 1 else 0 := by
  split <;> split <;> simp_all <;> omega
theorem no_len {ns : List Int} (h : decide (ns = []) = false) (k : (ns.length : Int) = 0) : False := by
  have : ns = [] := List.length_eq_zero_iff.mp (by omega)
  simp [this] at h
/-- the state after a statement that may set `cell` -/
inductive MidC (g : Heap) (L : Addr) (s : Shared) (mp : Str → Option Value) (nw : List (Addr × Obj)) (s' : Shared) : Prop
  | mk (c : Int) (t : Tok) (h' : Heap) (tk' : Nat) : s' = { s with heap := h', toks := tk' } → Fr g L h' (fun y => if y = "cell" then some (.int c t) else mp y) → News g L h' nw → MidC g L s mp nw s'
theorem if_over {x : Str} {a b : Option Value} {m : Str → Option Value} : (fun y => if y = x then a else if y = x then b else m y) = fun y => if y = x then a else m y := funext fun y => by
  by_cases h : y = x <;> simp [h]
theorem joinC {M : Model} {A : Around} {E : Value → Shared → Prop} {s : Shared} {env : Env} {st : Stmt} {rest : List Stmt} {Q : Flow → Shared → Prop} {g : Heap} {L : Addr} {mp : Str → Option Value} {c₀ : Int} {t₀ : Tok} {nw : List (Addr × Obj)}
    (_F : Fr g L s.heap (fun y => if y = "cell" then some (.int c₀ t₀) else mp y)) (_N : News g L s.heap nw)
    (h1 : wpAny M A (exec st env) (fun f s' => match f with | .next => MidC g L s mp nw s' | f => Q f s') E s)
    (h2 : ∀ (c : Int) (t : Tok) (h' : Heap) (tk' : Nat), Fr g L h' (fun y => if y = "cell" then some (.int c t) else mp y) → News g L h' nw → wpAny M A (execs rest env) Q E { s with heap := h', toks := tk' }) : wpAny M A (execs (st :: rest) env) Q E s :=
  wpAny_execs_cons (wpAny_mono h1 (fun f s' h => by
    cases f with
    | next => obtain ⟨c, t, h', tk', rfl, F', N'⟩ := h; exact h2 c t h' tk' F' N'
    | _ => exact h) fun _ _ e => e)
set_option maxHeartbeats 8000000 in
theorem draw_c (w : World) {p : Program} {loose : List Str} {mean : ExcName → Option Value} {mg mb : Str → Option Value}
  {dp un : Nat} {gd : Option (List Code)} {cn : Str} {cs : Scope} {a : Addr} {ccd : Value} {cl : List (Str × Addr)} {outer : List Env} {A₀ : Around} {base h₀ : Heap} {L : Addr} {m : Str → Option Value} {s : Shared} {Q E : Value → Shared → Prop}
  {pen cells : Addr} {vs : List Value} {ns : List Int} {spot stock n : Int} {t1 t2 t3 : Tok} {rest : List (Addr × Obj)}
  (B : Below A₀ base outer h₀) (F : Fr h₀ L s.heap m) (X : (hd.heap_1 w.params).In h₀)
  (N : News h₀ L s.heap [(pen, W.listOf #[.ref cells, .int spot t1, .int stock t2] 0), (cells, LCg.lst vs)])
  (M : News h₀ L s.heap rest) (off : Apart rest [(pen, W.listOf #[.ref cells, .int spot t1, .int stock t2] 0), (cells, LCg.lst vs)])
  (T : Top p loose mean mg mb h₀) (hk : cs.kind = .function)
  (hc : @Ne Nat cells pen) (hi : IntsAre vs ns) (hlen : ns.length ≤ 40)
  (hs0 : 0 ≤ spot) (hs1 : spot < 100000) (hk0 : 0 ≤ stock) (hn : 1 ≤ n) (hn' : n ≤ 1000)
  (hd : dp + 20 < recursionLimit) (hu : un + 500 < cLine)
  (ret : ∀ (d : Int) (t : Tok) (spot' : Int) (t1' : Tok) (stock' : Int) (t2' : Tok) (h' : Heap) (tk' : Nat), 0 ≤ d → d < n → spot ≤ spot' → spot' ≤ spot + 1 → 0 ≤ stock' → Fr h₀ L h' m →
    News h₀ L h' ((pen, W.listOf #[.ref cells, .int spot' t1', .int stock' t2'] 0) :: (cells, LCg.lst vs) :: rest) → Q (.int d t) { s with heap := h', toks := tk' }) :
  wpAny (model PySem.Challenge.rw_pq1006_01.row.prog w) (ktrTop dp un gd cn cs L a ccd cl outer) (call (.ref 897) [.ref pen, .int n t3]) Q E s := by
  k_with_none
  (k_with "k_all" => assumption)
  (k_with "units_room" => ktr_units)
  (k_with "k_room" => ktr_room)
  (k_with "k_units" => ktr_units)
  (k_with "binaryOp Pow int int" => ((with_reducible refine pow_int_small ?_ ?_ ?_ ?_); decide; decide; (first | exact pow_b1 _ _ (by assumption) (by assumption) | exact pow_b2 _ _ (by assumption) (by assumption))))
  (k_with "execs cons" => (k_here; (first | (with_reducible show wpAny _ _ (execs (Stmt.If _ _ _ _ :: Stmt.If _ _ _ _ :: _) _) _ _ _) | (with_reducible show wpAny _ _ (execs [Stmt.If _ _ _ _, Stmt.Assign _ _ _, Stmt.Assign _ _ _, Stmt.Return _ _] _) _ _ _)); k_dflt (refine' joinC ?q5_F ?q5_N ?_ ?_; (case q5_F => k_asm); (case q5_N => k_asm))))
  revert X; k_fill; intro X
  refine wpAny_call (code_defR B F X N M off T (by exact rfl) (by exact rfl) hk (by k_is) (by k_is) (by ktr_room) (by exact BindsTo.of_eq rfl) (by exact locs rfl) ?_ (by exact rfl) (by exact rfl) (by exact rfl) (by decide))
  intro g' L' h' FG' F' N' B' X' T' G'
  dsimp only
  k_fold
  k_steps
  all_goals first
    | exact (no_len (by assumption) (by assumption)).elim
    | (with_reducible rename Fr _ _ _ (fun _ => _) => kF9
       with_reducible rename News _ _ _ (_ :: _) => kN9
       (try rw [if_over] at kF9)
       exact MidC.mk _ _ _ _ rfl kF9 (News.part kN9 (by intro p hp; repeat (first | exact hp | refine List.Mem.tail _ ?_))))
    | (rename_i hM
       with_reducible rename News _ _ _ (_ :: _) => kN9
       refine' ret _ _ _ _ _ _ _ _ (fm0 _ hn) (fm1 _ hn) ?g1 ?g2 ?g3 (by k_asm) (News.both (xs := [_, _]) (News.part kN9 (by intro p hp; repeat (first | exact hp | refine List.Mem.tail _ ?_))) hM)
       case g1 => omega
       case g2 => omega
       case g3 => first
          | exact hk0
          | exact Int.fdiv_nonneg hk0 (by omega)
          | exact Int.fdiv_nonneg (great0 _ _ (by assumption)) (by omega))
/-! D1: _law_draw and _law_pick, the pen anywhere in the ledger -/
abbrev penO (cells : Addr) (spot : Int) (t1 : Tok) (stock : Int) (t2 : Tok) : Obj := W.listOf #[.ref cells, .int spot t1, .int stock t2] 0
theorem draw_r (w : World) {p : Program} {loose : List Str} {mean : ExcName → Option Value} {mg mb : Str → Option Value}
  {dp un : Nat} {gd : Option (List Code)} {cn : Str} {cs : Scope} {a : Addr} {ccd : Value} {cl : List (Str × Addr)} {outer : List Env} {A₀ : Around} {base h₀ : Heap} {L : Addr} {m : Str → Option Value} {s : Shared} {Q E : Value → Shared → Prop}
  {pen cells : Addr} {vs : List Value} {ns : List Int} {spot stock n : Int} {t1 t2 t3 : Tok} {led l1 l2 : List (Addr × Obj)}
  (B : Below A₀ base outer h₀) (F : Fr h₀ L s.heap m) (X : (hd.heap_1 w.params).In h₀) (N : News h₀ L s.heap led) (T : Top p loose mean mg mb h₀) (hk : cs.kind = .function)
  (R1 : Rem (pen, W.listOf #[.ref cells, .int spot t1, .int stock t2] 0) led l1) (R2 : Rem (cells, LCg.lst vs) l1 l2) (n1 : AllNe pen l2) (n2 : AllNe cells l2)
  (hc : @Ne Nat cells pen) (hi : IntsAre vs ns) (hlen : ns.length ≤ 40)
  (hs0 : 0 ≤ spot) (hs1 : spot < 100000) (hk0 : 0 ≤ stock) (hn : 1 ≤ n) (hn' : n ≤ 1000)
  (hd : dp + 20 < recursionLimit) (hu : un + 500 < cLine)
  (ret : ∀ (d : Int) (t : Tok) (spot' : Int) (t1' : Tok) (stock' : Int) (t2' : Tok) (h' : Heap) (tk' : Nat), 0 ≤ d → d < n → spot ≤ spot' → spot' ≤ spot + 1 → 0 ≤ stock' → Fr h₀ L h' m →
    News h₀ L h' ((pen, W.listOf #[.ref cells, .int spot' t1', .int stock' t2'] 0) :: (cells, LCg.lst vs) :: l2) → Q (.int d t) { s with heap := h', toks := tk' }) :
  wpAny (model PySem.Challenge.rw_pq1006_01.row.prog w) (ktrTop dp un gd cn cs L a ccd cl outer) (call (.ref 897) [.ref pen, .int n t3]) Q E s := by
  have N' := R1.news N
  have N2 : News h₀ L s.heap ((cells, LCg.lst vs) :: l2) := R2.news (News.part N' fun p hp => List.Mem.tail _ hp)
  exact draw_c w B F X (fun p hp => by
    rcases List.mem_cons.mp hp with rfl | hp
    · exact N' _ (.head _)
    · rcases List.mem_cons.mp hp with rfl | hp
      · exact N2 _ (.head _)
      · cases hp) (News.part N2 fun p hp => List.Mem.tail _ hp) (n1.apart n2) T hk hc hi hlen hs0 hs1 hk0 hn hn' hd hu ret
section
variable {prog : Program} {w : World} {A : Around} {E : Value → Shared → Prop} {s : Shared} {h₀ : Heap} {L : Addr} {news : List (Addr × Obj)} {a : Addr} {vs : List Value} {cap : Nat} {Q : Value → Shared → Prop}
theorem intAt {value slice : Expr} {ns : List Int} {k : Int} {u : Tok} (N : News h₀ L s.heap news) (hm : (a, W.listOf vs.toArray cap) ∈ news) (hi : IntsAre vs ns) (h0 : 0 ≤ k) (h1 : k < ns.length) (hz : ns.length ≤ 100)
    (h : ∀ x t, Q (.int x t) s)
    (hs : subscripted slice false (.ref a) (.int k u) = operate [.ref a, .int k u] (getItem (.ref a) (.int k u)) := by with_unfolding_all rfl) :
    wpAny (model prog w) A (subscriptTail value slice (.ref a) (.int k u)) Q E s := by
  refine kd_item (ds := ns.map Dat.int) N hm (dat_of_ints (nw := news) hi) h0 (by simpa using h1) (by omega) (fun v d hd _ hin => ?_) hs
  obtain ⟨x, -, rfl⟩ : ∃ x, x ∈ ns ∧ Dat.int x = d := by simpa using List.mem_of_getElem? hd
  cases hin
  exact h _ _
end
/-! D2: the contract of _law_pick: some int -/
set_option maxHeartbeats 8000000 in
theorem pick_c (w : World) {p : Program} {loose : List Str} {mean : ExcName → Option Value} {mg mb : Str → Option Value}
  {dp un : Nat} {gd : Option (List Code)} {cn : Str} {cs : Scope} {a : Addr} {ccd : Value} {cl : List (Str × Addr)} {outer : List Env} {A₀ : Around} {base h₀ : Heap} {L : Addr} {m : Str → Option Value} {s : Shared} {Q E : Value → Shared → Prop}
  {pen cells sl : Addr} {vs svs : List Value} {ns sns : List Int} {spot stock : Int} {t1 t2 : Tok} {cap : Nat} {led l1 l2 : List (Addr × Obj)}
  (B : Below A₀ base outer h₀) (F : Fr h₀ L s.heap m) (X : (hd.heap_1 w.params).In h₀) (N : News h₀ L s.heap led) (T : Top p loose mean mg mb h₀) (hk : cs.kind = .function)
  (R1 : Rem (pen, W.listOf #[.ref cells, .int spot t1, .int stock t2] 0) led l1) (R2 : Rem (cells, LCg.lst vs) l1 l2) (n1 : AllNe pen l2) (n2 : AllNe cells l2)
  (hm : (sl, W.listOf svs.toArray cap) ∈ l2) (hsi : IntsAre svs sns) (hsn : 1 ≤ sns.length) (hsn' : sns.length ≤ 100)
  (hc : @Ne Nat cells pen) (hi : IntsAre vs ns) (hlen : ns.length ≤ 40)
  (hs0 : 0 ≤ spot) (hs1 : spot < 100000) (hk0 : 0 ≤ stock)
  (hd : dp + 40 < recursionLimit) (hu : un + 1500 < cLine)
  (ret : ∀ (d : Int) (t : Tok) (spot' : Int) (t1' : Tok) (stock' : Int) (t2' : Tok) (h' : Heap) (tk' : Nat), spot ≤ spot' → spot' ≤ spot + 1 → 0 ≤ stock' → Fr h₀ L h' m →
    News h₀ L h' ((pen, W.listOf #[.ref cells, .int spot' t1', .int stock' t2'] 0) :: (cells, LCg.lst vs) :: l2) → Q (.int d t) { s with heap := h', toks := tk' }) :
  wpAny (model PySem.Challenge.rw_pq1006_01.row.prog w) (ktrTop dp un gd cn cs L a ccd cl outer) (call (.ref 904) [.ref pen, .ref sl]) Q E s := by
  k_with_none
  (k_with "k_all" => assumption)
  (k_with "units_room" => ktr_units)
  (k_with "k_room" => ktr_room)
  (k_with "k_units" => ktr_units)
  (k_with "cell_enter" => (refine' code_def ?q4_k1 ?q4_k2 ?q4_k3 ?q4_k4 ?q4_k5 ?q4_kA ?q4_kF ?q4_kK ?q4_k6 ?q4_k7 ?q4_k8 ?q4_k9 ?q4_kB ?_ ?q4_c2 ?q4_c3 ?q4_c4 ?q4_c5; (case q4_kA => exact rfl); (case q4_kF => exact rfl); (case q4_kK => first | assumption | exact rfl); (case q4_k1 => k_asm); (case q4_k2 => k_asm); (case q4_k3 => k_asm); (case q4_k4 => k_asm); (case q4_k5 => k_asm); (case q4_k6 => k_is); (case q4_k7 => k_is); (case q4_k8 => ktr_room); (case q4_k9 => first | exact BindsTo.of_eq (binds := [(_, _), (_, _)]) rfl | exact BindsTo.of_eq rfl | exact binds_K (by k_in) rfl (by k_is) rfl rfl rfl); (case q4_c5 => decide); (case q4_kB => exact locs rfl); (case q4_c2 => exact rfl); (case q4_c3 => exact rfl); (case q4_c4 => exact rfl); k_whole; intro zg9 zL9 zh9 zFG9 zF9 zN9 zB9 zX9 zT9; (try dsimp only); (try k_lift zB9); (try k_fold)))
  (k_with "k_mem" => first | exact List.Mem.head _ | (refine' List.Mem.tail _ ?q5_b; (case q5_b => (show (_ : Addr × Obj) ∈ (_ : List (Addr × Obj)); k_mem))))
  (k_with "k_upd" => first | assumption | exact Rem.head | (refine' Rem.tail ?q6_b; (case q6_b => k_upd)))
  (k_with "k_all" => first | exact True.intro | assumption | exact allLt_ne (by assumption) | exact AllNe.mem (by assumption) | (refine' And.intro ?q7_a ?q7_b; (case q7_a => k_ne); (case q7_b => k_all)) | (refine' List.forall_mem_cons.mpr (And.intro ?q7_a ?q7_b); (case q7_a => k_ne); (case q7_b => k_all)))
  (k_with "call builtin:len" => (k_here; (with_reducible show wpAny _ _ (call (Value.builtin "len") [Value.ref _]) _ _ _); k_dflt (first | (refine' lenL_any ?q8_N ?q8_m ?q8_l ?q8_z ?_; (case q8_N => k_asm); (case q8_m => k_mem); (case q8_l => assumption); (case q8_z => assumption); k_whole))))
  (k_with "call ref" => (k_here; (with_reducible show wpAny _ _ (call (Value.ref 897) [Value.ref _, Value.int _ _]) _ _ _); k_dflt (with_unfolding_all refine' draw_r _ ?q9_B ?q9_F ?q9_X ?q9_N ?q9_T ?q9_k ?q9_R1 ?q9_R2 ?q9_n1 ?q9_n2 ?q9_hc ?q9_hi ?q9_hl ?q9_s0 ?q9_s1 ?q9_k0 ?q9_m0 ?q9_m1 ?q9_d ?q9_u ?_; (case q9_k => rfl); (case q9_F => k_asm); (case q9_N => k_asm); (case q9_B => k_asm); (case q9_X => k_asm); (case q9_T => k_asm); (case q9_R1 => k_upd); (case q9_R2 => k_upd); (case q9_n1 => k_all); (case q9_n2 => k_all); (case q9_hc => assumption); (case q9_hi => assumption); (case q9_hl => assumption); (case q9_s0 => omega); (case q9_s1 => omega); (case q9_k0 => assumption); (case q9_m0 => omega); (case q9_m1 => omega); (case q9_d => ktr_room); (case q9_u => ktr_units); k_whole); (intro zd9 zt9 zspot9 zt19 zstock9 zt29 zh9 ztk9 zhd09 zhd19 zhs09 zhs19 zhk09 zF9 zN9; (try k_sweep))))
  revert X; k_fill; intro X
  have hsl : svs.length = sns.length := hsi.length
  have hmL : (sl, W.listOf svs.toArray cap) ∈ led := R1.sub _ (R2.sub _ hm)
  refine wpAny_call ?_
  k_dflt cell_enter
  k_steps
  with_reducible rename Fr h₀ _ _ _ => kF9
  with_reducible rename News h₀ _ _ _ => kN9
  exact ret _ _ _ _ _ _ _ _ (by assumption) (by assumption) (by assumption) kF9 kN9
/-! R4: «for x in range(n)», x a cell or a local, by an invariant on the ledger -/
section
variable {prog : Program} {w : World} {A : Around} {E : Value → Shared → Prop} {s : Shared} {env : Env} {h₀ : Heap} {x : Str} {pos : Pos} {body : List Stmt} {Q : Flow → Shared → Prop}
def rangeItems (n : Nat) : List Itm := (List.range n).map fun (i : Nat) => .tok fun t => .int (i : Int) t
theorem range_turns {r : Addr} {t₀ u₀ v₀ : Tok} {n : Nat} {m₀ : Str → Option Value} {news : List (Addr × Obj)} (J : Nat → (Str → Option Value) → List (Addr × Obj) → Prop)
    (hh : A.handled = none) (hr : IsRange s.heap r 0 (n : Int) 1 t₀ u₀ v₀) (hn : n ≤ 1000) (F : Fr h₀ env.locals s.heap m₀) (N : News h₀ env.locals s.heap news) (hj : J 0 m₀ news)
    (turn : ∀ i t m₁ nx h tk I oI, i < n → J i m₁ nx → (∀ p ∈ nx, p.1 ≠ I) → Fr h₀ env.locals h m₁ → News h₀ env.locals h ((I, oI) :: nx) →
      wpAny (model prog w) A (assign (.Name x pos) env (.int (i : Int) t)) (fun _ s₂ => wpAny (model prog w) A (execs body env) (UnrPostW h₀ env.locals { s with heap := h, toks := tk } [(I, oI)] (J (i + 1)) Q) E s₂) E { s with heap := h, toks := tk })
    (done : ∀ m₁ nx h tk, J n m₁ nx → Fr h₀ env.locals h m₁ → News h₀ env.locals h nx → Q .next { s with heap := h, toks := tk }) :
    wpAny (model prog w) A (pyIter (.ref r)) (fun it s₂ => TurnsAt prog w A h₀ env (.Name x pos) body Q E it s₂) E s := by
  have hsz : Builtin.Range.rangeSize 0 (n : Int) 1 = (n : Int) := by
    unfold Builtin.Range.rangeSize
    rw [if_pos (by decide)]
    by_cases h : (0 : Int) < n
    · rw [if_pos h]; simp
    · rw [if_neg h]; omega
  have hsmall : Builtin.Range.small 0 (n : Int) 1 = true := by
    unfold Builtin.Range.small
    rw [hsz]
    first
    | (simp [Builtin.Range.rangeFitsLong]; omega)
    | (unfold Builtin.Range.rangeFitsLong; simp; omega)
  have hI0 : h₀.get? s.heap.objs.size = none := next_is_new F
  have hLs : env.locals < s.heap.objs.size := F.ns.lt
  refine wpAny_pyIter_range hr hsmall ?_
  refine ktu_core (tk0 := s.toks) (keep := []) (ws := [(s.heap.objs.size, "range_iterator")]) (xs := rangeItems n)
    (KTurns.ofWalks (Walks.range hh s.heap.objs.size 0 1 n).bound fun i v s' Q E st q => ?_) (by simp [rangeItems]) ?_ ?_ ?_ ?_ ?_ ?_ ?_ ?_ (F.push _) (fun p hp => ⟨Heap.get?_push_of_some _ (N p hp).1, (N p hp).2⟩) trivial ?_
  · show wpAny _ _ (pure ()) _ _ _
    exact wpAny_pure q
  · rintro i v h ⟨hi, t, rfl⟩
    refine ⟨.tok fun t => .int (i : Int) t, by simp [rangeItems, hi], t, ?_⟩
    have e1 : 0 + (i : Int) * 1 = (i : Int) := by omega
    rw [e1]
  · intro i h st
    have st' : IsRangeIter h s.heap.objs.size (0 + (i : Nat) * 1) ((n : Int) - (i : Nat)) 1 := st
    exact ⟨[(s.heap.objs.size, _)], ⟨⟨rfl, rfl⟩, trivial⟩, fun p hp => by rw [List.mem_singleton.mp hp]; exact st'⟩
  · intro b hb
    have hb' : b = s.heap.objs.size := by simpa using hb
    rw [hb']
    exact ⟨List.mem_cons_self .., hI0⟩
  · intro b hb
    simpa using hb
  · intro b hb
    have hb' : b = s.heap.objs.size := by simpa using hb
    exact .inl (by simp [hb'])
  · intro hI
    exact absurd hLs ((List.mem_singleton.mp hI) ▸ Nat.lt_irrefl _)
  · intro p hp hI
    exact absurd (Heap.lt_size (N p hp).1) ((List.mem_singleton.mp hI) ▸ Nat.lt_irrefl _)
  · show IsRangeIter _ _ _ _ _
    rw [hsz]
    simpa using Heap.get?_push_size _ rfl
  · refine rest_all (fun i m' n' => (∀ p ∈ n', p.1 ≠ s.heap.objs.size) ∧ J i m' n') ⟨fun p hp => Nat.ne_of_lt (Heap.lt_size (N p hp).1), hj⟩ ?_ ?_
    · rintro i a v m nx h tk its hx hv ⟨hoff, hJ⟩ ho F₁ N₁
      have hi : i < n := by
        have := (List.getElem?_eq_some_iff.mp hx).1
        simpa [rangeItems] using this
      have ha : a = .tok fun t => .int (i : Int) t := by
        simp only [rangeItems, List.getElem?_map, List.getElem?_range hi, Option.map_some, Option.some.injEq] at hx
        exact hx.symm
      subst ha
      obtain ⟨t, rfl⟩ := hv
      obtain ⟨oI, rfl⟩ : ∃ oI, its = [(s.heap.objs.size, oI)] := by
        cases its with
        | nil => exact (show False from ho).elim
        | cons p ps =>
          obtain ⟨I', oI⟩ := p
          have e : I' = s.heap.objs.size := ho.1.1
          subst e
          cases ps with
          | nil => exact ⟨oI, rfl⟩
          | cons _ _ => exact (show False from ho.2).elim
      refine wpAny_mono (turn i t m nx h tk _ oI hi hJ hoff F₁ N₁) (fun _ s₂ h₂ => wpAny_mono h₂ (fun f s₃ q => ?_) fun _ _ e => e) fun _ _ e => e
      have up : ∀ {s₃ : Shared}, UnrEndW h₀ env.locals { s with heap := h, toks := tk } [(s.heap.objs.size, oI)] (J (i + 1)) s₃ →
          UnrEndW h₀ env.locals { s with heap := h, toks := tk } [(s.heap.objs.size, oI)] (fun m' n' => SubL [] n' ∧ (∀ p ∈ n', p.1 ≠ s.heap.objs.size) ∧ J (i + 1) m' n') s₃ := by
        rintro s₃ ⟨h', tk', m', news', e, F', N', ho', j⟩
        exact ⟨h', tk', m', news', e, F', N', ho', trivial, fun p hp => ho' p hp _ (.head _), j⟩
      cases f with
      | ret v => exact q
      | brk => exact q
      | next => exact up q
      | cont => exact up q
    · rintro m nx h tk ⟨_, hJ⟩ F₁ N₁
      have hl : (rangeItems n).length = n := by simp [rangeItems]
      rw [hl] at hJ
      exact done m nx h tk hJ F₁ N₁
end
theorem exec_join {M : Model} {A : Around} {E : Value → Shared → Prop} {s : Shared} {env : Env} {st : Stmt} {rest : List Stmt} {Q : Flow → Shared → Prop} (Mid : Shared → Prop)
    (h1 : wpAny M A (exec st env) (fun f s' => f = .next ∧ Mid s') E s) (h2 : ∀ s', Mid s' → wpAny M A (execs rest env) Q E s') : wpAny M A (execs (st :: rest) env) Q E s :=
  wpAny_execs_cons (wpAny_mono h1 (fun f s' h => by obtain ⟨rfl, hm⟩ := h; exact h2 s' hm) fun _ _ e => e)
/-! R5: the loop of _law_rows: what stays, what grows -/
theorem range_turnsZ {prog : Program} {w : World} {A : Around} {E : Value → Shared → Prop} {s : Shared} {env : Env} {h₀ : Heap} {x : Str} {pos : Pos} {body : List Stmt} {Q : Flow → Shared → Prop}
    {r : Addr} {t₀ u₀ v₀ : Tok} {k : Int} {m₀ : Str → Option Value} {news : List (Addr × Obj)} (J : Nat → (Str → Option Value) → List (Addr × Obj) → Prop)
    (hh : A.handled = none) (hk0 : 0 ≤ k) (hk1 : k ≤ 1000) (hr : IsRange s.heap r 0 k 1 t₀ u₀ v₀) (F : Fr h₀ env.locals s.heap m₀) (N : News h₀ env.locals s.heap news) (hj : J 0 m₀ news)
    (turn : ∀ i t m₁ nx h tk I oI, i < k.toNat → J i m₁ nx → (∀ p ∈ nx, p.1 ≠ I) → Fr h₀ env.locals h m₁ → News h₀ env.locals h ((I, oI) :: nx) →
      wpAny (model prog w) A (assign (.Name x pos) env (.int (i : Int) t)) (fun _ s₂ => wpAny (model prog w) A (execs body env) (UnrPostW h₀ env.locals { s with heap := h, toks := tk } [(I, oI)] (J (i + 1)) Q) E s₂) E { s with heap := h, toks := tk })
    (done : ∀ m₁ nx h tk, J k.toNat m₁ nx → Fr h₀ env.locals h m₁ → News h₀ env.locals h nx → Q .next { s with heap := h, toks := tk }) :
    wpAny (model prog w) A (pyIter (.ref r)) (fun it s₂ => TurnsAt prog w A h₀ env (.Name x pos) body Q E it s₂) E s := by
  obtain ⟨n, rfl⟩ := Int.eq_ofNat_of_zero_le hk0
  exact range_turns J hh hr (by omega) F N hj turn done
/-- no entry of l lies at one of as -/
def OffAll (l : List (Addr × Obj)) (as : List Addr) : Prop := ∀ p ∈ l, ∀ a ∈ as, p.1 ≠ a
theorem OffAll.ne {l : List (Addr × Obj)} {as : List Addr} (h : OffAll l as) {a : Addr} (m : a ∈ as) : AllNe a l := AllNe.of fun p hp => h p hp a m
theorem OffAll.ne' {l : List (Addr × Obj)} {as : List Addr} (h : OffAll l as) {a : Addr} (m : a ∈ as) : ∀ p ∈ l, p.1 ≠ a := fun p hp => h p hp a m
inductive RowsEnd (g : Heap) (L : Addr) (s : Shared) (stored : List Str) (m₀ : Str → Option Value) (I : Addr) (oI : Obj) (pen cells c3 c2 c1 fl : Addr) (o2 o1 : Obj) (vs : List Value) (sp : Int) (tl : List (Addr × Obj)) (rs : List Row) (s₂ : Shared) : Prop
  | mk (sp' : Int) (u1 : Tok) (st' : Int) (u2 : Tok) (o3' : Obj) (v3 : Option Value) (cap : Nat) (vsR : List Value) (r : Row) (tl' : List (Addr × Obj)) (h' : Heap) (tk' : Nat) (m' : Str → Option Value) : s₂ = { s with heap := h', toks := tk' } → Fr g L h' m' → (∀ y, stored.contains y = false → m' y = m₀ y) → News g L h' ((I, oI) :: (pen, penO cells sp' u1 st' u2) :: (cells, LCg.lst vs) :: (c3, o3') :: (c2, o2) :: (c1, o1) :: (fl, W.listOf vsR.toArray cap) :: tl') → o3'.data = .cell v3 → sp ≤ sp' → sp' ≤ sp + 20 → 0 ≤ st' → (∀ p ∈ tl, p ∈ tl') → OffAll tl' [I, pen, cells, c3, c2, c1, fl] → DatAll tl' vsR (rowsD (rs ++ [r])) → r.2.1.length ≤ 4 → RowsEnd g L s stored m₀ I oI pen cells c3 c2 c1 fl o2 o1 vs sp tl rs s₂
def RowsPost (g : Heap) (L : Addr) (s : Shared) (stored : List Str) (m₀ : Str → Option Value) (I : Addr) (oI : Obj) (pen cells c3 c2 c1 fl : Addr) (o2 o1 : Obj) (vs : List Value) (sp : Int) (tl : List (Addr × Obj)) (rs : List Row) (f : Flow) (s₂ : Shared) : Prop :=
  match f with
  | .next => RowsEnd g L s stored m₀ I oI pen cells c3 c2 c1 fl o2 o1 vs sp tl rs s₂
  | _ => False
inductive RowsJ (stored : List Str) (m₀ : Str → Option Value) (pen cells c3 c2 c1 fl : Addr) (o2 o1 : Obj) (vs : List Value) (sp : Int) (l2 : List (Addr × Obj)) (i : Nat) (m' : Str → Option Value) (nx : List (Addr × Obj)) : Prop
  | mk (sp' : Int) (u1' : Tok) (st' : Int) (u2' : Tok) (o3' : Obj) (v3' : Option Value) (cap : Nat) (vsR : List Value) (rs : List Row) (tl : List (Addr × Obj)) : (∀ y, stored.contains y = false → m' y = m₀ y) →
      nx = (pen, penO cells sp' u1' st' u2') :: (cells, LCg.lst vs) :: (c3, o3') :: (c2, o2) :: (c1, o1) :: (fl, W.listOf vsR.toArray cap) :: tl → o3'.data = .cell v3' → rs.length = i → (∀ p ∈ l2, p ∈ tl) → OffAll tl [pen, cells, c3, c2, c1, fl] → 0 ≤ st' → sp ≤ sp' → sp' ≤ sp + 20 * i → DatAll tl vsR (rowsD rs) → (∀ r ∈ rs, r.2.1.length ≤ 4) → RowsJ stored m₀ pen cells c3 c2 c1 fl o2 o1 vs sp l2 i m' nx
theorem rows_loop {prog : Program} {w : World} {A : Around} {E : Value → Shared → Prop} {s : Shared} {env : Env} {g : Heap} {x : Str} {pos : Pos} {body : List Stmt} {Q : Flow → Shared → Prop}
    {r : Addr} {t₀ u₀ v₀ : Tok} {k : Int} {m₀ : Str → Option Value} (stored : List Str) {D0 fl pen cells c3 c2 c1 : Addr} {oD o3 o2 o1 : Obj} {v3 : Option Value} {sp st : Int} {u1 u2 : Tok} {vs : List Value} {l2 : List (Addr × Obj)}
    (hh : A.handled = none) (hk0 : 0 ≤ k) (hk1 : k ≤ 1000) (hr : IsRange s.heap r 0 k 1 t₀ u₀ v₀) (F : Fr g env.locals s.heap m₀)
    (N : News g env.locals s.heap ((D0, oD) :: (fl, W.listOf #[] 0) :: (pen, penO cells sp u1 st u2) :: (cells, LCg.lst vs) :: (c3, o3) :: (c2, o2) :: (c1, o1) :: l2)) (h3 : o3.data = .cell v3) (hst : 0 ≤ st)
    (off : OffAll l2 [pen, cells, c3, c2, c1, fl])
    (turn : ∀ (i : Nat) ti I oI sp' u1' st' u2' o3' v3' cap vsR rs tl u h tk, i < k.toNat → rs.length = i → @Ne Nat pen I ∧ @Ne Nat cells I ∧ @Ne Nat c3 I ∧ @Ne Nat c2 I ∧ @Ne Nat c1 I ∧ @Ne Nat fl I → OffAll tl [I, pen, cells, c3, c2, c1, fl] → (∀ p ∈ l2, p ∈ tl) → o3'.data = .cell v3' → 0 ≤ st' → sp ≤ sp' → sp' ≤ sp + 20 * i →
      DatAll tl vsR (rowsD rs) → Fr g env.locals h (stB stored u m₀) →
      News g env.locals h ((I, oI) :: (pen, penO cells sp' u1' st' u2') :: (cells, LCg.lst vs) :: (c3, o3') :: (c2, o2) :: (c1, o1) :: (fl, W.listOf vsR.toArray cap) :: tl) →
      wpAny (model prog w) A (assign (.Name x pos) env (.int (i : Int) ti)) (fun _ s₂ => wpAny (model prog w) A (execs body env) (RowsPost g env.locals { s with heap := h, toks := tk } stored m₀ I oI pen cells c3 c2 c1 fl o2 o1 vs sp' tl rs) E s₂) E { s with heap := h, toks := tk })
    (done : ∀ sp' u1' st' u2' o3' cap vsR rs tl u h tk, rs.length = k.toNat → (∀ p ∈ l2, p ∈ tl) → OffAll tl [pen, cells, c3, c2, c1, fl] → 0 ≤ st' → sp ≤ sp' → sp' ≤ sp + 20 * k → DatAll tl vsR (rowsD rs) → (∀ r ∈ rs, r.2.1.length ≤ 4) → Fr g env.locals h (stB stored u m₀) →
      News g env.locals h ((pen, penO cells sp' u1' st' u2') :: (cells, LCg.lst vs) :: (c3, o3') :: (c2, o2) :: (c1, o1) :: (fl, W.listOf vsR.toArray cap) :: tl) → Q .next { s with heap := h, toks := tk }) :
    wpAny (model prog w) A (pyIter (.ref r)) (fun it s₂ => TurnsAt prog w A g env (.Name x pos) body Q E it s₂) E s := by
  refine range_turnsZ (news := (pen, penO cells sp u1 st u2) :: (cells, LCg.lst vs) :: (c3, o3) :: (c2, o2) :: (c1, o1) :: (fl, W.listOf #[] 0) :: l2)
    (RowsJ stored m₀ pen cells c3 c2 c1 fl o2 o1 vs sp l2)
    hh hk0 hk1 hr F (News.part N fun p hp => ?_) ⟨sp, u1, st, u2, o3, v3, 0, [], [], l2, fun _ _ => rfl, rfl, h3, rfl, fun _ h => h, off, hst, by omega, by omega, .nil, fun _ h => nomatch h⟩ ?_ ?_
  · simp only [List.mem_cons] at hp ⊢
    rcases hp with rfl | rfl | rfl | rfl | rfl | rfl | hp <;> simp [*]
  · rintro i t m₁ nx h tk I oI hi ⟨sp', u1', st', u2', o3', v3', cap, vsR, rs, tl, hm, rfl, h3', hl, hsub, hoff, hs, hsp, hsp', hD, hl4⟩ hI F₁ N₁
    rw [stB_is hm] at F₁
    have hIs : @Ne Nat pen I ∧ @Ne Nat cells I ∧ @Ne Nat c3 I ∧ @Ne Nat c2 I ∧ @Ne Nat c1 I ∧ @Ne Nat fl I := ⟨hI _ (.head _), hI _ (.tail _ (.head _)), hI _ (.tail _ (.tail _ (.head _))), hI _ (.tail _ (.tail _ (.tail _ (.head _)))), hI _ (.tail _ (.tail _ (.tail _ (.tail _ (.head _))))), hI _ (.tail _ (.tail _ (.tail _ (.tail _ (.tail _ (.head _))))))⟩
    have hoffI : OffAll tl [I, pen, cells, c3, c2, c1, fl] := fun p hp a ha => by
      rcases List.mem_cons.mp ha with rfl | ha
      · exact hI p (by simp [hp])
      · exact hoff p hp a ha
    refine wpAny_mono (turn i t I oI sp' u1' st' u2' o3' v3' cap vsR rs tl m₁ h tk hi hl hIs hoffI hsub h3' hs hsp hsp' hD F₁ N₁) (fun _ s₂ h₂ => wpAny_mono h₂ (fun f s₃ q => ?_) fun _ _ e => e) fun _ _ e => e
    cases f with
    | ret v => exact (show False from q).elim
    | brk => exact (show False from q).elim
    | cont => exact (show False from q).elim
    | next =>
      obtain ⟨sp2, w1, st2, w2, o32, v32, cap2, vsR2, r2, tl2, h', tk', m', rfl, F', hm', N', h32, k1, k2, k3, k4, k5, k6, k7⟩ := (show RowsEnd _ _ _ _ _ _ _ _ _ _ _ _ _ _ _ _ _ _ _ _ from q)
      refine ⟨h', tk', m', _, rfl, F', N', fun p hp q hq => ?_, ⟨sp2, w1, st2, w2, o32, v32, cap2, vsR2, rs ++ [r2], tl2, hm', rfl, h32, by simp [hl], fun p hp => k4 p (hsub p hp), fun p hp a ha => k5 p hp a (List.mem_cons_of_mem _ ha), k3, by omega, by push_cast; omega, k6, fun r hr => by
        rcases List.mem_append.mp hr with hr | hr
        · exact hl4 r hr
        · rw [List.mem_singleton.mp hr]; exact k7⟩⟩
      rw [List.mem_singleton.mp hq]
      simp only [List.mem_cons] at hp
      rcases hp with rfl | rfl | rfl | rfl | rfl | rfl | hp
      · exact hIs.1
      · exact hIs.2.1
      · exact hIs.2.2.1
      · exact hIs.2.2.2.1
      · exact hIs.2.2.2.2.1
      · exact hIs.2.2.2.2.2
      · exact k5 p hp I (by simp)
  · rintro m₁ nx h tk ⟨sp', u1', st', u2', o3', v3', cap, vsR, rs, tl, hm, rfl, h3', hl, hsub, hoff, hs, hsp, hsp', hD, hl4⟩ F₁ N₁
    rw [stB_is hm] at F₁
    exact done sp' u1' st' u2' o3' cap vsR rs tl m₁ h tk hl hsub hoff hs hsp (by omega) hD hl4 F₁ N₁
theorem if_if {x : Str} {a b : Option Value} {m : Str → Option Value} : (fun y => if y = x then a else if y = x then b else m y) = fun y => if y = x then a else m y := funext fun y => by
  by_cases h : y = x <;> simp [h]
/-! R6: the states between the statements of _law_rows' loop -/
inductive MidA (g : Heap) (L : Addr) (s : Shared) (mp : Str → Option Value) (I : Addr) (oI : Obj) (pen cells : Addr) (front : List (Addr × Obj)) (lo hi : Int) (s' : Shared) : Prop
  | mk (x : Int) (t : Tok) (sp' : Int) (w1 : Tok) (st' : Int) (w2 : Tok) (h' : Heap) (tk' : Nat) : s' = { s with heap := h', toks := tk' } → lo ≤ sp' → sp' ≤ hi → 0 ≤ st' → Fr g L h' (fun y => if y = "place" then some (.int x t) else mp y) → News g L h' ((I, oI) :: (pen, penO cells sp' w1 st' w2) :: front) → MidA g L s mp I oI pen cells front lo hi s'
inductive MidB (g : Heap) (L : Addr) (s : Shared) (mp : Str → Option Value) (I : Addr) (oI : Obj) (pen cells : Addr) (front : List (Addr × Obj)) (x : Int) (t : Tok) (mx : Nat) (lo hi : Int) (s' : Shared) : Prop
  | mk (sl : Addr) (svs : List Value) (sns : List Int) (capS : Nat) (sp' : Int) (w1 : Tok) (st' : Int) (w2 : Tok) (h' : Heap) (tk' : Nat) : s' = { s with heap := h', toks := tk' } → lo ≤ sp' → sp' ≤ hi → 0 ≤ st' → IntsAre svs sns → sns.length ≤ mx → @Ne Nat I sl → @Ne Nat pen sl → AllNe sl front → Fr g L h' (fun y => if y = "some" then some (.ref sl) else if y = "place" then some (.int x t) else mp y) → News g L h' ((I, oI) :: (pen, penO cells sp' w1 st' w2) :: (sl, W.listOf svs.toArray capS) :: front) → MidB g L s mp I oI pen cells front x t mx lo hi s'
theorem MidA.intro {g : Heap} {L : Addr} {s : Shared} {mp : Str → Option Value} {I : Addr} {oI : Obj} {pen cells : Addr} {front led : List (Addr × Obj)} {lo hi x : Int} {t : Tok} {sp' st' : Int} {w1 w2 : Tok} {h' : Heap} {tk' : Nat}
    (F : Fr g L h' (fun y => if y = "place" then some (.int x t) else mp y)) (N : News g L h' led) (hp : (pen, penO cells sp' w1 st' w2) ∈ led) (hI : (I, oI) ∈ led) (hs : ∀ p ∈ front, p ∈ led) (k1 : lo ≤ sp') (k2 : sp' ≤ hi) (k3 : 0 ≤ st') :
    MidA g L s mp I oI pen cells front lo hi { s with heap := h', toks := tk' } :=
  ⟨x, t, sp', w1, st', w2, h', tk', rfl, k1, k2, k3, F, fun p hp' => N p (by
    rcases List.mem_cons.mp hp' with rfl | hp'
    · exact hI
    · rcases List.mem_cons.mp hp' with rfl | hp'
      · exact hp
      · exact hs p hp')⟩
theorem MidB.intro {g : Heap} {L : Addr} {s : Shared} {mp : Str → Option Value} {I : Addr} {oI : Obj} {pen cells : Addr} {front led : List (Addr × Obj)} {lo hi x : Int} {t : Tok} {sl : Addr} {svs : List Value} {sns : List Int} {capS : Nat} {mx : Nat} {sp' st' : Int} {w1 w2 : Tok} {h' : Heap} {tk' : Nat}
    (F : Fr g L h' (fun y => if y = "some" then some (.ref sl) else if y = "place" then some (.int x t) else mp y)) (N : News g L h' led) (hp : (pen, penO cells sp' w1 st' w2) ∈ led) (hl : (sl, W.listOf svs.toArray capS) ∈ led) (hi' : IntsAre svs sns) (hl5 : sns.length ≤ mx) (hI : (I, oI) ∈ led) (hs : ∀ p ∈ front, p ∈ led)
    (n1 : @Ne Nat I sl) (n2 : @Ne Nat pen sl) (n3 : AllNe sl front) (k1 : lo ≤ sp') (k2 : sp' ≤ hi) (k3 : 0 ≤ st') :
    MidB g L s mp I oI pen cells front x t mx lo hi { s with heap := h', toks := tk' } :=
  ⟨sl, svs, sns, capS, sp', w1, st', w2, h', tk', rfl, k1, k2, k3, hi', hl5, n1, n2, n3, F, fun p hp' => N p (by
    rcases List.mem_cons.mp hp' with rfl | hp'
    · exact hI
    · rcases List.mem_cons.mp hp' with rfl | hp'
      · exact hp
      · rcases List.mem_cons.mp hp' with rfl | hp'
        · exact hl
        · exact hs p hp')⟩
section
variable {M : Model} {A : Around} {E : Value → Shared → Prop} {s : Shared} {env : Env} {st : Stmt} {rest : List Stmt} {Q : Flow → Shared → Prop} {g : Heap} {L : Addr} {h : Heap} {mp : Str → Option Value} {I : Addr} {oI : Obj} {pen cells : Addr} {front : List (Addr × Obj)} {sp sk : Int} {u1 u2 : Tok}
theorem join1 (hi : Int) (_F : Fr g L s.heap mp) (_N : News g L s.heap ((I, oI) :: (pen, penO cells sp u1 sk u2) :: front))
    (h1 : wpAny M A (exec st env) (fun f s' => f = .next ∧ MidA g L s mp I oI pen cells front sp hi s') E s)
    (h2 : ∀ (x : Int) (t : Tok) (sp' : Int) (w1 : Tok) (st' : Int) (w2 : Tok) (h' : Heap) (tk' : Nat), sp ≤ sp' → sp' ≤ hi → 0 ≤ st' →
      Fr g L h' (fun y => if y = "place" then some (.int x t) else mp y) → News g L h' ((I, oI) :: (pen, penO cells sp' w1 st' w2) :: front) → wpAny M A (execs rest env) Q E { s with heap := h', toks := tk' }) :
    wpAny M A (execs (st :: rest) env) Q E s :=
  exec_join _ h1 fun s' ⟨x, t, sp', w1, st', w2, h', tk', e, k1, k2, k3, F', N'⟩ => e ▸ h2 x t sp' w1 st' w2 h' tk' k1 k2 k3 F' N'
theorem join2 {x₀ : Int} {t₀ : Tok} (hi : Int) (_F : Fr g L s.heap (fun y => if y = "place" then some (.int x₀ t₀) else mp y)) (_N : News g L s.heap ((I, oI) :: (pen, penO cells sp u1 sk u2) :: front))
    (h1 : wpAny M A (exec st env) (fun f s' => f = .next ∧ MidA g L s mp I oI pen cells front sp hi s') E s)
    (h2 : ∀ (x : Int) (t : Tok) (sp' : Int) (w1 : Tok) (st' : Int) (w2 : Tok) (h' : Heap) (tk' : Nat), sp ≤ sp' → sp' ≤ hi → 0 ≤ st' →
      Fr g L h' (fun y => if y = "place" then some (.int x t) else mp y) → News g L h' ((I, oI) :: (pen, penO cells sp' w1 st' w2) :: front) → wpAny M A (execs rest env) Q E { s with heap := h', toks := tk' }) :
    wpAny M A (execs (st :: rest) env) Q E s :=
  exec_join _ h1 fun s' ⟨x, t, sp', w1, st', w2, h', tk', e, k1, k2, k3, F', N'⟩ => e ▸ h2 x t sp' w1 st' w2 h' tk' k1 k2 k3 F' N'
theorem join3 {x : Int} {t : Tok} (hi : Int) (_F : Fr g L s.heap (fun y => if y = "place" then some (.int x t) else mp y)) (_N : News g L s.heap ((I, oI) :: (pen, penO cells sp u1 sk u2) :: front))
    (h1 : wpAny M A (exec st env) (fun f s' => f = .next ∧ MidB g L s mp I oI pen cells front x t 3 sp hi s') E s)
    (h2 : ∀ (sl : Addr) (svs : List Value) (sns : List Int) (capS : Nat) (sp' : Int) (w1 : Tok) (st' : Int) (w2 : Tok) (h' : Heap) (tk' : Nat), sp ≤ sp' → sp' ≤ hi → 0 ≤ st' → IntsAre svs sns → sns.length ≤ 3 → @Ne Nat I sl → @Ne Nat pen sl → AllNe sl front →
      Fr g L h' (fun y => if y = "some" then some (.ref sl) else if y = "place" then some (.int x t) else mp y) → News g L h' ((I, oI) :: (pen, penO cells sp' w1 st' w2) :: (sl, W.listOf svs.toArray capS) :: front) → wpAny M A (execs rest env) Q E { s with heap := h', toks := tk' }) :
    wpAny M A (execs (st :: rest) env) Q E s :=
  exec_join _ h1 fun s' ⟨sl, svs, sns, capS, sp', w1, st', w2, h', tk', e, k1, k2, k3, k4, kl, k5, k6, k7, F', N'⟩ => e ▸ h2 sl svs sns capS sp' w1 st' w2 h' tk' k1 k2 k3 k4 kl k5 k6 k7 F' N'
theorem join4 {x : Int} {t : Tok} {sl₀ : Addr} {o₀ : Obj} (hi : Int) (_F : Fr g L s.heap (fun y => if y = "some" then some (.ref sl₀) else if y = "place" then some (.int x t) else mp y)) (_N : News g L s.heap ((I, oI) :: (pen, penO cells sp u1 sk u2) :: (sl₀, o₀) :: front))
    (h1 : wpAny M A (exec st env) (fun f s' => f = .next ∧ MidB g L s mp I oI pen cells front x t 4 sp hi s') E s)
    (h2 : ∀ (sl : Addr) (svs : List Value) (sns : List Int) (capS : Nat) (sp' : Int) (w1 : Tok) (st' : Int) (w2 : Tok) (h' : Heap) (tk' : Nat), sp ≤ sp' → sp' ≤ hi → 0 ≤ st' → IntsAre svs sns → sns.length ≤ 4 → @Ne Nat I sl → @Ne Nat pen sl → AllNe sl front →
      Fr g L h' (fun y => if y = "some" then some (.ref sl) else if y = "place" then some (.int x t) else mp y) → News g L h' ((I, oI) :: (pen, penO cells sp' w1 st' w2) :: (sl, W.listOf svs.toArray capS) :: front) → wpAny M A (execs rest env) Q E { s with heap := h', toks := tk' }) :
    wpAny M A (execs (st :: rest) env) Q E s :=
  exec_join _ h1 fun s' ⟨sl, svs, sns, capS, sp', w1, st', w2, h', tk', e, k1, k2, k3, k4, kl, k5, k6, k7, F', N'⟩ => e ▸ h2 sl svs sns capS sp' w1 st' w2 h' tk' k1 k2 k3 k4 kl k5 k6 k7 F' N'
end
/-! R7: a comprehension with a test, by an invariant on its list and the ledger -/
section
variable {prog : Program} {w : World} {A : Around} {s : Shared} {h₀ : Heap} {L : Addr} {m : Str → Option Value} {env : Env}
theorem compT_rest {ct elt : Expr} {x : Str} {scope : Scope} {cl : List (Str × Addr)} {S : List (Addr × Obj) → Prop} {P : Nat → Value → Prop} {Fin : List Value → List (Addr × Obj) → Prop} (J : Nat → List Value → List (Addr × Obj) → Prop) (n : Nat)
    (turn : ∀ i ys news v I oI C oC D m₂ h tk (E' : Value → Shared → Prop), i < n → J i ys news → P i v → LCg.NsObj oC m₂ → m₂ x = some v → Fr h₀ L h m → News h₀ L h ((I, oI) :: (C, oC) :: (D, LCg.lst ys) :: news) → LCg.Off3 I C D news → ((@Ne Nat I C) ∧ (@Ne Nat I D) ∧ (@Ne Nat C D)) →
      wpAny (model prog w) A (isTrue ct (compEnvC scope cl C env) (eval ct (compEnvC scope cl C env))) (fun ok s' => if ok = true then
        wpAny (model prog w) A (eval elt (compEnvC scope cl C env)) (LCg.CompEnd h₀ L m { s with heap := h, toks := tk } I oI C oC D (LCg.lst ys) S (fun y news' => J (i + 1) (ys ++ [y]) news')) E' s'
        else LCg.CompEnd h₀ L m { s with heap := h, toks := tk } I oI C oC D (LCg.lst ys) S (fun _ news' => J (i + 1) ys news') Value.none s') E' { s with heap := h, toks := tk }) :
    ∀ (k i : Nat) (ys : List Value) (news : List (Addr × Obj)), i + k ≤ n → (∀ ys news, J (i + k) ys news → Fin ys news) → J i ys news → LCt.CompRestT prog w A h₀ L m env ct elt x scope cl s S P Fin k i ys news
  | 0, i, ys, news, _, fin, hJ => LCt.CompRestT.zero (fin ys news hJ)
  | k + 1, i, ys, news, hn, fin, hJ => by
    refine LCt.CompRestT.succ fun v I oI C oC D m₂ h tk E' hP hC hx F N off ne => ?_
    have e9 : i + (k + 1) = i + 1 + k := by omega
    have fin' : ∀ ys news, J (i + 1 + k) ys news → Fin ys news := fun ys news h => fin ys news (e9 ▸ h)
    have up : ∀ {y : Value} {K₁ K₂ : Value → List (Addr × Obj) → Prop} {s' : Shared}, (∀ y n, K₁ y n → K₂ y n) → LCg.CompEnd h₀ L m { s with heap := h, toks := tk } I oI C oC D (LCg.lst ys) S K₁ y s' → LCg.CompEnd h₀ L m { s with heap := h, toks := tk } I oI C oC D (LCg.lst ys) S K₂ y s' := by
      rintro y K₁ K₂ s' hk ⟨h', tk', n', e, F', N', o', S', r⟩
      exact ⟨h', tk', n', e, F', N', o', S', hk _ _ r⟩
    refine wpAny_mono (turn i ys news v I oI C oC D m₂ h tk E' (by omega) hJ hP hC hx F N off ne) (fun ok s' q => ?_) fun _ _ e => e
    cases ok with
    | true =>
      rw [if_pos rfl] at q ⊢
      exact wpAny_mono q (fun y s'' c => up (fun y nw hj => compT_rest J n turn k (i + 1) (ys ++ [y]) nw (by omega) fin' hj) c) fun _ _ e => e
    | false =>
      rw [if_neg (by simp)] at q ⊢
      exact up (fun _ nw hj => compT_rest J n turn k (i + 1) ys nw (by omega) fin' hj) q
end
/-! R3: «for x in range(n)» by an invariant -/
section
variable {prog : Program} {w : World} {A : Around} {E : Value → Shared → Prop} {s : Shared} {env : Env} {h₀ : Heap} {x : Str} {body : List Stmt} {Q : Flow → Shared → Prop}
theorem range_loop {r : Addr} {t₀ u₀ v₀ : Tok} {n : Nat} {m₀ : Str → Option Value} {news : List (Addr × Obj)} (J : Nat → (Str → Option Value) → List (Addr × Obj) → Prop)
    (hh : A.handled = none) (hr : IsRange s.heap r 0 (n : Int) 1 t₀ u₀ v₀) (hn : n ≤ 1000) (F : Fr h₀ env.locals s.heap m₀) (N : News h₀ env.locals s.heap news) (hj : J 0 m₀ news)
    (turn : ∀ i t m₁ nx h tk own, i < n → OwnOff own (nx.map (·.1)) → J i m₁ nx → Fr h₀ env.locals h (fun y => if y = x then some (.int (i : Int) t) else m₁ y) → News h₀ env.locals h (nx ++ own) →
      wpAny (model prog w) A (execs body env) (InvPostG h₀ env.locals (J (i + 1)) own { s with heap := h, toks := tk } Q) E { s with heap := h, toks := tk })
    (done : ∀ m₁ nx h tk, J n m₁ nx → Fr h₀ env.locals h m₁ → News h₀ env.locals h nx → Q .next { s with heap := h, toks := tk }) :
    wpAny (model prog w) A (pyIter (.ref r)) (fun it s₂ => LoopAtV prog w A h₀ env x body Q E it s₂) E s := by
  have hsz : Builtin.Range.rangeSize 0 (n : Int) 1 = (n : Int) := by
    unfold Builtin.Range.rangeSize
    rw [if_pos (by decide)]
    by_cases h : (0 : Int) < n
    · rw [if_pos h]; simp
    · rw [if_neg h]; omega
  have hsmall : Builtin.Range.small 0 (n : Int) 1 = true := by
    unfold Builtin.Range.small
    rw [hsz]
    first
    | (simp [Builtin.Range.rangeFitsLong]; omega)
    | (unfold Builtin.Range.rangeFitsLong; simp; omega)
  refine wpAny_pyIter_range hr hsmall ?_
  have W : Walks prog w A s.heap.objs.size [s.heap.objs.size] [s.heap.objs.size] n (fun i v => i < n ∧ ∃ t, v = .int (0 + i * 1) t)
      (fun i h => IsRangeIter h s.heap.objs.size (0 + (i : Nat) * 1) ((n : Int) - (i : Nat)) 1) := (Walks.range hh _ 0 1 n).bound
  refine kdr_loop J W (fun _ h => h) (fun _ h => h) ?_ ?_ ?_ ?_ (by show IsRangeIter _ _ _ _ _; rw [hsz]; simpa using Heap.get?_push_size _ rfl) (F.push _) (fun p hp => ⟨Heap.get?_push_of_some _ (N p hp).1, (N p hp).2⟩) hj ?_ ?_
  · intro i h hi b hb
    rw [List.mem_singleton.mp hb]
    exact ⟨_, hi⟩
  · intro hm
    exact absurd F.ns.lt ((List.mem_singleton.mp hm) ▸ Nat.lt_irrefl _)
  · intro b hb
    rw [List.mem_singleton.mp hb]
    exact next_is_new F
  · intro p hp hI
    exact absurd (Heap.lt_size (N p hp).1) ((List.mem_singleton.mp hI) ▸ Nat.lt_irrefl _)
  · rintro i v m₁ nx h tk own hi ⟨_, t, rfl⟩ hoff hJ F₁ N₁
    have e1 : 0 + (i : Int) * 1 = (i : Int) := by omega
    rw [e1] at F₁
    exact turn i t m₁ nx h tk own hi hoff hJ F₁ N₁
  · intro m₁ nx h tk hJ F' N'
    exact done m₁ nx h tk hJ F' N'
end
/-! R8: «some = [elt for turn in range(..) if test]» in the loop of _law_rows -/
inductive MidR (g : Heap) (L : Addr) (s : Shared) (m : Str → Option Value) (I₀ : Addr) (oI₀ : Obj) (pen cells : Addr) (front : List (Addr × Obj)) (lo : Int) (v : Value) (s' : Shared) : Prop
  | mk (r : Addr) (k : Int) (t u1 u2 : Tok) (sp' : Int) (w1 : Tok) (st' : Int) (w2 : Tok) (h' : Heap) (tk' : Nat) : v = .ref r → s' = { s with heap := h', toks := tk' } → 0 ≤ k → k < 3 → IsRange h' r 0 k 1 t u1 u2 → lo ≤ sp' → sp' ≤ lo + 1 → 0 ≤ st' → Fr g L h' m → News g L h' ((I₀, oI₀) :: (pen, penO cells sp' w1 st' w2) :: front) → MidR g L s m I₀ oI₀ pen cells front lo v s'
theorem MidR.intro {g : Heap} {L : Addr} {s : Shared} {m : Str → Option Value} {I₀ : Addr} {oI₀ : Obj} {pen cells : Addr} {front led : List (Addr × Obj)} {lo k : Int} {r : Addr} {t u1 u2 : Tok} {sp' st' : Int} {w1 w2 : Tok} {h' : Heap} {tk' : Nat}
    (F : Fr g L h' m) (N : News g L h' led) (hr : IsRange h' r 0 k 1 t u1 u2) (hp : (pen, penO cells sp' w1 st' w2) ∈ led) (hI : (I₀, oI₀) ∈ led) (hs : ∀ p ∈ front, p ∈ led) (k0 : 0 ≤ k) (k1 : k < 3) (a1 : lo ≤ sp') (a2 : sp' ≤ lo + 1) (a3 : 0 ≤ st') :
    MidR g L s m I₀ oI₀ pen cells front lo (.ref r) { s with heap := h', toks := tk' } :=
  ⟨r, k, t, u1, u2, sp', w1, st', w2, h', tk', rfl, rfl, k0, k1, hr, a1, a2, a3, F, fun p hp' => N p (by
    rcases List.mem_cons.mp hp' with rfl | hp'
    · exact hI
    · rcases List.mem_cons.mp hp' with rfl | hp'
      · exact hp
      · exact hs p hp')⟩
/-- the list so far, the pen's place -/
inductive JR (I₀ : Addr) (oI₀ : Obj) (pen cells : Addr) (front : List (Addr × Obj)) (lo : Int) (i : Nat) (ys : List Value) (news : List (Addr × Obj)) : Prop
  | mk (sns : List Int) (sp' : Int) (w1 : Tok) (st' : Int) (w2 : Tok) : IntsAre ys sns → sns.length ≤ i → lo ≤ sp' → sp' ≤ lo + 1 + i → 0 ≤ st' → news = (I₀, oI₀) :: (pen, penO cells sp' w1 st' w2) :: front → JR I₀ oI₀ pen cells front lo i ys news
theorem ints_snoc : ∀ {ys : List Value} {sns : List Int}, IntsAre ys sns → ∀ (x : Int) (t : Tok), IntsAre (ys ++ [.int x t]) (sns ++ [x])
  | _, _, .nil, x, t => .cons x t .nil
  | _, _, .cons n u h, x, t => .cons n u (ints_snoc h x t)
theorem off1_ne {D : Addr} : ∀ {l : List (Addr × Obj)}, LCg.Off1 D l → AllNe D l
  | [], _ => trivial
  | _ :: _, h => ⟨h.1, off1_ne h.2⟩
def EndY (h₀ : Heap) (L : Addr) (m : Str → Option Value) (s₁ : Shared) (I : Addr) (oI : Obj) (C : Addr) (oC : Obj) (D : Addr) (oD : Obj) (K : Value → List (Addr × Obj) → Prop) (y : Value) (s₂ : Shared) : Prop := LCg.CompEnd h₀ L m s₁ I oI C oC D oD (fun _ => True) K y s₂
section
variable {g : Heap} {L : Addr} {s : Shared} {m : Str → Option Value} {I₀ : Addr} {oI₀ : Obj} {pen cells : Addr} {front led : List (Addr × Obj)} {lo : Int} {i : Nat} {ys : List Value} {sns : List Int} {I C D : Addr} {oI oC oD : Obj} {sp' st' : Int} {w1 w2 : Tok} {h' : Heap} {tk' : Nat}
theorem news_front {p : Addr × Obj} {a b : Addr × Obj} (ha : a ∈ led) (hb : b ∈ led) (hs : ∀ p ∈ front, p ∈ led) (hp : p ∈ a :: b :: front) : p ∈ led := by
  rcases List.mem_cons.mp hp with rfl | hp
  · exact ha
  · rcases List.mem_cons.mp hp with rfl | hp
    · exact hb
    · exact hs p hp
theorem endY_of {K : Value → List (Addr × Obj) → Prop} {y : Value} (F : Fr g L h' m) (N : News g L h' led) (mI : (I, oI) ∈ led) (mC : (C, oC) ∈ led) (mD : (D, oD) ∈ led) (mL : (I₀, oI₀) ∈ led) (mp : (pen, penO cells sp' w1 st' w2) ∈ led) (hs : ∀ p ∈ front, p ∈ led)
    {o₁ : Obj} (off : LCg.Off3 I C D ((I₀, oI₀) :: (pen, o₁) :: front)) (hk : K y ((I₀, oI₀) :: (pen, penO cells sp' w1 st' w2) :: front)) :
    EndY g L m s I oI C oC D oD K y { s with heap := h', toks := tk' } :=
  LCg.CompEnd.intro F N _ (fun p hp => by
    rcases List.mem_cons.mp hp with rfl | hp
    · exact mI
    · rcases List.mem_cons.mp hp with rfl | hp
      · exact mC
      · rcases List.mem_cons.mp hp with rfl | hp
        · exact mD
        · exact news_front mL mp hs hp) (show LCg.Off3 I C D ((I₀, oI₀) :: (pen, penO cells sp' w1 st' w2) :: front) from And.intro off.1 (And.intro off.2.1 off.2.2)) trivial hk
theorem endY_int {x : Int} {t : Tok} (hi : IntsAre ys sns) (hl : sns.length ≤ i) (F : Fr g L h' m) (N : News g L h' led) (mI : (I, oI) ∈ led) (mC : (C, oC) ∈ led) (mD : (D, oD) ∈ led) (mL : (I₀, oI₀) ∈ led) (mp : (pen, penO cells sp' w1 st' w2) ∈ led) (hs : ∀ p ∈ front, p ∈ led)
    {o₁ : Obj} (off : LCg.Off3 I C D ((I₀, oI₀) :: (pen, o₁) :: front)) (a1 : lo ≤ sp') (a2 : sp' ≤ lo + 1 + (i + 1 : Nat)) (a3 : 0 ≤ st') :
    EndY g L m s I oI C oC D oD (fun y news' => JR I₀ oI₀ pen cells front lo (i + 1) (ys ++ [y]) news') (.int x t) { s with heap := h', toks := tk' } :=
  endY_of F N mI mC mD mL mp hs off ⟨sns ++ [x], sp', w1, st', w2, ints_snoc hi x t, by simp; omega, a1, a2, a3, rfl⟩
theorem endY_not (hi : IntsAre ys sns) (hl : sns.length ≤ i) (F : Fr g L h' m) (N : News g L h' led) (mI : (I, oI) ∈ led) (mC : (C, oC) ∈ led) (mD : (D, oD) ∈ led) (mL : (I₀, oI₀) ∈ led) (mp : (pen, penO cells sp' w1 st' w2) ∈ led) (hs : ∀ p ∈ front, p ∈ led)
    {o₁ : Obj} (off : LCg.Off3 I C D ((I₀, oI₀) :: (pen, o₁) :: front)) (a1 : lo ≤ sp') (a2 : sp' ≤ lo + 1 + (i + 1 : Nat)) (a3 : 0 ≤ st') :
    EndY g L m s I oI C oC D oD (fun _ news' => JR I₀ oI₀ pen cells front lo (i + 1) ys news') .none { s with heap := h', toks := tk' } :=
  endY_of F N mI mC mD mL mp hs off ⟨sns, sp', w1, st', w2, hi, by omega, a1, a2, a3, rfl⟩
end
section
variable {prog : Program} {w : World} {A : Around} {E : Value → Shared → Prop} {s : Shared} {g : Heap} {env : Env} {I₀ : Addr} {oI₀ : Obj} {pen cells : Addr} {front : List (Addr × Obj)} {mp : Str → Option Value}
theorem comp_some {ct elt iter : Expr} {x : Str} {px py : Pos} {scope : Scope} {cl : List (Str × Addr)} {pos spos : Pos} {x₀ : Int} {t₀ : Tok} {lo : Int}
    (hh : A.handled = none) (F₀ : Fr g env.locals s.heap (fun z => if z = "place" then some (.int x₀ t₀) else mp z))
    (hsw : swapsWith (.ListComp elt [⟨.Name x px, iter, [ct], 0⟩] scope pos) (some (.Name "some" py)) spos.line env = pure true)
    (hclos : closureFor scope env = pure cl) (hcell : ∀ z ∈ scope.names, z.2 ≠ .cell) (hkind : scope.kind = .function)
    (hnames : ∀ z ∈ scope.names, z.2 = .local → scope.names.lookup z.1 = some .local) (hx : scope.names.lookup x = some .local)
    (hy : env.kindOf "some" = some .local) (hp : (env.scope.kind == .class || (env.scope.kind == .module && env.locals != env.globals)) = false)
    (hit : wpAny (model prog w) A (eval iter env) (MidR g env.locals s (fun z => if z = "place" then some (.int x₀ t₀) else mp z) I₀ oI₀ pen cells front lo) E s)
    (turn : ∀ (i : Nat) (ys : List Value) (sns : List Int) (sp' : Int) (w1 : Tok) (st' : Int) (w2 : Tok) (t : Tok) I oI C oC D m₂ h tk (E' : Value → Shared → Prop), i < 3 → IntsAre ys sns → sns.length ≤ i → lo ≤ sp' → sp' ≤ lo + 1 + i → 0 ≤ st' →
      LCg.NsObj oC m₂ → m₂ x = some (.int (i : Int) t) → Fr g env.locals h (fun z => if z = "place" then some (.int x₀ t₀) else mp z) → News g env.locals h ((I, oI) :: (C, oC) :: (D, LCg.lst ys) :: (I₀, oI₀) :: (pen, penO cells sp' w1 st' w2) :: front) →
      LCg.Off3 I C D ((I₀, oI₀) :: (pen, penO cells sp' w1 st' w2) :: front) → ((@Ne Nat I C) ∧ (@Ne Nat I D) ∧ (@Ne Nat C D)) →
      wpAny (model prog w) A (isTrue ct (compEnvC scope cl C env) (eval ct (compEnvC scope cl C env))) (fun ok s' => if ok = true then
        wpAny (model prog w) A (eval elt (compEnvC scope cl C env)) (EndY g env.locals (fun z => if z = "place" then some (.int x₀ t₀) else mp z) { s with heap := h, toks := tk } I oI C oC D (LCg.lst ys) (fun y news' => JR I₀ oI₀ pen cells front lo (i + 1) (ys ++ [y]) news')) E' s'
        else EndY g env.locals (fun z => if z = "place" then some (.int x₀ t₀) else mp z) { s with heap := h, toks := tk } I oI C oC D (LCg.lst ys) (fun _ news' => JR I₀ oI₀ pen cells front lo (i + 1) ys news') Value.none s') E' { s with heap := h, toks := tk })
    (hs : ∀ x, foldedSetIterable iter env x = pure x := by intro _; rfl) :
    wpAny (model prog w) A (exec (.Assign [.Name "some" py] (.ListComp elt [⟨.Name x px, iter, [ct], 0⟩] scope pos) spos) env) (fun f s' => f = .next ∧ MidB g env.locals s mp I₀ oI₀ pen cells front x₀ t₀ 3 lo (lo + 4) s') E s := by
  refine LCt.Assign_ListComp_T F₀ rfl hsw hclos hcell hkind hnames hx hy hp (wpAny_mono hit (fun v s' hm => ?_) fun _ _ e => e) hs
  obtain ⟨r, k, t, u1, u2, sp', w1, st', w2, h', tk', rfl, rfl, k0, k1, hr, a1, a2, a3, F', N'⟩ := hm
  refine LCt.CompSrcT.range (n := (k - 0).toNat) hh F' N' hr (small_one (by omega) (by omega) (by omega) (by omega)) (rangeSize_nat _ _) (by rw [sizeLine_eq]; omega) fun g₁ => ?_
  refine compT_rest (JR I₀ oI₀ pen cells front lo) 3 ?_ (k - 0).toNat 0 [] _ (by omega) ?_ ⟨[], sp', w1, st', w2, .nil, by simp, a1, by omega, a3, rfl⟩
  · rintro i ys news v I oI C oC D m₂ h tk E' hi3 ⟨sns, sp2, v1, st2, v2, hi, hl, b1, b2, b3, rfl⟩ ⟨t2, rfl⟩ hC hx' F2 N2 off ne
    have e1 : (0 : Int) + (i : Int) = (i : Int) := by omega
    rw [e1] at hx'
    exact turn i ys sns sp2 v1 st2 v2 t2 I oI C oC D m₂ h tk E' hi3 hi hl b1 b2 b3 hC hx' F2 N2 off ne
  · rintro ys news ⟨sns, sp2, v1, st2, v2, hi, hl, b1, b2, b3, rfl⟩ D h tk F2 N2 off
    have off' : (@Ne Nat I₀ D) ∧ (@Ne Nat pen D) ∧ LCg.Off1 D front := off
    refine ⟨rfl, D, ys, sns, ys.length, sp2, v1, st2, v2, h, tk, rfl, b1, by omega, b3, hi, by omega, off'.1, off'.2.1, off1_ne off'.2.2, F2, fun p hp => ?_⟩
    refine N2 p ?_
    rcases List.mem_cons.mp hp with rfl | hp
    · exact .tail _ (.head _)
    · rcases List.mem_cons.mp hp with rfl | hp
      · exact .tail _ (.tail _ (.head _))
      · rcases List.mem_cons.mp hp with rfl | hp
        · exact .head _
        · exact .tail _ (.tail _ (.tail _ hp))
end
/-! R9: append to a list anywhere in the ledger -/
section
variable {prog : Program} {w : World} {A : Around} {E : Value → Shared → Prop} {s : Shared} {h₀ : Heap} {L D : Addr} {m : Str → Option Value} {led rest : List (Addr × Obj)}
theorem append_R {its : Array Value} {n : Nat} {x : Value} {Q : Value → Shared → Prop} (F : Fr h₀ L s.heap m) (N : News h₀ L s.heap led) (R : Rem (D, W.listOf its n) led rest) (ne : AllNe D rest) (hsz : its.size ≤ 100)
    (h : ∀ h', Fr h₀ L h' m → News h₀ L h' ((D, W.listOf (its.push x) (n + 1)) :: rest) → Q .none { s with heap := h' }) : wpAny (model prog w) A (call (.builtin "list.append") [.ref D, x]) Q E s := by
  have N' := R.news N
  have z := N' (D, W.listOf its n) (.head _)
  exact append_at (hsz := by rw [sizeLine_eq]; omega) z.1 fun h' hs ho' => h h' (F.change hs z.2.1 z.2.2) (news_set (pre := []) N' (fun p hp => nomatch hp) ne.mem hs ho')
end
theorem size_len {vs : List Value} {ns : List Int} {k : Nat} (h : IntsAre vs ns) (hk : ns.length ≤ k) (hk' : k ≤ 100 := by decide) : vs.toArray.size ≤ 100 := by
  rw [List.size_toArray, h.length]; omega
theorem push_arr (vs : List Value) (x : Value) : vs.toArray.push x = (vs ++ [x]).toArray := by simp
theorem datAll_snoc {nw : List (Addr × Obj)} : ∀ {vs : List Value} {ds : List Dat} {v : Value} {d : Dat}, DatAll nw vs ds → DatIn nw v d → DatAll nw (vs ++ [v]) (ds ++ [d])
  | _, _, _, _, .nil, h => .cons h .nil
  | _, _, _, _, .cons a b, h => .cons a (datAll_snoc b h)
theorem RowsPost.intro {g : Heap} {L : Addr} {s : Shared} {m₀ u : Str → Option Value} {I : Addr} {oI : Obj} {pen cells c3 c2 c1 fl : Addr} {o3' o2 o1 : Obj} {vs : List Value} {sp : Int} {tl : List (Addr × Obj)} {rs : List Row} {h' : Heap} {tk' : Nat}
    {sp' st' : Int} {u1 u2 : Tok} {v3 : Option Value} {cap capS : Nat} {vsR svs : List Value} {sns : List Int} {D sl : Addr} {x k : Int} {t t3 : Tok}
    (F : Fr g L h' (fun y => if y = "some" then some (.ref sl) else if y = "place" then some (.int x t) else stB ["place", "some"] u m₀ y))
    {mn : Addr} {om : Obj} (N0 : News g L h' ((fl, W.listOf (vsR ++ [Value.ref D]).toArray cap) :: (D, tupObj [.int x t, .ref sl, .int k t3]) :: (pen, penO cells sp' u1 st' u2) :: (cells, LCg.lst vs) :: (mn, om) :: (I, oI) :: (sl, W.listOf svs.toArray capS) :: (c3, o3') :: (c2, o2) :: (c1, o1) :: tl))
    (d3 : o3'.data = .cell v3) (k1 : sp ≤ sp') (k2 : sp' ≤ sp + 20) (k3 : 0 ≤ st') (hoff : OffAll tl [I, pen, cells, c3, c2, c1, fl])
    (nD : @Ne Nat I D ∧ @Ne Nat pen D ∧ @Ne Nat cells D ∧ @Ne Nat c3 D ∧ @Ne Nat c2 D ∧ @Ne Nat c1 D ∧ @Ne Nat fl D) (nS : @Ne Nat I sl ∧ @Ne Nat pen sl ∧ @Ne Nat cells sl ∧ @Ne Nat c3 sl ∧ @Ne Nat c2 sl ∧ @Ne Nat c1 sl ∧ @Ne Nat fl sl)
    (hD : DatAll tl vsR (rowsD rs)) (hi : IntsAre svs sns) (hl : sns.length ≤ 4) :
    RowsPost g L s ["place", "some"] m₀ I oI pen cells c3 c2 c1 fl o2 o1 vs sp tl rs .next { s with heap := h', toks := tk' } := by
  have N : News g L h' ((I, oI) :: (pen, penO cells sp' u1 st' u2) :: (cells, LCg.lst vs) :: (c3, o3') :: (c2, o2) :: (c1, o1) :: (fl, W.listOf (vsR ++ [Value.ref D]).toArray cap) :: (D, tupObj [.int x t, .ref sl, .int k t3]) :: (sl, W.listOf svs.toArray capS) :: tl) := News.part N0 fun p hp => by
    simp only [List.mem_cons] at hp ⊢
    rcases hp with hp | hp | hp | hp | hp | hp | hp | hp | hp | hp <;> simp only [hp, true_or, or_true]
  have off : ∀ {d : Addr}, (@Ne Nat I d ∧ @Ne Nat pen d ∧ @Ne Nat cells d ∧ @Ne Nat c3 d ∧ @Ne Nat c2 d ∧ @Ne Nat c1 d ∧ @Ne Nat fl d) → ∀ a ∈ [I, pen, cells, c3, c2, c1, fl], d ≠ a := by
    rintro d ⟨h1, h2, h3, h4, h5, h6, h7⟩ a ha
    simp only [List.mem_cons, List.not_mem_nil, or_false] at ha
    rcases ha with rfl | rfl | rfl | rfl | rfl | rfl | rfl
    · exact Ne.symm h1
    · exact Ne.symm h2
    · exact Ne.symm h3
    · exact Ne.symm h4
    · exact Ne.symm h5
    · exact Ne.symm h6
    · exact Ne.symm h7
  have sub : ∀ p ∈ tl, p ∈ (D, tupObj [.int x t, .ref sl, .int k t3]) :: (sl, W.listOf svs.toArray capS) :: tl := fun p hp => .tail _ (.tail _ hp)
  refine ⟨sp', u1, st', u2, o3', v3, cap, vsR ++ [Value.ref D], (x, sns, k), _, h', tk', _, rfl, F, fun y hy => keep_if (st_ne hy (by decide)) (keep_if (st_ne hy (by decide)) (stB_out hy)), N, d3, k1, k2, k3, sub, fun p hp a ha => ?_, ?_, hl⟩
  · rcases List.mem_cons.mp hp with rfl | hp
    · exact off nD a ha
    · rcases List.mem_cons.mp hp with rfl | hp
      · exact off nS a ha
      · exact hoff p hp a ha
  · show DatAll _ _ (List.map rowD (rs ++ [(x, sns, k)]))
    rw [List.map_append]
    refine datAll_snoc (hD.mono sub) ?_
    exact .tuple (.head _) (.cons (.int _ _) (.cons (.list (.tail _ (.head _)) (dat_of_ints hi)) (.cons (.int _ _) .nil)))
theorem size_dat {tl : List (Addr × Obj)} {vsR : List Value} {rs : List Row} {n : Nat} (hD : DatAll tl vsR (rowsD rs)) (h : rs.length = n) (hn : n ≤ 100) : vsR.toArray.size ≤ 100 := by
  have := hD.length
  rw [List.size_toArray, this, List.length_map]; omega
/-! the pen's place: 0 ≤ sp, sp < B, sp ≤ lo + k, lo ≤ sp, carried along -/
theorem sp_z {a b : Int} (h : 0 ≤ a) (k : a ≤ b) : 0 ≤ b := Int.le_trans h k
theorem sp_b {a b B : Int} (h : a < B) (k : b ≤ a + 1) : b < B + 1 := by omega
theorem sp_u {a b lo : Int} {n : Nat} (h : a ≤ lo + n) (k : b ≤ a + 1) : b ≤ lo + (n + 1 : Nat) := by omega
theorem sp_l {a b lo : Int} (h : lo ≤ a) (k : a ≤ b) : lo ≤ b := Int.le_trans h k
theorem sp_up {a lo : Int} {n m : Nat} (h : a ≤ lo + n) (k : n ≤ m) : a ≤ lo + m := by omega
theorem ne_12 (n : Nat) : @Ne Nat (n + 1 + 1) (n + 1) := by omega
theorem ne_13 (n : Nat) : @Ne Nat (n + 1 + 1 + 1) (n + 1) := by omega
theorem ne_23 (n : Nat) : @Ne Nat (n + 1 + 1 + 1) (n + 1 + 1) := by omega
theorem sp_fin {a lo m : Int} {n : Nat} (h : a ≤ lo + n) (k : (n : Int) ≤ m) : a ≤ lo + m := by omega
theorem sp_bk {a b B k : Int} (h : a < B) (x : b ≤ a + k) : b < B + k := by omega
theorem sp_bc {a b B : Int} {i : Nat} (h : a < B) (x : b ≤ a + 1 + i) (y : i < 3) : b < B + 3 := by omega
theorem sp_e0 {b lo : Int} {i : Nat} (x : b ≤ lo + 1 + i) : b ≤ lo + 1 + (i + 1 : Nat) := by omega
theorem sp_0 (a : Int) : a ≤ a + (0 : Nat) := by simp
theorem sp_t {d : Int} {i : Nat} (h : i < d.toNat) (k : d < 7) : i ≤ 100 := by omega
theorem sp_20 {a b c d e f : Int} {n : Nat} (h1 : b ≤ a + 4) (h2 : c ≤ b + 2) (h3 : d ≤ c + 4) (h4 : e ≤ d + 2) (h5 : f ≤ e + n) (h6 : n ≤ 4 := by decide) : f ≤ a + 20 := by omega
/-! P5: programs: the data -/
def OrdsIn (nw : List (Addr × Obj)) (ovs : List Value) : Prop := ∀ (i : Nat) (v : Value), ovs[i]? = some v → ∃ c, (c = 183 ∨ c = 149) ∧ (c = 149 ↔ i + 1 = ovs.length) ∧ OrdIn nw v c
theorem OrdsIn.mono {nw nw' : List (Addr × Obj)} (h : ∀ p ∈ nw, p ∈ nw') {ovs : List Value} (x : OrdsIn nw ovs) : OrdsIn nw' ovs := fun i v hv => let ⟨c, h1, h2, h3⟩ := x i v hv; ⟨c, h1, h2, h3.mono h⟩
inductive ProgIn (nw : List (Addr × Obj)) (v : Value) (ovs : List Value) : Prop
  | mk (pg pgd ol su : Addr) (x1 x2 x3 x4 x5 : Int) (y1 y2 y3 y4 y5 t4 t5 : Tok) (v2 v3 : Value) (cap cap2 : Nat) : v = .ref pg → (pg, instObj 804 pgd) ∈ nw → (pgd, dictOf [⟨x1, .str "orders" y1, .ref ol⟩, ⟨x2, .str "slots" y2, v2⟩, ⟨x3, .str "by_slot" y3, v3⟩, ⟨x4, .str "many_slots" y4, .int (ovs.length : Int) t4⟩, ⟨x5, .str "subs" y5, .ref su⟩] 5) ∈ nw → (ol, W.listOf ovs.toArray cap) ∈ nw → (su, W.listOf #[.int 0 t5] cap2) ∈ nw → ProgIn nw v ovs
theorem ProgIn.mono {nw nw' : List (Addr × Obj)} (h : ∀ p ∈ nw, p ∈ nw') {v : Value} {ovs : List Value} : ProgIn nw v ovs → ProgIn nw' v ovs
  | ⟨pg, pgd, ol, su, x1, x2, x3, x4, x5, y1, y2, y3, y4, y5, t4, t5, v2, v3, cap, cap2, e, h1, h2, h3, h4⟩ => ⟨pg, pgd, ol, su, x1, x2, x3, x4, x5, y1, y2, y3, y4, y5, t4, t5, v2, v3, cap, cap2, e, h _ h1, h _ h2, h _ h3, h _ h4⟩
section
variable {prog : Program} {w : World} {A : Around} {E : Value → Shared → Prop} {s : Shared} {h₀ : Heap} {L : Addr} {news : List (Addr × Obj)} {a : Addr} {vs : List Value} {cap n : Nat} {Q : Value → Shared → Prop}
/-- an item of a list in the ledger, its place in bounds -/
theorem listAt {value slice : Expr} {k : Int} {u : Tok} (N : News h₀ L s.heap news) (hm : (a, W.listOf vs.toArray cap) ∈ news) (h0 : 0 ≤ k) (h1 : k < vs.length) (hz : vs.length ≤ 100)
    (h : ∀ v, vs[k.toNat]? = some v → Q v s)
    (hs : subscripted slice false (.ref a) (.int k u) = operate [.ref a, .int k u] (getItem (.ref a) (.int k u)) := by with_unfolding_all rfl) :
    wpAny (model prog w) A (subscriptTail value slice (.ref a) (.int k u)) Q E s := by
  have hk : k.toNat < vs.length := by omega
  have hl : s.heap.IsList a vs.toArray := ⟨_, (N _ hm).1, rfl, cap, rfl⟩
  exact tail_any hl.typeIs slot_list_getitem.lookup (wpAny_getItem_list hl h0 (by omega) (by simp [hk]) (h vs[k.toNat] (List.getElem?_eq_getElem hk))) hs
end
theorem size_line (vs : List Value) (h : vs.length ≤ 10) : vs.toArray.size ≤ sizeLine := by rw [List.size_toArray, sizeLine_eq]; omega
section
variable {prog : Program} {w : World} {A : Around} {E : Value → Shared → Prop} {s : Shared} {h₀ : Heap} {L : Addr} {news nw : List (Addr × Obj)} {a : Addr} {vs : List Value} {cap n : Nat} {Q : Value → Shared → Prop}
theorem ordAt {value slice : Expr} {k : Int} {u : Tok} (N : News h₀ L s.heap news) (hm : (a, W.listOf vs.toArray cap) ∈ news) (ho : OrdsIn nw vs) (h0 : 0 ≤ k) (h1 : k < vs.length) (hz : vs.length ≤ 100)
    (h : ∀ v c, (c = 183 ∨ c = 149) → (c = 149 ↔ k + 1 = vs.length) → OrdIn nw v c → Q v s)
    (hs : subscripted slice false (.ref a) (.int k u) = operate [.ref a, .int k u] (getItem (.ref a) (.int k u)) := by with_unfolding_all rfl) :
    wpAny (model prog w) A (subscriptTail value slice (.ref a) (.int k u)) Q E s :=
  listAt N hm h0 h1 hz (fun v hv => by
    obtain ⟨c, h2, h3, h4⟩ := ho _ _ hv
    exact h v c h2 (h3.trans ⟨fun e => by omega, fun e => by omega⟩) h4) hs
end
theorem OrdIn.up {nw nw' : List (Addr × Obj)} {v : Value} {c : Int} (x : OrdIn nw v c) (h : ∀ p ∈ nw, p ∈ nw') : OrdIn nw' v c := x.mono h
theorem room_lt {dp a b c : Nat} (h : dp + b < c) (e : a ≤ b) : dp + a < c := by omega
section
variable {dp un : Nat} {gd : Option (List Code)} {cn : Str} {cs : Scope} {a L : Addr} {ccd : Value} {cl : List (Str × Addr)} {outer : List Env}
theorem ktr_depth : (ktrTop dp un gd cn cs L a ccd cl outer).depth = dp := rfl
theorem ktr_unit : (ktrTop dp un gd cn cs L a ccd cl outer).units = un := rfl
end
/-! R10: «for x in range(n)» that leaves the ledger as it lies; the loop of Program.__init__ -/
section
variable {prog : Program} {w : World} {A : Around} {E : Value → Shared → Prop} {s : Shared} {env : Env} {h₀ : Heap} {x : Str} {pos : Pos} {body : List Stmt} {Q : Flow → Shared → Prop}
theorem range_inv {r : Addr} {t₀ u₀ v₀ : Tok} {n : Nat} {m₀ : Str → Option Value} {nw : List (Addr × Obj)} (stored : List Str) (P : Nat → (Str → Option Value) → Prop)
    (hh : A.handled = none) (hr : IsRange s.heap r 0 (n : Int) 1 t₀ u₀ v₀) (hn : n ≤ 1000) (F : Fr h₀ env.locals s.heap m₀) (N : News h₀ env.locals s.heap nw) (h0 : P 0 m₀)
    (turn : ∀ i t u h tk nw', i < n → P i u → (∀ p ∈ nw, p ∈ nw') → Fr h₀ env.locals h (stB stored u m₀) → News h₀ env.locals h nw' →
      wpAny (model prog w) A (assign (.Name x pos) env (.int (i : Int) t)) (fun _ s₂ => wpAny (model prog w) A (execs body env) (TurnPost h₀ env.locals { s with heap := h, toks := tk } nw' (fun m' => (∀ y, stored.contains y = false → m' y = m₀ y) ∧ P (i + 1) m') Q) E s₂) E { s with heap := h, toks := tk })
    (done : ∀ u h tk, P n u → Fr h₀ env.locals h (stB stored u m₀) → News h₀ env.locals h nw → Q .next { s with heap := h, toks := tk }) :
    wpAny (model prog w) A (pyIter (.ref r)) (fun it s₂ => TurnsAt prog w A h₀ env (.Name x pos) body Q E it s₂) E s := by
  refine range_turns (fun i m' nx => nx = nw ∧ (∀ y, stored.contains y = false → m' y = m₀ y) ∧ P i m') hh hr hn F N ⟨rfl, fun _ _ => rfl, h0⟩ ?_ ?_
  · rintro i t m₁ nx h tk I oI hi ⟨rfl, hm, hP⟩ hI F₁ N₁
    rw [stB_is hm] at F₁
    refine wpAny_mono (turn i t m₁ h tk _ hi hP (fun p hp => List.mem_cons_of_mem _ hp) F₁ N₁) (fun _ s₂ h₂ => wpAny_mono h₂ (fun f s₃ q => ?_) fun _ _ e => e) fun _ _ e => e
    have up : ∀ {s₃ : Shared}, (∃ h' tk' m', s₃ = { ({ s with heap := h, toks := tk } : Shared) with heap := h', toks := tk' } ∧ Fr h₀ env.locals h' m' ∧ News h₀ env.locals h' ((I, oI) :: nx) ∧ ((∀ y, stored.contains y = false → m' y = m₀ y) ∧ P (i + 1) m')) →
        UnrEndW h₀ env.locals { s with heap := h, toks := tk } [(I, oI)] (fun m' n' => n' = nx ∧ (∀ y, stored.contains y = false → m' y = m₀ y) ∧ P (i + 1) m') s₃ := by
      rintro s₃ ⟨h', tk', m', e, F', N', k1, k2⟩
      exact ⟨h', tk', m', nx, e, F', N', fun p hp q hq => by rw [List.mem_singleton.mp hq]; exact hI p hp, rfl, k1, k2⟩
    cases f with
    | ret v => exact q
    | brk => exact q
    | next => exact up q
    | cont => exact up q
  · rintro m₁ nx h tk ⟨rfl, hm, hP⟩ F₁ N₁
    rw [stB_is hm] at F₁
    exact done m₁ h tk hP F₁ N₁
end
/-- between the turns of the loop over the orders in Program.__init__ -/
inductive SlotsJ (prog : Program) (w : World) (m₀ : Str → Option Value) (ds ls : Addr) (front : List (Addr × Obj)) (i : Nat) (m' : Str → Option Value) (nx : List (Addr × Obj)) : Prop
  | mk (o : Obj) (kvs : List (Int × Value)) (c : List (Int × Int)) (vs : List Value) (cap : Nat) (t : Tok) : o.IsDictOf (PySem.intKind prog w) kvs → PyProof.V.FlatPairs PyData.int kvs (kdfD c) → c.length ≤ i → vs.length ≤ i → m' "slot" = some (.int (i : Int) t) → (∀ y, (["slot", "index"] : List Str).contains y = false → m' y = m₀ y) →
      nx = (ds, o) :: (ls, W.listOf vs.toArray cap) :: front → SlotsJ prog w m₀ ds ls front i m' nx
inductive SlotsEnd (prog : Program) (w : World) (g : Heap) (L : Addr) (s : Shared) (m₀ : Str → Option Value) (I : Addr) (oI : Obj) (ds ls : Addr) (front : List (Addr × Obj)) (i : Nat) (s₂ : Shared) : Prop
  | mk (h' : Heap) (tk' : Nat) (m' : Str → Option Value) (nx : List (Addr × Obj)) : s₂ = { s with heap := h', toks := tk' } → Fr g L h' m' → News g L h' ((I, oI) :: nx) → SlotsJ prog w m₀ ds ls front (i + 1) m' nx → SlotsEnd prog w g L s m₀ I oI ds ls front i s₂
def SlotsPost (prog : Program) (w : World) (g : Heap) (L : Addr) (s : Shared) (m₀ : Str → Option Value) (I : Addr) (oI : Obj) (ds ls : Addr) (front : List (Addr × Obj)) (i : Nat) (f : Flow) (s₂ : Shared) : Prop := match f with
  | .next => SlotsEnd prog w g L s m₀ I oI ds ls front i s₂
  | _ => False
theorem slot_map {m m₀ : Str → Option Value} {v : Option Value} (h : m "slot" = v) (k : ∀ y, (["slot", "index"] : List Str).contains y = false → m y = m₀ y) : m = fun (y : Str) => if y = "slot" then v else stB ["slot", "index"] m m₀ y := funext fun y => by
  by_cases e : y = "slot"
  · subst e; rw [h]; simp
  · show m y = if y = "slot" then v else stB ["slot", "index"] m m₀ y
    rw [if_neg e]
    exact congrFun (stB_is k) y
section
variable {prog : Program} {w : World} {A : Around} {E : Value → Shared → Prop} {s : Shared} {env : Env} {g : Heap} {x : Str} {pos : Pos} {body : List Stmt} {Q : Flow → Shared → Prop}
theorem slots_loop {r : Addr} {t₀ u₀ v₀ t : Tok} {n : Nat} {m₀ : Str → Option Value} {ds ls : Addr} {o₀ : Obj} {cap₀ : Nat} {front : List (Addr × Obj)}
    (hh : A.handled = none) (hr : IsRange s.heap r 0 (n : Int) 1 t₀ u₀ v₀) (hn : n ≤ 10) (F : Fr g env.locals s.heap (fun (y : Str) => if y = "slot" then some (.int 0 t) else m₀ y)) (N : News g env.locals s.heap ((ds, o₀) :: (ls, W.listOf #[] cap₀) :: front)) (hd : o₀.IsDictOf (PySem.intKind prog w) [])
    (turn : ∀ (i : Nat) (ti : Tok) (I : Addr) (oI o : Obj) (kvs : List (Int × Value)) (c : List (Int × Int)) (vs : List Value) (cap : Nat) (t : Tok) (u : Str → Option Value) (h : Heap) (tk : Nat), i < n → i ≤ 10 → o.IsDictOf (PySem.intKind prog w) kvs → PyProof.V.FlatPairs PyData.int kvs (kdfD c) → c.length ≤ 16777216 → vs.toArray.size ≤ 100 → (@Ne Nat ds I ∧ @Ne Nat ls I ∧ ∀ p ∈ front, p.1 ≠ I) →
      Fr g env.locals h (fun (y : Str) => if y = "slot" then some (.int (i : Int) t) else stB ["slot", "index"] u m₀ y) → News g env.locals h ((I, oI) :: (ds, o) :: (ls, W.listOf vs.toArray cap) :: front) →
      (∀ (o' : Obj) (kvs' : List (Int × Value)) (e1 e2 : Int) (x1 : Value) (cap' : Nat) (t' : Tok) (h' : Heap) (tk' : Nat) (m' : Str → Option Value), o'.IsDictOf (PySem.intKind prog w) kvs' → PyProof.V.FlatPairs PyData.int kvs' (kdfD (kdfPut c e1 e2)) → m' "slot" = some (.int ((i : Int) + 1) t') → (∀ y, (["slot", "index"] : List Str).contains y = false → m' y = m₀ y) → Fr g env.locals h' m' →
        News g env.locals h' ((I, oI) :: (ds, o') :: (ls, W.listOf (vs.toArray.push x1) cap') :: front) → SlotsPost prog w g env.locals { s with heap := h, toks := tk } m₀ I oI ds ls front i .next { s with heap := h', toks := tk' }) →
      wpAny (model prog w) A (assign (.Name x pos) env (.int (i : Int) ti)) (fun _ s₂ => wpAny (model prog w) A (execs body env) (SlotsPost prog w g env.locals { s with heap := h, toks := tk } m₀ I oI ds ls front i) E s₂) E { s with heap := h, toks := tk })
    (done : ∀ (o : Obj) (vs : List Value) (cap : Nat) (t : Tok) (u : Str → Option Value) (h : Heap) (tk : Nat), Fr g env.locals h (fun (y : Str) => if y = "slot" then some (.int (n : Int) t) else stB ["slot", "index"] u m₀ y) → News g env.locals h ((ds, o) :: (ls, W.listOf vs.toArray cap) :: front) → Q .next { s with heap := h, toks := tk }) :
    wpAny (model prog w) A (pyIter (.ref r)) (fun it s₂ => TurnsAt prog w A g env (.Name x pos) body Q E it s₂) E s := by
  refine range_turns (SlotsJ prog w m₀ ds ls front) hh hr (by omega) F N ⟨o₀, [], [], [], cap₀, t, hd, .nil, by simp, by simp, rfl, fun y hy => if_neg (st_ne hy (by decide)), rfl⟩ ?_ ?_
  · rintro i ti m₁ nx h tk I oI hi ⟨o, kvs, c, vs, cap, t, ho, hf, hc, hv, hs, hm, rfl⟩ hI F₁ N₁
    rw [slot_map hs hm] at F₁
    have hz : vs.toArray.size ≤ 100 := by rw [List.size_toArray]; omega
    refine wpAny_mono (turn i ti I oI o kvs c vs cap t m₁ h tk hi (by omega) ho hf (by omega) hz ⟨hI _ (.head _), hI _ (.tail _ (.head _)), fun p hp => hI p (.tail _ (.tail _ hp))⟩ F₁ N₁ ?_) (fun _ s₂ h₂ => wpAny_mono h₂ (fun f s₃ q => ?_) fun _ _ e => e) fun _ _ e => e
    · intro o' kvs' e1 e2 x1 cap' t' h' tk' m' a1 a2 a3 a4 F' N'
      rw [List.push_toArray] at N'
      exact ⟨h', tk', m', _, rfl, F', N', ⟨o', kvs', _, vs ++ [x1], cap', t', a1, a2, Nat.le_trans (kdfPut_len _ _ _) (by omega), by simp; omega, by rw [a3]; push_cast; rfl, a4, rfl⟩⟩
    · cases f with
      | ret v => exact (show False from q).elim
      | brk => exact (show False from q).elim
      | cont => exact (show False from q).elim
      | next =>
        obtain ⟨h', tk', m', nx', rfl, F', N', J'⟩ := (show SlotsEnd _ _ _ _ _ _ _ _ _ _ _ _ _ from q)
        refine ⟨h', tk', m', nx', rfl, F', N', fun p hp q hq => ?_, J'⟩
        rw [List.mem_singleton.mp hq]
        obtain ⟨o', _, _, vs', cap', _, _, _, _, _, _, _, rfl⟩ := J'
        rcases List.mem_cons.mp hp with rfl | hp
        · exact (hI (ds, o) (.head _) : ds ≠ I)
        · rcases List.mem_cons.mp hp with rfl | hp
          · exact (hI (ls, W.listOf vs.toArray cap) (.tail _ (.head _)) : ls ≠ I)
          · exact hI p (.tail _ (.tail _ hp))
  · rintro m₁ nx h tk ⟨o, kvs, c, vs, cap, t, ho, hf, hc, hv, hs, hm, rfl⟩ F₁ N₁
    rw [slot_map hs hm] at F₁
    exact done o vs cap t m₁ h tk F₁ N₁
end
/-! Z1: a run of statements «self.name = y» taken at once (keeps proofs small) -/
theorem UpdF.again {d : Addr} {o : Obj} {l : List (Addr × Obj)} {g : Obj → List (Addr × Obj)} (U : UpdF d o l g) (o' : Obj) : UpdF d o' (g o') g := by
  induction U with
  | head h => exact .head h
  | tail h _ ih => exact .tail h ih
theorem UpdF.upd {d : Addr} {o : Obj} {l : List (Addr × Obj)} {g : Obj → List (Addr × Obj)} (U : UpdF d o l g) (o' : Obj) : Upd d o o' l (g o') := by
  induction U with
  | head h => exact .head h
  | tail h _ ih => exact .tail h ih
theorem UpdF.mem {d : Addr} {o : Obj} {l : List (Addr × Obj)} {g : Obj → List (Addr × Obj)} (U : UpdF d o l g) : (d, o) ∈ l := by
  induction U with
  | head h => exact List.mem_cons_self
  | tail h _ ih => exact List.mem_cons_of_mem _ ih
theorem UpdF.kept {d : Addr} {o : Obj} {l : List (Addr × Obj)} {g : Obj → List (Addr × Obj)} (U : UpdF d o l g) (o' : Obj) {p : Addr × Obj} (h : p ∈ l) (hne : p ≠ (d, o)) : p ∈ g o' := by
  induction U with
  | head _ =>
    rcases List.mem_cons.mp h with e | h
    · exact absurd e hne
    · exact List.mem_cons_of_mem _ h
  | tail _ _ ih =>
    rcases List.mem_cons.mp h with e | h
    · exact e ▸ List.mem_cons_self
    · exact List.mem_cons_of_mem _ (ih h)
/-- the names of a dict's entries -/
inductive Keys : List DictEntry → List Str → Prop
  | nil : Keys [] []
  | cons {h n t v es ns} : Keys es ns → Keys (⟨h, .str n t, v⟩ :: es) (n :: ns)
theorem Keys.snoc {es : List DictEntry} {ns : List Str} (k : Keys es ns) (h : Int) (n : Str) (t : Tok) (v : Value) : Keys (es ++ [⟨h, .str n t, v⟩]) (ns ++ [n]) := by
  induction k with
  | nil => exact .cons .nil
  | cons _ ih => exact .cons ih
theorem Keys.put {es : List DictEntry} {ns : List Str} (k : Keys es ns) {name : Str} (hn : ns.contains name = false) (hsh : Int) (t : Tok) (v : Value) (c : Nat) :
    (putL name hsh (.str name t) v es, putN name es c) = (es ++ [⟨hsh, .str name t, v⟩], c + 1) := by
  have a : es.any (·.key.isStr name) = false := by
    induction k with
    | nil => rfl
    | @cons h n t v es ns _ ih =>
      rw [List.contains_cons, Bool.or_eq_false_iff] at hn
      rw [List.any_cons, ih hn.2, Bool.or_false]
      show (n == name) = false
      rw [BEq.comm]
      exact hn.1
  have b : putL name hsh (.str name t) v es = es ++ [⟨hsh, .str name t, v⟩] := by
    clear k
    induction es with
    | nil => rfl
    | cons e r ih =>
      rw [List.any_cons, Bool.or_eq_false_iff] at a
      simp only [putL, a.1, Bool.false_eq_true, if_false, ih a.2, List.cons_append]
  rw [b, putN, a]
  rfl
theorem Keys.get {es : List DictEntry} {ns : List Str} (k : Keys es ns) (name : Str) : (getL name es).isSome = true := by
  have a : es.any (·.refKey) = false := by
    induction k with
    | nil => rfl
    | cons _ ih => rw [List.any_cons, ih]; rfl
  unfold getL
  rw [a]
  cases es.find? (·.key.isStr name) <;> rfl
def distinct : List Str → List Str → Bool
  | _, [] => true
  | ns, n :: r => !(ns.contains n) && distinct (ns ++ [n]) r
def ents (w : World) (tk : Nat) : List Str → List Value → List DictEntry
  | n :: r, v :: vs => ⟨PyData.keyHash w.params n, .str n (tk + 1), v⟩ :: ents w (tk + 2) r vs
  | _, _ => []
inductive SetL (K : Frag) (C : Addr) (env : Env) (slf : Str) (m : Str → Option Value) (rest : List Stmt) : List Stmt → List Str → List Value → Prop
  | nil : SetL K C env slf m rest rest [] []
  | cons {y name p1 p2 p3 p v sts ns vs} : m y = some v → takerIn K C name = some none → env.kindOf y = some .local → (y == ("__debug__" : Str)) = false → SetL K C env slf m rest sts ns vs →
    SetL K C env slf m rest (.Assign [.Attribute (.Name slf p1) name p2] (.Name y p3) p :: sts) (name :: ns) (v :: vs)
theorem sets_run {prog : Program} {w : World} {A : Around} {E : Value → Shared → Prop} {K : Frag} {x C dx L a : Addr} {h₀ : Heap} {m : Str → Option Value} {cn : Str} {cs : Scope} {ccd : Value} {cl : List (Str × Addr)} {slf : Str} {sts rest : List Stmt} {ns : List Str} {vs : List Value}
    {Q : Flow → Shared → Prop} (S : SetL K C (envX cn cs L a ccd cl) slf m rest sts ns vs) (X₀ : K.In h₀) (hself : m slf = some (.ref x)) (hk : cs.kind = .function) (hks : (envX cn cs L a ccd cl).kindOf slf = some .local) (hds : (slf == ("__debug__" : Str)) = false)
    (hs : findIn K (.ref C) "__setattr__" = some (some (.builtin "object.__setattr__"))) (hp : plainOver K C = true) (hh : hasDictIn K C = true) :
    ∀ {s : Shared} {news : List (Addr × Obj)} {g : Obj → List (Addr × Obj)} {es : List DictEntry} {n : Nat} {ks : List Str}, Fr h₀ L s.heap m → News h₀ L s.heap news → UpdF dx (dictOf es n) news g → (x, instObj C dx) ∈ news → Keys es ks → distinct ks ns = true → es.length + ns.length ≤ 1000 →
      (∀ h' tk', Fr h₀ L h' m → News h₀ L h' (g (dictOf (es ++ ents w s.toks ns vs) (n + ns.length))) → wpAny (model prog w) A (execs rest (envX cn cs L a ccd cl)) Q E { s with heap := h', toks := tk' }) →
      wpAny (model prog w) A (execs sts (envX cn cs L a ccd cl)) Q E s := by
  induction S with
  | nil =>
    intro s news g es n ks F N U hx k hd hl h
    refine h s.heap s.toks F ?_
    rw [show ents w s.toks [] [] = [] from rfl, List.append_nil]
    obtain ⟨pre, post, e1, e2, _, _⟩ := U.split
    rw [show n + ([] : List Str).length = n from rfl, e2, ← e1]
    exact N
  | @cons y name p1 p2 p3 p v sts ns vs hv ht hy hdy _ ih =>
    intro s news g es n ks F N U hx k hd hl h
    rw [distinct, Bool.and_eq_true_iff, Bool.not_eq_true'] at hd
    refine wpAny_execs_cons (plainObj_wpAny_Assign_Attribute (nameX_L F hv (nameX_L F hself ?_ hk hks hds) hk hy hdy) rfl)
    have hl' : es.length + (ns.length + 1) ≤ 1000 := hl
    refine set_dict F X₀ N (InstAt.of_news N hx (UpdF.mem U)) rfl hs hp ht hh (k.get name) (k.put hd.1 _ _ _ _) (UpdF.upd U _) (by rw [List.length_append, List.length_singleton]; omega) ?_
    intro h' F' N'
    dsimp only
    refine ih (s := { s with heap := h', toks := s.toks + 2 }) F' N' (UpdF.again U _) (UpdF.kept U _ hx fun e => by simp [instObj, dictOf] at e) (k.snoc _ _ _ _) hd.2 (by rw [List.length_append, List.length_singleton]; omega) ?_
    intro h'' tk'' F'' N''
    refine h h'' tk'' F'' ?_
    rw [List.append_assoc, List.singleton_append] at N''
    have e1 : n + 1 + ns.length = n + (name :: ns).length := by rw [List.length_cons]; omega
    rw [e1] at N''
    exact N''
theorem sets_at {prog : Program} {w : World} {A : Around} {E : Value → Shared → Prop} {K : Frag} {x C dx L a : Addr} {h₀ : Heap} {m : Str → Option Value} {cn : Str} {cs : Scope} {ccd : Value} {cl : List (Str × Addr)} {slf : Str} {sts rest : List Stmt} {ns : List Str} {vs : List Value}
    {Q : Flow → Shared → Prop} {s : Shared} {news : List (Addr × Obj)} {g : Obj → List (Addr × Obj)} {es : List DictEntry} {n : Nat} {ks : List Str}
    (S : SetL K C (envX cn cs L a ccd cl) slf m rest sts ns vs) (X₀ : K.In h₀) (hself : m slf = some (.ref x)) (hk : cs.kind = .function) (hks : (envX cn cs L a ccd cl).kindOf slf = some .local) (hds : (slf == ("__debug__" : Str)) = false)
    (hs : findIn K (.ref C) "__setattr__" = some (some (.builtin "object.__setattr__"))) (hp : plainOver K C = true) (hh : hasDictIn K C = true) (F : Fr h₀ L s.heap m) (N : News h₀ L s.heap news) (U : UpdF dx (dictOf es n) news g) (hx : (x, instObj C dx) ∈ news) (k : Keys es ks)
    (hd : distinct ks ns = true) (hl : es.length + ns.length ≤ 1000)
    (h : ∀ h' tk tk', Fr h₀ L h' m → News h₀ L h' (g (dictOf (es ++ ents w tk ns vs) (n + ns.length))) → wpAny (model prog w) A (execs rest (envX cn cs L a ccd cl)) Q E { s with heap := h', toks := tk' }) :
    wpAny (model prog w) A (execs sts (envX cn cs L a ccd cl)) Q E s :=
  sets_run S X₀ hself hk hks hds hs hp hh F N U hx k hd hl fun h' tk' F' N' => h h' s.toks tk' F' N'
/-! T1: the set {0}: made, walked, sorted -/
abbrev tbl (place : Array Nat) (led : Bool) : SetTable := { mask := 7, place := place, dummies := #[], finger := 0, led := led, moves := 0, plain := true }
abbrev setO (es : Array (Int × Value)) (ep : Nat) (place : Array Nat) (led : Bool) : Obj := { cls := .type "set", dict := none, data := .set es ep (tbl place led) }
section
variable {prog : Program} {w : World} {A : Around} {E : Value → Shared → Prop} {s : Shared} {sa : Addr} {t : Tok} {led : Bool}
theorem lay0 (x : Value) (led : Bool) : layNew (tbl #[] led) #[] 0 x = (#[(0, x)], tbl #[0] led, false, false) := by
  cases led <;> rfl
theorem add0 {Q : Bool → Shared → Prop} (ho : s.heap.get? sa = some (setO #[] 0 #[] led))
    (h : Q true { s with heap := s.heap.update sa (Obj.putSet #[(0, .int 0 t)] (tbl #[0] led)), toks := s.toks + 1 }) : wpAny (model prog w) A (setAdd sa (.int 0 t)) Q E s := by
  unfold setAdd
  refine wpAny_holding (wpAny_bind ((PySem.intKind prog w).pyHash (k := 0) (by rfl) ?_))
  have e0 : (PySem.intKind prog w).hash 0 = 0 := by rfl
  have hel : ElemsOf (PySem.intKind prog w) (#[] : Array (Int × Value)).toList := fun e he => by simp at he
  have hf : (tbl #[] led).fits (#[] : Array (Int × Value)).size = true := by cases led <;> rfl
  unfold setAddHashed setAddHashedIn
  refine wpAny_holding (wpAny_bind (wpAny_setState_of (s := { s with toks := s.toks + 1 }) ho rfl hf ?_))
  dsimp only
  rw [byScan_of rfl (by decide) hel]
  simp only [↓reduceIte]
  unfold setAddByScan
  refine wpAny_bind ?_
  refine wpAny_bind (wpAny_rule ?_)
  refine wpAny_bind (wpAny_setScan_of (knd := PySem.intKind prog w) (k := 0) rfl (s := { s with toks := s.toks + 1 }) ho rfl hf hel ?_)
  dsimp only
  rw [e0]
  rw [lay0]
  simp only [List.findIdx?_nil]
  have hgw : ∀ (b : Bool) {s₁ : Shared} {Q' : Unit → Shared → Prop}, Q' () s₁ → wpAny (model prog w) A (match b with | true => rule "set.scan.the-table-gave-way" | false => pure ()) Q' E s₁ :=
    fun b s₁ Q' hq => by cases b <;> first | exact wpAny_pure hq | exact wpAny_rule hq
  refine wpAny_bind (hgw false ?_)
  simp only [↓reduceIte]
  rw [hashByValue_scannable 8 (by rfl)]
  have hp : plainKind (.int 0 t) = true := by rfl
  rw [hp]
  refine wpAny_bind (wpAny_pure ?_)
  simp only [↓reduceIte]
  refine wpAny_bind (wpAny_storeSet_of (s := { s with toks := s.toks + 1 }) ho rfl ?_ (by simp [sizeLine_eq]))
  have htf : ((!false) && (tbl #[0] led).tooFull) = false := by cases led <;> rfl
  rw [htf]
  simp only [Bool.false_eq_true, ↓reduceIte]
  exact wpAny_pure (wpAny_pure h)
end
/-! T2: «{0}» -/
abbrev byTxt (w : World) : Bool := w.params.followText "set-order"
section
variable {prog : Program} {w : World} {A : Around} {E : Value → Shared → Prop} {s : Shared} {h₀ : Heap} {L : Addr} {m : Str → Option Value} {news : List (Addr × Obj)}
theorem newset_led {Q : Value → Shared → Prop} (h : Q (.ref s.heap.objs.size) { s with heap := s.heap.push (setO #[] 0 #[] (!byTxt w)) }) : wpAny (model prog w) A (newSet (.type "set")) Q E s := by
  unfold newSet setsByText
  refine wpAny_bind (wpAny_bind (wpAny_askSetting (wpAny_pure ?_)))
  dsimp only
  simp only [newObj]
  exact wpAny_bind (wpAny_alloc (wpAny_pure h))
theorem set_zero {K : Frag} {env : Env} {k1 : Nat} {p1 pos : Pos} {Q : Value → Shared → Prop} (F : Fr h₀ L s.heap m) (N : News h₀ L s.heap news) (X : K.In h₀) (hc : kdsCode K env.code = true)
    (h : ∀ D h' t tk', Fr h₀ L h' m → News h₀ L h' ((D, setO #[(0, .int 0 t)] 1 #[0] (!byTxt w)) :: news) → (∀ p ∈ news, p.1 < D) → Q (.ref D) { s with heap := h', toks := tk' }) :
    wpAny (model prog w) A (eval (.Set [.Constant (.int 0) k1 p1] 0 pos) env) Q E s := by
  rw [arm_eval_Set]
  refine wpAny_bind (wpAny_standAt ?_)
  refine wpAny_bind (kds_main (X.keeps F.keep) hc fun b => ?_)
  show wpAny _ _ (setDisplay .oneByOne b [(false, do let v ← eval (Expr.Constant (Const.int 0) k1 p1) env; standAt pos; pure v)]) Q E s
  have hr : (DisplayRoad.oneByOne == DisplayRoad.constants) = false := by rfl
  have hr2 : (DisplayRoad.oneByOne == DisplayRoad.unsure) = false := by rfl
  unfold setDisplay
  rw [hr, if_neg Bool.false_ne_true]
  refine wpAny_bind (newset_led ?_)
  refine wpAny_bind (wpAny_holding ?_)
  refine wpAny_bind ?_
  refine kds_all pos [Expr.Constant (Const.int 0) k1 p1] _ _ ?_
  refine wpAny_Constant_int ?_
  have F1 : Fr h₀ L (s.heap.push (setO #[] 0 #[] (!byTxt w))) m := F.push _
  have N1 := News.push F N (setO #[] 0 #[] (!byTxt w)) rfl
  have ho := (N1 _ (.head _)).1
  refine wpAny_bind (wpAny_holding ?_)
  rw [List.forIn_cons]
  refine wpAny_bind (wpAny_bind (wpAny_bind (add0 (s := { s with heap := s.heap.push (setO #[] 0 #[] (!byTxt w)), toks := s.toks + 1 }) (sa := s.heap.objs.size) (led := !byTxt w) ho ?_)))
  refine wpAny_pure ?_
  dsimp only
  rw [List.forIn_nil]
  refine wpAny_pure ?_
  rw [hr2, if_neg Bool.false_ne_true]
  refine wpAny_pure ?_
  show wpAny _ _ (forIn [] _ _ >>= _) _ _ _
  rw [List.forIn_nil]
  refine wpAny_bind (wpAny_pure (wpAny_pure ?_))
  obtain ⟨F2, N2⟩ := news_upd (pre := []) (post := news) (o := setO #[] 0 #[] (!byTxt w)) (o' := setO #[(0, .int 0 s.toks)] 1 #[0] (!byTxt w)) (f := Obj.putSet #[(0, .int 0 s.toks)] (tbl #[0] (!byTxt w))) F1 N1 (fun p hp => nomatch hp) (fun p hp => Nat.ne_of_lt (Heap.lt_size (N p hp).1)) rfl rfl
  exact wpAny_pure (h _ _ _ _ F2 N2 fun p hp => Heap.lt_size (N p hp).1)
end
/-! T3: a walk over {0}; sorted({0}) -/
theorem slot_setit_next : Slot "set_iterator" "__next__" "set_iterator.__next__" :=
  .of (owner := "set_iterator") (n := "__next__") (by rw [typeLookup_type, builtinLookup_eq_fast]; kernel_rfl) (by decide +kernel) (by decide +kernel) (by decide +kernel)
    (by first | exact .inl (by decide +kernel) | exact .inr (by decide +kernel)) (by rw [isSubtype_type]; kernel_rfl)
theorem entry_setit_next : entryFor table "set_iterator.__next__" = some Builtin.«set_iterator.__next__» := entryFor_of_fast (by kernel_rfl)
theorem args_setit_next (a : Value) : argsOk "set_iterator.__next__" ⟨[a], []⟩ := by unfold argsOk; kernel_rfl
theorem entry_set_iter : entryFor table "set.__iter__" = some Builtin.«frozenset.__iter__» := entryFor_alias (id' := "frozenset.__iter__") (by kernel_rfl) rfl (by decide +kernel) (by kernel_rfl)
abbrev setIt (d : Addr) (f i : Int) (on : Bool) : Obj := { cls := .type "set_iterator", data := .fields #[rawInt f, rawInt i, if on then .ref d else .none, rawInt 1, rawInt 1] }
section
variable {prog : Program} {w : World} {A : Around} {E : Value → Shared → Prop} {s : Shared} {d : Addr} {t : Tok}
theorem fits0 (led : Bool) (v : Value) : (tbl #[0] led).fits (#[(0, v)] : Array (Int × Value)).size = true := by cases led <;> rfl
theorem iter_set0 {Q : Value → Shared → Prop} (ho : s.heap.get? d = some (setO #[(0, .int 0 t)] 1 #[0] (!byTxt w)))
    (h : Q (.ref s.heap.objs.size) { s with heap := s.heap.push (setIt d 0 0 true) }) : wpAny (model prog w) A (pyIter (.ref d)) Q E s := by
  have hT : s.TypeIs (.ref d) "set" := ⟨_, ho, rfl⟩
  refine wpAny_pyIter_slot hT PySem.F.slot_set_iter (wpAny_call_entry PySem.F.slot_set_iter hT entry_set_iter ?_ (PySem.F.args_set_iter_1 _))
  have hf := fits0 (!byTxt w) (.int 0 t)
  unfold Builtin.«frozenset.__iter__» Builtin.Frozenset.slot0 slotArgs
  simp only [List.isEmpty_nil, Bool.not_true, Bool.false_eq_true, ↓reduceIte, bind_assoc, List.length_nil, bne_self_eq_false]
  unfold Builtin.Frozenset.addrOf Builtin.Frozenset.sizeOf
  refine wpAny_bind (wpAny_pure ?_)
  try dsimp only
  refine wpAny_bind (wpAny_pure ?_)
  refine wpAny_bind (wpAny_bind (wpAny_setEntries_of ho rfl hf (wpAny_pure ?_)))
  unfold setDrawn setsByText
  refine wpAny_bind (wpAny_bind (wpAny_setState_of ho rfl hf ?_))
  refine wpAny_bind (wpAny_bind (wpAny_askSetting (wpAny_pure (wpAny_pure ?_))))
  split
  · rename_i hq
    exfalso
    revert hq
    show ((!(w.params.followText "set-order")) && _) = true → False
    cases w.params.followText "set-order" <;> (intro hq; exact Bool.false_ne_true hq)
  · refine wpAny_bind (wpAny_pure ?_)
    refine wpAny_bind (wpAny_setEpoch_of ho rfl hf ?_)
    exact wpAny_bind (wpAny_newObj_type (wpAny_pure ⟨_, rfl, "set_iterator", _, ⟨_, Heap.get?_push_size _ rfl, rfl⟩, slot_setit_next.lookup, h⟩))
theorem pick1 {α : Type} (next : Nat → Nat) (x : α) : pickOrder next #[x] = #[x] := by
  unfold pickOrder
  simp [pickOrder.go, Nat.mod_one]
theorem next_set0 {it : Addr} {Q : Option Value → Shared → Prop} (ho : s.heap.get? d = some (setO #[(0, .int 0 t)] 1 #[0] (!byTxt w))) (hi : s.heap.get? it = some (setIt d 0 0 true))
    (h : ∀ (f : Nat), (byTxt w = true ∨ f = 1) → Q (some (.int 0 t)) { s with heap := (s.heap.update it (Obj.mapFields (·.setIfInBounds 0 (rawInt (f : Int))))).update it (Obj.mapFields (·.setIfInBounds 1 (rawInt 1))) }) : wpAny (model prog w) A (pyNext (.ref it)) Q E s := by
  have hT : s.TypeIs (.ref it) "set_iterator" := ⟨_, hi, rfl⟩
  unfold pyNext
  refine wpAny_bind (wpAny_attempt (wpAny_callSpecial?_slot (name := Str.ofString "__next__") hT slot_setit_next (wpAny_call_entry slot_setit_next hT entry_setit_next ?_ (args_setit_next _))))
  have hf := fits0 (!byTxt w) (.int 0 t)
  unfold Builtin.«set_iterator.__next__» slotArgs
  simp only [List.isEmpty_nil, Bool.not_true, Bool.false_eq_true, ↓reduceIte, bind_assoc, List.length_nil, bne_self_eq_false]
  refine wpAny_bind (wpAny_pure ?_)
  refine wpAny_bind (wpAny_fieldsOf hi rfl ?_)
  show wpAny _ _ (setEntries d >>= _) _ _ _
  refine wpAny_bind (wpAny_setEntries_of ho rfl hf ?_)
  rw [if_neg (show ¬ ((((#[(0, Value.int 0 t)] : Array (Int × Value)).size : Int) != 1) = true) from Bool.false_ne_true)]
  have fin : ∀ f : Nat, (byTxt w = true ∨ f = 1) → wpAny (model prog w) A.in1 (do setField (Value.ref it) 0 (rawInt (f : Int)); setField (Value.ref it) 1 (rawInt (0 + 1)); ret (Value.int 0 t))
      (fun fin s' => ∃ v, fin = Fin.done (Flow.ret v) ∧ wpAny (model prog w) A (pure (some v)) Q E s') (fun e s' => wpAny (model prog w) A (do
        let b ← isInstance e (.type "StopIteration")
        if b = true then pure none else throw e) Q E s') s := fun f hf' => by
    refine wpAny_bind (wpAny_setField hi rfl (by simp) ?_)
    have hi2 := Heap.get?_update_self (Obj.mapFields (·.setIfInBounds 0 (rawInt (f : Int)))) hi rfl
    refine wpAny_bind (wpAny_setField hi2 rfl (by simp) ?_)
    exact wpAny_pure ⟨_, rfl, wpAny_pure (h _ hf')⟩
  show wpAny _ _ (setNext d 0 0 1 >>= _) _ _ _
  unfold setNext setsByText
  refine wpAny_bind (wpAny_bind (wpAny_setState_of ho rfl hf ?_))
  refine wpAny_bind (wpAny_bind (wpAny_askSetting (wpAny_pure ?_)))
  dsimp only
  cases hb : w.params.followText "set-order" with
  | true =>
    rw [if_pos (show (model prog w).w.params.followText "set-order" = true from hb), if_neg (by decide)]
    unfold setWalk setsByText
    refine wpAny_bind (wpAny_bind (wpAny_setState_of ho rfl hf ?_))
    refine wpAny_bind (wpAny_bind (wpAny_askSetting (wpAny_pure ?_)))
    dsimp only
    rw [if_pos (show (model prog w).w.params.followText "set-order" = true from hb)]
    refine wpAny_bind (wpAny_askSetting (wpAny_pure ?_))
    dsimp only
    rw [pick1]
    refine wpAny_pure ?_
    exact fin 0 (.inl hb)
  | false =>
    rw [if_neg (show ¬ ((model prog w).w.params.followText "set-order" = true) from by rw [show (model prog w).w.params.followText "set-order" = false from hb]; exact Bool.false_ne_true)]
    split
    · rename_i hq
      exact (Bool.false_ne_true hq).elim
    · refine wpAny_bind ?_
      show wpAny _ _ (if (!(!(byTxt w)) && _) = true then _ else pure ()) _ _ _
      rw [show byTxt w = false from hb]
      refine wpAny_pure ?_
      refine wpAny_pure ?_
      exact fin 1 (.inr rfl)
theorem next_set0_end {it : Addr} {f : Nat} {Q : Option Value → Shared → Prop} (hh : A.handled = none) (ho : s.heap.get? d = some (setO #[(0, .int 0 t)] 1 #[0] (!byTxt w))) (hi : s.heap.get? it = some (setIt d f 1 true)) (hfl : byTxt w = true ∨ f = 1)
    (h : ∀ h', Heap.ExtBut it s.heap h' → Q none { s with heap := h' }) : wpAny (model prog w) A (pyNext (.ref it)) Q E s := by
  have hT : s.TypeIs (.ref it) "set_iterator" := ⟨_, hi, rfl⟩
  unfold pyNext
  refine wpAny_bind (wpAny_attempt (wpAny_callSpecial?_slot (name := Str.ofString "__next__") hT slot_setit_next (wpAny_call_entry slot_setit_next hT entry_setit_next ?_ (args_setit_next _))))
  have hf := fits0 (!byTxt w) (.int 0 t)
  unfold Builtin.«set_iterator.__next__» slotArgs
  simp only [List.isEmpty_nil, Bool.not_true, Bool.false_eq_true, ↓reduceIte, bind_assoc, List.length_nil, bne_self_eq_false]
  refine wpAny_bind (wpAny_pure ?_)
  refine wpAny_bind (wpAny_fieldsOf hi rfl ?_)
  show wpAny _ _ (setEntries d >>= _) _ _ _
  refine wpAny_bind (wpAny_setEntries_of ho rfl hf ?_)
  rw [if_neg (show ¬ ((((#[(0, Value.int 0 t)] : Array (Int × Value)).size : Int) != 1) = true) from Bool.false_ne_true)]
  have fin : wpAny (model prog w) A.in1 (do setField (Value.ref it) 2 Value.none; let e ← newExc (Value.type "StopIteration") []; raiseNew e)
      (fun fin s' => ∃ v, fin = Fin.done (Flow.ret v) ∧ wpAny (model prog w) A (pure (some v)) Q E s') (fun e s' => wpAny (model prog w) A (do
        let b ← isInstance e (.type "StopIteration")
        if b = true then pure none else throw e) Q E s') s := by
    refine wpAny_bind (wpAny_setField hi rfl (by simp) ?_)
    refine wpAny_bind ?_
    simp only [newExc, newTuple]
    refine wpAny_bind (wpAny_newObj_type ?_ (by size_fits))
    refine wpAny_bind (m := firstArgMember _ _) (wpAny_of_eq (a := Value.none) (by first | rfl | (simp only [firstArgMember]; rfl)) ?_)
    refine wpAny_newObj_type ?_ (by size_fits)
    simp only [raiseNew]
    refine wpAny_bind (wpAny_handled ?_)
    rw [show A.in1.handled = none from hh]
    refine wpAny_bind (wpAny_pure (wpAny_throw ?_))
    refine wpAny_bind (wpAny_isInstance (T := "StopIteration") (b := true) ⟨_, Heap.get?_push_size _ rfl, rfl⟩ isSubtype_stop ?_)
    exact wpAny_pure (h _ (((Heap.SameBut.update ..).extBut.push _).push _))
  show wpAny _ _ (setNext d f 1 1 >>= _) _ _ _
  unfold setNext setsByText
  refine wpAny_bind (wpAny_bind (wpAny_setState_of ho rfl hf ?_))
  refine wpAny_bind (wpAny_bind (wpAny_askSetting (wpAny_pure ?_)))
  dsimp only
  cases hb : w.params.followText "set-order" with
  | true =>
    rw [if_pos (show (model prog w).w.params.followText "set-order" = true from hb), if_neg (by decide)]
    unfold setWalk setsByText
    refine wpAny_bind (wpAny_bind (wpAny_setState_of ho rfl hf ?_))
    refine wpAny_bind (wpAny_bind (wpAny_askSetting (wpAny_pure ?_)))
    dsimp only
    rw [if_pos (show (model prog w).w.params.followText "set-order" = true from hb)]
    refine wpAny_bind (wpAny_askSetting (wpAny_pure ?_))
    dsimp only
    rw [pick1]
    refine wpAny_pure ?_
    exact fin
  | false =>
    rw [if_neg (show ¬ ((model prog w).w.params.followText "set-order" = true) from by rw [show (model prog w).w.params.followText "set-order" = false from hb]; exact Bool.false_ne_true)]
    have hf1 : f = 1 := hfl.elim (fun e => by rw [show byTxt w = false from hb] at e; cases e) id
    subst hf1
    split
    · rename_i hq
      exact (Bool.false_ne_true hq).elim
    · refine wpAny_bind ?_
      show wpAny _ _ (if (!(!(byTxt w)) && _) = true then _ else pure ()) _ _ _
      rw [show byTxt w = false from hb]
      refine wpAny_pure ?_
      refine wpAny_pure ?_
      exact fin
end
/-! T4: the items of {0} as a list; sorted -/
theorem entry_ext_loop : entryFor table "list.extend.loop" = some Builtin.«list.extend.loop» := entryFor_of_fast (by kernel_rfl)
section
variable {prog : Program} {w : World} {A : Around} {E : Value → Shared → Prop} {s : Shared} {d : Addr} {t : Tok}
theorem hint_set {o : Obj} {Q : Bool → Shared → Prop} (ho : s.heap.get? d = some o) (hc : o.cls = .type "set") (h : Q false s) : wpAny (model prog w) A (Builtin.List.listLengthHint (.ref d)) Q E s := by
  have hT : s.TypeIs (.ref d) "set" := ⟨_, ho, hc⟩
  unfold Builtin.List.listLengthHint
  refine wpAny_bind (wpAny_specialOf hT PySem.F.slot_set_len.lookup ?_)
  dsimp only
  rw [show splitId "set.__len__" = some ("set", "__len__") from by decide +kernel]
  dsimp only
  refine wpAny_bind (wpAny_isInstance (T := "set") (b := true) hT (by rw [isSubtype_type]; kernel_rfl) ?_)
  rw [if_neg (by decide), if_pos]
  rotate_left
  · decide +kernel
  refine wpAny_bind (wpAny_typeOf hT ?_)
  exact wpAny_pure h
theorem touch_at {l : Addr} {n : Nat} {Q : Unit → Shared → Prop} (hl : s.heap.get? l = some (seqObj "list" #[] n)) (h : ∀ h' n', Heap.SameBut l s.heap h' → h'.get? l = some (seqObj "list" #[] n') → Q () { s with heap := h' }) :
    wpAny (model prog w) A (Builtin.List.listTouch (.ref l)) Q E s := by
  unfold Builtin.List.listTouch
  refine wpAny_bind (listUpdate_at hl rfl ?_)
  have hl1 := get?_update_seq hl (·.push Value.none)
  refine listUpdate_at (s := { s with heap := s.heap.update l (Obj.mapSeq (·.push Value.none)) }) hl1 rfl ?_
  have hl2 := get?_update_seq hl1 (·.pop)
  exact h _ _ ((Heap.SameBut.update s.heap l _).trans (Heap.SameBut.update _ l _)) hl2
theorem ext_loop {l it : Addr} {n : Nat} {R : Result → Shared → Prop} (hh : A.handled = none) (hl : s.heap.get? l = some (seqObj "list" #[] n)) (hd : s.heap.get? d = some (setO #[(0, .int 0 t)] 1 #[0] (!byTxt w))) (hi : s.heap.get? it = some (setIt d 0 0 true))
    (h1 : d ≠ l) (h2 : it ≠ l) (h3 : d ≠ it)
    (h : ∀ h' n', (∀ b o, b ≠ l → b ≠ it → s.heap.get? b = some o → h'.get? b = some o) → h'.get? l = some (seqObj "list" #[.int 0 t] n') → R (.ok (.ret (.ref l))) { s with heap := h' }) :
    codeAny (model prog w) A (.builtin "list.extend.loop" ⟨[.ref l, .ref it, .ref l], []⟩) R s := by
  refine codeAny_builtin entry_ext_loop ?_
  unfold Builtin.«list.extend.loop»
  refine wpAny_bind (next_set0 hd hi fun f hf => ?_)
  dsimp only
  generalize hg : (s.heap.update it (Obj.mapFields (·.setIfInBounds 0 (rawInt (f : Int))))).update it (Obj.mapFields (·.setIfInBounds 1 (rawInt 1))) = g
  have sb : Heap.SameBut it s.heap g := hg ▸ (Heap.SameBut.update s.heap it _).trans (Heap.SameBut.update _ it _)
  have hi1 : g.get? it = some (setIt d f 1 true) := by
    rw [← hg]
    exact Heap.get?_update_self (Obj.mapFields (·.setIfInBounds 1 (rawInt 1))) (Heap.get?_update_self (Obj.mapFields (·.setIfInBounds 0 (rawInt (f : Int)))) hi rfl) rfl
  have hl1 : g.get? l = some (seqObj "list" #[] n) := (sb.2 l (Ne.symm h2)).trans hl
  have hd1 : g.get? d = some (setO #[(0, .int 0 t)] 1 #[0] (!byTxt w)) := (sb.2 d h3).trans hd
  refine wpAny_bind (listUpdate_at (s := { s with heap := g }) hl1 rfl ?_)
  have hl2 := get?_update_seq hl1 (·.push (Value.int 0 t))
  have sb2 := Heap.SameBut.update g l (Obj.mapSeq (·.push (Value.int 0 t)))
  refine wpAny_pure ⟨Code.quiet_builtin _ (by decide +kernel), codeAny_builtin entry_ext_loop ?_⟩
  unfold Builtin.«list.extend.loop»
  refine wpAny_bind (next_set0_end (s := { s with heap := g.update l (Obj.mapSeq (·.push (Value.int 0 t))) }) hh ((sb2.2 d h1).trans hd1) ((sb2.2 it h2).trans hi1) hf fun h' hx => ?_)
  exact wpAny_pure (h h' _ (fun b o hb1 hb2 e => hx b o hb2 ((sb2.2 b hb1).trans ((sb.2 b hb2).trans e))) (hx l _ (Ne.symm h2) hl2))
theorem collect_set0 {Q : List Value → Shared → Prop} (hh : A.handled = none) (ho : s.heap.get? d = some (setO #[(0, .int 0 t)] 1 #[0] (!byTxt w)))
    (h : ∀ h', (∀ b o, s.heap.get? b = some o → h'.get? b = some o) → Q [.int 0 t] { s with heap := h' }) : wpAny (model prog w) A (collect (.ref d)) Q E s := by
  unfold collect
  refine wpAny_bind (wpAny_runValue (codeAny_builtin entry_proto_collect' ?_))
  show wpAny _ _ (do again (.builtin "list.__iadd__" ⟨[← newList [], .ref d], []⟩)) _ _ s
  refine wpAny_bind (wpAny_newList (wpAny_pure ⟨Code.quiet_builtin _ (by decide +kernel), codeAny_builtin entry_list_iadd' ?_⟩))
  show wpAny _ _ (Builtin.List.listExtendWith (.ref s.heap.objs.size) (.ref d) (.ref s.heap.objs.size)) _ _ { s with heap := s.heap.push (seqObj "list" #[] 0) }
  unfold Builtin.List.listExtendWith
  have ho' : (s.heap.push (seqObj "list" #[] 0)).get? d = some (setO #[(0, .int 0 t)] 1 #[0] (!byTxt w)) := Heap.get?_push_of_some _ ho
  have hdn : d ≠ s.heap.objs.size := Nat.ne_of_lt (Heap.lt_size ho)
  refine wpAny_bind (wpAny_typeOf (T := "set") ⟨_, ho', rfl⟩ ?_)
  rw [if_neg (by
    have e1 : Builtin.List.listSameRef (.ref s.heap.objs.size) (.ref d) = false := by
      show (s.heap.objs.size == d) = false
      simp [Ne.symm hdn]
    rw [e1]; decide +kernel)]
  refine wpAny_bind (iter_set0 (s := { s with heap := s.heap.push (seqObj "list" #[] 0) }) ho' ?_)
  have hl0 : ((s.heap.push (seqObj "list" #[] 0)).push (setIt d 0 0 true)).get? s.heap.objs.size = some (seqObj "list" #[] 0) := Heap.get?_push_of_some _ (Heap.get?_push_size _ rfl)
  have hd0 := Heap.get?_push_of_some (setIt d 0 0 true) ho'
  have hi0 : ((s.heap.push (seqObj "list" #[] 0)).push (setIt d 0 0 true)).get? (s.heap.push (seqObj "list" #[] 0)).objs.size = some (setIt d 0 0 true) := Heap.get?_push_size _ rfl
  have hsz : (s.heap.push (seqObj "list" #[] 0)).objs.size = s.heap.objs.size + 1 := Heap.size_push ..
  refine wpAny_bind (wpAny_holding (hint_set (s := { s with heap := (s.heap.push (seqObj "list" #[] 0)).push (setIt d 0 0 true) }) hd0 rfl ?_))
  split
  · refine wpAny_bind (wpAny_rule ?_)
    refine wpAny_bind (touch_at (s := { s with heap := (s.heap.push (seqObj "list" #[] 0)).push (setIt d 0 0 true) }) hl0 fun g n1 sb hl1 => ?_)
    refine wpAny_pure ⟨Code.quiet_builtin _ (by decide +kernel), ?_⟩
    have hin : (s.heap.push (seqObj "list" #[] 0)).objs.size ≠ s.heap.objs.size := by rw [hsz]; exact Nat.succ_ne_self _
    have hdi : d ≠ (s.heap.push (seqObj "list" #[] 0)).objs.size := by rw [hsz]; exact Nat.ne_of_lt (Nat.lt_succ_of_lt (Heap.lt_size ho))
    refine ext_loop (s := { s with heap := g }) hh hl1 ((sb.2 d hdn).trans hd0) ((sb.2 _ hin).trans hi0) hdn hin hdi fun h' n' hk hl' => ?_
    refine wpAny_bind (wpAny_load (s := { s with heap := h' }) hl' ?_)
    refine wpAny_pure (h h' fun b o e => ?_)
    have hb1 : b ≠ s.heap.objs.size := Nat.ne_of_lt (Heap.lt_size e)
    have hb2 : b ≠ (s.heap.push (seqObj "list" #[] 0)).objs.size := by rw [hsz]; exact Nat.ne_of_lt (Nat.lt_succ_of_lt (Heap.lt_size e))
    exact hk b o hb1 hb2 ((sb.2 b hb1).trans (Heap.get?_push_of_some _ (Heap.get?_push_of_some _ e)))
  · rename_i hq
    exact absurd (by decide +kernel) hq
theorem perm_one {ns : List Int} {a : Int} (h : ns.Perm [a]) : ns = [a] := List.perm_singleton.mp h
theorem sorted_set0 {h₀ : Heap} {L : Addr} {m : Str → Option Value} {news : List (Addr × Obj)} {Q : Value → Shared → Prop} (hh : A.handled = none) (F : Fr h₀ L s.heap m) (N : News h₀ L s.heap news) (hm : (d, setO #[(0, .int 0 t)] 1 #[0] (!byTxt w)) ∈ news)
    (h : ∀ D t' c h', Fr h₀ L h' m → News h₀ L h' ((D, W.listOf #[.int 0 t'] c) :: news) → (∀ p ∈ news, p.1 < D) → Q (.ref D) { s with heap := h' }) : wpAny (model prog w) A (call (.builtin "sorted") [.ref d]) Q E s := by
  refine Calls.call_function_entry kind_sorted plain_sorted entry_sorted (args_sorted1 _) ?_
  unfold Builtin.«sorted»
  refine wpAny_bind (m := checkCount "sorted" 1 1 _) (wpAny_pure ?_)
  refine wpAny_bind (collect_set0 hh (N _ hm).1 fun g hk => ?_)
  refine wpAny_bind (wpAny_newList ?_)
  have F1 : Fr h₀ L g m := F.kept hk
  have N1 : News h₀ L g news := N.grown hk
  have hoL : (g.push (seqObj "list" [Value.int 0 t].toArray 0)).get? g.objs.size = some (seqObj "list" [Value.int 0 t].toArray 0) := Heap.get?_push_size _ rfl
  refine wpAny_bind (wpAny_holding (wpAny_call_entry (s := { s with heap := g.push (seqObj "list" [Value.int 0 t].toArray 0) }) slot_list_sort ⟨_, hoL, rfl⟩ entry_list_sort (list_sort_tree (ns := [0]) hoL (.cons 0 t .nil) (by show 1 < 64; decide) fun out ns' a1 a2 a3 => ⟨_, rfl, ?_⟩) (args_list_sort _)))
  have e1 := perm_one a2
  subst e1
  obtain ⟨t', rfl⟩ : ∃ t', out = #[.int 0 t'] := by
    obtain ⟨os⟩ := out
    have a1' : IntsAre os [0] := a1
    cases a1' with
    | cons _ t' r => cases r; exact ⟨t', rfl⟩
  have hk2 : ∀ b o, g.get? b = some o → (sortedHeap (g.push (seqObj "list" [Value.int 0 t].toArray 0)) g.objs.size [Value.int 0 t] #[.int 0 t']).get? b = some o := fun b o e => by
    have hlt := Heap.lt_size e
    rw [sortedHeap_old (Nat.ne_of_lt hlt) (by rw [Heap.size_push]; exact Nat.lt_succ_of_lt hlt)]
    exact Heap.get?_push_of_some _ e
  obtain ⟨c, hc⟩ := sortedHeap_at (a := g.objs.size) (vs := [Value.int 0 t]) (out := #[.int 0 t']) hoL
  exact wpAny_pure ⟨_, rfl, h _ t' c _ (F1.kept hk2) (N1.kept_cons F1 hk2 (Nat.le_refl _) hc) fun p hp => Heap.lt_size (N1 p hp).1⟩
end
/-! W2: the contract of _law_wrong -/
set_option maxHeartbeats 8000000 in
theorem wrong_c (w : World) {p : Program} {loose : List Str} {mean : ExcName → Option Value} {mg mb : Str → Option Value}
  {dp un : Nat} {gd : Option (List Code)} {cn : Str} {cs : Scope} {a : Addr} {ccd : Value} {cl : List (Str × Addr)} {outer : List Env} {A₀ : Around} {base h₀ : Heap} {L : Addr} {m : Str → Option Value} {s : Shared} {Q E : Value → Shared → Prop}
  {nw : List (Addr × Obj)} {l : Addr} {cap cnt : Nat} {tc : Tok} {vs : List Value} {rows : List (Int × List Int × Int)}
  (B : Below A₀ base outer h₀) (F : Fr h₀ L s.heap m) (X : (hd.heap_1 w.params).In h₀) (N : News h₀ L s.heap nw)
  (T : Top p loose mean mg mb h₀) (hk : cs.kind = .function)
  (m1 : (l, W.listOf vs.toArray cap) ∈ nw) (hD : DatAll nw vs (rowsD rows))
  (hlen : rows.length ≤ 100) (hlo : cnt ≤ 100)
  (hd : dp + 60 < recursionLimit) (hu : un + 2500 < cLine)
  (ret0 : wrong cnt rows = none → ∀ h' tk', Fr h₀ L h' m → News h₀ L h' nw → Q .none { s with heap := h', toks := tk' })
  (ret1 : ∀ x o, wrong cnt rows = some (x, o) → ∀ D tx atv h' tk', atIs o atv → Fr h₀ L h' m → News h₀ L h' ((D, tupObj [.str x tx, atv]) :: nw) → (∀ p ∈ nw, p.1 < D) → Q (.ref D) { s with heap := h', toks := tk' }) :
  wpAny (model PySem.Challenge.rw_pq1006_01.row.prog w) (ktrTop dp un gd cn cs L a ccd cl outer) (call (.ref 916) [.ref l, .int (cnt : Int) tc]) Q E s := by
  k_with_none
  (k_with "k_all" => assumption)
  (k_with "units_room" => ktr_units)
  (k_with "k_room" => ktr_room)
  (k_with "k_units" => ktr_units)
  (k_with "cell_enter" => (refine' code_def ?q4_k1 ?q4_k2 ?q4_k3 ?q4_k4 ?q4_k5 ?q4_kA ?q4_kF ?q4_kK ?q4_k6 ?q4_k7 ?q4_k8 ?q4_k9 ?q4_kB ?_ ?q4_c2 ?q4_c3 ?q4_c4 ?q4_c5; (case q4_kA => exact rfl); (case q4_kF => exact rfl); (case q4_kK => first | assumption | exact rfl); (case q4_k1 => k_asm); (case q4_k2 => k_asm); (case q4_k3 => k_asm); (case q4_k4 => k_asm); (case q4_k5 => k_asm); (case q4_k6 => k_is); (case q4_k7 => k_is); (case q4_k8 => ktr_room); (case q4_k9 => first | exact BindsTo.of_eq (binds := [(_, _), (_, _)]) rfl | exact BindsTo.of_eq rfl | exact binds_K (by k_in) rfl (by k_is) rfl rfl rfl); (case q4_c5 => decide); (case q4_kB => exact locs rfl); (case q4_c2 => exact rfl); (case q4_c3 => exact rfl); (case q4_c4 => exact rfl); k_whole; intro zg9 zL9 zh9 zFG9 zF9 zN9 zB9 zX9 zT9; (try dsimp only); (try k_lift zB9); (try k_fold)))
  (k_with "exec For Tuple Call cons nil" => (k_here; (rename Fr _ _ _ _ => zlF9); (with_unfolding_all refine' For_turns zlF9 ?_; k_whole)))
  (k_with "exec For Name Subscript cons nil" => (k_here; (rename Fr _ _ _ _ => zlF9); (with_unfolding_all refine' For_turns zlF9 ?_; k_whole)))
  (k_with "call builtin:len" => (k_here; (with_reducible show wpAny _ _ (call (Value.builtin "len") [Value.ref _]) _ _ _); k_dflt (first | (refine' lenT_any ?q7_N ?q7_m ?q7_l ?q7_z ?_; (case q7_N => k_asm); (case q7_m => k_mem); (case q7_l => assumption); (case q7_z => assumption); k_whole) | (refine' lenL_any ?q7_N ?q7_m ?q7_l ?q7_z ?_; (case q7_N => k_asm); (case q7_m => k_mem); (case q7_l => assumption); (case q7_z => assumption); k_whole))))
  (k_with "subscriptTail" => (k_here; (with_reducible show wpAny _ _ (subscriptTail _ _ (Value.ref _) (Value.int _ _)) _ _ _); k_dflt (refine' tupAt ?q8_N ?q8_m ?q8_r ?q8_lo ?q8_hi ?q8_z ?_; (case q8_N => k_asm); (case q8_m => k_mem); (case q8_r => assumption); (case q8_z => assumption); (case q8_lo => first | omega | (simp only [decide_eq_false_iff_not, decide_eq_true_eq] at *; omega)); (case q8_hi => first | omega | (simp only [decide_eq_false_iff_not, decide_eq_true_eq] at *; omega)); k_whole); (intro zv9 zhR9; obtain ⟨za9, zg9, zn9, zc9, zt19, zt39, zus9, zhv9, zhm19, zhm29, zhi9⟩ := row_open zhR9; subst zhv9)))
  (k_with "compareOp Eq ref ref" => (k_here; k_dflt (refine' eqNil ?q9_N ?q9_a ?q9_D ?q9_s ?q9_b ?q9_u ?_; (case q9_N => k_asm); (case q9_a => k_mem); (case q9_D => assumption); (case q9_b => k_mem); (case q9_s => intro p9 h9; repeat (first | exact h9 | refine List.Mem.tail _ ?_)); (case q9_u => ktr_units); k_whole)))
  (k_with "k_mem" => first | exact List.Mem.head _ | (refine' List.Mem.tail _ ?q10_b; (case q10_b => (show (_ : Addr × Obj) ∈ (_ : List (Addr × Obj)); k_mem))))
  (k_with "TurnPost" => ((with_reducible show TurnPost _ _ _ _ _ _ (Flow.ret _) _); dsimp only [TurnPost]))
  (k_with "compareOp NotIn int ref" => (k_here; k_dflt (refine' notIn_range ?q12_h ?_; (case q12_h => assumption); k_whole)))
  revert X; k_fill; intro X
  have hvl : vs.length = rows.length := by have := hD.length; simpa using this
  refine wpAny_call ?_
  k_dflt cell_enter
  k_steps
  rotate_left 2
  with_reducible rename Fr _ _ _ (fun _ => _) => kF
  with_reducible rename News _ _ _ (_ :: _) => kN
  refine enumL_inv ["number", "row", "other"] (fun i => wrong cnt rows = wFrom cnt rows i (rows.drop i)) (wrong2 (by assumption) (by assumption)) rfl kF (News.part kN fun p hp => List.Mem.tail _ hp) m1 ?turn ?done
  case turn =>
    intro i v T t u h tk nw' hv hP hsub hT F2 N2
    obtain ⟨r, hri, hR⟩ := dat_at hD hv
    obtain ⟨a', g', n', c', t1', t3', us', rfl, hm1', hm2', hi'⟩ := row_open (hR.mono hsub)
    have m1' := hsub _ m1
    have hD' := hD.mono hsub
    clear m1 hD kF kN
    k_steps
    all_goals first
      | (
      with_reducible rename Fr h₀ _ _ _ => kF9
      with_reducible rename News h₀ _ _ _ => kN9
      refine ret1 _ (some i) ?wr _ _ _ _ _ ?ata kF9 (ret_tup kN9 ?s) ?lt
      (case wr => exact wFrom_err hP hri (wRow_order (by omega)))
      (case ata => exact ⟨_, rfl⟩)
      (case s => intro p hp; have hp9 := hsub p hp; repeat (first | exact hp9 | refine List.Mem.tail _ ?_))
      (case lt => first | (with_reducible rename _ ∧ AllLt _ _ => l9; exact allLt_mem l9.2) | (rename ∀ (p : Addr × Obj), p ∈ _ → p.fst < _ => l9; exact fun p hp => l9 p (hsub p hp))))
      | skip
    with_reducible rename Fr _ _ _ (fun _ => _) => kF
    with_reducible rename News _ _ _ nw' => kN
    refine tupL_inv ["other"] (fun j => wGoes rows r.2.2 r.2.1 = wGoes rows r.2.2 (r.2.1.drop j)) rfl rfl kF kN hm2' ?turn2 ?done2
    case turn2 =>
      intro j v2 u2 h2 tk2 nw2 hv2 hP2 hsub2 F3 N3
      obtain ⟨o, to, ho, rfl⟩ := ints_at hi' hv2
      have m1'' := hsub2 _ m1'
      have hm1'' := hsub2 _ hm1'
      have hm2'' := hsub2 _ hm2'
      have hD'' := hD'.mono hsub2
      clear m1' hD' hm1' hm2' kF kN
      k_steps
      all_goals first
        | (
      with_reducible rename Fr h₀ _ _ _ => kF9
      with_reducible rename News h₀ _ _ _ => kN9
      refine ret1 _ (some i) ?wr _ _ _ _ _ ?ata kF9 (ret_tup kN9 ?s) ?lt
      (case wr => first | exact wFrom_err hP hri (wRow_goes (by omega) (wGoes_row hP2 ho (by omega))) | exact wFrom_err hP hri (wRow_goes (by omega) (wGoes_fall hP2 ho (by omega) (by assumption))))
      (case ata => exact ⟨_, rfl⟩)
      (case s => intro p hp; have hp9 := hsub2 p (hsub p hp); repeat (first | exact hp9 | refine List.Mem.tail _ ?_))
      (case lt => first | (with_reducible rename _ ∧ AllLt _ _ => l9; exact allLt_mem l9.2) | (rename ∀ (p : Addr × Obj), p ∈ _ → p.fst < _ => l9; exact fun p hp => l9 p (hsub2 p (hsub p hp)))))
        | (with_reducible rename Fr _ _ _ (fun _ => _) => kF9
           with_reducible rename News _ _ _ nw2 => kN9
           exact ⟨_, _, _, rfl, kF9, kN9, fun y hy => keep_if (st_ne hy (by decide)) (stB_out hy), wGoes_on hP2 ho (by omega) (by assumption)⟩)
    case done2 =>
      intro u2 h2 tk2 hP2 F3 N3
      clear kF kN
      have hg := wGoes_end hP2 (by rw [hi'.length])
      k_steps
      all_goals first
        | (
      with_reducible rename Fr h₀ _ _ _ => kF9
      with_reducible rename News h₀ _ _ _ => kN9
      refine ret1 _ (some i) ?wr _ _ _ _ _ ?ata kF9 (ret_tup kN9 ?s) ?lt
      (case wr => exact wFrom_err hP hri (wRow_rank (by omega) hg (by assumption)))
      (case ata => exact ⟨_, rfl⟩)
      (case s => intro p hp; have hp9 := hsub p hp; repeat (first | exact hp9 | refine List.Mem.tail _ ?_))
      (case lt => first | (with_reducible rename _ ∧ AllLt _ _ => l9; exact allLt_mem l9.2) | (rename ∀ (p : Addr × Obj), p ∈ _ → p.fst < _ => l9; exact fun p hp => l9 p (hsub p hp))))
        | (with_reducible rename Fr _ _ _ (fun _ => _) => kF9
           with_reducible rename News _ _ _ nw' => kN9
           exact ⟨_, _, _, rfl, kF9, kN9, fun y hy => (stB_out (st_one hy (by decide))).trans (keep_if (st_ne hy (by decide)) (keep_if (st_ne hy (by decide)) (stB_out hy))), wFrom_on hP hri (wRow_none (by omega) hg (by assumption))⟩)
  case done =>
    intro u h tk hP F2 N2
    clear kF kN
    have hw := wFrom_end hP hvl
    k_steps
    exact ret0 hw _ _ (by assumption) (by assumption)
  all_goals (
      with_reducible rename Fr h₀ _ _ _ => kF9
      with_reducible rename News h₀ _ _ _ => kN9
      refine ret1 _ none ?wr _ _ _ _ _ ?ata kF9 (ret_tup kN9 ?s) ?lt
      (case wr => first | exact wrong0 (by assumption) | exact wrong1 (by assumption))
      (case ata => rfl)
      (case s => intro p hp; have hp9 := hp; repeat (first | exact hp9 | refine List.Mem.tail _ ?_))
      (case lt => first | (with_reducible rename _ ∧ AllLt _ _ => l9; exact allLt_mem l9.2) | (rename ∀ (p : Addr × Obj), p ∈ _ → p.fst < _ => l9; exact fun p hp => l9 p hp)))
local macro_rules | `(tactic| k_lt $h:ident) => `(tactic| (replace $h := allLt_of $h; (try simp only [AllLt, and_true] at $h:ident); (repeat (have h9' := And.left $h; replace $h := And.right $h))))
/-! O1: spot_of -/
abbrev deeds : Str := "add sub mul div or  and lsh rsh neg mod xor mov arshend "
theorem spot_text : ∀ i : Nat, i < 12 → (Txt.strip (Txt.slice deeds (some (4 * (i : Int))) (some (4 * (i : Int) + 4))) == (Str.ofString "mov")) = decide (i = 11) := by decide +kernel
set_option maxHeartbeats 4000000 in
theorem spot_c (w : World) {p : Program} {loose : List Str} {mean : ExcName → Option Value} {mg mb : Str → Option Value} {dp un : Nat} {gd : Option (List Code)} {cn : Str} {cs : Scope} {a : Addr} {ccd : Value} {cl : List (Str × Addr)} {outer : List Env} {A₀ : Around} {base h₀ : Heap} {L : Addr}
    {m : Str → Option Value} {s : Shared} {Q E : Value → Shared → Prop} {nw : List (Addr × Obj)} {t1 t2 : Tok}
    (B : Below A₀ base outer h₀) (F : Fr h₀ L s.heap m) (X : (hd.heap_1 w.params).In h₀) (N : News h₀ L s.heap nw) (T : Top p loose mean mg mb h₀) (hk : cs.kind = .function) (hd : dp + 20 < recursionLimit) (hu : un + 500 < cLine)
    (ret : ∀ t h' tk', Fr h₀ L h' m → News h₀ L h' nw → Q (.int 11 t) { s with heap := h', toks := tk' }) :
    wpAny (model PySem.Challenge.rw_pq1006_01.row.prog w) (ktrTop dp un gd cn cs L a ccd cl outer) (call (.ref 725) [.str deeds t1, .str "mov" t2]) Q E s := by
  k_with_none
  (k_with "k_all" => assumption)
  (k_with "units_room" => ktr_units)
  (k_with "k_room" => ktr_room)
  (k_with "k_units" => ktr_units)
  (k_with "cell_enter" => (refine' code_def ?q4_k1 ?q4_k2 ?q4_k3 ?q4_k4 ?q4_k5 ?q4_kA ?q4_kF ?q4_kK ?q4_k6 ?q4_k7 ?q4_k8 ?q4_k9 ?q4_kB ?_ ?q4_c2 ?q4_c3 ?q4_c4 ?q4_c5; (case q4_kA => exact rfl); (case q4_kF => exact rfl); (case q4_kK => first | assumption | exact rfl); (case q4_k1 => k_asm); (case q4_k2 => k_asm); (case q4_k3 => k_asm); (case q4_k4 => k_asm); (case q4_k5 => k_asm); (case q4_k6 => k_is); (case q4_k7 => k_is); (case q4_k8 => ktr_room); (case q4_k9 => first | exact BindsTo.of_eq (binds := [(_, _), (_, _)]) rfl | exact BindsTo.of_eq rfl | exact binds_K (by k_in) rfl (by k_is) rfl rfl rfl); (case q4_c5 => decide); (case q4_kB => exact locs rfl); (case q4_c2 => exact rfl); (case q4_c3 => exact rfl); (case q4_c4 => exact rfl); k_whole; intro zg9 zL9 zh9 zFG9 zF9 zN9 zB9 zX9 zT9; (try dsimp only); (try k_lift zB9); (try k_fold)))
  (k_with "k_mem" => first | with_reducible assumption | exact List.Mem.head _ | (refine' List.Mem.tail _ ?q5_b; (case q5_b => (show (_ : Addr × Obj) ∈ (_ : List (Addr × Obj)); k_mem))))
  (k_with "k_ne" => (try dsimp only); first | with_reducible assumption | exact Ne.symm (by with_reducible assumption) | exact Nat.ne_of_lt (by with_reducible assumption) | exact Nat.ne_of_gt (by with_reducible assumption))
  (k_with "k_all" => first | exact True.intro | with_reducible assumption | exact allLt_ne (by with_reducible assumption) | exact AllNe.mem (by with_reducible assumption) | (refine' And.intro ?q7_a ?q7_b; (case q7_a => k_ne); (case q7_b => k_all)) | (refine' List.forall_mem_cons.mpr (And.intro ?q7_a ?q7_b); (case q7_a => k_ne); (case q7_b => k_all)))
  (k_with "call type:list" => (k_here; (with_reducible show wpAny _ _ (call (Value.type _) [Value.ref _]) _ _ _); k_dflt (refine' list_copyK ?q8_k1 ?q8_k2 ?q8_k3 ?_ ?q8_z; (case q8_k1 => k_asm); (case q8_k2 => k_asm); (case q8_k3 => exact News.isList (by k_asm) (by k_mem)); (case q8_z => exact size_line _ (by with_reducible assumption)); k_whole); intro zD9 zc9 zh9 zF9 zN9 zl1; (try k_lt zl1); (try k_sweep)))
  (k_with "call builtin:len" => (k_here; (with_reducible show wpAny _ _ (call (Value.builtin "len") [Value.ref _]) _ _ _); k_dflt (refine' lenL_any ?q9_N ?q9_m ?q9_l ?q9_z ?_; (case q9_N => k_asm); (case q9_m => k_mem); (case q9_l => first | with_reducible assumption | exact rfl); (case q9_z => first | with_reducible assumption | exact Nat.le_trans (by with_reducible assumption) (by decide)); k_whole)))
  (k_with "subscriptTail" => (k_here; (with_reducible show wpAny _ _ (subscriptTail _ _ (Value.ref _) (Value.int _ _)) _ _ _); k_dflt (refine' listAt ?q10_N ?q10_m ?q10_lo ?q10_hi ?q10_z ?_; (case q10_N => k_asm); (case q10_m => k_mem); (case q10_z => first | with_reducible assumption | exact Nat.le_trans (by with_reducible assumption) (by decide)); (case q10_lo => first | with_reducible assumption | omega); (case q10_hi => first | with_reducible assumption | omega); k_whole); intro zv99 zhv99))
  (k_with "ktr_room" => (simp only [depth_under_make, depth_under_kw, depth_in1, depth_deeper, ktr_depth, Nat.add_assoc]; exact room_lt (by with_reducible assumption) (by decide)))
  (k_with "ktr_units" => (simp only [units_under_make, units_deeper, units_in1, ktr_unit, Nat.add_assoc]; exact room_lt (by with_reducible assumption) (by decide)))
  (k_with "exec For Name Call cons nil" => (k_here; (rename Fr _ _ _ _ => zlF9); (with_unfolding_all refine' For_turns zlF9 ?_; k_whole)))
  (k_with "last exec For" => (k_here; (rename Fr _ _ _ _ => zlF9); (with_unfolding_all refine' For_turns zlF9 ?_; k_whole)))
  revert X; k_fill; intro X
  refine wpAny_call ?_
  k_dflt cell_enter
  k_steps
  with_reducible rename Fr _ _ _ (fun _ => _) => kF
  with_reducible rename News _ _ _ nw => kN
  refine' range_inv (n := 14) ["at"] (fun i _ => i ≤ 11) rfl ?hr ?hn kF kN (Nat.zero_le _) ?turn ?done
  case hr => assumption
  case hn => decide
  case turn =>
    intro i ti u2 hp2 tk2 nw2 hi hi2 hsub F3 N3
    clear kF kN
    have ht := spot_text i (Nat.lt_succ_of_le hi2)
    k_steps
    · with_reducible rename (_ == _) = true => hq9
      rw [ht] at hq9
      have e11 : i = 11 := of_decide_eq_true hq9
      subst e11
      dsimp only [TurnPost]
      k_steps
      with_reducible rename Fr h₀ _ _ m => kF9
      with_reducible rename News h₀ _ _ nw2 => kN9
      exact ret _ _ _ kF9 (News.part kN9 hsub)
    · with_reducible rename (_ == _) = false => hq9
      rw [ht] at hq9
      have e11 : i ≠ 11 := of_decide_eq_false hq9
      with_reducible rename Fr _ _ _ (fun _ => _) => kF9
      with_reducible rename News _ _ _ nw2 => kN9
      exact ⟨_, _, _, rfl, kF9, kN9, fun y hy => keep_if (st_ne hy (by decide)) (stB_out hy), Nat.lt_of_le_of_ne hi2 e11⟩
  case done =>
    intro u2 hp2 tk2 h14 F3 N3
    exact absurd h14 (by decide)
/-! O2: alu_imm, leave -/
def OrdC (w : World) (k u : Nat) (f : Addr) (c : Int) (args : List Value → Prop) : Prop :=
  ∀ {p : Program} {loose : List Str} {mean : ExcName → Option Value} {mg mb : Str → Option Value} {dp un : Nat} {gd : Option (List Code)} {cn : Str} {cs : Scope} {a : Addr} {ccd : Value} {cl : List (Str × Addr)} {outer : List Env} {A₀ : Around} {base h₀ : Heap} {L : Addr}
    {m : Str → Option Value} {s : Shared} {Q E : Value → Shared → Prop} {nw : List (Addr × Obj)} {vs : List Value},
    Below A₀ base outer h₀ → Fr h₀ L s.heap m → (hd.heap_1 w.params).In h₀ → News h₀ L s.heap nw → Top p loose mean mg mb h₀ → cs.kind = .function → args vs → dp + k < recursionLimit → un + u < cLine →
    (∀ o d od h' tk', OrdIn [(o, instObj 658 d), (d, od)] (.ref o) c → Fr h₀ L h' m → News h₀ L h' ((o, instObj 658 d) :: (d, od) :: nw) → (∀ p ∈ nw, p.1 < d) → d < o → Q (.ref o) { s with heap := h', toks := tk' }) →
    wpAny (model PySem.Challenge.rw_pq1006_01.row.prog w) (ktrTop dp un gd cn cs L a ccd cl outer) (call (.ref f) vs) Q E s
set_option maxHeartbeats 4000000 in
theorem alu_c (w : World) : OrdC w 60 2500 740 183 (fun vs => ∃ i t1 t2 t3, vs = [.str "mov" t1, .int 0 t2, .int i t3]) := by
  k_with_none
  (k_with "k_all" => assumption)
  (k_with "units_room" => ktr_units)
  (k_with "k_room" => ktr_room)
  (k_with "k_units" => ktr_units)
  (k_with "cell_enter" => (refine' code_def ?q4_k1 ?q4_k2 ?q4_k3 ?q4_k4 ?q4_k5 ?q4_kA ?q4_kF ?q4_kK ?q4_k6 ?q4_k7 ?q4_k8 ?q4_k9 ?q4_kB ?_ ?q4_c2 ?q4_c3 ?q4_c4 ?q4_c5; (case q4_kA => exact rfl); (case q4_kF => exact rfl); (case q4_kK => first | assumption | exact rfl); (case q4_k1 => k_asm); (case q4_k2 => k_asm); (case q4_k3 => k_asm); (case q4_k4 => k_asm); (case q4_k5 => k_asm); (case q4_k6 => k_is); (case q4_k7 => k_is); (case q4_k8 => ktr_room); (case q4_k9 => first | exact binds_K (binds := [(_, _), (_, _), (_, _), (_, _), (_, _), (_, _), (_, _)]) (by k_in) rfl (by k_is) rfl rfl rfl | exact binds_K (binds := [(_, _), (_, _), (_, _), (_, _)]) (by k_in) rfl (by k_is) rfl rfl rfl | exact BindsTo.of_eq (binds := [(_, _), (_, _)]) rfl | exact BindsTo.of_eq rfl | exact binds_K (by k_in) rfl (by k_is) rfl rfl rfl); (case q4_c5 => decide); (case q4_kB => exact locs rfl); (case q4_c2 => exact rfl); (case q4_c3 => exact rfl); (case q4_c4 => exact rfl); k_whole; intro zg9 zL9 zh9 zFG9 zF9 zN9 zB9 zX9 zT9; (try dsimp only); (try k_lift zB9); (try k_fold)))
  (k_with "k_mem" => first | with_reducible assumption | exact List.Mem.head _ | (refine' List.Mem.tail _ ?q5_b; (case q5_b => (show (_ : Addr × Obj) ∈ (_ : List (Addr × Obj)); k_mem))))
  (k_with "k_ne" => (try dsimp only); first | with_reducible assumption | exact Ne.symm (by with_reducible assumption) | exact Nat.ne_of_lt (by with_reducible assumption) | exact Nat.ne_of_gt (by with_reducible assumption))
  (k_with "k_all" => first | exact True.intro | with_reducible assumption | exact allLt_ne (by with_reducible assumption) | exact AllNe.mem (by with_reducible assumption) | (refine' And.intro ?q7_a ?q7_b; (case q7_a => k_ne); (case q7_b => k_all)) | (refine' List.forall_mem_cons.mpr (And.intro ?q7_a ?q7_b); (case q7_a => k_ne); (case q7_b => k_all)))
  (k_with "call type:list" => (k_here; (with_reducible show wpAny _ _ (call (Value.type _) [Value.ref _]) _ _ _); k_dflt (refine' list_copyK ?q8_k1 ?q8_k2 ?q8_k3 ?_ ?q8_z; (case q8_k1 => k_asm); (case q8_k2 => k_asm); (case q8_k3 => exact News.isList (by k_asm) (by k_mem)); (case q8_z => exact size_line _ (by with_reducible assumption)); k_whole); intro zD9 zc9 zh9 zF9 zN9 zl1; (try k_lt zl1); (try k_sweep)))
  (k_with "call builtin:len" => (k_here; (with_reducible show wpAny _ _ (call (Value.builtin "len") [Value.ref _]) _ _ _); k_dflt (refine' lenL_any ?q9_N ?q9_m ?q9_l ?q9_z ?_; (case q9_N => k_asm); (case q9_m => k_mem); (case q9_l => first | with_reducible assumption | exact rfl); (case q9_z => first | with_reducible assumption | exact Nat.le_trans (by with_reducible assumption) (by decide)); k_whole)))
  (k_with "subscriptTail" => (k_here; (with_reducible show wpAny _ _ (subscriptTail _ _ (Value.ref _) (Value.int _ _)) _ _ _); k_dflt (refine' listAt ?q10_N ?q10_m ?q10_lo ?q10_hi ?q10_z ?_; (case q10_N => k_asm); (case q10_m => k_mem); (case q10_z => first | with_reducible assumption | exact Nat.le_trans (by with_reducible assumption) (by decide)); (case q10_lo => first | with_reducible assumption | omega); (case q10_hi => first | with_reducible assumption | omega); k_whole); intro zv99 zhv99))
  (k_with "ktr_room" => (simp only [depth_under_make, depth_under_kw, depth_in1, depth_deeper, ktr_depth, Nat.add_assoc]; exact room_lt (by with_reducible assumption) (by decide)))
  (k_with "ktr_units" => (simp only [units_under_make, units_deeper, units_in1, ktr_unit, Nat.add_assoc]; exact room_lt (by with_reducible assumption) (by decide)))
  (k_with "call ref" => (k_here; (with_reducible show wpAny _ _ (call (Value.ref 725) [_, _]) _ _ _); k_dflt (with_unfolding_all refine' spot_c _ ?q13_B ?q13_F ?q13_X ?q13_N ?q13_T ?q13_k ?q13_d ?q13_u ?_; (case q13_k => rfl); (case q13_F => k_asm); (case q13_N => k_asm); (case q13_B => k_asm); (case q13_X => k_asm); (case q13_T => k_asm); (case q13_d => ktr_room); (case q13_u => ktr_units); k_whole); (intro zt9 zh9 ztk9 zF9 zN9; (try k_sweep))))
  (k_with "execs cons" => (k_here; (with_reducible show wpAny _ _ (execs (Stmt.Assign [Expr.Attribute (Expr.Name _ _) _ _] (Expr.Name _ _) _ :: _) _) _ _ _); k_dflt (refine' sets_at (slf := "self") ?q14_S ?q14_X ?q14_self ?q14_k ?q14_ks ?q14_ds ?q14_c1 ?q14_c2 ?q14_c3 ?q14_F ?q14_N ?q14_U ?q14_hx ?q14_K ?q14_d ?q14_l ?_; (case q14_F => k_asm); (case q14_N => k_asm); (case q14_X => k_asm); (case q14_self => exact rfl); (case q14_hx => k_mem); (case q14_U => k_updF); (case q14_k => exact rfl); (case q14_ks => exact rfl); (case q14_ds => exact rfl); (case q14_c1 => k_is); (case q14_c2 => k_is); (case q14_c3 => k_is); (case q14_K => (repeat' (refine' Keys.cons ?_)); (any_goals (exact Keys.nil))); (case q14_S => (refine' SetL.cons ?_ ?_ ?_ ?_ ?_); (repeat' (first | (refine' SetL.cons ?_ ?_ ?_ ?_ ?_) | k_is | exact rfl)); (any_goals (exact SetL.nil))); (case q14_d => decide +kernel); (case q14_l => exact Nat.le_of_ble_eq_true rfl); k_whole); (intro zh9 ztk09 ztk9 zF9 zN9; (try dsimp only [ents, List.cons_append, List.nil_append, List.length_cons, List.length_nil, Nat.reduceAdd] at zN9); (try k_sweep))))
  intro p loose mean mg mb dp un gd cn cs a ccd cl outer A₀ base h₀ L m s Q E nw vs B F X N T hk hv hd hu ret
  obtain ⟨i, t1, t2, t3, rfl⟩ := hv
  revert X; k_fill; intro X
  refine wpAny_call ?_
  k_dflt cell_enter
  k_steps
  with_reducible rename Fr h₀ _ _ m => kF9
  with_reducible rename News h₀ _ _ (_ :: _) => kN9
  with_reducible rename AllLt _ nw => l9
  (try rw [show (11 * 2 ^ Int.toNat 4 + 7 : Int) = 183 from by decide] at kN9)
  exact ret _ _ _ _ _ (.mk _ _ _ _ _ _ _ _ _ _ _ _ _ _ _ _ _ _ _ _ rfl (.head _) (.tail _ (.head _))) kF9 kN9 (allLt_mem l9) (by with_reducible assumption)
set_option maxHeartbeats 4000000 in
theorem leave_c (w : World) : OrdC w 60 2500 747 149 (fun vs => vs = []) := by
  k_with_none
  (k_with "k_all" => assumption)
  (k_with "units_room" => ktr_units)
  (k_with "k_room" => ktr_room)
  (k_with "k_units" => ktr_units)
  (k_with "cell_enter" => (refine' code_def ?q4_k1 ?q4_k2 ?q4_k3 ?q4_k4 ?q4_k5 ?q4_kA ?q4_kF ?q4_kK ?q4_k6 ?q4_k7 ?q4_k8 ?q4_k9 ?q4_kB ?_ ?q4_c2 ?q4_c3 ?q4_c4 ?q4_c5; (case q4_kA => exact rfl); (case q4_kF => exact rfl); (case q4_kK => first | assumption | exact rfl); (case q4_k1 => k_asm); (case q4_k2 => k_asm); (case q4_k3 => k_asm); (case q4_k4 => k_asm); (case q4_k5 => k_asm); (case q4_k6 => k_is); (case q4_k7 => k_is); (case q4_k8 => ktr_room); (case q4_k9 => first | exact binds_K (binds := [(_, _), (_, _), (_, _), (_, _), (_, _), (_, _), (_, _)]) (by k_in) rfl (by k_is) rfl rfl rfl | exact binds_K (binds := [(_, _), (_, _), (_, _), (_, _)]) (by k_in) rfl (by k_is) rfl rfl rfl | exact BindsTo.of_eq (binds := [(_, _), (_, _)]) rfl | exact BindsTo.of_eq rfl | exact binds_K (by k_in) rfl (by k_is) rfl rfl rfl); (case q4_c5 => decide); (case q4_kB => exact locs rfl); (case q4_c2 => exact rfl); (case q4_c3 => exact rfl); (case q4_c4 => exact rfl); k_whole; intro zg9 zL9 zh9 zFG9 zF9 zN9 zB9 zX9 zT9; (try dsimp only); (try k_lift zB9); (try k_fold)))
  (k_with "k_mem" => first | with_reducible assumption | exact List.Mem.head _ | (refine' List.Mem.tail _ ?q5_b; (case q5_b => (show (_ : Addr × Obj) ∈ (_ : List (Addr × Obj)); k_mem))))
  (k_with "k_ne" => (try dsimp only); first | with_reducible assumption | exact Ne.symm (by with_reducible assumption) | exact Nat.ne_of_lt (by with_reducible assumption) | exact Nat.ne_of_gt (by with_reducible assumption))
  (k_with "k_all" => first | exact True.intro | with_reducible assumption | exact allLt_ne (by with_reducible assumption) | exact AllNe.mem (by with_reducible assumption) | (refine' And.intro ?q7_a ?q7_b; (case q7_a => k_ne); (case q7_b => k_all)) | (refine' List.forall_mem_cons.mpr (And.intro ?q7_a ?q7_b); (case q7_a => k_ne); (case q7_b => k_all)))
  (k_with "call type:list" => (k_here; (with_reducible show wpAny _ _ (call (Value.type _) [Value.ref _]) _ _ _); k_dflt (refine' list_copyK ?q8_k1 ?q8_k2 ?q8_k3 ?_ ?q8_z; (case q8_k1 => k_asm); (case q8_k2 => k_asm); (case q8_k3 => exact News.isList (by k_asm) (by k_mem)); (case q8_z => exact size_line _ (by with_reducible assumption)); k_whole); intro zD9 zc9 zh9 zF9 zN9 zl1; (try k_lt zl1); (try k_sweep)))
  (k_with "call builtin:len" => (k_here; (with_reducible show wpAny _ _ (call (Value.builtin "len") [Value.ref _]) _ _ _); k_dflt (refine' lenL_any ?q9_N ?q9_m ?q9_l ?q9_z ?_; (case q9_N => k_asm); (case q9_m => k_mem); (case q9_l => first | with_reducible assumption | exact rfl); (case q9_z => first | with_reducible assumption | exact Nat.le_trans (by with_reducible assumption) (by decide)); k_whole)))
  (k_with "subscriptTail" => (k_here; (with_reducible show wpAny _ _ (subscriptTail _ _ (Value.ref _) (Value.int _ _)) _ _ _); k_dflt (refine' listAt ?q10_N ?q10_m ?q10_lo ?q10_hi ?q10_z ?_; (case q10_N => k_asm); (case q10_m => k_mem); (case q10_z => first | with_reducible assumption | exact Nat.le_trans (by with_reducible assumption) (by decide)); (case q10_lo => first | with_reducible assumption | omega); (case q10_hi => first | with_reducible assumption | omega); k_whole); intro zv99 zhv99))
  (k_with "ktr_room" => (simp only [depth_under_make, depth_under_kw, depth_in1, depth_deeper, ktr_depth, Nat.add_assoc]; exact room_lt (by with_reducible assumption) (by decide)))
  (k_with "ktr_units" => (simp only [units_under_make, units_deeper, units_in1, ktr_unit, Nat.add_assoc]; exact room_lt (by with_reducible assumption) (by decide)))
  (k_with "call ref" => (k_here; (with_reducible show wpAny _ _ (call (Value.ref 725) [_, _]) _ _ _); k_dflt (with_unfolding_all refine' spot_c _ ?q13_B ?q13_F ?q13_X ?q13_N ?q13_T ?q13_k ?q13_d ?q13_u ?_; (case q13_k => rfl); (case q13_F => k_asm); (case q13_N => k_asm); (case q13_B => k_asm); (case q13_X => k_asm); (case q13_T => k_asm); (case q13_d => ktr_room); (case q13_u => ktr_units); k_whole); (intro zt9 zh9 ztk9 zF9 zN9; (try k_sweep))))
  (k_with "execs cons" => (k_here; (with_reducible show wpAny _ _ (execs (Stmt.Assign [Expr.Attribute (Expr.Name _ _) _ _] (Expr.Name _ _) _ :: _) _) _ _ _); k_dflt (refine' sets_at (slf := "self") ?q14_S ?q14_X ?q14_self ?q14_k ?q14_ks ?q14_ds ?q14_c1 ?q14_c2 ?q14_c3 ?q14_F ?q14_N ?q14_U ?q14_hx ?q14_K ?q14_d ?q14_l ?_; (case q14_F => k_asm); (case q14_N => k_asm); (case q14_X => k_asm); (case q14_self => exact rfl); (case q14_hx => k_mem); (case q14_U => k_updF); (case q14_k => exact rfl); (case q14_ks => exact rfl); (case q14_ds => exact rfl); (case q14_c1 => k_is); (case q14_c2 => k_is); (case q14_c3 => k_is); (case q14_K => (repeat' (refine' Keys.cons ?_)); (any_goals (exact Keys.nil))); (case q14_S => (refine' SetL.cons ?_ ?_ ?_ ?_ ?_); (repeat' (first | (refine' SetL.cons ?_ ?_ ?_ ?_ ?_) | k_is | exact rfl)); (any_goals (exact SetL.nil))); (case q14_d => decide +kernel); (case q14_l => exact Nat.le_of_ble_eq_true rfl); k_whole); (intro zh9 ztk09 ztk9 zF9 zN9; (try dsimp only [ents, List.cons_append, List.nil_append, List.length_cons, List.length_nil, Nat.reduceAdd] at zN9); (try k_sweep))))
  intro p loose mean mg mb dp un gd cn cs a ccd cl outer A₀ base h₀ L m s Q E nw vs B F X N T hk hv hd hu ret
  subst hv
  revert X; k_fill; intro X
  refine wpAny_call ?_
  k_dflt cell_enter
  k_steps
  with_reducible rename Fr h₀ _ _ m => kF9
  with_reducible rename News h₀ _ _ (_ :: _) => kN9
  with_reducible rename AllLt _ nw => l9
  (try rw [show (11 * 2 ^ Int.toNat 4 + 7 : Int) = 183 from by decide] at kN9)
  exact ret _ _ _ _ _ (.mk _ _ _ _ _ _ _ _ _ _ _ _ _ _ _ _ _ _ _ _ rfl (.head _) (.tail _ (.head _))) kF9 kN9 (allLt_mem l9) (by with_reducible assumption)
/-! O3: Scalar.const(0): an object; nothing is kept of it -/
def RegC (w : World) (k u : Nat) (f : Addr) (args : List Value → Prop) : Prop :=
  ∀ {p : Program} {loose : List Str} {mean : ExcName → Option Value} {mg mb : Str → Option Value} {dp un : Nat} {gd : Option (List Code)} {cn : Str} {cs : Scope} {a : Addr} {ccd : Value} {cl : List (Str × Addr)} {outer : List Env} {A₀ : Around} {base h₀ : Heap} {L : Addr}
    {m : Str → Option Value} {s : Shared} {Q E : Value → Shared → Prop} {nw : List (Addr × Obj)} {vs : List Value},
    Below A₀ base outer h₀ → Fr h₀ L s.heap m → (hd.heap_1 w.params).In h₀ → News h₀ L s.heap nw → Top p loose mean mg mb h₀ → cs.kind = .function → args vs → dp + k < recursionLimit → un + u < cLine →
    (∀ o h' tk', Fr h₀ L h' m → News h₀ L h' nw → Q (.ref o) { s with heap := h', toks := tk' }) →
    wpAny (model PySem.Challenge.rw_pq1006_01.row.prog w) (ktrTop dp un gd cn cs L a ccd cl outer) (call (.ref f) vs) Q E s
set_option maxHeartbeats 4000000 in
theorem const_c (w : World) : RegC w 50 2000 324 (fun vs => ∃ t, vs = [.int 0 t]) := by
  k_with_none
  (k_with "k_all" => assumption)
  (k_with "units_room" => ktr_units)
  (k_with "k_room" => ktr_room)
  (k_with "k_units" => ktr_units)
  (k_with "cell_enter" => (refine' code_def ?q4_k1 ?q4_k2 ?q4_k3 ?q4_k4 ?q4_k5 ?q4_kA ?q4_kF ?q4_kK ?q4_k6 ?q4_k7 ?q4_k8 ?q4_k9 ?q4_kB ?_ ?q4_c2 ?q4_c3 ?q4_c4 ?q4_c5; (case q4_kA => exact rfl); (case q4_kF => exact rfl); (case q4_kK => first | assumption | exact rfl); (case q4_k1 => k_asm); (case q4_k2 => k_asm); (case q4_k3 => k_asm); (case q4_k4 => k_asm); (case q4_k5 => k_asm); (case q4_k6 => k_is); (case q4_k7 => k_is); (case q4_k8 => ktr_room); (case q4_k9 => first | exact binds_K (binds := [(_, _), (_, _)]) (by k_in) rfl (by k_is) rfl rfl rfl | exact BindsTo.of_eq (binds := [(_, _), (_, _), (_, _)]) rfl | exact BindsTo.of_eq (binds := [(_, _), (_, _), (_, _), (_, _), (_, _), (_, _), (_, _), (_, _), (_, _), (_, _)]) rfl | exact BindsTo.of_eq rfl | exact binds_K (by k_in) rfl (by k_is) rfl rfl rfl); (case q4_c5 => decide); (case q4_kB => exact locs rfl); (case q4_c2 => exact rfl); (case q4_c3 => exact rfl); (case q4_c4 => exact rfl); k_whole; intro zg9 zL9 zh9 zFG9 zF9 zN9 zB9 zX9 zT9; (try dsimp only); (try k_lift zB9); (try k_fold)))
  (k_with "k_mem" => first | with_reducible assumption | exact List.Mem.head _ | (refine' List.Mem.tail _ ?q5_b; (case q5_b => (show (_ : Addr × Obj) ∈ (_ : List (Addr × Obj)); k_mem))))
  (k_with "k_ne" => (try dsimp only); first | with_reducible assumption | exact Ne.symm (by with_reducible assumption) | exact Nat.ne_of_lt (by with_reducible assumption) | exact Nat.ne_of_gt (by with_reducible assumption))
  (k_with "k_all" => first | exact True.intro | with_reducible assumption | exact allLt_ne (by with_reducible assumption) | exact AllNe.mem (by with_reducible assumption) | (refine' And.intro ?q7_a ?q7_b; (case q7_a => k_ne); (case q7_b => k_all)) | (refine' List.forall_mem_cons.mpr (And.intro ?q7_a ?q7_b); (case q7_a => k_ne); (case q7_b => k_all)))
  (k_with "call type:list" => (k_here; (with_reducible show wpAny _ _ (call (Value.type _) [Value.ref _]) _ _ _); k_dflt (refine' list_copyK ?q8_k1 ?q8_k2 ?q8_k3 ?_ ?q8_z; (case q8_k1 => k_asm); (case q8_k2 => k_asm); (case q8_k3 => exact News.isList (by k_asm) (by k_mem)); (case q8_z => exact size_line _ (by with_reducible assumption)); k_whole); intro zD9 zc9 zh9 zF9 zN9 zl1; (try k_lt zl1); (try k_sweep)))
  (k_with "call builtin:len" => (k_here; (with_reducible show wpAny _ _ (call (Value.builtin "len") [Value.ref _]) _ _ _); k_dflt (refine' lenL_any ?q9_N ?q9_m ?q9_l ?q9_z ?_; (case q9_N => k_asm); (case q9_m => k_mem); (case q9_l => first | with_reducible assumption | exact rfl); (case q9_z => first | with_reducible assumption | exact Nat.le_trans (by with_reducible assumption) (by decide)); k_whole)))
  (k_with "subscriptTail" => (k_here; (with_reducible show wpAny _ _ (subscriptTail _ _ (Value.ref _) (Value.int _ _)) _ _ _); k_dflt (refine' listAt ?q10_N ?q10_m ?q10_lo ?q10_hi ?q10_z ?_; (case q10_N => k_asm); (case q10_m => k_mem); (case q10_z => first | with_reducible assumption | exact Nat.le_trans (by with_reducible assumption) (by decide)); (case q10_lo => first | with_reducible assumption | omega); (case q10_hi => first | with_reducible assumption | omega); k_whole); intro zv99 zhv99))
  (k_with "ktr_room" => (simp only [depth_under_make, depth_under_kw, depth_in1, depth_deeper, ktr_depth, Nat.add_assoc]; exact room_lt (by with_reducible assumption) (by decide)))
  (k_with "ktr_units" => (simp only [units_under_make, units_deeper, units_in1, ktr_unit, Nat.add_assoc]; exact room_lt (by with_reducible assumption) (by decide)))
  (k_with "execs cons" => (k_here; (with_reducible show wpAny _ _ (execs (Stmt.Assign [Expr.Attribute (Expr.Name _ _) _ _] (Expr.Name _ _) _ :: _) _) _ _ _); k_dflt (refine' sets_at (slf := "self") ?q13_S ?q13_X ?q13_self ?q13_k ?q13_ks ?q13_ds ?q13_c1 ?q13_c2 ?q13_c3 ?q13_F ?q13_N ?q13_U ?q13_hx ?q13_K ?q13_d ?q13_l ?_; (case q13_F => k_asm); (case q13_N => k_asm); (case q13_X => k_asm); (case q13_self => exact rfl); (case q13_hx => k_mem); (case q13_U => k_updF); (case q13_k => exact rfl); (case q13_ks => exact rfl); (case q13_ds => exact rfl); (case q13_c1 => k_is); (case q13_c2 => k_is); (case q13_c3 => k_is); (case q13_K => (repeat' (refine' Keys.cons ?_)); (any_goals (exact Keys.nil))); (case q13_S => (refine' SetL.cons ?_ ?_ ?_ ?_ ?_); (repeat' (first | (refine' SetL.cons ?_ ?_ ?_ ?_ ?_) | k_is | exact rfl)); (any_goals (exact SetL.nil))); (case q13_d => decide +kernel); (case q13_l => exact Nat.le_of_ble_eq_true rfl); k_whole); (intro zh9 ztk09 ztk9 zF9 zN9; (try dsimp only [ents, List.cons_append, List.nil_append, List.length_cons, List.length_nil, Nat.reduceAdd] at zN9); (try k_sweep))))
  intro p loose mean mg mb dp un gd cn cs a ccd cl outer A₀ base h₀ L m s Q E nw vs B F X N T hk hv hd hu ret
  obtain ⟨t, rfl⟩ := hv
  revert X; k_fill; intro X
  refine wpAny_call ?_
  k_dflt cell_enter
  k_steps
  with_reducible rename Fr h₀ _ _ m => kF9
  with_reducible rename News h₀ _ _ (_ :: _) => kN9
  exact ret _ _ _ kF9 (News.part kN9 fun p hp => by repeat (first | exact hp | refine List.Mem.tail _ ?_))
/-! O4: Reg(kind), Reg(kind, off, None, ..) -/
set_option maxHeartbeats 4000000 in
theorem reg1_c (w : World) : RegC w 70 2500 431 (fun vs => ∃ x t, vs = [.str x t]) := by
  k_with_none
  (k_with "k_all" => assumption)
  (k_with "units_room" => ktr_units)
  (k_with "k_room" => ktr_room)
  (k_with "k_units" => ktr_units)
  (k_with "cell_enter" => (refine' code_def ?q4_k1 ?q4_k2 ?q4_k3 ?q4_k4 ?q4_k5 ?q4_kA ?q4_kF ?q4_kK ?q4_k6 ?q4_k7 ?q4_k8 ?q4_k9 ?q4_kB ?_ ?q4_c2 ?q4_c3 ?q4_c4 ?q4_c5; (case q4_kA => exact rfl); (case q4_kF => exact rfl); (case q4_kK => first | assumption | exact rfl); (case q4_k1 => k_asm); (case q4_k2 => k_asm); (case q4_k3 => k_asm); (case q4_k4 => k_asm); (case q4_k5 => k_asm); (case q4_k6 => k_is); (case q4_k7 => k_is); (case q4_k8 => ktr_room); (case q4_k9 => first | exact binds_K (binds := [(_, _), (_, _), (_, _), (_, _), (_, _), (_, _), (_, _), (_, _), (_, _)]) (by k_in) rfl (by k_is) rfl rfl rfl | exact BindsTo.of_eq rfl | exact binds_K (by k_in) rfl (by k_is) rfl rfl rfl); (case q4_c5 => decide); (case q4_kB => exact locs rfl); (case q4_c2 => exact rfl); (case q4_c3 => exact rfl); (case q4_c4 => exact rfl); k_whole; intro zg9 zL9 zh9 zFG9 zF9 zN9 zB9 zX9 zT9; (try dsimp only); (try k_lift zB9); (try k_fold)))
  (k_with "k_mem" => first | with_reducible assumption | exact List.Mem.head _ | (refine' List.Mem.tail _ ?q5_b; (case q5_b => (show (_ : Addr × Obj) ∈ (_ : List (Addr × Obj)); k_mem))))
  (k_with "k_ne" => (try dsimp only); first | with_reducible assumption | exact Ne.symm (by with_reducible assumption) | exact Nat.ne_of_lt (by with_reducible assumption) | exact Nat.ne_of_gt (by with_reducible assumption))
  (k_with "k_all" => first | exact True.intro | with_reducible assumption | exact allLt_ne (by with_reducible assumption) | exact AllNe.mem (by with_reducible assumption) | (refine' And.intro ?q7_a ?q7_b; (case q7_a => k_ne); (case q7_b => k_all)) | (refine' List.forall_mem_cons.mpr (And.intro ?q7_a ?q7_b); (case q7_a => k_ne); (case q7_b => k_all)))
  (k_with "call type:list" => (k_here; (with_reducible show wpAny _ _ (call (Value.type _) [Value.ref _]) _ _ _); k_dflt (refine' list_copyK ?q8_k1 ?q8_k2 ?q8_k3 ?_ ?q8_z; (case q8_k1 => k_asm); (case q8_k2 => k_asm); (case q8_k3 => exact News.isList (by k_asm) (by k_mem)); (case q8_z => exact size_line _ (by with_reducible assumption)); k_whole); intro zD9 zc9 zh9 zF9 zN9 zl1; (try k_lt zl1); (try k_sweep)))
  (k_with "call builtin:len" => (k_here; (with_reducible show wpAny _ _ (call (Value.builtin "len") [Value.ref _]) _ _ _); k_dflt (refine' lenL_any ?q9_N ?q9_m ?q9_l ?q9_z ?_; (case q9_N => k_asm); (case q9_m => k_mem); (case q9_l => first | with_reducible assumption | exact rfl); (case q9_z => first | with_reducible assumption | exact Nat.le_trans (by with_reducible assumption) (by decide)); k_whole)))
  (k_with "subscriptTail" => (k_here; (with_reducible show wpAny _ _ (subscriptTail _ _ (Value.ref _) (Value.int _ _)) _ _ _); k_dflt (refine' listAt ?q10_N ?q10_m ?q10_lo ?q10_hi ?q10_z ?_; (case q10_N => k_asm); (case q10_m => k_mem); (case q10_z => first | with_reducible assumption | exact Nat.le_trans (by with_reducible assumption) (by decide)); (case q10_lo => first | with_reducible assumption | omega); (case q10_hi => first | with_reducible assumption | omega); k_whole); intro zv99 zhv99))
  (k_with "ktr_room" => (simp only [depth_under_make, depth_under_kw, depth_in1, depth_deeper, ktr_depth, Nat.add_assoc]; exact room_lt (by with_reducible assumption) (by decide)))
  (k_with "ktr_units" => (simp only [units_under_make, units_deeper, units_in1, ktr_unit, Nat.add_assoc]; exact room_lt (by with_reducible assumption) (by decide)))
  (k_with "call ref" => (k_here; (with_reducible show wpAny _ _ (call (Value.ref _) _) _ _ _); k_dflt ((first | (with_unfolding_all refine' const_c _ ?q13_B ?q13_F ?q13_X ?q13_N ?q13_T ?q13_k ?q13_a ?q13_d ?q13_u ?_)); (case q13_k => rfl); (case q13_F => k_asm); (case q13_N => k_asm); (case q13_B => k_asm); (case q13_X => k_asm); (case q13_T => k_asm); (case q13_a => first | exact ⟨_, rfl⟩); (case q13_d => ktr_room); (case q13_u => ktr_units); k_whole); (intro zo9 zh9 ztk9 zF9 zN9; (try k_sweep))))
  (k_with "execs cons" => (k_here; (with_reducible show wpAny _ _ (execs (Stmt.Assign [Expr.Attribute (Expr.Name _ _) _ _] (Expr.Name _ _) _ :: _) _) _ _ _); k_dflt (refine' sets_at (slf := "self") ?q14_S ?q14_X ?q14_self ?q14_k ?q14_ks ?q14_ds ?q14_c1 ?q14_c2 ?q14_c3 ?q14_F ?q14_N ?q14_U ?q14_hx ?q14_K ?q14_d ?q14_l ?_; (case q14_F => k_asm); (case q14_N => k_asm); (case q14_X => k_asm); (case q14_self => exact rfl); (case q14_hx => k_mem); (case q14_U => k_updF); (case q14_k => exact rfl); (case q14_ks => exact rfl); (case q14_ds => exact rfl); (case q14_c1 => k_is); (case q14_c2 => k_is); (case q14_c3 => k_is); (case q14_K => (repeat' (refine' Keys.cons ?_)); (any_goals (exact Keys.nil))); (case q14_S => (refine' SetL.cons ?_ ?_ ?_ ?_ ?_); (repeat' (first | (refine' SetL.cons ?_ ?_ ?_ ?_ ?_) | k_is | exact rfl)); (any_goals (exact SetL.nil))); (case q14_d => decide +kernel); (case q14_l => exact Nat.le_of_ble_eq_true rfl); k_whole); (intro zh9 ztk09 ztk9 zF9 zN9; (try dsimp only [ents, List.cons_append, List.nil_append, List.length_cons, List.length_nil, Nat.reduceAdd] at zN9); (try k_sweep))))
  intro p loose mean mg mb dp un gd cn cs a ccd cl outer A₀ base h₀ L m s Q E nw vs B F X N T hk hv hd hu ret
  obtain ⟨x, t, rfl⟩ := hv
  revert X; k_fill; intro X
  refine call_cls F X N (by k_is) (by k_is) (by k_is) ?_
  intro x' d' h' F' N' l1 l2
  replace l1 := allLt_of l1
  k_lt2 l2
  k_dflt cell_enter
  k_steps
  with_reducible rename Fr h₀ _ _ m => kF9
  with_reducible rename News h₀ _ _ (_ :: _) => kN9
  exact ret _ _ _ kF9 (News.part kN9 fun p hp => by repeat (first | exact hp | refine List.Mem.tail _ ?_))
set_option maxHeartbeats 4000000 in
theorem reg8_c (w : World) : RegC w 70 2500 431 (fun vs => ∃ x t i1 i2 i3 i4 i5 i6 t1 t2 t3 t4 t5 t6, vs = [.str x t, .int i1 t1, .none, .int i2 t2, .int i3 t3, .int i4 t4, .int i5 t5, .int i6 t6]) := by
  k_with_none
  (k_with "k_all" => assumption)
  (k_with "units_room" => ktr_units)
  (k_with "k_room" => ktr_room)
  (k_with "k_units" => ktr_units)
  (k_with "cell_enter" => (refine' code_def ?q4_k1 ?q4_k2 ?q4_k3 ?q4_k4 ?q4_k5 ?q4_kA ?q4_kF ?q4_kK ?q4_k6 ?q4_k7 ?q4_k8 ?q4_k9 ?q4_kB ?_ ?q4_c2 ?q4_c3 ?q4_c4 ?q4_c5; (case q4_kA => exact rfl); (case q4_kF => exact rfl); (case q4_kK => first | assumption | exact rfl); (case q4_k1 => k_asm); (case q4_k2 => k_asm); (case q4_k3 => k_asm); (case q4_k4 => k_asm); (case q4_k5 => k_asm); (case q4_k6 => k_is); (case q4_k7 => k_is); (case q4_k8 => ktr_room); (case q4_k9 => first | exact binds_K (binds := [(_, _), (_, _), (_, _), (_, _), (_, _), (_, _), (_, _), (_, _), (_, _)]) (by k_in) rfl (by k_is) rfl rfl rfl | exact BindsTo.of_eq rfl | exact binds_K (by k_in) rfl (by k_is) rfl rfl rfl); (case q4_c5 => decide); (case q4_kB => exact locs rfl); (case q4_c2 => exact rfl); (case q4_c3 => exact rfl); (case q4_c4 => exact rfl); k_whole; intro zg9 zL9 zh9 zFG9 zF9 zN9 zB9 zX9 zT9; (try dsimp only); (try k_lift zB9); (try k_fold)))
  (k_with "k_mem" => first | with_reducible assumption | exact List.Mem.head _ | (refine' List.Mem.tail _ ?q5_b; (case q5_b => (show (_ : Addr × Obj) ∈ (_ : List (Addr × Obj)); k_mem))))
  (k_with "k_ne" => (try dsimp only); first | with_reducible assumption | exact Ne.symm (by with_reducible assumption) | exact Nat.ne_of_lt (by with_reducible assumption) | exact Nat.ne_of_gt (by with_reducible assumption))
  (k_with "k_all" => first | exact True.intro | with_reducible assumption | exact allLt_ne (by with_reducible assumption) | exact AllNe.mem (by with_reducible assumption) | (refine' And.intro ?q7_a ?q7_b; (case q7_a => k_ne); (case q7_b => k_all)) | (refine' List.forall_mem_cons.mpr (And.intro ?q7_a ?q7_b); (case q7_a => k_ne); (case q7_b => k_all)))
  (k_with "call type:list" => (k_here; (with_reducible show wpAny _ _ (call (Value.type _) [Value.ref _]) _ _ _); k_dflt (refine' list_copyK ?q8_k1 ?q8_k2 ?q8_k3 ?_ ?q8_z; (case q8_k1 => k_asm); (case q8_k2 => k_asm); (case q8_k3 => exact News.isList (by k_asm) (by k_mem)); (case q8_z => exact size_line _ (by with_reducible assumption)); k_whole); intro zD9 zc9 zh9 zF9 zN9 zl1; (try k_lt zl1); (try k_sweep)))
  (k_with "call builtin:len" => (k_here; (with_reducible show wpAny _ _ (call (Value.builtin "len") [Value.ref _]) _ _ _); k_dflt (refine' lenL_any ?q9_N ?q9_m ?q9_l ?q9_z ?_; (case q9_N => k_asm); (case q9_m => k_mem); (case q9_l => first | with_reducible assumption | exact rfl); (case q9_z => first | with_reducible assumption | exact Nat.le_trans (by with_reducible assumption) (by decide)); k_whole)))
  (k_with "subscriptTail" => (k_here; (with_reducible show wpAny _ _ (subscriptTail _ _ (Value.ref _) (Value.int _ _)) _ _ _); k_dflt (refine' listAt ?q10_N ?q10_m ?q10_lo ?q10_hi ?q10_z ?_; (case q10_N => k_asm); (case q10_m => k_mem); (case q10_z => first | with_reducible assumption | exact Nat.le_trans (by with_reducible assumption) (by decide)); (case q10_lo => first | with_reducible assumption | omega); (case q10_hi => first | with_reducible assumption | omega); k_whole); intro zv99 zhv99))
  (k_with "ktr_room" => (simp only [depth_under_make, depth_under_kw, depth_in1, depth_deeper, ktr_depth, Nat.add_assoc]; exact room_lt (by with_reducible assumption) (by decide)))
  (k_with "ktr_units" => (simp only [units_under_make, units_deeper, units_in1, ktr_unit, Nat.add_assoc]; exact room_lt (by with_reducible assumption) (by decide)))
  (k_with "call ref" => (k_here; (with_reducible show wpAny _ _ (call (Value.ref _) _) _ _ _); k_dflt ((first | (with_unfolding_all refine' const_c _ ?q13_B ?q13_F ?q13_X ?q13_N ?q13_T ?q13_k ?q13_a ?q13_d ?q13_u ?_)); (case q13_k => rfl); (case q13_F => k_asm); (case q13_N => k_asm); (case q13_B => k_asm); (case q13_X => k_asm); (case q13_T => k_asm); (case q13_a => first | exact ⟨_, rfl⟩); (case q13_d => ktr_room); (case q13_u => ktr_units); k_whole); (intro zo9 zh9 ztk9 zF9 zN9; (try k_sweep))))
  (k_with "execs cons" => (k_here; (with_reducible show wpAny _ _ (execs (Stmt.Assign [Expr.Attribute (Expr.Name _ _) _ _] (Expr.Name _ _) _ :: _) _) _ _ _); k_dflt (refine' sets_at (slf := "self") ?q14_S ?q14_X ?q14_self ?q14_k ?q14_ks ?q14_ds ?q14_c1 ?q14_c2 ?q14_c3 ?q14_F ?q14_N ?q14_U ?q14_hx ?q14_K ?q14_d ?q14_l ?_; (case q14_F => k_asm); (case q14_N => k_asm); (case q14_X => k_asm); (case q14_self => exact rfl); (case q14_hx => k_mem); (case q14_U => k_updF); (case q14_k => exact rfl); (case q14_ks => exact rfl); (case q14_ds => exact rfl); (case q14_c1 => k_is); (case q14_c2 => k_is); (case q14_c3 => k_is); (case q14_K => (repeat' (refine' Keys.cons ?_)); (any_goals (exact Keys.nil))); (case q14_S => (refine' SetL.cons ?_ ?_ ?_ ?_ ?_); (repeat' (first | (refine' SetL.cons ?_ ?_ ?_ ?_ ?_) | k_is | exact rfl)); (any_goals (exact SetL.nil))); (case q14_d => decide +kernel); (case q14_l => exact Nat.le_of_ble_eq_true rfl); k_whole); (intro zh9 ztk09 ztk9 zF9 zN9; (try dsimp only [ents, List.cons_append, List.nil_append, List.length_cons, List.length_nil, Nat.reduceAdd] at zN9); (try k_sweep))))
  intro p loose mean mg mb dp un gd cn cs a ccd cl outer A₀ base h₀ L m s Q E nw vs B F X N T hk hv hd hu ret
  obtain ⟨x, t, i1, i2, i3, i4, i5, i6, t1, t2, t3, t4, t5, t6, rfl⟩ := hv
  revert X; k_fill; intro X
  refine call_cls F X N (by k_is) (by k_is) (by k_is) ?_
  intro x' d' h' F' N' l1 l2
  replace l1 := allLt_of l1
  k_lt2 l2
  k_dflt cell_enter
  k_steps
  with_reducible rename Fr h₀ _ _ m => kF9
  with_reducible rename News h₀ _ _ (_ :: _) => kN9
  exact ret _ _ _ kF9 (News.part kN9 fun p hp => by repeat (first | exact hp | refine List.Mem.tail _ ?_))
/-! O5: none, context_reg, stack_reg -/
set_option maxHeartbeats 4000000 in
theorem none_c (w : World) : RegC w 80 3000 442 (fun vs => vs = []) := by
  k_with_none
  (k_with "k_all" => assumption)
  (k_with "units_room" => ktr_units)
  (k_with "k_room" => ktr_room)
  (k_with "k_units" => ktr_units)
  (k_with "cell_enter" => (refine' code_def ?q4_k1 ?q4_k2 ?q4_k3 ?q4_k4 ?q4_k5 ?q4_kA ?q4_kF ?q4_kK ?q4_k6 ?q4_k7 ?q4_k8 ?q4_k9 ?q4_kB ?_ ?q4_c2 ?q4_c3 ?q4_c4 ?q4_c5; (case q4_kA => exact rfl); (case q4_kF => exact rfl); (case q4_kK => first | assumption | exact rfl); (case q4_k1 => k_asm); (case q4_k2 => k_asm); (case q4_k3 => k_asm); (case q4_k4 => k_asm); (case q4_k5 => k_asm); (case q4_k6 => k_is); (case q4_k7 => k_is); (case q4_k8 => ktr_room); (case q4_k9 => first | exact BindsTo.of_eq (binds := []) rfl | exact BindsTo.of_eq (binds := [(_, _), (_, _)]) rfl | exact BindsTo.of_eq rfl | exact binds_K (by k_in) rfl (by k_is) rfl rfl rfl); (case q4_c5 => decide); (case q4_kB => exact locs rfl); (case q4_c2 => exact rfl); (case q4_c3 => exact rfl); (case q4_c4 => exact rfl); k_whole; intro zg9 zL9 zh9 zFG9 zF9 zN9 zB9 zX9 zT9; (try dsimp only); (try k_lift zB9); (try k_fold)))
  (k_with "k_mem" => first | with_reducible assumption | exact List.Mem.head _ | (refine' List.Mem.tail _ ?q5_b; (case q5_b => (show (_ : Addr × Obj) ∈ (_ : List (Addr × Obj)); k_mem))))
  (k_with "k_ne" => (try dsimp only); first | with_reducible assumption | exact Ne.symm (by with_reducible assumption) | exact Nat.ne_of_lt (by with_reducible assumption) | exact Nat.ne_of_gt (by with_reducible assumption))
  (k_with "k_all" => first | exact True.intro | with_reducible assumption | exact allLt_ne (by with_reducible assumption) | exact AllNe.mem (by with_reducible assumption) | (refine' And.intro ?q7_a ?q7_b; (case q7_a => k_ne); (case q7_b => k_all)) | (refine' List.forall_mem_cons.mpr (And.intro ?q7_a ?q7_b); (case q7_a => k_ne); (case q7_b => k_all)))
  (k_with "call type:list" => (k_here; (with_reducible show wpAny _ _ (call (Value.type _) [Value.ref _]) _ _ _); k_dflt (refine' list_copyK ?q8_k1 ?q8_k2 ?q8_k3 ?_ ?q8_z; (case q8_k1 => k_asm); (case q8_k2 => k_asm); (case q8_k3 => exact News.isList (by k_asm) (by k_mem)); (case q8_z => exact size_line _ (by with_reducible assumption)); k_whole); intro zD9 zc9 zh9 zF9 zN9 zl1; (try k_lt zl1); (try k_sweep)))
  (k_with "call builtin:len" => (k_here; (with_reducible show wpAny _ _ (call (Value.builtin "len") [Value.ref _]) _ _ _); k_dflt (refine' lenL_any ?q9_N ?q9_m ?q9_l ?q9_z ?_; (case q9_N => k_asm); (case q9_m => k_mem); (case q9_l => first | with_reducible assumption | exact rfl); (case q9_z => first | with_reducible assumption | exact Nat.le_trans (by with_reducible assumption) (by decide)); k_whole)))
  (k_with "subscriptTail" => (k_here; (with_reducible show wpAny _ _ (subscriptTail _ _ (Value.ref _) (Value.int _ _)) _ _ _); k_dflt (refine' listAt ?q10_N ?q10_m ?q10_lo ?q10_hi ?q10_z ?_; (case q10_N => k_asm); (case q10_m => k_mem); (case q10_z => first | with_reducible assumption | exact Nat.le_trans (by with_reducible assumption) (by decide)); (case q10_lo => first | with_reducible assumption | omega); (case q10_hi => first | with_reducible assumption | omega); k_whole); intro zv99 zhv99))
  (k_with "ktr_room" => (simp only [depth_under_make, depth_under_kw, depth_in1, depth_deeper, ktr_depth, Nat.add_assoc]; exact room_lt (by with_reducible assumption) (by decide)))
  (k_with "ktr_units" => (simp only [units_under_make, units_deeper, units_in1, ktr_unit, Nat.add_assoc]; exact room_lt (by with_reducible assumption) (by decide)))
  (k_with "call ref" => (k_here; (with_reducible show wpAny _ _ (call (Value.ref 431) [_]) _ _ _); k_dflt ((with_unfolding_all refine' reg1_c _ ?q13_B ?q13_F ?q13_X ?q13_N ?q13_T ?q13_k ?q13_a ?q13_d ?q13_u ?_); (case q13_k => rfl); (case q13_F => k_asm); (case q13_N => k_asm); (case q13_B => k_asm); (case q13_X => k_asm); (case q13_T => k_asm); (case q13_a => exact ⟨_, _, rfl⟩); (case q13_d => ktr_room); (case q13_u => ktr_units); k_whole); (intro zo9 zh9 ztk9 zF9 zN9; (try k_sweep))))
  (k_with "call ref" => (k_here; (with_reducible show wpAny _ _ (call (Value.ref 431) [_, _, _, _, _, _, _, _]) _ _ _); k_dflt ((with_unfolding_all refine' reg8_c _ ?q14_B ?q14_F ?q14_X ?q14_N ?q14_T ?q14_k ?q14_a ?q14_d ?q14_u ?_); (case q14_k => rfl); (case q14_F => k_asm); (case q14_N => k_asm); (case q14_B => k_asm); (case q14_X => k_asm); (case q14_T => k_asm); (case q14_a => exact ⟨_, _, _, _, _, _, _, _, _, _, _, _, _, _, rfl⟩); (case q14_d => ktr_room); (case q14_u => ktr_units); k_whole); (intro zo9 zh9 ztk9 zF9 zN9; (try k_sweep))))
  intro p loose mean mg mb dp un gd cn cs a ccd cl outer A₀ base h₀ L m s Q E nw vs B F X N T hk hv hd hu ret
  subst hv
  revert X; k_fill; intro X
  refine wpAny_call ?_
  k_dflt cell_enter
  k_steps
  with_reducible rename Fr h₀ _ _ m => kF9
  with_reducible rename News h₀ _ _ nw => kN9
  exact ret _ _ _ kF9 kN9
set_option maxHeartbeats 4000000 in
theorem ctx_c (w : World) : RegC w 80 3000 449 (fun vs => vs = []) := by
  k_with_none
  (k_with "k_all" => assumption)
  (k_with "units_room" => ktr_units)
  (k_with "k_room" => ktr_room)
  (k_with "k_units" => ktr_units)
  (k_with "cell_enter" => (refine' code_def ?q4_k1 ?q4_k2 ?q4_k3 ?q4_k4 ?q4_k5 ?q4_kA ?q4_kF ?q4_kK ?q4_k6 ?q4_k7 ?q4_k8 ?q4_k9 ?q4_kB ?_ ?q4_c2 ?q4_c3 ?q4_c4 ?q4_c5; (case q4_kA => exact rfl); (case q4_kF => exact rfl); (case q4_kK => first | assumption | exact rfl); (case q4_k1 => k_asm); (case q4_k2 => k_asm); (case q4_k3 => k_asm); (case q4_k4 => k_asm); (case q4_k5 => k_asm); (case q4_k6 => k_is); (case q4_k7 => k_is); (case q4_k8 => ktr_room); (case q4_k9 => first | exact BindsTo.of_eq (binds := []) rfl | exact BindsTo.of_eq (binds := [(_, _), (_, _)]) rfl | exact BindsTo.of_eq rfl | exact binds_K (by k_in) rfl (by k_is) rfl rfl rfl); (case q4_c5 => decide); (case q4_kB => exact locs rfl); (case q4_c2 => exact rfl); (case q4_c3 => exact rfl); (case q4_c4 => exact rfl); k_whole; intro zg9 zL9 zh9 zFG9 zF9 zN9 zB9 zX9 zT9; (try dsimp only); (try k_lift zB9); (try k_fold)))
  (k_with "k_mem" => first | with_reducible assumption | exact List.Mem.head _ | (refine' List.Mem.tail _ ?q5_b; (case q5_b => (show (_ : Addr × Obj) ∈ (_ : List (Addr × Obj)); k_mem))))
  (k_with "k_ne" => (try dsimp only); first | with_reducible assumption | exact Ne.symm (by with_reducible assumption) | exact Nat.ne_of_lt (by with_reducible assumption) | exact Nat.ne_of_gt (by with_reducible assumption))
  (k_with "k_all" => first | exact True.intro | with_reducible assumption | exact allLt_ne (by with_reducible assumption) | exact AllNe.mem (by with_reducible assumption) | (refine' And.intro ?q7_a ?q7_b; (case q7_a => k_ne); (case q7_b => k_all)) | (refine' List.forall_mem_cons.mpr (And.intro ?q7_a ?q7_b); (case q7_a => k_ne); (case q7_b => k_all)))
  (k_with "call type:list" => (k_here; (with_reducible show wpAny _ _ (call (Value.type _) [Value.ref _]) _ _ _); k_dflt (refine' list_copyK ?q8_k1 ?q8_k2 ?q8_k3 ?_ ?q8_z; (case q8_k1 => k_asm); (case q8_k2 => k_asm); (case q8_k3 => exact News.isList (by k_asm) (by k_mem)); (case q8_z => exact size_line _ (by with_reducible assumption)); k_whole); intro zD9 zc9 zh9 zF9 zN9 zl1; (try k_lt zl1); (try k_sweep)))
  (k_with "call builtin:len" => (k_here; (with_reducible show wpAny _ _ (call (Value.builtin "len") [Value.ref _]) _ _ _); k_dflt (refine' lenL_any ?q9_N ?q9_m ?q9_l ?q9_z ?_; (case q9_N => k_asm); (case q9_m => k_mem); (case q9_l => first | with_reducible assumption | exact rfl); (case q9_z => first | with_reducible assumption | exact Nat.le_trans (by with_reducible assumption) (by decide)); k_whole)))
  (k_with "subscriptTail" => (k_here; (with_reducible show wpAny _ _ (subscriptTail _ _ (Value.ref _) (Value.int _ _)) _ _ _); k_dflt (refine' listAt ?q10_N ?q10_m ?q10_lo ?q10_hi ?q10_z ?_; (case q10_N => k_asm); (case q10_m => k_mem); (case q10_z => first | with_reducible assumption | exact Nat.le_trans (by with_reducible assumption) (by decide)); (case q10_lo => first | with_reducible assumption | omega); (case q10_hi => first | with_reducible assumption | omega); k_whole); intro zv99 zhv99))
  (k_with "ktr_room" => (simp only [depth_under_make, depth_under_kw, depth_in1, depth_deeper, ktr_depth, Nat.add_assoc]; exact room_lt (by with_reducible assumption) (by decide)))
  (k_with "ktr_units" => (simp only [units_under_make, units_deeper, units_in1, ktr_unit, Nat.add_assoc]; exact room_lt (by with_reducible assumption) (by decide)))
  (k_with "call ref" => (k_here; (with_reducible show wpAny _ _ (call (Value.ref 431) [_]) _ _ _); k_dflt ((with_unfolding_all refine' reg1_c _ ?q13_B ?q13_F ?q13_X ?q13_N ?q13_T ?q13_k ?q13_a ?q13_d ?q13_u ?_); (case q13_k => rfl); (case q13_F => k_asm); (case q13_N => k_asm); (case q13_B => k_asm); (case q13_X => k_asm); (case q13_T => k_asm); (case q13_a => exact ⟨_, _, rfl⟩); (case q13_d => ktr_room); (case q13_u => ktr_units); k_whole); (intro zo9 zh9 ztk9 zF9 zN9; (try k_sweep))))
  (k_with "call ref" => (k_here; (with_reducible show wpAny _ _ (call (Value.ref 431) [_, _, _, _, _, _, _, _]) _ _ _); k_dflt ((with_unfolding_all refine' reg8_c _ ?q14_B ?q14_F ?q14_X ?q14_N ?q14_T ?q14_k ?q14_a ?q14_d ?q14_u ?_); (case q14_k => rfl); (case q14_F => k_asm); (case q14_N => k_asm); (case q14_B => k_asm); (case q14_X => k_asm); (case q14_T => k_asm); (case q14_a => exact ⟨_, _, _, _, _, _, _, _, _, _, _, _, _, _, rfl⟩); (case q14_d => ktr_room); (case q14_u => ktr_units); k_whole); (intro zo9 zh9 ztk9 zF9 zN9; (try k_sweep))))
  intro p loose mean mg mb dp un gd cn cs a ccd cl outer A₀ base h₀ L m s Q E nw vs B F X N T hk hv hd hu ret
  subst hv
  revert X; k_fill; intro X
  refine wpAny_call ?_
  k_dflt cell_enter
  k_steps
  with_reducible rename Fr h₀ _ _ m => kF9
  with_reducible rename News h₀ _ _ nw => kN9
  exact ret _ _ _ kF9 kN9
set_option maxHeartbeats 4000000 in
theorem stack_c (w : World) : RegC w 80 3000 456 (fun vs => ∃ i j t1 t2, vs = [.int i t1, .int j t2]) := by
  k_with_none
  (k_with "k_all" => assumption)
  (k_with "units_room" => ktr_units)
  (k_with "k_room" => ktr_room)
  (k_with "k_units" => ktr_units)
  (k_with "cell_enter" => (refine' code_def ?q4_k1 ?q4_k2 ?q4_k3 ?q4_k4 ?q4_k5 ?q4_kA ?q4_kF ?q4_kK ?q4_k6 ?q4_k7 ?q4_k8 ?q4_k9 ?q4_kB ?_ ?q4_c2 ?q4_c3 ?q4_c4 ?q4_c5; (case q4_kA => exact rfl); (case q4_kF => exact rfl); (case q4_kK => first | assumption | exact rfl); (case q4_k1 => k_asm); (case q4_k2 => k_asm); (case q4_k3 => k_asm); (case q4_k4 => k_asm); (case q4_k5 => k_asm); (case q4_k6 => k_is); (case q4_k7 => k_is); (case q4_k8 => ktr_room); (case q4_k9 => first | exact BindsTo.of_eq (binds := []) rfl | exact BindsTo.of_eq (binds := [(_, _), (_, _)]) rfl | exact BindsTo.of_eq rfl | exact binds_K (by k_in) rfl (by k_is) rfl rfl rfl); (case q4_c5 => decide); (case q4_kB => exact locs rfl); (case q4_c2 => exact rfl); (case q4_c3 => exact rfl); (case q4_c4 => exact rfl); k_whole; intro zg9 zL9 zh9 zFG9 zF9 zN9 zB9 zX9 zT9; (try dsimp only); (try k_lift zB9); (try k_fold)))
  (k_with "k_mem" => first | with_reducible assumption | exact List.Mem.head _ | (refine' List.Mem.tail _ ?q5_b; (case q5_b => (show (_ : Addr × Obj) ∈ (_ : List (Addr × Obj)); k_mem))))
  (k_with "k_ne" => (try dsimp only); first | with_reducible assumption | exact Ne.symm (by with_reducible assumption) | exact Nat.ne_of_lt (by with_reducible assumption) | exact Nat.ne_of_gt (by with_reducible assumption))
  (k_with "k_all" => first | exact True.intro | with_reducible assumption | exact allLt_ne (by with_reducible assumption) | exact AllNe.mem (by with_reducible assumption) | (refine' And.intro ?q7_a ?q7_b; (case q7_a => k_ne); (case q7_b => k_all)) | (refine' List.forall_mem_cons.mpr (And.intro ?q7_a ?q7_b); (case q7_a => k_ne); (case q7_b => k_all)))
  (k_with "call type:list" => (k_here; (with_reducible show wpAny _ _ (call (Value.type _) [Value.ref _]) _ _ _); k_dflt (refine' list_copyK ?q8_k1 ?q8_k2 ?q8_k3 ?_ ?q8_z; (case q8_k1 => k_asm); (case q8_k2 => k_asm); (case q8_k3 => exact News.isList (by k_asm) (by k_mem)); (case q8_z => exact size_line _ (by with_reducible assumption)); k_whole); intro zD9 zc9 zh9 zF9 zN9 zl1; (try k_lt zl1); (try k_sweep)))
  (k_with "call builtin:len" => (k_here; (with_reducible show wpAny _ _ (call (Value.builtin "len") [Value.ref _]) _ _ _); k_dflt (refine' lenL_any ?q9_N ?q9_m ?q9_l ?q9_z ?_; (case q9_N => k_asm); (case q9_m => k_mem); (case q9_l => first | with_reducible assumption | exact rfl); (case q9_z => first | with_reducible assumption | exact Nat.le_trans (by with_reducible assumption) (by decide)); k_whole)))
  (k_with "subscriptTail" => (k_here; (with_reducible show wpAny _ _ (subscriptTail _ _ (Value.ref _) (Value.int _ _)) _ _ _); k_dflt (refine' listAt ?q10_N ?q10_m ?q10_lo ?q10_hi ?q10_z ?_; (case q10_N => k_asm); (case q10_m => k_mem); (case q10_z => first | with_reducible assumption | exact Nat.le_trans (by with_reducible assumption) (by decide)); (case q10_lo => first | with_reducible assumption | omega); (case q10_hi => first | with_reducible assumption | omega); k_whole); intro zv99 zhv99))
  (k_with "ktr_room" => (simp only [depth_under_make, depth_under_kw, depth_in1, depth_deeper, ktr_depth, Nat.add_assoc]; exact room_lt (by with_reducible assumption) (by decide)))
  (k_with "ktr_units" => (simp only [units_under_make, units_deeper, units_in1, ktr_unit, Nat.add_assoc]; exact room_lt (by with_reducible assumption) (by decide)))
  (k_with "call ref" => (k_here; (with_reducible show wpAny _ _ (call (Value.ref 431) [_]) _ _ _); k_dflt ((with_unfolding_all refine' reg1_c _ ?q13_B ?q13_F ?q13_X ?q13_N ?q13_T ?q13_k ?q13_a ?q13_d ?q13_u ?_); (case q13_k => rfl); (case q13_F => k_asm); (case q13_N => k_asm); (case q13_B => k_asm); (case q13_X => k_asm); (case q13_T => k_asm); (case q13_a => exact ⟨_, _, rfl⟩); (case q13_d => ktr_room); (case q13_u => ktr_units); k_whole); (intro zo9 zh9 ztk9 zF9 zN9; (try k_sweep))))
  (k_with "call ref" => (k_here; (with_reducible show wpAny _ _ (call (Value.ref 431) [_, _, _, _, _, _, _, _]) _ _ _); k_dflt ((with_unfolding_all refine' reg8_c _ ?q14_B ?q14_F ?q14_X ?q14_N ?q14_T ?q14_k ?q14_a ?q14_d ?q14_u ?_); (case q14_k => rfl); (case q14_F => k_asm); (case q14_N => k_asm); (case q14_B => k_asm); (case q14_X => k_asm); (case q14_T => k_asm); (case q14_a => exact ⟨_, _, _, _, _, _, _, _, _, _, _, _, _, _, rfl⟩); (case q14_d => ktr_room); (case q14_u => ktr_units); k_whole); (intro zo9 zh9 ztk9 zF9 zN9; (try k_sweep))))
  intro p loose mean mg mb dp un gd cn cs a ccd cl outer A₀ base h₀ L m s Q E nw vs B F X N T hk hv hd hu ret
  obtain ⟨i, j, t1, t2, rfl⟩ := hv
  revert X; k_fill; intro X
  refine wpAny_call ?_
  k_dflt cell_enter
  k_steps
  with_reducible rename Fr h₀ _ _ m => kF9
  with_reducible rename News h₀ _ _ nw => kN9
  exact ret _ _ _ kF9 kN9
set_option maxHeartbeats 4000000 in
theorem program_c (w : World) {p : Program} {loose : List Str} {mean : ExcName → Option Value} {mg mb : Str → Option Value}
  {dp un : Nat} {gd : Option (List Code)} {cn : Str} {cs : Scope} {a : Addr} {ccd : Value} {cl : List (Str × Addr)} {outer : List Env} {A₀ : Around} {base h₀ : Heap} {L : Addr} {m : Str → Option Value} {s : Shared} {Q E : Value → Shared → Prop}
  {al : Addr} {cap0 : Nat} {ovs : List Value} {nw : List (Addr × Obj)}
  (B : Below A₀ base outer h₀) (F : Fr h₀ L s.heap m) (X : (hd.heap_1 w.params).In h₀) (N : News h₀ L s.heap nw) (T : Top p loose mean mg mb h₀) (hk : cs.kind = .function)
  (hm : (al, W.listOf ovs.toArray cap0) ∈ nw) (ho : OrdsIn nw ovs) (hn : 1 ≤ ovs.length) (hn' : ovs.length ≤ 10)
  (hd : dp + 60 < recursionLimit) (hu : un + 2500 < cLine)
  (ret : ∀ pg nw' h' tk', (∀ p ∈ nw, p ∈ nw') → ProgIn nw' (.ref pg) ovs → Fr h₀ L h' m → News h₀ L h' nw' → Q (.ref pg) { s with heap := h', toks := tk' }) :
  wpAny (model PySem.Challenge.rw_pq1006_01.row.prog w) (ktrTop dp un gd cn cs L a ccd cl outer) (call (.ref 804) [.ref al]) Q E s := by
  k_with_none
  (k_with "k_all" => assumption)
  (k_with "units_room" => ktr_units)
  (k_with "k_room" => ktr_room)
  (k_with "k_units" => ktr_units)
  (k_with "cell_enter" => (refine' code_def ?q4_k1 ?q4_k2 ?q4_k3 ?q4_k4 ?q4_k5 ?q4_kA ?q4_kF ?q4_kK ?q4_k6 ?q4_k7 ?q4_k8 ?q4_k9 ?q4_kB ?_ ?q4_c2 ?q4_c3 ?q4_c4 ?q4_c5; (case q4_kA => exact rfl); (case q4_kF => exact rfl); (case q4_kK => first | assumption | exact rfl); (case q4_k1 => k_asm); (case q4_k2 => k_asm); (case q4_k3 => k_asm); (case q4_k4 => k_asm); (case q4_k5 => k_asm); (case q4_k6 => k_is); (case q4_k7 => k_is); (case q4_k8 => ktr_room); (case q4_k9 => first | exact BindsTo.of_eq (binds := [(_, _), (_, _)]) rfl | exact BindsTo.of_eq rfl | exact binds_K (by k_in) rfl (by k_is) rfl rfl rfl); (case q4_c5 => decide); (case q4_kB => exact locs rfl); (case q4_c2 => exact rfl); (case q4_c3 => exact rfl); (case q4_c4 => exact rfl); k_whole; intro zg9 zL9 zh9 zFG9 zF9 zN9 zB9 zX9 zT9; (try dsimp only); (try k_lift zB9); (try k_fold)))
  (k_with "k_mem" => first | with_reducible assumption | exact List.Mem.head _ | (refine' List.Mem.tail _ ?q5_b; (case q5_b => (show (_ : Addr × Obj) ∈ (_ : List (Addr × Obj)); k_mem))))
  (k_with "k_ne" => (try dsimp only); first | with_reducible assumption | exact Ne.symm (by with_reducible assumption) | exact Nat.ne_of_lt (by with_reducible assumption) | exact Nat.ne_of_gt (by with_reducible assumption))
  (k_with "k_all" => first | exact True.intro | with_reducible assumption | exact allLt_ne (by with_reducible assumption) | exact AllNe.mem (by with_reducible assumption) | (refine' And.intro ?q7_a ?q7_b; (case q7_a => k_ne); (case q7_b => k_all)) | (refine' List.forall_mem_cons.mpr (And.intro ?q7_a ?q7_b); (case q7_a => k_ne); (case q7_b => k_all)))
  (k_with "call type:list" => (k_here; (with_reducible show wpAny _ _ (call (Value.type _) [Value.ref _]) _ _ _); k_dflt (refine' list_copyK ?q8_k1 ?q8_k2 ?q8_k3 ?_ ?q8_z; (case q8_k1 => k_asm); (case q8_k2 => k_asm); (case q8_k3 => exact News.isList (by k_asm) (by k_mem)); (case q8_z => exact size_line _ (by with_reducible assumption)); k_whole); intro zD9 zc9 zh9 zF9 zN9 zl1; (try k_lt zl1); (try k_sweep)))
  (k_with "call builtin:len" => (k_here; (with_reducible show wpAny _ _ (call (Value.builtin "len") [Value.ref _]) _ _ _); k_dflt (refine' lenL_any ?q9_N ?q9_m ?q9_l ?q9_z ?_; (case q9_N => k_asm); (case q9_m => k_mem); (case q9_l => first | with_reducible assumption | exact rfl); (case q9_z => first | with_reducible assumption | exact Nat.le_trans (by with_reducible assumption) (by decide)); k_whole)))
  (k_with "subscriptTail" => (k_here; (with_reducible show wpAny _ _ (subscriptTail _ _ (Value.ref _) (Value.int _ _)) _ _ _); k_dflt (refine' listAt ?q10_N ?q10_m ?q10_lo ?q10_hi ?q10_z ?_; (case q10_N => k_asm); (case q10_m => k_mem); (case q10_z => first | with_reducible assumption | exact Nat.le_trans (by with_reducible assumption) (by decide)); (case q10_lo => first | with_reducible assumption | omega); (case q10_hi => first | with_reducible assumption | omega); k_whole); intro zv99 zhv99))
  (k_with "ktr_room" => (simp only [depth_under_make, depth_under_kw, depth_in1, depth_deeper, ktr_depth, Nat.add_assoc]; exact room_lt (by with_reducible assumption) (by decide)))
  (k_with "ktr_units" => (simp only [units_under_make, units_deeper, units_in1, ktr_unit, Nat.add_assoc]; exact room_lt (by with_reducible assumption) (by decide)))
  (k_with "call ref" => (k_here; (with_reducible show wpAny _ _ (call (Value.ref _) [_]) _ _ _); k_dflt ((first | with_unfolding_all refine' is_wide_c _ ?q13_B ?q13_F ?q13_X ?q13_N ?q13_T ?q13_k ?q13_c ?q13_o ?q13_d ?q13_u ?_ | with_unfolding_all refine' is_local_call_c _ ?q13_B ?q13_F ?q13_X ?q13_N ?q13_T ?q13_k ?q13_c ?q13_o ?q13_d ?q13_u ?_ | with_unfolding_all refine' has_goal_c _ ?q13_B ?q13_F ?q13_X ?q13_N ?q13_T ?q13_k ?q13_c ?q13_o ?q13_d ?q13_u ?_ | with_unfolding_all refine' is_jump_c _ ?q13_B ?q13_F ?q13_X ?q13_N ?q13_T ?q13_k ?q13_c ?q13_o ?q13_d ?q13_u ?_ | with_unfolding_all refine' is_branch_c _ ?q13_B ?q13_F ?q13_X ?q13_N ?q13_T ?q13_k ?q13_c ?q13_o ?q13_d ?q13_u ?_ | with_unfolding_all refine' is_exit_c _ ?q13_B ?q13_F ?q13_X ?q13_N ?q13_T ?q13_k ?q13_c ?q13_o ?q13_d ?q13_u ?_); (case q13_k => rfl); (case q13_F => k_asm); (case q13_N => k_asm); (case q13_B => k_asm); (case q13_X => k_asm); (case q13_T => k_asm); (case q13_c => with_reducible assumption); (case q13_o => first | exact OrdIn.up (by with_reducible assumption) (by with_reducible assumption) | exact OrdIn.up (by with_reducible assumption) (by intro p hp; repeat (first | exact hp | refine List.Mem.tail _ ?_))); (case q13_d => ktr_room); (case q13_u => ktr_units); k_whole); (intro zh9 ztk9 zF9 zN9; (try dsimp only); (try k_sweep))))
  (k_with "subscriptTail" => (k_here; (with_reducible show wpAny _ _ (subscriptTail _ _ (Value.ref _) (Value.int _ _)) _ _ _); k_dflt (refine' ordAt ?q14_N ?q14_m ?q14_o ?q14_lo ?q14_hi ?q14_z ?_; (case q14_N => k_asm); (case q14_m => k_mem); (case q14_o => with_reducible assumption); (case q14_z => first | with_reducible assumption | exact Nat.le_trans (by with_reducible assumption) (by decide)); (case q14_lo => first | with_reducible assumption | exact Int.natCast_nonneg _ | omega); (case q14_hi => first | with_reducible assumption | exact Int.ofNat_lt.mpr (by with_reducible assumption) | omega); k_whole); intro zv99 zc99 zhc99 zhe99 zho99))
  (k_with "eval Set" => (k_here; k_dflt (refine' set_zero ?q15_F ?q15_N ?q15_X ?q15_c ?_; (case q15_F => k_asm); (case q15_N => k_asm); (case q15_X => k_asm); (case q15_c => first | k_is | kernel_rfl!); k_whole); intro zD9 zh9 zt9 ztk9 zF9 zN9 zl1; (try k_lt zl1); (try k_sweep)))
  (k_with "call builtin:sorted" => (k_here; (with_reducible show wpAny _ _ (call (Value.builtin _) [Value.ref _]) _ _ _); k_dflt (refine' sorted_set0 ?q16_h ?q16_F ?q16_N ?q16_m ?_; (case q16_h => rfl); (case q16_F => k_asm); (case q16_N => k_asm); (case q16_m => k_mem); k_whole); intro zD9 zt9 zc9 zh9 zF9 zN9 zl1; (try k_lt zl1); (try k_sweep)))
  (k_with "exec For Name Call cons nil" => (k_here; (rename Fr _ _ _ _ => zlF9); (with_unfolding_all refine' For_turns zlF9 ?_; k_whole)))
  (k_with "last exec For" => (k_here; (rename Fr _ _ _ _ => zlF9); (with_unfolding_all refine' For_turns zlF9 ?_; k_whole)))
  revert X; k_fill; intro X
  refine call_cls F X N (by k_is) (by k_is) (by k_is) ?_
  intro x' d' h' F' N' l1 l2
  replace l1 := allLt_of l1
  k_lt2 l2
  k_dflt cell_enter
  k_steps
  with_reducible rename Fr _ _ _ (fun _ => _) => kF
  with_reducible rename News _ _ _ (_ :: _) => kN
  refine' slots_loop rfl ?hr hn' kF kN ?hd ?turn ?done
  case hr => assumption
  case hd => assumption
  case turn =>
    intro i ti I oI o kvs c vs cap t u h tk hi hi' hd hf hc hz hI F2 N2 post
    obtain ⟨n1, n2, n3⟩ := hI
    clear kF kN
    k_steps
    all_goals (try exact True.intro)
    with_reducible rename Fr _ _ _ (fun _ => _) => kF9
    with_reducible rename News _ _ _ (_ :: _) => kN9
    exact post _ _ _ _ _ _ _ _ _ _ (by with_reducible assumption) (by with_reducible assumption) (by rfl) (fun y hy => keep_if (st_ne hy (by decide)) (keep_if (st_ne hy (by decide)) (keep_if (st_ne hy (by decide)) (stB_out hy)))) kF9 kN9
  case done =>
    intro o vs cap t u h tk F2 N2
    clear kF kN
    k_steps
    with_reducible rename Fr _ _ _ (fun _ => _) => kF
    with_reducible rename News _ _ _ (_ :: _) => kN
    refine' range_inv ["index"] (fun _ _ => True) rfl ?hr ?hn kF kN trivial ?turn ?done
    case hr => assumption
    case hn => omega
    case turn =>
      intro i ti u2 h2 tk2 nw2 hi _ hsub F3 N3
      have e1 := hsub (x', instObj 804 d') (by k_mem)
      have e2 := hsub (d', _) (by k_mem)
      have e3 := hsub (_, W.listOf ovs.toArray _) (by k_mem)
      have ho2 : OrdsIn nw2 ovs := ho.mono fun p hp => hsub p (by repeat (first | exact hp | refine List.Mem.tail _ ?_))
      clear kF kN
      k_steps
      with_reducible rename Fr _ _ _ (fun _ => _) => kF9
      with_reducible rename News _ _ _ nw2 => kN9
      exact ⟨_, _, _, rfl, kF9, kN9, fun y hy => keep_if (st_ne hy (by decide)) (stB_out hy), trivial⟩
    case done =>
      intro u2 h2 tk2 _ F3 N3
      clear kF kN
      k_steps
      with_reducible rename Fr h₀ _ _ _ => kF9
      with_reducible rename News h₀ _ _ _ => kN9
      refine' ret x' _ _ _ ?s (.mk _ _ _ _ _ _ _ _ _ _ _ _ _ _ _ _ _ _ _ _ rfl ?h1 ?h2 ?h3 ?h4) kF9 kN9
      case s => intro p hp; repeat (first | exact hp | refine List.Mem.tail _ ?_)
      case h1 => k_mem
      case h2 => k_mem
      case h3 => k_mem
      case h4 => k_mem
/-! P7: check_goals -/
/-- the def at f, asked of a program whose orders have the codes 183 .. 183, 149: it gives back None and leaves all as it lies -/
def ProgC (w : World) (k u : Nat) (f : Addr) : Prop :=
  ∀ {p : Program} {loose : List Str} {mean : ExcName → Option Value} {mg mb : Str → Option Value} {dp un : Nat} {gd : Option (List Code)} {cn : Str} {cs : Scope} {a : Addr} {ccd : Value} {cl : List (Str × Addr)} {outer : List Env} {A₀ : Around} {base h₀ : Heap} {L : Addr}
    {m : Str → Option Value} {s : Shared} {Q E : Value → Shared → Prop} {nw : List (Addr × Obj)} {v : Value} {ovs : List Value},
    Below A₀ base outer h₀ → Fr h₀ L s.heap m → (hd.heap_1 w.params).In h₀ → News h₀ L s.heap nw → Top p loose mean mg mb h₀ → cs.kind = .function → ProgIn nw v ovs → OrdsIn nw ovs → 1 ≤ ovs.length → ovs.length ≤ 10 → dp + k < recursionLimit → un + u < cLine →
    (∀ h' tk', Fr h₀ L h' m → News h₀ L h' nw → Q .none { s with heap := h', toks := tk' }) →
    wpAny (model PySem.Challenge.rw_pq1006_01.row.prog w) (ktrTop dp un gd cn cs L a ccd cl outer) (call (.ref f) [v]) Q E s
set_option maxHeartbeats 4000000 in
theorem goals_c (w : World) : ProgC w 70 3000 856 := by
  k_with_none
  (k_with "k_all" => assumption)
  (k_with "units_room" => ktr_units)
  (k_with "k_room" => ktr_room)
  (k_with "k_units" => ktr_units)
  (k_with "cell_enter" => (refine' code_def ?q4_k1 ?q4_k2 ?q4_k3 ?q4_k4 ?q4_k5 ?q4_kA ?q4_kF ?q4_kK ?q4_k6 ?q4_k7 ?q4_k8 ?q4_k9 ?q4_kB ?_ ?q4_c2 ?q4_c3 ?q4_c4 ?q4_c5; (case q4_kA => exact rfl); (case q4_kF => exact rfl); (case q4_kK => first | assumption | exact rfl); (case q4_k1 => k_asm); (case q4_k2 => k_asm); (case q4_k3 => k_asm); (case q4_k4 => k_asm); (case q4_k5 => k_asm); (case q4_k6 => k_is); (case q4_k7 => k_is); (case q4_k8 => ktr_room); (case q4_k9 => first | exact BindsTo.of_eq (binds := [(_, _)]) rfl | exact BindsTo.of_eq rfl | exact binds_K (by k_in) rfl (by k_is) rfl rfl rfl); (case q4_c5 => decide); (case q4_kB => exact locs rfl); (case q4_c2 => exact rfl); (case q4_c3 => exact rfl); (case q4_c4 => exact rfl); k_whole; intro zg9 zL9 zh9 zFG9 zF9 zN9 zB9 zX9 zT9; (try dsimp only); (try k_lift zB9); (try k_fold)))
  (k_with "k_mem" => first | with_reducible assumption | exact List.Mem.head _ | (refine' List.Mem.tail _ ?q5_b; (case q5_b => (show (_ : Addr × Obj) ∈ (_ : List (Addr × Obj)); k_mem))))
  (k_with "k_ne" => (try dsimp only); first | with_reducible assumption | exact Ne.symm (by with_reducible assumption) | exact Nat.ne_of_lt (by with_reducible assumption) | exact Nat.ne_of_gt (by with_reducible assumption))
  (k_with "k_all" => first | exact True.intro | with_reducible assumption | exact allLt_ne (by with_reducible assumption) | exact AllNe.mem (by with_reducible assumption) | (refine' And.intro ?q7_a ?q7_b; (case q7_a => k_ne); (case q7_b => k_all)) | (refine' List.forall_mem_cons.mpr (And.intro ?q7_a ?q7_b); (case q7_a => k_ne); (case q7_b => k_all)))
  (k_with "call type:list" => (k_here; (with_reducible show wpAny _ _ (call (Value.type _) [Value.ref _]) _ _ _); k_dflt (refine' list_copyK ?q8_k1 ?q8_k2 ?q8_k3 ?_ ?q8_z; (case q8_k1 => k_asm); (case q8_k2 => k_asm); (case q8_k3 => exact News.isList (by k_asm) (by k_mem)); (case q8_z => exact size_line _ (by with_reducible assumption)); k_whole); intro zD9 zc9 zh9 zF9 zN9 zl1; (try k_lt zl1); (try k_sweep)))
  (k_with "call builtin:len" => (k_here; (with_reducible show wpAny _ _ (call (Value.builtin "len") [Value.ref _]) _ _ _); k_dflt (refine' lenL_any ?q9_N ?q9_m ?q9_l ?q9_z ?_; (case q9_N => k_asm); (case q9_m => k_mem); (case q9_l => first | with_reducible assumption | exact rfl); (case q9_z => first | with_reducible assumption | exact Nat.le_trans (by with_reducible assumption) (by decide)); k_whole)))
  (k_with "subscriptTail" => (k_here; (with_reducible show wpAny _ _ (subscriptTail _ _ (Value.ref _) (Value.int _ _)) _ _ _); k_dflt (refine' listAt ?q10_N ?q10_m ?q10_lo ?q10_hi ?q10_z ?_; (case q10_N => k_asm); (case q10_m => k_mem); (case q10_z => first | with_reducible assumption | exact Nat.le_trans (by with_reducible assumption) (by decide)); (case q10_lo => first | with_reducible assumption | omega); (case q10_hi => first | with_reducible assumption | omega); k_whole); intro zv99 zhv99))
  (k_with "ktr_room" => (simp only [depth_under_make, depth_under_kw, depth_in1, depth_deeper, ktr_depth, Nat.add_assoc]; exact room_lt (by with_reducible assumption) (by decide)))
  (k_with "ktr_units" => (simp only [units_under_make, units_deeper, units_in1, ktr_unit, Nat.add_assoc]; exact room_lt (by with_reducible assumption) (by decide)))
  (k_with "call ref" => (k_here; (with_reducible show wpAny _ _ (call (Value.ref _) [_]) _ _ _); k_dflt ((first | with_unfolding_all refine' is_wide_c _ ?q13_B ?q13_F ?q13_X ?q13_N ?q13_T ?q13_k ?q13_c ?q13_o ?q13_d ?q13_u ?_ | with_unfolding_all refine' is_local_call_c _ ?q13_B ?q13_F ?q13_X ?q13_N ?q13_T ?q13_k ?q13_c ?q13_o ?q13_d ?q13_u ?_ | with_unfolding_all refine' has_goal_c _ ?q13_B ?q13_F ?q13_X ?q13_N ?q13_T ?q13_k ?q13_c ?q13_o ?q13_d ?q13_u ?_ | with_unfolding_all refine' is_jump_c _ ?q13_B ?q13_F ?q13_X ?q13_N ?q13_T ?q13_k ?q13_c ?q13_o ?q13_d ?q13_u ?_ | with_unfolding_all refine' is_branch_c _ ?q13_B ?q13_F ?q13_X ?q13_N ?q13_T ?q13_k ?q13_c ?q13_o ?q13_d ?q13_u ?_ | with_unfolding_all refine' is_exit_c _ ?q13_B ?q13_F ?q13_X ?q13_N ?q13_T ?q13_k ?q13_c ?q13_o ?q13_d ?q13_u ?_); (case q13_k => rfl); (case q13_F => k_asm); (case q13_N => k_asm); (case q13_B => k_asm); (case q13_X => k_asm); (case q13_T => k_asm); (case q13_c => with_reducible assumption); (case q13_o => first | exact OrdIn.up (by with_reducible assumption) (by with_reducible assumption) | exact OrdIn.up (by with_reducible assumption) (by intro p hp; repeat (first | exact hp | refine List.Mem.tail _ ?_))); (case q13_d => ktr_room); (case q13_u => ktr_units); k_whole); (intro zh9 ztk9 zF9 zN9; (try dsimp only); (try k_sweep))))
  (k_with "subscriptTail" => (k_here; (with_reducible show wpAny _ _ (subscriptTail _ _ (Value.ref _) (Value.int _ _)) _ _ _); k_dflt (refine' ordAt ?q14_N ?q14_m ?q14_o ?q14_lo ?q14_hi ?q14_z ?_; (case q14_N => k_asm); (case q14_m => k_mem); (case q14_o => with_reducible assumption); (case q14_z => first | with_reducible assumption | exact Nat.le_trans (by with_reducible assumption) (by decide)); (case q14_lo => first | with_reducible assumption | exact Int.natCast_nonneg _ | omega); (case q14_hi => first | with_reducible assumption | exact Int.ofNat_lt.mpr (by with_reducible assumption) | omega); k_whole); intro zv99 zc99 zhc99 zhe99 zho99))
  (k_with "exec For Name Call cons nil" => (k_here; (rename Fr _ _ _ _ => zlF9); (with_unfolding_all refine' For_turns zlF9 ?_; k_whole)))
  (k_with "last exec For" => (k_here; (rename Fr _ _ _ _ => zlF9); (with_unfolding_all refine' For_turns zlF9 ?_; k_whole)))
  intro p loose mean mg mb dp un gd cn cs a ccd cl outer A₀ base h₀ L m s Q E nw v ovs B F X N T hk hp ho hn hn' hd hu ret
  revert X; k_fill; intro X
  obtain ⟨pg, pgd, ol, su, x1, x2, x3, x4, x5, y1, y2, y3, y4, y5, t4, t5, v2, v3, cap, cap2, rfl, h1, h2, h3, h4⟩ := hp
  refine wpAny_call ?_
  k_dflt cell_enter
  k_steps
  with_reducible rename Fr _ _ _ (fun _ => _) => kF
  with_reducible rename News _ _ _ nw => kN
  refine' range_inv ["at", "order", "slot"] (fun _ _ => True) rfl ?hr ?hn kF kN trivial ?turn ?done
  case hr => assumption
  case hn => omega
  case turn =>
    intro i ti u2 hp2 tk2 nw2 hi _ hsub F3 N3
    have e1 := hsub _ h1
    have e2 := hsub _ h2
    have e3 := hsub _ h3
    clear kF kN
    k_steps
    with_reducible rename Fr _ _ _ (fun _ => _) => kF9
    with_reducible rename News _ _ _ nw2 => kN9
    exact ⟨_, _, _, rfl, kF9, kN9, fun y hy => keep_if (st_ne hy (by decide)) (keep_if (st_ne hy (by decide)) (stB_out hy)), trivial⟩
  case done =>
    intro u2 hp2 tk2 _ F3 N3
    clear kF kN
    k_steps
    with_reducible rename Fr _ _ _ (fun _ => _) => kF
    with_reducible rename News _ _ _ nw => kN
    refine' range_inv ["at", "order"] (fun _ _ => True) rfl ?hr ?hn kF kN trivial ?turn ?done
    case hr => assumption
    case hn => omega
    case turn =>
      intro i ti u3 hp3 tk3 nw3 hi _ hsub F4 N4
      have e1 := hsub _ h1
      have e2 := hsub _ h2
      have e3 := hsub _ h3
      clear kF kN
      k_steps
      with_reducible rename Fr _ _ _ (fun _ => _) => kF9
      with_reducible rename News _ _ _ nw3 => kN9
      exact ⟨_, _, _, rfl, kF9, kN9, fun y hy => keep_if (st_ne hy (by decide)) (keep_if (st_ne hy (by decide)) (stB_out hy)), trivial⟩
    case done =>
      intro u3 hp3 tk3 _ F4 N4
      clear kF kN
      k_steps
      with_reducible rename Fr h₀ _ _ _ => kF9
      with_reducible rename News h₀ _ _ nw => kN9
      exact ret _ _ kF9 kN9
/-! P8: check_ends -/
theorem end_absurd {c n : Int} (k : c ≠ 149) (h : c = 149 ↔ n - 1 + 1 = n) : False := k (h.mpr (by omega))
set_option maxHeartbeats 4000000 in
theorem ends_c (w : World) : ProgC w 70 3000 863 := by
  k_with_none
  (k_with "k_all" => assumption)
  (k_with "units_room" => ktr_units)
  (k_with "k_room" => ktr_room)
  (k_with "k_units" => ktr_units)
  (k_with "cell_enter" => (refine' code_def ?q4_k1 ?q4_k2 ?q4_k3 ?q4_k4 ?q4_k5 ?q4_kA ?q4_kF ?q4_kK ?q4_k6 ?q4_k7 ?q4_k8 ?q4_k9 ?q4_kB ?_ ?q4_c2 ?q4_c3 ?q4_c4 ?q4_c5; (case q4_kA => exact rfl); (case q4_kF => exact rfl); (case q4_kK => first | assumption | exact rfl); (case q4_k1 => k_asm); (case q4_k2 => k_asm); (case q4_k3 => k_asm); (case q4_k4 => k_asm); (case q4_k5 => k_asm); (case q4_k6 => k_is); (case q4_k7 => k_is); (case q4_k8 => ktr_room); (case q4_k9 => first | exact BindsTo.of_eq (binds := [(_, _)]) rfl | exact BindsTo.of_eq rfl | exact binds_K (by k_in) rfl (by k_is) rfl rfl rfl); (case q4_c5 => decide); (case q4_kB => exact locs rfl); (case q4_c2 => exact rfl); (case q4_c3 => exact rfl); (case q4_c4 => exact rfl); k_whole; intro zg9 zL9 zh9 zFG9 zF9 zN9 zB9 zX9 zT9; (try dsimp only); (try k_lift zB9); (try k_fold)))
  (k_with "k_mem" => first | with_reducible assumption | exact List.Mem.head _ | (refine' List.Mem.tail _ ?q5_b; (case q5_b => (show (_ : Addr × Obj) ∈ (_ : List (Addr × Obj)); k_mem))))
  (k_with "k_ne" => (try dsimp only); first | with_reducible assumption | exact Ne.symm (by with_reducible assumption) | exact Nat.ne_of_lt (by with_reducible assumption) | exact Nat.ne_of_gt (by with_reducible assumption))
  (k_with "k_all" => first | exact True.intro | with_reducible assumption | exact allLt_ne (by with_reducible assumption) | exact AllNe.mem (by with_reducible assumption) | (refine' And.intro ?q7_a ?q7_b; (case q7_a => k_ne); (case q7_b => k_all)) | (refine' List.forall_mem_cons.mpr (And.intro ?q7_a ?q7_b); (case q7_a => k_ne); (case q7_b => k_all)))
  (k_with "call type:list" => (k_here; (with_reducible show wpAny _ _ (call (Value.type _) [Value.ref _]) _ _ _); k_dflt (refine' list_copyK ?q8_k1 ?q8_k2 ?q8_k3 ?_ ?q8_z; (case q8_k1 => k_asm); (case q8_k2 => k_asm); (case q8_k3 => exact News.isList (by k_asm) (by k_mem)); (case q8_z => exact size_line _ (by with_reducible assumption)); k_whole); intro zD9 zc9 zh9 zF9 zN9 zl1; (try k_lt zl1); (try k_sweep)))
  (k_with "call builtin:len" => (k_here; (with_reducible show wpAny _ _ (call (Value.builtin "len") [Value.ref _]) _ _ _); k_dflt (refine' lenL_any ?q9_N ?q9_m ?q9_l ?q9_z ?_; (case q9_N => k_asm); (case q9_m => k_mem); (case q9_l => first | with_reducible assumption | exact rfl); (case q9_z => first | with_reducible assumption | exact Nat.le_trans (by with_reducible assumption) (by decide)); k_whole)))
  (k_with "subscriptTail" => (k_here; (with_reducible show wpAny _ _ (subscriptTail _ _ (Value.ref _) (Value.int _ _)) _ _ _); k_dflt (refine' listAt ?q10_N ?q10_m ?q10_lo ?q10_hi ?q10_z ?_; (case q10_N => k_asm); (case q10_m => k_mem); (case q10_z => first | with_reducible assumption | exact Nat.le_trans (by with_reducible assumption) (by decide)); (case q10_lo => first | with_reducible assumption | omega); (case q10_hi => first | with_reducible assumption | omega); k_whole); intro zv99 zhv99))
  (k_with "ktr_room" => (simp only [depth_under_make, depth_under_kw, depth_in1, depth_deeper, ktr_depth, Nat.add_assoc]; exact room_lt (by with_reducible assumption) (by decide)))
  (k_with "ktr_units" => (simp only [units_under_make, units_deeper, units_in1, ktr_unit, Nat.add_assoc]; exact room_lt (by with_reducible assumption) (by decide)))
  (k_with "call ref" => (k_here; (with_reducible show wpAny _ _ (call (Value.ref _) [_]) _ _ _); k_dflt ((first | with_unfolding_all refine' is_wide_c _ ?q13_B ?q13_F ?q13_X ?q13_N ?q13_T ?q13_k ?q13_c ?q13_o ?q13_d ?q13_u ?_ | with_unfolding_all refine' is_local_call_c _ ?q13_B ?q13_F ?q13_X ?q13_N ?q13_T ?q13_k ?q13_c ?q13_o ?q13_d ?q13_u ?_ | with_unfolding_all refine' has_goal_c _ ?q13_B ?q13_F ?q13_X ?q13_N ?q13_T ?q13_k ?q13_c ?q13_o ?q13_d ?q13_u ?_ | with_unfolding_all refine' is_jump_c _ ?q13_B ?q13_F ?q13_X ?q13_N ?q13_T ?q13_k ?q13_c ?q13_o ?q13_d ?q13_u ?_ | with_unfolding_all refine' is_branch_c _ ?q13_B ?q13_F ?q13_X ?q13_N ?q13_T ?q13_k ?q13_c ?q13_o ?q13_d ?q13_u ?_ | with_unfolding_all refine' is_exit_c _ ?q13_B ?q13_F ?q13_X ?q13_N ?q13_T ?q13_k ?q13_c ?q13_o ?q13_d ?q13_u ?_); (case q13_k => rfl); (case q13_F => k_asm); (case q13_N => k_asm); (case q13_B => k_asm); (case q13_X => k_asm); (case q13_T => k_asm); (case q13_c => with_reducible assumption); (case q13_o => first | exact OrdIn.up (by with_reducible assumption) (by with_reducible assumption) | exact OrdIn.up (by with_reducible assumption) (by intro p hp; repeat (first | exact hp | refine List.Mem.tail _ ?_))); (case q13_d => ktr_room); (case q13_u => ktr_units); k_whole); (intro zh9 ztk9 zF9 zN9; (try dsimp only); (try k_sweep))))
  (k_with "subscriptTail" => (k_here; (with_reducible show wpAny _ _ (subscriptTail _ _ (Value.ref _) (Value.int _ _)) _ _ _); k_dflt (refine' ordAt ?q14_N ?q14_m ?q14_o ?q14_lo ?q14_hi ?q14_z ?_; (case q14_N => k_asm); (case q14_m => k_mem); (case q14_o => with_reducible assumption); (case q14_z => first | with_reducible assumption | exact Nat.le_trans (by with_reducible assumption) (by decide)); (case q14_lo => first | with_reducible assumption | exact Int.natCast_nonneg _ | omega); (case q14_hi => first | with_reducible assumption | exact Int.ofNat_lt.mpr (by with_reducible assumption) | omega); k_whole); intro zv99 zc99 zhc99 zhe99 zho99))
  (k_with "exec For Name Attribute cons nil" => (k_here; (rename Fr _ _ _ _ => zlF9); (with_unfolding_all refine' For_turns zlF9 ?_; k_whole)))
  (k_with "last exec For" => (k_here; (rename Fr _ _ _ _ => zlF9); (with_unfolding_all refine' For_turns zlF9 ?_; k_whole)))
  intro p loose mean mg mb dp un gd cn cs a ccd cl outer A₀ base h₀ L m s Q E nw v ovs B F X N T hk hp ho hn hn' hd hu ret
  revert X; k_fill; intro X
  obtain ⟨pg, pgd, ol, su, x1, x2, x3, x4, x5, y1, y2, y3, y4, y5, t4, t5, v2, v3, cap, cap2, rfl, h1, h2, h3, h4⟩ := hp
  refine wpAny_call ?_
  k_dflt cell_enter
  k_steps
  with_reducible rename Fr _ _ _ (fun _ => _) => kF
  with_reducible rename News _ _ _ nw => kN
  refine' tupL_inv (vs := [.int 0 t5]) ["sub", "last"] (fun _ => True) trivial rfl kF kN h4 ?turn ?done
  case turn =>
    intro i v u2 hp2 tk2 nw2 hv _ hsub F3 N3
    have e1 := hsub _ h1
    have e2 := hsub _ h2
    have e3 := hsub _ h3
    have e4 := hsub _ h4
    obtain rfl : v = .int 0 t5 := by
      have := List.mem_of_getElem? hv
      simpa using this
    clear kF kN
    k_steps
    with_reducible rename Fr _ _ _ (fun _ => _) => kF
    with_reducible rename News _ _ _ nw2 => kN
    refine' tupL_inv (vs := [.int 0 t5]) ["begin"] (fun _ => True) trivial rfl kF kN e4 ?turn2 ?done2
    case turn2 =>
      intro i3 v3' u3 hp3 tk3 nw3 hv3 _ hsub3 F4 N4
      obtain rfl : v3' = .int 0 t5 := by
        have := List.mem_of_getElem? hv3
        simpa using this
      clear kF kN
      k_steps
      with_reducible rename Fr _ _ _ (fun _ => _) => kF9
      with_reducible rename News _ _ _ nw3 => kN9
      exact ⟨_, _, _, rfl, kF9, kN9, fun y hy => keep_if (st_ne hy (by decide)) (stB_out hy), trivial⟩
    case done2 =>
      intro u3 hp3 tk3 _ F4 N4
      clear kF kN
      k_steps
      all_goals first
        | (with_reducible rename Fr _ _ _ (fun _ => _) => kF9
           with_reducible rename News _ _ _ nw2 => kN9
           exact ⟨_, _, _, rfl, kF9, kN9, fun y hy => keep_if (st_ne hy (by decide)) (keep_if (st_ne hy (by decide)) (stB_out hy)), trivial⟩)
        | (exfalso
           with_reducible rename _ ≠ (149 : Int) => hq9
           exact end_absurd hq9 (by with_reducible assumption))
  case done =>
    intro u2 hp2 tk2 _ F3 N3
    clear kF kN
    k_steps
    with_reducible rename Fr h₀ _ _ _ => kF9
    with_reducible rename News h₀ _ _ nw => kN9
    exact ret _ _ kF9 kN9
/-! R11: «[elt for x in range(n) if test]», the ledger left as it lies -/
inductive MidN (g : Heap) (L : Addr) (s : Shared) (m : Str → Option Value) (nw : List (Addr × Obj)) (n : Nat) (v : Value) (s' : Shared) : Prop
  | mk (r : Addr) (t u1 u2 : Tok) (h' : Heap) (tk' : Nat) : v = .ref r → s' = { s with heap := h', toks := tk' } → IsRange h' r 0 (n : Int) 1 t u1 u2 → Fr g L h' m → News g L h' nw → MidN g L s m nw n v s'
section
variable {prog : Program} {w : World} {A : Around} {E : Value → Shared → Prop} {s : Shared} {g : Heap} {env : Env} {m : Str → Option Value} {nw : List (Addr × Obj)}
theorem endY_keep {I C D : Addr} {oI oC oD : Obj} {s₁ : Shared} {led : List (Addr × Obj)} {K : Value → List (Addr × Obj) → Prop} {y : Value} {h' : Heap} {tk' : Nat} {L : Addr}
    (F : Fr g L h' m) (N : News g L h' led) (mI : (I, oI) ∈ led) (mC : (C, oC) ∈ led) (mD : (D, oD) ∈ led) (hs : ∀ p ∈ nw, p ∈ led) (off : LCg.Off3 I C D nw) (hk : K y nw) :
    EndY g L m s₁ I oI C oC D oD K y { s₁ with heap := h', toks := tk' } :=
  LCg.CompEnd.intro F N nw (fun p hp => by
    rcases List.mem_cons.mp hp with rfl | hp
    · exact mI
    · rcases List.mem_cons.mp hp with rfl | hp
      · exact mC
      · rcases List.mem_cons.mp hp with rfl | hp
        · exact mD
        · exact hs p hp) off trivial hk
theorem comp_listT {ct elt iter : Expr} {x : Str} {px : Pos} {scope : Scope} {cl : List (Str × Addr)} {pos : Pos} {n : Nat} {Q : Value → Shared → Prop} (hn : n ≤ 10) (J : Nat → List Value → Prop)
    (hh : A.handled = none) (F₀ : Fr g env.locals s.heap m)
    (hclos : closureFor scope env = pure cl) (hcell : ∀ z ∈ scope.names, z.2 ≠ .cell) (hkind : scope.kind = .function)
    (hnames : ∀ z ∈ scope.names, z.2 = .local → scope.names.lookup z.1 = some .local) (hx : scope.names.lookup x = some .local)
    (hit : wpAny (model prog w) A (eval iter env) (MidN g env.locals s m nw n) E s) (J0 : J 0 [])
    (turn : ∀ (i : Nat) (ys : List Value) (t : Tok) I oI C oC D m₂ h tk (E' : Value → Shared → Prop), i < n → J i ys →
      LCg.NsObj oC m₂ → m₂ x = some (.int (i : Int) t) → Fr g env.locals h m → News g env.locals h ((I, oI) :: (C, oC) :: (D, LCg.lst ys) :: nw) → LCg.Off3 I C D nw → ((@Ne Nat I C) ∧ (@Ne Nat I D) ∧ (@Ne Nat C D)) →
      wpAny (model prog w) A (isTrue ct (compEnvC scope cl C env) (eval ct (compEnvC scope cl C env))) (fun ok s' => if ok = true then
        wpAny (model prog w) A (eval elt (compEnvC scope cl C env)) (EndY g env.locals m { s with heap := h, toks := tk } I oI C oC D (LCg.lst ys) (fun y news' => news' = nw ∧ J (i + 1) (ys ++ [y]))) E' s'
        else EndY g env.locals m { s with heap := h, toks := tk } I oI C oC D (LCg.lst ys) (fun _ news' => news' = nw ∧ J (i + 1) ys) Value.none s') E' { s with heap := h, toks := tk })
    (done : ∀ ys D h tk, J n ys → Fr g env.locals h m → News g env.locals h ((D, LCg.lst ys) :: nw) → AllNe D nw → Q (.ref D) { s with heap := h, toks := tk })
    (hs : ∀ x, foldedSetIterable iter env x = pure x := by intro _; rfl) :
    wpAny (model prog w) A (eval (.ListComp elt [⟨.Name x px, iter, [ct], 0⟩] scope pos) env) Q E s := by
  refine LCt.ListComp_T F₀ hclos hcell hkind hnames hx (wpAny_mono hit (fun v s' hm => ?_) fun _ _ e => e) hs
  obtain ⟨r, t, u1, u2, h', tk', rfl, rfl, hr, F', N'⟩ := hm
  refine LCt.CompSrcT.range (n := ((n : Int) - 0).toNat) hh F' N' hr (small_one (by omega) (by omega) (by omega) (by omega)) (rangeSize_nat _ _) (by rw [sizeLine_eq]; omega) fun g₁ => ?_
  have e0 : ((n : Int) - 0).toNat = n := by omega
  rw [e0]
  refine compT_rest (fun i ys news => news = nw ∧ J i ys) n ?_ n 0 [] _ (by omega) ?_ ⟨rfl, J0⟩
  · rintro i ys news v I oI C oC D m₂ h tk E' hi ⟨rfl, hJ⟩ ⟨t2, rfl⟩ hC hx' F2 N2 off ne
    have e1 : (0 : Int) + (i : Int) = (i : Int) := by omega
    rw [e1] at hx'
    exact turn i ys t2 I oI C oC D m₂ h tk E' hi hJ hC hx' F2 N2 off ne
  · rintro ys news ⟨rfl, hJ⟩ D h tk F2 N2 off
    rw [Nat.zero_add] at hJ
    exact done ys D h tk hJ F2 N2 (off1_ne off)
end
/-! R12: «[elt for x in range(n)]» without a test, the ledger left as it lies -/
section
variable {prog : Program} {w : World} {A : Around} {E : Value → Shared → Prop} {s : Shared} {g : Heap} {env : Env} {m : Str → Option Value} {nw : List (Addr × Obj)}
theorem compU_rest {h₀ : Heap} {L : Addr} {elt : Expr} {x : Str} {scope : Scope} {cl : List (Str × Addr)} {S : List (Addr × Obj) → Prop} {P : Nat → Value → Prop} {Fin : List Value → List (Addr × Obj) → Prop} (J : Nat → List Value → List (Addr × Obj) → Prop) (n : Nat)
    (turn : ∀ i ys news v I oI C oC D m₂ h tk (E' : Value → Shared → Prop), i < n → J i ys news → P i v → LCg.NsObj oC m₂ → m₂ x = some v → Fr h₀ L h m → News h₀ L h ((I, oI) :: (C, oC) :: (D, LCg.lst ys) :: news) → LCg.Off3 I C D news → ((@Ne Nat I C) ∧ (@Ne Nat I D) ∧ (@Ne Nat C D)) →
      wpAny (model prog w) A (eval elt (compEnvC scope cl C env)) (LCg.CompEnd h₀ L m { s with heap := h, toks := tk } I oI C oC D (LCg.lst ys) S (fun y news' => J (i + 1) (ys ++ [y]) news')) E' { s with heap := h, toks := tk }) :
    ∀ (k i : Nat) (ys : List Value) (news : List (Addr × Obj)), i + k ≤ n → (∀ ys news, J (i + k) ys news → Fin ys news) → J i ys news → LCg.CompRest prog w A h₀ L m env elt x scope cl s S P Fin k i ys news
  | 0, i, ys, news, _, fin, hJ => LCg.CompRest.zero (fin ys news hJ)
  | k + 1, i, ys, news, hn, fin, hJ => by
    refine LCg.CompRest.succ fun v I oI C oC D m₂ h tk E' hP hC hx F N off ne => ?_
    have e9 : i + (k + 1) = i + 1 + k := by omega
    have fin' : ∀ ys news, J (i + 1 + k) ys news → Fin ys news := fun ys news h => fin ys news (e9 ▸ h)
    refine wpAny_mono (turn i ys news v I oI C oC D m₂ h tk E' (by omega) hJ hP hC hx F N off ne) (fun y s'' c => ?_) fun _ _ e => e
    obtain ⟨h', tk', n', e, F', N', o', S', r⟩ := c
    exact ⟨h', tk', n', e, F', N', o', S', compU_rest J n turn k (i + 1) (ys ++ [y]) n' (by omega) fin' r⟩
theorem comp_assignU {elt iter : Expr} {x y : Str} {px py : Pos} {scope : Scope} {cl : List (Str × Addr)} {pos spos : Pos} {n : Nat} {Q : Flow → Shared → Prop} (hn : n ≤ 20) (J : Nat → List Value → Prop)
    (hh : A.handled = none) (F₀ : Fr g env.locals s.heap m)
    (hsw : swapsWith (.ListComp elt [⟨.Name x px, iter, [], 0⟩] scope pos) (some (.Name y py)) spos.line env = pure true)
    (hclos : closureFor scope env = pure cl) (hcell : ∀ z ∈ scope.names, z.2 ≠ .cell) (hkind : scope.kind = .function)
    (hnames : ∀ z ∈ scope.names, z.2 = .local → scope.names.lookup z.1 = some .local) (hx : scope.names.lookup x = some .local)
    (hy : env.kindOf y = some .local) (hp : (env.scope.kind == .class || (env.scope.kind == .module && env.locals != env.globals)) = false)
    (hit : wpAny (model prog w) A (eval iter env) (MidN g env.locals s m nw n) E s) (J0 : J 0 [])
    (turn : ∀ (i : Nat) (ys : List Value) (t : Tok) I oI C oC D m₂ h tk (E' : Value → Shared → Prop), i < n → J i ys →
      LCg.NsObj oC m₂ → m₂ x = some (.int (i : Int) t) → Fr g env.locals h m → News g env.locals h ((I, oI) :: (C, oC) :: (D, LCg.lst ys) :: nw) → LCg.Off3 I C D nw → ((@Ne Nat I C) ∧ (@Ne Nat I D) ∧ (@Ne Nat C D)) →
      wpAny (model prog w) A (eval elt (compEnvC scope cl C env)) (EndY g env.locals m { s with heap := h, toks := tk } I oI C oC D (LCg.lst ys) (fun y news' => news' = nw ∧ J (i + 1) (ys ++ [y]))) E' { s with heap := h, toks := tk })
    (done : ∀ ys D h tk, J n ys → Fr g env.locals h (fun z => if z = y then some (.ref D) else m z) → News g env.locals h ((D, LCg.lst ys) :: nw) → AllNe D nw → Q .next { s with heap := h, toks := tk })
    (hs : ∀ x, foldedSetIterable iter env x = pure x := by intro _; rfl) :
    wpAny (model prog w) A (exec (.Assign [.Name y py] (.ListComp elt [⟨.Name x px, iter, [], 0⟩] scope pos) spos) env) Q E s := by
  refine LCg.Assign_ListComp_U F₀ rfl hsw hclos hcell hkind hnames hx hy hp (wpAny_mono hit (fun v s' hm => ?_) fun _ _ e => e) hs
  obtain ⟨r, t, u1, u2, h', tk', rfl, rfl, hr, F', N'⟩ := hm
  refine LCg.CompSrc.range (n := ((n : Int) - 0).toNat) hh F' N' hr (small_one (by omega) (by omega) (by omega) (by omega)) (rangeSize_nat _ _) (by rw [sizeLine_eq]; omega) fun g₁ => ?_
  have e0 : ((n : Int) - 0).toNat = n := by omega
  rw [e0]
  refine compU_rest (fun i ys news => news = nw ∧ J i ys) n ?_ n 0 [] _ (by omega) ?_ ⟨rfl, J0⟩
  · rintro i ys news v I oI C oC D m₂ h tk E' hi ⟨rfl, hJ⟩ ⟨t2, rfl⟩ hC hx' F2 N2 off ne
    have e1 : (0 : Int) + (i : Int) = (i : Int) := by omega
    rw [e1] at hx'
    exact turn i ys t2 I oI C oC D m₂ h tk E' hi hJ hC hx' F2 N2 off ne
  · rintro ys news ⟨rfl, hJ⟩ D h tk F2 N2 off
    rw [Nat.zero_add] at hJ
    exact done ys D h tk hJ F2 N2 (off1_ne off)
theorem setItem_R {h₀ : Heap} {L D : Addr} {led rest : List (Addr × Obj)} {vs : List Value} {n : Nat} {k : Int} {t : Tok} {v : Value} {Q : Unit → Shared → Prop} (F : Fr h₀ L s.heap m) (N : News h₀ L s.heap led) (R : Rem (D, W.listOf vs.toArray n) led rest) (ne : AllNe D rest)
    (h0 : 0 ≤ k) (h1 : k < vs.length) (hz : vs.length ≤ 100) (h : ∀ h', Fr h₀ L h' m → News h₀ L h' ((D, W.listOf (vs.set k.toNat v).toArray n) :: rest) → Q () { s with heap := h' }) :
    wpAny (model prog w) A (setItem (.ref D) (.int k t) v) Q E s := by
  have N' := R.news N
  have z := N' (D, W.listOf vs.toArray n) (.head _)
  have hs : vs.toArray.size = vs.length := List.size_toArray
  refine ki_setAt z.1 h0 (by omega) (by omega) (h _ (F.change (Heap.SameBut.update ..) z.2.1 z.2.2) (ki_turn (pre := []) _ N' (fun p hp => nomatch hp) ne.mem ?_ ?_))
  · show vs.toArray.setIfInBounds k.toNat v = (vs.set k.toNat v).toArray
    apply Array.toList_inj.mp
    simp
  · simp
end
/-! O6: new_frame -/
set_option maxHeartbeats 4000000 in
theorem frame_c (w : World) {p : Program} {loose : List Str} {mean : ExcName → Option Value} {mg mb : Str → Option Value} {dp un : Nat} {gd : Option (List Code)} {cn : Str} {cs : Scope} {a : Addr} {ccd : Value} {cl : List (Str × Addr)} {outer : List Env} {A₀ : Around} {base h₀ : Heap} {L : Addr}
    {m : Str → Option Value} {s : Shared} {Q E : Value → Shared → Prop} {nw : List (Addr × Obj)} {i1 i2 : Int} {t1 t2 : Tok}
    (B : Below A₀ base outer h₀) (F : Fr h₀ L s.heap m) (X : (hd.heap_1 w.params).In h₀) (N : News h₀ L s.heap nw) (T : Top p loose mean mg mb h₀) (hk : cs.kind = .function) (hd : dp + 90 < recursionLimit) (hu : un + 3500 < cLine)
    (ret : ∀ x d l x1 y1 e2 e3 h' tk' (vs : List Value) n, vs.length = 11 → Fr h₀ L h' m → News h₀ L h' ((x, instObj 535 d) :: (d, dictOf [⟨x1, .str "regs" y1, .ref l⟩, e2, e3] 3) :: (l, W.listOf vs.toArray n) :: nw) → AllNe l nw → l < d → d < x → Q (.ref x) { s with heap := h', toks := tk' }) :
    wpAny (model PySem.Challenge.rw_pq1006_01.row.prog w) (ktrTop dp un gd cn cs L a ccd cl outer) (call (.ref 626) [.int i1 t1, .int i2 t2]) Q E s := by
  k_with_none
  (k_with "k_all" => assumption)
  (k_with "units_room" => ktr_units)
  (k_with "k_room" => ktr_room)
  (k_with "k_units" => ktr_units)
  (k_with "cell_enter" => (refine' code_def ?q4_k1 ?q4_k2 ?q4_k3 ?q4_k4 ?q4_k5 ?q4_kA ?q4_kF ?q4_kK ?q4_k6 ?q4_k7 ?q4_k8 ?q4_k9 ?q4_kB ?_ ?q4_c2 ?q4_c3 ?q4_c4 ?q4_c5; (case q4_kA => exact rfl); (case q4_kF => exact rfl); (case q4_kK => first | assumption | exact rfl); (case q4_k1 => k_asm); (case q4_k2 => k_asm); (case q4_k3 => k_asm); (case q4_k4 => k_asm); (case q4_k5 => k_asm); (case q4_k6 => k_is); (case q4_k7 => k_is); (case q4_k8 => ktr_room); (case q4_k9 => first | exact BindsTo.of_eq (binds := [(_, _), (_, _), (_, _), (_, _)]) rfl | exact BindsTo.of_eq (binds := [(_, _), (_, _)]) rfl | exact BindsTo.of_eq rfl | exact binds_K (by k_in) rfl (by k_is) rfl rfl rfl); (case q4_c5 => decide); (case q4_kB => exact locs rfl); (case q4_c2 => exact rfl); (case q4_c3 => exact rfl); (case q4_c4 => exact rfl); k_whole; intro zg9 zL9 zh9 zFG9 zF9 zN9 zB9 zX9 zT9; (try dsimp only); (try k_lift zB9); (try k_fold)))
  (k_with "k_mem" => first | with_reducible assumption | exact List.Mem.head _ | (refine' List.Mem.tail _ ?q5_b; (case q5_b => (show (_ : Addr × Obj) ∈ (_ : List (Addr × Obj)); k_mem))))
  (k_with "k_ne" => (try dsimp only); first | with_reducible assumption | exact Ne.symm (by with_reducible assumption) | exact Nat.ne_of_lt (by with_reducible assumption) | exact Nat.ne_of_gt (by with_reducible assumption))
  (k_with "k_all" => first | exact True.intro | with_reducible assumption | exact allLt_ne (by with_reducible assumption) | exact AllNe.mem (by with_reducible assumption) | (refine' And.intro ?q7_a ?q7_b; (case q7_a => k_ne); (case q7_b => k_all)) | (refine' List.forall_mem_cons.mpr (And.intro ?q7_a ?q7_b); (case q7_a => k_ne); (case q7_b => k_all)))
  (k_with "call type:list" => (k_here; (with_reducible show wpAny _ _ (call (Value.type _) [Value.ref _]) _ _ _); k_dflt (refine' list_copyK ?q8_k1 ?q8_k2 ?q8_k3 ?_ ?q8_z; (case q8_k1 => k_asm); (case q8_k2 => k_asm); (case q8_k3 => exact News.isList (by k_asm) (by k_mem)); (case q8_z => exact size_line _ (by with_reducible assumption)); k_whole); intro zD9 zc9 zh9 zF9 zN9 zl1; (try k_lt zl1); (try k_sweep)))
  (k_with "call builtin:len" => (k_here; (with_reducible show wpAny _ _ (call (Value.builtin "len") [Value.ref _]) _ _ _); k_dflt (refine' lenL_any ?q9_N ?q9_m ?q9_l ?q9_z ?_; (case q9_N => k_asm); (case q9_m => k_mem); (case q9_l => first | with_reducible assumption | exact rfl); (case q9_z => first | with_reducible assumption | exact Nat.le_trans (by with_reducible assumption) (by decide)); k_whole)))
  (k_with "subscriptTail" => (k_here; (with_reducible show wpAny _ _ (subscriptTail _ _ (Value.ref _) (Value.int _ _)) _ _ _); k_dflt (refine' listAt ?q10_N ?q10_m ?q10_lo ?q10_hi ?q10_z ?_; (case q10_N => k_asm); (case q10_m => k_mem); (case q10_z => first | with_reducible assumption | exact Nat.le_trans (by with_reducible assumption) (by decide)); (case q10_lo => first | with_reducible assumption | omega); (case q10_hi => first | with_reducible assumption | omega); k_whole); intro zv99 zhv99))
  (k_with "ktr_room" => (simp only [depth_under_make, depth_under_kw, depth_in1, depth_deeper, ktr_depth, Nat.add_assoc]; exact room_lt (by with_reducible assumption) (by decide)))
  (k_with "ktr_units" => (simp only [units_under_make, units_deeper, units_in1, ktr_unit, Nat.add_assoc]; exact room_lt (by with_reducible assumption) (by decide)))
  (k_with "call ref" => (k_here; (with_reducible show wpAny _ _ (call (Value.ref 442) _) _ _ _); k_dflt ((with_unfolding_all refine' none_c _ ?q13_B ?q13_F ?q13_X ?q13_N ?q13_T ?q13_k ?q13_a ?q13_d ?q13_u ?_); (case q13_k => rfl); (case q13_F => k_asm); (case q13_N => k_asm); (case q13_B => k_asm); (case q13_X => k_asm); (case q13_T => k_asm); (case q13_a => exact rfl); (case q13_d => ktr_room); (case q13_u => ktr_units); k_whole); (intro zo9 zh9 ztk9 zF9 zN9; (try k_sweep))))
  (k_with "call ref" => (k_here; (with_reducible show wpAny _ _ (call (Value.ref 449) _) _ _ _); k_dflt ((with_unfolding_all refine' ctx_c _ ?q14_B ?q14_F ?q14_X ?q14_N ?q14_T ?q14_k ?q14_a ?q14_d ?q14_u ?_); (case q14_k => rfl); (case q14_F => k_asm); (case q14_N => k_asm); (case q14_B => k_asm); (case q14_X => k_asm); (case q14_T => k_asm); (case q14_a => exact rfl); (case q14_d => ktr_room); (case q14_u => ktr_units); k_whole); (intro zo9 zh9 ztk9 zF9 zN9; (try k_sweep))))
  (k_with "call ref" => (k_here; (with_reducible show wpAny _ _ (call (Value.ref 456) [_, _]) _ _ _); k_dflt ((with_unfolding_all refine' stack_c _ ?q15_B ?q15_F ?q15_X ?q15_N ?q15_T ?q15_k ?q15_a ?q15_d ?q15_u ?_); (case q15_k => rfl); (case q15_F => k_asm); (case q15_N => k_asm); (case q15_B => k_asm); (case q15_X => k_asm); (case q15_T => k_asm); (case q15_a => exact ⟨_, _, _, _, rfl⟩); (case q15_d => ktr_room); (case q15_u => ktr_units); k_whole); (intro zo9 zh9 ztk9 zF9 zN9; (try k_sweep))))
  (k_with "k_upd" => first | with_reducible assumption | exact Rem.head | (refine' Rem.tail ?q16_b; (case q16_b => k_upd)))
  (k_with "setItem ref int" => (k_here; k_dflt (refine' setItem_R ?q17_F ?q17_N ?q17_R ?q17_n ?q17_a ?q17_b ?q17_z ?_; (case q17_F => k_asm); (case q17_N => k_asm); (case q17_R => k_upd); (case q17_n => k_all); (case q17_a => decide); (case q17_b => first | with_reducible assumption | omega); (case q17_z => first | with_reducible assumption | omega); k_whole); intro zh9 zF9 zN9; (try k_sweep)))
  (k_with "execs cons" => (k_here; (with_reducible show wpAny _ _ (execs (Stmt.Assign [Expr.Attribute (Expr.Name _ _) _ _] (Expr.Name _ _) _ :: _) _) _ _ _); k_dflt (refine' sets_at (slf := "self") ?q18_S ?q18_X ?q18_self ?q18_k ?q18_ks ?q18_ds ?q18_c1 ?q18_c2 ?q18_c3 ?q18_F ?q18_N ?q18_U ?q18_hx ?q18_K ?q18_d ?q18_l ?_; (case q18_F => k_asm); (case q18_N => k_asm); (case q18_X => k_asm); (case q18_self => exact rfl); (case q18_hx => k_mem); (case q18_U => k_updF); (case q18_k => exact rfl); (case q18_ks => exact rfl); (case q18_ds => exact rfl); (case q18_c1 => k_is); (case q18_c2 => k_is); (case q18_c3 => k_is); (case q18_K => (repeat' (refine' Keys.cons ?_)); (any_goals (exact Keys.nil))); (case q18_S => (refine' SetL.cons ?_ ?_ ?_ ?_ ?_); (repeat' (first | (refine' SetL.cons ?_ ?_ ?_ ?_ ?_) | k_is | exact rfl)); (any_goals (exact SetL.nil))); (case q18_d => decide +kernel); (case q18_l => exact Nat.le_of_ble_eq_true rfl); k_whole); (intro zh9 ztk09 ztk9 zF9 zN9; (try dsimp only [ents, List.cons_append, List.nil_append, List.length_cons, List.length_nil, Nat.reduceAdd] at zN9); (try k_sweep))))
  revert X; k_fill; intro X
  refine wpAny_call ?_
  k_dflt cell_enter
  iterate 1 (first | (k_unfold; (try dsimp only)) | (k_end; wrow_close) | walk1 | (dsimp only; walk1))
  with_reducible rename Fr _ _ _ (fun _ => _) => kF0
  with_reducible rename News _ _ _ nw => kN0
  refine wpAny_execs_cons ?_
  k_dflt (refine comp_assignU (n := 11) (by decide) (fun i ys => ys.length = i) rfl kF0 (by with_unfolding_all rfl) (by with_unfolding_all rfl) (by decide) (by rfl) (by decide) (by rfl) (by rfl) (by rfl) (nw := nw) ?it rfl ?turn ?done)
  case it =>
    k_steps
    with_reducible rename Fr _ _ _ (fun _ => _) => kF9
    with_reducible rename News _ _ _ nw => kN9
    with_reducible rename IsRange _ _ _ _ _ _ _ _ => kR9
    exact ⟨_, _, _, _, _, _, rfl, rfl, kR9, kF9, kN9⟩
  case turn =>
    rintro i ys t I oI C oC D m₂ h tk E' hi hys hC hx F2 N2 off ne
    have off9 := off
    clear kF0 kN0
    k_steps
    with_reducible rename Fr _ _ _ (fun _ => _) => kF9
    with_reducible rename News _ _ _ (_ :: _) => kN9
    exact endY_keep kF9 kN9 (.head _) (.tail _ (.head _)) (.tail _ (.tail _ (.head _))) (fun p hp => .tail _ (.tail _ (.tail _ hp))) off9 ⟨rfl, by rw [List.length_append, hys]; rfl⟩
  case done =>
    rintro ys D h tk hys F2 N2 hne
    have hl11 : (10 : Int) < (ys.length : Int) := by omega
    have hl100 : ys.length ≤ 100 := by omega
    clear kF0 kN0
    k_steps
    with_reducible rename Fr h₀ _ _ m => kF9
    with_reducible rename News h₀ _ _ (_ :: _) => kN9
    refine' ret _ _ D _ _ _ _ _ _ _ _ ?l kF9 (News.part kN9 ?s) hne ?a ?b
    case s => exact List.forall_mem_cons.mpr ⟨by k_mem, List.forall_mem_cons.mpr ⟨by k_mem, List.forall_mem_cons.mpr ⟨by k_mem, fun p hp => by repeat (first | exact hp | refine List.Mem.tail _ ?_)⟩⟩⟩
    case l => rw [List.length_set, hys]
    case a => with_reducible assumption
    case b => with_reducible assumption
/-! O7: first_state -/
set_option maxHeartbeats 4000000 in
theorem first_c (w : World) : RegC w 110 4500 633 (fun vs => vs = []) := by
  k_with_none
  (k_with "k_all" => assumption)
  (k_with "units_room" => ktr_units)
  (k_with "k_room" => ktr_room)
  (k_with "k_units" => ktr_units)
  (k_with "cell_enter" => (refine' code_def ?q4_k1 ?q4_k2 ?q4_k3 ?q4_k4 ?q4_k5 ?q4_kA ?q4_kF ?q4_kK ?q4_k6 ?q4_k7 ?q4_k8 ?q4_k9 ?q4_kB ?_ ?q4_c2 ?q4_c3 ?q4_c4 ?q4_c5; (case q4_kA => exact rfl); (case q4_kF => exact rfl); (case q4_kK => first | assumption | exact rfl); (case q4_k1 => k_asm); (case q4_k2 => k_asm); (case q4_k3 => k_asm); (case q4_k4 => k_asm); (case q4_k5 => k_asm); (case q4_k6 => k_is); (case q4_k7 => k_is); (case q4_k8 => ktr_room); (case q4_k9 => first | exact BindsTo.of_eq (binds := []) rfl | exact BindsTo.of_eq (binds := [(_, _), (_, _), (_, _), (_, _)]) rfl | exact BindsTo.of_eq rfl | exact binds_K (by k_in) rfl (by k_is) rfl rfl rfl); (case q4_c5 => decide); (case q4_kB => exact locs rfl); (case q4_c2 => exact rfl); (case q4_c3 => exact rfl); (case q4_c4 => exact rfl); k_whole; intro zg9 zL9 zh9 zFG9 zF9 zN9 zB9 zX9 zT9; (try dsimp only); (try k_lift zB9); (try k_fold)))
  (k_with "k_mem" => first | with_reducible assumption | exact List.Mem.head _ | (refine' List.Mem.tail _ ?q5_b; (case q5_b => (show (_ : Addr × Obj) ∈ (_ : List (Addr × Obj)); k_mem))))
  (k_with "k_ne" => (try dsimp only); first | with_reducible assumption | exact Ne.symm (by with_reducible assumption) | exact Nat.ne_of_lt (by with_reducible assumption) | exact Nat.ne_of_gt (by with_reducible assumption))
  (k_with "k_all" => first | exact True.intro | with_reducible assumption | exact allLt_ne (by with_reducible assumption) | exact AllNe.mem (by with_reducible assumption) | (refine' And.intro ?q7_a ?q7_b; (case q7_a => k_ne); (case q7_b => k_all)) | (refine' List.forall_mem_cons.mpr (And.intro ?q7_a ?q7_b); (case q7_a => k_ne); (case q7_b => k_all)))
  (k_with "call type:list" => (k_here; (with_reducible show wpAny _ _ (call (Value.type _) [Value.ref _]) _ _ _); k_dflt (refine' list_copyK ?q8_k1 ?q8_k2 ?q8_k3 ?_ ?q8_z; (case q8_k1 => k_asm); (case q8_k2 => k_asm); (case q8_k3 => exact News.isList (by k_asm) (by k_mem)); (case q8_z => exact size_line _ (by with_reducible assumption)); k_whole); intro zD9 zc9 zh9 zF9 zN9 zl1; (try k_lt zl1); (try k_sweep)))
  (k_with "call builtin:len" => (k_here; (with_reducible show wpAny _ _ (call (Value.builtin "len") [Value.ref _]) _ _ _); k_dflt (refine' lenL_any ?q9_N ?q9_m ?q9_l ?q9_z ?_; (case q9_N => k_asm); (case q9_m => k_mem); (case q9_l => first | with_reducible assumption | exact rfl); (case q9_z => first | with_reducible assumption | exact Nat.le_trans (by with_reducible assumption) (by decide)); k_whole)))
  (k_with "subscriptTail" => (k_here; (with_reducible show wpAny _ _ (subscriptTail _ _ (Value.ref _) (Value.int _ _)) _ _ _); k_dflt (refine' listAt ?q10_N ?q10_m ?q10_lo ?q10_hi ?q10_z ?_; (case q10_N => k_asm); (case q10_m => k_mem); (case q10_z => first | with_reducible assumption | exact Nat.le_trans (by with_reducible assumption) (by decide)); (case q10_lo => first | with_reducible assumption | omega); (case q10_hi => first | with_reducible assumption | omega); k_whole); intro zv99 zhv99))
  (k_with "ktr_room" => (simp only [depth_under_make, depth_under_kw, depth_in1, depth_deeper, ktr_depth, Nat.add_assoc]; exact room_lt (by with_reducible assumption) (by decide)))
  (k_with "ktr_units" => (simp only [units_under_make, units_deeper, units_in1, ktr_unit, Nat.add_assoc]; exact room_lt (by with_reducible assumption) (by decide)))
  (k_with "call ref" => (k_here; (with_reducible show wpAny _ _ (call (Value.ref 442) _) _ _ _); k_dflt ((with_unfolding_all refine' none_c _ ?q13_B ?q13_F ?q13_X ?q13_N ?q13_T ?q13_k ?q13_a ?q13_d ?q13_u ?_); (case q13_k => rfl); (case q13_F => k_asm); (case q13_N => k_asm); (case q13_B => k_asm); (case q13_X => k_asm); (case q13_T => k_asm); (case q13_a => exact rfl); (case q13_d => ktr_room); (case q13_u => ktr_units); k_whole); (intro zo9 zh9 ztk9 zF9 zN9; (try k_sweep))))
  (k_with "call ref" => (k_here; (with_reducible show wpAny _ _ (call (Value.ref 449) _) _ _ _); k_dflt ((with_unfolding_all refine' ctx_c _ ?q14_B ?q14_F ?q14_X ?q14_N ?q14_T ?q14_k ?q14_a ?q14_d ?q14_u ?_); (case q14_k => rfl); (case q14_F => k_asm); (case q14_N => k_asm); (case q14_B => k_asm); (case q14_X => k_asm); (case q14_T => k_asm); (case q14_a => exact rfl); (case q14_d => ktr_room); (case q14_u => ktr_units); k_whole); (intro zo9 zh9 ztk9 zF9 zN9; (try k_sweep))))
  (k_with "call ref" => (k_here; (with_reducible show wpAny _ _ (call (Value.ref 456) [_, _]) _ _ _); k_dflt ((with_unfolding_all refine' stack_c _ ?q15_B ?q15_F ?q15_X ?q15_N ?q15_T ?q15_k ?q15_a ?q15_d ?q15_u ?_); (case q15_k => rfl); (case q15_F => k_asm); (case q15_N => k_asm); (case q15_B => k_asm); (case q15_X => k_asm); (case q15_T => k_asm); (case q15_a => exact ⟨_, _, _, _, rfl⟩); (case q15_d => ktr_room); (case q15_u => ktr_units); k_whole); (intro zo9 zh9 ztk9 zF9 zN9; (try k_sweep))))
  (k_with "k_upd" => first | with_reducible assumption | exact Rem.head | (refine' Rem.tail ?q16_b; (case q16_b => k_upd)))
  (k_with "setItem ref int" => (k_here; k_dflt (refine' setItem_R ?q17_F ?q17_N ?q17_R ?q17_n ?q17_a ?q17_b ?q17_z ?_; (case q17_F => k_asm); (case q17_N => k_asm); (case q17_R => k_upd); (case q17_n => k_all); (case q17_a => decide); (case q17_b => first | with_reducible assumption | omega); (case q17_z => first | with_reducible assumption | omega); k_whole); intro zh9 zF9 zN9; (try k_sweep)))
  (k_with "call ref" => (k_here; (with_reducible show wpAny _ _ (call (Value.ref 626) [_, _]) _ _ _); k_dflt ((with_unfolding_all refine' frame_c _ ?q18_B ?q18_F ?q18_X ?q18_N ?q18_T ?q18_k ?q18_d ?q18_u ?_); (case q18_k => rfl); (case q18_F => k_asm); (case q18_N => k_asm); (case q18_B => k_asm); (case q18_X => k_asm); (case q18_T => k_asm); (case q18_d => ktr_room); (case q18_u => ktr_units); k_whole); (intro zx9 zd9 zl9 zx19 zy19 ze29 ze39 zh9 ztk9 zvs9 zn9 zhl119 zF9 zN9 zhne9 zhl19 zhl29; (have zhb99 : (1 : Int) < (zvs9.length : Int) := by omega); (have zhz99 : zvs9.length ≤ 100 := by omega); (have zhl39 := Nat.lt_trans zhl19 zhl29); (try k_sweep))))
  (k_with "execs cons" => (k_here; (with_reducible show wpAny _ _ (execs (Stmt.Assign [Expr.Attribute (Expr.Name _ _) _ _] (Expr.Name _ _) _ :: _) _) _ _ _); k_dflt (refine' sets_at (slf := "self") ?q19_S ?q19_X ?q19_self ?q19_k ?q19_ks ?q19_ds ?q19_c1 ?q19_c2 ?q19_c3 ?q19_F ?q19_N ?q19_U ?q19_hx ?q19_K ?q19_d ?q19_l ?_; (case q19_F => k_asm); (case q19_N => k_asm); (case q19_X => k_asm); (case q19_self => exact rfl); (case q19_hx => k_mem); (case q19_U => k_updF); (case q19_k => exact rfl); (case q19_ks => exact rfl); (case q19_ds => exact rfl); (case q19_c1 => k_is); (case q19_c2 => k_is); (case q19_c3 => k_is); (case q19_K => (repeat' (refine' Keys.cons ?_)); (any_goals (exact Keys.nil))); (case q19_S => (refine' SetL.cons ?_ ?_ ?_ ?_ ?_); (repeat' (first | (refine' SetL.cons ?_ ?_ ?_ ?_ ?_) | k_is | exact rfl)); (any_goals (exact SetL.nil))); (case q19_d => decide +kernel); (case q19_l => exact Nat.le_of_ble_eq_true rfl); k_whole); (intro zh9 ztk09 ztk9 zF9 zN9; (try dsimp only [ents, List.cons_append, List.nil_append, List.length_cons, List.length_nil, Nat.reduceAdd] at zN9); (try k_sweep))))
  intro p loose mean mg mb dp un gd cn cs a ccd cl outer A₀ base h₀ L m s Q E nw vs B F X N T hk hv hd hu ret
  subst hv
  revert X; k_fill; intro X
  refine wpAny_call ?_
  k_dflt cell_enter
  k_steps
  with_reducible rename Fr h₀ _ _ m => kF9
  with_reducible rename News h₀ _ _ (_ :: _) => kN9
  exact ret _ _ _ kF9 (News.part kN9 fun p hp => by repeat (first | exact hp | refine List.Mem.tail _ ?_))
/-! R13: «[elt for x in xs]» over a list of the ledger, the ledger left as it lies -/
inductive MidS (g : Heap) (L : Addr) (s : Shared) (m : Str → Option Value) (nw : List (Addr × Obj)) (ax : Addr) (v : Value) (s' : Shared) : Prop
  | mk (h' : Heap) (tk' : Nat) : v = .ref ax → s' = { s with heap := h', toks := tk' } → Fr g L h' m → News g L h' nw → MidS g L s m nw ax v s'
section
variable {prog : Program} {w : World} {A : Around} {E : Value → Shared → Prop} {s : Shared} {g : Heap} {env : Env} {m : Str → Option Value} {nw : List (Addr × Obj)}
theorem comp_listU {elt iter : Expr} {x : Str} {px : Pos} {scope : Scope} {cl : List (Str × Addr)} {pos : Pos} {ax : Addr} {vs : List Value} {cap : Nat} {Q : Value → Shared → Prop} (hn : vs.length ≤ 100) (hm : (ax, W.listOf vs.toArray cap) ∈ nw) (J : Nat → List Value → Prop)
    (hh : A.handled = none) (F₀ : Fr g env.locals s.heap m)
    (hclos : closureFor scope env = pure cl) (hcell : ∀ z ∈ scope.names, z.2 ≠ .cell) (hkind : scope.kind = .function)
    (hnames : ∀ z ∈ scope.names, z.2 = .local → scope.names.lookup z.1 = some .local) (hx : scope.names.lookup x = some .local)
    (hit : wpAny (model prog w) A (eval iter env) (MidS g env.locals s m nw ax) E s) (J0 : J 0 [])
    (turn : ∀ (i : Nat) (ys : List Value) (v : Value) I oI C oC D m₂ h tk (E' : Value → Shared → Prop), vs[i]? = some v → J i ys →
      LCg.NsObj oC m₂ → m₂ x = some v → Fr g env.locals h m → News g env.locals h ((I, oI) :: (C, oC) :: (D, LCg.lst ys) :: nw) → LCg.Off3 I C D nw → ((@Ne Nat I C) ∧ (@Ne Nat I D) ∧ (@Ne Nat C D)) →
      wpAny (model prog w) A (eval elt (compEnvC scope cl C env)) (EndY g env.locals m { s with heap := h, toks := tk } I oI C oC D (LCg.lst ys) (fun y news' => news' = nw ∧ J (i + 1) (ys ++ [y]))) E' { s with heap := h, toks := tk })
    (done : ∀ ys D h tk, J vs.length ys → Fr g env.locals h m → News g env.locals h ((D, LCg.lst ys) :: nw) → AllNe D nw → Q (.ref D) { s with heap := h, toks := tk })
    (hs : ∀ x, foldedSetIterable iter env x = pure x := by intro _; rfl) :
    wpAny (model prog w) A (eval (.ListComp elt [⟨.Name x px, iter, [], 0⟩] scope pos) env) Q E s := by
  refine LCg.ListComp_U F₀ hclos hcell hkind hnames hx (wpAny_mono hit (fun v s' hm' => ?_) fun _ _ e => e) hs
  obtain ⟨h', tk', rfl, rfl, F', N'⟩ := hm'
  have hsz : vs.toArray.size = vs.length := List.size_toArray
  refine LCg.CompSrc.ledger hh F' N' hm (by rw [hsz, sizeLine_eq]; omega) fun g₁ => ?_
  rw [hsz]
  refine compU_rest (fun i ys news => news = nw ∧ J i ys) vs.length ?_ vs.length 0 [] _ (by omega) ?_ ⟨rfl, J0⟩
  · rintro i ys news v I oI C oC D m₂ h tk E' hi ⟨rfl, hJ⟩ hv hC hx' F2 N2 off ne
    refine wpAny_mono (turn i ys v I oI C oC D m₂ h tk E' (by simpa using hv) hJ hC hx' F2 N2 off ne) (fun y s'' c => ?_) fun _ _ e => e
    obtain ⟨h2, tk2, n2, e, F3, N3, o3, _, r⟩ := (show LCg.CompEnd _ _ _ _ _ _ _ _ _ _ _ _ _ _ from c)
    exact ⟨h2, tk2, n2, e, F3, N3, o3, .inr ⟨_, r.1 ▸ hm, rfl, _, rfl⟩, r⟩
  · rintro ys news ⟨rfl, hJ⟩ D h tk F2 N2 off
    rw [Nat.zero_add] at hJ
    exact done ys D h tk hJ F2 N2 (off1_ne off)
end
/-! P9: local_calls, check_calls -/
set_option maxHeartbeats 4000000 in
theorem local_calls_c (w : World) {p : Program} {loose : List Str} {mean : ExcName → Option Value} {mg mb : Str → Option Value} {dp un : Nat} {gd : Option (List Code)} {cn : Str} {cs : Scope} {a : Addr} {ccd : Value} {cl : List (Str × Addr)} {outer : List Env} {A₀ : Around} {base h₀ : Heap} {L : Addr}
    {m : Str → Option Value} {s : Shared} {Q E : Value → Shared → Prop} {nw : List (Addr × Obj)} {v : Value} {ovs : List Value}
    (B : Below A₀ base outer h₀) (F : Fr h₀ L s.heap m) (X : (hd.heap_1 w.params).In h₀) (N : News h₀ L s.heap nw) (T : Top p loose mean mg mb h₀) (hk : cs.kind = .function) (hp : ProgIn nw v ovs) (ho : OrdsIn nw ovs) (hn : 1 ≤ ovs.length) (hn' : ovs.length ≤ 10) (hd : dp + 60 < recursionLimit) (hu : un + 2500 < cLine)
    (ret : ∀ D h' tk', Fr h₀ L h' m → News h₀ L h' ((D, LCg.lst []) :: nw) → AllNe D nw → Q (.ref D) { s with heap := h', toks := tk' }) :
    wpAny (model PySem.Challenge.rw_pq1006_01.row.prog w) (ktrTop dp un gd cn cs L a ccd cl outer) (call (.ref 827) [v]) Q E s := by
  k_with_none
  (k_with "k_all" => assumption)
  (k_with "units_room" => ktr_units)
  (k_with "k_room" => ktr_room)
  (k_with "k_units" => ktr_units)
  (k_with "cell_enter" => (refine' code_def ?q4_k1 ?q4_k2 ?q4_k3 ?q4_k4 ?q4_k5 ?q4_kA ?q4_kF ?q4_kK ?q4_k6 ?q4_k7 ?q4_k8 ?q4_k9 ?q4_kB ?_ ?q4_c2 ?q4_c3 ?q4_c4 ?q4_c5; (case q4_kA => exact rfl); (case q4_kF => exact rfl); (case q4_kK => first | assumption | exact rfl); (case q4_k1 => k_asm); (case q4_k2 => k_asm); (case q4_k3 => k_asm); (case q4_k4 => k_asm); (case q4_k5 => k_asm); (case q4_k6 => k_is); (case q4_k7 => k_is); (case q4_k8 => ktr_room); (case q4_k9 => first | exact BindsTo.of_eq (binds := [(_, _)]) rfl | exact BindsTo.of_eq rfl | exact binds_K (by k_in) rfl (by k_is) rfl rfl rfl); (case q4_c5 => decide); (case q4_kB => exact locs rfl); (case q4_c2 => exact rfl); (case q4_c3 => exact rfl); (case q4_c4 => exact rfl); k_whole; intro zg9 zL9 zh9 zFG9 zF9 zN9 zB9 zX9 zT9; (try dsimp only); (try k_lift zB9); (try k_fold)))
  (k_with "k_mem" => first | with_reducible assumption | exact List.Mem.head _ | (refine' List.Mem.tail _ ?q5_b; (case q5_b => (show (_ : Addr × Obj) ∈ (_ : List (Addr × Obj)); k_mem))))
  (k_with "k_ne" => (try dsimp only); first | with_reducible assumption | exact Ne.symm (by with_reducible assumption) | exact Nat.ne_of_lt (by with_reducible assumption) | exact Nat.ne_of_gt (by with_reducible assumption))
  (k_with "k_all" => first | exact True.intro | with_reducible assumption | exact allLt_ne (by with_reducible assumption) | exact AllNe.mem (by with_reducible assumption) | (refine' And.intro ?q7_a ?q7_b; (case q7_a => k_ne); (case q7_b => k_all)) | (refine' List.forall_mem_cons.mpr (And.intro ?q7_a ?q7_b); (case q7_a => k_ne); (case q7_b => k_all)))
  (k_with "call type:list" => (k_here; (with_reducible show wpAny _ _ (call (Value.type _) [Value.ref _]) _ _ _); k_dflt (refine' list_copyK ?q8_k1 ?q8_k2 ?q8_k3 ?_ ?q8_z; (case q8_k1 => k_asm); (case q8_k2 => k_asm); (case q8_k3 => exact News.isList (by k_asm) (by k_mem)); (case q8_z => exact size_line _ (by with_reducible assumption)); k_whole); intro zD9 zc9 zh9 zF9 zN9 zl1; (try k_lt zl1); (try k_sweep)))
  (k_with "call builtin:len" => (k_here; (with_reducible show wpAny _ _ (call (Value.builtin "len") [Value.ref _]) _ _ _); k_dflt (refine' lenL_any ?q9_N ?q9_m ?q9_l ?q9_z ?_; (case q9_N => k_asm); (case q9_m => k_mem); (case q9_l => first | with_reducible assumption | exact rfl); (case q9_z => first | with_reducible assumption | exact Nat.le_trans (by with_reducible assumption) (by decide)); k_whole)))
  (k_with "subscriptTail" => (k_here; (with_reducible show wpAny _ _ (subscriptTail _ _ (Value.ref _) (Value.int _ _)) _ _ _); k_dflt (refine' listAt ?q10_N ?q10_m ?q10_lo ?q10_hi ?q10_z ?_; (case q10_N => k_asm); (case q10_m => k_mem); (case q10_z => first | with_reducible assumption | exact Nat.le_trans (by with_reducible assumption) (by decide)); (case q10_lo => first | with_reducible assumption | omega); (case q10_hi => first | with_reducible assumption | omega); k_whole); intro zv99 zhv99))
  (k_with "ktr_room" => (simp only [depth_under_make, depth_under_kw, depth_in1, depth_deeper, ktr_depth, Nat.add_assoc]; exact room_lt (by with_reducible assumption) (by decide)))
  (k_with "ktr_units" => (simp only [units_under_make, units_deeper, units_in1, ktr_unit, Nat.add_assoc]; exact room_lt (by with_reducible assumption) (by decide)))
  (k_with "call ref" => (k_here; (with_reducible show wpAny _ _ (call (Value.ref _) [_]) _ _ _); k_dflt ((first | with_unfolding_all refine' is_wide_c _ ?q13_B ?q13_F ?q13_X ?q13_N ?q13_T ?q13_k ?q13_c ?q13_o ?q13_d ?q13_u ?_ | with_unfolding_all refine' is_local_call_c _ ?q13_B ?q13_F ?q13_X ?q13_N ?q13_T ?q13_k ?q13_c ?q13_o ?q13_d ?q13_u ?_ | with_unfolding_all refine' has_goal_c _ ?q13_B ?q13_F ?q13_X ?q13_N ?q13_T ?q13_k ?q13_c ?q13_o ?q13_d ?q13_u ?_ | with_unfolding_all refine' is_jump_c _ ?q13_B ?q13_F ?q13_X ?q13_N ?q13_T ?q13_k ?q13_c ?q13_o ?q13_d ?q13_u ?_ | with_unfolding_all refine' is_branch_c _ ?q13_B ?q13_F ?q13_X ?q13_N ?q13_T ?q13_k ?q13_c ?q13_o ?q13_d ?q13_u ?_ | with_unfolding_all refine' is_exit_c _ ?q13_B ?q13_F ?q13_X ?q13_N ?q13_T ?q13_k ?q13_c ?q13_o ?q13_d ?q13_u ?_); (case q13_k => rfl); (case q13_F => k_asm); (case q13_N => k_asm); (case q13_B => k_asm); (case q13_X => k_asm); (case q13_T => k_asm); (case q13_c => with_reducible assumption); (case q13_o => first | exact OrdIn.up (by with_reducible assumption) (by with_reducible assumption) | exact OrdIn.up (by with_reducible assumption) (by intro p hp; repeat (first | exact hp | refine List.Mem.tail _ ?_))); (case q13_d => ktr_room); (case q13_u => ktr_units); k_whole); (intro zh9 ztk9 zF9 zN9; (try dsimp only); (try k_sweep))))
  (k_with "subscriptTail" => (k_here; (with_reducible show wpAny _ _ (subscriptTail _ _ (Value.ref _) (Value.int _ _)) _ _ _); k_dflt (refine' ordAt ?q14_N ?q14_m ?q14_o ?q14_lo ?q14_hi ?q14_z ?_; (case q14_N => k_asm); (case q14_m => k_mem); (case q14_o => with_reducible assumption); (case q14_z => first | with_reducible assumption | exact Nat.le_trans (by with_reducible assumption) (by decide)); (case q14_lo => first | with_reducible assumption | exact Int.natCast_nonneg _ | omega); (case q14_hi => first | with_reducible assumption | exact Int.ofNat_lt.mpr (by with_reducible assumption) | omega); k_whole); intro zv99 zc99 zhc99 zhe99 zho99))
  (k_with "eval ListComp" => fail "here")
  revert X; k_fill; intro X
  obtain ⟨pg, pgd, ol, su, x1, x2, x3, x4, x5, y1, y2, y3, y4, y5, t4, t5, v2, v3, cap, cap2, rfl, h1, h2, h3, h4⟩ := hp
  refine wpAny_call ?_
  k_dflt (refine' code_defC ?k1 ?k2 ?k3 ?k4 ?k5 ?kA ?kF ?kK ?k6 ?k7 ?k8 ?k9 ?kB ?kD ?_ ?c2 ?c3 ?c4; (case kA => exact rfl); (case kF => exact rfl); (case kK => assumption); (case k1 => k_asm); (case k2 => k_asm); (case k3 => k_asm); (case k4 => k_asm); (case k5 => k_asm); (case k6 => k_is); (case k7 => k_is); (case k8 => ktr_room); (case k9 => exact BindsTo.of_eq rfl); (case kB => exact rfl); (case kD => decide +kernel); (case c2 => exact rfl); (case c3 => exact rfl); (case c4 => exact rfl); k_whole; intro g' L' h' tk' cells' FG' F' N' Y' B' X' T' l1; replace l1 := allLt_of l1; k_cells Y'; (try simp only [List.cons_append, List.nil_append] at N'); (try dsimp only); (try k_lift B'); (try k_fold))
  have Fs : Fr g' L' h' (fun _ => none) := by with_unfolding_all exact F'
  clear F'
  rename Obj => o1
  with_reducible rename Obj.data _ = Data.cell (bindC _ _ _ _) => d1
  have z1 := d1.trans (show Data.cell (bindC _ _ _ _) = Data.cell (some (Value.ref pg)) from by with_unfolding_all rfl)
  clear d1
  iterate 2 (first | (k_unfold; (try dsimp only)) | (k_end; wrow_close) | walk1 | (dsimp only; walk1))
  k_dflt (refine comp_listT (n := ovs.length) hn' (fun _ ys => ys = []) rfl Fs (by with_unfolding_all rfl) (by decide) (by rfl) (by decide) (by rfl) (nw := (L' + 1, o1) :: nw) ?it rfl ?turn ?done)
  case it =>
    k_steps
    with_reducible rename Fr _ _ _ (fun _ => _) => kF9
    with_reducible rename News _ _ _ (_ :: _) => kN9
    with_reducible rename IsRange _ _ _ _ _ _ _ _ => kR9
    exact ⟨_, _, _, _, _, _, rfl, rfl, kR9, kF9, kN9⟩
  case turn =>
    rintro i ys t I oI C oC D m₂ h tk E' hi rfl hC hx F2 N2 off ne
    have off9 := off
    k_steps
    with_reducible rename Fr _ _ _ (fun _ => _) => kF9
    with_reducible rename News _ _ _ (_ :: _) => kN9
    exact endY_keep kF9 kN9 (.head _) (.tail _ (.head _)) (.tail _ (.tail _ (.head _))) (fun p hp => .tail _ (.tail _ (.tail _ hp))) off9 ⟨rfl, rfl⟩
  case done =>
    rintro ys D h tk rfl F2 N2 hne
    k_steps
    with_reducible rename Fr h₀ _ _ m => kF9
    with_reducible rename News h₀ _ _ (_ :: _) => kN9
    exact ret D _ _ kF9 (News.part kN9 fun p hp => by
      rcases List.mem_cons.mp hp with rfl | hp
      · exact .head _
      · exact .tail _ (.tail _ hp)) hne.2
/-! P10: check_calls -/
set_option maxHeartbeats 4000000 in
theorem calls_c (w : World) : ProgC w 80 3500 877 := by
  k_with_none
  (k_with "k_all" => assumption)
  (k_with "units_room" => ktr_units)
  (k_with "k_room" => ktr_room)
  (k_with "k_units" => ktr_units)
  (k_with "cell_enter" => (refine' code_def ?q4_k1 ?q4_k2 ?q4_k3 ?q4_k4 ?q4_k5 ?q4_kA ?q4_kF ?q4_kK ?q4_k6 ?q4_k7 ?q4_k8 ?q4_k9 ?q4_kB ?_ ?q4_c2 ?q4_c3 ?q4_c4 ?q4_c5; (case q4_kA => exact rfl); (case q4_kF => exact rfl); (case q4_kK => first | assumption | exact rfl); (case q4_k1 => k_asm); (case q4_k2 => k_asm); (case q4_k3 => k_asm); (case q4_k4 => k_asm); (case q4_k5 => k_asm); (case q4_k6 => k_is); (case q4_k7 => k_is); (case q4_k8 => ktr_room); (case q4_k9 => first | exact BindsTo.of_eq (binds := [(_, _)]) rfl | exact BindsTo.of_eq rfl | exact binds_K (by k_in) rfl (by k_is) rfl rfl rfl); (case q4_c5 => decide); (case q4_kB => exact locs rfl); (case q4_c2 => exact rfl); (case q4_c3 => exact rfl); (case q4_c4 => exact rfl); k_whole; intro zg9 zL9 zh9 zFG9 zF9 zN9 zB9 zX9 zT9; (try dsimp only); (try k_lift zB9); (try k_fold)))
  (k_with "k_mem" => first | with_reducible assumption | exact List.Mem.head _ | (refine' List.Mem.tail _ ?q5_b; (case q5_b => (show (_ : Addr × Obj) ∈ (_ : List (Addr × Obj)); k_mem))))
  (k_with "k_ne" => (try dsimp only); first | with_reducible assumption | exact Ne.symm (by with_reducible assumption) | exact Nat.ne_of_lt (by with_reducible assumption) | exact Nat.ne_of_gt (by with_reducible assumption))
  (k_with "k_all" => first | exact True.intro | with_reducible assumption | exact allLt_ne (by with_reducible assumption) | exact AllNe.mem (by with_reducible assumption) | (refine' And.intro ?q7_a ?q7_b; (case q7_a => k_ne); (case q7_b => k_all)) | (refine' List.forall_mem_cons.mpr (And.intro ?q7_a ?q7_b); (case q7_a => k_ne); (case q7_b => k_all)))
  (k_with "call type:list" => (k_here; (with_reducible show wpAny _ _ (call (Value.type _) [Value.ref _]) _ _ _); k_dflt (refine' list_copyK ?q8_k1 ?q8_k2 ?q8_k3 ?_ ?q8_z; (case q8_k1 => k_asm); (case q8_k2 => k_asm); (case q8_k3 => exact News.isList (by k_asm) (by k_mem)); (case q8_z => exact size_line _ (by with_reducible assumption)); k_whole); intro zD9 zc9 zh9 zF9 zN9 zl1; (try k_lt zl1); (try k_sweep)))
  (k_with "call builtin:len" => (k_here; (with_reducible show wpAny _ _ (call (Value.builtin "len") [Value.ref _]) _ _ _); k_dflt (refine' lenL_any ?q9_N ?q9_m ?q9_l ?q9_z ?_; (case q9_N => k_asm); (case q9_m => k_mem); (case q9_l => first | with_reducible assumption | exact rfl); (case q9_z => first | with_reducible assumption | exact Nat.le_trans (by with_reducible assumption) (by decide)); k_whole)))
  (k_with "subscriptTail" => (k_here; (with_reducible show wpAny _ _ (subscriptTail _ _ (Value.ref _) (Value.int _ _)) _ _ _); k_dflt (refine' listAt ?q10_N ?q10_m ?q10_lo ?q10_hi ?q10_z ?_; (case q10_N => k_asm); (case q10_m => k_mem); (case q10_z => first | with_reducible assumption | exact Nat.le_trans (by with_reducible assumption) (by decide)); (case q10_lo => first | with_reducible assumption | omega); (case q10_hi => first | with_reducible assumption | omega); k_whole); intro zv99 zhv99))
  (k_with "ktr_room" => (simp only [depth_under_make, depth_under_kw, depth_in1, depth_deeper, ktr_depth, Nat.add_assoc]; exact room_lt (by with_reducible assumption) (by decide)))
  (k_with "ktr_units" => (simp only [units_under_make, units_deeper, units_in1, ktr_unit, Nat.add_assoc]; exact room_lt (by with_reducible assumption) (by decide)))
  (k_with "call ref" => (k_here; (with_reducible show wpAny _ _ (call (Value.ref 827) [_]) _ _ _); k_dflt (with_unfolding_all refine' local_calls_c _ ?q13_B ?q13_F ?q13_X ?q13_N ?q13_T ?q13_k ?q13_p ?q13_o ?q13_n1 ?q13_n2 ?q13_d ?q13_u ?_; (case q13_k => rfl); (case q13_F => k_asm); (case q13_N => k_asm); (case q13_B => k_asm); (case q13_X => k_asm); (case q13_T => k_asm); (case q13_p => with_reducible assumption); (case q13_o => with_reducible assumption); (case q13_n1 => with_reducible assumption); (case q13_n2 => with_reducible assumption); (case q13_d => ktr_room); (case q13_u => ktr_units); k_whole); (intro zD9 zh9 ztk9 zF9 zN9 zl1; (try k_sweep))))
  intro p loose mean mg mb dp un gd cn cs a ccd cl outer A₀ base h₀ L m s Q E nw v ovs B F X N T hk hp ho hn hn' hd hu ret
  revert X; k_fill; intro X
  refine wpAny_call ?_
  k_dflt cell_enter
  k_steps
  with_reducible rename Fr h₀ _ _ m => kF9
  with_reducible rename News h₀ _ _ (_ :: _) => kN9
  exact ret _ _ kF9 (News.part kN9 fun p hp => .tail _ hp)
/-! P11: check_reached, given reachable -/
def ReachC (w : World) : Prop :=
  ∀ {p : Program} {loose : List Str} {mean : ExcName → Option Value} {mg mb : Str → Option Value} {dp un : Nat} {gd : Option (List Code)} {cn : Str} {cs : Scope} {a : Addr} {ccd : Value} {cl : List (Str × Addr)} {outer : List Env} {A₀ : Around} {base h₀ : Heap} {L : Addr}
    {m : Str → Option Value} {s : Shared} {Q E : Value → Shared → Prop} {nw : List (Addr × Obj)} {v : Value} {ovs : List Value},
    Below A₀ base outer h₀ → Fr h₀ L s.heap m → (hd.heap_1 w.params).In h₀ → News h₀ L s.heap nw → Top p loose mean mg mb h₀ → cs.kind = .function → ProgIn nw v ovs → OrdsIn nw ovs → 1 ≤ ovs.length → ovs.length ≤ 10 → dp + 80 < recursionLimit → un + 3500 < cLine →
    (∀ (D : Addr) (vs : List Value) (c : Nat) (h' : Heap) (tk' : Nat), vs.length = ovs.length → (∀ (i : Nat) (v : Value), vs[i]? = some v → ∃ t, v = .int (i : Int) t) → Fr h₀ L h' m → News h₀ L h' ((D, W.listOf vs.toArray c) :: nw) → AllNe D nw → Q (.ref D) { s with heap := h', toks := tk' }) →
    wpAny (model PySem.Challenge.rw_pq1006_01.row.prog w) (ktrTop dp un gd cn cs L a ccd cl outer) (call (.ref 832) [v]) Q E s
section
variable {prog : Program} {w : World} {A : Around} {E : Value → Shared → Prop} {s : Shared} {h₀ : Heap} {L : Addr} {news : List (Addr × Obj)} {a : Addr} {vs : List Value} {cap : Nat} {Q : Value → Shared → Prop}
theorem selfAt {value slice : Expr} {k : Int} {u : Tok} (N : News h₀ L s.heap news) (hm : (a, W.listOf vs.toArray cap) ∈ news) (hi : ∀ (i : Nat) (v : Value), vs[i]? = some v → ∃ t, v = .int (i : Int) t) (h0 : 0 ≤ k) (h1 : k < vs.length) (hz : vs.length ≤ 100)
    (h : ∀ t, Q (.int k t) s)
    (hs : subscripted slice false (.ref a) (.int k u) = operate [.ref a, .int k u] (getItem (.ref a) (.int k u)) := by with_unfolding_all rfl) :
    wpAny (model prog w) A (subscriptTail value slice (.ref a) (.int k u)) Q E s :=
  listAt N hm h0 h1 hz (fun v hv => by
    obtain ⟨t, rfl⟩ := hi _ _ hv
    have e : ((k.toNat : Nat) : Int) = k := by omega
    rw [e]
    exact h t) hs
end
set_option maxHeartbeats 4000000 in
theorem reached_c (w : World) (hR : ReachC w) : ProgC w 90 4000 870 := by
  k_with_none
  (k_with "k_all" => assumption)
  (k_with "units_room" => ktr_units)
  (k_with "k_room" => ktr_room)
  (k_with "k_units" => ktr_units)
  (k_with "cell_enter" => (refine' code_def ?q4_k1 ?q4_k2 ?q4_k3 ?q4_k4 ?q4_k5 ?q4_kA ?q4_kF ?q4_kK ?q4_k6 ?q4_k7 ?q4_k8 ?q4_k9 ?q4_kB ?_ ?q4_c2 ?q4_c3 ?q4_c4 ?q4_c5; (case q4_kA => exact rfl); (case q4_kF => exact rfl); (case q4_kK => first | assumption | exact rfl); (case q4_k1 => k_asm); (case q4_k2 => k_asm); (case q4_k3 => k_asm); (case q4_k4 => k_asm); (case q4_k5 => k_asm); (case q4_k6 => k_is); (case q4_k7 => k_is); (case q4_k8 => ktr_room); (case q4_k9 => first | exact BindsTo.of_eq (binds := [(_, _)]) rfl | exact BindsTo.of_eq rfl | exact binds_K (by k_in) rfl (by k_is) rfl rfl rfl); (case q4_c5 => decide); (case q4_kB => exact locs rfl); (case q4_c2 => exact rfl); (case q4_c3 => exact rfl); (case q4_c4 => exact rfl); k_whole; intro zg9 zL9 zh9 zFG9 zF9 zN9 zB9 zX9 zT9; (try dsimp only); (try k_lift zB9); (try k_fold)))
  (k_with "k_mem" => first | with_reducible assumption | exact List.Mem.head _ | (refine' List.Mem.tail _ ?q5_b; (case q5_b => (show (_ : Addr × Obj) ∈ (_ : List (Addr × Obj)); k_mem))))
  (k_with "k_ne" => (try dsimp only); first | with_reducible assumption | exact Ne.symm (by with_reducible assumption) | exact Nat.ne_of_lt (by with_reducible assumption) | exact Nat.ne_of_gt (by with_reducible assumption))
  (k_with "k_all" => first | exact True.intro | with_reducible assumption | exact allLt_ne (by with_reducible assumption) | exact AllNe.mem (by with_reducible assumption) | (refine' And.intro ?q7_a ?q7_b; (case q7_a => k_ne); (case q7_b => k_all)) | (refine' List.forall_mem_cons.mpr (And.intro ?q7_a ?q7_b); (case q7_a => k_ne); (case q7_b => k_all)))
  (k_with "call type:list" => (k_here; (with_reducible show wpAny _ _ (call (Value.type _) [Value.ref _]) _ _ _); k_dflt (refine' list_copyK ?q8_k1 ?q8_k2 ?q8_k3 ?_ ?q8_z; (case q8_k1 => k_asm); (case q8_k2 => k_asm); (case q8_k3 => exact News.isList (by k_asm) (by k_mem)); (case q8_z => exact size_line _ (by with_reducible assumption)); k_whole); intro zD9 zc9 zh9 zF9 zN9 zl1; (try k_lt zl1); (try k_sweep)))
  (k_with "call builtin:len" => (k_here; (with_reducible show wpAny _ _ (call (Value.builtin "len") [Value.ref _]) _ _ _); k_dflt (refine' lenL_any ?q9_N ?q9_m ?q9_l ?q9_z ?_; (case q9_N => k_asm); (case q9_m => k_mem); (case q9_l => first | with_reducible assumption | exact rfl); (case q9_z => first | with_reducible assumption | exact Nat.le_trans (by with_reducible assumption) (by decide)); k_whole)))
  (k_with "subscriptTail" => (k_here; (with_reducible show wpAny _ _ (subscriptTail _ _ (Value.ref _) (Value.int _ _)) _ _ _); k_dflt (refine' listAt ?q10_N ?q10_m ?q10_lo ?q10_hi ?q10_z ?_; (case q10_N => k_asm); (case q10_m => k_mem); (case q10_z => first | with_reducible assumption | exact Nat.le_trans (by with_reducible assumption) (by decide)); (case q10_lo => first | with_reducible assumption | omega); (case q10_hi => first | with_reducible assumption | omega); k_whole); intro zv99 zhv99))
  (k_with "ktr_room" => (simp only [depth_under_make, depth_under_kw, depth_in1, depth_deeper, ktr_depth, Nat.add_assoc]; exact room_lt (by with_reducible assumption) (by decide)))
  (k_with "ktr_units" => (simp only [units_under_make, units_deeper, units_in1, ktr_unit, Nat.add_assoc]; exact room_lt (by with_reducible assumption) (by decide)))
  (k_with "exec For Name Call cons nil" => (k_here; (rename Fr _ _ _ _ => zlF9); (with_unfolding_all refine' For_turns zlF9 ?_; k_whole)))
  (k_with "last exec For" => (k_here; (rename Fr _ _ _ _ => zlF9); (with_unfolding_all refine' For_turns zlF9 ?_; k_whole)))
  (k_with "subscriptTail" => (k_here; (with_reducible show wpAny _ _ (subscriptTail _ _ (Value.ref _) (Value.int _ _)) _ _ _); k_dflt (refine' selfAt ?q15_N ?q15_m ?q15_i ?q15_lo ?q15_hi ?q15_z ?_; (case q15_N => k_asm); (case q15_m => k_mem); (case q15_i => with_reducible assumption); (case q15_z => first | with_reducible assumption | omega); (case q15_lo => first | with_reducible assumption | exact Int.natCast_nonneg _ | omega); (case q15_hi => first | with_reducible assumption | omega); k_whole); intro zt99))
  (k_with "call ref" => (k_here; (with_reducible show wpAny _ _ (call (Value.ref 832) [_]) _ _ _); k_dflt ((rename ReachC _ => zhR99); (with_unfolding_all refine' zhR99 ?q16_B ?q16_F ?q16_X ?q16_N ?q16_T ?q16_k ?q16_p ?q16_o ?q16_n1 ?q16_n2 ?q16_d ?q16_u ?_); (case q16_k => rfl); (case q16_F => k_asm); (case q16_N => k_asm); (case q16_B => k_asm); (case q16_X => k_asm); (case q16_T => k_asm); (case q16_p => with_reducible assumption); (case q16_o => with_reducible assumption); (case q16_n1 => with_reducible assumption); (case q16_n2 => with_reducible assumption); (case q16_d => ktr_room); (case q16_u => ktr_units); k_whole); (intro zD9 zvs9 zc9 zh9 ztk9 zhv19 zhv29 zF9 zN9 zl1; (have zhv39 : zvs9.length ≤ 100 := by omega); (try k_sweep))))
  intro p loose mean mg mb dp un gd cn cs a ccd cl outer A₀ base h₀ L m s Q E nw v ovs B F X N T hk hp ho hn hn' hd hu ret
  revert X; k_fill; intro X
  have hp9 := hp
  obtain ⟨pg, pgd, ol, su, x1, x2, x3, x4, x5, y1, y2, y3, y4, y5, t4, t5, v2, v3, cap, cap2, rfl, h1, h2, h3, h4⟩ := hp9
  refine wpAny_call ?_
  k_dflt cell_enter
  k_steps
  with_reducible rename Fr _ _ _ (fun _ => _) => kF
  with_reducible rename News _ _ _ (_ :: nw) => kN
  refine' range_inv ["at"] (fun _ _ => True) rfl ?hr ?hn kF kN trivial ?turn ?done
  case hr => assumption
  case hn => omega
  case turn =>
    intro i ti u2 hp2 tk2 nw2 hi _ hsub F3 N3
    have e3 := hsub _ (List.Mem.head _)
    clear kF kN
    k_steps
    all_goals first
      | (with_reducible rename Fr _ _ _ (fun _ => _) => kF9
         with_reducible rename News _ _ _ nw2 => kN9
         exact ⟨_, _, _, rfl, kF9, kN9, fun y hy => keep_if (st_ne hy (by decide)) (stB_out hy), trivial⟩)
      | (exfalso
         with_reducible rename @Ne Int _ _ => hq9
         exact hq9 rfl)
  case done =>
    intro u2 hp2 tk2 _ F3 N3
    clear kF kN
    k_steps
    with_reducible rename Fr h₀ _ _ m => kF9
    with_reducible rename News h₀ _ _ (_ :: _) => kN9
    exact ret _ _ kF9 (News.part kN9 fun p hp => .tail _ hp)
/-! P12: check_program, given reachable -/
theorem apart_of {g h : Heap} {L : Addr} {rest nw : List (Addr × Obj)} (G : ∀ q ∈ rest, g.get? q.1 = some q.2) (N : News g L h nw) : Apart rest nw := fun p hp q hq e => by
  have h1 := (N q hq).2.2
  have h2 := G p hp
  rw [e, h1] at h2
  cases h2
set_option maxHeartbeats 4000000 in
theorem checkp_c (w : World) (hR : ReachC w) {p : Program} {loose : List Str} {mean : ExcName → Option Value} {mg mb : Str → Option Value}
  {dp un : Nat} {gd : Option (List Code)} {cn : Str} {cs : Scope} {a : Addr} {ccd : Value} {cl : List (Str × Addr)} {outer : List Env} {A₀ : Around} {base h₀ : Heap} {L : Addr} {m : Str → Option Value} {s : Shared} {Q E : Value → Shared → Prop}
  {al : Addr} {cap0 : Nat} {ovs : List Value} {nw rest : List (Addr × Obj)}
  (B : Below A₀ base outer h₀) (F : Fr h₀ L s.heap m) (X : (hd.heap_1 w.params).In h₀) (N : News h₀ L s.heap nw) (M : News h₀ L s.heap rest) (off : Apart rest nw) (T : Top p loose mean mg mb h₀) (hk : cs.kind = .function)
  (hm : (al, W.listOf ovs.toArray cap0) ∈ nw) (ho : OrdsIn nw ovs) (hn : 1 ≤ ovs.length) (hn' : ovs.length ≤ 10)
  (hd : dp + 110 < recursionLimit) (hu : un + 4500 < cLine)
  (ret : ∀ pg nw' h' tk', (∀ p ∈ nw, p ∈ nw') → Apart rest nw' → ProgIn nw' (.ref pg) ovs → Fr h₀ L h' m → News h₀ L h' nw' → News h₀ L h' rest → Q (.ref pg) { s with heap := h', toks := tk' }) :
  wpAny (model PySem.Challenge.rw_pq1006_01.row.prog w) (ktrTop dp un gd cn cs L a ccd cl outer) (call (.ref 885) [.ref al]) Q E s := by
  k_with_none
  (k_with "k_all" => assumption)
  (k_with "units_room" => ktr_units)
  (k_with "k_room" => ktr_room)
  (k_with "k_units" => ktr_units)
  (k_with "cell_enter" => (refine' code_def ?q4_k1 ?q4_k2 ?q4_k3 ?q4_k4 ?q4_k5 ?q4_kA ?q4_kF ?q4_kK ?q4_k6 ?q4_k7 ?q4_k8 ?q4_k9 ?q4_kB ?_ ?q4_c2 ?q4_c3 ?q4_c4 ?q4_c5; (case q4_kA => exact rfl); (case q4_kF => exact rfl); (case q4_kK => first | assumption | exact rfl); (case q4_k1 => k_asm); (case q4_k2 => k_asm); (case q4_k3 => k_asm); (case q4_k4 => k_asm); (case q4_k5 => k_asm); (case q4_k6 => k_is); (case q4_k7 => k_is); (case q4_k8 => ktr_room); (case q4_k9 => first | exact binds_K (binds := [(_, _), (_, _)]) (by k_in) rfl (by k_is) rfl rfl rfl | exact BindsTo.of_eq rfl | exact binds_K (by k_in) rfl (by k_is) rfl rfl rfl); (case q4_c5 => decide); (case q4_kB => exact locs rfl); (case q4_c2 => exact rfl); (case q4_c3 => exact rfl); (case q4_c4 => exact rfl); k_whole; intro zg9 zL9 zh9 zFG9 zF9 zN9 zB9 zX9 zT9; (try dsimp only); (try k_lift zB9); (try k_fold)))
  (k_with "k_mem" => first | with_reducible assumption | exact List.Mem.head _ | (refine' List.Mem.tail _ ?q5_b; (case q5_b => (show (_ : Addr × Obj) ∈ (_ : List (Addr × Obj)); k_mem))))
  (k_with "k_ne" => (try dsimp only); first | with_reducible assumption | exact Ne.symm (by with_reducible assumption) | exact Nat.ne_of_lt (by with_reducible assumption) | exact Nat.ne_of_gt (by with_reducible assumption))
  (k_with "k_all" => first | exact True.intro | with_reducible assumption | exact allLt_ne (by with_reducible assumption) | exact AllNe.mem (by with_reducible assumption) | (refine' And.intro ?q7_a ?q7_b; (case q7_a => k_ne); (case q7_b => k_all)) | (refine' List.forall_mem_cons.mpr (And.intro ?q7_a ?q7_b); (case q7_a => k_ne); (case q7_b => k_all)))
  (k_with "call type:list" => (k_here; (with_reducible show wpAny _ _ (call (Value.type _) [Value.ref _]) _ _ _); k_dflt (refine' list_copyK ?q8_k1 ?q8_k2 ?q8_k3 ?_ ?q8_z; (case q8_k1 => k_asm); (case q8_k2 => k_asm); (case q8_k3 => exact News.isList (by k_asm) (by k_mem)); (case q8_z => exact size_line _ (by with_reducible assumption)); k_whole); intro zD9 zc9 zh9 zF9 zN9 zl1; (try k_lt zl1); (try k_sweep)))
  (k_with "call builtin:len" => (k_here; (with_reducible show wpAny _ _ (call (Value.builtin "len") [Value.ref _]) _ _ _); k_dflt (refine' lenL_any ?q9_N ?q9_m ?q9_l ?q9_z ?_; (case q9_N => k_asm); (case q9_m => k_mem); (case q9_l => first | with_reducible assumption | exact rfl); (case q9_z => first | with_reducible assumption | exact Nat.le_trans (by with_reducible assumption) (by decide)); k_whole)))
  (k_with "subscriptTail" => (k_here; (with_reducible show wpAny _ _ (subscriptTail _ _ (Value.ref _) (Value.int _ _)) _ _ _); k_dflt (refine' listAt ?q10_N ?q10_m ?q10_lo ?q10_hi ?q10_z ?_; (case q10_N => k_asm); (case q10_m => k_mem); (case q10_z => first | with_reducible assumption | exact Nat.le_trans (by with_reducible assumption) (by decide)); (case q10_lo => first | with_reducible assumption | omega); (case q10_hi => first | with_reducible assumption | omega); k_whole); intro zv99 zhv99))
  (k_with "ktr_room" => (simp only [depth_under_make, depth_under_kw, depth_in1, depth_deeper, ktr_depth, Nat.add_assoc]; exact room_lt (by with_reducible assumption) (by decide)))
  (k_with "ktr_units" => (simp only [units_under_make, units_deeper, units_in1, ktr_unit, Nat.add_assoc]; exact room_lt (by with_reducible assumption) (by decide)))
  (k_with "call ref" => (k_here; (with_reducible show wpAny _ _ (call (Value.ref _) [_]) _ _ _); k_dflt ((first | with_unfolding_all refine' goals_c _ ?q13_B ?q13_F ?q13_X ?q13_N ?q13_T ?q13_k ?q13_p ?q13_o ?q13_n1 ?q13_n2 ?q13_d ?q13_u ?_ | with_unfolding_all refine' ends_c _ ?q13_B ?q13_F ?q13_X ?q13_N ?q13_T ?q13_k ?q13_p ?q13_o ?q13_n1 ?q13_n2 ?q13_d ?q13_u ?_ | with_unfolding_all refine' calls_c _ ?q13_B ?q13_F ?q13_X ?q13_N ?q13_T ?q13_k ?q13_p ?q13_o ?q13_n1 ?q13_n2 ?q13_d ?q13_u ?_ | with_unfolding_all refine' reached_c _ (by assumption) ?q13_B ?q13_F ?q13_X ?q13_N ?q13_T ?q13_k ?q13_p ?q13_o ?q13_n1 ?q13_n2 ?q13_d ?q13_u ?_); (case q13_k => rfl); (case q13_F => k_asm); (case q13_N => k_asm); (case q13_B => k_asm); (case q13_X => k_asm); (case q13_T => k_asm); (case q13_p => with_reducible assumption); (case q13_o => with_reducible assumption); (case q13_n1 => with_reducible assumption); (case q13_n2 => with_reducible assumption); (case q13_d => ktr_room); (case q13_u => ktr_units); k_whole); (intro zh9 ztk9 zF9 zN9; (try k_sweep))))
  (k_with "call ref" => (k_here; (with_reducible show wpAny _ _ (call (Value.ref 804) [_]) _ _ _); k_dflt ((with_unfolding_all refine' program_c _ ?q14_B ?q14_F ?q14_X ?q14_N ?q14_T ?q14_k ?q14_p ?q14_o ?q14_n1 ?q14_n2 ?q14_d ?q14_u ?_); (case q14_k => rfl); (case q14_F => k_asm); (case q14_N => k_asm); (case q14_B => k_asm); (case q14_X => k_asm); (case q14_T => k_asm); (case q14_p => k_mem); (case q14_o => with_reducible assumption); (case q14_n1 => with_reducible assumption); (case q14_n2 => with_reducible assumption); (case q14_d => ktr_room); (case q14_u => ktr_units); k_whole); (intro zpg9 znw9 zh9 ztk9 zhsub9 zhp9 zF9 zN9; (have zhap9 := apart_of (by with_reducible assumption) zN9); (have zhp29 := zhp9); (have zho29 := OrdsIn.mono zhsub9 (by with_reducible assumption)); (obtain ⟨pg2, pgd, ol, su, x1, x2, x3, x4, x5, y1, y2, y3, y4, y5, t4, t5, v2, v3, cap, cap2, ze19, zh19, zh29, zh39, zh49⟩ := zhp29; (cases ze19)))))
  revert X; k_fill; intro X
  refine wpAny_call ?_
  k_dflt (refine' code_defR B F X N M off T ?kA ?kF ?kK ?k6 ?k7 ?k8 ?k9 ?kB ?_ ?c2 ?c3 ?c4 ?c5; (case kA => exact rfl); (case kF => exact rfl); (case kK => exact hk); (case k6 => k_is); (case k7 => k_is); (case k8 => ktr_room); (case k9 => first | exact BindsTo.of_eq rfl | exact binds_K (by k_in) rfl (by k_is) rfl rfl rfl); (case kB => exact locs rfl); (case c2 => exact rfl); (case c3 => exact rfl); (case c4 => exact rfl); (case c5 => decide); k_whole)
  intro g' L' h' FG' F' N' B' X' T' G'
  dsimp only
  k_fold
  k_steps
  all_goals first
    | (exfalso
       omega)
    | (with_reducible rename Fr h₀ _ _ m => kF9
       with_reducible rename News h₀ _ _ rest => kR9
       revert kR9
       with_reducible rename News h₀ _ _ _ => kN9
       intro kR9
       exact ret _ _ _ _ (by with_reducible assumption) (by with_reducible assumption) (by with_reducible assumption) kF9 kN9 kR9)
/-! P14: successors -/
set_option maxHeartbeats 4000000 in
theorem succ_c (w : World) {p : Program} {loose : List Str} {mean : ExcName → Option Value} {mg mb : Str → Option Value} {dp un : Nat} {gd : Option (List Code)} {cn : Str} {cs : Scope} {a : Addr} {ccd : Value} {cl : List (Str × Addr)} {outer : List Env} {A₀ : Around} {base h₀ : Heap} {L : Addr}
    {m : Str → Option Value} {s : Shared} {Q E : Value → Shared → Prop} {nw : List (Addr × Obj)} {v : Value} {ovs : List Value} {k : Int} {t : Tok}
    (B : Below A₀ base outer h₀) (F : Fr h₀ L s.heap m) (X : (hd.heap_1 w.params).In h₀) (N : News h₀ L s.heap nw) (T : Top p loose mean mg mb h₀) (hk : cs.kind = .function) (hp : ProgIn nw v ovs) (ho : OrdsIn nw ovs) (h0 : 0 ≤ k) (h1 : k < ovs.length) (hn' : ovs.length ≤ 10) (hd : dp + 60 < recursionLimit) (hu : un + 2500 < cLine)
    (ret0 : ∀ D c h' tk', k + 1 = ovs.length → Fr h₀ L h' m → News h₀ L h' ((D, W.listOf #[] c) :: nw) → AllNe D nw → Q (.ref D) { s with heap := h', toks := tk' })
    (ret1 : ∀ D c t h' tk', k + 1 < ovs.length → Fr h₀ L h' m → News h₀ L h' ((D, W.listOf #[.int (k + 1) t] c) :: nw) → AllNe D nw → Q (.ref D) { s with heap := h', toks := tk' }) :
    wpAny (model PySem.Challenge.rw_pq1006_01.row.prog w) (ktrTop dp un gd cn cs L a ccd cl outer) (call (.ref 822) [v, .int k t]) Q E s := by
  k_with_none
  (k_with "k_all" => assumption)
  (k_with "units_room" => ktr_units)
  (k_with "k_room" => ktr_room)
  (k_with "k_units" => ktr_units)
  (k_with "cell_enter" => (refine' code_def ?q4_k1 ?q4_k2 ?q4_k3 ?q4_k4 ?q4_k5 ?q4_kA ?q4_kF ?q4_kK ?q4_k6 ?q4_k7 ?q4_k8 ?q4_k9 ?q4_kB ?_ ?q4_c2 ?q4_c3 ?q4_c4 ?q4_c5; (case q4_kA => exact rfl); (case q4_kF => exact rfl); (case q4_kK => first | assumption | exact rfl); (case q4_k1 => k_asm); (case q4_k2 => k_asm); (case q4_k3 => k_asm); (case q4_k4 => k_asm); (case q4_k5 => k_asm); (case q4_k6 => k_is); (case q4_k7 => k_is); (case q4_k8 => ktr_room); (case q4_k9 => first | exact BindsTo.of_eq (binds := [(_, _), (_, _)]) rfl | exact BindsTo.of_eq rfl | exact binds_K (by k_in) rfl (by k_is) rfl rfl rfl); (case q4_c5 => decide); (case q4_kB => exact locs rfl); (case q4_c2 => exact rfl); (case q4_c3 => exact rfl); (case q4_c4 => exact rfl); k_whole; intro zg9 zL9 zh9 zFG9 zF9 zN9 zB9 zX9 zT9; (try dsimp only); (try k_lift zB9); (try k_fold)))
  (k_with "k_mem" => first | with_reducible assumption | exact List.Mem.head _ | (refine' List.Mem.tail _ ?q5_b; (case q5_b => (show (_ : Addr × Obj) ∈ (_ : List (Addr × Obj)); k_mem))))
  (k_with "k_ne" => (try dsimp only); first | with_reducible assumption | exact Ne.symm (by with_reducible assumption) | exact Nat.ne_of_lt (by with_reducible assumption) | exact Nat.ne_of_gt (by with_reducible assumption))
  (k_with "k_all" => first | exact True.intro | with_reducible assumption | exact allLt_ne (by with_reducible assumption) | exact AllNe.mem (by with_reducible assumption) | (refine' And.intro ?q7_a ?q7_b; (case q7_a => k_ne); (case q7_b => k_all)) | (refine' List.forall_mem_cons.mpr (And.intro ?q7_a ?q7_b); (case q7_a => k_ne); (case q7_b => k_all)))
  (k_with "call type:list" => (k_here; (with_reducible show wpAny _ _ (call (Value.type _) [Value.ref _]) _ _ _); k_dflt (refine' list_copyK ?q8_k1 ?q8_k2 ?q8_k3 ?_ ?q8_z; (case q8_k1 => k_asm); (case q8_k2 => k_asm); (case q8_k3 => exact News.isList (by k_asm) (by k_mem)); (case q8_z => exact size_line _ (by with_reducible assumption)); k_whole); intro zD9 zc9 zh9 zF9 zN9 zl1; (try k_lt zl1); (try k_sweep)))
  (k_with "call builtin:len" => (k_here; (with_reducible show wpAny _ _ (call (Value.builtin "len") [Value.ref _]) _ _ _); k_dflt (refine' lenL_any ?q9_N ?q9_m ?q9_l ?q9_z ?_; (case q9_N => k_asm); (case q9_m => k_mem); (case q9_l => first | with_reducible assumption | exact rfl); (case q9_z => first | with_reducible assumption | exact Nat.le_trans (by with_reducible assumption) (by decide)); k_whole)))
  (k_with "subscriptTail" => (k_here; (with_reducible show wpAny _ _ (subscriptTail _ _ (Value.ref _) (Value.int _ _)) _ _ _); k_dflt (refine' listAt ?q10_N ?q10_m ?q10_lo ?q10_hi ?q10_z ?_; (case q10_N => k_asm); (case q10_m => k_mem); (case q10_z => first | with_reducible assumption | exact Nat.le_trans (by with_reducible assumption) (by decide)); (case q10_lo => first | with_reducible assumption | omega); (case q10_hi => first | with_reducible assumption | omega); k_whole); intro zv99 zhv99))
  (k_with "ktr_room" => (simp only [depth_under_make, depth_under_kw, depth_in1, depth_deeper, ktr_depth, Nat.add_assoc]; exact room_lt (by with_reducible assumption) (by decide)))
  (k_with "ktr_units" => (simp only [units_under_make, units_deeper, units_in1, ktr_unit, Nat.add_assoc]; exact room_lt (by with_reducible assumption) (by decide)))
  (k_with "call ref" => (k_here; (with_reducible show wpAny _ _ (call (Value.ref _) [_]) _ _ _); k_dflt ((first | with_unfolding_all refine' is_wide_c _ ?q13_B ?q13_F ?q13_X ?q13_N ?q13_T ?q13_k ?q13_c ?q13_o ?q13_d ?q13_u ?_ | with_unfolding_all refine' is_local_call_c _ ?q13_B ?q13_F ?q13_X ?q13_N ?q13_T ?q13_k ?q13_c ?q13_o ?q13_d ?q13_u ?_ | with_unfolding_all refine' has_goal_c _ ?q13_B ?q13_F ?q13_X ?q13_N ?q13_T ?q13_k ?q13_c ?q13_o ?q13_d ?q13_u ?_ | with_unfolding_all refine' is_jump_c _ ?q13_B ?q13_F ?q13_X ?q13_N ?q13_T ?q13_k ?q13_c ?q13_o ?q13_d ?q13_u ?_ | with_unfolding_all refine' is_branch_c _ ?q13_B ?q13_F ?q13_X ?q13_N ?q13_T ?q13_k ?q13_c ?q13_o ?q13_d ?q13_u ?_ | with_unfolding_all refine' is_exit_c _ ?q13_B ?q13_F ?q13_X ?q13_N ?q13_T ?q13_k ?q13_c ?q13_o ?q13_d ?q13_u ?_); (case q13_k => rfl); (case q13_F => k_asm); (case q13_N => k_asm); (case q13_B => k_asm); (case q13_X => k_asm); (case q13_T => k_asm); (case q13_c => with_reducible assumption); (case q13_o => first | exact OrdIn.up (by with_reducible assumption) (by with_reducible assumption) | exact OrdIn.up (by with_reducible assumption) (by intro p hp; repeat (first | exact hp | refine List.Mem.tail _ ?_))); (case q13_d => ktr_room); (case q13_u => ktr_units); k_whole); (intro zh9 ztk9 zF9 zN9; (try dsimp only); (try k_sweep))))
  (k_with "subscriptTail" => (k_here; (with_reducible show wpAny _ _ (subscriptTail _ _ (Value.ref _) (Value.int _ _)) _ _ _); k_dflt (refine' ordAt ?q14_N ?q14_m ?q14_o ?q14_lo ?q14_hi ?q14_z ?_; (case q14_N => k_asm); (case q14_m => k_mem); (case q14_o => with_reducible assumption); (case q14_z => first | with_reducible assumption | exact Nat.le_trans (by with_reducible assumption) (by decide)); (case q14_lo => first | with_reducible assumption | exact Int.natCast_nonneg _ | omega); (case q14_hi => first | with_reducible assumption | exact Int.ofNat_lt.mpr (by with_reducible assumption) | omega); k_whole); intro zv99 zc99 zhc99 zhe99 zho99))
  revert X; k_fill; intro X
  have hp9 := hp
  obtain ⟨pg, pgd, ol, su, x1, x2, x3, x4, x5, y1, y2, y3, y4, y5, t4, t5, v2, v3, cap, cap2, rfl, h1', h2, h3, h4⟩ := hp9
  refine wpAny_call ?_
  k_dflt cell_enter
  k_steps
  · with_reducible rename _ = (149 : Int) => e9
    with_reducible rename _ ↔ _ => q9
    with_reducible rename Fr h₀ _ _ m => kF9
    with_reducible rename News h₀ _ _ (_ :: _) => kN9
    with_reducible rename AllLt _ nw => l9
    exact ret0 _ _ _ _ (q9.mp e9) kF9 kN9 (AllNe.of fun p hp => Nat.ne_of_lt (allLt_mem l9 p hp))
  · with_reducible rename _ ≠ (149 : Int) => e9
    with_reducible rename _ ↔ _ => q9
    with_reducible rename Fr h₀ _ _ m => kF9
    with_reducible rename News h₀ _ _ (_ :: _) => kN9
    have : k + 1 < ovs.length := by
      have := fun e => e9 (q9.mpr e)
      omega
    with_reducible rename AllLt _ nw => l9
    exact ret1 _ _ _ _ _ this kF9 kN9 (AllNe.of fun p hp => Nat.ne_of_lt (allLt_mem l9 p hp))
/-! R14: a cell of the frame's own is stored into -/
section
variable {M : Model} {A : Around} {E : Value → Shared → Prop} {s : Shared} {h₀ : Heap} {L a : Addr} {m : Str → Option Value} {cn : Str} {cs : Scope} {ccd : Value} {cl : List (Str × Addr)}
  {x : Str} {v : Value} {led rest : List (Addr × Obj)} {c : Addr} {o : Obj} {v₀ : Option Value}
theorem storeName_cellR {env : Env} {Q : Unit → Shared → Prop} (F : Fr h₀ L s.heap m) (N : News h₀ L s.heap led) (hc : env.cells.lookup x = some c) (R : Rem (c, o) led rest) (ne : AllNe c rest) (hd : o.data = .cell v₀)
    (h : ∀ h' o', o'.data = .cell (some v) → Fr h₀ L h' m → News h₀ L h' ((c, o') :: rest) → Q () { s with heap := h' })
    (hk : env.scope.kind = .function := by rfl) (hx : env.kindOf x = some .cell := by rfl) : wpAny M A (storeName env x v) Q E s := by
  have N' := R.news N
  have hmem := N' (c, o) (.head _)
  unfold storeName
  simp only [hx, hk]
  refine wpAny_bind (wpAny_cellOf hc (wpAny_cellSet ⟨o, hmem.1, hd⟩ fun h' hv hs => ?_))
  obtain ⟨o', ho', hd'⟩ := hv
  refine h h' o' hd' ⟨F.ns.sameBut hs (Ne.symm hmem.2.1), fun b ob e => (hs.2 b (fun q => ?_)).trans (F.keep b ob e), F.above⟩ ?_
  · rw [q, hmem.2.2] at e; cases e
  · exact News.setAt (own := []) N' (fun _ hp => nomatch hp) ne.mem hs ho'
end
theorem ProgIn.up {nw nw' : List (Addr × Obj)} {v : Value} {ovs : List Value} (x : ProgIn nw v ovs) (h : ∀ p ∈ nw, p ∈ nw') : ProgIn nw' v ovs := x.mono h
theorem OrdsIn.up {nw nw' : List (Addr × Obj)} {ovs : List Value} (x : OrdsIn nw ovs) (h : ∀ p ∈ nw, p ∈ nw') : OrdsIn nw' ovs := x.mono h
/-! R15: reachable's list of the seen -/
def seen (i r : Nat) : List Value := List.replicate i (.bool true) ++ List.replicate r (.bool false)
theorem seen_len (i r : Nat) : (seen i r).length = i + r := by simp [seen]
theorem seen_zero (n : Nat) : List.replicate n (Value.bool false) = seen 0 n := by simp [seen]
theorem seen_end (n : Nat) : seen n 0 = List.replicate n (.bool true) := by simp [seen]
theorem seen_set (i r : Nat) : (seen i (r + 1)).set i (.bool true) = seen (i + 1) r := by
  have e : (seen i (r + 1)).set i (.bool true) = List.replicate i (.bool true) ++ (List.replicate (r + 1) (Value.bool false)).set 0 (.bool true) := by
    unfold seen
    rw [List.set_append_right _ _ (by simp)]
    simp
  rw [e, List.replicate_succ, List.set_cons_zero]
  unfold seen
  rw [List.replicate_succ', List.append_assoc]
  rfl
theorem seen_at (i r : Nat) : (seen i (r + 1))[i]? = some (.bool false) := by
  unfold seen
  rw [List.getElem?_append_right (by simp)]
  simp
section
variable {prog : Program} {w : World} {A : Around} {E : Value → Shared → Prop} {s : Shared} {h₀ : Heap} {L : Addr} {news : List (Addr × Obj)} {a : Addr} {n i r cap : Nat} {Q : Value → Shared → Prop}
theorem seenAt {value slice : Expr} {k : Int} {u : Tok} (N : News h₀ L s.heap news) (hm : (a, W.listOf (seen i (r + 1)).toArray cap) ∈ news) (h0 : k = (i : Int)) (hz : i + (r + 1) ≤ 100)
    (h : Q (.bool false) s)
    (hs : subscripted slice false (.ref a) (.int k u) = operate [.ref a, .int k u] (getItem (.ref a) (.int k u)) := by with_unfolding_all rfl) :
    wpAny (model prog w) A (subscriptTail value slice (.ref a) (.int k u)) Q E s :=
  listAt N hm (by omega) (by rw [seen_len]; omega) (by rw [seen_len]; omega) (fun v hv => by
    have e : k.toNat = i := by omega
    rw [e, seen_at] at hv
    obtain rfl := Option.some.inj hv
    exact h) hs
theorem seenSet {led rest : List (Addr × Obj)} {D L : Addr} {m : Str → Option Value} {k : Int} {t : Tok} {Q : Unit → Shared → Prop} (F : Fr h₀ L s.heap m) (N : News h₀ L s.heap led) (R : Rem (D, W.listOf (seen i (r + 1)).toArray n) led rest) (ne : AllNe D rest) (h0 : k = (i : Int)) (hz : i + (r + 1) ≤ 100)
    (h : ∀ h', Fr h₀ L h' m → News h₀ L h' ((D, W.listOf (seen (i + 1) r).toArray n) :: rest) → Q () { s with heap := h' }) :
    wpAny (model prog w) A (setItem (.ref D) (.int k t) (.bool true)) Q E s :=
  setItem_R F N R ne (by omega) (by rw [seen_len]; omega) (by rw [seen_len]; omega) fun h' F' N' => h h' F' (by
    rw [show k.toNat = i by omega, seen_set] at N'
    exact N')
theorem trueAt {value slice : Expr} {k : Int} {u : Tok} (N : News h₀ L s.heap news) (hm : (a, W.listOf (List.replicate n (Value.bool true)).toArray cap) ∈ news) (h0 : 0 ≤ k) (h1 : k < (n : Int)) (hz : n ≤ 10)
    (h : Q (.bool true) s)
    (hs : subscripted slice false (.ref a) (.int k u) = operate [.ref a, .int k u] (getItem (.ref a) (.int k u)) := by with_unfolding_all rfl) :
    wpAny (model prog w) A (subscriptTail value slice (.ref a) (.int k u)) Q E s :=
  listAt N hm h0 (by rw [List.length_replicate]; omega) (by rw [List.length_replicate]; omega) (fun v hv => by
    rw [List.getElem?_replicate, if_pos (by omega)] at hv
    obtain rfl := Option.some.inj hv
    exact h) hs
end
/-- between the turns of reachable's loop -/
inductive ReachJ (n : Nat) (m₀ : Str → Option Value) (D cA wa : Addr) (nw : List (Addr × Obj)) (k : Nat) (m' : Str → Option Value) (nx : List (Addr × Obj)) : Prop
  | go (j r c c' : Nat) (t : Tok) (o : Obj) : j + r + 1 = n → k = r + 1 → o.data = .cell (some (.ref D)) → (∀ y, (["at", "nexts", "later"] : List Str).contains y = false → m' y = m₀ y) → nx = (wa, W.listOf #[.int (j : Int) t] c) :: (D, W.listOf (seen (j + 1) r).toArray c') :: (cA, o) :: nw → ReachJ n m₀ D cA wa nw k m' nx
  | fin (c c' : Nat) (o : Obj) : k = 0 → o.data = .cell (some (.ref D)) → (∀ y, (["at", "nexts", "later"] : List Str).contains y = false → m' y = m₀ y) → nx = (wa, W.listOf #[] c) :: (D, W.listOf (List.replicate n (Value.bool true)).toArray c') :: (cA, o) :: nw → ReachJ n m₀ D cA wa nw k m' nx
/-! loops over a list of no item, of one -/
inductive OneEnd (g : Heap) (L : Addr) (s : Shared) (I : Addr) (oI : Obj) (kp : Addr × Obj) (J : (Str → Option Value) → List (Addr × Obj) → Prop) : Flow → Shared → Prop
  | mk (h' : Heap) (tk' : Nat) (m' : Str → Option Value) (nx : List (Addr × Obj)) : Fr g L h' m' → News g L h' ((I, oI) :: nx) → (∀ p ∈ nx, p.1 ≠ I) → kp ∈ nx → J m' nx → OneEnd g L s I oI kp J .next { s with heap := h', toks := tk' }
section
variable {prog : Program} {w : World} {A : Around} {E : Value → Shared → Prop} {s : Shared} {env : Env} {h₀ : Heap} {target : Expr} {body : List Stmt} {Q : Flow → Shared → Prop}
theorem loop_nil {l : Addr} {cap : Nat} {m₀ : Str → Option Value} {nw : List (Addr × Obj)} (hh : A.handled = none) (F : Fr h₀ env.locals s.heap m₀) (N : News h₀ env.locals s.heap nw) (hm : (l, W.listOf #[] cap) ∈ nw)
    (done : ∀ h tk, Fr h₀ env.locals h m₀ → News h₀ env.locals h nw → Q .next { s with heap := h, toks := tk }) :
    wpAny (model prog w) A (pyIter (.ref l)) (fun it s₂ => TurnsAt prog w A h₀ env target body Q E it s₂) E s :=
  iter_listTurns (vs := []) hh F N hm rfl rfl fun _ _ => fun h tk F' N' => done h tk F' N'
theorem loop_one {l : Addr} {v : Value} {cap : Nat} {m₀ : Str → Option Value} {nw : List (Addr × Obj)} (J : (Str → Option Value) → List (Addr × Obj) → Prop) (hh : A.handled = none) (F : Fr h₀ env.locals s.heap m₀) (N : News h₀ env.locals s.heap nw) (hm : (l, W.listOf #[v] cap) ∈ nw)
    (turn : ∀ I oI h tk, (∀ p ∈ nw, p.1 < I) → Fr h₀ env.locals h m₀ → News h₀ env.locals h ((I, oI) :: nw) →
      wpAny (model prog w) A (assign target env v) (fun _ s₂ => wpAny (model prog w) A (execs body env) (OneEnd h₀ env.locals { s with heap := h, toks := tk } I oI (l, W.listOf #[v] cap) J) E s₂) E { s with heap := h, toks := tk })
    (done : ∀ m' nx h tk, J m' nx → Fr h₀ env.locals h m' → News h₀ env.locals h nx → Q .next { s with heap := h, toks := tk }) :
    wpAny (model prog w) A (pyIter (.ref l)) (fun it s₂ => TurnsAt prog w A h₀ env target body Q E it s₂) E s := by
  refine iter_listTurns (vs := [v]) hh F N hm rfl rfl fun I hI => rest_all (fun i m' nx => match i with | 0 => m' = m₀ ∧ nx = nw | _ => J m' nx) ⟨rfl, rfl⟩ ?_ ?_
  · intro i a u m news h tk its hx hv hJ ho F1 N1
    have hi : i = 0 := by
      have := (List.getElem?_eq_some_iff.mp hx).1
      simpa using this
    subst hi
    obtain ⟨rfl, rfl⟩ := (show m = m₀ ∧ news = nw from hJ)
    cases hx
    obtain rfl : u = v := hv
    have hits : ∃ ob, its = [(I, ob)] := by
      have hmap := ho.map
      cases its with
      | nil => simp at hmap
      | cons p r =>
        cases r with
        | nil =>
          have e : p.1 = I := by simpa using hmap
          exact ⟨p.2, by rw [← e]⟩
        | cons _ _ => simp at hmap
    obtain ⟨ob, rfl⟩ := hits
    refine wpAny_mono (turn I ob h tk hI F1 N1) (fun _ s₂ h₂ => wpAny_mono h₂ (fun f s₃ q => ?_) fun _ _ e => e) fun _ _ e => e
    cases q with
    | mk h' tk' m' nx F2 N2 off hk j =>
      exact ⟨h', tk', m', nx, rfl, F2, N2, fun p hp q hq => by rw [List.mem_singleton.mp hq]; exact off p hp, ⟨hk, trivial⟩, j⟩
  · intro m news h tk hJ F1 N1
    exact done m news h tk hJ F1 N1
end
theorem reach_turn {n : Nat} {m₀ : Str → Option Value} {D cA wa : Addr} {nw : List (Addr × Obj)} {j r2 : Nat} {g : Heap} {L : Addr} {s : Shared} {I l x : Addr} {oI lo xo o : Obj} {c1 c' : Nat} {t : Tok} {h' : Heap} {tk' : Nat} {m' : Str → Option Value}
    (F : Fr g L h' m') (N : News g L h' ((D, W.listOf (seen (j + 1 + 1) r2).toArray c') :: (I, oI) :: (l, lo) :: (x, xo) :: (wa, W.listOf (#[].push (.int ((j : Int) + 1) t)) c1) :: (cA, o) :: nw)) (i1 : l < I) (i3 : wa < I) (i4 : D < I) (i5 : cA < I) (i6 : AllNe I nw)
    (e : j + 1 + r2 + 1 = n) (d1 : o.data = .cell (some (.ref D))) (hm : ∀ y, (["at", "nexts", "later"] : List Str).contains y = false → m' y = m₀ y) :
    OneEnd g L s I oI (l, lo) (fun m' nx => ∃ p nx', nx = p :: nx' ∧ ReachJ n m₀ D cA wa nw (r2 + 1) m' nx') .next { s with heap := h', toks := tk' } := by
  refine .mk h' tk' m' ((l, lo) :: (wa, W.listOf #[.int ((j + 1 : Nat) : Int) t] c1) :: (D, W.listOf (seen (j + 1 + 1) r2).toArray c') :: (cA, o) :: nw) F (News.part N fun p hp => ?_)
    (AllNe.mem (And.intro (Nat.ne_of_lt i1) (And.intro (Nat.ne_of_lt i3) (And.intro (Nat.ne_of_lt i4) (And.intro (Nat.ne_of_lt i5) i6))))) (.head _) ⟨_, _, rfl, .go (j + 1) r2 c1 c' t o e rfl d1 hm rfl⟩
  have e2 : (wa, W.listOf (#[].push (Value.int ((j : Int) + 1) t)) c1) = (wa, W.listOf #[Value.int ((j + 1 : Nat) : Int) t] c1) := rfl
  rw [e2]
  simp only [List.mem_cons] at hp ⊢
  rcases hp with hp | hp | hp | hp | hp | hp <;> simp only [hp, true_or, or_true]
theorem ints_self {ys : List Value} {i : Nat} {t : Tok} (h1 : ys.length = i) (h2 : ∀ (q : Nat) (v : Value), ys[q]? = some v → ∃ t, v = .int (q : Int) t) : (ys ++ [Value.int (i : Int) t]).length = i + 1 ∧ ∀ (q : Nat) (v : Value), (ys ++ [Value.int (i : Int) t])[q]? = some v → ∃ t, v = .int (q : Int) t := by
  refine ⟨by simp [h1], fun q v h => ?_⟩
  by_cases hq : q < ys.length
  · rw [List.getElem?_append_left hq] at h
    exact h2 q v h
  · have hl := (List.getElem?_eq_some_iff.mp h).1
    have e : q = i := by simp at hl; omega
    subst e
    rw [List.getElem?_append_right (by omega), h1, Nat.sub_self] at h
    cases h
    exact ⟨t, rfl⟩
/-! P13: reachable -/
set_option maxHeartbeats 4000000 in
theorem reach_c (w : World) : ReachC w := by
  k_with_none
  (k_with "k_all" => assumption)
  (k_with "units_room" => ktr_units)
  (k_with "k_room" => ktr_room)
  (k_with "k_units" => ktr_units)
  (k_with "cell_enter" => (refine' code_def ?q4_k1 ?q4_k2 ?q4_k3 ?q4_k4 ?q4_k5 ?q4_kA ?q4_kF ?q4_kK ?q4_k6 ?q4_k7 ?q4_k8 ?q4_k9 ?q4_kB ?_ ?q4_c2 ?q4_c3 ?q4_c4 ?q4_c5; (case q4_kA => exact rfl); (case q4_kF => exact rfl); (case q4_kK => first | assumption | exact rfl); (case q4_k1 => k_asm); (case q4_k2 => k_asm); (case q4_k3 => k_asm); (case q4_k4 => k_asm); (case q4_k5 => k_asm); (case q4_k6 => k_is); (case q4_k7 => k_is); (case q4_k8 => ktr_room); (case q4_k9 => first | exact BindsTo.of_eq rfl | exact binds_K (by k_in) rfl (by k_is) rfl rfl rfl); (case q4_c5 => decide); (case q4_kB => exact locs rfl); (case q4_c2 => exact rfl); (case q4_c3 => exact rfl); (case q4_c4 => exact rfl); k_whole; intro zg9 zL9 zh9 zFG9 zF9 zN9 zB9 zX9 zT9; (try dsimp only); (try k_lift zB9); (try k_fold)))
  (k_with "k_mem" => first | with_reducible assumption | exact List.Mem.head _ | (refine' List.Mem.tail _ ?q5_b; (case q5_b => (show (_ : Addr × Obj) ∈ (_ : List (Addr × Obj)); k_mem))))
  (k_with "k_ne" => (try dsimp only); first | with_reducible assumption | exact Ne.symm (by with_reducible assumption) | exact Nat.ne_of_lt (by with_reducible assumption) | exact Nat.ne_of_gt (by with_reducible assumption))
  (k_with "k_all" => first | exact True.intro | with_reducible assumption | exact allLt_ne (by with_reducible assumption) | exact AllNe.mem (by with_reducible assumption) | (refine' And.intro ?q7_a ?q7_b; (case q7_a => k_ne); (case q7_b => k_all)) | (refine' List.forall_mem_cons.mpr (And.intro ?q7_a ?q7_b); (case q7_a => k_ne); (case q7_b => k_all)))
  (k_with "call type:list" => (k_here; (with_reducible show wpAny _ _ (call (Value.type _) [Value.ref _]) _ _ _); k_dflt (refine' list_copyK ?q8_k1 ?q8_k2 ?q8_k3 ?_ ?q8_z; (case q8_k1 => k_asm); (case q8_k2 => k_asm); (case q8_k3 => exact News.isList (by k_asm) (by k_mem)); (case q8_z => exact size_line _ (by with_reducible assumption)); k_whole); intro zD9 zc9 zh9 zF9 zN9 zl1; (try k_lt zl1); (try k_sweep)))
  (k_with "call builtin:len" => (k_here; (with_reducible show wpAny _ _ (call (Value.builtin "len") [Value.ref _]) _ _ _); k_dflt (refine' lenL_any ?q9_N ?q9_m ?q9_l ?q9_z ?_; (case q9_N => k_asm); (case q9_m => k_mem); (case q9_l => first | with_reducible assumption | exact rfl); (case q9_z => first | with_reducible assumption | exact Nat.le_trans (by with_reducible assumption) (by decide)); k_whole)))
  (k_with "subscriptTail" => (k_here; (with_reducible show wpAny _ _ (subscriptTail _ _ (Value.ref _) (Value.int _ _)) _ _ _); k_dflt (refine' listAt ?q10_N ?q10_m ?q10_lo ?q10_hi ?q10_z ?_; (case q10_N => k_asm); (case q10_m => k_mem); (case q10_z => first | with_reducible assumption | exact Nat.le_trans (by with_reducible assumption) (by decide)); (case q10_lo => first | with_reducible assumption | omega); (case q10_hi => first | with_reducible assumption | omega); k_whole); intro zv99 zhv99))
  (k_with "ktr_room" => (simp only [depth_under_make, depth_under_kw, depth_in1, depth_deeper, ktr_depth, Nat.add_assoc]; exact room_lt (by with_reducible assumption) (by decide)))
  (k_with "ktr_units" => (simp only [units_under_make, units_deeper, units_in1, ktr_unit, Nat.add_assoc]; exact room_lt (by with_reducible assumption) (by decide)))
  (k_with "call ref" => (k_here; (with_reducible show wpAny _ _ (call (Value.ref _) [_]) _ _ _); k_dflt ((first | with_unfolding_all refine' is_wide_c _ ?q13_B ?q13_F ?q13_X ?q13_N ?q13_T ?q13_k ?q13_c ?q13_o ?q13_d ?q13_u ?_ | with_unfolding_all refine' is_local_call_c _ ?q13_B ?q13_F ?q13_X ?q13_N ?q13_T ?q13_k ?q13_c ?q13_o ?q13_d ?q13_u ?_ | with_unfolding_all refine' has_goal_c _ ?q13_B ?q13_F ?q13_X ?q13_N ?q13_T ?q13_k ?q13_c ?q13_o ?q13_d ?q13_u ?_ | with_unfolding_all refine' is_jump_c _ ?q13_B ?q13_F ?q13_X ?q13_N ?q13_T ?q13_k ?q13_c ?q13_o ?q13_d ?q13_u ?_ | with_unfolding_all refine' is_branch_c _ ?q13_B ?q13_F ?q13_X ?q13_N ?q13_T ?q13_k ?q13_c ?q13_o ?q13_d ?q13_u ?_ | with_unfolding_all refine' is_exit_c _ ?q13_B ?q13_F ?q13_X ?q13_N ?q13_T ?q13_k ?q13_c ?q13_o ?q13_d ?q13_u ?_); (case q13_k => rfl); (case q13_F => k_asm); (case q13_N => k_asm); (case q13_B => k_asm); (case q13_X => k_asm); (case q13_T => k_asm); (case q13_c => with_reducible assumption); (case q13_o => first | exact OrdIn.up (by with_reducible assumption) (by with_reducible assumption) | exact OrdIn.up (by with_reducible assumption) (by intro p hp; repeat (first | exact hp | refine List.Mem.tail _ ?_))); (case q13_d => ktr_room); (case q13_u => ktr_units); k_whole); (intro zh9 ztk9 zF9 zN9; (try dsimp only); (try k_sweep))))
  (k_with "subscriptTail" => (k_here; (with_reducible show wpAny _ _ (subscriptTail _ _ (Value.ref _) (Value.int _ _)) _ _ _); k_dflt (refine' ordAt ?q14_N ?q14_m ?q14_o ?q14_lo ?q14_hi ?q14_z ?_; (case q14_N => k_asm); (case q14_m => k_mem); (case q14_o => with_reducible assumption); (case q14_z => first | with_reducible assumption | exact Nat.le_trans (by with_reducible assumption) (by decide)); (case q14_lo => first | with_reducible assumption | exact Int.natCast_nonneg _ | omega); (case q14_hi => first | with_reducible assumption | exact Int.ofNat_lt.mpr (by with_reducible assumption) | omega); k_whole); intro zv99 zc99 zhc99 zhe99 zho99))
  (k_with "k_upd" => first | with_reducible assumption | exact Rem.head | (refine' Rem.tail ?q15_b; (case q15_b => k_upd)))
  (k_with "setItem ref int" => (k_here; k_dflt (refine' setItem_R ?q16_F ?q16_N ?q16_R ?q16_n ?q16_a ?q16_b ?q16_z ?_; (case q16_F => k_asm); (case q16_N => k_asm); (case q16_R => k_upd); (case q16_n => k_all); (case q16_a => first | decide | with_reducible assumption); (case q16_b => first | with_reducible assumption | omega); (case q16_z => first | with_reducible assumption | omega); k_whole); intro zh9 zF9 zN9; (try k_sweep)))
  (k_with "call ref" => (k_here; (with_reducible show wpAny _ _ (call (Value.ref 822) [_, Value.int _ _]) _ _ _); k_dflt ((with_unfolding_all refine' succ_c _ ?q17_B ?q17_F ?q17_X ?q17_N ?q17_T ?q17_k ?q17_p ?q17_o ?q17_a ?q17_b ?q17_z ?q17_d ?q17_u ?_ ?_); (case q17_k => rfl); (case q17_F => k_asm); (case q17_N => k_asm); (case q17_B => k_asm); (case q17_X => k_asm); (case q17_T => k_asm); (case q17_p => first | with_reducible assumption | exact ProgIn.up (by with_reducible assumption) (by intro p hp; repeat (first | exact hp | refine List.Mem.tail _ ?_))); (case q17_o => first | with_reducible assumption | exact OrdsIn.up (by with_reducible assumption) (by intro p hp; repeat (first | exact hp | refine List.Mem.tail _ ?_))); (case q17_a => first | with_reducible assumption | omega); (case q17_b => first | with_reducible assumption | omega); (case q17_z => with_reducible assumption); (case q17_d => ktr_room); (case q17_u => ktr_units); k_whole)))
  (k_with "last exec While" => fail "here")
  (k_with "storeName" => (k_here; (with_reducible show wpAny _ _ (storeName _ "is_seen" _) _ _ _); k_dflt (refine' storeName_cellR ?q19_F ?q19_N ?q19_c ?q19_R ?q19_n ?q19_d ?_ ?q19_a ?q19_b; (case q19_a => rfl); (case q19_b => rfl); (case q19_F => k_asm); (case q19_N => k_asm); (case q19_c => rfl); (case q19_R => k_upd); (case q19_n => k_all); (case q19_d => with_reducible assumption); k_whole); intro zh9 zo9 zd9 zF9 zN9; (try k_sweep)))
  (k_with "subscriptTail" => (k_here; (with_reducible show wpAny _ _ (subscriptTail _ _ (Value.ref _) (Value.int _ _)) _ _ _); k_dflt (refine' seenAt ?q20_N ?q20_m ?q20_i ?q20_z ?_; (case q20_N => k_asm); (case q20_m => k_mem); (case q20_i => omega); (case q20_z => omega); k_whole)))
  (k_with "setItem ref int" => (k_here; k_dflt (refine' seenSet ?q21_F ?q21_N ?q21_R ?q21_n ?q21_a ?q21_z ?_; (case q21_F => k_asm); (case q21_N => k_asm); (case q21_R => k_upd); (case q21_n => k_all); (case q21_a => omega); (case q21_z => omega); k_whole); intro zh9 zF9 zN9; (try k_sweep)))
  (k_with "call builtin:list.append" => (k_here; (with_reducible show wpAny _ _ (call (Value.builtin _) [Value.ref _, _]) _ _ _); k_dflt (refine' append_R ?q22_F ?q22_N ?q22_R ?q22_n ?q22_z ?_; (case q22_F => k_asm); (case q22_N => k_asm); (case q22_R => k_upd); (case q22_n => k_all); (case q22_z => first | with_reducible assumption | exact size_len (by with_reducible assumption) (by with_reducible assumption)); k_whole); intro zh9 zF9 zN9; (try k_sweep)))
  (k_with "subscriptTail" => (k_here; (with_reducible show wpAny _ _ (subscriptTail _ _ (Value.ref _) (Value.int _ _)) _ _ _); k_dflt (refine' trueAt ?q23_N ?q23_m ?q23_i ?q23_l ?q23_z ?_; (case q23_N => k_asm); (case q23_m => k_mem); (case q23_i => exact Int.natCast_nonneg _); (case q23_l => exact Int.ofNat_lt.mpr (by with_reducible assumption)); (case q23_z => with_reducible assumption); k_whole)))
  intro p loose mean mg mb dp un gd cn cs a ccd cl outer A₀ base h₀ L m s Q E nw v ovs B F X N T hk hp ho hn hn' hd hu ret
  revert X; k_fill; intro X
  have hp9 := hp
  obtain ⟨pg, pgd, ol, su, x1, x2, x3, x4, x5, y1, y2, y3, y4, y5, t4, t5, v2, v3, cap, cap2, rfl, h1, h2, h3, h4⟩ := hp9
  refine wpAny_call ?_
  k_dflt (refine' code_defC ?k1 ?k2 ?k3 ?k4 ?k5 ?kA ?kF ?kK ?k6 ?k7 ?k8 ?k9 ?kB ?kD ?_ ?c2 ?c3 ?c4; (case kA => exact rfl); (case kF => exact rfl); (case kK => assumption); (case k1 => k_asm); (case k2 => k_asm); (case k3 => k_asm); (case k4 => k_asm); (case k5 => k_asm); (case k6 => k_is); (case k7 => k_is); (case k8 => ktr_room); (case k9 => exact BindsTo.of_eq rfl); (case kB => exact rfl); (case kD => decide +kernel); (case c2 => exact rfl); (case c3 => exact rfl); (case c4 => exact rfl); k_whole; intro g' L' h' tk' cells' FG' F' N' Y' B' X' T' l1; replace l1 := allLt_of l1; k_cells Y'; (try simp only [List.cons_append, List.nil_append] at N'); (try dsimp only); (try k_lift B'); (try k_fold))
  have Fs : Fr g' L' h' (fun y => if y = "program" then some (.ref pg) else none) := by with_unfolding_all exact F'
  clear F'
  rename Obj => o1
  with_reducible rename Obj.data _ = Data.cell (bindC _ _ _ _) => d1
  have z1 := d1.trans (show Data.cell (bindC _ _ _ _) = Data.cell none from by with_unfolding_all rfl)
  clear d1
  have nc : AllNe (L' + 1) nw := AllNe.of fun p hp => Nat.ne_of_lt (Nat.lt_succ_of_lt (allLt_mem l1 p hp))
  iterate 2 (first | (k_unfold; (try dsimp only)) | (k_end; wrow_close) | walk1 | (dsimp only; walk1))
  k_dflt (refine comp_listU (ax := ol) (vs := ovs) (cap := cap) (by omega) (.tail _ h3) (fun i ys => ys = List.replicate i (.bool false)) rfl Fs (by with_unfolding_all rfl) (by decide) (by rfl) (by decide) (by rfl) (nw := (L' + 1, o1) :: nw) ?it rfl ?turn ?done)
  case it =>
    k_steps
    with_reducible rename Fr _ _ _ (fun _ => _) => kF9
    with_reducible rename News _ _ _ (_ :: _) => kN9
    exact ⟨_, _, rfl, rfl, kF9, kN9⟩
  case turn =>
    rintro i ys v I oI C oC D m₂ h tk E' hi rfl hC hx F2 N2 off ne
    have off9 := off
    k_steps
    with_reducible rename Fr _ _ _ (fun _ => _) => kF9
    with_reducible rename News _ _ _ (_ :: _) => kN9
    exact endY_keep kF9 kN9 (.head _) (.tail _ (.head _)) (.tail _ (.tail _ (.head _))) (fun p hp => .tail _ (.tail _ (.tail _ hp))) off9 ⟨rfl, List.replicate_succ'.symm⟩
  case done =>
    rintro ys D h tk rfl F2 N2 hne
    have hl0 : (0 : Int) < (List.replicate ovs.length (Value.bool false)).length := by rw [List.length_replicate]; omega
    have hl1 : (List.replicate ovs.length (Value.bool false)).length ≤ 100 := by rw [List.length_replicate]; omega
    replace F2 : Fr g' L' h (fun y => if y = "program" then some (.ref pg) else none) := F2
    replace N2 : News g' L' h ((D, W.listOf (List.replicate ovs.length (Value.bool false)).toArray (List.replicate ovs.length (Value.bool false)).length) :: (L' + 1, o1) :: nw) := N2
    rw [seen_zero] at N2 hl0 hl1
    have hc1 : AllNe D nw := hne.2
    have hc2 : @Ne Nat D (L' + 1) := Ne.symm hne.1
    iterate 17 (first | (k_unfold; (try dsimp only)) | (k_end; wrow_close) | walk1 | (dsimp only; walk1))
    with_reducible rename Fr g' L' _ (fun _ => _) => kF
    with_reducible rename News g' L' _ (_ :: _) => kN
    with_reducible rename Obj.data _ = Data.cell (some _) => kd
    with_reducible rename AllLt _ nw => kl
    obtain ⟨wa, kl2, rfl⟩ : ∃ z, AllLt z nw ∧ z = _ := ⟨_, kl, rfl⟩
    clear kl2
    obtain ⟨r, hr⟩ : ∃ r, ovs.length = r + 1 := ⟨ovs.length - 1, by omega⟩
    rw [hr, (show (seen 0 (r + 1)).set (Int.toNat 0) (.bool true) = seen 1 r from seen_set 0 r)] at kN

    k_dflt (refine While_inv (ReachJ ovs.length _ D (L' + 1) _ nw) (n₀ := r + 1) kF kN (.go 0 r _ _ _ _ (by omega) rfl kd (fun _ _ => rfl) rfl) ?turn)
    case turn =>
      clear kF kN hr
      rintro k5 m₁ nx h₁ tk₁ F5 N5 J5
      rcases J5 with ⟨j, r1, c, c', t, o, e1, e2, d1, hm, rfl⟩ | ⟨c, c', o, e1, d1, hm, rfl⟩
      · rw [stB_is hm] at F5
        k_steps
        · with_reducible rename _ = (ovs.length : Int) => e9
          obtain rfl : r1 = 0 := by omega
          with_reducible rename Fr g' L' _ (fun _ => _) => kF
          with_reducible rename News g' L' _ (_ :: _) => kN
          with_unfolding_all refine' For_turns kF ?_
          iterate 1 (first | (k_unfold; (try dsimp only)) | (k_end; wrow_close) | walk1 | (dsimp only; walk1))
          refine loop_nil rfl kF kN (.head _) ?_
          intro h6 tk6 F6 N6
          clear kF kN
          k_steps
          rw [show seen (j + 1) 0 = List.replicate ovs.length (Value.bool true) by rw [seen_end, show j + 1 = ovs.length from e1]] at N6
          refine WhileStep.intro F6 (News.part N6 ?sub) (n' := 0) (by omega) (.fin (c + 1) c' o rfl d1 (fun y hy => keep_if (st_ne hy (by decide)) (keep_if (st_ne hy (by decide)) (stB_out hy))) rfl)
          intro p hp
          exact .tail _ (.tail _ hp)
        · with_reducible rename _ < (ovs.length : Int) => e9
          obtain ⟨r2, rfl⟩ : ∃ r2, r1 = r2 + 1 := ⟨r1 - 1, by omega⟩
          with_reducible rename Fr g' L' _ (fun _ => _) => kF
          with_reducible rename News g' L' _ (_ :: _) => kN
          with_unfolding_all refine' For_turns kF ?_
          iterate 1 (first | (k_unfold; (try dsimp only)) | (k_end; wrow_close) | walk1 | (dsimp only; walk1))
          refine loop_one (fun m' nx => ∃ p nx', nx = p :: nx' ∧ ReachJ ovs.length (fun y => if y = "waiting" then some (.ref wa) else if y = "program" then some (.ref pg) else none) D (L' + 1) wa nw (r2 + 1) m' nx') rfl kF kN (.head _) ?turn ?done
          case turn =>
            intro I oI h6 tk6 hI F6 N6
            clear kF kN hne
            with_reducible rename AllNe _ (_ :: _) => qA
            obtain ⟨q1, q2, q3, q4⟩ := qA
            have i1 := hI _ (.head _)
            have i2 := hI _ (.tail _ (.head _))
            have i3 := hI _ (.tail _ (.tail _ (.head _)))
            have i4 := hI _ (.tail _ (.tail _ (.tail _ (.head _))))
            have i5 := hI _ (.tail _ (.tail _ (.tail _ (.tail _ (.head _)))))
            have i6 : AllNe I nw := AllNe.of fun p hp => Nat.ne_of_lt (hI p (.tail _ (.tail _ (.tail _ (.tail _ (.tail _ hp))))))
            dsimp only at i1 i2 i3 i4 i5 q1 q2 q3
            have i7 : AllNe wa nw := AllNe.of fun p hp => Nat.ne_of_lt (allLt_mem kl p hp)
            k_steps
            with_reducible rename Fr g' L' _ (fun _ => _) => kF9
            with_reducible rename News g' L' _ ((D, _) :: _) => kN9
            exact reach_turn kF9 kN9 i1 i3 i4 i5 i6 (by omega) d1 (fun y hy => keep_if (st_ne hy (by decide)) (keep_if (st_ne hy (by decide)) (keep_if (st_ne hy (by decide)) (stB_out hy))))
          case done =>
            rintro m6 nx6 h6 tk6 ⟨p6, nx6, rfl, J6⟩ F6 N6
            k_steps
            exact WhileStep.intro F6 (News.part N6 fun p hp => .tail _ hp) (n' := r2 + 1) (by omega) J6
      · rw [stB_is hm] at F5
        iterate 7 (first | (k_unfold; (try dsimp only)) | (k_end; wrow_close) | walk1 | (dsimp only; walk1))
        with_reducible rename Fr g' L' _ (fun _ => _) => kF
        with_reducible rename News g' L' _ (_ :: _) => kN
        k_dflt (refine comp_listT (n := ovs.length) hn' (fun i ys => ys.length = i ∧ ∀ (q : Nat) (v : Value), ys[q]? = some v → ∃ t, v = .int (q : Int) t) rfl kF (by with_unfolding_all rfl) (by decide) (by rfl) (by decide) (by rfl) (nw := (wa, W.listOf #[] c) :: (D, W.listOf (List.replicate ovs.length (Value.bool true)).toArray c') :: (L' + 1, o) :: nw) ?it ⟨rfl, fun q v h => by simp at h⟩ ?turn ?done)
        case it =>
          k_steps
          with_reducible rename Fr _ _ _ (fun _ => _) => kF9
          with_reducible rename News _ _ _ (_ :: _) => kN9
          with_reducible rename IsRange _ _ _ _ _ _ _ _ => kR9
          exact ⟨_, _, _, _, _, _, rfl, rfl, kR9, kF9, kN9⟩
        case turn =>
          rintro i ys t6 I oI C oC D6 m₂ h6 tk6 E' hi ⟨hy1, hy2⟩ hC hx F6 N6 off ne
          have off9 := off
          clear kF kN
          k_steps
          with_reducible rename Fr _ _ _ (fun _ => _) => kF9
          with_reducible rename News _ _ _ (_ :: _) => kN9
          exact endY_keep kF9 kN9 (.head _) (.tail _ (.head _)) (.tail _ (.tail _ (.head _))) (fun p hp => .tail _ (.tail _ (.tail _ hp))) off9 ⟨rfl, ints_self hy1 hy2⟩
        case done =>
          rintro ys D6 h6 tk6 ⟨hy1, hy2⟩ F6 N6 hne6
          clear kF kN
          k_steps
          with_reducible rename Fr h₀ _ _ m => kF9
          with_reducible rename News h₀ _ _ (_ :: _) => kN9
          exact ret D6 ys _ _ _ hy1 hy2 kF9 (News.part kN9 fun p hp => by
            rcases List.mem_cons.mp hp with rfl | hp
            · exact .head _
            · exact .tail _ (.tail _ (.tail _ (.tail _ hp)))) hne6.2.2.2
set_option maxHeartbeats 8000000 in
theorem rows_c (w : World) {p : Program} {loose : List Str} {mean : ExcName → Option Value} {mg mb : Str → Option Value}
  {dp un : Nat} {gd : Option (List Code)} {cn : Str} {cs : Scope} {a : Addr} {ccd : Value} {cl : List (Str × Addr)} {outer : List Env} {A₀ : Around} {base h₀ : Heap} {L : Addr} {m : Str → Option Value} {s : Shared} {Q E : Value → Shared → Prop}
  {pen cells : Addr} {vs : List Value} {ns : List Int} {spot stock : Int} {t1 t2 tc : Tok} {cnt : Nat} {led l1 l2 : List (Addr × Obj)}
  (B : Below A₀ base outer h₀) (F : Fr h₀ L s.heap m) (X : (hd.heap_1 w.params).In h₀) (N : News h₀ L s.heap led) (T : Top p loose mean mg mb h₀) (hk : cs.kind = .function)
  (R1 : Rem (pen, W.listOf #[.ref cells, .int spot t1, .int stock t2] 0) led l1) (R2 : Rem (cells, LCg.lst vs) l1 l2) (n1 : AllNe pen l2) (n2 : AllNe cells l2)
  (hcn : 1 ≤ cnt) (hcn' : cnt ≤ 100)
  (hc : @Ne Nat cells pen) (hi : IntsAre vs ns) (hlen : ns.length ≤ 40)
  (hs0 : 0 ≤ spot) (hs1 : spot < 90000) (hk0 : 0 ≤ stock)
  (hd : dp + 60 < recursionLimit) (hu : un + 2500 < cLine)
  (ret : ∀ (fl : Addr) (cap : Nat) (vsR : List Value) (rows : List Row) (tl : List (Addr × Obj)) (sp' : Int) (u1 : Tok) (st' : Int) (u2 : Tok) (h' : Heap) (tk' : Nat), rows.length ≤ 6 → (∀ r ∈ rows, r.2.1.length ≤ 4) → DatAll tl vsR (rowsD rows) →
    spot ≤ sp' → sp' ≤ spot + 150 → 0 ≤ st' → (∀ p ∈ l2, p ∈ tl) → AllNe pen tl → AllNe cells tl → AllNe fl tl → @Ne Nat pen fl → @Ne Nat cells fl → Fr h₀ L h' m →
    News h₀ L h' ((pen, penO cells sp' u1 st' u2) :: (cells, LCg.lst vs) :: (fl, W.listOf vsR.toArray cap) :: tl) → Q (.ref fl) { s with heap := h', toks := tk' }) :
  wpAny (model PySem.Challenge.rw_pq1006_01.row.prog w) (ktrTop dp un gd cn cs L a ccd cl outer) (call (.ref 909) [.ref pen, .int (cnt : Int) tc]) Q E s := by
  k_with_none
  (k_with "k_all" => assumption)
  (k_with "units_room" => ktr_units)
  (k_with "k_room" => ktr_room)
  (k_with "k_units" => ktr_units)
  (k_with "cell_enter" => (refine' code_def ?q4_k1 ?q4_k2 ?q4_k3 ?q4_k4 ?q4_k5 ?q4_kA ?q4_kF ?q4_kK ?q4_k6 ?q4_k7 ?q4_k8 ?q4_k9 ?q4_kB ?_ ?q4_c2 ?q4_c3 ?q4_c4 ?q4_c5; (case q4_kA => exact rfl); (case q4_kF => exact rfl); (case q4_kK => first | assumption | exact rfl); (case q4_k1 => k_asm); (case q4_k2 => k_asm); (case q4_k3 => k_asm); (case q4_k4 => k_asm); (case q4_k5 => k_asm); (case q4_k6 => k_is); (case q4_k7 => k_is); (case q4_k8 => ktr_room); (case q4_k9 => first | exact BindsTo.of_eq rfl | exact binds_K (by k_in) rfl (by k_is) rfl rfl rfl); (case q4_c5 => decide); (case q4_kB => exact locs rfl); (case q4_c2 => exact rfl); (case q4_c3 => exact rfl); (case q4_c4 => exact rfl); k_whole; intro zg9 zL9 zh9 zFG9 zF9 zN9 zB9 zX9 zT9; (try dsimp only); (try k_lift zB9); (try k_fold)))
  (k_with "k_ne" => (try dsimp only); first | with_reducible assumption | exact Ne.symm (by with_reducible assumption) | exact Nat.ne_of_lt (by with_reducible assumption) | exact Nat.ne_of_gt (by with_reducible assumption) | exact ne_12 _ | exact ne_13 _ | exact ne_23 _ | exact Ne.symm (ne_12 _) | exact Ne.symm (ne_13 _) | exact Ne.symm (ne_23 _))
  (k_with "k_mem" => first | exact List.Mem.head _ | (refine' List.Mem.tail _ ?q6_b; (case q6_b => (show (_ : Addr × Obj) ∈ (_ : List (Addr × Obj)); k_mem))))
  (k_with "k_upd" => first | with_reducible assumption | exact Rem.head | (refine' Rem.tail ?q7_b; (case q7_b => k_upd)))
  (k_with "k_all" => first | exact True.intro | with_reducible assumption | exact allLt_ne (by with_reducible assumption) | exact AllNe.mem (by with_reducible assumption) | (refine' And.intro ?q8_a ?q8_b; (case q8_a => k_ne); (case q8_b => k_all)) | (refine' List.forall_mem_cons.mpr (And.intro ?q8_a ?q8_b); (case q8_a => k_ne); (case q8_b => k_all)))
  (k_with "call builtin:len" => (k_here; (with_reducible show wpAny _ _ (call (Value.builtin "len") [Value.ref _]) _ _ _); k_dflt (first | (refine' lenL_any ?q9_N ?q9_m ?q9_l ?q9_z ?_; (case q9_N => k_asm); (case q9_m => k_mem); (case q9_l => with_reducible assumption); (case q9_z => with_reducible assumption); k_whole))))
  (k_with "call ref" => (k_here; (with_reducible show wpAny _ _ (call (Value.ref 897) [Value.ref _, Value.int _ _]) _ _ _); k_dflt (with_unfolding_all refine' draw_r _ ?q10_B ?q10_F ?q10_X ?q10_N ?q10_T ?q10_k ?q10_R1 ?q10_R2 ?q10_n1 ?q10_n2 ?q10_hc ?q10_hi ?q10_hl ?q10_s0 ?q10_s1 ?q10_k0 ?q10_m0 ?q10_m1 ?q10_d ?q10_u ?_; (case q10_k => rfl); (case q10_F => k_asm); (case q10_N => k_asm); (case q10_B => k_asm); (case q10_X => k_asm); (case q10_T => k_asm); (case q10_R1 => k_upd); (case q10_R2 => k_upd); (case q10_n1 => k_all); (case q10_n2 => k_all); (case q10_hc => with_reducible assumption); (case q10_hi => with_reducible assumption); (case q10_hl => with_reducible assumption); (case q10_s0 => with_reducible assumption); (case q10_s1 => exact Int.lt_of_lt_of_le (by with_reducible assumption) (by decide)); (case q10_k0 => with_reducible assumption); (case q10_m0 => first | decide | omega); (case q10_m1 => first | decide | omega); (case q10_d => ktr_room); (case q10_u => ktr_units); k_whole); (intro zd9 zt9 zspot9 zt19 zstock9 zt29 zh9 ztk9 zhd09 zhd19 zhs09 zhs19 zhk09 zF9 zN9; (have zhZ9 := sp_z (by with_reducible assumption) zhs09); (have zhB9 := sp_b (by with_reducible assumption) zhs19); (have zhU9 := sp_u (by with_reducible assumption) zhs19); (have zhL9 := sp_l (by with_reducible assumption) zhs09); clear zhs09 zhs19; (try k_sweep))))
  (k_with "call ref" => (k_here; (with_reducible show wpAny _ _ (call (Value.ref 904) [Value.ref _, Value.ref _]) _ _ _); k_dflt (with_unfolding_all refine' pick_c _ ?q11_B ?q11_F ?q11_X ?q11_N ?q11_T ?q11_k ?q11_R1 ?q11_R2 ?q11_n1 ?q11_n2 ?q11_pm ?q11_pi ?q11_pn ?zq11_pn9 ?q11_hc ?q11_hi ?q11_hl ?q11_s0 ?q11_s1 ?q11_k0 ?q11_d ?q11_u ?_; (case q11_k => rfl); (case q11_F => k_asm); (case q11_N => k_asm); (case q11_B => k_asm); (case q11_X => k_asm); (case q11_T => k_asm); (case q11_R1 => k_upd); (case q11_R2 => k_upd); (case q11_n1 => k_all); (case q11_n2 => k_all); (case q11_pm => k_mem); (case q11_pi => l_ints); (case q11_pn => simp); (case zq11_pn9 => simp); (case q11_hc => with_reducible assumption); (case q11_hi => with_reducible assumption); (case q11_hl => with_reducible assumption); (case q11_s0 => with_reducible assumption); (case q11_s1 => exact Int.lt_of_lt_of_le (by with_reducible assumption) (by decide)); (case q11_k0 => with_reducible assumption); (case q11_d => ktr_room); (case q11_u => ktr_units); k_whole); (intro zd9 zt9 zspot9 zt19 zstock9 zt29 zh9 ztk9 zhs09 zhs19 zhk09 zF9 zN9; (have zhZ9 := sp_z (by with_reducible assumption) zhs09); (have zhB9 := sp_b (by with_reducible assumption) zhs19); (have zhU9 := sp_u (by with_reducible assumption) zhs19); (have zhL9 := sp_l (by with_reducible assumption) zhs09); clear zhs09 zhs19; (try k_sweep))))
  (k_with "call builtin:list.append" => (k_here; (with_reducible show wpAny _ _ (call (Value.builtin _) [Value.ref _, _]) _ _ _); k_dflt (refine' append_R ?q12_F ?q12_N ?q12_R ?q12_n ?q12_z ?_; (case q12_F => k_asm); (case q12_N => k_asm); (case q12_R => k_upd); (case q12_n => k_all); (case q12_z => first | with_reducible assumption | exact size_len (by with_reducible assumption) (by with_reducible assumption)); k_whole); intro zh9 zF9 zN9; (try k_sweep)))
  (k_with "exec For Name Call cons nil" => (k_here; (rename Fr _ _ _ _ => zlF9); (with_unfolding_all refine' For_turns zlF9 ?_; k_whole)))
  (k_with "last exec For" => (k_here; (rename Fr _ _ _ _ => zlF9); (with_unfolding_all refine' For_turns zlF9 ?_; k_whole)))
  revert X; k_fill; intro X
  have N1 := R1.news N
  have N2 : News h₀ L s.heap ((cells, LCg.lst vs) :: l2) := R2.news (News.part N1 fun p hp => List.Mem.tail _ hp)
  have N3 : News h₀ L s.heap ((pen, W.listOf #[.ref cells, .int spot t1, .int stock t2] 0) :: (cells, LCg.lst vs) :: l2) := fun p hp => by
    rcases List.mem_cons.mp hp with rfl | hp
    · exact N1 _ (.head _)
    · exact N2 p hp
  clear N N1 N2 R1 R2
  refine wpAny_call ?_
  k_dflt (refine' code_defC ?k1 ?k2 ?k3 ?k4 ?k5 ?kA ?kF ?kK ?k6 ?k7 ?k8 ?k9 ?kB ?kD ?_ ?c2 ?c3 ?c4; (case kA => exact rfl); (case kF => exact rfl); (case kK => with_reducible assumption); (case k1 => k_asm); (case k2 => k_asm); (case k3 => k_asm); (case k4 => k_asm); (case k5 => k_asm); (case k6 => k_is); (case k7 => k_is); (case k8 => ktr_room); (case k9 => exact BindsTo.of_eq rfl); (case kB => exact rfl); (case kD => decide +kernel); (case c2 => exact rfl); (case c3 => exact rfl); (case c4 => exact rfl); k_whole; intro g' L' h' tk' cells' FG' F' N' Y' B' X' T' l1; (try k_lt l1); k_cells Y'; (try simp only [List.cons_append, List.nil_append] at N'); (try dsimp only); (try k_lift B'); (try k_fold))
  have Fs : Fr g' L' h' (fun y => if y = "count" then some (Value.int (cnt : Int) tc) else none) := by with_unfolding_all exact F'
  clear F'
  with_reducible rename Obj.data _ = Data.cell (bindC _ _ _ _) => d3
  have z3 := d3.trans (show Data.cell (bindC _ _ _ _) = Data.cell (some (Value.ref pen)) from by with_unfolding_all rfl)
  clear d3
  with_reducible rename Obj.data _ = Data.cell (bindC _ _ _ _) => d2
  have z2 := d2.trans (show Data.cell (bindC _ _ _ _) = Data.cell none from by with_unfolding_all rfl)
  clear d2
  with_reducible rename Obj.data _ = Data.cell (bindC _ _ _ _) => d1
  have z1 := d1.trans (show Data.cell (bindC _ _ _ _) = Data.cell none from by with_unfolding_all rfl)
  clear d1
  with_reducible rename AllLt _ l2 => lq
  have hq1 : ∀ p ∈ l2, p.1 ≠ L' + 1 := fun p hp => Nat.ne_of_lt (Nat.lt_succ_of_lt (allLt_mem lq p hp))
  have hq2 : ∀ p ∈ l2, p.1 ≠ L' + 1 + 1 := fun p hp => Nat.ne_of_lt (Nat.lt_succ_of_lt (Nat.lt_succ_of_lt (allLt_mem lq p hp)))
  have hq3 : ∀ p ∈ l2, p.1 ≠ L' + 1 + 1 + 1 := fun p hp => Nat.ne_of_lt (Nat.lt_succ_of_lt (Nat.lt_succ_of_lt (Nat.lt_succ_of_lt (allLt_mem lq p hp))))
  have c1 : @Ne Nat pen (L' + 1) := Nat.ne_of_lt (Nat.lt_succ_of_lt (by with_reducible assumption))
  have c2 : @Ne Nat pen (L' + 1 + 1) := Nat.ne_of_lt (Nat.lt_succ_of_lt (Nat.lt_succ_of_lt (by with_reducible assumption)))
  have c3 : @Ne Nat pen (L' + 1 + 1 + 1) := Nat.ne_of_lt (Nat.lt_succ_of_lt (Nat.lt_succ_of_lt (Nat.lt_succ_of_lt (by with_reducible assumption))))
  have c4 : @Ne Nat cells (L' + 1) := Nat.ne_of_lt (Nat.lt_succ_of_lt (by with_reducible assumption))
  have c5 : @Ne Nat cells (L' + 1 + 1) := Nat.ne_of_lt (Nat.lt_succ_of_lt (Nat.lt_succ_of_lt (by with_reducible assumption)))
  have c6 : @Ne Nat cells (L' + 1 + 1 + 1) := Nat.ne_of_lt (Nat.lt_succ_of_lt (Nat.lt_succ_of_lt (Nat.lt_succ_of_lt (by with_reducible assumption))))
  have hZ := hs0
  have hB := hs1
  have hU : spot ≤ spot + (0 : Nat) := by simp
  have hL : spot ≤ spot := Int.le_refl _
  k_steps
  with_reducible rename Fr _ _ _ (fun _ => _) => kF
  with_reducible rename News _ _ _ (_ :: _) => kN
  with_reducible rename AllLt _ l2 => lf0
  clear lf0
  with_reducible rename AllLt _ l2 => lf
  refine' rows_loop ["place", "some"] rfl ?hk0 ?hk1 ?hr kF kN ?h3 ?hst ?off ?turn ?done
  case hr => with_reducible assumption
  case hk0 => with_reducible assumption
  case hk1 => omega
  case h3 => with_reducible assumption
  case hst => with_reducible assumption
  case off =>
    intro p hp a ha
    simp only [List.mem_cons, List.not_mem_nil, or_false] at ha
    rcases ha with rfl | rfl | rfl | rfl | rfl | rfl
    · exact n1.mem p hp
    · exact n2.mem p hp
    · exact hq3 p hp
    · exact hq2 p hp
    · exact hq1 p hp
    · exact allLt_ne lf p hp
  case turn =>
    intro i ti I oI sp u1 st u2 o3 v3 cap vsR rs tl u h tk hik hrl hI hoff hsub h3 hst hsp hsp' hD F2 N2
    clear kF kN
    have hB0 : sp < 90200 := by
      clear hI hc
      omega
    have hi100 := sp_t hik (by with_reducible assumption)
    obtain ⟨i1, i2, i3, i4, i5, i6⟩ := hI
    refine wpAny_assign_Name (storeX_C F2 N2 rfl (by k_updF) h3 (fun h' o' F3 N3 h3' => ?_) rfl rfl)
    have na : AllNe pen tl := hoff.ne (by simp)
    have nb : AllNe cells tl := hoff.ne (by simp)
    have hZ0 : 0 ≤ sp := Int.le_trans (by with_reducible assumption) hsp
    refine join1 (sp + 4) F3 N3 ?s1 fun x t sp1 w1 st1 w2 h1 tk1 b1 b2 b3 F4 N4 => ?_
    case s1 =>
      clear F2 N2
      have hU0 := sp_0 sp
      have hL0 := Int.le_refl sp
      k_steps
      all_goals (try exact True.intro)
      with_reducible rename Fr _ _ _ (fun _ => _) => kF9
      with_reducible rename News _ _ _ (_ :: _) => kN9
      refine' MidA.intro kF9 kN9 ?hp ?hI ?hs ?k1 ?k2 ?k3
      case hp => k_mem
      case hI => k_mem
      case hs => ((iterate 5 (refine List.forall_mem_cons.mpr ⟨by k_mem, ?_⟩)); intro p hp; (repeat (first | exact hp | refine List.Mem.tail _ ?_)))
      case k1 => with_reducible assumption
      case k2 => exact sp_fin (by with_reducible assumption) (by decide)
      case k3 => with_reducible assumption
    have hZ1 := sp_z hZ0 b1
    have hB1 := sp_bk hB0 b2
    refine join2 (sp1 + 2) F4 N4 ?s2 fun x2 t2' sp2 w3 st2 w4 h2 tk2 b4 b5 b6 F5 N5 => ?_
    case s2 =>
      clear F2 N2 F3 N3
      have hU0 := sp_0 sp1
      have hL0 := Int.le_refl sp1
      k_steps
      all_goals (try exact True.intro)
      all_goals (
        with_reducible rename Fr _ _ _ (fun _ => _) => kF9
        with_reducible rename News _ _ _ (_ :: _) => kN9
        (try rw [if_if] at kF9)
        refine' MidA.intro kF9 kN9 ?hp ?hI ?hs ?k1 ?k2 ?k3
        (case hp => k_mem)
        (case hI => k_mem)
        (case hs => ((iterate 5 (refine List.forall_mem_cons.mpr ⟨by k_mem, ?_⟩)); intro p hp; (repeat (first | exact hp | refine List.Mem.tail _ ?_))))
        (case k1 => with_reducible assumption)
        (case k2 => exact sp_fin (by with_reducible assumption) (by decide))
        (case k3 => with_reducible assumption))
    have hZ2 := sp_z hZ1 b4
    have hB2 := sp_bk hB1 b5
    refine join3 (sp2 + 4) F5 N5 ?s3 fun sl svs sns capS sp3 w5 st3 w6 h3 tk3 b7 b8 b9 hs9 hl9 e1 e2 e3 F6 N6 => ?_
    case s3 =>
      clear F2 N2 F3 N3 F4 N4
      k_dflt (refine comp_some (lo := sp2) rfl F5 (by with_unfolding_all rfl) (by with_unfolding_all rfl) (by decide) (by rfl) (by decide) (by rfl) (by rfl) (by rfl) ?it ?turn)
      case it =>
        have hU0 := sp_0 sp2
        have hL0 := Int.le_refl sp2
        k_steps
        all_goals (try exact True.intro)
        with_reducible rename Fr _ _ _ (fun _ => _) => kF9
        with_reducible rename News _ _ _ (_ :: _) => kN9
        refine' MidR.intro kF9 kN9 ?hr ?hp ?hI ?hs ?k0 ?k1 ?a1 ?a2 ?a3
        case hr => with_reducible assumption
        case hp => k_mem
        case hI => k_mem
        case hs => ((iterate 5 (refine List.forall_mem_cons.mpr ⟨by k_mem, ?_⟩)); intro p hp; (repeat (first | exact hp | refine List.Mem.tail _ ?_)))
        case k0 => with_reducible assumption
        case k1 => with_reducible assumption
        case a1 => with_reducible assumption
        case a2 => exact sp_fin (by with_reducible assumption) (by decide)
        case a3 => with_reducible assumption
      case turn =>
        intro i7 ys sns sp7 w7 st7 w8 t7 I7 oI7 C oC D m₂ h7 tk7 E' hi7 hys hyl c1 c2 c3 hC hx7 F7 N7 off ne
        have off9 := off
        simp only [LCg.Off3] at off
        obtain ⟨⟨x1, x2, x3⟩, ⟨x4, x5, x6⟩, ⟨x7, x8, x9⟩, ⟨x10, x11, x12⟩, ⟨x13, x14, x15⟩, ⟨x16, x17, x18⟩, ⟨x19, x20, x21⟩, xt⟩ := off
        obtain ⟨y1, y2, y3⟩ := ne
        have hZ7 := sp_z hZ2 c1
        have hB7 := sp_bc hB2 c2 hi7
        have hU7 := c2
        have hL7 := c1
        clear F5 N5
        k_steps
        all_goals (try exact True.intro)
        all_goals (
          with_reducible rename Fr _ _ _ (fun _ => _) => kF9
          with_reducible rename News _ _ _ (_ :: _) => kN9
          first
          | refine' endY_int hys hyl kF9 kN9 ?mI ?mC ?mD ?mL ?mp ?hs off9 ?a1 ?a2 ?a3
          | refine' endY_not hys hyl kF9 kN9 ?mI ?mC ?mD ?mL ?mp ?hs off9 ?a1 ?a2 ?a3
          (case mI => k_mem)
          (case mC => k_mem)
          (case mD => k_mem)
          (case mL => k_mem)
          (case mp => k_mem)
          (case hs => ((iterate 5 (refine List.forall_mem_cons.mpr ⟨by k_mem, ?_⟩)); intro p hp; (repeat (first | exact hp | refine List.Mem.tail _ ?_))))
          (case a1 => with_reducible assumption)
          (case a2 => first | with_reducible assumption | exact sp_e0 (by with_reducible assumption))
          (case a3 => with_reducible assumption))
    have hZ3 := sp_z hZ2 b7
    have hB3 := sp_bk hB2 b8
    refine join4 (sp3 + 2) F6 N6 ?s4 fun sl2 svs2 sns2 capS2 sp4 w7 st4 w8 h4 tk4 b10 b11 b12 hs10 hl10 e4 e5 e6 F7 N7 => ?_
    case s4 =>
      clear F2 N2 F3 N3 F4 N4 F5 N5
      have hz9 := size_len hs9 hl9
      have e3' := e3
      simp only [AllNe] at e3'
      obtain ⟨q1, q2, q3, q4, q5, q6⟩ := e3'
      have hU0 := sp_0 sp3
      have hL0 := Int.le_refl sp3
      k_steps
      all_goals (try exact True.intro)
      all_goals (
        with_reducible rename Fr _ _ _ (fun _ => _) => kF9
        with_reducible rename News _ _ _ (_ :: _) => kN9
        first
        | (rw [push_arr] at kN9; refine' MidB.intro kF9 kN9 ?hp ?hl (ints_snoc hs9 _ _) ?hl5 ?hI ?hs e1 e2 e3 ?k1 ?k2 ?k3)
        | refine' MidB.intro kF9 kN9 ?hp ?hl hs9 ?hl5 ?hI ?hs e1 e2 e3 ?k1 ?k2 ?k3
        (case hl5 => first | exact Nat.le_succ_of_le hl9 | (rw [List.length_append]; exact Nat.add_le_add_right hl9 1))
        (case hp => k_mem)
        (case hl => k_mem)
        (case hI => k_mem)
        (case hs => ((iterate 5 (refine List.forall_mem_cons.mpr ⟨by k_mem, ?_⟩)); intro p hp; (repeat (first | exact hp | refine List.Mem.tail _ ?_))))
        (case k1 => with_reducible assumption)
        (case k2 => exact sp_fin (by with_reducible assumption) (by decide))
        (case k3 => with_reducible assumption))
    have hZ4 := sp_z hZ3 b10
    have hB4 := sp_bk hB3 b11
    have e6' := e6
    simp only [AllNe] at e6'
    obtain ⟨q1, q2, q3, q4, q5, q6⟩ := e6'
    clear F2 N2 F3 N3 F4 N4 F5 N5 F6 N6
    have hzR := size_dat hD hrl hi100
    have nf : AllNe _ tl := hoff.ne (a := _) (List.mem_cons_of_mem _ (List.mem_cons_of_mem _ (List.mem_cons_of_mem _ (List.mem_cons_of_mem _ (List.mem_cons_of_mem _ (List.mem_cons_of_mem _ (List.mem_cons_self)))))))
    have hU0 := sp_0 sp4
    have hL0 := Int.le_refl sp4
    k_steps
    all_goals (try exact True.intro)
    with_reducible rename Fr _ _ _ (fun _ => _) => kF9
    with_reducible rename News _ _ _ (_ :: _) => kN9
    rw [push_arr] at kN9
    refine' RowsPost.intro kF9 kN9 h3' ?k1 ?k2 ?k3 hoff ?nD ?nS hD hs10 hl10
    case k1 => exact Int.le_trans b1 (Int.le_trans b4 (Int.le_trans b7 (Int.le_trans b10 (by with_reducible assumption))))
    case k2 => exact sp_20 b2 b5 b8 b11 (by with_reducible assumption)
    case k3 => with_reducible assumption
    case nD => exact ⟨by k_ne, by k_ne, by k_ne, by k_ne, by k_ne, by k_ne, by k_ne⟩
    case nS => exact ⟨by k_ne, by k_ne, by k_ne, by k_ne, by k_ne, by k_ne, by k_ne⟩
  case done =>
    intro sp u1 st u2 o3 cap vsR rs tl u h tk hrl hsub hoff hst hsp hsp' hD hl4 F2 N2
    clear kF kN
    have r0 : rs.length ≤ 6 := by omega
    have r2 : sp ≤ spot + 150 := by omega
    have r1 : spot ≤ sp := by omega
    k_steps
    with_reducible rename Fr h₀ _ _ _ => kF9
    with_reducible rename News h₀ _ _ _ => kN9
    refine ret _ cap vsR rs tl sp u1 st u2 _ _ r0 hl4 hD r1 r2 hst hsub (hoff.ne (by simp)) (hoff.ne (by simp)) (hoff.ne (by simp)) ?r3 ?r4 kF9 (News.part kN9 ?r5)
    case r3 => k_ne
    case r4 => k_ne
    case r5 => ((iterate 3 (refine List.forall_mem_cons.mpr ⟨by k_mem, ?_⟩)); intro p hp; (repeat (first | exact hp | refine List.Mem.tail _ ?_)))
/-! R17: tuple(xs), xs a list of the ledger -/
section
variable {prog : Program} {w : World} {A : Around} {E : Value → Shared → Prop} {s : Shared} {h₀ : Heap} {L l : Addr} {m : Str → Option Value} {news : List (Addr × Obj)} {vs : List Value} {cap : Nat} {Q : Value → Shared → Prop}
theorem tup_copyR (F : Fr h₀ L s.heap m) (N : News h₀ L s.heap news) (hm : (l, W.listOf vs.toArray cap) ∈ news) (hz : vs.length ≤ 100)
    (h : ∀ D h', Fr h₀ L h' m → News h₀ L h' ((D, tupObj vs) :: news) → (∀ p ∈ news, p.1 < D) → Q (.ref D) { s with heap := h' }) : wpAny (model prog w) A (call (.type "tuple") [.ref l]) Q E s :=
  kde_tupleOf (zs := vs) F N (News.isList N hm) (by rw [List.size_toArray]; omega) (by simp) h
end
/-! P15: ProofRow(place, state, some, rank) -/
set_option maxHeartbeats 4000000 in
theorem prow_c (w : World) {p : Program} {loose : List Str} {mean : ExcName → Option Value} {mg mb : Str → Option Value} {dp un : Nat} {gd : Option (List Code)} {cn : Str} {cs : Scope} {a : Addr} {ccd : Value} {cl : List (Str × Addr)} {outer : List Env} {A₀ : Around} {base h₀ : Heap} {L : Addr}
    {m : Str → Option Value} {s : Shared} {Q E : Value → Shared → Prop} {nw : List (Addr × Obj)} {place k : Int} {t1 t2 : Tok} {so sl : Addr} {svs : List Value} {gs : List Int} {cap : Nat}
    (B : Below A₀ base outer h₀) (F : Fr h₀ L s.heap m) (X : (hd.heap_1 w.params).In h₀) (N : News h₀ L s.heap nw) (T : Top p loose mean mg mb h₀) (hk : cs.kind = .function) (hm : (sl, W.listOf svs.toArray cap) ∈ nw) (hi : IntsAre svs gs) (hz : svs.length ≤ 100) (hd : dp + 30 < recursionLimit) (hu : un + 1500 < cLine)
    (ret : ∀ x new h' tk', RowIn new (.ref x) (place, gs, k) → (∀ p ∈ nw, ∀ q ∈ new, p.1 < q.1) → Fr h₀ L h' m → News h₀ L h' (new ++ nw) → Q (.ref x) { s with heap := h', toks := tk' }) :
    wpAny (model PySem.Challenge.rw_pq1006_01.row.prog w) (ktrTop dp un gd cn cs L a ccd cl outer) (call (.ref 125) [.int place t1, .ref so, .ref sl, .int k t2]) Q E s := by
  k_with_none
  (k_with "k_all" => assumption)
  (k_with "units_room" => ktr_units)
  (k_with "k_room" => ktr_room)
  (k_with "k_units" => ktr_units)
  (k_with "cell_enter" => (refine' code_def ?q4_k1 ?q4_k2 ?q4_k3 ?q4_k4 ?q4_k5 ?q4_kA ?q4_kF ?q4_kK ?q4_k6 ?q4_k7 ?q4_k8 ?q4_k9 ?q4_kB ?_ ?q4_c2 ?q4_c3 ?q4_c4 ?q4_c5; (case q4_kA => exact rfl); (case q4_kF => exact rfl); (case q4_kK => first | assumption | exact rfl); (case q4_k1 => k_asm); (case q4_k2 => k_asm); (case q4_k3 => k_asm); (case q4_k4 => k_asm); (case q4_k5 => k_asm); (case q4_k6 => k_is); (case q4_k7 => k_is); (case q4_k8 => ktr_room); (case q4_k9 => first | exact BindsTo.of_eq (binds := [(_, _), (_, _), (_, _), (_, _), (_, _)]) rfl | exact BindsTo.of_eq rfl | exact binds_K (by k_in) rfl (by k_is) rfl rfl rfl); (case q4_c5 => decide); (case q4_kB => exact locs rfl); (case q4_c2 => exact rfl); (case q4_c3 => exact rfl); (case q4_c4 => exact rfl); k_whole; intro zg9 zL9 zh9 zFG9 zF9 zN9 zB9 zX9 zT9; (try dsimp only); (try k_lift zB9); (try k_fold)))
  (k_with "k_mem" => first | with_reducible assumption | exact List.Mem.head _ | (refine' List.Mem.tail _ ?q5_b; (case q5_b => (show (_ : Addr × Obj) ∈ (_ : List (Addr × Obj)); k_mem))))
  (k_with "k_ne" => (try dsimp only); first | with_reducible assumption | exact Ne.symm (by with_reducible assumption) | exact Nat.ne_of_lt (by with_reducible assumption) | exact Nat.ne_of_gt (by with_reducible assumption))
  (k_with "k_all" => first | exact True.intro | with_reducible assumption | exact allLt_ne (by with_reducible assumption) | exact AllNe.mem (by with_reducible assumption) | (refine' And.intro ?q7_a ?q7_b; (case q7_a => k_ne); (case q7_b => k_all)) | (refine' List.forall_mem_cons.mpr (And.intro ?q7_a ?q7_b); (case q7_a => k_ne); (case q7_b => k_all)))
  (k_with "call type:list" => (k_here; (with_reducible show wpAny _ _ (call (Value.type _) [Value.ref _]) _ _ _); k_dflt (refine' list_copyK ?q8_k1 ?q8_k2 ?q8_k3 ?_ ?q8_z; (case q8_k1 => k_asm); (case q8_k2 => k_asm); (case q8_k3 => exact News.isList (by k_asm) (by k_mem)); (case q8_z => exact size_line _ (by with_reducible assumption)); k_whole); intro zD9 zc9 zh9 zF9 zN9 zl1; (try k_lt zl1); (try k_sweep)))
  (k_with "call builtin:len" => (k_here; (with_reducible show wpAny _ _ (call (Value.builtin "len") [Value.ref _]) _ _ _); k_dflt (refine' lenL_any ?q9_N ?q9_m ?q9_l ?q9_z ?_; (case q9_N => k_asm); (case q9_m => k_mem); (case q9_l => first | with_reducible assumption | exact rfl); (case q9_z => first | with_reducible assumption | exact Nat.le_trans (by with_reducible assumption) (by decide)); k_whole)))
  (k_with "subscriptTail" => (k_here; (with_reducible show wpAny _ _ (subscriptTail _ _ (Value.ref _) (Value.int _ _)) _ _ _); k_dflt (refine' listAt ?q10_N ?q10_m ?q10_lo ?q10_hi ?q10_z ?_; (case q10_N => k_asm); (case q10_m => k_mem); (case q10_z => first | with_reducible assumption | exact Nat.le_trans (by with_reducible assumption) (by decide)); (case q10_lo => first | with_reducible assumption | omega); (case q10_hi => first | with_reducible assumption | omega); k_whole); intro zv99 zhv99))
  (k_with "ktr_room" => (simp only [depth_under_make, depth_under_kw, depth_in1, depth_deeper, ktr_depth, Nat.add_assoc]; exact room_lt (by with_reducible assumption) (by decide)))
  (k_with "ktr_units" => (simp only [units_under_make, units_deeper, units_in1, ktr_unit, Nat.add_assoc]; exact room_lt (by with_reducible assumption) (by decide)))
  (k_with "call type:tuple" => (k_here; (with_reducible show wpAny _ _ (call (Value.type _) [Value.ref _]) _ _ _); k_dflt (refine' tup_copyR ?q13_F ?q13_N ?q13_m ?q13_z ?_; (case q13_F => k_asm); (case q13_N => k_asm); (case q13_m => k_mem); (case q13_z => with_reducible assumption); k_whole); intro zD9 zh9 zF9 zN9 zl1; (try k_lt zl1); (try k_sweep)))
  (k_with "execs cons" => (k_here; (with_reducible show wpAny _ _ (execs (Stmt.Assign [Expr.Attribute (Expr.Name _ _) _ _] (Expr.Name _ _) _ :: _) _) _ _ _); k_dflt (refine' sets_at (slf := "self") ?q14_S ?q14_X ?q14_self ?q14_k ?q14_ks ?q14_ds ?q14_c1 ?q14_c2 ?q14_c3 ?q14_F ?q14_N ?q14_U ?q14_hx ?q14_K ?q14_d ?q14_l ?_; (case q14_F => k_asm); (case q14_N => k_asm); (case q14_X => k_asm); (case q14_self => exact rfl); (case q14_hx => k_mem); (case q14_U => k_updF); (case q14_k => exact rfl); (case q14_ks => exact rfl); (case q14_ds => exact rfl); (case q14_c1 => k_is); (case q14_c2 => k_is); (case q14_c3 => k_is); (case q14_K => (repeat' (refine' Keys.cons ?_)); (any_goals (exact Keys.nil))); (case q14_S => (refine' SetL.cons ?_ ?_ ?_ ?_ ?_); (repeat' (first | (refine' SetL.cons ?_ ?_ ?_ ?_ ?_) | k_is | exact rfl)); (any_goals (exact SetL.nil))); (case q14_d => decide +kernel); (case q14_l => exact Nat.le_of_ble_eq_true rfl); k_whole); (intro zh9 ztk09 ztk9 zF9 zN9; (try dsimp only [ents, List.cons_append, List.nil_append, List.length_cons, List.length_nil, Nat.reduceAdd] at zN9); (try k_sweep))))
  revert X; k_fill; intro X
  refine call_cls F X N (by k_is) (by k_is) (by k_is) ?_
  intro x' d' h' F' N' l1 l2
  replace l1 := allLt_of l1
  k_lt2 l2
  k_dflt cell_enter
  k_steps
  with_reducible rename Fr h₀ _ _ m => kF9
  with_reducible rename News h₀ _ _ (_ :: _) => kN9
  refine ret x' [_, _, _] _ _ (.mk _ _ _ _ _ _ _ _ _ _ _ _ _ _ _ rfl (.tail _ (.head _)) (.tail _ (.tail _ (.head _))) (.head _) hi) ?lt kF9 kN9
  intro p hp q hq
  simp only [List.mem_cons, List.not_mem_nil, or_false] at hq
  rcases hq with rfl | rfl | rfl <;> first | exact allLt_mem (by with_reducible assumption) p hp | exact Nat.lt_trans (allLt_mem l1 p hp) l2
/-! P16: Proof(rows) -/
set_option maxHeartbeats 4000000 in
theorem proof_c (w : World) {p : Program} {loose : List Str} {mean : ExcName → Option Value} {mg mb : Str → Option Value} {dp un : Nat} {gd : Option (List Code)} {cn : Str} {cs : Scope} {a : Addr} {ccd : Value} {cl : List (Str × Addr)} {outer : List Env} {A₀ : Around} {base h₀ : Heap} {L : Addr}
    {m : Str → Option Value} {s : Shared} {Q E : Value → Shared → Prop} {nw : List (Addr × Obj)} {sl : Addr} {svs : List Value} {cap : Nat}
    (B : Below A₀ base outer h₀) (F : Fr h₀ L s.heap m) (X : (hd.heap_1 w.params).In h₀) (N : News h₀ L s.heap nw) (T : Top p loose mean mg mb h₀) (hk : cs.kind = .function) (hm : (sl, W.listOf svs.toArray cap) ∈ nw) (hz : svs.length ≤ 100) (hd : dp + 30 < recursionLimit) (hu : un + 1500 < cLine)
    (ret : ∀ pr prd tt x6 y6 new h' tk', (pr, instObj 158 prd) ∈ new → (prd, dictOf [⟨x6, .str "rows" y6, .ref tt⟩] 1) ∈ new → (tt, tupObj svs) ∈ new → Fr h₀ L h' m → News h₀ L h' (new ++ nw) → Q (.ref pr) { s with heap := h', toks := tk' }) :
    wpAny (model PySem.Challenge.rw_pq1006_01.row.prog w) (ktrTop dp un gd cn cs L a ccd cl outer) (call (.ref 158) [.ref sl]) Q E s := by
  k_with_none
  (k_with "k_all" => assumption)
  (k_with "units_room" => ktr_units)
  (k_with "k_room" => ktr_room)
  (k_with "k_units" => ktr_units)
  (k_with "cell_enter" => (refine' code_def ?q4_k1 ?q4_k2 ?q4_k3 ?q4_k4 ?q4_k5 ?q4_kA ?q4_kF ?q4_kK ?q4_k6 ?q4_k7 ?q4_k8 ?q4_k9 ?q4_kB ?_ ?q4_c2 ?q4_c3 ?q4_c4 ?q4_c5; (case q4_kA => exact rfl); (case q4_kF => exact rfl); (case q4_kK => first | assumption | exact rfl); (case q4_k1 => k_asm); (case q4_k2 => k_asm); (case q4_k3 => k_asm); (case q4_k4 => k_asm); (case q4_k5 => k_asm); (case q4_k6 => k_is); (case q4_k7 => k_is); (case q4_k8 => ktr_room); (case q4_k9 => first | exact BindsTo.of_eq (binds := [(_, _), (_, _)]) rfl | exact BindsTo.of_eq rfl | exact binds_K (by k_in) rfl (by k_is) rfl rfl rfl); (case q4_c5 => decide); (case q4_kB => exact locs rfl); (case q4_c2 => exact rfl); (case q4_c3 => exact rfl); (case q4_c4 => exact rfl); k_whole; intro zg9 zL9 zh9 zFG9 zF9 zN9 zB9 zX9 zT9; (try dsimp only); (try k_lift zB9); (try k_fold)))
  (k_with "k_mem" => first | with_reducible assumption | exact List.Mem.head _ | (refine' List.Mem.tail _ ?q5_b; (case q5_b => (show (_ : Addr × Obj) ∈ (_ : List (Addr × Obj)); k_mem))))
  (k_with "k_ne" => (try dsimp only); first | with_reducible assumption | exact Ne.symm (by with_reducible assumption) | exact Nat.ne_of_lt (by with_reducible assumption) | exact Nat.ne_of_gt (by with_reducible assumption))
  (k_with "k_all" => first | exact True.intro | with_reducible assumption | exact allLt_ne (by with_reducible assumption) | exact AllNe.mem (by with_reducible assumption) | (refine' And.intro ?q7_a ?q7_b; (case q7_a => k_ne); (case q7_b => k_all)) | (refine' List.forall_mem_cons.mpr (And.intro ?q7_a ?q7_b); (case q7_a => k_ne); (case q7_b => k_all)))
  (k_with "call type:list" => (k_here; (with_reducible show wpAny _ _ (call (Value.type _) [Value.ref _]) _ _ _); k_dflt (refine' list_copyK ?q8_k1 ?q8_k2 ?q8_k3 ?_ ?q8_z; (case q8_k1 => k_asm); (case q8_k2 => k_asm); (case q8_k3 => exact News.isList (by k_asm) (by k_mem)); (case q8_z => exact size_line _ (by with_reducible assumption)); k_whole); intro zD9 zc9 zh9 zF9 zN9 zl1; (try k_lt zl1); (try k_sweep)))
  (k_with "call builtin:len" => (k_here; (with_reducible show wpAny _ _ (call (Value.builtin "len") [Value.ref _]) _ _ _); k_dflt (refine' lenL_any ?q9_N ?q9_m ?q9_l ?q9_z ?_; (case q9_N => k_asm); (case q9_m => k_mem); (case q9_l => first | with_reducible assumption | exact rfl); (case q9_z => first | with_reducible assumption | exact Nat.le_trans (by with_reducible assumption) (by decide)); k_whole)))
  (k_with "subscriptTail" => (k_here; (with_reducible show wpAny _ _ (subscriptTail _ _ (Value.ref _) (Value.int _ _)) _ _ _); k_dflt (refine' listAt ?q10_N ?q10_m ?q10_lo ?q10_hi ?q10_z ?_; (case q10_N => k_asm); (case q10_m => k_mem); (case q10_z => first | with_reducible assumption | exact Nat.le_trans (by with_reducible assumption) (by decide)); (case q10_lo => first | with_reducible assumption | omega); (case q10_hi => first | with_reducible assumption | omega); k_whole); intro zv99 zhv99))
  (k_with "ktr_room" => (simp only [depth_under_make, depth_under_kw, depth_in1, depth_deeper, ktr_depth, Nat.add_assoc]; exact room_lt (by with_reducible assumption) (by decide)))
  (k_with "ktr_units" => (simp only [units_under_make, units_deeper, units_in1, ktr_unit, Nat.add_assoc]; exact room_lt (by with_reducible assumption) (by decide)))
  (k_with "call type:tuple" => (k_here; (with_reducible show wpAny _ _ (call (Value.type _) [Value.ref _]) _ _ _); k_dflt (refine' tup_copyR ?q13_F ?q13_N ?q13_m ?q13_z ?_; (case q13_F => k_asm); (case q13_N => k_asm); (case q13_m => k_mem); (case q13_z => with_reducible assumption); k_whole); intro zD9 zh9 zF9 zN9 zl1; (try k_lt zl1); (try k_sweep)))
  revert X; k_fill; intro X
  refine call_cls F X N (by k_is) (by k_is) (by k_is) ?_
  intro x' d' h' F' N' l1 l2
  replace l1 := allLt_of l1
  k_lt2 l2
  k_dflt cell_enter
  k_steps
  with_reducible rename Fr h₀ _ _ m => kF9
  with_reducible rename News h₀ _ _ (_ :: _) => kN9
  exact ret x' d' _ _ _ [_, _, _] _ _ (.tail _ (.head _)) (.tail _ (.tail _ (.head _))) (.head _) kF9 kN9
/-! R16: «[elt for a, b, c in xs]» over a list of the ledger; «[elt for x in t]» over a tuple; «[elt for x in range(n)]»: the ledger may grow -/
/-- between the turns -/
inductive ThreeJ (h₀ : Heap) (L : Addr) (m : Str → Option Value) (s : Shared) (I ax : Addr) (vs : List Value) (C D : Addr) (J : Nat → List Value → List (Addr × Obj) → Prop) (k : Nat) (s' : Shared) : Prop
  | mk (h : Heap) (tk i : Nat) (ys : List Value) (m' : Str → Option Value) (nx : List (Addr × Obj)) : s' = { s with heap := h, toks := tk } → i ≤ vs.length → k = vs.length + 1 - i → ys.length = i → h.IsListIter I ax i → Fr h₀ L h m → h.Ns C m' →
      News h₀ L h ((D, LCg.lst ys) :: nx) → LCg.Off3 I C D nx → J i ys nx → ThreeJ h₀ L m s I ax vs C D J k s'
section
variable {prog : Program} {w : World} {A : Around} {E : Value → Shared → Prop} {s : Shared} {h₀ : Heap} {L : Addr} {m : Str → Option Value} {env : Env}
theorem three_loop {elt iter : Expr} {x1 x2 x3 : Str} {p1 p2 p3 tp : Pos} {tk0 : Nat} {scope : Scope} {cl : List (Str × Addr)} {pos : Pos} {I ax C D : Addr} {vs : List Value} {cap : Nat} {R : Result → Shared → Prop} (J : Nat → List Value → List (Addr × Obj) → Prop)
    (hz : vs.length ≤ 100) (hh : A.handled = none) (hkind : scope.kind = .function) (hx1 : scope.names.lookup x1 = some .local) (hx2 : scope.names.lookup x2 = some .local) (hx3 : scope.names.lookup x3 = some .local) (n12 : x1 ≠ x2) (n13 : x1 ≠ x3) (n23 : x2 ≠ x3)
    (hne : ax ≠ I) (hIL : L ≠ I) (hCL : C ≠ L) (hDL : D ≠ L) (hIC : I ≠ C) (hID : I ≠ D) (hCD : C ≠ D) (hI₀ : h₀.get? I = none) (hC₀ : h₀.get? C = none) (hD₀ : h₀.get? D = none)
    (hJm : ∀ i ys nx, J i ys nx → (ax, W.listOf vs.toArray cap) ∈ nx)
    (hJt : ∀ i ys nx v, J i ys nx → vs[i]? = some v → ∃ (t : Addr) (n : Nat) (v1 v2 v3 : Value), v = .ref t ∧ (t, ({ cls := .type "tuple", data := .seq #[v1, v2, v3] n } : Obj)) ∈ nx)
    (turn : ∀ i ys nx (t : Addr) (n : Nat) (v1 v2 v3 : Value) oI oC m₂ h tk (E' : Value → Shared → Prop), vs[i]? = some (.ref t) → (t, ({ cls := .type "tuple", data := .seq #[v1, v2, v3] n } : Obj)) ∈ nx → J i ys nx → LCg.NsObj oC m₂ → m₂ x1 = some v1 → m₂ x2 = some v2 → m₂ x3 = some v3 →
      Fr h₀ L h m → News h₀ L h ((I, oI) :: (C, oC) :: (D, LCg.lst ys) :: nx) → LCg.Off3 I C D nx →
      wpAny (model prog w) A (eval elt (compEnvC scope cl C env)) (EndY h₀ L m { s with heap := h, toks := tk } I oI C oC D (LCg.lst ys) (fun y nx' => J (i + 1) (ys ++ [y]) nx')) E' { s with heap := h, toks := tk })
    (done : ∀ ys nx h tk m', J vs.length ys nx → Fr h₀ L h m → h.Ns C m' → News h₀ L h ((D, LCg.lst ys) :: nx) → LCg.Off3 I C D nx → R (.ok .next) { s with heap := h, toks := tk })
    {k : Nat} {s' : Shared} (st : ThreeJ h₀ L m s I ax vs C D J k s') :
    codeAny (model prog w) A (.compLoop (.ListComp elt [⟨.Tuple [.Name x1 p1, .Name x2 p2, .Name x3 p3] tk0 tp, iter, [], 0⟩] scope pos) 0 (.ref I) (.ref D) (compEnvC scope cl C env)) R s' := by
  refine LCp.codeAny_compLoop_pair (ThreeJ h₀ L m s I ax vs C D J) ?_ k st
  rintro k s' ⟨h, tk, i, ys, m', nx, rfl, hi, rfl, hyl, hit, F, hn, N, off, hJ⟩
  have offm := off.mem
  have hl : h.IsList ax vs.toArray := ⟨_, (N _ (.tail _ (hJm _ _ _ hJ))).1, rfl, cap, rfl⟩
  have Wk := Walks.list (prog := prog) (w := w) hh I ax hne vs.toArray
  have hsz : vs.toArray.size = vs.length := List.size_toArray
  by_cases hlt : i < vs.length
  · refine Wk.item i _ _ _ (by rw [hsz]; exact hlt) ⟨hit, hl⟩ fun v h2 tk2 hv st2 keep2 => ?_
    have hv' : vs[i]? = some v := by simpa using hv
    obtain ⟨t, n, v1, v2, v3, rfl, hmt⟩ := hJt _ _ _ _ hJ hv'
    have N2 : News h₀ L h2 ((D, LCg.lst ys) :: nx) := LCg.news_but N keep2 fun p hp => by
      rcases List.mem_cons.mp hp with rfl | hp
      · exact Ne.symm hID
      · exact (offm p hp).1
    have ht : IsTup h2 t #[v1, v2, v3] := ⟨_, (N2 _ (.tail _ hmt)).1, rfl, n, rfl⟩
    refine wpAny_letOwnedTupleGo_listiter st2.1 (assign_Tuple_tuple hh ht rfl rfl fun h3 he => ?_)
    have k3 : ∀ b o, h2.get? b = some o → h3.get? b = some o := fun b o e => he b o (Nat.ne_of_lt (Heap.lt_size e)) e
    have hnC : h3.Ns C m' := (hn.at' fun o e => keep2 _ o (by simpa using Ne.symm hIC) e).at' fun o e => k3 _ o e
    refine assignInOrder_cons (wpAny_assign_Name (wpAny_storeName_local (lookup_relabel_local hx1) hnC (fun h4 hn4 hs4 => ?_) (by simp [compEnvC, relabel, hkind])))
    refine assignInOrder_cons (wpAny_assign_Name (wpAny_storeName_local (lookup_relabel_local hx2) hn4 (fun h5 hn5 hs5 => ?_) (by simp [compEnvC, relabel, hkind])))
    refine assignInOrder_cons (wpAny_assign_Name (wpAny_storeName_local (lookup_relabel_local hx3) hn5 (fun h6 hn6 hs6 => ?_) (by simp [compEnvC, relabel, hkind])))
    refine assignInOrder_nil ?_
    have k6 : ∀ b o, b ≠ C → h2.get? b = some o → h6.get? b = some o := fun b o hb e => hs6.extBut b o hb (hs5.extBut b o hb (hs4.extBut b o hb (k3 b o e)))
    obtain ⟨oI, hoI, hoI'⟩ := st2.1
    obtain ⟨oC, hoC, hC⟩ := LCg.ns_obj hn6
    have F6 : Fr h₀ L h6 m := ((((LCg.fr_but F keep2 hIL hI₀).keeps k3).change hs4 hCL hC₀).change hs5 hCL hC₀).change hs6 hCL hC₀
    have N6 : News h₀ L h6 ((I, oI) :: (C, oC) :: (D, LCg.lst ys) :: nx) := fun p hp => by
      rcases List.mem_cons.mp hp with rfl | hp
      · exact ⟨k6 _ _ hIC hoI, Ne.symm hIL, hI₀⟩
      · rcases List.mem_cons.mp hp with rfl | hp
        · exact ⟨hoC, hCL, hC₀⟩
        · refine ⟨k6 _ _ ?_ (N2 p hp).1, (N2 p hp).2⟩
          rcases List.mem_cons.mp hp with rfl | hp
          · exact Ne.symm hCD
          · exact (offm p hp).2.1
    refine wpAny_mono (turn i ys nx t n v1 v2 v3 oI oC _ h6 _ _ hv' hmt hJ hC (by simp [n12, n13]) (by simp [n23]) (by simp) F6 N6 off) (fun y s7 q => ?_) fun _ _ e => e
    obtain ⟨h7, tk7, nx7, rfl, F7, N7, off7, _, J7⟩ := (show LCg.CompEnd _ _ _ _ _ _ _ _ _ _ _ _ _ _ from q)
    have off7m := off7.mem
    have zI := (N7 (I, oI) (.head _)).1
    have zC := (N7 (C, oC) (.tail _ (.head _))).1
    have zD := (N7 (D, LCg.lst ys) (.tail _ (.tail _ (.head _)))).1
    refine append_at (hsz := by show ys.toArray.size ≤ sizeLine; rw [List.size_toArray, hyl, sizeLine_eq]; omega) zD fun h8 hs8 hD8 => ?_
    refine ⟨vs.length + 1 - (i + 1), by omega, h8, tk7, i + 1, ys ++ [y], _, nx7, rfl, hlt, rfl, by simp [hyl], ⟨oI, hs8.extBut _ _ hID zI, hoI'⟩, F7.change hs8 hDL hD₀, (hC.ns zC).sameBut hs8 hCD, fun p hp => ?_, off7, J7⟩
    rcases List.mem_cons.mp hp with rfl | hp
    · exact ⟨hD8.trans (congrArg some (LCg.lst_snoc ys y)), hDL, hD₀⟩
    · have z := N7 p (.tail _ (.tail _ (.tail _ hp)))
      exact ⟨hs8.extBut _ _ (off7m p hp).2.2 z.1, z.2⟩
  · obtain rfl : i = vs.length := Nat.le_antisymm hi (Nat.not_lt.mp hlt)
    refine Wk.done _ _ _ ?_ fun h2 tk2 keep2 => ?_
    · rw [hsz]; exact ⟨hit, hl⟩
    · exact done ys nx h2 tk2 m' hJ (LCg.fr_but F keep2 hIL hI₀) (hn.at' fun o e => keep2 _ o (by simpa using Ne.symm hIC) e) (LCg.news_but N keep2 fun p hp => by
        rcases List.mem_cons.mp hp with rfl | hp
        · exact Ne.symm hID
        · exact (offm p hp).1) off
theorem three_block {elt iter : Expr} {x1 x2 x3 : Str} {p1 p2 p3 tp : Pos} {tk0 : Nat} {scope : Scope} {cl : List (Str × Addr)} {pos : Pos} {I ax : Addr} {vs : List Value} {cap : Nat} {nw : List (Addr × Obj)} {RR : Value → Addr → Result → Shared → Prop} (J : Nat → List Value → List (Addr × Obj) → Prop)
    (hz : vs.length ≤ 100) (hh : A.handled = none) (hcell : ∀ z ∈ scope.names, z.2 ≠ .cell) (hkind : scope.kind = .function) (hx1 : scope.names.lookup x1 = some .local) (hx2 : scope.names.lookup x2 = some .local) (hx3 : scope.names.lookup x3 = some .local) (n12 : x1 ≠ x2) (n13 : x1 ≠ x3) (n23 : x2 ≠ x3)
    (hit : s.heap.IsListIter I ax 0) (hne : ax ≠ I) (F : Fr h₀ L s.heap m) (N : News h₀ L s.heap nw) (hIL : L ≠ I) (hI₀ : h₀.get? I = none) (offI : ∀ p ∈ nw, p.1 ≠ I) (J0 : J 0 [] nw)
    (hJm : ∀ i ys nx, J i ys nx → (ax, W.listOf vs.toArray cap) ∈ nx)
    (hJt : ∀ i ys nx v, J i ys nx → vs[i]? = some v → ∃ (t : Addr) (n : Nat) (v1 v2 v3 : Value), v = .ref t ∧ (t, ({ cls := .type "tuple", data := .seq #[v1, v2, v3] n } : Obj)) ∈ nx)
    (turn : ∀ i ys nx (t : Addr) (n : Nat) (v1 v2 v3 : Value) I oI C oC D m₂ h tk (E' : Value → Shared → Prop), vs[i]? = some (.ref t) → (t, ({ cls := .type "tuple", data := .seq #[v1, v2, v3] n } : Obj)) ∈ nx → J i ys nx → LCg.NsObj oC m₂ → m₂ x1 = some v1 → m₂ x2 = some v2 → m₂ x3 = some v3 →
      Fr h₀ L h m → News h₀ L h ((I, oI) :: (C, oC) :: (D, LCg.lst ys) :: nx) → LCg.Off3 I C D nx → ((@Ne Nat I C) ∧ (@Ne Nat I D) ∧ (@Ne Nat C D)) →
      wpAny (model prog w) A (eval elt (compEnvC scope cl C env)) (EndY h₀ L m { s with heap := h, toks := tk } I oI C oC D (LCg.lst ys) (fun y nx' => J (i + 1) (ys ++ [y]) nx')) E' { s with heap := h, toks := tk })
    (hRR : ∀ D C h tk m' ys nx, Fr h₀ L h m → News h₀ L h ((D, LCg.lst ys) :: nx) → LCg.Off3 I C D nx → h.Ns C m' → h₀.get? C = none → C ≠ L → C ≠ D → J vs.length ys nx → RR (.ref D) C (.ok .next) { s with heap := h, toks := tk }) :
    wpAny (model prog w) A (newList []) (fun acc s₃ => wpAny (model prog w) A (newFunctionEnv scope env.globals cl [] env.qual none .none (some env)) (fun cenv s₄ =>
      codeAny (model prog w) A (.compStart (.ListComp elt [⟨.Tuple [.Name x1 p1, .Name x2 p2, .Name x3 p3] tk0 tp, iter, [], 0⟩] scope pos) 0 (.ref I) acc { cenv with scope := relabel scope env }) (RR acc cenv.locals) s₄) E s₃) E s := by
  refine wpAny_newObj_type (wpAny_newFunctionEnv hcell (by intro y hy; simp at hy) (fun h1 hns1 hsb1 => ?_) hkind)
  dsimp only at hns1 hsb1 ⊢
  generalize hH : s.heap.push { cls := .type "list", dict := none, data := .seq ([] : List Value).toArray } = H at hns1 hsb1 ⊢
  have hC : H.objs.size = s.heap.objs.size + 1 := by rw [← hH, Heap.size_push]
  have small : ∀ b, b < s.heap.objs.size → b ≠ H.objs.size ∧ b ≠ s.heap.objs.size := fun b hb => ⟨by rw [hC]; exact Nat.ne_of_lt (Nat.lt_succ_of_lt hb), Nat.ne_of_lt hb⟩
  have hDC : s.heap.objs.size ≠ H.objs.size := by rw [hC]; exact Nat.ne_of_lt (Nat.lt_succ_self _)
  have keep : ∀ b o, s.heap.get? b = some o → h1.get? b = some o := fun b o e => hsb1.extBut b o (small b (Heap.lt_size e)).1 (Heap.get?_push_of_some _ (hH ▸ Heap.get?_push_of_some _ e))
  have hD1 : h1.get? s.heap.objs.size = some (LCg.lst []) := hsb1.extBut _ _ hDC (Heap.get?_push_of_some _ (hH ▸ Heap.get?_push_size _ rfl))
  have new0 : ∀ a, s.heap.objs.size ≤ a → h₀.get? a = none := fun a ha => by
    cases e : h₀.get? a with
    | none => rfl
    | some o' => exact absurd (Heap.lt_size (F.keep a o' e)) (Nat.not_lt.mpr ha)
  have hIlt : I < s.heap.objs.size := by obtain ⟨_, e, _⟩ := hit; exact Heap.lt_size e
  have hDL : s.heap.objs.size ≠ L := Ne.symm (small L F.ns.lt).2
  have hCL : H.objs.size ≠ L := Ne.symm (small L F.ns.lt).1
  have hit1 : h1.IsListIter I ax 0 := by obtain ⟨o, e, r⟩ := hit; exact ⟨o, keep _ _ e, r⟩
  have st : ThreeJ h₀ L m s I ax vs H.objs.size s.heap.objs.size J (vs.length + 1) { s with heap := h1, toks := s.toks + ([] : List (Str × Value)).length } := by
    refine ⟨h1, _, 0, [], _, nw, rfl, Nat.zero_le _, rfl, rfl, hit1, F.keeps keep, hns1, fun p hp => ?_, LCg.Off3.of fun p hp => ⟨offI p hp, small _ (Heap.lt_size (N p hp).1)⟩, J0⟩
    rcases List.mem_cons.mp hp with rfl | hp
    · exact ⟨hD1, hDL, new0 _ (Nat.le_refl _)⟩
    · exact ⟨keep _ _ (N p hp).1, (N p hp).2⟩
  have go : codeAny (model prog w) A (.compLoop (.ListComp elt [⟨.Tuple [.Name x1 p1, .Name x2 p2, .Name x3 p3] tk0 tp, iter, [], 0⟩] scope pos) 0 (.ref I) (.ref s.heap.objs.size) (compEnvC scope cl H.objs.size env))
      (RR (.ref s.heap.objs.size) H.objs.size) { s with heap := h1, toks := s.toks + ([] : List (Str × Value)).length } :=
    three_loop J hz hh hkind hx1 hx2 hx3 n12 n13 n23 hne hIL hCL hDL (small I hIlt).1 (small I hIlt).2 (Ne.symm hDC) hI₀ (new0 _ (by rw [hC]; exact Nat.le_succ _)) (new0 _ (Nat.le_refl _)) hJm hJt
      (fun i ys nx t n v1 v2 v3 oI oC m₂ h tk E' a1 a2 a3 a4 a5 a6 a7 F2 N2 o => turn i ys nx t n v1 v2 v3 I oI _ oC _ m₂ h tk E' a1 a2 a3 a4 a5 a6 a7 F2 N2 o ⟨(small I hIlt).1, (small I hIlt).2, Ne.symm hDC⟩)
      (fun ys nx h tk m' a1 F2 hn N2 o => hRR _ _ h tk m' ys nx F2 N2 o hn (new0 _ (by rw [hC]; exact Nat.le_succ _)) hCL (Ne.symm hDC) a1) st
  have hl1 : h1.IsList ax vs.toArray := ⟨_, keep _ _ (N _ (hJm _ _ _ J0)).1, rfl, cap, rfl⟩
  exact codeAny_compStart_list go ((Walks.list (prog := prog) (w := w) hh I ax hne vs.toArray).self 0 _ _ _ ⟨hit1, hl1⟩ go)
theorem comp_list3 {elt iter : Expr} {x1 x2 x3 : Str} {p1 p2 p3 tp : Pos} {tk0 : Nat} {scope : Scope} {cl : List (Str × Addr)} {pos : Pos} {ax : Addr} {vs : List Value} {cap : Nat} {nw : List (Addr × Obj)} {Q : Value → Shared → Prop} (J : Nat → List Value → List (Addr × Obj) → Prop)
    (hz : vs.length ≤ 100) (hh : A.handled = none) (F₀ : Fr h₀ env.locals s.heap m)
    (hclos : closureFor scope env = pure cl) (hcell : ∀ z ∈ scope.names, z.2 ≠ .cell) (hkind : scope.kind = .function)
    (hnames : ∀ z ∈ scope.names, z.2 = .local → scope.names.lookup z.1 = some .local) (hx1 : scope.names.lookup x1 = some .local) (hx2 : scope.names.lookup x2 = some .local) (hx3 : scope.names.lookup x3 = some .local) (n12 : x1 ≠ x2) (n13 : x1 ≠ x3) (n23 : x2 ≠ x3)
    (hit : wpAny (model prog w) A (eval iter env) (MidS h₀ env.locals s m nw ax) E s) (J0 : J 0 [] nw)
    (hJm : ∀ i ys nx, J i ys nx → (ax, W.listOf vs.toArray cap) ∈ nx)
    (hJt : ∀ i ys nx v, J i ys nx → vs[i]? = some v → ∃ (t : Addr) (n : Nat) (v1 v2 v3 : Value), v = .ref t ∧ (t, ({ cls := .type "tuple", data := .seq #[v1, v2, v3] n } : Obj)) ∈ nx)
    (turn : ∀ i ys nx (t : Addr) (n : Nat) (v1 v2 v3 : Value) I oI C oC D m₂ h tk (E' : Value → Shared → Prop), vs[i]? = some (.ref t) → (t, ({ cls := .type "tuple", data := .seq #[v1, v2, v3] n } : Obj)) ∈ nx → J i ys nx → LCg.NsObj oC m₂ → m₂ x1 = some v1 → m₂ x2 = some v2 → m₂ x3 = some v3 →
      Fr h₀ env.locals h m → News h₀ env.locals h ((I, oI) :: (C, oC) :: (D, LCg.lst ys) :: nx) → LCg.Off3 I C D nx → ((@Ne Nat I C) ∧ (@Ne Nat I D) ∧ (@Ne Nat C D)) →
      wpAny (model prog w) A (eval elt (compEnvC scope cl C env)) (EndY h₀ env.locals m { s with heap := h, toks := tk } I oI C oC D (LCg.lst ys) (fun y nx' => J (i + 1) (ys ++ [y]) nx')) E' { s with heap := h, toks := tk })
    (done : ∀ ys nx D h tk, J vs.length ys nx → Fr h₀ env.locals h m → News h₀ env.locals h ((D, LCg.lst ys) :: nx) → AllNe D nx → Q (.ref D) { s with heap := h, toks := tk })
    (hs : ∀ x, foldedSetIterable iter env x = pure x := by intro _; rfl) :
    wpAny (model prog w) A (eval (.ListComp elt [⟨.Tuple [.Name x1 p1, .Name x2 p2, .Name x3 p3] tk0 tp, iter, [], 0⟩] scope pos) env) Q E s := by
  rw [eval_ListComp]
  refine wpAny_comprehension_free (use := none) rfl hs hclos hkind hnames (wpAny_mono hit (fun xv s1 q => ?_) fun _ _ e => e)
  obtain ⟨h', tk', rfl, rfl, F, N⟩ := q
  have hax := N _ (hJm _ _ _ J0)
  have hlt : ax < h'.objs.size := Heap.lt_size hax.1
  have hl : h'.IsList ax vs.toArray := ⟨_, hax.1, rfl, cap, rfl⟩
  refine wpAny_pyIter_list hl ?_
  have up : ∀ b o, h'.get? b = some o → (h'.push { cls := .type "list_iterator", data := .fields #[.ref ax, .int 0 0] }).get? b = some o := fun b o e => Heap.get?_push_of_some _ e
  refine three_block J hz hh hcell hkind hx1 hx2 hx3 n12 n13 n23 (I := h'.objs.size) ⟨_, Heap.get?_push_size _ rfl, rfl, rfl⟩ (Nat.ne_of_lt hlt) (F.keeps up) (N.grown up) (Nat.ne_of_lt F.ns.lt) (next_is_new F) (fun p hp => Nat.ne_of_lt (Heap.lt_size (N p hp).1)) J0 hJm hJt turn ?_
  intro D C h tk m' ys nx F2 N2 off hn hC₀ hCL hCD a
  have offm := off.mem
  refine ⟨m', hn, fun h2 hs2 => done ys nx D h2 tk a (F2.change hs2 hCL hC₀) (fun p hp => ?_) (off1_ne off.one)⟩
  refine ⟨hs2.extBut _ _ ?_ (N2 p hp).1, (N2 p hp).2⟩
  rcases List.mem_cons.mp hp with rfl | hp
  · exact Ne.symm hCD
  · exact (offm p hp).2.1
/-- «[elt for x in t]», t a tuple of the ledger -/
theorem comp_tupG {elt iter : Expr} {x : Str} {px : Pos} {scope : Scope} {cl : List (Str × Addr)} {pos : Pos} {ax : Addr} {vs : List Value} {nw : List (Addr × Obj)} {Q : Value → Shared → Prop} (J : Nat → List Value → List (Addr × Obj) → Prop)
    (hz : vs.length ≤ 100) (hh : A.handled = none) (F₀ : Fr h₀ env.locals s.heap m)
    (hclos : closureFor scope env = pure cl) (hcell : ∀ z ∈ scope.names, z.2 ≠ .cell) (hkind : scope.kind = .function)
    (hnames : ∀ z ∈ scope.names, z.2 = .local → scope.names.lookup z.1 = some .local) (hx : scope.names.lookup x = some .local)
    (hit : wpAny (model prog w) A (eval iter env) (MidS h₀ env.locals s m nw ax) E s) (J0 : J 0 [] nw)
    (hJm : ∀ i ys nx, J i ys nx → (ax, tupObj vs) ∈ nx)
    (turn : ∀ i ys nx v I oI C oC D m₂ h tk (E' : Value → Shared → Prop), vs[i]? = some v → J i ys nx → LCg.NsObj oC m₂ → m₂ x = some v →
      Fr h₀ env.locals h m → News h₀ env.locals h ((I, oI) :: (C, oC) :: (D, LCg.lst ys) :: nx) → LCg.Off3 I C D nx → ((@Ne Nat I C) ∧ (@Ne Nat I D) ∧ (@Ne Nat C D)) →
      wpAny (model prog w) A (eval elt (compEnvC scope cl C env)) (EndY h₀ env.locals m { s with heap := h, toks := tk } I oI C oC D (LCg.lst ys) (fun y nx' => J (i + 1) (ys ++ [y]) nx')) E' { s with heap := h, toks := tk })
    (done : ∀ ys nx D h tk, J vs.length ys nx → Fr h₀ env.locals h m → News h₀ env.locals h ((D, LCg.lst ys) :: nx) → AllNe D nx → Q (.ref D) { s with heap := h, toks := tk })
    (hs : ∀ x, foldedSetIterable iter env x = pure x := by intro _; rfl) :
    wpAny (model prog w) A (eval (.ListComp elt [⟨.Name x px, iter, [], 0⟩] scope pos) env) Q E s := by
  rw [eval_ListComp]
  refine wpAny_comprehension_free (use := none) rfl hs hclos hkind hnames (wpAny_mono hit (fun xv s1 q => ?_) fun _ _ e => e)
  obtain ⟨h', tk', rfl, rfl, F, N⟩ := q
  have hax := N _ (hJm _ _ _ J0)
  have hlt : ax < h'.objs.size := Heap.lt_size hax.1
  have hl : h'.IsTuple ax vs.toArray := ⟨_, hax.1, rfl, 0, rfl⟩
  refine wpAny_pyIter_tuple hl ?_
  have up : ∀ b o, h'.get? b = some o → (h'.push { cls := .type "tuple_iterator", data := .fields #[.ref ax, .int 0 0] }).get? b = some o := fun b o e => Heap.get?_push_of_some _ e
  have hsz : vs.toArray.size = vs.length := List.size_toArray
  refine LCg.block_U (S := fun nx => (ax, tupObj vs) ∈ nx) (Fin := fun ys nx => J vs.length ys nx) (Walks.tuple hh h'.objs.size ax (Nat.ne_of_lt hlt) vs.toArray) (by rw [hsz, sizeLine_eq]; omega) (fun i h st => by obtain ⟨o, e, _⟩ := st.1; exact ⟨o, e⟩) ?st hcell hkind hx
    ⟨⟨_, Heap.get?_push_size _ rfl, rfl, rfl⟩, ⟨_, up _ _ hax.1, rfl, 0, rfl⟩⟩ (fun b hb => ?_) (F.keeps up) (N.grown up) (Nat.ne_of_lt F.ns.lt) (next_is_new F) (fun p hp => Nat.ne_of_lt (Heap.lt_size (N p hp).1)) (hJm _ _ _ J0) ?rest ?_
  case st =>
    intro i h h2 o nx st e e2 k N2 S
    refine ⟨?_, ⟨_, (N2 _ S).1, rfl, 0, rfl⟩⟩
    obtain ⟨o', q, r⟩ := st.1
    rw [e] at q
    cases q
    exact ⟨o, e2, r⟩
  · show b < (h'.push _).objs.size
    rw [Heap.size_push]
    rcases List.mem_cons.mp hb with rfl | hb
    · exact Nat.lt_succ_self _
    · rw [List.mem_singleton.mp hb]; exact Nat.lt_succ_of_lt hlt
  case rest =>
    rw [hsz]
    refine compU_rest J vs.length ?_ vs.length 0 [] _ (by omega) (fun ys nx a => by rw [Nat.zero_add] at a; exact a) J0
    intro i ys nx v I oI C oC D m₂ h tk E' hi hJ hv hC hx' F2 N2 off ne
    refine wpAny_mono (turn i ys nx v I oI C oC D m₂ h tk E' (by simpa using hv) hJ hC hx' F2 N2 off ne) (fun y s'' c => ?_) fun _ _ e => e
    obtain ⟨h2, tk2, n2, e, F3, N3, o3, _, r⟩ := (show LCg.CompEnd _ _ _ _ _ _ _ _ _ _ _ _ _ _ from c)
    exact ⟨h2, tk2, n2, e, F3, N3, o3, hJm _ _ _ r, r⟩
  · intro D C h tk m' ys nx F2 N2 off hn hC₀ hD₀ hCL hDL hCD offC a
    refine ⟨m', hn, fun h2 hs2 => done ys nx D h2 tk a (F2.change hs2 hCL hC₀) (fun p hp => ?_) (off1_ne off)⟩
    refine ⟨hs2.extBut _ _ ?_ (N2 p hp).1, (N2 p hp).2⟩
    rcases List.mem_cons.mp hp with rfl | hp
    · exact Ne.symm hCD
    · exact offC p hp
/-- «[elt for x in range(n)]» -/
theorem comp_rangeG {elt iter : Expr} {x : Str} {px : Pos} {scope : Scope} {cl : List (Str × Addr)} {pos : Pos} {n : Nat} {nw : List (Addr × Obj)} {Q : Value → Shared → Prop} (hn : n ≤ 20) (J : Nat → List Value → List (Addr × Obj) → Prop)
    (hh : A.handled = none) (F₀ : Fr h₀ env.locals s.heap m)
    (hclos : closureFor scope env = pure cl) (hcell : ∀ z ∈ scope.names, z.2 ≠ .cell) (hkind : scope.kind = .function)
    (hnames : ∀ z ∈ scope.names, z.2 = .local → scope.names.lookup z.1 = some .local) (hx : scope.names.lookup x = some .local)
    (hit : wpAny (model prog w) A (eval iter env) (MidN h₀ env.locals s m nw n) E s) (J0 : J 0 [] nw)
    (turn : ∀ (i : Nat) ys nx (t : Tok) I oI C oC D m₂ h tk (E' : Value → Shared → Prop), i < n → J i ys nx → LCg.NsObj oC m₂ → m₂ x = some (.int (i : Int) t) →
      Fr h₀ env.locals h m → News h₀ env.locals h ((I, oI) :: (C, oC) :: (D, LCg.lst ys) :: nx) → LCg.Off3 I C D nx → ((@Ne Nat I C) ∧ (@Ne Nat I D) ∧ (@Ne Nat C D)) →
      wpAny (model prog w) A (eval elt (compEnvC scope cl C env)) (EndY h₀ env.locals m { s with heap := h, toks := tk } I oI C oC D (LCg.lst ys) (fun y nx' => J (i + 1) (ys ++ [y]) nx')) E' { s with heap := h, toks := tk })
    (done : ∀ ys nx D h tk, J n ys nx → Fr h₀ env.locals h m → News h₀ env.locals h ((D, LCg.lst ys) :: nx) → AllNe D nx → Q (.ref D) { s with heap := h, toks := tk })
    (hs : ∀ x, foldedSetIterable iter env x = pure x := by intro _; rfl) :
    wpAny (model prog w) A (eval (.ListComp elt [⟨.Name x px, iter, [], 0⟩] scope pos) env) Q E s := by
  refine LCg.ListComp_U F₀ hclos hcell hkind hnames hx (wpAny_mono hit (fun v s' hm => ?_) fun _ _ e => e) hs
  obtain ⟨r, t, u1, u2, h', tk', rfl, rfl, hr, F', N'⟩ := hm
  refine LCg.CompSrc.range (n := ((n : Int) - 0).toNat) hh F' N' hr (small_one (by omega) (by omega) (by omega) (by omega)) (rangeSize_nat _ _) (by rw [sizeLine_eq]; omega) fun g₁ => ?_
  have e0 : ((n : Int) - 0).toNat = n := by omega
  rw [e0]
  refine compU_rest J n ?_ n 0 [] _ (by omega) ?_ J0
  · rintro i ys nx v I oI C oC D m₂ h tk E' hi hJ ⟨t2, rfl⟩ hC hx' F2 N2 off ne
    have e1 : (0 : Int) + (i : Int) = (i : Int) := by omega
    rw [e1] at hx'
    exact turn i ys nx t2 I oI C oC D m₂ h tk E' hi hJ hC hx' F2 N2 off ne
  · intro ys nx hJ D h tk F2 N2 off
    rw [Nat.zero_add] at hJ
    exact done ys nx D h tk hJ F2 N2 (off1_ne off)
end
/-! R18: the law's loop, its states -/
abbrev lawNames : List Str := ["turn", "count", "program", "rows", "proof"]
inductive LawJ (m₀ : Str → Option Value) (pen cells : Addr) (vs : List Value) (i : Nat) (m' : Str → Option Value) (nx : List (Addr × Obj)) : Prop
  | mk (spot : Int) (t1 : Tok) (stock : Int) (t2 : Tok) : 0 ≤ spot → spot ≤ 151 * (i : Int) → 0 ≤ stock → (∀ y, lawNames.contains y = false → m' y = m₀ y) → nx = [(pen, penO cells spot t1 stock t2), (cells, LCg.lst vs)] → LawJ m₀ pen cells vs i m' nx
inductive LawEnd (g : Heap) (L : Addr) (s : Shared) (m₁ : Str → Option Value) (pen cells : Addr) (vs : List Value) (I : Addr) (oI : Obj) (sp : Int) : Flow → Shared → Prop
  | mk (h' : Heap) (tk' : Nat) (m' : Str → Option Value) (sp' : Int) (u1 : Tok) (st' : Int) (u2 : Tok) : sp ≤ sp' → sp' ≤ sp + 151 → 0 ≤ st' → (∀ y, lawNames.contains y = false → m' y = m₁ y) → Fr g L h' m' → News g L h' [(I, oI), (pen, penO cells sp' u1 st' u2), (cells, LCg.lst vs)] →
      LawEnd g L s m₁ pen cells vs I oI sp .next { s with heap := h', toks := tk' }
section
variable {prog : Program} {w : World} {A : Around} {E : Value → Shared → Prop} {s : Shared} {env : Env} {h₀ : Heap} {x : Str} {pos : Pos} {body : List Stmt} {Q : Flow → Shared → Prop}
theorem law_loop {r : Addr} {t₀ u₀ v₀ : Tok} {n : Int} {m₀ : Str → Option Value} {pen cells : Addr} {vs : List Value} {sp₀ st₀ : Int} {w1 w2 : Tok}
    (hh : A.handled = none) (hr : IsRange s.heap r 0 n 1 t₀ u₀ v₀) (hn : n = ((4 : Nat) : Int)) (F : Fr h₀ env.locals s.heap m₀) (N : News h₀ env.locals s.heap [(pen, penO cells sp₀ w1 st₀ w2), (cells, LCg.lst vs)]) (h0 : sp₀ = 0) (h1 : st₀ = 0)
    (turn : ∀ i t u h tk I oI sp u1 st u2, (∀ y, lawNames.contains y = false → u y = m₀ y) → 0 ≤ sp → sp ≤ 604 → 0 ≤ st → @Ne Nat pen I → @Ne Nat cells I → Fr h₀ env.locals h (stB lawNames u m₀) → News h₀ env.locals h [(I, oI), (pen, penO cells sp u1 st u2), (cells, LCg.lst vs)] →
      wpAny (model prog w) A (assign (.Name x pos) env (.int i t)) (fun _ s₂ => wpAny (model prog w) A (execs body env) (LawEnd h₀ env.locals { s with heap := h, toks := tk } (stB lawNames u m₀) pen cells vs I oI sp) E s₂) E { s with heap := h, toks := tk })
    (done : ∀ u nx h tk, Fr h₀ env.locals h (stB lawNames u m₀) → News h₀ env.locals h nx → Q .next { s with heap := h, toks := tk }) :
    wpAny (model prog w) A (pyIter (.ref r)) (fun it s₂ => TurnsAt prog w A h₀ env (.Name x pos) body Q E it s₂) E s := by
  subst hn; subst h0; subst h1
  refine range_turns (LawJ m₀ pen cells vs) hh hr (by omega) F N ⟨0, w1, 0, w2, by omega, by omega, by omega, fun _ _ => rfl, rfl⟩ ?_ ?_
  · rintro i t m₁ nx h tk I oI hi ⟨sp, u1, st, u2, a1, a2, a3, hm, rfl⟩ hI F₁ N₁
    rw [stB_is hm] at F₁
    have p1 : @Ne Nat pen I := hI _ (.head _)
    have p2 : @Ne Nat cells I := hI _ (.tail _ (.head _))
    refine wpAny_mono (turn i t m₁ h tk I oI sp u1 st u2 hm a1 (by omega) a3 p1 p2 F₁ N₁) (fun _ s₂ h₂ => wpAny_mono h₂ (fun f s₃ q => ?_) fun _ _ e => e) fun _ _ e => e
    obtain ⟨h', tk', m', sp', v1, st', v2, b1, b2, b3, hm', F2, N2⟩ := q
    refine ⟨h', tk', m', [(pen, penO cells sp' v1 st' v2), (cells, LCg.lst vs)], rfl, F2, N2, fun p hp q hq => ?_, sp', v1, st', v2, by omega, by omega, b3, fun y hy => (hm' y hy).trans (stB_out hy), rfl⟩
    rw [List.mem_singleton.mp hq]
    rcases List.mem_cons.mp hp with rfl | hp
    · exact p1
    · rw [List.mem_singleton.mp hp]; exact p2
  · rintro m₁ nx h tk ⟨sp, u1, st, u2, a1, a2, a3, hm, rfl⟩ F₁ N₁
    rw [stB_is hm] at F₁
    exact done m₁ _ h tk F₁ N₁
end
/-- a state between two statements -/
inductive Mid (g : Heap) (L : Addr) (s : Shared) (P : (Str → Option Value) → List (Addr × Obj) → Prop) : Flow → Shared → Prop
  | mk (h' : Heap) (tk' : Nat) (m' : Str → Option Value) (nx : List (Addr × Obj)) : Fr g L h' m' → News g L h' nx → P m' nx → Mid g L s P .next { s with heap := h', toks := tk' }
theorem mid_join {M : Model} {A : Around} {E : Value → Shared → Prop} {s : Shared} {env : Env} {st : Stmt} {rest : List Stmt} {Q : Flow → Shared → Prop} {g : Heap} {L : Addr} (P : (Str → Option Value) → List (Addr × Obj) → Prop)
    (h1 : wpAny M A (exec st env) (Mid g L s P) E s) (h2 : ∀ h tk m' nx, Fr g L h m' → News g L h nx → P m' nx → wpAny M A (execs rest env) Q E { s with heap := h, toks := tk }) : wpAny M A (execs (st :: rest) env) Q E s :=
  wpAny_execs_cons (wpAny_mono h1 (fun f s' h => by obtain ⟨h', tk', m', nx, F, N, p⟩ := h; exact h2 _ _ _ _ F N p) fun _ _ e => e)
/-! the orders -/
theorem allLt_l {x : Addr} {l : List (Addr × Obj)} (h : ∀ p ∈ l, p.1 < x) : AllNe x l := AllNe.of fun p hp => Nat.ne_of_lt (h p hp)
inductive OrdsJ (rest : List (Addr × Obj)) (i : Nat) (ys : List Value) (nx : List (Addr × Obj)) : Prop
  | mk (tl : List (Addr × Obj)) : nx = tl ++ rest → Apart rest tl → ys.length = i → (∀ v ∈ ys, OrdIn tl v 183) → OrdsJ rest i ys nx
theorem ords_snoc {tl : List (Addr × Obj)} {ys : List Value} {o d : Addr} {x y : Obj} {c : Int} (ho : OrdIn [(o, x), (d, y)] (.ref o) c) (hy : ∀ v ∈ ys, OrdIn tl v c) : ∀ v ∈ ys ++ [.ref o], OrdIn ((o, x) :: (d, y) :: tl) v c := fun v hv => by
  rcases List.mem_append.mp hv with h | h
  · exact (hy v h).mono fun p hp => .tail _ (.tail _ hp)
  · rw [List.mem_singleton.mp h]
    exact ho.mono fun p hp => by
      rcases List.mem_cons.mp hp with rfl | hp
      · exact .head _
      · rw [List.mem_singleton.mp hp]; exact .tail _ (.head _)
theorem apart_two {rest tl : List (Addr × Obj)} {o d : Addr} {x y : Obj} (h : Apart rest tl) (k : ∀ p ∈ rest, p.1 < d) (hd : d < o) : Apart rest ((o, x) :: (d, y) :: tl) := fun p hp q hq => by
  rcases List.mem_cons.mp hq with rfl | hq
  · exact Nat.ne_of_lt (Nat.lt_trans (k p hp) hd)
  · rcases List.mem_cons.mp hq with rfl | hq
    · exact Nat.ne_of_lt (k p hp)
    · exact h p hp q hq
theorem off3_two {nx : List (Addr × Obj)} {o d I C D : Addr} {x y : Obj} (h : LCg.Off3 I C D nx) (a : I < d) (b : C < d) (c : D < d) (hd : d < o) : LCg.Off3 I C D ((o, x) :: (d, y) :: nx) :=
  And.intro ⟨Nat.ne_of_gt (Nat.lt_trans a hd), Nat.ne_of_gt (Nat.lt_trans b hd), Nat.ne_of_gt (Nat.lt_trans c hd)⟩ (And.intro ⟨Nat.ne_of_gt a, Nat.ne_of_gt b, Nat.ne_of_gt c⟩ h)
theorem ordsJ_turn {rest nx : List (Addr × Obj)} {i : Nat} {ys : List Value} {g h' : Heap} {L I C D o d : Addr} {oI oC x y : Obj} {m : Str → Option Value} {s : Shared} {tk' : Nat}
    (hJ : OrdsJ rest i ys nx) (off : LCg.Off3 I C D nx) (ho : OrdIn [(o, x), (d, y)] (.ref o) 183) (F : Fr g L h' m) (N : News g L h' ((o, x) :: (d, y) :: (I, oI) :: (C, oC) :: (D, LCg.lst ys) :: nx)) (hl : ∀ p ∈ (I, oI) :: (C, oC) :: (D, LCg.lst ys) :: nx, p.1 < d) (hd : d < o) :
    EndY g L m s I oI C oC D (LCg.lst ys) (fun y nx' => OrdsJ rest (i + 1) (ys ++ [y]) nx') (.ref o) { s with heap := h', toks := tk' } := by
  obtain ⟨tl, rfl, ap, hy, hv⟩ := hJ
  refine LCg.CompEnd.intro F N ((o, x) :: (d, y) :: (tl ++ rest)) (fun p hp => ?_) (off3_two off (hl _ (.head _)) (hl _ (.tail _ (.head _))) (hl _ (.tail _ (.tail _ (.head _)))) hd) trivial ⟨(o, x) :: (d, y) :: tl, rfl, apart_two ap (fun p hp => hl p (.tail _ (.tail _ (.tail _ (List.mem_append_right _ hp))))) hd, by simp [hy], ords_snoc ho hv⟩
  simp only [List.mem_cons] at hp ⊢
  rcases hp with hp | hp | hp | hp | hp | hp <;> simp only [hp, true_or, or_true]
theorem ords_done {tl : List (Addr × Obj)} {ys : List Value} {o d : Addr} {x y : Obj} (ho : OrdIn [(o, x), (d, y)] (.ref o) 149) (hy : ∀ v ∈ ys, OrdIn tl v 183) {nw : List (Addr × Obj)} (h1 : (o, x) ∈ nw) (h2 : (d, y) ∈ nw) (h3 : ∀ p ∈ tl, p ∈ nw) : OrdsIn nw (ys ++ [.ref o]) := fun i v hv => by
  by_cases hi : i < ys.length
  · rw [List.getElem?_append_left hi] at hv
    refine ⟨183, .inl rfl, ⟨fun e => absurd e (by decide), fun e => ?_⟩, (hy v (List.mem_of_getElem? hv)).mono h3⟩
    simp at e
    omega
  · have hl := (List.getElem?_eq_some_iff.mp hv).1
    have e : i = ys.length := by simp at hl; omega
    subst e
    rw [List.getElem?_append_right (by omega), Nat.sub_self] at hv
    cases hv
    refine ⟨149, .inr rfl, ⟨fun _ => by simp, fun _ => rfl⟩, ho.mono fun p hp => ?_⟩
    rcases List.mem_cons.mp hp with rfl | hp
    · exact h1
    · rw [List.mem_singleton.mp hp]; exact h2
/-! the rows of the proof -/
theorem RowsIn.snoc {nw : List (Addr × Obj)} {v : Value} {r : Row} (hr : RowIn nw v r) : ∀ {vs : List Value} {rs : List Row}, RowsIn nw vs rs → RowsIn nw (vs ++ [v]) (rs ++ [r])
  | [], [], _ => ⟨hr, trivial⟩
  | _ :: _, _ :: _, x => ⟨x.1, RowsIn.snoc hr x.2⟩
  | [], _ :: _, x => x.elim
  | _ :: _, [], x => x.elim
theorem take_snoc {α : Type} {l : List α} {i : Nat} {r : α} (h : l[i]? = some r) : l.take (i + 1) = l.take i ++ [r] := by
  rw [List.take_add_one, h]; rfl
inductive PrfJ (nw0 : List (Addr × Obj)) (rows : List Row) (i : Nat) (ys : List Value) (nx : List (Addr × Obj)) : Prop
  | mk : (∀ p ∈ nw0, p ∈ nx) → RowsIn nx ys (rows.take i) → PrfJ nw0 rows i ys nx
theorem off3_app {I C D : Addr} {nx : List (Addr × Obj)} (h : LCg.Off3 I C D nx) : ∀ {new : List (Addr × Obj)}, (∀ q ∈ new, I < q.1 ∧ C < q.1 ∧ D < q.1) → LCg.Off3 I C D (new ++ nx)
  | [], _ => h
  | q :: _, k => And.intro ⟨Nat.ne_of_gt (k q (.head _)).1, Nat.ne_of_gt (k q (.head _)).2.1, Nat.ne_of_gt (k q (.head _)).2.2⟩ (off3_app h fun p hp => k p (.tail _ hp))
theorem prfJ_turn {nw0 nx new : List (Addr × Obj)} {rows : List Row} {i : Nat} {ys : List Value} {r : Row} {x : Addr} {g h' : Heap} {L I C D : Addr} {oI oC : Obj} {m : Str → Option Value} {s : Shared} {tk' : Nat}
    (hJ : PrfJ nw0 rows i ys nx) (hr : rows[i]? = some r) (off : LCg.Off3 I C D nx) (hx : RowIn new (.ref x) (r.1, r.2.1, r.2.2)) (F : Fr g L h' m) (N : News g L h' (new ++ ((I, oI) :: (C, oC) :: (D, LCg.lst ys) :: nx))) (hl : ∀ p ∈ (I, oI) :: (C, oC) :: (D, LCg.lst ys) :: nx, ∀ q ∈ new, p.1 < q.1) :
    EndY g L m s I oI C oC D (LCg.lst ys) (fun y nx' => PrfJ nw0 rows (i + 1) (ys ++ [y]) nx') (.ref x) { s with heap := h', toks := tk' } := by
  obtain ⟨hs, hv⟩ := hJ
  refine LCg.CompEnd.intro F N (new ++ nx) (fun p hp => ?_) (off3_app off fun q hq => ⟨hl _ (.head _) q hq, hl _ (.tail _ (.head _)) q hq, hl _ (.tail _ (.tail _ (.head _))) q hq⟩) trivial ⟨fun p hp => List.mem_append_right _ (hs p hp), ?_⟩
  · simp only [List.mem_cons, List.mem_append] at hp ⊢
    rcases hp with hp | hp | hp | hp | hp <;> simp only [hp, true_or, or_true]
  · rw [take_snoc hr]
    exact RowsIn.snoc (hx.mono fun p hp => List.mem_append_left _ hp) (hv.mono fun p hp => List.mem_append_right _ hp)
/-! the last comparison -/
def row2 (r : Row) : Dat := .tuple [.int r.1, .tuple (r.2.1.map Dat.int), .int r.2.2]
theorem row2_ok (rows : List Row) : ∀ d ∈ rows.map row2, kqdOk 8 d = true := fun d hd => by
  obtain ⟨r, _, rfl⟩ := List.mem_map.mp hd
  simp [row2, kqdOk]
theorem DatAll.snoc {nw : List (Addr × Obj)} {v : Value} {d : Dat} (hd : DatIn nw v d) : ∀ {vs : List Value} {ds : List Dat}, DatAll nw vs ds → DatAll nw (vs ++ [v]) (ds ++ [d])
  | [], _, .nil => .cons hd .nil
  | _ :: _, _, .cons a b => .cons a (DatAll.snoc hd b)
inductive TellJ (nw0 : List (Addr × Obj)) (rows : List Row) (i : Nat) (ys : List Value) (nx : List (Addr × Obj)) : Prop
  | mk : (∀ p ∈ nw0, p ∈ nx) → DatAll nx ys ((rows.take i).map row2) → TellJ nw0 rows i ys nx
theorem tellJ_turn {nw0 nx new led : List (Addr × Obj)} {rows : List Row} {i : Nat} {ys : List Value} {r : Row} {T gt : Addr} {t1 t2 : Tok} {gs : List Value} {g h' : Heap} {L I C D : Addr} {oI oC : Obj} {m : Str → Option Value} {s : Shared} {tk' : Nat}
    (hJ : TellJ nw0 rows i ys nx) (hr : rows[i]? = some r) (off : LCg.Off3 I C D nx) (hi : IntsAre gs r.2.1) (F : Fr g L h' m) (N : News g L h' led) (hs : ∀ p ∈ (I, oI) :: (C, oC) :: (D, LCg.lst ys) :: (new ++ nx), p ∈ led) (hl : ∀ q ∈ new, I < q.1 ∧ C < q.1 ∧ D < q.1)
    (hT : (T, tupObj [.int r.1 t1, .ref gt, .int r.2.2 t2]) ∈ new ++ nx) (hg : (gt, tupObj gs) ∈ new ++ nx) :
    EndY g L m s I oI C oC D (LCg.lst ys) (fun y nx' => TellJ nw0 rows (i + 1) (ys ++ [y]) nx') (.ref T) { s with heap := h', toks := tk' } := by
  obtain ⟨h0, hv⟩ := hJ
  refine LCg.CompEnd.intro F N (new ++ nx) hs (off3_app off hl) trivial ⟨fun p hp => List.mem_append_right _ (h0 p hp), ?_⟩
  rw [take_snoc hr, List.map_append]
  exact DatAll.snoc (.tuple hT (.cons (.int _ _) (.cons (.tuple hg (dat_of_ints hi)) (.cons (.int _ _) .nil)))) (hv.mono fun p hp => List.mem_append_right _ hp)
section
variable {prog : Program} {w : World} {A : Around} {E : Value → Shared → Prop} {s : Shared} {h₀ : Heap} {L : Addr} {a b : Value} {news n₁ n₂ : List (Addr × Obj)} {d : Dat} {Q : Value → Shared → Prop}
/-- equal data: «!=» says no -/
theorem dat_ne (N : News h₀ L s.heap news) (Da : DatIn n₁ a d) (sa : ∀ p ∈ n₁, p ∈ news) (Db : DatIn n₂ b d) (sb : ∀ p ∈ n₂, p ∈ news) (hd : kqdOk 8 d = true) (hu : A.units + 64 < cLine) (h : Q (.bool false) s) : wpAny (model prog w) A (compareOp .NotEq a b) Q E s := by
  obtain ⟨as, ra⟩ := kqd_in N 8 (Da.mono sa) hd
  obtain ⟨bs, rb⟩ := kqd_in N 8 (Db.mono sb) hd
  have la := kqd_lay 8 d hd
  have e : PyData.eqv (kqdP d) (kqdP d) = true := (kqd_eqv 8 d d 8 hd hd).mpr rfl
  refine ne_dataH ra rb ?_ ?_ hu (by rw [e]; exact h)
  · unfold SeqAt.shaped; rw [la.1, Bool.true_and]; exact decide_eq_true (Nat.le_trans la.2 (by decide))
  · unfold SeqAt.shaped; rw [la.1, Bool.true_and]; exact decide_eq_true (Nat.le_trans la.2 (by decide))
end
def atD : Option Nat → Dat
  | none => .none
  | some i => .int (i : Int)
theorem atD_in {nw : List (Addr × Obj)} {o : Option Nat} {v : Value} (h : atIs o v) : DatIn nw v (atD o) := by
  cases o with
  | none =>
    have e : v = .none := h
    subst e; exact .none
  | some i =>
    obtain ⟨t, rfl⟩ := (show ∃ t, v = .int (i : Int) t from h)
    exact .int _ _
theorem wGoes_ok {rows : List Row} {rk : Int} {x : Str} : ∀ {gs : List Int}, wGoes rows rk gs = some x → PyData.strOk x = true
  | [], h => by cases h
  | o :: r, h => by
    unfold wGoes at h
    split at h
    · cases h; decide +kernel
    · split at h
      · cases h; decide +kernel
      · exact wGoes_ok h
theorem wRow_ok {c : Nat} {rows : List Row} {r : Row} {x : Str} (h : wRow c rows r = some x) : PyData.strOk x = true := by
  unfold wRow at h
  split at h
  · cases h; decide +kernel
  · split at h
    · rename_i y e
      cases h
      exact wGoes_ok e
    · split at h
      · cases h; decide +kernel
      · cases h
theorem wFrom_ok {c : Nat} {rows : List Row} {x : Str} {o : Option Nat} : ∀ {rs : List Row} {i : Nat}, wFrom c rows i rs = some (x, o) → PyData.strOk x = true
  | [], _, h => by cases h
  | r :: rs, i, h => by
    unfold wFrom at h
    split at h
    · rename_i y e
      cases h
      exact wRow_ok e
    · exact wFrom_ok h
theorem wrong_ok {c : Nat} {rows : List Row} {x : Str} {o : Option Nat} (h : wrong c rows = some (x, o)) : PyData.strOk x = true := by
  unfold wrong at h
  split at h
  · cases h; decide +kernel
  · split at h
    · cases h; decide +kernel
    · exact wFrom_ok h
theorem atD_ok {x : Str} (o : Option Nat) (hx : PyData.strOk x = true) : kqdOk 8 (.tuple [.str x, atD o]) = true := by
  cases o <;> simp [kqdOk, atD, hx]
theorem told_in {nw : List (Addr × Obj)} {D : Addr} {x : Str} {tx : Tok} {o : Option Nat} {v : Value} (hm : (D, tupObj [.str x tx, v]) ∈ nw) (h : atIs o v) : DatIn nw (.ref D) (.tuple [.str x, atD o]) :=
  .tuple hm (.cons (.str _ _) (.cons (atD_in h) .nil))
theorem news_front2 {g h : Heap} {L : Addr} {a b : Addr × Obj} {r : List (Addr × Obj)} (N : News g L h (a :: b :: r)) : News g L h [a, b] := News.part N fun p hp => by
  rcases List.mem_cons.mp hp with rfl | hp
  · exact .head _
  · rw [List.mem_singleton.mp hp]; exact .tail _ (.head _)
theorem len_take40 (ns : List Int) : (List.map (fun (k : Int) => k) (List.take 40 ns)).length ≤ 40 := by
  rw [List.length_map, List.length_take]; omega
/-! R19: the states between the statements of the law's turn -/
inductive At1 (mt : Str → Option Value) (pen cells : Addr) (vs : List Value) (I : Addr) (oI : Obj) (sp : Int) (m' : Str → Option Value) (nx : List (Addr × Obj)) : Prop
  | mk (c : Nat) (tc : Tok) (sp' : Int) (u1 : Tok) (st' : Int) (u2 : Tok) : 1 ≤ c → c ≤ 4 → sp ≤ sp' → sp' ≤ sp + 1 → 0 ≤ st' → m' = (fun (y : Str) => if y = "count" then some (.int (c : Int) tc) else mt y) → nx = [(pen, penO cells sp' u1 st' u2), (cells, LCg.lst vs), (I, oI)] → At1 mt pen cells vs I oI sp m' nx
inductive At2 (mt : Str → Option Value) (pen cells : Addr) (vs : List Value) (I : Addr) (oI : Obj) (sp : Int) (m' : Str → Option Value) (nx : List (Addr × Obj)) : Prop
  | mk (c : Nat) (tc : Tok) (sp' : Int) (u1 : Tok) (st' : Int) (u2 : Tok) (pg : Addr) (ovs : List Value) (nw : List (Addr × Obj)) : 1 ≤ c → c ≤ 4 → sp ≤ sp' → sp' ≤ sp + 1 → 0 ≤ st' → ovs.length = c → ProgIn nw (.ref pg) ovs → AllNe pen nw → AllNe cells nw →
      m' = (fun (y : Str) => if y = "program" then some (.ref pg) else if y = "count" then some (.int (c : Int) tc) else mt y) → nx = (pen, penO cells sp' u1 st' u2) :: (cells, LCg.lst vs) :: (I, oI) :: nw → At2 mt pen cells vs I oI sp m' nx
inductive Has (pen cells : Addr) (vs : List Value) (I : Addr) (oI : Obj) (sp : Int) (pg : Addr) (ovs : List Value) (fl : Addr) (cap : Nat) (vsR : List Value) (rows : List Row) (nx : List (Addr × Obj)) : Prop
  | mk (sp' : Int) (u1 : Tok) (st' : Int) (u2 : Tok) : sp ≤ sp' → sp' ≤ sp + 151 → 0 ≤ st' → (pen, penO cells sp' u1 st' u2) ∈ nx → (cells, LCg.lst vs) ∈ nx → (I, oI) ∈ nx → (fl, W.listOf vsR.toArray cap) ∈ nx → DatAll nx vsR (rowsD rows) → ProgIn nx (.ref pg) ovs → Has pen cells vs I oI sp pg ovs fl cap vsR rows nx
theorem Has.mono {pen cells : Addr} {vs : List Value} {I : Addr} {oI : Obj} {sp : Int} {pg : Addr} {ovs : List Value} {fl : Addr} {cap : Nat} {vsR : List Value} {rows : List Row} {nx nx' : List (Addr × Obj)} (h : ∀ p ∈ nx, p ∈ nx') : Has pen cells vs I oI sp pg ovs fl cap vsR rows nx → Has pen cells vs I oI sp pg ovs fl cap vsR rows nx'
  | ⟨sp', u1, st', u2, a1, a2, a3, b1, b2, b3, b4, d, p⟩ => ⟨sp', u1, st', u2, a1, a2, a3, h _ b1, h _ b2, h _ b3, h _ b4, d.mono h, p.mono h⟩
inductive At3 (mt : Str → Option Value) (pen cells : Addr) (vs : List Value) (I : Addr) (oI : Obj) (sp : Int) (m' : Str → Option Value) (nx : List (Addr × Obj)) : Prop
  | mk (c : Nat) (tc : Tok) (pg : Addr) (ovs : List Value) (fl : Addr) (cap : Nat) (vsR : List Value) (rows : List Row) : c ≤ 4 → ovs.length = c → rows.length ≤ 6 → vsR.length = rows.length → (∀ r ∈ rows, r.2.1.length ≤ 4) →
      m' = (fun (y : Str) => if y = "rows" then some (.ref fl) else if y = "program" then some (.ref pg) else if y = "count" then some (.int (c : Int) tc) else mt y) → Has pen cells vs I oI sp pg ovs fl cap vsR rows nx → At3 mt pen cells vs I oI sp m' nx
inductive At4 (mt : Str → Option Value) (pen cells : Addr) (vs : List Value) (I : Addr) (oI : Obj) (sp : Int) (m' : Str → Option Value) (nx : List (Addr × Obj)) : Prop
  | mk (c : Nat) (tc : Tok) (pg : Addr) (ovs : List Value) (fl : Addr) (cap : Nat) (vsR : List Value) (rows : List Row) (pr prd tt : Addr) (x6 : Int) (y6 : Tok) (svs : List Value) : c ≤ 4 → ovs.length = c → rows.length ≤ 6 → vsR.length = rows.length → svs.length = rows.length → (∀ r ∈ rows, r.2.1.length ≤ 4) →
      m' = (fun (y : Str) => if y = "proof" then some (.ref pr) else if y = "rows" then some (.ref fl) else if y = "program" then some (.ref pg) else if y = "count" then some (.int (c : Int) tc) else mt y) → Has pen cells vs I oI sp pg ovs fl cap vsR rows nx →
      (pr, instObj 158 prd) ∈ nx → (prd, dictOf [⟨x6, .str "rows" y6, .ref tt⟩] 1) ∈ nx → (tt, tupObj svs) ∈ nx → RowsIn nx svs rows → At4 mt pen cells vs I oI sp m' nx
theorem lt_hd {x : Addr} {q : Addr × Obj} {l : List (Addr × Obj)} (h : ∀ p ∈ q :: l, p.1 < x) : q.1 < x := h _ (.head _)
theorem news_join {g h : Heap} {L : Addr} {p1 p2 p3 : Addr × Obj} {nw : List (Addr × Obj)} (R : News g L h [p1, p2, p3]) (N : News g L h nw) : News g L h (p1 :: p2 :: p3 :: nw) := fun p hp => by
  rcases List.mem_cons.mp hp with rfl | hp
  · exact R _ (.head _)
  · rcases List.mem_cons.mp hp with rfl | hp
    · exact R _ (.tail _ (.head _))
    · rcases List.mem_cons.mp hp with rfl | hp
      · exact R _ (.tail _ (.tail _ (.head _)))
      · exact N p hp
theorem at2_intro {mt : Str → Option Value} {pen cells : Addr} {vs : List Value} {I : Addr} {oI : Obj} {sp sp' st' : Int} {u1 u2 : Tok} {g h : Heap} {L : Addr} {pg : Addr} {ovs : List Value} {nw : List (Addr × Obj)} {c : Nat} {tc : Tok} {s : Shared} {tk' : Nat}
    (F : Fr g L h (fun (y : Str) => if y = "program" then some (.ref pg) else if y = "count" then some (.int (c : Int) tc) else mt y)) (N : News g L h ((pen, penO cells sp' u1 st' u2) :: (cells, LCg.lst vs) :: (I, oI) :: nw)) (ap : Apart [(pen, penO cells sp' u1 st' u2), (cells, LCg.lst vs), (I, oI)] nw)
    (c1 : 1 ≤ c) (c2 : c ≤ 4) (a1 : sp ≤ sp') (a2 : sp' ≤ sp + 1) (a3 : 0 ≤ st') (l : ovs.length = c) (P : ProgIn nw (.ref pg) ovs) : Mid g L s (At2 mt pen cells vs I oI sp) .next { s with heap := h, toks := tk' } :=
  ⟨h, tk', _, (pen, penO cells sp' u1 st' u2) :: (cells, LCg.lst vs) :: (I, oI) :: nw, F, N, c, tc, sp', u1, st', u2, pg, ovs, nw, c1, c2, a1, a2, a3, l, P, AllNe.of fun q hq e => ap _ (.head _) q hq e.symm, AllNe.of fun q hq e => ap _ (.tail _ (.head _)) q hq e.symm, rfl, rfl⟩
theorem dat_len {nw : List (Addr × Obj)} {vsR : List Value} {rows : List Row} (D : DatAll nw vsR (rowsD rows)) : vsR.length = rows.length := by
  rw [D.length]; exact List.length_map _
theorem at3_intro {mt : Str → Option Value} {pen cells : Addr} {vs : List Value} {I : Addr} {oI : Obj} {sp sp1 sp' st' : Int} {u1 u2 : Tok} {g h : Heap} {L : Addr} {pg : Addr} {ovs : List Value} {nw tl : List (Addr × Obj)} {c : Nat} {tc : Tok} {s : Shared} {tk' : Nat} {fl : Addr} {cap : Nat} {vsR : List Value} {rows : List Row}
    (F : Fr g L h (fun (y : Str) => if y = "rows" then some (.ref fl) else if y = "program" then some (.ref pg) else if y = "count" then some (.int (c : Int) tc) else mt y)) (N : News g L h ((pen, penO cells sp' u1 st' u2) :: (cells, LCg.lst vs) :: (fl, W.listOf vsR.toArray cap) :: tl))
    (c2 : c ≤ 4) (l : ovs.length = c) (z : rows.length ≤ 6) (z4 : ∀ r ∈ rows, r.2.1.length ≤ 4) (D : DatAll tl vsR (rowsD rows)) (P : ProgIn nw (.ref pg) ovs) (sub : ∀ p ∈ (I, oI) :: nw, p ∈ tl) (b1 : sp ≤ sp1) (b2 : sp1 ≤ sp + 1) (a1 : sp1 ≤ sp') (a2 : sp' ≤ sp1 + 150) (a3 : 0 ≤ st') :
    Mid g L s (At3 mt pen cells vs I oI sp) .next { s with heap := h, toks := tk' } :=
  ⟨h, tk', _, _, F, N, c, tc, pg, ovs, fl, cap, vsR, rows, c2, l, z, dat_len D, z4, rfl, sp', u1, st', u2, Int.le_trans b1 a1, by omega, a3, .head _, .tail _ (.head _), .tail _ (.tail _ (.tail _ (sub _ (.head _)))), .tail _ (.tail _ (.head _)), D.mono fun p hp => .tail _ (.tail _ (.tail _ hp)), P.mono fun p hp => .tail _ (.tail _ (.tail _ (sub p (.tail _ hp))))⟩
/-- a row of the list «rows», its three values as a turn of a comprehension has them -/
inductive Row3 (nw : List (Addr × Obj)) (rows : List Row) (i : Nat) (v1 v2 v3 : Value) : Prop
  | mk (r : Row) (t1 t3 : Tok) (sl : Addr) (svs : List Value) (cap : Nat) : rows[i]? = some r → v1 = .int r.1 t1 → v2 = .ref sl → v3 = .int r.2.2 t3 → (sl, W.listOf svs.toArray cap) ∈ nw → IntsAre svs r.2.1 → Row3 nw rows i v1 v2 v3
theorem row3 {g h : Heap} {L t : Addr} {n i : Nat} {v1 v2 v3 : Value} {nw nx vsx : List (Addr × Obj)} {vsR : List Value} {rows : List Row} (D : DatAll nw vsR (rowsD rows)) (N : News g L h vsx) (s1 : ∀ p ∈ nw, p ∈ vsx) (s2 : ∀ p ∈ nx, p ∈ vsx) (hv : vsR[i]? = some (.ref t)) (hm : (t, ({ cls := .type "tuple", data := .seq #[v1, v2, v3] n } : Obj)) ∈ nx) :
    Row3 nw rows i v1 v2 v3 := by
  obtain ⟨r, hr, hd⟩ := dat_at D hv
  obtain ⟨t', gt, n', cap, t1, t3, us, e, hmt, hg, hi⟩ := row_open hd
  cases e
  have h1 := (N _ (s1 _ hmt)).1
  have h2 := (N _ (s2 _ hm)).1
  dsimp only at h1 h2
  rw [h1] at h2
  simp at h2
  obtain ⟨⟨e1, e2, e3⟩, -⟩ := h2
  exact ⟨r, t1, t3, gt, us, cap, hr, e1.symm, e2.symm, e3.symm, hg, hi⟩
theorem rows_tup {nw nx : List (Addr × Obj)} {vsR : List Value} {rows : List Row} {i : Nat} {v : Value} (D : DatAll nw vsR (rowsD rows)) (s1 : ∀ p ∈ nw, p ∈ nx) (hv : vsR[i]? = some v) : ∃ (t : Addr) (n : Nat) (v1 v2 v3 : Value), v = .ref t ∧ (t, ({ cls := .type "tuple", data := .seq #[v1, v2, v3] n } : Obj)) ∈ nx := by
  obtain ⟨r, hr, hd⟩ := dat_at D hv
  obtain ⟨t', gt, n', cap, t1, t3, us, e, hmt, hg, hi⟩ := row_open hd
  exact ⟨t', n', _, _, _, e, s1 _ hmt⟩
/-- the end of the turn -/
theorem law_end {g h : Heap} {L : Addr} {s : Shared} {m₁ m' : Str → Option Value} {pen cells : Addr} {vs : List Value} {I : Addr} {oI : Obj} {sp : Int} {pg : Addr} {ovs : List Value} {fl : Addr} {cap : Nat} {vsR : List Value} {rows : List Row} {nx nx' : List (Addr × Obj)} {tk' : Nat}
    (H : Has pen cells vs I oI sp pg ovs fl cap vsR rows nx) (F : Fr g L h m') (N : News g L h nx') (sub : ∀ p ∈ nx, p ∈ nx') (hm : ∀ y, lawNames.contains y = false → m' y = m₁ y) : LawEnd g L s m₁ pen cells vs I oI sp .next { s with heap := h, toks := tk' } := by
  obtain ⟨sp', u1, st', u2, a1, a2, a3, b1, b2, b3, b4, -, -⟩ := H
  refine ⟨h, tk', m', sp', u1, st', u2, a1, a2, a3, hm, F, fun p hp => ?_⟩
  rcases List.mem_cons.mp hp with rfl | hp
  · exact N _ (sub _ b3)
  · rcases List.mem_cons.mp hp with rfl | hp
    · exact N _ (sub _ b1)
    · rw [List.mem_singleton.mp hp]; exact N _ (sub _ b2)
section
variable {M : Model} {A : Around} {E : Value → Shared → Prop} {s : Shared} {env : Env} {st : Stmt} {rest : List Stmt} {Q : Flow → Shared → Prop} {g : Heap} {L : Addr} {mt : Str → Option Value} {pen cells I : Addr} {oI : Obj} {vs : List Value} {x y : Int} {u1 u2 tc : Tok} {c pg : Value}
theorem mid1 (sp : Int) (_F : Fr g L s.heap mt) (_N : News g L s.heap [(I, oI), (pen, penO cells x u1 y u2), (cells, LCg.lst vs)])
    (h1 : wpAny M A (exec st env) (Mid g L s (At1 mt pen cells vs I oI sp)) E s) (h2 : ∀ h tk m' nx, Fr g L h m' → News g L h nx → At1 mt pen cells vs I oI sp m' nx → wpAny M A (execs rest env) Q E { s with heap := h, toks := tk }) : wpAny M A (execs (st :: rest) env) Q E s := mid_join _ h1 h2
theorem mid2 (sp : Int) (_F : Fr g L s.heap (fun (y : Str) => if y = "count" then some c else mt y)) (_N : News g L s.heap [(pen, penO cells x u1 y u2), (cells, LCg.lst vs), (I, oI)])
    (h1 : wpAny M A (exec st env) (Mid g L s (At2 mt pen cells vs I oI sp)) E s) (h2 : ∀ h tk m' nx, Fr g L h m' → News g L h nx → At2 mt pen cells vs I oI sp m' nx → wpAny M A (execs rest env) Q E { s with heap := h, toks := tk }) : wpAny M A (execs (st :: rest) env) Q E s := mid_join _ h1 h2
theorem mid3 {nw : List (Addr × Obj)} (sp : Int) (_F : Fr g L s.heap (fun (y : Str) => if y = "program" then some pg else if y = "count" then some c else mt y)) (_N : News g L s.heap ((pen, penO cells x u1 y u2) :: (cells, LCg.lst vs) :: (I, oI) :: nw))
    (h1 : wpAny M A (exec st env) (Mid g L s (At3 mt pen cells vs I oI sp)) E s) (h2 : ∀ h tk m' nx, Fr g L h m' → News g L h nx → At3 mt pen cells vs I oI sp m' nx → wpAny M A (execs rest env) Q E { s with heap := h, toks := tk }) : wpAny M A (execs (st :: rest) env) Q E s := mid_join _ h1 h2
theorem mid4 {sp : Int} {pg9 fl : Addr} {ovs : List Value} {cap : Nat} {vsR : List Value} {rows : List Row} {nx : List (Addr × Obj)} {rl : Value} (_F : Fr g L s.heap (fun (y : Str) => if y = "rows" then some rl else if y = "program" then some pg else if y = "count" then some c else mt y)) (_H : Has pen cells vs I oI sp pg9 ovs fl cap vsR rows nx)
    (h1 : wpAny M A (exec st env) (Mid g L s (At4 mt pen cells vs I oI sp)) E s) (h2 : ∀ h tk m' nx, Fr g L h m' → News g L h nx → At4 mt pen cells vs I oI sp m' nx → wpAny M A (execs rest env) Q E { s with heap := h, toks := tk }) : wpAny M A (execs (st :: rest) env) Q E s := mid_join _ h1 h2
theorem mid5 {sp : Int} {pg9 fl : Addr} {ovs : List Value} {cap : Nat} {vsR : List Value} {rows : List Row} {nx : List (Addr × Obj)} {rl prf : Value} (_F : Fr g L s.heap (fun (y : Str) => if y = "proof" then some prf else if y = "rows" then some rl else if y = "program" then some pg else if y = "count" then some c else mt y)) (_H : Has pen cells vs I oI sp pg9 ovs fl cap vsR rows nx)
    (h1 : wpAny M A (exec st env) (Mid g L s (At4 mt pen cells vs I oI sp)) E s) (h2 : ∀ h tk m' nx, Fr g L h m' → News g L h nx → At4 mt pen cells vs I oI sp m' nx → wpAny M A (execs rest env) Q E { s with heap := h, toks := tk }) : wpAny M A (execs (st :: rest) env) Q E s := mid_join _ h1 h2
end
theorem at1_intro {mt : Str → Option Value} {pen cells : Addr} {vs : List Value} {I : Addr} {oI : Obj} {sp sp' st' d : Int} {u1 u2 : Tok} {g h : Heap} {L : Addr} {tc : Tok} {s : Shared} {tk' : Nat}
    (F : Fr g L h (fun (y : Str) => if y = "count" then some (.int (1 + d) tc) else mt y)) (N : News g L h [(pen, penO cells sp' u1 st' u2), (cells, LCg.lst vs), (I, oI)]) (d1 : 0 ≤ d) (d2 : d < 4) (a1 : sp ≤ sp') (a2 : sp' ≤ sp + 1) (a3 : 0 ≤ st') : Mid g L s (At1 mt pen cells vs I oI sp) .next { s with heap := h, toks := tk' } := by
  obtain ⟨c, rfl⟩ := Int.eq_ofNat_of_zero_le d1
  refine ⟨h, tk', _, _, F, N, c + 1, tc, sp', u1, st', u2, by omega, by omega, a1, a2, a3, ?_, rfl⟩
  rw [show ((c + 1 : Nat) : Int) = 1 + (c : Int) by omega]
theorem lt_two {x : Addr} {o : Obj} {p : Addr × Obj} {l : List (Addr × Obj)} (h : ∀ q ∈ p :: l, q.1 < x) : ∀ q ∈ l, q.1 < x := fun q hq => h q (.tail _ hq)
section
variable {prog : Program} {w : World} {A : Around} {E : Value → Shared → Prop} {s : Shared} {h₀ : Heap} {L : Addr} {m : Str → Option Value} {news : List (Addr × Obj)} {a b : Addr} {xs : List Value} {v : Value} {cap : Nat} {Q : Value → Shared → Prop}
theorem add_R (F : Fr h₀ L s.heap m) (N : News h₀ L s.heap news) (ma : (a, LCg.lst xs) ∈ news) (mb : (b, W.listOf #[v] cap) ∈ news) (hz : xs.length ≤ 100)
    (h : ∀ D h', Fr h₀ L h' m → News h₀ L h' ((D, W.listOf (xs ++ [v]).toArray 0) :: news) → (∀ p ∈ news, p.1 < D) → Q (.ref D) { s with heap := h' }) : wpAny (model prog w) A (binaryOp .Add (.ref a) (.ref b)) Q E s :=
  kmk_add_lit F N (its := xs.toArray) (its2 := #[v]) (News.isList N ma) (News.isList N (items := #[v]) mb) (by simp) h (by rw [sizeLine_eq]; simp; omega)
end
theorem ords_apart {rest tl : List (Addr × Obj)} {D l o d D8 : Addr} {x1 x2 x3 x4 x8 : Obj} (ap : Apart rest tl) (hne : AllNe D8 (tl ++ rest)) (a : ∀ p ∈ (D8, x8) :: (tl ++ rest), p.1 < d) (b : d < o) (c : o < l) (e : l < D) :
    Apart rest ((D, x1) :: (l, x2) :: (o, x3) :: (d, x4) :: (D8, x8) :: tl) := fun p hp q hq => by
  have k : p.1 < d := a p (.tail _ (List.mem_append_right _ hp))
  rcases List.mem_cons.mp hq with rfl | hq
  · exact Nat.ne_of_lt (Nat.lt_trans (Nat.lt_trans (Nat.lt_trans k b) c) e)
  · rcases List.mem_cons.mp hq with rfl | hq
    · exact Nat.ne_of_lt (Nat.lt_trans (Nat.lt_trans k b) c)
    · rcases List.mem_cons.mp hq with rfl | hq
      · exact Nat.ne_of_lt (Nat.lt_trans k b)
      · rcases List.mem_cons.mp hq with rfl | hq
        · exact Nat.ne_of_lt k
        · rcases List.mem_cons.mp hq with rfl | hq
          · exact fun e9 => AllNe.mem hne p (List.mem_append_right _ hp) e9
          · exact ap p hp q hq
theorem ords_split {g h : Heap} {L : Addr} {p1 p2 p3 p4 p5 : Addr × Obj} {tl rest : List (Addr × Obj)} (N : News g L h (p1 :: p2 :: p3 :: p4 :: p5 :: (tl ++ rest))) : News g L h (p1 :: p2 :: p3 :: p4 :: p5 :: tl) ∧ News g L h rest :=
  ⟨News.part N fun p hp => by
    simp only [List.mem_cons, List.mem_append] at hp ⊢
    rcases hp with h | h | h | h | h | h <;> simp only [h, true_or, or_true], News.part N fun p hp => by
    simp only [List.mem_cons, List.mem_append]; simp only [hp, or_true]⟩
theorem at4_intro {mt : Str → Option Value} {pen cells : Addr} {vs : List Value} {I : Addr} {oI : Obj} {sp : Int} {g h : Heap} {L : Addr} {pg : Addr} {ovs : List Value} {nx new nx' : List (Addr × Obj)} {x : Addr × Obj} {c : Nat} {tc : Tok} {s : Shared} {tk' : Nat} {fl : Addr} {cap : Nat} {vsR svs : List Value} {rows : List Row} {pr prd tt : Addr} {x6 : Int} {y6 : Tok}
    (F : Fr g L h (fun (y : Str) => if y = "proof" then some (.ref pr) else if y = "rows" then some (.ref fl) else if y = "program" then some (.ref pg) else if y = "count" then some (.int (c : Int) tc) else mt y)) (N : News g L h (new ++ x :: nx'))
    (H : Has pen cells vs I oI sp pg ovs fl cap vsR rows nx) (sub : ∀ p ∈ nx, p ∈ nx') (c2 : c ≤ 4) (l : ovs.length = c) (z : rows.length ≤ 6) (zv : vsR.length = rows.length) (z4 : ∀ r ∈ rows, r.2.1.length ≤ 4) (R : RowsIn nx' svs rows)
    (m1 : (pr, instObj 158 prd) ∈ new) (m2 : (prd, dictOf [⟨x6, .str "rows" y6, .ref tt⟩] 1) ∈ new) (m3 : (tt, tupObj svs) ∈ new) : Mid g L s (At4 mt pen cells vs I oI sp) .next { s with heap := h, toks := tk' } :=
  ⟨h, tk', _, _, F, N, c, tc, pg, ovs, fl, cap, vsR, rows, pr, prd, tt, x6, y6, svs, c2, l, z, zv, R.length, z4, rfl, H.mono fun p hp => List.mem_append_right _ (.tail _ (sub p hp)), List.mem_append_left _ m1, List.mem_append_left _ m2, List.mem_append_left _ m3, R.mono fun p hp => List.mem_append_right _ (.tail _ hp)⟩
theorem at4_again {mt : Str → Option Value} {pen cells : Addr} {vs : List Value} {I : Addr} {oI : Obj} {sp : Int} {g h : Heap} {L : Addr} {pg : Addr} {ovs : List Value} {nx nx' : List (Addr × Obj)} {c : Nat} {tc : Tok} {s : Shared} {tk' : Nat} {fl : Addr} {cap : Nat} {vsR svs : List Value} {rows : List Row} {pr prd tt : Addr} {x6 : Int} {y6 : Tok}
    (F : Fr g L h (fun (y : Str) => if y = "proof" then some (.ref pr) else if y = "rows" then some (.ref fl) else if y = "program" then some (.ref pg) else if y = "count" then some (.int (c : Int) tc) else mt y)) (N : News g L h nx')
    (H : Has pen cells vs I oI sp pg ovs fl cap vsR rows nx) (sub : ∀ p ∈ nx, p ∈ nx') (c2 : c ≤ 4) (l : ovs.length = c) (z : rows.length ≤ 6) (zv : vsR.length = rows.length) (z4 : ∀ r ∈ rows, r.2.1.length ≤ 4) (R : RowsIn nx svs rows)
    (m1 : (pr, instObj 158 prd) ∈ nx) (m2 : (prd, dictOf [⟨x6, .str "rows" y6, .ref tt⟩] 1) ∈ nx) (m3 : (tt, tupObj svs) ∈ nx) : Mid g L s (At4 mt pen cells vs I oI sp) .next { s with heap := h, toks := tk' } :=
  ⟨h, tk', _, _, F, N, c, tc, pg, ovs, fl, cap, vsR, rows, pr, prd, tt, x6, y6, svs, c2, l, z, zv, R.length, z4, rfl, H.mono sub, sub _ m1, sub _ m2, sub _ m3, R.mono sub⟩
theorem tellJ_turn1 {nw0 nx : List (Addr × Obj)} {rows : List Row} {i : Nat} {ys : List Value} {r : Row} {T gt : Addr} {t1 t2 : Tok} {gs : List Value} {g h' : Heap} {L I C D : Addr} {oI oC : Obj} {m : Str → Option Value} {s : Shared} {tk' : Nat}
    (hJ : TellJ nw0 rows i ys nx) (hr : rows[i]? = some r) (off : LCg.Off3 I C D nx) (hi : IntsAre gs r.2.1) (F : Fr g L h' m) (N : News g L h' ((T, tupObj [.int r.1 t1, .ref gt, .int r.2.2 t2]) :: (I, oI) :: (C, oC) :: (D, LCg.lst ys) :: nx)) (lI : I < T) (lC : C < T) (lD : D < T) (hg : (gt, tupObj gs) ∈ nx) :
    EndY g L m s I oI C oC D (LCg.lst ys) (fun y nx' => TellJ nw0 rows (i + 1) (ys ++ [y]) nx') (.ref T) { s with heap := h', toks := tk' } :=
  tellJ_turn (new := [(T, tupObj [.int r.1 t1, .ref gt, .int r.2.2 t2])]) hJ hr off hi F N (fun p hp => by
    simp only [List.mem_cons, List.mem_append, List.not_mem_nil, or_false] at hp ⊢
    rcases hp with h | h | h | h | h <;> simp only [h, true_or, or_true]) (fun q hq => by rw [List.mem_singleton.mp hq]; exact ⟨lI, lC, lD⟩) (.head _) (.tail _ hg)
theorem tellJ_turn2 {nw0 nx : List (Addr × Obj)} {rows : List Row} {i : Nat} {ys : List Value} {r : Row} {T gt : Addr} {t1 t2 : Tok} {gs : List Value} {g h' : Heap} {L I C D : Addr} {oI oC : Obj} {m : Str → Option Value} {s : Shared} {tk' : Nat}
    (hJ : TellJ nw0 rows i ys nx) (hr : rows[i]? = some r) (off : LCg.Off3 I C D nx) (hi : IntsAre gs r.2.1) (F : Fr g L h' m) (N : News g L h' ((T, tupObj [.int r.1 t1, .ref gt, .int r.2.2 t2]) :: (gt, tupObj gs) :: (I, oI) :: (C, oC) :: (D, LCg.lst ys) :: nx)) (lI : I < gt) (lC : C < gt) (lD : D < gt) (lT : gt < T) :
    EndY g L m s I oI C oC D (LCg.lst ys) (fun y nx' => TellJ nw0 rows (i + 1) (ys ++ [y]) nx') (.ref T) { s with heap := h', toks := tk' } :=
  tellJ_turn (new := [(T, tupObj [.int r.1 t1, .ref gt, .int r.2.2 t2]), (gt, tupObj gs)]) hJ hr off hi F N (fun p hp => by
    simp only [List.mem_cons, List.mem_append, List.not_mem_nil, or_false] at hp ⊢
    rcases hp with h | h | h | (h | h) | h <;> simp only [h, true_or, or_true]) (fun q hq => by
    rcases List.mem_cons.mp hq with rfl | hq
    · exact ⟨Nat.lt_trans lI lT, Nat.lt_trans lC lT, Nat.lt_trans lD lT⟩
    · rw [List.mem_singleton.mp hq]; exact ⟨lI, lC, lD⟩) (.head _) (.tail _ (.head _))
open Classical in
theorem kqd_same {prog : Program} {w : World} {A : Around} {E : Value → Shared → Prop} {s : Shared} {h₀ : Heap} {L a b : Addr} {news n₁ n₂ : List (Addr × Obj)} {oa ob : Obj} {xs ys : List Value} {ka kb : Nat} {ds : List Dat} {Q : Value → Shared → Prop} (N : News h₀ L s.heap news) (ma : (a, oa) ∈ news) (ca : oa.cls = .type "list") (da : oa.data = .seq xs.toArray ka) (Da : DatAll n₁ xs ds) (sa : ∀ p ∈ n₁, p ∈ news)
    (mb : (b, ob) ∈ news) (cb : ob.cls = .type "list") (db : ob.data = .seq ys.toArray kb) (Db : DatAll n₂ ys ds) (sb : ∀ p ∈ n₂, p ∈ news)
    (ha : ∀ d ∈ ds, kqdOk 8 d = true) (hu : A.units + 64 < cLine) (h : Q (.bool false) s) : wpAny (model prog w) A (compareOp .NotEq (.ref a) (.ref b)) Q E s := by
  refine kqd_ne N ma ca da Da sa mb cb db Db sb ha ha hu ?_
  simp only [decide_true, Bool.not_true]
  exact h
noncomputable def ads : List Addr := [2, 3, 15, 17, 18, 20, 21, 22, 29, 30, 32, 33, 35, 36, 37, 39, 40, 42, 43, 44, 45, 46, 47, 50, 57, 58, 59, 62, 69, 70, 71, 74, 81, 82, 83, 86, 87, 89, 90, 92, 93, 94, 95, 97, 98, 100, 101, 109, 111, 112, 114, 115, 116, 118, 119, 121, 122, 123, 124, 125, 126, 127, 137, 139, 140, 142, 143, 144, 147, 148, 149, 151, 152, 154, 155, 156, 157, 158, 159, 160, 163, 165, 166, 168, 169, 177, 179, 180, 182, 183, 184, 186, 187, 189, 190, 191, 192, 193, 194, 196, 197, 199, 200, 201, 202, 203, 204, 206, 207, 209, 210, 211, 212, 213, 214, 216, 217, 219, 220, 221, 223, 224, 226, 227, 228, 230, 231, 233, 234, 235, 237, 238, 240, 241, 242, 243, 245, 246, 248, 249, 250, 251, 253, 254, 256, 257, 258, 260, 261, 263, 264, 265, 267, 268, 270, 271, 272, 274, 275, 277, 278, 279, 280, 282, 283, 285, 286, 287, 288, 289, 290, 291, 301, 303, 304, 306, 307, 308, 310, 311, 313, 314, 315, 316, 317, 318, 320, 321, 323, 324, 325, 326, 327, 328, 330, 331, 333, 334, 335, 336, 337, 338, 340, 341, 343, 344, 345, 346, 347, 348, 350, 351, 353, 354, 355, 356, 357, 358, 360, 361, 363, 364, 365, 367, 368, 370, 371, 372, 374, 375, 377, 378, 379, 381, 382, 384, 385, 386, 388, 389, 391, 392, 393, 395, 396, 398, 399, 400, 401, 402, 403, 404, 414, 415, 417, 418, 420, 421, 422, 424, 425, 427, 428, 429, 430, 431, 432, 433, 436, 438, 439, 441, 442, 443, 445, 446, 448, 449, 450, 452, 453, 455, 456, 464, 465, 467, 468, 470, 471, 472, 474, 475, 477, 478, 479, 481, 482, 484, 485, 486, 487, 488, 489, 490, 500, 502, 503, 505, 506, 507, 509, 510, 512, 513, 514, 516, 517, 519, 520, 521, 523, 524, 526, 527, 528, 531, 532, 533, 534, 535, 536, 537, 547, 549, 550, 552, 553, 554, 556, 557, 559, 560, 561, 563, 564, 566, 567, 568, 570, 571, 573, 574, 575, 577, 578, 580, 581, 582, 584, 585, 587, 588, 589, 591, 592, 594, 595, 596, 599, 600, 601, 603, 604, 606, 607, 608, 610, 611, 613, 614, 615, 616, 617, 618, 619, 622, 625, 626, 627, 629, 630, 632, 633, 641, 642, 644, 645, 647, 648, 649, 651, 652, 654, 655, 656, 657, 658, 659, 660, 663, 665, 666, 668, 669, 670, 672, 673, 675, 676, 677, 679, 680, 682, 683, 684, 686, 687, 689, 690, 691, 693, 694, 696, 697, 698, 700, 701, 703, 704, 705, 707, 708, 710, 711, 712, 714, 715, 717, 718, 719, 721, 722, 724, 725, 726, 728, 729, 731, 732, 733, 734, 736, 737, 739, 740, 741, 743, 744, 746, 747, 755, 757, 758, 760, 761, 762, 764, 765, 767, 768, 769, 771, 772, 774, 775, 776, 778, 779, 781, 782, 783, 785, 786, 788, 789, 790, 792, 793, 795, 796, 797, 800, 801, 802, 803, 804, 805, 806, 809, 811, 812, 814, 815, 816, 818, 819, 821, 822, 823, 826, 827, 828, 831, 832, 833, 835, 836, 838, 839, 840, 843, 844, 845, 848, 849, 850, 852, 853, 855, 856, 857, 859, 860, 862, 863, 864, 866, 867, 869, 870, 871, 873, 874, 876, 877, 878, 879, 881, 882, 884, 885, 886, 889, 890, 891, 893, 894, 896, 897, 898, 900, 901, 903, 904, 905, 908, 909, 910, 912, 913, 915, 916, 917, 919, 920, 922, 923, 924, 927, 928]
theorem whole.tw1972244106113717368 : True := trivial
theorem whole.tw4901011727050283698 : True := trivial
theorem whole.tw6084657873442493111 : True := trivial
theorem whole.tw9095261259357604559 : True := trivial
theorem whole.tw9315315907157715723 : True := trivial
theorem whole.tw7582116766257987118 : True := trivial
theorem whole.tw12982672189386914922 : True := trivial
theorem whole.tw17794071737211314316 : True := trivial
theorem whole.tw16595449952281916149 : True := trivial
theorem whole.tw8398797258006769423 : True := trivial
theorem whole.tw13679757057165986330 : True := trivial
theorem whole.tw12410440792258940326 : True := trivial
theorem whole.tw16732526662816644420 : True := trivial
theorem whole.tw15930047269337530508 : True := trivial
theorem whole.tw1140656964413138424 : True := trivial
theorem whole.tw4902818953507920398 : True := trivial
theorem whole.tw9109949925144535516 : True := trivial
theorem whole.tw11018331769982298155 : True := trivial
theorem whole.tw14760741900484159706 : True := trivial
theorem whole.tw6783627951005175229 : True := trivial
theorem whole.tw15950631773475717186 : True := trivial
theorem whole.tw213970696928864655 : True := trivial
theorem whole.tw12471785041798745281 : True := trivial
theorem whole.tw12740454516981205806 : True := trivial
theorem whole.tw2608646628457097981 : True := trivial
theorem whole.tw9212275338362288188 : True := trivial
theorem whole.tw8120216143534945024 : True := trivial
theorem whole.tw18406967196282243847 : True := trivial
theorem whole.tw16032858082440532257 : True := trivial
theorem whole.tw2551288049877987531 : True := trivial
theorem whole.tw1363506702145506021 : True := trivial
theorem whole.tw17756055853247313500 : True := trivial
theorem whole.tw10025991395723482450 : True := trivial
theorem whole.tw5159705281301196996 : True := trivial
theorem whole.tw11777355322855799659 : True := trivial
theorem whole.tw487143721646681983 : True := trivial
theorem whole.tw9036960110271754778 : True := trivial
theorem whole.tw13719171679594634575 : True := trivial
theorem whole.tw5902289869349430576 : True := trivial
theorem whole.tw13262402704330787269 : True := trivial
theorem whole.tw10922663048198985862 : True := trivial
theorem whole.tw11501073197159204048 : True := trivial
theorem whole.tw1021466310418864216 : True := trivial
theorem whole.tw16467933323881711526 : True := trivial
theorem whole.tw7509650053966640704 : True := trivial
theorem whole.tw7752643550433732400 : True := trivial
theorem whole.tw11401351377558187561 : True := trivial
theorem whole.tw2109657717061889843 : True := trivial
theorem whole.tw6611539377112344024 : True := trivial
theorem whole.tw4032922365424806272 : True := trivial
theorem whole.tw3869719713472690019 : True := trivial
theorem whole.tw17400260938146383314 : True := trivial
theorem whole.tw6014040228023658700 : True := trivial
theorem whole.tw10332575325313852403 : True := trivial
theorem whole.tw9358836691059361674 : True := trivial
theorem whole.tw7892903329919386008 : True := trivial
theorem whole.tw3687826684616867901 : True := trivial
theorem whole.tw3817958767811374121 : True := trivial
theorem whole.tw962308168445528557 : True := trivial
theorem whole.tw10379991877525085312 : True := trivial
theorem whole.tw8258574867067344367 : True := trivial
theorem whole.tw181071809420177182 : True := trivial
theorem whole.tw15104313353549385183 : True := trivial
theorem whole.tw12478609949429157409 : True := trivial
theorem whole.tw8259948450988206280 : True := trivial
theorem whole.tw15265605800337590527 : True := trivial
theorem whole.tw4977384430496418070 : True := trivial
theorem whole.tw15089273742334493110 : True := trivial
theorem whole.tw3798757254938238448 : True := trivial
theorem whole.tw11357175057958205107 : True := trivial
theorem whole.tw17668386841364913139 : True := trivial
theorem whole.tw16062187612904122858 : True := trivial
theorem whole.tw7101197657001211085 : True := trivial
theorem whole.tw4163455835068889971 : True := trivial
theorem whole.tw12976933641374925533 : True := trivial
theorem whole.tw14047333959232290054 : True := trivial
theorem whole.tw16111274487264414774 : True := trivial
theorem whole.tw9446046918361872579 : True := trivial
theorem whole.tw11331365046741114882 : True := trivial
theorem whole.tw8983756257105130227 : True := trivial
theorem whole.tw561600600097829391 : True := trivial
theorem whole.tw13213058742666125385 : True := trivial
theorem whole.tw17293853786120715770 : True := trivial
theorem whole.tw8894826161267586577 : True := trivial
theorem whole.tw1393339623888494026 : True := trivial
theorem whole.tw6377287985247879410 : True := trivial
theorem whole.tw15811116968426213322 : True := trivial
theorem whole.tw6250799429290313176 : True := trivial
theorem whole.tw4432250331352448483 : True := trivial
theorem whole.tw9275448389876633987 : True := trivial
theorem whole.tw5233578499609466721 : True := trivial
theorem whole.tw10025635815308576066 : True := trivial
theorem whole.tw12207685810698929643 : True := trivial
theorem whole.tw6453619897266653623 : True := trivial
theorem whole.tw16342273516520970692 : True := trivial
theorem whole.tw4757693249605793100 : True := trivial
theorem whole.tw12098860561503762481 : True := trivial
theorem whole.tw12381228794656768651 : True := trivial
theorem whole.tw4075336105160463354 : True := trivial
theorem whole.tw6831798877050662096 : True := trivial
theorem whole.tw4547022272760548326 : True := trivial
theorem whole.tw6398494249180007682 : True := trivial
theorem whole.tw2908995474342449905 : True := trivial
theorem whole.tw18026328337398066365 : True := trivial
theorem whole.tw2166459464060227386 : True := trivial
theorem whole.tw10393562808733323261 : True := trivial
theorem whole.tw974242676711936875 : True := trivial
theorem whole.tw3141554390599180669 : True := trivial
theorem whole.tw9301873983451068159 : True := trivial
theorem whole.tw3150075250938504248 : True := trivial
theorem whole.tw7056001396292377188 : True := trivial
theorem whole.tw14998389939795375158 : True := trivial
theorem whole.tw8181180424491326830 : True := trivial
theorem whole.tw1217171336636241682 : True := trivial
theorem whole.tw1975147037884041520 : True := trivial
theorem whole.tw12507882389757649525 : True := trivial
theorem whole.tw8289003193492261950 : True := trivial
theorem whole.tw13155097880312403346 : True := trivial
theorem whole.tw6888942637506950926 : True := trivial
theorem whole.tw3127163415804763599 : True := trivial
theorem whole.tw16986268789631483586 : True := trivial
theorem whole.tw1169358714977055332 : True := trivial
theorem whole.tw16616245412964173377 : True := trivial
theorem whole.tw11324160156967510407 : True := trivial
theorem whole.tw11168554632963773920 : True := trivial
theorem whole.tw14857529406646634625 : True := trivial
theorem whole.tw3390907139478361160 : True := trivial
theorem whole.tw14395644662136614805 : True := trivial
theorem whole.tw17948893368442150300 : True := trivial
theorem whole.tw9088682870026954680 : True := trivial
theorem whole.tw8109663874093803249 : True := trivial
theorem whole.tw14676366378414606867 : True := trivial
theorem whole.tw11116944545036436439 : True := trivial
theorem whole.tw15236457661806194377 : True := trivial
theorem whole.tw3087226120313871188 : True := trivial
theorem whole.tw3720110479823389818 : True := trivial
theorem whole.tw906349369099734097 : True := trivial
theorem whole.tw8856355419119029804 : True := trivial
theorem whole.tw9748834850448372353 : True := trivial
theorem whole.tw1999433592531618509 : True := trivial
theorem whole.tw2989192609971925910 : True := trivial
theorem whole.tw16529046165737248422 : True := trivial
theorem whole.tw9524161046149784534 : True := trivial
theorem whole.tw12808456870637180559 : True := trivial
theorem whole.tw16000088419691856984 : True := trivial
theorem whole.tw14239292526413980002 : True := trivial
theorem whole.tw14725644924352215136 : True := trivial
theorem whole.tw14450635290435297814 : True := trivial
theorem whole.tw12562849145585476731 : True := trivial
theorem whole.tw16731332320388202666 : True := trivial
theorem whole.tw11457787646611388972 : True := trivial
theorem whole.tw11746468281252436920 : True := trivial
theorem whole.tw161632788893874429 : True := trivial
theorem whole.tw1633898876240874773 : True := trivial
theorem whole.tw4499328569734638372 : True := trivial
theorem whole.tw14328502944104624683 : True := trivial
theorem whole.tw14592908492388784131 : True := trivial
theorem whole.tw161333873384909080 : True := trivial
theorem whole.tw14649381610841438815 : True := trivial
theorem whole.tw5201323674647411954 : True := trivial
theorem whole.tw6197045082498751548 : True := trivial
theorem whole.tw161295022889997188 : True := trivial
theorem whole.tw17463027529269885953 : True := trivial
theorem whole.tw8011658993158656957 : True := trivial
theorem whole.tw4487652198498899664 : True := trivial
theorem whole.tw4024587099455181709 : True := trivial
theorem whole.tw435229417069212923 : True := trivial
theorem whole.tw60084206612377972 : True := trivial
theorem whole.tw6059101297212633470 : True := trivial
theorem whole.tw16576061068926947915 : True := trivial
theorem whole.tw16265185521643916613 : True := trivial
theorem whole.tw16912792503757511054 : True := trivial
theorem whole.tw6866068747796929802 : True := trivial
theorem whole.tw1192384068545781584 : True := trivial
theorem whole.tw9035394219717786629 : True := trivial
theorem whole.tw1836438579387980826 : True := trivial
theorem whole.tw3633373589777264862 : True := trivial
theorem whole.tw8615399842404961663 : True := trivial
theorem whole.tw482805393138593929 : True := trivial
theorem whole.tw7315993881563675004 : True := trivial
theorem whole.tw17700112632457955127 : True := trivial
theorem whole.tw14590790631899776401 : True := trivial
theorem whole.tw2626972384719194784 : True := trivial
theorem whole.tw2409123336234807113 : True := trivial
theorem whole.tw7470591436984971617 : True := trivial
theorem whole.tw8758825779926369472 : True := trivial
theorem whole.tw16008101280253657391 : True := trivial
theorem whole.tw1587768003098754325 : True := trivial
theorem whole.tw9263590555730510648 : True := trivial
theorem whole.tw15716183405302250479 : True := trivial
theorem whole.tw13397120828393852246 : True := trivial
theorem whole.tw7978788361824508945 : True := trivial
theorem whole.tw15835130817642446534 : True := trivial
theorem whole.tw17992364426957274132 : True := trivial
theorem whole.tw17195952149560314771 : True := trivial
theorem whole.tw7185185305316088854 : True := trivial
theorem whole.tw12850242359631670003 : True := trivial
theorem whole.tw13468676432958742306 : True := trivial
theorem whole.tw13533835726952830686 : True := trivial
theorem whole.tw3860174431591174066 : True := trivial
theorem whole.tw13202693285660988826 : True := trivial
theorem whole.tw18363153814535713890 : True := trivial
theorem whole.tw8799044985600393684 : True := trivial
theorem whole.tw11862022474199680377 : True := trivial
theorem whole.tw1182916100746360932 : True := trivial
theorem whole.tw10951800313117414527 : True := trivial
theorem whole.tw17847466938742361278 : True := trivial
theorem whole.tw8495578030972149916 : True := trivial
theorem whole.tw14621228733418778453 : True := trivial
theorem whole.tw8243020233432551205 : True := trivial
theorem whole.tw4325337674984583414 : True := trivial
theorem whole.tw10832908153356258463 : True := trivial
theorem whole.tw4559885085590827626 : True := trivial
theorem whole.tw12092817750456807627 : True := trivial
theorem whole.tw10423522819347714589 : True := trivial
theorem whole.tw17480726222106551122 : True := trivial
theorem whole.tw3345019855932357843 : True := trivial
theorem whole.tw9033953771586226978 : True := trivial
theorem whole.tw16738726308800667447 : True := trivial
theorem whole.tw7582900045019172013 : True := trivial
theorem whole.tw2913027948615884809 : True := trivial
theorem whole.tw11313703599672150522 : True := trivial
theorem whole.tw6049599900894316688 : True := trivial
theorem whole.tw7440899508696716974 : True := trivial
theorem whole.tw1859146779660683823 : True := trivial
theorem whole.tw2401531773124529735 : True := trivial
theorem whole.tw13835169320686990480 : True := trivial
theorem whole.tw1469495571348798126 : True := trivial
theorem whole.tw6648197116569056673 : True := trivial
theorem whole.tw5348631242219561681 : True := trivial
theorem whole.tw11187447588885237514 : True := trivial
theorem whole.tw7967871255840070022 : True := trivial
theorem whole.tw8496900606834724182 : True := trivial
theorem whole.tw3118101993129739532 : True := trivial
theorem whole.tw7545590854473540767 : True := trivial
theorem whole.tw5484095542441899555 : True := trivial
theorem whole.tw2448076297453326055 : True := trivial
theorem whole.tw7669669677095693358 : True := trivial
theorem whole.tw11618948946589211957 : True := trivial
theorem whole.tw5852837442982555326 : True := trivial
theorem whole.tw5507206668745343223 : True := trivial
theorem whole.tw4535560162481520197 : True := trivial
theorem whole.tw5170085318457261871 : True := trivial
theorem whole.tw280920844665842053 : True := trivial
theorem whole.tw9501391760213346845 : True := trivial
theorem whole.tw12852820008105578649 : True := trivial
theorem whole.tw17708391408692131970 : True := trivial
theorem whole.tw3168900989282067249 : True := trivial
theorem whole.tw4725433933799282014 : True := trivial
theorem whole.tw14340079683799668620 : True := trivial
theorem whole.tw12722690725976728532 : True := trivial
theorem whole.tw1934810232205804993 : True := trivial
theorem whole.tw9261806104794426953 : True := trivial
theorem whole.tw3742335343461010818 : True := trivial
theorem whole.tw18186416632783805872 : True := trivial
theorem whole.tw17120517816671682439 : True := trivial
theorem whole.tw5798653541585068671 : True := trivial
theorem whole.tw17333791097184162534 : True := trivial
theorem whole.tw2959683903145980101 : True := trivial
theorem whole.tw8465779003785688887 : True := trivial
theorem whole.tw387848595295396948 : True := trivial
theorem whole.tw14398828562116658018 : True := trivial
theorem whole.tw12670536560144379023 : True := trivial
theorem whole.tw775654668261428149 : True := trivial
theorem whole.tw4324854215712742514 : True := trivial
theorem whole.tw3388183141720772199 : True := trivial
theorem whole.tw14339919399903518487 : True := trivial
theorem whole.tw528442517531419411 : True := trivial
theorem whole.tw9018635070940762159 : True := trivial
theorem whole.tw8341004590406740810 : True := trivial
theorem whole.tw369943808078234791 : True := trivial
theorem whole.tw11016684239938642134 : True := trivial
theorem whole.tw16089163917832698231 : True := trivial
theorem whole.tw11959834037327795482 : True := trivial
theorem whole.tw12548274353314379123 : True := trivial
theorem whole.tw3947618128840659280 : True := trivial
theorem whole.tw6496092161831514541 : True := trivial
theorem whole.tw4516712372641221423 : True := trivial
theorem whole.tw15117479482001565679 : True := trivial
theorem whole.tw9372551899067078669 : True := trivial
theorem whole.tw9851385603074314742 : True := trivial
theorem whole.tw9818944310502328695 : True := trivial
theorem whole.tw12294887724330564330 : True := trivial
theorem whole.tw4337987958061720545 : True := trivial
theorem whole.tw3085902745639715626 : True := trivial
theorem whole.tw4210173837847294953 : True := trivial
theorem whole.tw10151842457417960038 : True := trivial
theorem whole.tw1053576622031914459 : True := trivial
theorem whole.tw13762013822233420738 : True := trivial
theorem whole.tw10002100669626812175 : True := trivial
theorem whole.tw1601961968588287001 : True := trivial
theorem whole.tw1488662743745869538 : True := trivial
theorem whole.tw7181214704614307865 : True := trivial
theorem whole.tw15564212434770411261 : True := trivial
theorem whole.tw18145388855558949900 : True := trivial
theorem whole.tw12590650055501746483 : True := trivial
theorem whole.tw11678933692714762019 : True := trivial
theorem whole.tw14875044017630859624 : True := trivial
theorem whole.tw1147815978188729584 : True := trivial
theorem whole.tw5780719067801662900 : True := trivial
theorem whole.tw4429454015001785570 : True := trivial
theorem whole.tw964911493779461333 : True := trivial
theorem whole.tw697334722855355308 : True := trivial
theorem whole.tw8203973303204277656 : True := trivial
theorem whole.tw9406530864695525851 : True := trivial
theorem whole.tw5015864234111024480 : True := trivial
theorem whole.tw13562979760119101899 : True := trivial
theorem whole.tw12044105500090777872 : True := trivial
theorem whole.tw5980585785881701215 : True := trivial
theorem whole.tw8680444420967750489 : True := trivial
theorem whole.tw1371446737807839366 : True := trivial
theorem whole.tw17454085226186693669 : True := trivial
theorem whole.tw6779701449201555220 : True := trivial
theorem whole.tw17175942615292613127 : True := trivial
theorem whole.tw5360207378560713126 : True := trivial
theorem whole.tw9838295914634562783 : True := trivial
theorem whole.tw8958452949930002773 : True := trivial
theorem whole.tw1841945404117466239 : True := trivial
theorem whole.tw8444963059077079450 : True := trivial
theorem whole.tw2302772764467998647 : True := trivial
theorem whole.tw11896201609302106115 : True := trivial
theorem whole.tw16691007607992939502 : True := trivial
theorem whole.tw15456695043542012934 : True := trivial
theorem whole.tw1544131599997683834 : True := trivial
theorem whole.tw13280236369478660345 : True := trivial
theorem whole.tw1857908816714783930 : True := trivial
theorem whole.tw5405151241437436114 : True := trivial
theorem whole.tw15897636104957077249 : True := trivial
theorem whole.tw15753584648845244147 : True := trivial
theorem whole.tw17781206938751360472 : True := trivial
theorem whole.tw18140368120207624840 : True := trivial
theorem whole.tw6766658173562982576 : True := trivial
theorem whole.tw2554714600840530319 : True := trivial
theorem whole.tw4881149852633135710 : True := trivial
theorem whole.tw5049987766257362985 : True := trivial
theorem whole.tw8375544079726102598 : True := trivial
theorem whole.tw2889258933206107750 : True := trivial
theorem whole.tw8197379950578934166 : True := trivial
theorem whole.tw11450018549928827538 : True := trivial
theorem whole.tw9733464779038806419 : True := trivial
theorem whole.tw4444701892398472603 : True := trivial
theorem whole.tw8523286992835677893 : True := trivial
theorem whole.tw1236909307960003037 : True := trivial
theorem whole.tw11670093711784454257 : True := trivial
theorem whole.tw5997644934508616594 : True := trivial
theorem whole.tw5882343337706715899 : True := trivial
theorem whole.tw1579314106941295789 : True := trivial
theorem whole.tw14770174760954882662 : True := trivial
theorem whole.tw15189915617685484396 : True := trivial
theorem whole.tw3200025831031697495 : True := trivial
theorem whole.tw6327303007010539975 : True := trivial
theorem whole.tw1335791156554467795 : True := trivial
theorem whole.tw1916967650581213123 : True := trivial
theorem whole.tw1503406073462105463 : True := trivial
theorem whole.tw7868544009499267292 : True := trivial
theorem whole.tw11988251369728918034 : True := trivial
theorem whole.tw3479739002732855021 : True := trivial
theorem whole.tw13760198194640045919 : True := trivial
theorem whole.tw3964629028663073728 : True := trivial
theorem whole.tw13397667615521693709 : True := trivial
theorem whole.tw6429885574394902624 : True := trivial
theorem whole.tw17881794589497109145 : True := trivial
theorem whole.tw679095792406170707 : True := trivial
theorem whole.tw15695161780090201225 : True := trivial
theorem whole.tw409525538239758689 : True := trivial
theorem whole.tw5791068310056048545 : True := trivial
theorem whole.tw3319232102181397200 : True := trivial
theorem whole.tw7763615457305083410 : True := trivial
theorem whole.tw3306209509626126654 : True := trivial
theorem whole.tw4162360135600614074 : True := trivial
theorem whole.tw10616696396452150886 : True := trivial
theorem whole.tw15281802890647197503 : True := trivial
theorem whole.tw9328073887668095074 : True := trivial
theorem whole.tw13231496892565117553 : True := trivial
theorem whole.tw16734197759499934857 : True := trivial
theorem whole.tw11174776280971001188 : True := trivial
theorem whole.tw7925426705801168976 : True := trivial
theorem whole.tw11775131333759173506 : True := trivial
theorem whole.tw7545654013535254480 : True := trivial
theorem whole.tw16395379286268932709 : True := trivial
theorem whole.tw15103685750691789098 : True := trivial
theorem whole.tw17819583843959417973 : True := trivial
theorem whole.tw12762855891700095494 : True := trivial
theorem whole.tw9519799797704210914 : True := trivial
theorem whole.tw5879479702872096659 : True := trivial
theorem whole.tw5649241889958590350 : True := trivial
theorem whole.tw2631803559830133077 : True := trivial
theorem whole.tw16316554137538487329 : True := trivial
theorem whole.tw12179455670472476543 : True := trivial
theorem whole.tw10499325594661192776 : True := trivial
theorem whole.tw17942281408064791371 : True := trivial
theorem whole.tw11768088345420399494 : True := trivial
theorem whole.tw3016316376071577429 : True := trivial
theorem whole.tw7825112549076731031 : True := trivial
theorem whole.tw14765760737338471991 : True := trivial
theorem whole.tw8868806382682364411 : True := trivial
theorem whole.tw5444821181176152557 : True := trivial
theorem whole.tw340442491454447764 : True := trivial
theorem whole.tw2227498709159742100 : True := trivial
theorem whole.tw10319702536984744784 : True := trivial
theorem whole.tw14407623233719037512 : True := trivial
theorem whole.tw16132514418054079626 : True := trivial
theorem whole.tw4466201941553827358 : True := trivial
theorem whole.tw2290268214366725154 : True := trivial
theorem whole.tw11791088910183784695 : True := trivial
theorem whole.tw11722927043363711893 : True := trivial
theorem whole.tw6159961993279768742 : True := trivial
theorem whole.tw9063790561628003831 : True := trivial
theorem whole.tw4407424652887510330 : True := trivial
theorem whole.tw10118140284582671090 : True := trivial
theorem whole.tw931279895210919617 : True := trivial
theorem whole.tw4441961637666494936 : True := trivial
theorem whole.tw16941454671938913892 : True := trivial
theorem whole.tw11836910150536664915 : True := trivial
theorem whole.tw3482644124312780496 : True := trivial
theorem whole.tw9945681253131214307 : True := trivial
theorem whole.tw11030684522653666869 : True := trivial
theorem whole.tw9070123692017013846 : True := trivial
theorem whole.tw302538394102154784 : True := trivial
theorem whole.tw15490696404161045352 : True := trivial
theorem whole.tw6266228650988000492 : True := trivial
theorem whole.tw5519939804441798282 : True := trivial
theorem whole.tw3995449140538097629 : True := trivial
theorem whole.tw12967805889597932581 : True := trivial
theorem whole.tw8184708281838074206 : True := trivial
theorem whole.tw5099900934548537757 : True := trivial
theorem whole.tw8271556485288271006 : True := trivial
theorem whole.tw11650966009514619462 : True := trivial
theorem whole.tw12809664267019061670 : True := trivial
theorem whole.tw8529020170189433330 : True := trivial
theorem whole.tw15590627282705473993 : True := trivial
theorem whole.tw13473866653808353621 : True := trivial
theorem whole.tw18441933478247557488 : True := trivial
theorem whole.tw16800997667575721541 : True := trivial
theorem whole.tw4603890583814415204 : True := trivial
theorem whole.tw2840240246700292369 : True := trivial
theorem whole.tw12117460353608821864 : True := trivial
theorem whole.tw9200330197067421115 : True := trivial
theorem whole.tw12066178620653064874 : True := trivial
theorem whole.tw14457598465852218886 : True := trivial
theorem whole.tw9000908037299752229 : True := trivial
theorem whole.tw7910221479046277610 : True := trivial
theorem whole.tw17814491789457634051 : True := trivial
theorem whole.tw10461253832287612282 : True := trivial
theorem whole.tw15005421627973807601 : True := trivial
theorem whole.tw16607669324509118938 : True := trivial
theorem whole.tw127423454215802840 : True := trivial
theorem whole.tw10387336663765257279 : True := trivial
theorem whole.tw11952309323241053379 : True := trivial
theorem whole.tw3162264621223815677 : True := trivial
theorem whole.tw8284271217205693211 : True := trivial
theorem whole.tw17933440416606161858 : True := trivial
theorem whole.tw7856580471358416282 : True := trivial
theorem whole.tw10472183733418339316 : True := trivial
theorem whole.tw11975771152792504044 : True := trivial
theorem whole.tw7499365098147365621 : True := trivial
theorem whole.tw9464417701048127947 : True := trivial
theorem whole.tw13463558215457259582 : True := trivial
theorem whole.tw7276013540153241084 : True := trivial
theorem whole.tw9385414077733418526 : True := trivial
theorem whole.tw5984233764851548814 : True := trivial
theorem whole.tw18002909038890314157 : True := trivial
theorem whole.tw11497737979517188 : True := trivial
theorem whole.tw1645590182628983409 : True := trivial
theorem whole.tw437534634077163847 : True := trivial
theorem whole.tw5189780602208921310 : True := trivial
theorem whole.tw1985066219578509453 : True := trivial
theorem whole.tw4056270910917201831 : True := trivial
theorem whole.tw1902754551582867561 : True := trivial
theorem whole.tw3911966217894400741 : True := trivial
theorem whole.tw4575215925948623331 : True := trivial
theorem whole.tw11966515284280811977 : True := trivial
theorem whole.tw3733001107339715835 : True := trivial
theorem whole.tw227304862334750897 : True := trivial
theorem whole.tw4460090275425369289 : True := trivial
theorem whole.tw1255956871972877904 : True := trivial
theorem whole.tw13989200534822022692 : True := trivial
theorem whole.tw5430717269032188674 : True := trivial
theorem whole.tw5795321864736660020 : True := trivial
theorem whole.tw1533094020690680647 : True := trivial
theorem whole.tw12264481721688367047 : True := trivial
theorem whole.tw6396017553259284124 : True := trivial
theorem whole.tw1299319290729411920 : True := trivial
theorem whole.tw5728154831901139425 : True := trivial
theorem whole.tw17737194193827323026 : True := trivial
theorem whole.tw6150244297128479101 : True := trivial
theorem whole.tw12101772971524344381 : True := trivial
theorem whole.tw15803673994437570577 : True := trivial
theorem whole.tw16248777263060333642 : True := trivial
theorem whole.tw13974613887430780637 : True := trivial
theorem whole.tw9043093919020774792 : True := trivial
theorem whole.tw1893850866222049975 : True := trivial
theorem whole.tw2675290096998512546 : True := trivial
theorem whole.tw4808684823556612304 : True := trivial
theorem whole.tw4497405343062392443 : True := trivial
theorem whole.tw14916202748087371944 : True := trivial
theorem whole.tw1273583120585336579 : True := trivial
theorem whole.tw15274856360797078626 : True := trivial
theorem whole.tw7645621925510333512 : True := trivial
theorem whole.tw5055955640874334904 : True := trivial
theorem whole.tw17092094596097150618 : True := trivial
theorem whole.tw2933302424402908820 : True := trivial
theorem whole.tw3384858237140249800 : True := trivial
theorem whole.tw15462414832971340256 : True := trivial
theorem whole.tw8789054386453842027 : True := trivial
theorem whole.tw14943008167867972167 : True := trivial
theorem whole.tw2349701861695252166 : True := trivial
theorem whole.tw397210227534267232 : True := trivial
theorem whole.tw18354614867481654581 : True := trivial
theorem whole.tw9154937567484334560 : True := trivial
theorem whole.tw7525632177321363660 : True := trivial
theorem whole.tw14173393766343599159 : True := trivial
theorem whole.tw5349422690488739272 : True := trivial
theorem whole.tw9449955787129754595 : True := trivial
theorem whole.tw13285438998962464343 : True := trivial
theorem whole.tw9024608533772062355 : True := trivial
theorem whole.tw14407849266092530191 : True := trivial
theorem whole.tw5280658894789648532 : True := trivial
theorem whole.tw2685624786292725039 : True := trivial
theorem whole.tw15013576625721048695 : True := trivial
theorem whole.tw285988719286631819 : True := trivial
theorem whole.tw15593539561102206943 : True := trivial
theorem whole.tw3856153580267494730 : True := trivial
theorem whole.tw12505054689143061370 : True := trivial
theorem whole.tw4347982837100205910 : True := trivial
theorem whole.tw11188280186532128609 : True := trivial
theorem whole.tw17818493641747277991 : True := trivial
theorem whole.tw3559878232441866632 : True := trivial
theorem whole.tw16437039913409361110 : True := trivial
theorem whole.tw7591398146686957285 : True := trivial
theorem whole.tw13399198550693968896 : True := trivial
theorem whole.tw5795378201807131128 : True := trivial
theorem whole.tw16398205279857054297 : True := trivial
theorem whole.tw17659150536888882668 : True := trivial
theorem whole.tw12330158387926722826 : True := trivial
theorem whole.tw16845944245580146995 : True := trivial
theorem whole.tw15193075170529001071 : True := trivial
theorem whole.tw2896436902973227457 : True := trivial
theorem whole.tw5301671710893950682 : True := trivial
theorem whole.tw9520642938864585524 : True := trivial
theorem whole.tw5001923725869043736 : True := trivial
theorem whole.tw7368006489180217709 : True := trivial
theorem whole.tw11243603205920247706 : True := trivial
theorem whole.tw14112183661028369552 : True := trivial
theorem whole.tw6416634858453334624 : True := trivial
theorem whole.tw6330797023819526829 : True := trivial
theorem whole.tw13749801708979339770 : True := trivial
theorem whole.tw5460680643579594377 : True := trivial
theorem whole.tw6590139235508916450 : True := trivial
theorem whole.tw9614074434444955867 : True := trivial
theorem whole.tw189715827726577491 : True := trivial
theorem whole.tw2021854409746315462 : True := trivial
theorem whole.tw7952383044827225310 : True := trivial
theorem whole.tw10687446343889991496 : True := trivial
theorem whole.tw17580786090293021976 : True := trivial
theorem whole.tw2168223474955763204 : True := trivial
theorem whole.tw4118473863278602438 : True := trivial
theorem whole.tw17044950167386977207 : True := trivial
theorem whole.tw6896427876366098391 : True := trivial
theorem whole.tw1072497446573119103 : True := trivial
theorem whole.tw3467671131507365174 : True := trivial
theorem whole.tw668774492082921180 : True := trivial
theorem whole.tw9212966250080664162 : True := trivial
theorem whole.tw9521756469634577901 : True := trivial
theorem whole.tw1698847728826587444 : True := trivial
theorem whole.tw15805813355668570960 : True := trivial
theorem whole.tw10749463760870054271 : True := trivial
theorem whole.tw2083198920140632441 : True := trivial
theorem whole.tw13675596732203519343 : True := trivial
theorem whole.tw1710221593020227077 : True := trivial
theorem whole.tw15652777202477211125 : True := trivial
theorem whole.tw14138553856905868755 : True := trivial
theorem whole.tw18293881159641894451 : True := trivial
theorem whole.tw1318554304652621475 : True := trivial
theorem whole.tw6679801877992481514 : True := trivial
theorem whole.tw17895464640352678532 : True := trivial
theorem whole.tw169747851870786472 : True := trivial
theorem whole.tw13730376311393935369 : True := trivial
theorem whole.tw8961415085178454156 : True := trivial
theorem whole.tw16112925590461663603 : True := trivial
theorem whole.tw14165590967655844809 : True := trivial
theorem whole.tw5254450366334392284 : True := trivial
theorem whole.tw7885708016979292634 : True := trivial
theorem whole.tw6323609867561441924 : True := trivial
theorem whole.tw8077329512025694350 : True := trivial
theorem whole.tw4357746044423742650 : True := trivial
theorem whole.tw3971760220004402078 : True := trivial
theorem whole.tw16708263669468244151 : True := trivial
theorem whole.tw18314547241281667657 : True := trivial
theorem whole.tw9227647233554483089 : True := trivial
theorem whole.tw13600218594186718376 : True := trivial
theorem whole.tw18315055452531851272 : True := trivial
theorem whole.tw10488504414272976643 : True := trivial
theorem whole.tw4338333698743118245 : True := trivial
theorem whole.tw11409993775148365219 : True := trivial
theorem whole.tw254780913952180833 : True := trivial
theorem whole.tw13520624980008068981 : True := trivial
theorem whole.tw15264306265154332586 : True := trivial
theorem whole.tw3357092870726653058 : True := trivial
theorem whole.tw8309436690622926411 : True := trivial
theorem whole.tw13406957107772272364 : True := trivial
theorem whole.tw43722865635132848 : True := trivial
theorem whole.tw17022761755405916213 : True := trivial
theorem whole.tw5532809562029925614 : True := trivial
theorem whole.tw16926659055490591571 : True := trivial
theorem whole.tw2937169305547731376 : True := trivial
theorem whole.tw10339747121181971505 : True := trivial
theorem whole.tw14277096492922572389 : True := trivial
theorem whole.tw7762256720603616171 : True := trivial
theorem whole.tw5137022389394785357 : True := trivial
theorem whole.tw10344827342348678470 : True := trivial
theorem whole.tw17475311184863085016 : True := trivial
theorem whole.tw13960669724093699300 : True := trivial
theorem whole.tw9081442686682602634 : True := trivial
theorem whole.tw7576292583959916747 : True := trivial
theorem whole.tw16472206009762837957 : True := trivial
theorem whole.tw12920395458479335663 : True := trivial
theorem whole.tw2649048575011448004 : True := trivial
theorem whole.tw14420548223002519687 : True := trivial
theorem whole.tw10805158454514937742 : True := trivial
theorem whole.tw11100186960236547562 : True := trivial
theorem whole.tw7936284996118199345 : True := trivial
theorem whole.tw8699793337390238261 : True := trivial
theorem whole.tw7877845480710146401 : True := trivial
theorem whole.tw5790326999694950120 : True := trivial
theorem whole.tw15605172539740629501 : True := trivial
theorem whole.tw5150714380194139594 : True := trivial
theorem whole.tw14776171463994254414 : True := trivial
theorem whole.tw10019450917411332427 : True := trivial
theorem whole.tw15257822683096599900 : True := trivial
theorem whole.tw102978890456122686 : True := trivial
theorem whole.tw3158200523106604942 : True := trivial
theorem whole.tw5833760311655045577 : True := trivial
theorem whole.tw3099174332690161747 : True := trivial
theorem whole.tw6714927969197098277 : True := trivial
theorem whole.tw15819564801051643881 : True := trivial
theorem whole.tw2151871088471828822 : True := trivial
theorem whole.tw11841974853317911985 : True := trivial
theorem whole.tw15206955865107345967 : True := trivial
theorem whole.tw12186894253409539890 : True := trivial
theorem whole.tw11681139010474604960 : True := trivial
theorem whole.tw12063277863729348616 : True := trivial
theorem whole.tw8965215075514910880 : True := trivial
theorem whole.tw1153207742219969292 : True := trivial
theorem whole.tw12077107353733055826 : True := trivial
theorem whole.tw2777902329107566167 : True := trivial
theorem whole.tw4180466227808675834 : True := trivial
theorem whole.tw16442795661328238356 : True := trivial
theorem whole.tw12951669734159865017 : True := trivial
theorem whole.tw3243557710152264731 : True := trivial
theorem whole.tw17641713804859348092 : True := trivial
theorem whole.tw4672207989499910625 : True := trivial
theorem whole.tw17466715720860763384 : True := trivial
theorem whole.tw927568089824032536 : True := trivial
theorem whole.tw17221409760620009834 : True := trivial
theorem whole.tw15579141869815937786 : True := trivial
theorem whole.tw9625973628771424018 : True := trivial
theorem whole.tw12956448898367404955 : True := trivial
theorem whole.tw18382394861701510011 : True := trivial
theorem whole.tw3724477965614018403 : True := trivial
theorem whole.tw8055778532778380201 : True := trivial
theorem whole.tw2783269125865542102 : True := trivial
theorem whole.tw13142167418276237254 : True := trivial
theorem whole.tw6097748072631727781 : True := trivial
theorem whole.tw10879388597655286671 : True := trivial
theorem whole.tw4195589956728777111 : True := trivial
theorem whole.tw9841425051670495895 : True := trivial
theorem whole.tw14113312626403753215 : True := trivial
theorem whole.tw113900542113845248 : True := trivial
theorem whole.tw5542149417468696053 : True := trivial
theorem whole.tw13518702907885339924 : True := trivial
theorem whole.tw14756447051001558117 : True := trivial
theorem whole.tw12442016628978143412 : True := trivial
theorem whole.tw15401142651479110994 : True := trivial
theorem whole.tw3774107025085352999 : True := trivial
theorem whole.tw2536362301702204066 : True := trivial
theorem whole.tw3981194921628995571 : True := trivial
theorem whole.tw13962616709173656972 : True := trivial
theorem whole.tw8684032485159981719 : True := trivial
theorem whole.tw4447922135398794285 : True := trivial
theorem whole.tw7452821578398259720 : True := trivial
theorem whole.tw10887019763833697050 : True := trivial
theorem whole.tw17179786008130999086 : True := trivial
theorem whole.tw10219327507634694686 : True := trivial
theorem whole.tw2333962037820811586 : True := trivial
theorem whole.tw483992730283222753 : True := trivial
theorem whole.tw3719598108804966507 : True := trivial
theorem whole.tw9719422809269850415 : True := trivial
theorem whole.tw10765999639320066096 : True := trivial
theorem whole.tw5433660331597885046 : True := trivial
theorem whole.tw8351164730277109312 : True := trivial
theorem whole.tw1219099391390118749 : True := trivial
theorem whole.tw17991299263585117788 : True := trivial
theorem whole.tw15338273372565686330 : True := trivial
theorem whole.tw4221266100470226451 : True := trivial
theorem whole.tw17843127513448600897 : True := trivial
theorem whole.tw16146805003597673684 : True := trivial
theorem whole.tw2151346155558304222 : True := trivial
theorem whole.tw3935972832432928633 : True := trivial
theorem whole.tw13373713576854631141 : True := trivial
theorem whole.tw13033160020079735899 : True := trivial
theorem whole.tw10153838690179905649 : True := trivial
theorem whole.tw3802398583823018356 : True := trivial
theorem whole.tw16586233370728154131 : True := trivial
theorem whole.tw817909704231249520 : True := trivial
theorem whole.tw2198523743367551842 : True := trivial
theorem whole.tw11690859581915506653 : True := trivial
theorem whole.tw1765076044715932963 : True := trivial
theorem whole.tw7860379621774607140 : True := trivial
theorem whole.tw16588625043399567139 : True := trivial
theorem whole.tw6734874506966982255 : True := trivial
theorem whole.tw3117049408229778687 : True := trivial
theorem whole.tw14732348922388339242 : True := trivial
theorem whole.tw14852934547574820571 : True := trivial
theorem whole.tw6795950696382679116 : True := trivial
theorem whole.tw6300749833780909245 : True := trivial
theorem whole.tw7435482016451815233 : True := trivial
theorem whole.tw5531847113258461380 : True := trivial
theorem whole.tw4234479992401935053 : True := trivial
theorem whole.tw10795012362202508061 : True := trivial
theorem whole.tw9242471422690250210 : True := trivial
theorem whole.tw13478315594510353802 : True := trivial
theorem whole.tw2362521522948952975 : True := trivial
theorem whole.tw11579432869886197636 : True := trivial
theorem whole.tw7906611734251618119 : True := trivial
theorem whole.tw14500094016500205021 : True := trivial
theorem whole.tw18386381941678837628 : True := trivial
theorem whole.tw15213816345297606680 : True := trivial
theorem whole.tw6497155892226384564 : True := trivial
theorem whole.tw8572516506043022915 : True := trivial
theorem whole.tw6356627984389668255 : True := trivial
theorem whole.tw9725988738643398560 : True := trivial
theorem whole.tw14628220171574447489 : True := trivial
theorem whole.tw13000713063990318526 : True := trivial
theorem whole.tw18162983195158539490 : True := trivial
theorem whole.tw9753940524135748638 : True := trivial
theorem whole.tw17258676653681215673 : True := trivial
theorem whole.tw3028004478679740547 : True := trivial
theorem whole.tw12810356135173068295 : True := trivial
theorem whole.tw3831098155750919189 : True := trivial
theorem whole.tw12742087137024979937 : True := trivial
theorem whole.tw2081632904089052959 : True := trivial
theorem whole.tw1469139166737108290 : True := trivial
theorem whole.tw7073311072910153293 : True := trivial
theorem whole.tw5171116725156735389 : True := trivial
theorem whole.tw14117439955800268797 : True := trivial
theorem whole.tw2028823117376367632 : True := trivial
theorem whole.tw9189751539129569556 : True := trivial
theorem whole.tw12373707651872627956 : True := trivial
theorem whole.tw8676476347047772082 : True := trivial
theorem whole.tw13248432789117441309 : True := trivial
theorem whole.tw13664935262549406174 : True := trivial
theorem whole.tw10475443434110032687 : True := trivial
theorem whole.tw4689585835679557668 : True := trivial
theorem whole.tw17938139132677727654 : True := trivial
theorem whole.tw9121730484126507938 : True := trivial
theorem whole.tw5476393818906829930 : True := trivial
theorem whole.tw11447198823506915613 : True := trivial
theorem whole.tw1353902047762577225 : True := trivial
theorem whole.tw1329479340354266572 : True := trivial
theorem whole.tw14642655207333410232 : True := trivial
theorem whole.tw14736388558372465541 : True := trivial
theorem whole.tw4909349585908861296 : True := trivial
theorem whole.tw950895424614454216 : True := trivial
theorem whole.tw15805006361170613057 : True := trivial
theorem whole.tw3854836380661713446 : True := trivial
theorem whole.tw12591319150774080885 : True := trivial
theorem whole.tw1058133836064258550 : True := trivial
theorem whole.tw10425913336057316111 : True := trivial
theorem whole.tw10870375681248689645 : True := trivial
theorem whole.tw11670040512431834200 : True := trivial
theorem whole.tw6233461465355520292 : True := trivial
theorem whole.tw6774775609766916077 : True := trivial
theorem whole.tw2733790213765534055 : True := trivial
theorem whole.tw13434065944014204811 : True := trivial
theorem whole.tw7187317218736086229 : True := trivial
theorem whole.tw6750649090777595757 : True := trivial
theorem whole.tw6586851211266487494 : True := trivial
theorem whole.tw16739781802365451968 : True := trivial
theorem whole.tw7125036137928297414 : True := trivial
theorem whole.tw13149474316023798553 : True := trivial
theorem whole.tw12859368380286619727 : True := trivial
theorem whole.tw8257274053009572390 : True := trivial
theorem whole.tw7391549574342816922 : True := trivial
theorem whole.tw572749868224977959 : True := trivial
theorem whole.tw15680802009173567957 : True := trivial
theorem whole.tw8983667203327932493 : True := trivial
theorem whole.tw1028817268384753636 : True := trivial
theorem whole.tw8726271496915383628 : True := trivial
theorem whole.tw13728302104422888548 : True := trivial
theorem whole.tw1047630922221454212 : True := trivial
theorem whole.tw9994479494313819776 : True := trivial
theorem whole.tw4469111808269641240 : True := trivial
theorem whole.tw1471963695286822381 : True := trivial
theorem whole.tw6872907005359335961 : True := trivial
theorem whole.tw18402882695012882554 : True := trivial
theorem whole.tw11476502588441444683 : True := trivial
theorem whole.tw2013318861076662011 : True := trivial
theorem whole.tw3871852658520080179 : True := trivial
theorem whole.tw6501748431566575849 : True := trivial
theorem whole.tw5803101561360292368 : True := trivial
theorem whole.tw6472696656209681604 : True := trivial
theorem whole.tw2719981389479183198 : True := trivial
theorem whole.tw15001587830400145190 : True := trivial
theorem whole.tw4104619502420251389 : True := trivial
theorem whole.tw3345510996311645767 : True := trivial
theorem whole.tw1573668984985804180 : True := trivial
theorem whole.tw16827500432841332687 : True := trivial
theorem whole.tw6774593797627383584 : True := trivial
theorem whole.tw1349178898306187914 : True := trivial
theorem whole.tw6898337765569743076 : True := trivial
theorem whole.tw6625591401657005825 : True := trivial
theorem whole.tw9654072969724333583 : True := trivial
theorem whole.tw1699034841665187622 : True := trivial
theorem whole.tw14890280090424698046 : True := trivial
theorem whole.tw949743934663060849 : True := trivial
theorem whole.tw10000958634945066235 : True := trivial
theorem whole.tw6059178768359225412 : True := trivial
theorem whole.tw15760340098015377092 : True := trivial
theorem whole.tw11219503280623407775 : True := trivial
theorem whole.tw14929651699154906824 : True := trivial
theorem whole.tw49618309497685836 : True := trivial
theorem whole.tw9747230263235303430 : True := trivial
theorem whole.tw1200200279266715423 : True := trivial
theorem whole.tw772474843232632690 : True := trivial
theorem whole.tw17169624498616045403 : True := trivial
theorem whole.tw9884847805657258340 : True := trivial
theorem whole.tw11348535963810952348 : True := trivial
theorem whole.tw46433443316919834 : True := trivial
theorem whole.tw3270133029678145397 : True := trivial
theorem whole.tw12755130789335188444 : True := trivial
theorem whole.tw1897105925431849711 : True := trivial
theorem whole.tw10654317064775040509 : True := trivial
theorem whole.tw4478484345807364305 : True := trivial
theorem whole.tw17529894129228449367 : True := trivial
theorem whole.tw5219970640105433548 : True := trivial
theorem whole.tw6290923202673413122 : True := trivial
theorem whole.tw13257616468884075308 : True := trivial
theorem whole.tw3336266095096057487 : True := trivial
theorem whole.tw12620984872611610876 : True := trivial
theorem whole.tw12704508643202503056 : True := trivial
theorem whole.tw1342645848660009235 : True := trivial
theorem whole.tw6090991400474081933 : True := trivial
theorem whole.tw9787344453429475573 : True := trivial
theorem whole.tw6554874851225637503 : True := trivial
theorem whole.tw7125152430604801395 : True := trivial
theorem whole.tw8290753245796111759 : True := trivial
theorem whole.tw5100489862065503989 : True := trivial
theorem whole.tw8454442166302862320 : True := trivial
theorem whole.tw14493418047887008292 : True := trivial
theorem whole.tw7154100213019291727 : True := trivial
theorem whole.tw6891315699540082446 : True := trivial
theorem whole.tw6095937858554715304 : True := trivial
theorem whole.tw3162365515331879682 : True := trivial
theorem whole.tw10565146586650446459 : True := trivial
theorem whole.tw14378041842529194870 : True := trivial
theorem whole.tw18241194481836882323 : True := trivial
theorem whole.tw17510340352245238577 : True := trivial
theorem whole.tw10371917063365841574 : True := trivial
theorem whole.tw2249504304506360813 : True := trivial
theorem whole.tw1321319160052600332 : True := trivial
theorem whole.tw16026843855606243410 : True := trivial
theorem whole.tw17473765248736567162 : True := trivial
theorem whole.tw16304597587823193687 : True := trivial
theorem whole.tw5942346508108547180 : True := trivial
theorem whole.tw11027412199618322810 : True := trivial
theorem whole.tw3166543957339863982 : True := trivial
theorem whole.tw6915089677183239634 : True := trivial
theorem whole.tw5462770333876777704 : True := trivial
theorem whole.tw18324492136986001645 : True := trivial
theorem whole.tw675793542917168019 : True := trivial
theorem whole.tw13018183266405097566 : True := trivial
theorem whole.tw627836218701940097 : True := trivial
theorem whole.tw4086658223068553736 : True := trivial
theorem whole.tw3099485228618234346 : True := trivial
theorem whole.tw10438997657263567297 : True := trivial
theorem whole.tw9016846152696716638 : True := trivial
theorem whole.tw17945471581576359013 : True := trivial
theorem whole.tw1114806542021703131 : True := trivial
theorem whole.tw29202618045891971 : True := trivial
theorem whole.tw17295703372945214271 : True := trivial
theorem whole.tw9170513070990267023 : True := trivial
theorem whole.tw13325104327702632178 : True := trivial
theorem whole.tw5361092306138085264 : True := trivial
theorem whole.tw7564407027854533171 : True := trivial
theorem whole.tw8350250358471643572 : True := trivial
theorem whole.tw12546187051103005520 : True := trivial
theorem whole.tw5408107943391738 : True := trivial
theorem whole.tw12273045966763912870 : True := trivial
theorem whole.tw7977878525754885090 : True := trivial
theorem whole.tw3280129329062278201 : True := trivial
theorem whole.tw12844895380979062800 : True := trivial
theorem whole.tw13571483373588183640 : True := trivial
theorem whole.tw18056553881098321084 : True := trivial
theorem whole.tw6175221477891461631 : True := trivial
theorem whole.tw9775085227918541326 : True := trivial
theorem whole.tw12698311456782994138 : True := trivial
theorem whole.tw12484011378766964031 : True := trivial
theorem whole.tw7728773200315073681 : True := trivial
theorem whole.tw17175008800681467811 : True := trivial
theorem whole.tw14562462331371676279 : True := trivial
theorem whole.tw7466904020207815869 : True := trivial
theorem whole.tw12045583451651315878 : True := trivial
theorem whole.tw7159338690361838613 : True := trivial
theorem whole.tw2580061231857448207 : True := trivial
theorem whole.tw431044224361937856 : True := trivial
theorem whole.tw905634021204347684 : True := trivial
theorem whole.tw13738339212195554370 : True := trivial
theorem whole.tw4897329129694005586 : True := trivial
theorem whole.tw6018008695308894833 : True := trivial
theorem whole.tw4609813493820270164 : True := trivial
theorem whole.tw6507163766276112266 : True := trivial
theorem whole.tw330836233743297789 : True := trivial
theorem whole.tw5441638125044145263 : True := trivial
theorem whole.tw12365302626169338283 : True := trivial
theorem whole.tw8405200373762080497 : True := trivial
theorem whole.tw8389592306716628391 : True := trivial
theorem whole.tw253782344009268075 : True := trivial
theorem whole.tw15814272973740294878 : True := trivial
theorem whole.tw13045181716907704641 : True := trivial
theorem whole.tw15360332004689737842 : True := trivial
theorem whole.tw6067178945074143734 : True := trivial
theorem whole.tw7904391299487568608 : True := trivial
theorem whole.tw9707250908836423824 : True := trivial
theorem whole.tw8833083909733516365 : True := trivial
theorem whole.tw14390007995909808975 : True := trivial
theorem whole.tw9831549134678401257 : True := trivial
theorem whole.tw3710939435113764061 : True := trivial
theorem whole.tw16152885425384644779 : True := trivial
theorem whole.tw5078443471013023264 : True := trivial
theorem whole.tw5277582801102665213 : True := trivial
theorem whole.tw9017100224179172412 : True := trivial
theorem whole.tw7478749709654694138 : True := trivial
theorem whole.tw12818229455967879399 : True := trivial
theorem whole.tw16280953410686111352 : True := trivial
theorem whole.tw13823951767099335047 : True := trivial
theorem whole.tw10506178692543837059 : True := trivial
theorem whole.tw3125283655325999989 : True := trivial
theorem whole.tw13447532951914335906 : True := trivial
theorem whole.tw1640677438868554593 : True := trivial
theorem whole.tw5682345275169407818 : True := trivial
theorem whole.tw10251056418027464385 : True := trivial
theorem whole.tw12928932934922122878 : True := trivial
theorem whole.tw14877643965249282964 : True := trivial
theorem whole.tw5297632933804744799 : True := trivial
theorem whole.tw12384909515848061526 : True := trivial
theorem whole.tw1350920760672359567 : True := trivial
theorem whole.tw18135788421098096370 : True := trivial
theorem whole.tw14381574177426341226 : True := trivial
theorem whole.tw11124209341801176217 : True := trivial
theorem whole.tw4009164454077540199 : True := trivial
theorem whole.tw4753389165054817539 : True := trivial
theorem whole.tw10838650209671834137 : True := trivial
theorem whole.tw2439357469168130064 : True := trivial
theorem whole.tw4381508105603032202 : True := trivial
theorem whole.tw14654356449610600485 : True := trivial
theorem whole.tw14443708556783366652 : True := trivial
theorem whole.tw12111672374848980225 : True := trivial
theorem whole.tw16530865375734805145 : True := trivial
theorem whole.tw2210357269209322919 : True := trivial
theorem whole.tw11395692770084462984 : True := trivial
theorem whole.tw2665807779830099079 : True := trivial
theorem whole.tw4479364801722962140 : True := trivial
theorem whole.tw3985277232237335871 : True := trivial
theorem whole.tw6300184847947440018 : True := trivial
theorem whole.tw8602141644225615130 : True := trivial
theorem whole.tw15539963934695697727 : True := trivial
theorem whole.tw6525215580464160042 : True := trivial
theorem whole.tw14236906250561074472 : True := trivial
theorem whole.tw1692622564874605650 : True := trivial
theorem whole.tw13829708278779851847 : True := trivial
theorem whole.tw7689902935678670512 : True := trivial
theorem whole.tw5938623499991607928 : True := trivial
theorem whole.tw4500174473588537352 : True := trivial
theorem whole.tw10840090224303567227 : True := trivial
theorem whole.tw4346055641746905949 : True := trivial
theorem whole.tw15761127226676153883 : True := trivial
theorem whole.tw11423436602419212718 : True := trivial
theorem whole.tw13466531369813336011 : True := trivial
theorem whole.tw6553984163096543158 : True := trivial
theorem whole.tw17905727739423444544 : True := trivial
theorem whole.tw999730149643232224 : True := trivial
theorem whole.tw803728761352460389 : True := trivial
theorem whole.tw16710806586956947785 : True := trivial
theorem whole.tw899187281708718853 : True := trivial
theorem whole.tw420889256603489644 : True := trivial
theorem whole.tw8013635101346885672 : True := trivial
theorem whole.tw6330323023686639657 : True := trivial
theorem whole.tw3384207784612787380 : True := trivial
theorem whole.tw9457907337654371817 : True := trivial
theorem whole.tw11831613935261219028 : True := trivial
theorem whole.tw3386062769394439805 : True := trivial
theorem whole.tw16401683800235061082 : True := trivial
theorem whole.tw2469003464257525574 : True := trivial
theorem whole.tw16157823471821472638 : True := trivial
theorem whole.tw6711224856247384401 : True := trivial
theorem whole.tw13337781409839281223 : True := trivial
theorem whole.tw10228736035032888589 : True := trivial
theorem whole.tw18381488511043228445 : True := trivial
theorem whole.tw1790706782006413658 : True := trivial
theorem whole.tw5515949286892933951 : True := trivial
theorem whole.tw12553528368311135604 : True := trivial
theorem whole.tw16505068655815891843 : True := trivial
theorem whole.tw978456291528864041 : True := trivial
theorem whole.tw15843405411189957669 : True := trivial
theorem whole.tw3733203681221829434 : True := trivial
theorem whole.tw4445204285082115520 : True := trivial
theorem whole.tw4934077235998201596 : True := trivial
theorem whole.tw12500006595034518877 : True := trivial
theorem whole.tw5272084226273953366 : True := trivial
theorem whole.tw10240183823617578283 : True := trivial
theorem whole.tw3510700885661489807 : True := trivial
theorem whole.tw16721588368965777027 : True := trivial
theorem whole.tw1509033169537457064 : True := trivial
theorem whole.tw3708987609129729033 : True := trivial
theorem whole.tw12598572606399187110 : True := trivial
theorem whole.tw2412972146837434115 : True := trivial
theorem whole.tw357486453476387696 : True := trivial
/-! L: the law's own walk -/
set_option Elab.async true in
set_option maxHeartbeats 16000000 in
theorem whole : PySem.Challenge.rw_pq1006_01.Holds := by
  k_with_none
  (k_with "k_all" => assumption)
  (k_with "units_room" => ktr_units)
  (k_with "k_room" => ktr_room)
  (k_with "k_units" => ktr_units)
  (k_with "cell_enter" => (refine' code_def ?q4_k1 ?q4_k2 ?q4_k3 ?q4_k4 ?q4_k5 ?q4_kA ?q4_kF ?q4_kK ?q4_k6 ?q4_k7 ?q4_k8 ?q4_k9 ?q4_kB ?_ ?q4_c2 ?q4_c3 ?q4_c4 ?q4_c5; (case q4_kA => exact rfl); (case q4_kF => exact rfl); (case q4_kK => first | assumption | exact rfl); (case q4_k1 => k_asm); (case q4_k2 => k_asm); (case q4_k3 => k_asm); (case q4_k4 => k_asm); (case q4_k5 => k_asm); (case q4_k6 => k_is); (case q4_k7 => k_is); (case q4_k8 => ktr_room); (case q4_k9 => first | exact BindsTo.of_eq rfl | exact binds_K (by k_in) rfl (by k_is) rfl rfl rfl); (case q4_c5 => decide); (case q4_kB => exact locs rfl); (case q4_c2 => exact rfl); (case q4_c3 => exact rfl); (case q4_c4 => exact rfl); k_whole; intro zg9 zL9 zh9 zFG9 zF9 zN9 zB9 zX9 zT9; (try dsimp only); (try k_lift zB9); (try k_fold)))
  (k_with "k_mem" => first | with_reducible assumption | exact List.Mem.head _ | (refine' List.Mem.tail _ ?q5_b; (case q5_b => (show (_ : Addr × Obj) ∈ (_ : List (Addr × Obj)); k_mem))))
  (k_with "k_ne" => (try dsimp only); first | with_reducible assumption | exact Ne.symm (by with_reducible assumption) | exact Nat.ne_of_lt (by with_reducible assumption) | exact Nat.ne_of_gt (by with_reducible assumption))
  (k_with "k_all" => first | exact True.intro | with_reducible assumption | exact allLt_ne (by with_reducible assumption) | exact AllNe.mem (by with_reducible assumption) | (refine' And.intro ?q7_a ?q7_b; (case q7_a => k_ne); (case q7_b => k_all)) | (refine' List.forall_mem_cons.mpr (And.intro ?q7_a ?q7_b); (case q7_a => k_ne); (case q7_b => k_all)))
  (k_with "call type:list" => (k_here; (with_reducible show wpAny _ _ (call (Value.type _) [Value.ref _]) _ _ _); k_dflt (refine' list_copyK ?q8_k1 ?q8_k2 ?q8_k3 ?_ ?q8_z; (case q8_k1 => k_asm); (case q8_k2 => k_asm); (case q8_k3 => exact News.isList (by k_asm) (by k_mem)); (case q8_z => exact size_line _ (by with_reducible assumption)); k_whole); intro zD9 zc9 zh9 zF9 zN9 zl1; (try k_lt zl1); (try k_sweep)))
  (k_with "call builtin:len" => (k_here; (with_reducible show wpAny _ _ (call (Value.builtin "len") [Value.ref _]) _ _ _); k_dflt (refine' lenL_any ?q9_N ?q9_m ?q9_l ?q9_z ?_; (case q9_N => k_asm); (case q9_m => k_mem); (case q9_l => first | with_reducible assumption | exact rfl); (case q9_z => first | with_reducible assumption | exact Nat.le_trans (by with_reducible assumption) (by decide)); k_whole)))
  (k_with "subscriptTail" => (k_here; (with_reducible show wpAny _ _ (subscriptTail _ _ (Value.ref _) (Value.int _ _)) _ _ _); k_dflt (refine' listAt ?q10_N ?q10_m ?q10_lo ?q10_hi ?q10_z ?_; (case q10_N => k_asm); (case q10_m => k_mem); (case q10_z => first | with_reducible assumption | exact Nat.le_trans (by with_reducible assumption) (by decide)); (case q10_lo => first | with_reducible assumption | omega); (case q10_hi => first | with_reducible assumption | omega); k_whole); intro zv99 zhv99))
  (k_with "ktr_room" => (simp only [depth_under_make, depth_under_kw, depth_in1, depth_deeper, ktr_depth, Nat.add_assoc]; exact room_lt (by with_reducible assumption) (by decide)))
  (k_with "ktr_units" => (simp only [units_under_make, units_deeper, units_in1, ktr_unit, Nat.add_assoc]; exact room_lt (by with_reducible assumption) (by decide)))
  (k_with "exec For Name Call cons nil" => (k_here; (rename Fr _ _ _ _ => zlF9); (with_unfolding_all refine' For_turns zlF9 ?_; k_whole)))
  (k_with "last exec For" => (k_here; (rename Fr _ _ _ _ => zlF9); (with_unfolding_all refine' For_turns zlF9 ?_; k_whole)))
  (k_with "call ref" => (k_here; (with_reducible show wpAny _ _ (call (Value.ref 897) [Value.ref _, Value.int _ _]) _ _ _); k_dflt (with_unfolding_all refine' draw_r _ ?q15_B ?q15_F ?q15_X ?q15_N ?q15_T ?q15_k ?q15_R1 ?q15_R2 ?q15_n1 ?q15_n2 ?q15_hc ?q15_hi ?q15_hl ?q15_s0 ?q15_s1 ?q15_k0 ?q15_m0 ?q15_m1 ?q15_d ?q15_u ?_; (case q15_k => rfl); (case q15_F => k_asm); (case q15_N => k_asm); (case q15_B => k_asm); (case q15_X => k_asm); (case q15_T => k_asm); (case q15_R1 => k_upd); (case q15_R2 => k_upd); (case q15_n1 => k_all); (case q15_n2 => k_all); (case q15_hc => k_ne); (case q15_hi => with_reducible assumption); (case q15_hl => with_reducible assumption); (case q15_s0 => with_reducible assumption); (case q15_s1 => exact Int.lt_of_le_of_lt (by with_reducible assumption) (by decide)); (case q15_k0 => with_reducible assumption); (case q15_m0 => decide); (case q15_m1 => decide); (case q15_d => k_room); (case q15_u => k_units); k_whole); (intro zd9 zt9 zspot9 zt19 zstock9 zt29 zh9 ztk9 zhd09 zhd19 zhs09 zhs19 zhk09 zF9 zN9; (try k_sweep))))
  (k_with "call ref" => (k_here; (with_reducible show wpAny _ _ (call (Value.ref 740) [_, _, _]) _ _ _); k_dflt ((with_unfolding_all refine' alu_c _ ?q16_B ?q16_F ?q16_X ?q16_N ?q16_T ?q16_k ?q16_a ?q16_d ?q16_u ?_); (case q16_k => rfl); (case q16_F => k_asm); (case q16_N => k_asm); (case q16_B => k_asm); (case q16_X => k_asm); (case q16_T => k_asm); (case q16_a => exact ⟨_, _, _, _, rfl⟩); (case q16_d => k_room); (case q16_u => k_units); k_whole); (intro zo9 zd9 zod9 zh9 ztk9 zho9 zF9 zN9 zl19 zl29; (try k_sweep))))
  (k_with "call ref" => (k_here; (with_reducible show wpAny _ _ (call (Value.ref 747) _) _ _ _); k_dflt ((with_unfolding_all refine' leave_c _ ?q17_B ?q17_F ?q17_X ?q17_N ?q17_T ?q17_k ?q17_a ?q17_d ?q17_u ?_); (case q17_k => rfl); (case q17_F => k_asm); (case q17_N => k_asm); (case q17_B => k_asm); (case q17_X => k_asm); (case q17_T => k_asm); (case q17_a => exact rfl); (case q17_d => k_room); (case q17_u => k_units); k_whole); (intro zo9 zd9 zod9 zh9 ztk9 zho9 zF9 zN9 zl19 zl29; (try k_sweep))))
  (k_with "k_upd" => first | with_reducible assumption | exact Rem.head | (refine' Rem.tail ?q18_b; (case q18_b => k_upd)))
  (k_with "binaryOp Add ref ref" => (k_here; k_dflt (refine' add_R ?q19_F ?q19_N ?q19_a ?q19_b ?q19_z ?_; (case q19_F => k_asm); (case q19_N => k_asm); (case q19_a => k_mem); (case q19_b => k_mem); (case q19_z => with_reducible assumption); k_whole); (intro zD9 zh9 zF9 zN9 zl1; (try k_sweep))))
  (k_with "call ref" => (k_here; (with_reducible show wpAny _ _ (call (Value.ref 909) [Value.ref _, Value.int _ _]) _ _ _); k_dflt (with_unfolding_all refine' rows_c _ ?q20_B ?q20_F ?q20_X ?q20_N ?q20_T ?q20_k ?q20_R1 ?q20_R2 ?q20_n1 ?q20_n2 ?q20_cn1 ?q20_cn2 ?q20_hc ?q20_hi ?q20_hl ?q20_s0 ?q20_s1 ?q20_k0 ?q20_d ?q20_u ?_; (case q20_k => rfl); (case q20_F => k_asm); (case q20_N => k_asm); (case q20_B => k_asm); (case q20_X => k_asm); (case q20_T => k_asm); (case q20_R1 => k_upd); (case q20_R2 => k_upd); (case q20_n1 => k_all); (case q20_n2 => k_all); (case q20_cn1 => with_reducible assumption); (case q20_cn2 => exact Nat.le_trans (by with_reducible assumption) (by decide)); (case q20_hc => k_ne); (case q20_hi => with_reducible assumption); (case q20_hl => with_reducible assumption); (case q20_s0 => with_reducible assumption); (case q20_s1 => with_reducible assumption); (case q20_k0 => with_reducible assumption); (case q20_d => k_room); (case q20_u => k_units); k_whole); (intro zfl9 zcap9 zvsR9 zrows9 ztl9 zsp9 zu19 zst9 zu29 zh9 ztk9 zhz9 zhz49 zhD9 zhs09 zhs19 zhk09 zhs9 zhp19 zhp29 zhp39 zhp49 zhp59 zF9 zN9; (try k_sweep))))
  (k_with "call ref" => (k_here; (with_reducible show wpAny _ _ (call (Value.ref 633) _) _ _ _); k_dflt ((with_unfolding_all refine' first_c _ ?q21_B ?q21_F ?q21_X ?q21_N ?q21_T ?q21_k ?q21_a ?q21_d ?q21_u ?_); (case q21_k => rfl); (case q21_F => k_asm); (case q21_N => k_asm); (case q21_B => k_asm); (case q21_X => k_asm); (case q21_T => k_asm); (case q21_a => exact rfl); (case q21_d => k_room); (case q21_u => k_units); k_whole); (intro zo9 zh9 ztk9 zF9 zN9; (try k_sweep))))
  (k_with "call ref" => (k_here; (with_reducible show wpAny _ _ (call (Value.ref 125) [Value.int _ _, Value.ref _, Value.ref _, Value.int _ _]) _ _ _); k_dflt ((with_unfolding_all refine' prow_c _ ?q22_B ?q22_F ?q22_X ?q22_N ?q22_T ?q22_k ?q22_m ?q22_i ?q22_z ?q22_d ?q22_u ?_); (case q22_k => rfl); (case q22_F => k_asm); (case q22_N => k_asm); (case q22_B => k_asm); (case q22_X => k_asm); (case q22_T => k_asm); (case q22_m => k_mem); (case q22_i => with_reducible assumption); (case q22_z => with_reducible assumption); (case q22_d => k_room); (case q22_u => k_units); k_whole); (intro zx9 znew9 zh9 ztk9 zhx9 zhl9 zF9 zN9; (try k_sweep))))
  (k_with "call ref" => (k_here; (with_reducible show wpAny _ _ (call (Value.ref 158) [Value.ref _]) _ _ _); k_dflt ((with_unfolding_all refine' proof_c _ ?q23_B ?q23_F ?q23_X ?q23_N ?q23_T ?q23_k ?q23_m ?q23_z ?q23_d ?q23_u ?_); (case q23_k => rfl); (case q23_F => k_asm); (case q23_N => k_asm); (case q23_B => k_asm); (case q23_X => k_asm); (case q23_T => k_asm); (case q23_m => k_mem); (case q23_z => with_reducible assumption); (case q23_d => k_room); (case q23_u => k_units); k_whole); (intro zpr9 zprd9 ztt9 zx69 zy69 znew9 zh9 ztk9 zhm19 zhm29 zhm39 zF9 zN9; (try k_sweep))))
  (k_with "call type:tuple" => (k_here; (with_reducible show wpAny _ _ (call (Value.type _) [Value.ref _]) _ _ _); k_dflt (refine' tup_copyR ?q24_F ?q24_N ?q24_m ?q24_z ?_; (case q24_F => k_asm); (case q24_N => k_asm); (case q24_m => k_mem); (case q24_z => with_reducible assumption); k_whole); intro zD9 zh9 zF9 zN9 zl1; (try k_lt zl1); (try k_sweep)))
  (w_on; o_law; o_head (kHook Mine.hd.heap_1 ads (fun _ => by kernel_rfl)); (case hw => w_witness2))
  w_strict (k_go0; (all_goals try k_fold); k_steps)
  with_reducible rename Fr _ _ _ (fun _ => _) => kF
  with_reducible rename News _ _ _ (_ :: _) => kN
  with_reducible rename IsRange _ _ _ _ _ _ _ _ => kR
  with_reducible rename IntsAre _ (List.map _ (List.take _ _)) => kI
  with_reducible rename Below callerA _ _ _ => kB
  with_reducible rename (hd.heap_1 _).In (Top.heap _) => kX
  k_dflt (refine law_loop rfl kR rfl kF (news_front2 kN) rfl rfl ?turn ?done)
  case turn =>
    intro i t u h tk I oI sp u1 st u2 hu hs0 hs1 hk0 hpI hcI F1 N1
    have kL9 := len_take40 (by assumption : List Int)
    clear kF kN kR
    obtain ⟨pn, hpI2, rfl⟩ : ∃ z, @Ne Nat z I ∧ z = _ := ⟨_, hpI, rfl⟩
    obtain ⟨cz, hcI2, rfl⟩ : ∃ z, @Ne Nat z I ∧ z = _ := ⟨_, hcI, rfl⟩
    clear hpI2 hcI2
    obtain ⟨vz, hvz, rfl⟩ : ∃ z, IntsAre z _ ∧ z = _ := ⟨_, kI, rfl⟩
    clear hvz
    iterate 3 (first | (k_unfold; (try dsimp only)) | (k_end; wrow_close) | walk1 | (dsimp only; walk1))
    clear F1 N1
    dsimp only
    with_reducible rename Fr _ _ _ (fun _ => _) => kF
    with_reducible rename News _ _ _ (_ :: _) => kN
    refine mid1 sp kF kN ?zws1 ?zws2
    case zws1 =>
      k_steps
      with_reducible rename Fr _ _ _ (fun _ => _) => kF9
      with_reducible rename News _ _ _ (_ :: _) => kN9
      exact at1_intro kF9 kN9 (by with_reducible assumption) (by with_reducible assumption) (by with_reducible assumption) (by with_reducible assumption) (by with_reducible assumption)
    case zws2 =>
      clear kF kN
      rintro h tk m' nx F1 N1 ⟨c, tc, sp', u1', st', u2', c1, c2, b1, b2, b3, rfl, rfl⟩
      obtain ⟨k, rfl⟩ : ∃ k, c = k + 1 := ⟨c - 1, by omega⟩
      refine mid2 sp F1 N1 ?zws3 ?zws4
      case zws3 =>
        iterate 6 (first | (k_unfold; (try dsimp only)) | (k_end; wrow_close) | walk1 | (dsimp only; walk1))
        k_dflt (refine comp_rangeG (n := k) (by omega) (OrdsJ [(pn, penO cz sp' u1' st' u2'), (cz, LCg.lst vz), (I, oI)]) rfl F1 (by with_unfolding_all rfl) (by decide) (by rfl) (by decide) (by rfl) (nw := [(pn, penO cz sp' u1' st' u2'), (cz, LCg.lst vz), (I, oI)]) ?zwit ?zwJ0 ?zwturn ?zwdone)
        case zwit =>
          k_steps
          with_reducible rename Fr _ _ _ (fun _ => _) => kF9
          with_reducible rename News _ _ _ (_ :: _) => kN9
          with_reducible rename IsRange _ _ _ _ _ _ _ _ => kR9
          rw [show ((k + 1 : Nat) : Int) - 1 = (k : Int) by omega] at kR9
          exact ⟨_, _, _, _, _, _, rfl, rfl, kR9, kF9, kN9⟩
        case zwJ0 => exact ⟨[], rfl, (fun p hp q hq => nomatch hq), rfl, fun v hv => nomatch hv⟩
        case zwturn =>
          rintro i8 ys8 nx8 t8 I8 oI8 C8 oC8 D8 m8 h8 tk8 E8 hi8 hJ hC hx F2 N2 off ne
          clear F1 N1
          have off9 := off
          have hJ9 := hJ
          k_steps
          with_reducible rename Fr _ _ _ (fun _ => _) => kF9
          with_reducible rename News _ _ _ (_ :: _) => kN9
          with_reducible rename OrdIn _ _ _ => kO9
          exact ordsJ_turn hJ9 off9 kO9 kF9 kN9 (by with_reducible assumption) (by with_reducible assumption)
        case zwdone =>
          rintro ys8 nx8 D8 h8 tk8 ⟨tl, rfl, ap, hl8, hv8⟩ F2 N2 hne
          clear F1 N1
          have hz8 : ys8.length ≤ 100 := by omega
          iterate 11 (first | (k_unfold; (try dsimp only)) | (k_end; wrow_close) | walk1 | (dsimp only; walk1))
          with_reducible rename Fr _ _ _ (fun _ => _) => kF9
          with_reducible rename News _ _ _ (_ :: _) => kN9
          with_reducible rename OrdIn _ _ _ => kO9
          have kA9 := ords_split kN9
          k_dflt (with_unfolding_all refine' checkp_c _ (reach_c _) ?zwB ?zwF ?zwX kA9.1 kA9.2 ?zwap ?zwT ?zwk (.head _) ?zwo ?zwn1 ?zwn2 ?zwd ?zwu ?_; (case zwk => rfl); (case zwF => k_asm); (case zwB => k_asm); (case zwX => k_asm); (case zwT => k_asm))
          case zwap => exact ords_apart ap hne (by with_reducible assumption) (by with_reducible assumption) (by with_reducible assumption) (lt_hd (by with_reducible assumption))
          case zwo => exact ords_done kO9 hv8 (.tail _ (.tail _ (.head _))) (.tail _ (.tail _ (.tail _ (.head _)))) (fun p hp => .tail _ (.tail _ (.tail _ (.tail _ (.tail _ hp)))))
          case zwn1 => simp
          case zwn2 => simp; omega
          case zwd => k_room
          case zwu => k_units
          clear kN9 kA9
          intro pg nwp h9 tk9 hsub hap hP F9 N9 M9
          have kN9 := news_join M9 N9
          clear N9 M9
          k_steps
          with_reducible rename Fr _ _ _ (fun _ => _) => kF9
          with_reducible rename News _ _ _ (_ :: _) => kN9
          exact at2_intro kF9 kN9 hap c1 c2 b1 b2 b3 (by simp [hl8]) hP
      case zws4 =>
        clear F1 N1
        rintro h tk m' nx F1 N1 ⟨c, tc, sp', u1', st', u2', pg, ovs, nw, c1, c2, b1, b2, b3, lo, hP, a1, a2, rfl, rfl⟩
        have q1 : 0 ≤ sp' := by omega
        have q2 : sp' < 90000 := by omega
        refine mid3 sp F1 N1 ?zws5 ?zws6
        case zws5 =>
          k_steps
          with_reducible rename Fr _ _ _ (fun _ => _) => kF9
          with_reducible rename News _ _ _ (_ :: _) => kN9
          exact at3_intro kF9 kN9 c2 lo (by with_reducible assumption) (by with_reducible assumption) (by with_reducible assumption) hP (by with_reducible assumption) b1 b2 (by with_reducible assumption) (by with_reducible assumption) (by with_reducible assumption)
        case zws6 =>
          clear F1 N1
          rintro h tk m' nx F1 N1 ⟨c, tc, pg, ovs, fl, cap, vsR, rws, c2, lo, z6, zv, z4, rfl, hH⟩
          refine mid4 F1 hH ?zws7 ?zws8
          case zws7 =>
            have hH9 := hH
            obtain ⟨sp2, w1, st2, w2, e1, e2, e3, mp, mc, mI, mfl, hD, hP⟩ := hH9
            iterate 5 (first | (k_unfold; (try dsimp only)) | (k_end; wrow_close) | walk1 | (dsimp only; walk1))
            k_dflt (refine comp_list3 (ax := fl) (vs := vsR) (cap := cap) (nw := nx) (PrfJ nx rws) (by omega) rfl F1 (by with_unfolding_all rfl) (by decide) (by rfl) (by decide) (by rfl) (by rfl) (by rfl) (by decide) (by decide) (by decide) ?zwit ⟨fun p hp => hp, trivial⟩ (fun i ys nx8 h => by obtain ⟨h1, -⟩ := h; exact h1 _ mfl) (fun i ys nx8 v h hv => by obtain ⟨h1, -⟩ := h; exact rows_tup hD h1 hv) ?zwturn ?zwdone)
            case zwit =>
              k_steps
              with_reducible rename Fr _ _ _ (fun _ => _) => kF9
              with_reducible rename News _ _ _ nx => kN9
              exact ⟨_, _, rfl, rfl, kF9, kN9⟩
            case zwturn =>
              rintro i8 ys8 nx8 t8 n8 v1 v2 v3 I8 oI8 C8 oC8 D8 m8 h8 tk8 E8 hv8 hm8 hJ hC hx1 hx2 hx3 F2 N2 off ne
              have hJ9 := hJ
              have off9 := off
              obtain ⟨hs8, -⟩ := hJ
              obtain ⟨r, t1, t3, sl, svs, cps, hr, rfl, rfl, rfl, hms, hi⟩ := row3 hD N2 (fun p hp => .tail _ (.tail _ (.tail _ (hs8 p hp)))) (fun p hp => .tail _ (.tail _ (.tail _ hp))) hv8 hm8
              have hms8 := hs8 _ hms
              have z5 : svs.length ≤ 100 := by rw [hi.length]; exact Nat.le_trans (z4 r (List.mem_of_getElem? hr)) (by decide)
              clear F1 N1 hv8 hm8
              k_steps
              with_reducible rename Fr _ _ _ (fun _ => _) => kF9
              with_reducible rename News _ _ _ (_ ++ _) => kN9
              with_reducible rename RowIn _ _ _ => kO9
              exact prfJ_turn hJ9 hr off9 kO9 kF9 kN9 (by with_reducible assumption)
            case zwdone =>
              rintro ys8 nx8 D8 h8 tk8 ⟨hs8, hr8⟩ F2 N2 hne
              rw [zv, List.take_length] at hr8
              have z5 : ys8.length ≤ 100 := by rw [hr8.length]; omega
              clear F1 N1
              k_steps
              with_reducible rename Fr _ _ _ (fun _ => _) => kF9
              with_reducible rename News _ _ _ (_ ++ _) => kN9
              exact at4_intro kF9 kN9 hH hs8 c2 lo z6 zv z4 hr8 (by with_reducible assumption) (by with_reducible assumption) (by with_reducible assumption)
          case zws8 =>
            clear F1 N1
            rintro h tk m' nx F1 N1 ⟨c, tc, pg, ovs, fl, cap, vsR, rws, pr, prd, tt, x6, y6, svs, c2, lo, z6, zv, zw, z4, rfl, hH, m1, m2, m3, hR⟩
            refine mid5 F1 hH ?zws9 ?zws10
            case zws9 =>
              have hH9 := hH
              obtain ⟨sp2, w1, st2, w2, e1, e2, e3, mp, mc, mI, mfl, hD, hP⟩ := hH9
              obtain ⟨pg', pgd, ol, su, x1, x2, x3, x4, x5, y1, y2, y3, y4, y5, t4, t5, v2, v3, cap1, cap2, ep, p1, p2, p3, p4⟩ := hP
              cases ep
              iterate 11 (first | (k_unfold; (try dsimp only)) | (k_end; wrow_close) | walk1 | (dsimp only; walk1))
              k_dflt (with_unfolding_all refine' found_c _ ?zwB ?zwF ?zwX ?zwN ?zwT ?zwk ?zwXB ?zwTB p1 p2 p3 m1 m2 m3 hR ?zwz lo ?zwl4 ?zwd ?zwu ?zwr0 ?zwr1; (case zwk => rfl); (case zwF => k_asm); (case zwN => k_asm); (case zwB => k_asm); (case zwX => k_asm); (case zwT => k_asm); (case zwXB => k_asm); (case zwTB => k_asm))
              case zwz => omega
              case zwl4 => omega
              case zwd => k_room
              case zwu => k_units
              case zwr0 =>
                intro hw h9 tk9 F9 N9
                clear F1 N1
                iterate 9 (first | (k_unfold; (try dsimp only)) | (k_end; wrow_close) | walk1 | (dsimp only; walk1))
                k_dflt (with_unfolding_all refine' wrong_c _ ?zwiaB ?zwiaF ?zwiaX ?zwiaN ?zwiaT ?zwiak mfl hD ?zwiaz ?zwial4 ?zwiad ?zwiau ?zwiar0 ?zwiar1; (case zwiak => rfl); (case zwiaF => k_asm); (case zwiaN => k_asm); (case zwiaB => k_asm); (case zwiaX => k_asm); (case zwiaT => k_asm))
                case zwiaz => omega
                case zwial4 => omega
                case zwiad => k_room
                case zwiau => k_units
                case zwiar0 =>
                  intro _ h10 tk10 F10 N10
                  clear F9 N9
                  k_steps
                  exact at4_again F10 N10 hH (fun p hp => hp) c2 lo z6 zv z4 hR m1 m2 m3
                case zwiar1 =>
                  intro x9 o9 hx9
                  rw [hw] at hx9
                  cases hx9
              case zwr1 =>
                intro x9 o9 hw D9 tx9 at9 h9 tk9 hat F9 N9 hlt
                clear F1 N1
                iterate 9 (first | (k_unfold; (try dsimp only)) | (k_end; wrow_close) | walk1 | (dsimp only; walk1))
                k_dflt (with_unfolding_all refine' wrong_c _ ?zwibB ?zwibF ?zwibX ?zwibN ?zwibT ?zwibk (.tail _ mfl) (hD.mono fun p hp => .tail _ hp) ?zwibz ?zwibl4 ?zwibd ?zwibu ?zwibr0 ?zwibr1; (case zwibk => rfl); (case zwibF => k_asm); (case zwibN => k_asm); (case zwibB => k_asm); (case zwibX => k_asm); (case zwibT => k_asm))
                case zwibz => omega
                case zwibl4 => omega
                case zwibd => k_room
                case zwibu => k_units
                case zwibr0 =>
                  intro hx9
                  rw [hw] at hx9
                  cases hx9
                case zwibr1 =>
                  intro x10 o10 hx9 D10 tx10 at10 h10 tk10 hat2 F10 N10 hlt2
                  clear F9 N9
                  rw [hw] at hx9
                  cases hx9
                  k_dflt (refine dat_ne N10 (told_in (.tail _ (.head _)) hat) (fun p hp => hp) (told_in (.head _) hat2) (fun p hp => hp) (atD_ok _ (wrong_ok hw)) ?zwibq ?_)
                  case zwibq => k_units
                  k_steps
                  exact at4_again F10 N10 hH (fun p hp => .tail _ (.tail _ hp)) c2 lo z6 zv z4 hR m1 m2 m3
            case zws10 =>
              clear F1 N1
              rintro h tk m' nx F1 N1 ⟨c, tc, pg, ovs, fl, cap, vsR, rws, pr, prd, tt, x6, y6, svs, c2, lo, z6, zv, zw, z4, rfl, hH, m1, m2, m3, hR⟩
              have hH9 := hH
              obtain ⟨sp2, w1, st2, w2, e1, e2, e3, mp, mc, mI, mfl, hD, hP⟩ := hH9
              iterate 3 (first | (k_unfold; (try dsimp only)) | (k_end; wrow_close) | walk1 | (dsimp only; walk1))
              k_dflt (refine comp_tupG (ax := tt) (vs := svs) (nw := nx) (TellJ nx rws) (by omega) rfl F1 (by with_unfolding_all rfl) (by decide) (by rfl) (by decide) (by rfl) ?zwit ⟨fun p hp => hp, .nil⟩ (fun i ys nx8 h => by obtain ⟨h1, -⟩ := h; exact h1 _ m3) ?zwturn ?zwdone)
              case zwit =>
                k_steps
                with_reducible rename Fr _ _ _ (fun _ => _) => kF9
                with_reducible rename News _ _ _ nx => kN9
                exact ⟨_, _, rfl, rfl, kF9, kN9⟩
              case zwturn =>
                rintro i8 ys8 nx8 v I8 oI8 C8 oC8 D8 m8 h8 tk8 E8 hv8 hJ hC hx F2 N2 off ne
                have hJ9 := hJ
                have off9 := off
                obtain ⟨hs8, -⟩ := hJ
                obtain ⟨r, hr, hrow⟩ := hR.get hv8
                obtain ⟨ra, rd, rg, x1, x2, x3, x4, y1, y2, y3, y4, t1, t4, sv, gs, rfl, r1, r2, r3, hi⟩ := hrow
                have r1' := hs8 _ r1
                have r2' := hs8 _ r2
                have r3' := hs8 _ r3
                clear F1 N1 hv8
                k_steps
                with_reducible rename Fr _ _ _ (fun _ => _) => kF9
                with_reducible rename News _ _ _ (_ :: _) => kN9
                exact tellJ_turn1 hJ9 hr off9 hi kF9 kN9 (by with_reducible assumption) (by with_reducible assumption) (by with_reducible assumption) r3'
              case zwdone =>
                rintro ys8 nx8 D8 h8 tk8 ⟨hs8, hr8⟩ F2 N2 hne
                rw [zw, List.take_length] at hr8
                clear F1 N1
                k_dflt (refine comp_list3 (ax := fl) (vs := vsR) (cap := cap) (nw := (D8, LCg.lst ys8) :: nx8) (TellJ ((D8, LCg.lst ys8) :: nx8) rws) (by omega) rfl F2 (by with_unfolding_all rfl) (by decide) (by rfl) (by decide) (by rfl) (by rfl) (by rfl) (by decide) (by decide) (by decide) ?zwyit ⟨fun p hp => hp, .nil⟩ (fun i ys nx7 h => by obtain ⟨h1, -⟩ := h; exact h1 _ (.tail _ (hs8 _ mfl))) (fun i ys nx7 v h hv => by obtain ⟨h1, -⟩ := h; exact rows_tup hD (fun p hp => h1 _ (.tail _ (hs8 _ hp))) hv) ?zwyturn ?zwydone)
                case zwyit =>
                  k_steps
                  with_reducible rename Fr _ _ _ (fun _ => _) => kF9
                  with_reducible rename News _ _ _ (_ :: nx8) => kN9
                  exact ⟨_, _, rfl, rfl, kF9, kN9⟩
                case zwyturn =>
                  rintro i7 ys7 nx7 t7 n7 v1 v2 v3 I7 oI7 C7 oC7 D7 m7 h7 tk7 E7 hv7 hm7 hJ hC hx1 hx2 hx3 F7 N7 off ne
                  have hJ9 := hJ
                  have off9 := off
                  obtain ⟨hs7, -⟩ := hJ
                  obtain ⟨r, t1, t3, sl, svz, cps, hr, rfl, rfl, rfl, hms, hi⟩ := row3 hD N7 (fun p hp => .tail _ (.tail _ (.tail _ (hs7 _ (.tail _ (hs8 _ hp)))))) (fun p hp => .tail _ (.tail _ (.tail _ hp))) hv7 hm7
                  have hms7 := hs7 _ (.tail _ (hs8 _ hms))
                  have z5 : svz.length ≤ 100 := by rw [hi.length]; exact Nat.le_trans (z4 r (List.mem_of_getElem? hr)) (by decide)
                  clear F2 N2 hv7 hm7
                  k_steps
                  with_reducible rename Fr _ _ _ (fun _ => _) => kF9
                  with_reducible rename News _ _ _ (_ :: _) => kN9
                  exact tellJ_turn2 hJ9 hr off9 hi kF9 kN9 (by with_reducible assumption) (by with_reducible assumption) (by with_reducible assumption) (by with_reducible assumption)
                case zwydone =>
                  rintro ys7 nx7 D7 h7 tk7 ⟨hs7, hr7⟩ F7 N7 hne7
                  rw [zv, List.take_length] at hr7
                  clear F2 N2
                  k_dflt (refine kqd_same N7 (.tail _ (hs7 _ (.head _))) rfl rfl hr8 (fun p hp => .tail _ (hs7 p (.tail _ hp))) (.head _) rfl rfl hr7 (fun p hp => .tail _ hp) (row2_ok rws) ?zwyu ?_)
                  case zwyu => k_units
                  k_steps
                  exact law_end hH F7 N7 (fun p hp => .tail _ (hs7 _ (.tail _ (hs8 _ hp)))) (fun y hy => keep_if (st_ne hy (by decide)) (keep_if (st_ne hy (by decide)) (keep_if (st_ne hy (by decide)) (keep_if (st_ne hy (by decide)) (keep_if (st_ne hy (by decide)) rfl)))))
  case done =>
    intro u nx h tk F1 N1
    clear kF kN kR
    k_steps
end Mine
theorem PySem.Challenge.cw_pq1006_01_holds : PySem.Challenge.rw_pq1006_01.Holds :=
  Mine.whole
