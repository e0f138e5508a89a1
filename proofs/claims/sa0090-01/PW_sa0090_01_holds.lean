import PyProof.Rows.All
import Wide.All
import OpenK.AllK
import Wide.FinOn
import PySem.Challenge.RW_sa0090_01
open PySem PySem.W PyProof.Rows PySem.Calls PySem.Spec
set_option Elab.async false
set_option maxRecDepth 100000
namespace Sa
set_option maxHeartbeats 8000000 in
open_top hd for PySem.Challenge.rw_sa0090_01

theorem anew_10_base : True := by
  w_top off
  k_with_none
  trivial
/-- at a pure call's end: the heap at the call's start stands, and what comes back is so -/
noncomputable def LeaveP (s₀ : Shared) (Ret : Value → Heap → Prop) (v : Value) (s' : Shared) : Prop :=
  ∃ h' tk, s' = { s₀ with heap := h', toks := tk } ∧ s₀.heap.StaysIn h' ∧ Ret v h'

theorem leaveP_ {s₀ : Shared} {Ret : Value → Heap → Prop} {v : Value} {h' : Heap} {tk : Nat} {L' : Addr} {m' : Str → Option Value}
    (F : Fr s₀.heap L' h' m') (r : Ret v h') : LeaveP s₀ Ret v { s₀ with heap := h', toks := tk } := ⟨h', tk, rfl, F.keep, r⟩

section
variable {prog : Program} {w : World} {A₀ A : Around} {s : Shared} {base h₀ : Heap} {outer : List Env} {L : Addr} {m : Str → Option Value} {env : Env} {K : Frag}
  {p : Program} {loose : List Str} {mean : ExcName → Option Value} {mg mb : Str → Option Value} {E : Value → Shared → Prop} {Q : Value → Shared → Prop}

theorem enter_pure {name qual : Str} {params : Arguments} {body : List Stmt} {scope : Scope} {dV kV doc pm cdv ct oc : Value} {an od : Option Addr} {osl : Array (Option Value)} {f : Addr} {args : Args} {binds : List (Str × Value)} {Ret : Value → Heap → Prop}
    (B : Below A₀ base outer h₀) (F : Fr h₀ L s.heap m) (X₀ : K.In h₀) (T : Top p loose mean mg mb h₀) (hA : A.frames = some (env :: outer)) (hf : env.frame = some L) (hke : env.scope.kind = .function)
    (ho : K.lookup f = some ⟨oc, od, .func (fnOf name qual params body scope dV kV doc pm an cdv ct), osl⟩) (hcd : codeIn K cdv qual = true) (hroom : A.depth < recursionLimit)
    (hbind : BindsTo s (fnOf name qual params body scope dV kV doc pm an cdv ct) args binds) (hloc : ∀ y ∈ binds, scope.names.lookup y.1 = some .local)
    (hret : ∀ v h' tk, s.heap.StaysIn h' → Ret v h' → Q v { s with heap := h', toks := tk })
    (h : ∀ L' h₁, Fr s.heap L' h₁ (fun y => binds.reverse.lookup y) → News s.heap L' h₁ [] → Below A base (env :: outer) s.heap → K.In s.heap → Top p loose mean mg mb s.heap →
      wpAny (model prog w) (A.deeper (envOf qual scope L' f cdv)) (execs body (envOf qual scope L' f cdv))
        (fun fl s' => LeaveP s Ret (match fl with | .ret v => v | _ => .none) s')
        (fun _ _ => False)
        { s with heap := h₁, toks := s.toks + binds.length })
    (hco : scope.isCoroutine = false) (hgen : scope.isGenerator = false) (hk : scope.kind = .function)
    (hcell : ∀ x ∈ scope.names, x.2 ≠ .cell) :
    codeAny (model prog w) A (.call (.ref f) args) (fun r s' => match r with | .ok (.ret v) => Q v s' | .ok _ => False | .error e => E e s') s := by
  have X := X₀.keeps F.keep
  obtain ⟨FG, BG, st, lv⟩ := groundX (R := fun _ _ => True) B F News.nil hA hf hke
  have hh : hideAll s.heap (([] : List (Addr × Obj)).map (·.1)) = s.heap := rfl
  rw [hh] at BG
  refine codeAny_call_def (fd := fnOf name qual params body scope dV kV doc pm an cdv ct) (body := body) (binds := binds) hroom (X _ _ ho) rfl (T.nolimit.keeps F.keep) (codeRec_of X hcd) rfl hbind hcell hloc (fun h₁ hns hk₁ => ?_) hco hgen hk
  refine wpAny_mono (h s.heap.objs.size h₁ ⟨hns, hk₁, Nat.le_refl _⟩ News.nil BG X (T.keeps F.keep)) (fun fl s' hl => ?_) fun _ _ y => y.elim
  obtain ⟨h', tk, e, st', r⟩ := hl
  subst e
  exact hret _ _ _ st' r

theorem enter_pureC {name qual : Str} {params : Arguments} {body : List Stmt} {scope : Scope} {dV kV doc pm cdv ct oc : Value} {an od : Option Addr} {osl : Array (Option Value)} {f : Addr} {args : Args} {binds : List (Str × Value)} {Ret : Value → Heap → Prop}
    (B : Below A₀ base outer h₀) (F : Fr h₀ L s.heap m) (X₀ : K.In h₀) (T : Top p loose mean mg mb h₀) (hA : A.frames = some (env :: outer)) (hf : env.frame = some L) (hke : env.scope.kind = .function)
    (ho : K.lookup f = some ⟨oc, od, .func (fnOf name qual params body scope dV kV doc pm an cdv ct), osl⟩) (hcd : codeIn K cdv qual = true) (hroom : A.depth < recursionLimit)
    (hbind : BindsTo s (fnOf name qual params body scope dV kV doc pm an cdv ct) args binds) (hkind : (binds.all fun y => scope.names.lookup y.1 == some .local || scope.names.lookup y.1 == some .cell) = true)
    (hnd : ((cellsFrom 0 scope.names []).map (·.1)).Nodup)
    (hret : ∀ v h' tk, s.heap.StaysIn h' → Ret v h' → Q v { s with heap := h', toks := tk })
    (h : ∀ L' h₁ tk cells, Fr s.heap L' h₁ (bindL (envOfC qual scope L' f cdv).kindOf binds fun _ => none) → News s.heap L' h₁ (cells ++ []) →
      CellsAre (bindC (envOfC qual scope L' f cdv).kindOf binds fun _ => none) (cellsFrom (L' + 1) scope.names []) cells → Below A base (env :: outer) s.heap → K.In s.heap → Top p loose mean mg mb s.heap →
      wpAny (model prog w) (A.deeper (envOfC qual scope L' f cdv)) (execs body (envOfC qual scope L' f cdv))
        (fun fl s' => LeaveP s Ret (match fl with | .ret v => v | _ => .none) s')
        (fun _ _ => False)
        { s with heap := h₁, toks := tk })
    (hco : scope.isCoroutine = false) (hgen : scope.isGenerator = false) (hk : scope.kind = .function) :
    codeAny (model prog w) A (.call (.ref f) args) (fun r s' => match r with | .ok (.ret v) => Q v s' | .ok _ => False | .error e => E e s') s := by
  have X := X₀.keeps F.keep
  have T' := T.keeps F.keep
  obtain ⟨FG, BG, st, lv⟩ := groundX (R := fun _ _ => True) B F News.nil hA hf hke
  have hh : hideAll s.heap (([] : List (Addr × Obj)).map (·.1)) = s.heap := rfl
  rw [hh] at BG
  refine codeAny_call_function hroom (X _ _ ho) rfl hco hgen rfl (codeRec_of X hcd) (hbind _ _ _ _ ?_)
  refine wpAny_newFunctionEnv_cells hk (kindsX hkind _) fun env' he s' x => ?_
  subst he
  refine ⟨T'.nolimit.keeps x.toInCall.keep, codeAny_func ?_⟩
  obtain ⟨h₁, tk, rfl, _⟩ := x.done
  have hk₁ := x.toInCall.keep
  obtain ⟨cells, NC, Y⟩ := Cl.news (h₀ := s.heap) (Nat.le_refl _) fun n c hm => ⟨x.cell n c (lookup_of_mem_nodup (cellsFrom_names scope.names 0 (s.heap.objs.size + 1) [] [] rfl ▸ hnd) hm), x.above n c hm⟩
  refine wpAny_mono (h s.heap.objs.size h₁ tk cells ⟨x.toInCall.ns, hk₁, Nat.le_refl _⟩ (by rw [List.append_nil]; exact NC) Y BG X T') (fun fl s' hl => ?_) fun _ _ y => y.elim
  obtain ⟨h', tk, e, st', r⟩ := hl
  subst e
  exact hret _ _ _ st' r
end

/-- a pure call: the defs at f, upon vs, from a state s in any frame of a def -/
noncomputable def Says (prog : Program) (w : World) (p : Program) (loose : List Str) (mean : ExcName → Option Value) (mg mb : Str → Option Value) (f : Addr) (vs : List Value) (s : Shared) (need : Nat) (Ret : Value → Heap → Prop) : Prop :=
  ∀ (dp un : Nat) (gd : Option (List Code)) (cn : Str) (cs : Scope) (a : Addr) (ccd : Value) (cl : List (Str × Addr)) (outer : List Env) (A₀ : Around) (base h₀ : Heap) (L : Addr) (m : Str → Option Value)
    (Q E : Value → Shared → Prop),
    Below A₀ base outer h₀ → Fr h₀ L s.heap m → (hd.heap_39 w.params).In h₀ → Top p loose mean mg mb h₀ → cs.kind = .function → dp + need < recursionLimit → un + 8 * need < cLine →
    (∀ v h' tk', s.heap.StaysIn h' → Ret v h' → Q v { s with heap := h', toks := tk' }) →
    wpAny (model prog w) (ktrTop dp un gd cn cs L a ccd cl outer) (call (.ref f) vs) Q E s

/-- a new list of these ints -/
noncomputable def NewLI (h₀ : Heap) (v : Value) (h : Heap) (ns : List Int) : Prop := ∃ l vs n, v = .ref l ∧ h₀.get? l = none ∧ h.get? l = some (listOf vs.toArray n) ∧ IntsAre vs ns

section
variable {prog : Program} {w : World} {A₀ : Around} {s : Shared} {base h₀ : Heap} {outer : List Env} {L : Addr} {m : Str → Option Value} {f : Addr} {vs : List Value} {need : Nat} {ns : List Int} {news : List (Addr × Obj)}
  {p : Program} {loose : List Str} {mean : ExcName → Option Value} {mg mb : Str → Option Value} {E : Value → Shared → Prop} {Q : Value → Shared → Prop}

theorem news_stays {h h' : Heap} (F : Fr h₀ L h m) (N : News h₀ L h news) (st : h.StaysIn h') : Fr h₀ L h' m ∧ News h₀ L h' news := by
  refine ⟨⟨?_, fun b o e => st _ _ (F.keep b o e), F.above⟩, fun q hq => ⟨st _ _ (N q hq).1, (N q hq).2⟩⟩
  obtain ⟨oL, es, ep, hL, r⟩ := F.ns
  exact ⟨oL, es, ep, st _ _ hL, r⟩
theorem news_add {h h' : Heap} {l : Addr} {o : Obj} (F : Fr h₀ L h m) (N : News h₀ L h news) (st : h.StaysIn h') (h1 : h.get? l = none) (h2 : h'.get? l = some o) :
    News h₀ L h' ((l, o) :: news) ∧ ∀ q ∈ news, @Ne Nat q.1 l := by
  have N' := (news_stays F N st).2
  refine ⟨fun q hq => ?_, fun q hq e => ?_⟩
  · rcases List.mem_cons.mp hq with rfl | hq
    · refine ⟨h2, fun e => ?_, ?_⟩
      · obtain ⟨oL, es, ep, hL, r⟩ := F.ns
        dsimp only at e
        rw [e, hL] at h1
        cases h1
      · cases e : h₀.get? l with
        | none => rfl
        | some o' => rw [F.keep _ _ e] at h1; cases h1
    · exact N' q hq
  · have := (N q hq).1
    have e' : q.1 = l := e
    rw [e', h1] at this
    cases this

theorem use_li {dp un : Nat} {gd : Option (List Code)} {cn : Str} {cs : Scope} {a : Addr} {ccd : Value} {cl : List (Str × Addr)}
    (S : Says prog w p loose mean mg mb f vs s need (fun v h' => NewLI s.heap v h' ns))
    (B : Below A₀ base outer h₀) (F : Fr h₀ L s.heap m) (X : (hd.heap_39 w.params).In h₀) (N : News h₀ L s.heap news) (T : Top p loose mean mg mb h₀) (hk : cs.kind = .function) (hdp : dp + need < recursionLimit) (hu : un + 8 * need < cLine)
    (h : ∀ l vs' n h' tk', Fr h₀ L h' m → News h₀ L h' ((l, listOf vs'.toArray n) :: news) → IntsAre vs' ns → (∀ q ∈ news, @Ne Nat q.1 l) → s.heap.StaysIn h' → Q (.ref l) { s with heap := h', toks := tk' }) :
    wpAny (model prog w) (ktrTop dp un gd cn cs L a ccd cl outer) (call (.ref f) vs) Q E s := by
  refine S _ _ _ _ _ _ _ _ _ _ _ _ _ _ _ _ B F X T hk hdp hu fun v h' tk' st r => ?_
  obtain ⟨l, vs', n, rfl, h1, h2, hi⟩ := r
  obtain ⟨N', ne⟩ := news_add F N st h1 h2
  exact h l vs' n h' tk' (news_stays F N st).1 N' hi ne st
theorem use_int {dp un : Nat} {gd : Option (List Code)} {cn : Str} {cs : Scope} {a : Addr} {ccd : Value} {cl : List (Str × Addr)} {x : Int}
    (S : Says prog w p loose mean mg mb f vs s need (fun v _ => ∃ t, v = .int x t))
    (B : Below A₀ base outer h₀) (F : Fr h₀ L s.heap m) (X : (hd.heap_39 w.params).In h₀) (N : News h₀ L s.heap news) (T : Top p loose mean mg mb h₀) (hk : cs.kind = .function) (hdp : dp + need < recursionLimit) (hu : un + 8 * need < cLine)
    (h : ∀ t h' tk', Fr h₀ L h' m → News h₀ L h' news → s.heap.StaysIn h' → Q (.int x t) { s with heap := h', toks := tk' }) :
    wpAny (model prog w) (ktrTop dp un gd cn cs L a ccd cl outer) (call (.ref f) vs) Q E s := by
  refine S _ _ _ _ _ _ _ _ _ _ _ _ _ _ _ _ B F X T hk hdp hu fun v h' tk' st r => ?_
  obtain ⟨t, rfl⟩ := r
  obtain ⟨F', N'⟩ := news_stays F N st
  exact h t h' tk' F' N' st
end

/-! the functions, as plain Lean -/
noncomputable def trimF : List Int → List Int
  | [] => []
  | x :: r => match trimF r with
    | [] => if x = 0 then [] else [x]
    | y :: t => x :: y :: t
theorem trimF_length : ∀ ns : List Int, (trimF ns).length ≤ ns.length
  | [] => Nat.le_refl _
  | x :: r => by
    have ih := trimF_length r
    unfold trimF
    split
    · split <;> simp
    · rename_i y t e
      rw [e] at ih
      simp only [List.length_cons] at ih ⊢
      omega
theorem trimF_zero : ∀ ns : List Int, (∀ j : Nat, j < ns.length → ns.getD j 0 = 0) → trimF ns = []
  | [], _ => rfl
  | x :: r, h => by
    have ih := trimF_zero r fun j hj => by simpa using h (j + 1) (by simp; omega)
    have hx : x = 0 := by simpa using h 0 (by simp)
    unfold trimF
    rw [ih]
    simp [hx]
theorem trimF_take : ∀ (ns : List Int) (k : Nat), k ≤ ns.length → (∀ j : Nat, k ≤ j → j < ns.length → ns.getD j 0 = 0) → (k = 0 ∨ ns.getD (k - 1) 0 ≠ 0) → trimF ns = ns.take k
  | ns, 0, _, hz, _ => by
    rw [trimF_zero ns fun j hj => hz j (Nat.zero_le _) hj]; rfl
  | [], k + 1, hk, _, _ => by simp at hk
  | x :: r, k + 1, hk, hz, hn => by
    have hk' : k ≤ r.length := by simpa using hk
    have hz' : ∀ j : Nat, k ≤ j → j < r.length → r.getD j 0 = 0 := fun j h1 h2 => by
      simpa using hz (j + 1) (by omega) (by simp; omega)
    have hn' : (x :: r).getD k 0 ≠ 0 := by
      rcases hn with h | h
      · omega
      · simpa using h
    have ih := trimF_take r k hk' hz' (by
      cases k with
      | zero => exact .inl rfl
      | succ k => exact .inr (by simpa using hn'))
    unfold trimF
    rw [ih]
    cases k with
    | zero =>
      have : x ≠ 0 := by simpa using hn'
      simp [this]
    | succ k =>
      cases r with
      | nil => simp at hk'
      | cons y t => simp
theorem trimF_lenI {vs : List Value} {ns : List Int} (_ : IntsAre vs (trimF ns)) : (trimF ns).length ≤ ns.length := trimF_length ns

-- words said by k_with come first
local macro_rules | `(tactic| walk_at $s:str) => `(tactic| k_extra $s)
local macro_rules | `(tactic| k_ne) => `(tactic| (refine neN ?_; (try dsimp only); k_extra "sa ne"))
theorem anew_20_mtrim : True := by
  w_top off
  k_with_none
  k_with "sa enter" => (refine wpAny_call ?_; k_dflt (refine' enter_pure ?k1 ?k2 ?k3 ?k4 ?kA ?kF ?kK ?k6 ?k7 ?k8 ?k9 ?kB (by assumption) ?_ ?c2 ?c3 ?c4 ?c5; (case kA => exact rfl); (case kF => exact rfl); (case kK => assumption); (case k1 => k_asm); (case k2 => k_asm); (case k3 => k_asm); (case k4 => k_asm); (case k6 => k_is); (case k7 => k_is); (case k8 => ktr_room); (case k9 => exact BindsTo.of_eq rfl); (case c5 => decide); (case kB => exact locs rfl); (case c2 => exact rfl); (case c3 => exact rfl); (case c4 => exact rfl); k_whole); (with_reducible rename Below _ _ _ _ => kB'; clear kB'); (with_reducible rename Fr _ _ _ _ => kB'; clear kB'); (with_reducible rename Top _ _ _ _ _ _ => kB'; clear kB'); (rename Frag.In _ _ => kB'; clear kB'); intro L' h' F' N' B' X' T'; (try dsimp only); (try k_fold))
  k_with "sa leave list" => ((show LeaveP _ _ _ _); refine leaveP_ (by assumption) ⟨_, _, _, rfl, (News.fresh (by assumption) (List.Mem.head _)), (News.get (by assumption) (List.Mem.head _)), ?_⟩)
  k_with "execs cons Assign cons" => ((with_reducible refine wpAny_execs_cons ?_); try dsimp only)
  k_with "sa len" => (first | with_reducible assumption | exact List.length_take_le _ _ | omega | l_fact | ((simp only [rangeKs_length, List.length_map, List.length_append, List.length_cons, List.length_nil] at *); omega))
  k_with "sa enter cells" => (refine wpAny_call ?_; k_dflt (refine' enter_pureC ?k1 ?k2 ?k3 ?k4 ?kA ?kF ?kK ?k6 ?k7 ?k8 ?k9 ?kB ?kD (by assumption) ?_ ?c2 ?c3 ?c4; (case kA => exact rfl); (case kF => exact rfl); (case kK => assumption); (case k1 => k_asm); (case k2 => k_asm); (case k3 => k_asm); (case k4 => k_asm); (case k6 => k_is); (case k7 => k_is); (case k8 => ktr_room); (case k9 => exact BindsTo.of_eq rfl); (case kB => exact rfl); (case kD => decide +kernel); (case c2 => exact rfl); (case c3 => exact rfl); (case c4 => exact rfl); k_whole); (with_reducible rename Below _ _ _ _ => kB'; clear kB'); (with_reducible rename Fr _ _ _ _ => kB'; clear kB'); (with_reducible rename Top _ _ _ _ _ _ => kB'; clear kB'); (rename Frag.In _ _ => kB'; clear kB'); intro L' h' tk' cells' F' N' Y' B' X' T'; k_cells Y'; (try simp only [List.cons_append, List.nil_append, List.append_nil] at N'); (try dsimp only); (try k_fold))
  k_with "sa ne" => (first | with_reducible assumption | (refine Ne.symm ?_; with_reducible assumption) | (refine Nat.ne_of_gt ?_; assumption) | (refine Nat.ne_of_lt ?_; assumption) | ((rename _ ∧ _ => h9); first | (refine Ne.symm ?_; simp only [h9, ne_eq, not_false_eq_true]; done) | (simp only [h9, ne_eq, not_false_eq_true]; done) | (refine Nat.ne_of_gt ?_; simp only [h9]; done) | (refine Nat.ne_of_lt ?_; simp only [h9]; done) | (clear h9; k_extra "sa ne")))
  trivial
theorem mtrim_end {ns : List Int} {k : Int} (h1 : k ≤ ns.length) (h2 : min (ns.length : Int) 0 ≤ k) (h3 : ∀ j : Int, k < j → j ≤ ns.length → (if 0 < j then if (ns.getD (j - 1).toNat 0 == 0) = true then true else false else false) = true)
    (h4 : (if 0 < k then if (ns.getD (k - 1).toNat 0 == 0) = true then true else false else false) = false) : trimF ns = ns.take k.toNat := by
  have h0 : 0 ≤ k := by omega
  refine trimF_take ns k.toNat (by omega) (fun j hj hj' => ?_) ?_
  · have h := h3 ((j : Int) + 1) (by omega) (by omega)
    have e : ((j : Int) + 1 - 1).toNat = j := by omega
    rw [if_pos (by omega), e] at h
    by_cases q : (ns.getD j 0 == 0) = true
    · exact beq_iff_eq.mp q
    · rw [if_neg q] at h; cases h
  · by_cases hk : 0 < k
    · refine .inr fun q => ?_
      have e : (k - 1).toNat = k.toNat - 1 := Int.pred_toNat k
      rw [if_pos hk, e, q] at h4
      simp at h4
    · exact .inl (by omega)
section
variable {prog : Program} {w : World} {p : Program} {loose : List Str} {mean : ExcName → Option Value} {mg mb : Str → Option Value}
set_option maxHeartbeats 8000000 in
theorem mtrim_says {s : Shared} {l : Addr} {vs : List Value} {ns : List Int} (hl : s.heap.IsList l vs.toArray) (hi : IntsAre vs ns) (hn : ns.length ≤ 100) :
    Says prog w p loose mean mg mb 55 [.ref l] s 2 (fun v h' => NewLI s.heap v h' (trimF ns)) := by
  intro dp un gd cn cs a ccd cl outer A₀ base h₀ L m Q E B F X T hk hd hu hret
  walk_at "sa enter"
  k_steps
  walk_at "sa leave list"
  rw [mtrim_end (by assumption) (by assumption) (by assumption) (by assumption)]
  assumption
end

theorem anew_30_madd : True := by
  w_top off
  k_with_none
  k_with "sa enter" => (refine wpAny_call ?_; k_dflt (refine' enter_pure ?k1 ?k2 ?k3 ?k4 ?kA ?kF ?kK ?k6 ?k7 ?k8 ?k9 ?kB (by assumption) ?_ ?c2 ?c3 ?c4 ?c5; (case kA => exact rfl); (case kF => exact rfl); (case kK => assumption); (case k1 => k_asm); (case k2 => k_asm); (case k3 => k_asm); (case k4 => k_asm); (case k6 => k_is); (case k7 => k_is); (case k8 => ktr_room); (case k9 => exact BindsTo.of_eq rfl); (case c5 => decide); (case kB => exact locs rfl); (case c2 => exact rfl); (case c3 => exact rfl); (case c4 => exact rfl); k_whole); (with_reducible rename Below _ _ _ _ => kB'; clear kB'); (with_reducible rename Fr _ _ _ _ => kB'; clear kB'); (with_reducible rename Top _ _ _ _ _ _ => kB'; clear kB'); (rename Frag.In _ _ => kB'; clear kB'); intro L' h' F' N' B' X' T'; (try dsimp only); (try k_fold))
  k_with "sa leave list" => ((show LeaveP _ _ _ _); refine leaveP_ (by assumption) ⟨_, _, _, rfl, (News.fresh (by assumption) (List.Mem.head _)), (News.get (by assumption) (List.Mem.head _)), ?_⟩)
  k_with "execs cons Assign cons" => ((with_reducible refine wpAny_execs_cons ?_); try dsimp only)
  k_with "sa len" => (first | with_reducible assumption | exact List.length_take_le _ _ | omega | l_fact | ((simp only [rangeKs_length, List.length_map, List.length_append, List.length_cons, List.length_nil] at *); omega))
  k_with "sa enter cells" => (refine wpAny_call ?_; k_dflt (refine' enter_pureC ?k1 ?k2 ?k3 ?k4 ?kA ?kF ?kK ?k6 ?k7 ?k8 ?k9 ?kB ?kD (by assumption) ?_ ?c2 ?c3 ?c4; (case kA => exact rfl); (case kF => exact rfl); (case kK => assumption); (case k1 => k_asm); (case k2 => k_asm); (case k3 => k_asm); (case k4 => k_asm); (case k6 => k_is); (case k7 => k_is); (case k8 => ktr_room); (case k9 => exact BindsTo.of_eq rfl); (case kB => exact rfl); (case kD => decide +kernel); (case c2 => exact rfl); (case c3 => exact rfl); (case c4 => exact rfl); k_whole); (with_reducible rename Below _ _ _ _ => kB'; clear kB'); (with_reducible rename Fr _ _ _ _ => kB'; clear kB'); (with_reducible rename Top _ _ _ _ _ _ => kB'; clear kB'); (rename Frag.In _ _ => kB'; clear kB'); intro L' h' tk' cells' F' N' Y' B' X' T'; k_cells Y'; (try simp only [List.cons_append, List.nil_append, List.append_nil] at N'); (try dsimp only); (try k_fold))
  k_with "sa ne" => (first | with_reducible assumption | (refine Ne.symm ?_; with_reducible assumption) | (refine Nat.ne_of_gt ?_; assumption) | (refine Nat.ne_of_lt ?_; assumption) | ((rename _ ∧ _ => h9); first | (refine Ne.symm ?_; simp only [h9, ne_eq, not_false_eq_true]; done) | (simp only [h9, ne_eq, not_false_eq_true]; done) | (refine Nat.ne_of_gt ?_; simp only [h9]; done) | (refine Nat.ne_of_lt ?_; simp only [h9]; done) | (clear h9; k_extra "sa ne")))
  k_with "call ref" => (k_here; (with_reducible show wpAny _ _ (PySem.call (Value.ref 55) [Value.ref _]) _ _ _); k_dflt (refine' use_li (mtrim_says (by is_list) (by l_ints) (by k_extra "sa len")) (by k_asm) (by k_asm) (by k_asm) (by k_asm) (by k_asm) (by first | exact rfl | assumption) (by ktr_room) (by ktr_units) ?_; k_whole); intro l' vs' n' h' tk' F' N' i' ne' st'; (try simp only [List.forall_mem_cons, List.not_mem_nil, false_implies, implies_true, and_true] at ne'); (try k_sweep); walk_say "MTRIM"; (rename IntsAre _ (trimF _) => hI9); (have hC9 := trimF_lenI hI9))
  trivial
noncomputable def addF (a b : List Int) (p : Int) : List Int := (List.range (max a.length b.length)).map fun i => (a.getD i 0 + b.getD i 0).fmod p
noncomputable def maddF (a b : List Int) (p : Int) : List Int := trimF (addF a b p)
noncomputable def addAt (a b : List Int) (p : Int) (k : Int) : Int := (a.getD k.toNat 0 + b.getD k.toNat 0).fmod p
theorem getD_out {as : List Int} {k : Int} (h : (as.length : Int) ≤ k) : 0 = as.getD k.toNat 0 := by
  have : as.length ≤ k.toNat := by omega
  simp [List.getD, this]
theorem madd_turn {as bs pre found : List Int} {q k x y : Int} (h1 : found = pre.map (addAt as bs q)) (h2 : found.length = pre.length) (hx : x = as.getD k.toNat 0) (hy : y = bs.getD k.toNat 0) :
    found ++ [(x + y).fmod q] = (pre ++ [k]).map (addAt as bs q) ∧ (found ++ [(x + y).fmod q]).length = (pre ++ [k]).length := by
  subst hx hy
  refine ⟨?_, by simp [h2]⟩
  rw [List.map_append, ← h1]
  rfl
theorem madd_end {as bs found : List Int} {q : Int} (h : found = List.map (addAt as bs q) (rangeKs 0 ((if (bs.length : Int) > as.length then (bs.length : Int) else as.length) - 0).toNat)) : trimF found = maddF as bs q := by
  have e : ((if (bs.length : Int) > as.length then (bs.length : Int) else as.length) - 0).toNat = max as.length bs.length := by split <;> omega
  rw [e] at h
  subst h
  unfold maddF addF rangeKs
  rw [List.map_map]
  congr 1
  refine List.map_congr_left fun i _ => ?_
  have e : (0 + (i : Int)).toNat = i := by omega
  simp only [Function.comp, addAt, e]
section
variable {prog : Program} {w : World} {p : Program} {loose : List Str} {mean : ExcName → Option Value} {mg mb : Str → Option Value}
set_option maxHeartbeats 1000000 in
theorem madd_says {s : Shared} {la lb : Addr} {va vb : List Value} {as bs : List Int} {q : Int} {tq : Tok} (hla : s.heap.IsList la va.toArray) (hia : IntsAre va as) (hna : as.length ≤ 50)
    (hlb : s.heap.IsList lb vb.toArray) (hib : IntsAre vb bs) (hnb : bs.length ≤ 50) (hq : 2 ≤ q) (hq' : q ≤ 7) :
    Says prog w p loose mean mg mb 69 [.ref la, .ref lb, .int q tq] s 4 (fun v h' => NewLI s.heap v h' (maddF as bs q)) := by
  intro dp un gd cn cs a ccd cl outer A₀ base h₀ L m Q E B F X T hk hd hu hret
  walk_at "sa enter"
  k_with "pyIter ref" => k_state (fun pre found => found = pre.map (addAt as bs q) ∧ found.length = pre.length) "found"
  k_with "state" => first | exact ⟨rfl, rfl⟩ | exact madd_turn (by assumption) (by assumption) (by first | rfl | exact getD_out (by omega)) (by first | rfl | exact getD_out (by omega))
  k_steps
  walk_at "sa leave list"
  rw [← madd_end (by assumption)]
  assumption
end

theorem anew_31_mscale : True := by
  w_top off
  k_with_none
  k_with "sa enter" => (refine wpAny_call ?_; k_dflt (refine' enter_pure ?k1 ?k2 ?k3 ?k4 ?kA ?kF ?kK ?k6 ?k7 ?k8 ?k9 ?kB (by assumption) ?_ ?c2 ?c3 ?c4 ?c5; (case kA => exact rfl); (case kF => exact rfl); (case kK => assumption); (case k1 => k_asm); (case k2 => k_asm); (case k3 => k_asm); (case k4 => k_asm); (case k6 => k_is); (case k7 => k_is); (case k8 => ktr_room); (case k9 => exact BindsTo.of_eq rfl); (case c5 => decide); (case kB => exact locs rfl); (case c2 => exact rfl); (case c3 => exact rfl); (case c4 => exact rfl); k_whole); (with_reducible rename Below _ _ _ _ => kB'; clear kB'); (with_reducible rename Fr _ _ _ _ => kB'; clear kB'); (with_reducible rename Top _ _ _ _ _ _ => kB'; clear kB'); (rename Frag.In _ _ => kB'; clear kB'); intro L' h' F' N' B' X' T'; (try dsimp only); (try k_fold))
  k_with "sa leave list" => ((show LeaveP _ _ _ _); refine leaveP_ (by assumption) ⟨_, _, _, rfl, (News.fresh (by assumption) (List.Mem.head _)), (News.get (by assumption) (List.Mem.head _)), ?_⟩)
  k_with "execs cons Assign cons" => ((with_reducible refine wpAny_execs_cons ?_); try dsimp only)
  k_with "sa len" => (first | with_reducible assumption | exact List.length_take_le _ _ | omega | l_fact | ((simp only [rangeKs_length, List.length_map, List.length_append, List.length_cons, List.length_nil] at *); omega))
  k_with "sa enter cells" => (refine wpAny_call ?_; k_dflt (refine' enter_pureC ?k1 ?k2 ?k3 ?k4 ?kA ?kF ?kK ?k6 ?k7 ?k8 ?k9 ?kB ?kD (by assumption) ?_ ?c2 ?c3 ?c4; (case kA => exact rfl); (case kF => exact rfl); (case kK => assumption); (case k1 => k_asm); (case k2 => k_asm); (case k3 => k_asm); (case k4 => k_asm); (case k6 => k_is); (case k7 => k_is); (case k8 => ktr_room); (case k9 => exact BindsTo.of_eq rfl); (case kB => exact rfl); (case kD => decide +kernel); (case c2 => exact rfl); (case c3 => exact rfl); (case c4 => exact rfl); k_whole); (with_reducible rename Below _ _ _ _ => kB'; clear kB'); (with_reducible rename Fr _ _ _ _ => kB'; clear kB'); (with_reducible rename Top _ _ _ _ _ _ => kB'; clear kB'); (rename Frag.In _ _ => kB'; clear kB'); intro L' h' tk' cells' F' N' Y' B' X' T'; k_cells Y'; (try simp only [List.cons_append, List.nil_append, List.append_nil] at N'); (try dsimp only); (try k_fold))
  k_with "sa ne" => (first | with_reducible assumption | (refine Ne.symm ?_; with_reducible assumption) | (refine Nat.ne_of_gt ?_; assumption) | (refine Nat.ne_of_lt ?_; assumption) | ((rename _ ∧ _ => h9); first | (refine Ne.symm ?_; simp only [h9, ne_eq, not_false_eq_true]; done) | (simp only [h9, ne_eq, not_false_eq_true]; done) | (refine Nat.ne_of_gt ?_; simp only [h9]; done) | (refine Nat.ne_of_lt ?_; simp only [h9]; done) | (clear h9; k_extra "sa ne")))
  k_with "call ref" => (k_here; (with_reducible show wpAny _ _ (PySem.call (Value.ref 55) [Value.ref _]) _ _ _); k_dflt (refine' use_li (mtrim_says (by is_list) (by l_ints) (by k_extra "sa len")) (by k_asm) (by k_asm) (by k_asm) (by k_asm) (by k_asm) (by first | exact rfl | assumption) (by ktr_room) (by ktr_units) ?_; k_whole); intro l' vs' n' h' tk' F' N' i' ne' st'; (try simp only [List.forall_mem_cons, List.not_mem_nil, false_implies, implies_true, and_true] at ne'); (try k_sweep); walk_say "MTRIM"; (rename IntsAre _ (trimF _) => hI9); (have hC9 := trimF_lenI hI9))
  k_with "call ref" => (k_here; (with_reducible show wpAny _ _ (PySem.call (Value.ref 69) [Value.ref _, Value.ref _, Value.int _ _]) _ _ _); k_dflt (refine' use_li (madd_says (by is_list) (by l_ints) (by k_extra "sa len") (by is_list) (by l_ints) (by k_extra "sa len") (by omega) (by omega)) (by k_asm) (by k_asm) (by k_asm) (by k_asm) (by k_asm) (by first | exact rfl | assumption) (by ktr_room) (by ktr_units) ?_; k_whole); intro l' vs' n' h' tk' F' N' i' ne' st'; (try simp only [List.forall_mem_cons, List.not_mem_nil, false_implies, implies_true, and_true] at ne'); (try k_sweep); walk_say "MADD")
  trivial
noncomputable def mscaleF (a : List Int) (x p : Int) : List Int := trimF (a.map fun y => (y * x).fmod p)
section
variable {prog : Program} {w : World} {p : Program} {loose : List Str} {mean : ExcName → Option Value} {mg mb : Str → Option Value}
set_option maxHeartbeats 1000000 in
theorem mscale_says {s : Shared} {la : Addr} {va : List Value} {as : List Int} {q x : Int} {tq tx : Tok} (hla : s.heap.IsList la va.toArray) (hia : IntsAre va as) (hna : as.length ≤ 50)
    (hx : 0 ≤ x) (hx' : x ≤ 6) (hq : 2 ≤ q) (hq' : q ≤ 7) :
    Says prog w p loose mean mg mb 86 [.ref la, .int x tx, .int q tq] s 4 (fun v h' => NewLI s.heap v h' (mscaleF as x q)) := by
  intro dp un gd cn cs a ccd cl outer A₀ base h₀ L m Q E B F X T hk hd hu hret
  walk_at "sa enter cells"
  k_steps
  walk_at "sa leave list"
  assumption
end

theorem anew_35_loops : True := by
  w_top off
  k_with_none
  k_with "sa enter" => (refine wpAny_call ?_; k_dflt (refine' enter_pure ?k1 ?k2 ?k3 ?k4 ?kA ?kF ?kK ?k6 ?k7 ?k8 ?k9 ?kB (by assumption) ?_ ?c2 ?c3 ?c4 ?c5; (case kA => exact rfl); (case kF => exact rfl); (case kK => assumption); (case k1 => k_asm); (case k2 => k_asm); (case k3 => k_asm); (case k4 => k_asm); (case k6 => k_is); (case k7 => k_is); (case k8 => ktr_room); (case k9 => exact BindsTo.of_eq rfl); (case c5 => decide); (case kB => exact locs rfl); (case c2 => exact rfl); (case c3 => exact rfl); (case c4 => exact rfl); k_whole); (with_reducible rename Below _ _ _ _ => kB'; clear kB'); (with_reducible rename Fr _ _ _ _ => kB'; clear kB'); (with_reducible rename Top _ _ _ _ _ _ => kB'; clear kB'); (rename Frag.In _ _ => kB'; clear kB'); intro L' h' F' N' B' X' T'; (try dsimp only); (try k_fold))
  k_with "sa leave list" => ((show LeaveP _ _ _ _); refine leaveP_ (by assumption) ⟨_, _, _, rfl, (News.fresh (by assumption) (List.Mem.head _)), (News.get (by assumption) (List.Mem.head _)), ?_⟩)
  k_with "execs cons Assign cons" => ((with_reducible refine wpAny_execs_cons ?_); try dsimp only)
  k_with "sa len" => (first | with_reducible assumption | exact List.length_take_le _ _ | omega | l_fact | ((simp only [rangeKs_length, List.length_map, List.length_append, List.length_cons, List.length_nil] at *); omega))
  k_with "sa enter cells" => (refine wpAny_call ?_; k_dflt (refine' enter_pureC ?k1 ?k2 ?k3 ?k4 ?kA ?kF ?kK ?k6 ?k7 ?k8 ?k9 ?kB ?kD (by assumption) ?_ ?c2 ?c3 ?c4; (case kA => exact rfl); (case kF => exact rfl); (case kK => assumption); (case k1 => k_asm); (case k2 => k_asm); (case k3 => k_asm); (case k4 => k_asm); (case k6 => k_is); (case k7 => k_is); (case k8 => ktr_room); (case k9 => exact BindsTo.of_eq rfl); (case kB => exact rfl); (case kD => decide +kernel); (case c2 => exact rfl); (case c3 => exact rfl); (case c4 => exact rfl); k_whole); (with_reducible rename Below _ _ _ _ => kB'; clear kB'); (with_reducible rename Fr _ _ _ _ => kB'; clear kB'); (with_reducible rename Top _ _ _ _ _ _ => kB'; clear kB'); (rename Frag.In _ _ => kB'; clear kB'); intro L' h' tk' cells' F' N' Y' B' X' T'; k_cells Y'; (try simp only [List.cons_append, List.nil_append, List.append_nil] at N'); (try dsimp only); (try k_fold))
  k_with "sa ne" => (first | with_reducible assumption | (refine Ne.symm ?_; with_reducible assumption) | (refine Nat.ne_of_gt ?_; assumption) | (refine Nat.ne_of_lt ?_; assumption) | ((rename _ ∧ _ => h9); first | (refine Ne.symm ?_; simp only [h9, ne_eq, not_false_eq_true]; done) | (simp only [h9, ne_eq, not_false_eq_true]; done) | (refine Nat.ne_of_gt ?_; simp only [h9]; done) | (refine Nat.ne_of_lt ?_; simp only [h9]; done) | (clear h9; k_extra "sa ne")))
  k_with "call ref" => (k_here; (with_reducible show wpAny _ _ (PySem.call (Value.ref 55) [Value.ref _]) _ _ _); k_dflt (refine' use_li (mtrim_says (by is_list) (by l_ints) (by k_extra "sa len")) (by k_asm) (by k_asm) (by k_asm) (by k_asm) (by k_asm) (by first | exact rfl | assumption) (by ktr_room) (by ktr_units) ?_; k_whole); intro l' vs' n' h' tk' F' N' i' ne' st'; (try simp only [List.forall_mem_cons, List.not_mem_nil, false_implies, implies_true, and_true] at ne'); (try k_sweep); walk_say "MTRIM"; (rename IntsAre _ (trimF _) => hI9); (have hC9 := trimF_lenI hI9))
  k_with "call ref" => (k_here; (with_reducible show wpAny _ _ (PySem.call (Value.ref 69) [Value.ref _, Value.ref _, Value.int _ _]) _ _ _); k_dflt (refine' use_li (madd_says (by is_list) (by l_ints) (by k_extra "sa len") (by is_list) (by l_ints) (by k_extra "sa len") (by omega) (by omega)) (by k_asm) (by k_asm) (by k_asm) (by k_asm) (by k_asm) (by first | exact rfl | assumption) (by ktr_room) (by ktr_units) ?_; k_whole); intro l' vs' n' h' tk' F' N' i' ne' st'; (try simp only [List.forall_mem_cons, List.not_mem_nil, false_implies, implies_true, and_true] at ne'); (try k_sweep); walk_say "MADD")
  k_with "call ref" => (k_here; (with_reducible show wpAny _ _ (PySem.call (Value.ref 86) [Value.ref _, Value.int _ _, Value.int _ _]) _ _ _); k_dflt (refine' use_li (mscale_says (by is_list) (by l_ints) (by k_extra "sa len") (by omega) (by omega) (by omega) (by omega)) (by k_asm) (by k_asm) (by k_asm) (by k_asm) (by k_asm) (by first | exact rfl | assumption) (by ktr_room) (by ktr_units) ?_; k_whole); intro l' vs' n' h' tk' F' N' i' ne' st'; (try simp only [List.forall_mem_cons, List.not_mem_nil, false_implies, implies_true, and_true] at ne'); (try k_sweep); walk_say "MSCALE")
  trivial
/-! a loop over enumerate(a list of ints) that stores into one list of ints -/
noncomputable def FoldEnd (h₀ : Heap) (L : Addr) (own rest : List (Addr × Obj)) (D : Addr) (xi xc : Str) (names : List Str) (m : Str → Option Value) (Inv : List Int → Prop) (found' : List Int) (s : Shared) (f : Flow) (s₂ : Shared) : Prop :=
  (f = .next ∨ f = .cont) ∧ ∃ h' tk m' us' c', s₂ = { s with heap := h', toks := tk } ∧ Fr h₀ L h' m' ∧ News h₀ L h' ((D, listOf us'.toArray c') :: (rest ++ own)) ∧ IntsAre us' found' ∧ Inv found' ∧
    ∀ z, z ≠ xi → z ≠ xc → names.contains z = false → m' z = m z
theorem foldEnd_ {h₀ : Heap} {L : Addr} {own rest : List (Addr × Obj)} {D : Addr} {xi xc : Str} {names : List Str} {m m' : Str → Option Value} {Inv : List Int → Prop} {found' : List Int} {s : Shared} {h' : Heap} {tk : Nat} {us' : List Value} {c' : Nat}
    (F : Fr h₀ L h' m') (N : News h₀ L h' ((D, listOf us'.toArray c') :: (rest ++ own))) (hi : IntsAre us' found') (hI : Inv found') (hm : ∀ z, z ≠ xi → z ≠ xc → names.contains z = false → m' z = m z) :
    FoldEnd h₀ L own rest D xi xc names m Inv found' s .next { s with heap := h', toks := tk } := ⟨.inl rfl, h', tk, m', us', c', rfl, F, N, hi, hI, hm⟩
theorem mem_get {as : List Int} {i : Nat} {a : Int} (h : as[i]? = some a) : a ∈ as := List.mem_of_getElem? h
theorem all_append {α : Type} {P : α → Prop} {a b : List α} (h : ∀ p ∈ a, P p) (k : ∀ p ∈ b, P p) : ∀ p ∈ a ++ b, P p := fun p hp => (List.mem_append.mp hp).elim (h p) (k p)
section
variable {prog : Program} {w : World} {A : Around} {E : Value → Shared → Prop} {s : Shared} {env : Env} {h₀ : Heap} {m : Str → Option Value} {rest : List (Addr × Obj)} {Q : Flow → Shared → Prop}

theorem enum_fold {as : List Int} {xv : Value} {D : Addr} {us : List Value} {c : Nat} {found : List Int} {xi xc : Str} {body : List Stmt} (names : List Str) (f : List Int → Int × Nat → List Int) (Inv : List Int → Prop)
    (S : PairSrc prog w A E h₀ env ItemKind.int as xv s m ((D, listOf us.toArray c) :: rest)) (hu : IntsAre us found) (hI : Inv found)
    (turn : ∀ (i : Nat) (a : Int) (t ta : Tok) us c fd (u : Str → Option Value) h tk own, as[i]? = some a → IntsAre us fd → Inv fd → OwnOff own (D :: rest.map (·.1)) →
      Fr h₀ env.locals h (fun y => if y = xc then some (.int a ta) else if y = xi then some (.int i t) else if names.contains y then u y else m y) → News h₀ env.locals h ((D, listOf us.toArray c) :: (rest ++ own)) →
      wpAny (model prog w) A (execs body env) (FoldEnd h₀ env.locals own rest D xi xc names m Inv (f fd (a, i)) { s with heap := h, toks := tk }) E { s with heap := h, toks := tk })
    (done : ∀ us c fd (u : Str → Option Value) h tk, fd = as.zipIdx.foldl f found → IntsAre us fd → Inv fd → Fr h₀ env.locals h (fun y => if y = xc then u y else if y = xi then u y else if names.contains y then u y else m y) →
      News h₀ env.locals h ((D, listOf us.toArray c) :: rest) → Q .next { s with heap := h, toks := tk }) :
    wpAny (model prog w) A (pyIter xv) (fun it s₂ => PairAt3 prog w A h₀ env xi xc body Q E it s₂) E s := by
  refine S xi xc body Q (fun i m₁ nx => ∃ us c, nx = (D, listOf us.toArray c) :: rest ∧ IntsAre us ((as.zipIdx.take i).foldl f found) ∧ Inv ((as.zipIdx.take i).foldl f found) ∧ ∀ z, z ≠ xi → z ≠ xc → names.contains z = false → m₁ z = m z)
    ⟨us, c, rfl, hu, hI, fun _ _ _ _ => rfl⟩ ?_ ?_
  · rintro i a t v m₁ news₁ s₁ own ⟨h, tk, rfl⟩ ha hk ⟨us₁, c₁, rfl, hu₁, hI₁, hm₁⟩ _ hoff F₁ N₁
    obtain ⟨ta, rfl⟩ := ItemKind.int_is hk
    have e : (fun y => if y = xc then some (Value.int a ta) else if y = xi then some (Value.int i t) else m₁ y) =
        fun y => if y = xc then some (Value.int a ta) else if y = xi then some (Value.int i t) else if names.contains y then m₁ y else m y := by
      funext y
      by_cases h1 : y = xc
      · simp [h1]
      · by_cases h2 : y = xi
        · simp [h1, h2]
        · simp only [if_neg h1, if_neg h2]
          cases h3 : names.contains y with
          | true => simp
          | false => simp only [Bool.false_eq_true, if_false]; exact hm₁ y h2 h1 h3
    rw [e] at F₁
    have N₂ : News h₀ env.locals h ((D, listOf us₁.toArray c₁) :: (rest ++ own)) := fun p hp => N₁ p (by
      simp only [List.mem_cons, List.mem_append] at hp ⊢
      rcases hp with h | h | h
      · exact .inr (.inl h)
      · exact .inr (.inr h)
      · exact .inl h)
    have ho : OwnOff own (D :: rest.map (·.1)) := by
      intro p hp b hb
      rcases List.mem_cons.mp hb with rfl | hb
      · exact hoff p hp (b, listOf us.toArray c) (.head _)
      · obtain ⟨q, hq, rfl⟩ := List.mem_map.mp hb
        exact hoff p hp q (.tail _ hq)
    have hs : (as.zipIdx.take (i + 1)).foldl f found = f ((as.zipIdx.take i).foldl f found) (a, i) := by
      rw [List.take_add_one, zipIdx_get ha]; simp
    refine wpAny_mono (turn i a t ta us₁ c₁ _ m₁ h tk own ha hu₁ hI₁ ho F₁ N₂) (fun fl s₂ q => ?_) fun _ _ x => x
    obtain ⟨hfl, h', tk', m', us', c', rfl, F', N', hi', hI', hm'⟩ := q
    have fin : LoopStep2 h₀ env.locals own ((D, listOf us₁.toArray c₁) :: rest) (fun m₁ nx => ∃ us c, nx = (D, listOf us.toArray c) :: rest ∧ IntsAre us ((as.zipIdx.take (i + 1)).foldl f found) ∧ Inv ((as.zipIdx.take (i + 1)).foldl f found) ∧ ∀ z, z ≠ xi → z ≠ xc → names.contains z = false → m₁ z = m z)
        { s with heap := h, toks := tk } .next { s with heap := h', toks := tk' } := by
      refine ⟨rfl, h', tk', m', (D, listOf us'.toArray c') :: rest, rfl, F', fun p hp => N' p ?_, rfl, us', c', rfl, ?_, ?_, hm'⟩
      · simp only [List.mem_cons, List.mem_append] at hp ⊢
        rcases hp with h | h | h
        · exact .inr (.inr h)
        · exact .inl h
        · exact .inr (.inl h)
      · rw [hs]; exact hi'
      · rw [hs]; exact hI'
    rcases hfl with rfl | rfl
    · exact fin
    · exact fin
  · rintro h' tk m' news' F' N' _ ⟨us', c', rfl, hu', hI', hm'⟩
    have hl : as.zipIdx.take as.length = as.zipIdx := List.take_of_length_le (by simp)
    rw [hl] at hu' hI'
    refine done us' c' _ m' h' tk rfl hu' hI' ?_ N'
    have e : (fun y => if y = xc then m' y else if y = xi then m' y else if names.contains y then m' y else m y) = m' := by
      funext y
      by_cases h1 : y = xc
      · simp [h1]
      · by_cases h2 : y = xi
        · simp [h2]
        · simp only [if_neg h1, if_neg h2]
          cases h3 : names.contains y with
          | true => simp
          | false => simp only [Bool.false_eq_true, if_false]; exact (hm' y h2 h1 h3).symm
    rw [e]; exact F'
end

local macro_rules | `(tactic| k_all) => `(tactic| (refine all_append ?kaA ?kaB; (case kaA => k_all); (case kaB => k_all)))
theorem anew_40_mmul : True := by
  w_top off
  k_with_none
  k_with "sa enter" => (refine wpAny_call ?_; k_dflt (refine' enter_pure ?k1 ?k2 ?k3 ?k4 ?kA ?kF ?kK ?k6 ?k7 ?k8 ?k9 ?kB (by assumption) ?_ ?c2 ?c3 ?c4 ?c5; (case kA => exact rfl); (case kF => exact rfl); (case kK => assumption); (case k1 => k_asm); (case k2 => k_asm); (case k3 => k_asm); (case k4 => k_asm); (case k6 => k_is); (case k7 => k_is); (case k8 => ktr_room); (case k9 => exact BindsTo.of_eq rfl); (case c5 => decide); (case kB => exact locs rfl); (case c2 => exact rfl); (case c3 => exact rfl); (case c4 => exact rfl); k_whole); (with_reducible rename Below _ _ _ _ => kB'; clear kB'); (with_reducible rename Fr _ _ _ _ => kB'; clear kB'); (with_reducible rename Top _ _ _ _ _ _ => kB'; clear kB'); (rename Frag.In _ _ => kB'; clear kB'); intro L' h' F' N' B' X' T'; (try dsimp only); (try k_fold))
  k_with "sa leave list" => ((show LeaveP _ _ _ _); refine leaveP_ (by assumption) ⟨_, _, _, rfl, (News.fresh (by assumption) (List.Mem.head _)), (News.get (by assumption) (List.Mem.head _)), ?_⟩)
  k_with "execs cons Assign cons" => ((with_reducible refine wpAny_execs_cons ?_); try dsimp only)
  k_with "sa len" => (first | with_reducible assumption | exact List.length_take_le _ _ | omega | l_fact | ((simp only [rangeKs_length, List.length_map, List.length_append, List.length_cons, List.length_nil] at *); omega))
  k_with "sa enter cells" => (refine wpAny_call ?_; k_dflt (refine' enter_pureC ?k1 ?k2 ?k3 ?k4 ?kA ?kF ?kK ?k6 ?k7 ?k8 ?k9 ?kB ?kD (by assumption) ?_ ?c2 ?c3 ?c4; (case kA => exact rfl); (case kF => exact rfl); (case kK => assumption); (case k1 => k_asm); (case k2 => k_asm); (case k3 => k_asm); (case k4 => k_asm); (case k6 => k_is); (case k7 => k_is); (case k8 => ktr_room); (case k9 => exact BindsTo.of_eq rfl); (case kB => exact rfl); (case kD => decide +kernel); (case c2 => exact rfl); (case c3 => exact rfl); (case c4 => exact rfl); k_whole); (with_reducible rename Below _ _ _ _ => kB'; clear kB'); (with_reducible rename Fr _ _ _ _ => kB'; clear kB'); (with_reducible rename Top _ _ _ _ _ _ => kB'; clear kB'); (rename Frag.In _ _ => kB'; clear kB'); intro L' h' tk' cells' F' N' Y' B' X' T'; k_cells Y'; (try simp only [List.cons_append, List.nil_append, List.append_nil] at N'); (try dsimp only); (try k_fold))
  k_with "sa ne" => (first | with_reducible assumption | (refine Ne.symm ?_; with_reducible assumption) | (refine Nat.ne_of_gt ?_; assumption) | (refine Nat.ne_of_lt ?_; assumption) | ((rename _ ∧ _ => h9); first | (refine Ne.symm ?_; simp only [h9, ne_eq, not_false_eq_true]; done) | (simp only [h9, ne_eq, not_false_eq_true]; done) | (refine Nat.ne_of_gt ?_; simp only [h9]; done) | (refine Nat.ne_of_lt ?_; simp only [h9]; done) | (clear h9; k_extra "sa ne")))
  k_with "call ref" => (k_here; (with_reducible show wpAny _ _ (PySem.call (Value.ref 55) [Value.ref _]) _ _ _); k_dflt (refine' use_li (mtrim_says (by is_list) (by l_ints) (by k_extra "sa len")) (by k_asm) (by k_asm) (by k_asm) (by k_asm) (by k_asm) (by first | exact rfl | assumption) (by ktr_room) (by ktr_units) ?_; k_whole); intro l' vs' n' h' tk' F' N' i' ne' st'; (try simp only [List.forall_mem_cons, List.not_mem_nil, false_implies, implies_true, and_true] at ne'); (try k_sweep); walk_say "MTRIM"; (rename IntsAre _ (trimF _) => hI9); (have hC9 := trimF_lenI hI9))
  k_with "call ref" => (k_here; (with_reducible show wpAny _ _ (PySem.call (Value.ref 69) [Value.ref _, Value.ref _, Value.int _ _]) _ _ _); k_dflt (refine' use_li (madd_says (by is_list) (by l_ints) (by k_extra "sa len") (by is_list) (by l_ints) (by k_extra "sa len") (by omega) (by omega)) (by k_asm) (by k_asm) (by k_asm) (by k_asm) (by k_asm) (by first | exact rfl | assumption) (by ktr_room) (by ktr_units) ?_; k_whole); intro l' vs' n' h' tk' F' N' i' ne' st'; (try simp only [List.forall_mem_cons, List.not_mem_nil, false_implies, implies_true, and_true] at ne'); (try k_sweep); walk_say "MADD")
  k_with "call ref" => (k_here; (with_reducible show wpAny _ _ (PySem.call (Value.ref 86) [Value.ref _, Value.int _ _, Value.int _ _]) _ _ _); k_dflt (refine' use_li (mscale_says (by is_list) (by l_ints) (by k_extra "sa len") (by omega) (by omega) (by omega) (by omega)) (by k_asm) (by k_asm) (by k_asm) (by k_asm) (by k_asm) (by first | exact rfl | assumption) (by ktr_room) (by ktr_units) ?_; k_whole); intro l' vs' n' h' tk' F' N' i' ne' st'; (try simp only [List.forall_mem_cons, List.not_mem_nil, false_implies, implies_true, and_true] at ne'); (try k_sweep); walk_say "MSCALE")
  trivial
noncomputable def mulStep2 (k : Nat) (x p : Int) (fd : List Int) (y : Int × Nat) : List Int := fd.set ((k : Int) + (y.2 : Int)).toNat ((fd.getD ((k : Int) + (y.2 : Int)).toNat 0 + x * y.1).fmod p)
noncomputable def mulStep1 (bs : List Int) (p : Int) (fd : List Int) (x : Int × Nat) : List Int := if x.1 = 0 then fd else bs.zipIdx.foldl (mulStep2 x.2 x.1 p) fd
noncomputable def mmulF (as bs : List Int) (p : Int) : List Int := if as.length = 0 ∨ bs.length = 0 then [] else trimF (as.zipIdx.foldl (mulStep1 bs p) (List.replicate (as.length + bs.length - 1) 0))
theorem mmul_end {as bs fd : List Int} {q : Int} (h1 : as.length ≠ 0) (h2 : bs.length ≠ 0) (h3 : fd = List.foldl (mulStep1 bs q) (List.replicate ((as.length : Int) + (bs.length : Int) - 1).toNat [0]).flatten as.zipIdx) : mmulF as bs q = trimF fd := by
  have e : ((as.length : Int) + (bs.length : Int) - 1).toNat = as.length + bs.length - 1 := by rw [← Int.natCast_add, Int.pred_toNat, Int.toNat_natCast]
  have f : ∀ n : Nat, (List.replicate n [(0 : Int)]).flatten = List.replicate n 0 := fun n => by
    induction n with
    | zero => rfl
    | succ n ih => rw [List.replicate_succ, List.flatten_cons, ih, List.replicate_succ]; rfl
  rw [e, f] at h3
  unfold mmulF
  rw [if_neg fun h => h.elim h1 h2, h3]
section
variable {prog : Program} {w : World} {p : Program} {loose : List Str} {mean : ExcName → Option Value} {mg mb : Str → Option Value}
set_option maxHeartbeats 1000000 in
theorem mmul_says {s : Shared} {la lb : Addr} {va vb : List Value} {as bs : List Int} {q : Int} {tq : Tok} (hla : s.heap.IsList la va.toArray) (hia : IntsAre va as) (hna : as.length ≤ 10) (hA : ∀ x ∈ as, 0 ≤ x ∧ x ≤ 6)
    (hlb : s.heap.IsList lb vb.toArray) (hib : IntsAre vb bs) (hnb : bs.length ≤ 10) (hq : 2 ≤ q) (hq' : q ≤ 7) :
    Says prog w p loose mean mg mb 93 [.ref la, .ref lb, .int q tq] s 4 (fun v h' => NewLI s.heap v h' (mmulF as bs q)) := by
  intro dp un gd cn cs a ccd cl outer A₀ base h₀ L m Q E B F X T hk hd hu hret
  walk_at "sa enter"
  k_steps
  · walk_at "sa leave list"
    rw [show mmulF as bs q = [] from if_pos (.inl (by omega))]
    exact IntsAre.nil
  · walk_at "sa leave list"
    rw [show mmulF as bs q = [] from if_pos (.inr (by omega))]
    exact IntsAre.nil
  (rename PairSrcL _ _ _ _ _ _ _ _ _ _ _ _ => S')
  with_unfolding_all refine' enum_fold (xi := Str.ofString "at") [Str.ofString "spot", Str.ofString "other"] (mulStep1 bs q) (fun fd => fd.length = as.length + bs.length - 1) (PairSrcL.at S' _ rfl) ?hu ?hI ?turn ?done
  case hu => assumption
  case hI => ((try dsimp only); omega)
  case turn =>
    clear S'
    intro i x ti tx us1 c1 fd1 u1 h1 tk1 own1 hi1 hu1 hI1 ho1 F1 N1
    (try simp only [List.cons_append, List.nil_append] at N1)
    have hi' := (ints_get_facts hi1).1
    have hx' := hA x (mem_get hi1)
    (try dsimp only)
    (try k_fold)
    k_steps
    · (rename PairSrcL _ _ _ _ _ _ _ _ _ _ _ _ => S2')
      with_unfolding_all refine' enum_fold (xi := Str.ofString "spot") [] (mulStep2 i x q) (fun fd => fd.length = as.length + bs.length - 1) (PairSrcL.at S2' _ rfl) ?ihu ?ihI ?iturn ?idone
      case ihu => assumption
      case ihI => assumption
      case iturn =>
        clear S2'
        intro j y tj ty us2 c2 fd2 u2 h2 tk2 own2 hj hu2 hI2 ho2 F2 N2
        (try simp only [List.cons_append, List.nil_append] at N2)
        have hj' := (ints_get_facts hj).1
        (try dsimp only at hI2)
        (try dsimp only)
        (try k_fold)
        k_steps
        refine foldEnd_ (by assumption) (by assumption) ?_ ?_ ?_
        · assumption
        · (try dsimp only); simp only [List.length_set, mulStep2]; omega
        · intro z h1 h2 _
          simp [h1, h2]
      case idone =>
        clear S2'
        intro us2 c2 fd2 u2 h2 tk2 e2 hu2 hI2 F2 N2
        (try dsimp only)
        (try k_fold)
        k_steps
        refine foldEnd_ (by assumption) (by assumption) ?_ ?_ ?_
        · rw [mulStep1, if_neg (by assumption), ← e2]
          assumption
        · rw [mulStep1, if_neg (by assumption), ← e2]
          assumption
        · intro z h1 h2 h3
          rw [List.contains_cons, List.contains_cons, List.contains_nil] at h3
          simp only [Bool.or_false, Bool.or_eq_false_iff, beq_eq_false_iff_ne, ne_eq] at h3
          simp [h1, h2, h3]
    · refine foldEnd_ (by assumption) (by assumption) ?_ ?_ ?_
      · rw [mulStep1, if_pos (by assumption)]
        assumption
      · rw [mulStep1, if_pos (by assumption)]
        assumption
      · intro z h1 h2 h3
        rw [List.contains_cons, List.contains_cons, List.contains_nil] at h3
        simp only [Bool.or_false, Bool.or_eq_false_iff, beq_eq_false_iff_ne, ne_eq] at h3
        simp [h1, h2, h3]
  case done =>
    clear S'
    intro us3 c3 fd3 u3 h3 tk3 e3 hu3 hI3 F3 N3
    (try dsimp only)
    (try k_fold)
    k_steps
    walk_at "sa leave list"
    rw [mmul_end (by omega) (by omega) e3]
    assumption
end

theorem anew_50_inv : True := by
  w_top off
  k_with_none
  k_with "sa enter" => (refine wpAny_call ?_; k_dflt (refine' enter_pure ?k1 ?k2 ?k3 ?k4 ?kA ?kF ?kK ?k6 ?k7 ?k8 ?k9 ?kB (by assumption) ?_ ?c2 ?c3 ?c4 ?c5; (case kA => exact rfl); (case kF => exact rfl); (case kK => assumption); (case k1 => k_asm); (case k2 => k_asm); (case k3 => k_asm); (case k4 => k_asm); (case k6 => k_is); (case k7 => k_is); (case k8 => ktr_room); (case k9 => exact BindsTo.of_eq rfl); (case c5 => decide); (case kB => exact locs rfl); (case c2 => exact rfl); (case c3 => exact rfl); (case c4 => exact rfl); k_whole); (with_reducible rename Below _ _ _ _ => kB'; clear kB'); (with_reducible rename Fr _ _ _ _ => kB'; clear kB'); (with_reducible rename Top _ _ _ _ _ _ => kB'; clear kB'); (rename Frag.In _ _ => kB'; clear kB'); intro L' h' F' N' B' X' T'; (try dsimp only); (try k_fold))
  k_with "sa leave list" => ((show LeaveP _ _ _ _); refine leaveP_ (by assumption) ⟨_, _, _, rfl, (News.fresh (by assumption) (List.Mem.head _)), (News.get (by assumption) (List.Mem.head _)), ?_⟩)
  k_with "execs cons Assign cons" => ((with_reducible refine wpAny_execs_cons ?_); try dsimp only)
  k_with "sa len" => (first | with_reducible assumption | exact List.length_take_le _ _ | omega | l_fact | ((simp only [rangeKs_length, List.length_map, List.length_append, List.length_cons, List.length_nil] at *); omega))
  k_with "sa enter cells" => (refine wpAny_call ?_; k_dflt (refine' enter_pureC ?k1 ?k2 ?k3 ?k4 ?kA ?kF ?kK ?k6 ?k7 ?k8 ?k9 ?kB ?kD (by assumption) ?_ ?c2 ?c3 ?c4; (case kA => exact rfl); (case kF => exact rfl); (case kK => assumption); (case k1 => k_asm); (case k2 => k_asm); (case k3 => k_asm); (case k4 => k_asm); (case k6 => k_is); (case k7 => k_is); (case k8 => ktr_room); (case k9 => exact BindsTo.of_eq rfl); (case kB => exact rfl); (case kD => decide +kernel); (case c2 => exact rfl); (case c3 => exact rfl); (case c4 => exact rfl); k_whole); (with_reducible rename Below _ _ _ _ => kB'; clear kB'); (with_reducible rename Fr _ _ _ _ => kB'; clear kB'); (with_reducible rename Top _ _ _ _ _ _ => kB'; clear kB'); (rename Frag.In _ _ => kB'; clear kB'); intro L' h' tk' cells' F' N' Y' B' X' T'; k_cells Y'; (try simp only [List.cons_append, List.nil_append, List.append_nil] at N'); (try dsimp only); (try k_fold))
  k_with "sa ne" => (first | with_reducible assumption | (refine Ne.symm ?_; with_reducible assumption) | (refine Nat.ne_of_gt ?_; assumption) | (refine Nat.ne_of_lt ?_; assumption) | ((rename _ ∧ _ => h9); first | (refine Ne.symm ?_; simp only [h9, ne_eq, not_false_eq_true]; done) | (simp only [h9, ne_eq, not_false_eq_true]; done) | (refine Nat.ne_of_gt ?_; simp only [h9]; done) | (refine Nat.ne_of_lt ?_; simp only [h9]; done) | (clear h9; k_extra "sa ne")))
  k_with "call ref" => (k_here; (with_reducible show wpAny _ _ (PySem.call (Value.ref 55) [Value.ref _]) _ _ _); k_dflt (refine' use_li (mtrim_says (by is_list) (by l_ints) (by k_extra "sa len")) (by k_asm) (by k_asm) (by k_asm) (by k_asm) (by k_asm) (by first | exact rfl | assumption) (by ktr_room) (by ktr_units) ?_; k_whole); intro l' vs' n' h' tk' F' N' i' ne' st'; (try simp only [List.forall_mem_cons, List.not_mem_nil, false_implies, implies_true, and_true] at ne'); (try k_sweep); walk_say "MTRIM"; (rename IntsAre _ (trimF _) => hI9); (have hC9 := trimF_lenI hI9))
  k_with "call ref" => (k_here; (with_reducible show wpAny _ _ (PySem.call (Value.ref 69) [Value.ref _, Value.ref _, Value.int _ _]) _ _ _); k_dflt (refine' use_li (madd_says (by is_list) (by l_ints) (by k_extra "sa len") (by is_list) (by l_ints) (by k_extra "sa len") (by omega) (by omega)) (by k_asm) (by k_asm) (by k_asm) (by k_asm) (by k_asm) (by first | exact rfl | assumption) (by ktr_room) (by ktr_units) ?_; k_whole); intro l' vs' n' h' tk' F' N' i' ne' st'; (try simp only [List.forall_mem_cons, List.not_mem_nil, false_implies, implies_true, and_true] at ne'); (try k_sweep); walk_say "MADD")
  k_with "call ref" => (k_here; (with_reducible show wpAny _ _ (PySem.call (Value.ref 86) [Value.ref _, Value.int _ _, Value.int _ _]) _ _ _); k_dflt (refine' use_li (mscale_says (by is_list) (by l_ints) (by k_extra "sa len") (by omega) (by omega) (by omega) (by omega)) (by k_asm) (by k_asm) (by k_asm) (by k_asm) (by k_asm) (by first | exact rfl | assumption) (by ktr_room) (by ktr_units) ?_; k_whole); intro l' vs' n' h' tk' F' N' i' ne' st'; (try simp only [List.forall_mem_cons, List.not_mem_nil, false_implies, implies_true, and_true] at ne'); (try k_sweep); walk_say "MSCALE")
  k_with "call ref" => (k_here; (with_reducible show wpAny _ _ (PySem.call (Value.ref 93) [Value.ref _, Value.ref _, Value.int _ _]) _ _ _); k_dflt (refine' use_li (mmul_says (by is_list) (by l_ints) (by k_extra "sa len") (by assumption) (by is_list) (by l_ints) (by k_extra "sa len") (by omega) (by omega)) (by k_asm) (by k_asm) (by k_asm) (by k_asm) (by k_asm) (by first | exact rfl | assumption) (by ktr_room) (by ktr_units) ?_; k_whole); intro l' vs' n' h' tk' F' N' i' ne' st'; (try simp only [List.forall_mem_cons, List.not_mem_nil, false_implies, implies_true, and_true] at ne'); (try k_sweep); walk_say "MMUL")
  trivial
/-- a new tuple of three ints -/
noncomputable def NewT3 (h₀ : Heap) (v : Value) (h : Heap) (x y z : Int) : Prop := ∃ l t1 t2 t3 n, v = .ref l ∧ h₀.get? l = none ∧ h.get? l = some ({ cls := .type "tuple", data := .seq #[.int x t1, .int y t2, .int z t3] n } : Obj)
theorem newT3_ {h₀ h : Heap} {L l : Addr} {news : List (Addr × Obj)} {x y z x' y' z' : Int} {t1 t2 t3 : Tok} {n : Nat} (N : News h₀ L h news) (hm : (l, ({ cls := .type "tuple", data := .seq #[.int x' t1, .int y' t2, .int z' t3] n } : Obj)) ∈ news)
    (e1 : x' = x) (e2 : y' = y) (e3 : z' = z) : NewT3 h₀ (.ref l) h x y z := by
  subst e1 e2 e3
  exact ⟨l, t1, t2, t3, n, rfl, N.fresh hm, N.get hm⟩
section
variable {prog : Program} {w : World} {A₀ : Around} {s : Shared} {base h₀ : Heap} {outer : List Env} {L : Addr} {m : Str → Option Value} {f : Addr} {vs : List Value} {need : Nat} {news : List (Addr × Obj)}
  {p : Program} {loose : List Str} {mean : ExcName → Option Value} {mg mb : Str → Option Value} {E : Value → Shared → Prop} {Q : Value → Shared → Prop}
theorem use_t3 {dp un : Nat} {gd : Option (List Code)} {cn : Str} {cs : Scope} {a : Addr} {ccd : Value} {cl : List (Str × Addr)} {x y z : Int}
    (S : Says prog w p loose mean mg mb f vs s need (fun v h' => NewT3 s.heap v h' x y z))
    (B : Below A₀ base outer h₀) (F : Fr h₀ L s.heap m) (X : (hd.heap_39 w.params).In h₀) (N : News h₀ L s.heap news) (T : Top p loose mean mg mb h₀) (hk : cs.kind = .function) (hdp : dp + need < recursionLimit) (hu : un + 8 * need < cLine)
    (h : ∀ l t1 t2 t3 n h' tk', Fr h₀ L h' m → News h₀ L h' ((l, ({ cls := .type "tuple", data := .seq #[.int x t1, .int y t2, .int z t3] n } : Obj)) :: news) → (∀ q ∈ news, @Ne Nat q.1 l) → s.heap.StaysIn h' → Q (.ref l) { s with heap := h', toks := tk' }) :
    wpAny (model prog w) (ktrTop dp un gd cn cs L a ccd cl outer) (call (.ref f) vs) Q E s := by
  refine S _ _ _ _ _ _ _ _ _ _ _ _ _ _ _ _ B F X T hk hdp hu fun v h' tk' st r => ?_
  obtain ⟨l, t1, t2, t3, n, rfl, h1, h2⟩ := r
  obtain ⟨N', ne⟩ := news_add F N st h1 h2
  exact h l t1 t2 t3 n h' tk' (news_stays F N st).1 N' ne st
end
/-! arithmetic whose value is said -/
theorem fdiv_1 {q : Int} (h : 2 ≤ q) : Int.fdiv 1 q = 0 := by rw [Int.fdiv_eq_ediv_of_nonneg _ (by omega)]; exact Int.ediv_eq_zero_of_lt (by decide) (by omega)
theorem fmod_1 {q : Int} (h : 2 ≤ q) : Int.fmod 1 q = 1 := by rw [Int.fmod_eq_emod_of_nonneg _ (by omega)]; exact Int.emod_eq_of_lt (by decide) (by omega)
section
variable {prog : Program} {w : World} {A : Around} {E Q : Value → Shared → Prop} {s : Shared} {a b c : Int} {t u : Tok}
theorem sub_eq (e : a - b = c) (h : Q (.int c s.toks) { s with toks := s.toks + 1 }) : wpAny (model prog w) A (binaryOp .Sub (.int a t) (.int b u)) Q E s := by subst e; exact sub_int h
theorem mul_eq (e : a * b = c) (hm : IntMulOk a b) (h : Q (.int c s.toks) { s with toks := s.toks + 1 }) : wpAny (model prog w) A (binaryOp .Mult (.int a t) (.int b u)) Q E s := by subst e; exact mul_int h hm
theorem fdiv_eq (e : a.fdiv b = c) (hb : b ≠ 0) (hp : Builtin.divisionGoesByPylong a b = false) (h : Q (.int c s.toks) { s with toks := s.toks + 1 }) : wpAny (model prog w) A (binaryOp .FloorDiv (.int a t) (.int b u)) Q E s := by subst e; exact floordiv_int hb h (.inl hp)
end
section
variable {prog : Program} {w : World} {p : Program} {loose : List Str} {mean : ExcName → Option Value} {mg mb : Str → Option Value}
set_option maxHeartbeats 1000000 in
theorem ext_says {s : Shared} {x q : Int} {t tq : Tok} (hx : x = 1) (hq2 : 2 ≤ q) (hq7 : q ≤ 7) :
    Says prog w p loose mean mg mb 41 [.int x t, .int q tq] s 2 (fun v h' => NewT3 s.heap v h' 1 1 0) := by
  intro dp un gd cn cs a ccd cl outer A₀ base h₀ L m Q E B F X T hk hd hu hret
  subst hx
  walk_at "sa enter"
  k_with "binaryOp Sub int int" => (k_here; refine sub_eq (by first | exact Int.sub_self _ | exact Int.sub_zero _ | exact rfl) ?_)
  k_with "binaryOp Mult int int" => (k_here; refine mul_eq (by first | exact Int.zero_mul _ | exact Int.mul_zero _ | exact Int.mul_one _) (by mul_fits) ?_)
  k_with "binaryOp FloorDiv int int" => (k_here; refine fdiv_eq (by first | exact fdiv_1 hq2 | exact Int.fdiv_one _) (by omega) (PyProof.noPylong_small (by omega)) ?_)
  k_steps
  refine WhlIf.yes (bne_iff_ne.mpr (show q ≠ 0 by omega)) ?_
  k_steps
  show LeaveP _ _ _ _
  refine leaveP_ (by assumption) (newT3_ (by assumption) (by k_mem) rfl rfl rfl)
end
section
variable {prog : Program} {w : World} {p : Program} {loose : List Str} {mean : ExcName → Option Value} {mg mb : Str → Option Value}
set_option maxHeartbeats 1000000 in
theorem inv_says {s : Shared} {x q : Int} {t tq : Tok} (hx : x = 1) (hq : q = 2 ∨ q = 3 ∨ q = 5 ∨ q = 7) :
    Says prog w p loose mean mg mb 48 [.int x t, .int q tq] s 4 (fun v _ => ∃ t, v = .int 1 t) := by
  intro dp un gd cn cs a ccd cl outer A₀ base h₀ L m Q E B F X T hk hd hu hret
  k_with "call ref" => (k_here; (with_reducible show wpAny _ _ (PySem.call (Value.ref 41) [Value.int _ _, Value.int _ _]) _ _ _); k_dflt (refine' use_t3 (ext_says (by first | rfl | exact fmod_1 (by assumption)) (by omega) (by omega)) (by k_asm) (by k_asm) (by k_asm) (by k_asm) (by k_asm) (by first | exact rfl | assumption) (by ktr_room) (by ktr_units) ?_; k_whole); intro l' t1' t2' t3' n' h' tk' F' N' ne' st'; walk_say "EXT"; (try simp only [List.forall_mem_cons, List.not_mem_nil, false_implies, implies_true, and_true] at ne'); (try k_sweep))
  have hq2 : 2 ≤ q := by omega
  have hq7 : q ≤ 7 := by omega
  clear hq
  subst hx
  walk_at "sa enter"
  k_steps
  show LeaveP _ _ _ _
  exact leaveP_ (by assumption) (ktn_int (fmod_1 hq2))
end

theorem anew_55_loops2 : True := by
  w_top off
  k_with_none
  k_with "sa enter" => (refine wpAny_call ?_; k_dflt (refine' enter_pure ?k1 ?k2 ?k3 ?k4 ?kA ?kF ?kK ?k6 ?k7 ?k8 ?k9 ?kB (by assumption) ?_ ?c2 ?c3 ?c4 ?c5; (case kA => exact rfl); (case kF => exact rfl); (case kK => assumption); (case k1 => k_asm); (case k2 => k_asm); (case k3 => k_asm); (case k4 => k_asm); (case k6 => k_is); (case k7 => k_is); (case k8 => ktr_room); (case k9 => exact BindsTo.of_eq rfl); (case c5 => decide); (case kB => exact locs rfl); (case c2 => exact rfl); (case c3 => exact rfl); (case c4 => exact rfl); k_whole); (with_reducible rename Below _ _ _ _ => kB'; clear kB'); (with_reducible rename Fr _ _ _ _ => kB'; clear kB'); (with_reducible rename Top _ _ _ _ _ _ => kB'; clear kB'); (rename Frag.In _ _ => kB'; clear kB'); intro L' h' F' N' B' X' T'; (try dsimp only); (try k_fold))
  k_with "sa leave list" => ((show LeaveP _ _ _ _); refine leaveP_ (by assumption) ⟨_, _, _, rfl, (News.fresh (by assumption) (List.Mem.head _)), (News.get (by assumption) (List.Mem.head _)), ?_⟩)
  k_with "execs cons Assign cons" => ((with_reducible refine wpAny_execs_cons ?_); try dsimp only)
  k_with "sa len" => (first | with_reducible assumption | exact List.length_take_le _ _ | omega | l_fact | ((simp only [rangeKs_length, List.length_map, List.length_append, List.length_cons, List.length_nil] at *); omega))
  k_with "sa enter cells" => (refine wpAny_call ?_; k_dflt (refine' enter_pureC ?k1 ?k2 ?k3 ?k4 ?kA ?kF ?kK ?k6 ?k7 ?k8 ?k9 ?kB ?kD (by assumption) ?_ ?c2 ?c3 ?c4; (case kA => exact rfl); (case kF => exact rfl); (case kK => assumption); (case k1 => k_asm); (case k2 => k_asm); (case k3 => k_asm); (case k4 => k_asm); (case k6 => k_is); (case k7 => k_is); (case k8 => ktr_room); (case k9 => exact BindsTo.of_eq rfl); (case kB => exact rfl); (case kD => decide +kernel); (case c2 => exact rfl); (case c3 => exact rfl); (case c4 => exact rfl); k_whole); (with_reducible rename Below _ _ _ _ => kB'; clear kB'); (with_reducible rename Fr _ _ _ _ => kB'; clear kB'); (with_reducible rename Top _ _ _ _ _ _ => kB'; clear kB'); (rename Frag.In _ _ => kB'; clear kB'); intro L' h' tk' cells' F' N' Y' B' X' T'; k_cells Y'; (try simp only [List.cons_append, List.nil_append, List.append_nil] at N'); (try dsimp only); (try k_fold))
  k_with "sa ne" => (first | with_reducible assumption | (refine Ne.symm ?_; with_reducible assumption) | (refine Nat.ne_of_gt ?_; assumption) | (refine Nat.ne_of_lt ?_; assumption) | ((rename _ ∧ _ => h9); first | (refine Ne.symm ?_; simp only [h9, ne_eq, not_false_eq_true]; done) | (simp only [h9, ne_eq, not_false_eq_true]; done) | (refine Nat.ne_of_gt ?_; simp only [h9]; done) | (refine Nat.ne_of_lt ?_; simp only [h9]; done) | (clear h9; k_extra "sa ne")))
  k_with "call ref" => (k_here; (with_reducible show wpAny _ _ (PySem.call (Value.ref 55) [Value.ref _]) _ _ _); k_dflt (refine' use_li (mtrim_says (by is_list) (by l_ints) (by k_extra "sa len")) (by k_asm) (by k_asm) (by k_asm) (by k_asm) (by k_asm) (by first | exact rfl | assumption) (by ktr_room) (by ktr_units) ?_; k_whole); intro l' vs' n' h' tk' F' N' i' ne' st'; (try simp only [List.forall_mem_cons, List.not_mem_nil, false_implies, implies_true, and_true] at ne'); (try k_sweep); walk_say "MTRIM"; (rename IntsAre _ (trimF _) => hI9); (have hC9 := trimF_lenI hI9))
  k_with "call ref" => (k_here; (with_reducible show wpAny _ _ (PySem.call (Value.ref 69) [Value.ref _, Value.ref _, Value.int _ _]) _ _ _); k_dflt (refine' use_li (madd_says (by is_list) (by l_ints) (by k_extra "sa len") (by is_list) (by l_ints) (by k_extra "sa len") (by omega) (by omega)) (by k_asm) (by k_asm) (by k_asm) (by k_asm) (by k_asm) (by first | exact rfl | assumption) (by ktr_room) (by ktr_units) ?_; k_whole); intro l' vs' n' h' tk' F' N' i' ne' st'; (try simp only [List.forall_mem_cons, List.not_mem_nil, false_implies, implies_true, and_true] at ne'); (try k_sweep); walk_say "MADD")
  k_with "call ref" => (k_here; (with_reducible show wpAny _ _ (PySem.call (Value.ref 86) [Value.ref _, Value.int _ _, Value.int _ _]) _ _ _); k_dflt (refine' use_li (mscale_says (by is_list) (by l_ints) (by k_extra "sa len") (by omega) (by omega) (by omega) (by omega)) (by k_asm) (by k_asm) (by k_asm) (by k_asm) (by k_asm) (by first | exact rfl | assumption) (by ktr_room) (by ktr_units) ?_; k_whole); intro l' vs' n' h' tk' F' N' i' ne' st'; (try simp only [List.forall_mem_cons, List.not_mem_nil, false_implies, implies_true, and_true] at ne'); (try k_sweep); walk_say "MSCALE")
  k_with "call ref" => (k_here; (with_reducible show wpAny _ _ (PySem.call (Value.ref 93) [Value.ref _, Value.ref _, Value.int _ _]) _ _ _); k_dflt (refine' use_li (mmul_says (by is_list) (by l_ints) (by k_extra "sa len") (by assumption) (by is_list) (by l_ints) (by k_extra "sa len") (by omega) (by omega)) (by k_asm) (by k_asm) (by k_asm) (by k_asm) (by k_asm) (by first | exact rfl | assumption) (by ktr_room) (by ktr_units) ?_; k_whole); intro l' vs' n' h' tk' F' N' i' ne' st'; (try simp only [List.forall_mem_cons, List.not_mem_nil, false_implies, implies_true, and_true] at ne'); (try k_sweep); walk_say "MMUL")
  k_with "call ref" => (k_here; (with_reducible show wpAny _ _ (PySem.call (Value.ref 48) [Value.int _ _, Value.int _ _]) _ _ _); k_dflt (refine' use_int (inv_says (by first | assumption | decide) (by first | assumption | omega)) (by k_asm) (by k_asm) (by k_asm) (by k_asm) (by k_asm) (by first | exact rfl | assumption) (by ktr_room) (by ktr_units) ?_; k_whole); intro t1' h' tk' F' N' st'; (try k_sweep); walk_say "INV")
  trivial
/-- held, that the walk may stand still -/
noncomputable def Hold (P : Prop) : Prop := P
/-! a loop over a range that goes down, which stores into two lists of ints -/
noncomputable def Fold2End (h₀ : Heap) (L : Addr) (own : List (Addr × Obj)) (D1 D2 : Addr) (x : Str) (stored : List Str) (m : Str → Option Value) (P : List Int → List Int → Prop) (s : Shared) (f : Flow) (s₂ : Shared) : Prop :=
  (f = .next ∨ f = .cont) ∧ ∃ h' tk m' us1 c1 l1 us2 c2 l2, s₂ = { s with heap := h', toks := tk } ∧ Fr h₀ L h' m' ∧ News h₀ L h' ((D1, listOf us1.toArray c1) :: (D2, listOf us2.toArray c2) :: own) ∧ IntsAre us1 l1 ∧ IntsAre us2 l2 ∧ P l1 l2 ∧
    ∀ z, z ≠ x → stored.contains z = false → m' z = m z
theorem fold2End_ {h₀ : Heap} {L : Addr} {own news : List (Addr × Obj)} {D1 D2 : Addr} {x : Str} {stored : List Str} {m m' : Str → Option Value} {P : List Int → List Int → Prop} {s : Shared} {h' : Heap} {tk : Nat} {us1 us2 : List Value} {c1 c2 : Nat} {l1 l2 : List Int}
    (F : Fr h₀ L h' m') (N : News h₀ L h' news) (hn : ∀ p ∈ (D1, listOf us1.toArray c1) :: (D2, listOf us2.toArray c2) :: own, p ∈ news) (h1 : IntsAre us1 l1) (h2 : IntsAre us2 l2) (hP : P l1 l2) (hm : ∀ z, z ≠ x → stored.contains z = false → m' z = m z) :
    Fold2End h₀ L own D1 D2 x stored m P s .next { s with heap := h', toks := tk } := ⟨.inl rfl, h', tk, m', us1, c1, l1, us2, c2, l2, rfl, F, fun p hp => N p (hn p hp), h1, h2, hP, hm⟩
section
variable {prog : Program} {w : World} {A : Around} {E : Value → Shared → Prop} {s : Shared} {env : Env} {h₀ : Heap} {m₀ : Str → Option Value} {Q : Flow → Shared → Prop} {x : Str} {body : List Stmt}

theorem down_fold2 {r : Addr} {a₀ b₀ : Int} {t₀ u₀ v₀ : Tok} {n : Nat} {D1 D2 : Addr} {us1 us2 : List Value} {c1 c2 : Nat} {l1 l2 : List Int} (stored : List Str) (P : Nat → List Int → List Int → Prop)
    (hh : A.handled = none) (hr : IsRange s.heap r a₀ b₀ (-1) t₀ u₀ v₀) (hsmall : Builtin.Range.small a₀ b₀ (-1) = true) (hn : Builtin.Range.rangeSize a₀ b₀ (-1) = (n : Int)) (F : Fr h₀ env.locals s.heap m₀)
    (N : News h₀ env.locals s.heap [(D1, listOf us1.toArray c1), (D2, listOf us2.toArray c2)]) (h1 : IntsAre us1 l1) (h2 : IntsAre us2 l2) (hp : P 0 l1 l2)
    (turn : ∀ (i : Nat) us1 c1 l1 us2 c2 l2 (t : Tok) (u : Str → Option Value) h tk own, i < n → OwnOff own [D1, D2] → IntsAre us1 l1 → IntsAre us2 l2 → P i l1 l2 →
      Fr h₀ env.locals h (fun y => if y = x then some (.int (a₀ - (i : Int)) t) else if stored.contains y then u y else m₀ y) → News h₀ env.locals h ((D1, listOf us1.toArray c1) :: (D2, listOf us2.toArray c2) :: own) →
      wpAny (model prog w) A (execs body env) (Fold2End h₀ env.locals own D1 D2 x stored m₀ (P (i + 1)) { s with heap := h, toks := tk }) E { s with heap := h, toks := tk })
    (done : ∀ us1 c1 l1 us2 c2 l2 (u : Str → Option Value) h tk, IntsAre us1 l1 → IntsAre us2 l2 → P n l1 l2 →
      Fr h₀ env.locals h (fun y => if y = x then u y else if stored.contains y then u y else m₀ y) → News h₀ env.locals h [(D1, listOf us1.toArray c1), (D2, listOf us2.toArray c2)] → Q .next { s with heap := h, toks := tk }) :
    wpAny (model prog w) A (pyIter (.ref r)) (fun it s₂ => LoopAtV prog w A h₀ env x body Q E it s₂) E s := by
  refine kst_rangeD (σ := (List Value × Nat × List Int) × (List Value × Nat × List Int)) (n := n) (fun c => [(D1, listOf c.1.1.toArray c.1.2.1), (D2, listOf c.2.1.toArray c.2.2.1)]) (fun _ => []) (fun c => IntsAre c.1.1 c.1.2.2 ∧ IntsAre c.2.1 c.2.2.2) stored
    (fun pre c => P pre.length c.1.2.2 c.2.2.2) ((us1, c1, l1), (us2, c2, l2)) hh hr hsmall hn F N ⟨h1, h2⟩ (fun _ hp => nomatch hp) hp ?_ ?_
  · rintro ⟨⟨us1', c1', l1'⟩, us2', c2', l2'⟩ pre k t u h tk own rfl hl ho ⟨k1, k2⟩ hP F₁ N₁
    refine wpAny_mono (turn pre.length us1' c1' l1' us2' c2' l2' t u h tk own hl ho k1 k2 hP F₁ N₁) (fun fl s₂ q => ?_) fun _ _ y => y
    obtain ⟨hf, h', tk', m', us1'', c1'', l1'', us2'', c2'', l2'', rfl, F', N', k1', k2', hP', hm'⟩ := q
    have fin : InvEndN h₀ env.locals (KstS (σ := (List Value × Nat × List Int) × (List Value × Nat × List Int)) (fun c => [(D1, listOf c.1.1.toArray c.1.2.1), (D2, listOf c.2.1.toArray c.2.2.1)]) (fun _ => []) (fun c => IntsAre c.1.1 c.1.2.2 ∧ IntsAre c.2.1 c.2.2.2) x stored m₀
        (fun pre c => P pre.length c.1.2.2 c.2.2.2) (pre ++ [a₀ - (pre.length : Int)])) own [D1, D2] { s with heap := h, toks := tk } { s with heap := h', toks := tk' } := by
      refine ⟨h', tk', m', _, [(D1, listOf us1''.toArray c1''), (D2, listOf us2''.toArray c2'')], rfl, F', N', ?_, ?_, rfl, ((us1'', c1'', l1''), (us2'', c2'', l2'')), rfl, ⟨k1', k2'⟩, (fun _ hp => nomatch hp), fun z hz _ h3 => hm' z hz h3, ?_⟩
      · intro p hp
        rcases List.mem_cons.mp hp with rfl | hp
        · exact .head _
        · rw [List.mem_singleton.mp hp]; exact .tail _ (.head _)
      · exact fun p hp => .tail _ (.tail _ hp)
      · show P (pre ++ [a₀ - (pre.length : Int)]).length l1'' l2''
        rw [List.length_append]
        exact hP'
    rcases hf with rfl | rfl
    · exact fin
    · exact fin
  · rintro ⟨⟨us1', c1', l1'⟩, us2', c2', l2'⟩ u h tk ⟨k1, k2⟩ hP F₁ N₁
    have hP' : P (downKs a₀ n).length l1' l2' := hP
    rw [downKs_length] at hP'
    exact done us1' c1' l1' us2' c2' l2' u h tk k1 k2 hP' F₁ N₁
end
section
variable {prog : Program} {w : World} {A : Around} {E : Value → Shared → Prop} {s : Shared} {env : Env} {h₀ : Heap} {m₀ : Str → Option Value} {Q : Flow → Shared → Prop} {x : Str} {body : List Stmt}
theorem down_fold2m {news : List (Addr × Obj)} {r : Addr} {a₀ b₀ : Int} {t₀ u₀ v₀ : Tok} {n : Nat} {D1 D2 : Addr} {us1 us2 : List Value} {c1 c2 : Nat} {l1 l2 : List Int} (stored : List Str) (P : Nat → List Int → List Int → Prop)
    (hh : A.handled = none) (hr : IsRange s.heap r a₀ b₀ (-1) t₀ u₀ v₀) (hsmall : Builtin.Range.small a₀ b₀ (-1) = true) (hn : Builtin.Range.rangeSize a₀ b₀ (-1) = (n : Int)) (F : Fr h₀ env.locals s.heap m₀)
    (N : News h₀ env.locals s.heap news) (h1 : IntsAre us1 l1) (h2 : IntsAre us2 l2) (hm1 : (D1, listOf us1.toArray c1) ∈ news) (hm2 : (D2, listOf us2.toArray c2) ∈ news) (hp : P 0 l1 l2)
    (turn : Hold (∀ (i : Nat) us1 c1 l1 us2 c2 l2 (t : Tok) (u : Str → Option Value) h tk own, i < n → OwnOff own [D1, D2] → IntsAre us1 l1 → IntsAre us2 l2 → P i l1 l2 →
      Fr h₀ env.locals h (fun y => if y = x then some (.int (a₀ - (i : Int)) t) else if stored.contains y then u y else m₀ y) → News h₀ env.locals h ((D1, listOf us1.toArray c1) :: (D2, listOf us2.toArray c2) :: own) →
      wpAny (model prog w) A (execs body env) (Fold2End h₀ env.locals own D1 D2 x stored m₀ (P (i + 1)) { s with heap := h, toks := tk }) E { s with heap := h, toks := tk }))
    (done : Hold (∀ us1 c1 l1 us2 c2 l2 (u : Str → Option Value) h tk, IntsAre us1 l1 → IntsAre us2 l2 → P n l1 l2 →
      Fr h₀ env.locals h (fun y => if y = x then u y else if stored.contains y then u y else m₀ y) → News h₀ env.locals h [(D1, listOf us1.toArray c1), (D2, listOf us2.toArray c2)] → Q .next { s with heap := h, toks := tk })) :
    wpAny (model prog w) A (pyIter (.ref r)) (fun it s₂ => LoopAtV prog w A h₀ env x body Q E it s₂) E s := by
  refine down_fold2 (c1 := c1) (c2 := c2) stored P hh hr hsmall hn F (fun p hp => ?_) h1 h2 hp turn done
  rcases List.mem_cons.mp hp with rfl | hp
  · exact N _ hm1
  · rw [List.mem_singleton.mp hp]; exact N _ hm2
end

theorem anew_60_mdivmod : True := by
  w_top off
  k_with_none
  k_with "sa enter" => (refine wpAny_call ?_; k_dflt (refine' enter_pure ?k1 ?k2 ?k3 ?k4 ?kA ?kF ?kK ?k6 ?k7 ?k8 ?k9 ?kB (by assumption) ?_ ?c2 ?c3 ?c4 ?c5; (case kA => exact rfl); (case kF => exact rfl); (case kK => assumption); (case k1 => k_asm); (case k2 => k_asm); (case k3 => k_asm); (case k4 => k_asm); (case k6 => k_is); (case k7 => k_is); (case k8 => ktr_room); (case k9 => exact BindsTo.of_eq rfl); (case c5 => decide); (case kB => exact locs rfl); (case c2 => exact rfl); (case c3 => exact rfl); (case c4 => exact rfl); k_whole); (with_reducible rename Below _ _ _ _ => kB'; clear kB'); (with_reducible rename Fr _ _ _ _ => kB'; clear kB'); (with_reducible rename Top _ _ _ _ _ _ => kB'; clear kB'); (rename Frag.In _ _ => kB'; clear kB'); intro L' h' F' N' B' X' T'; (try dsimp only); (try k_fold))
  k_with "sa leave list" => ((show LeaveP _ _ _ _); refine leaveP_ (by assumption) ⟨_, _, _, rfl, (News.fresh (by assumption) (List.Mem.head _)), (News.get (by assumption) (List.Mem.head _)), ?_⟩)
  k_with "execs cons Assign cons" => ((with_reducible refine wpAny_execs_cons ?_); try dsimp only)
  k_with "sa len" => (first | with_reducible assumption | exact List.length_take_le _ _ | omega | l_fact | ((simp only [rangeKs_length, List.length_map, List.length_append, List.length_cons, List.length_nil] at *); omega))
  k_with "sa enter cells" => (refine wpAny_call ?_; k_dflt (refine' enter_pureC ?k1 ?k2 ?k3 ?k4 ?kA ?kF ?kK ?k6 ?k7 ?k8 ?k9 ?kB ?kD (by assumption) ?_ ?c2 ?c3 ?c4; (case kA => exact rfl); (case kF => exact rfl); (case kK => assumption); (case k1 => k_asm); (case k2 => k_asm); (case k3 => k_asm); (case k4 => k_asm); (case k6 => k_is); (case k7 => k_is); (case k8 => ktr_room); (case k9 => exact BindsTo.of_eq rfl); (case kB => exact rfl); (case kD => decide +kernel); (case c2 => exact rfl); (case c3 => exact rfl); (case c4 => exact rfl); k_whole); (with_reducible rename Below _ _ _ _ => kB'; clear kB'); (with_reducible rename Fr _ _ _ _ => kB'; clear kB'); (with_reducible rename Top _ _ _ _ _ _ => kB'; clear kB'); (rename Frag.In _ _ => kB'; clear kB'); intro L' h' tk' cells' F' N' Y' B' X' T'; k_cells Y'; (try simp only [List.cons_append, List.nil_append, List.append_nil] at N'); (try dsimp only); (try k_fold))
  k_with "sa ne" => (first | with_reducible assumption | (refine Ne.symm ?_; with_reducible assumption) | (refine Nat.ne_of_gt ?_; assumption) | (refine Nat.ne_of_lt ?_; assumption) | ((rename _ ∧ _ => h9); first | (refine Ne.symm ?_; simp only [h9, ne_eq, not_false_eq_true]; done) | (simp only [h9, ne_eq, not_false_eq_true]; done) | (refine Nat.ne_of_gt ?_; simp only [h9]; done) | (refine Nat.ne_of_lt ?_; simp only [h9]; done) | (clear h9; k_extra "sa ne")))
  k_with "call ref" => (k_here; (with_reducible show wpAny _ _ (PySem.call (Value.ref 55) [Value.ref _]) _ _ _); k_dflt (refine' use_li (mtrim_says (by is_list) (by l_ints) (by k_extra "sa len")) (by k_asm) (by k_asm) (by k_asm) (by k_asm) (by k_asm) (by first | exact rfl | assumption) (by ktr_room) (by ktr_units) ?_; k_whole); intro l' vs' n' h' tk' F' N' i' ne' st'; (try simp only [List.forall_mem_cons, List.not_mem_nil, false_implies, implies_true, and_true] at ne'); (try k_sweep); walk_say "MTRIM"; (rename IntsAre _ (trimF _) => hI9); (have hC9 := trimF_lenI hI9))
  k_with "call ref" => (k_here; (with_reducible show wpAny _ _ (PySem.call (Value.ref 69) [Value.ref _, Value.ref _, Value.int _ _]) _ _ _); k_dflt (refine' use_li (madd_says (by is_list) (by l_ints) (by k_extra "sa len") (by is_list) (by l_ints) (by k_extra "sa len") (by omega) (by omega)) (by k_asm) (by k_asm) (by k_asm) (by k_asm) (by k_asm) (by first | exact rfl | assumption) (by ktr_room) (by ktr_units) ?_; k_whole); intro l' vs' n' h' tk' F' N' i' ne' st'; (try simp only [List.forall_mem_cons, List.not_mem_nil, false_implies, implies_true, and_true] at ne'); (try k_sweep); walk_say "MADD")
  k_with "call ref" => (k_here; (with_reducible show wpAny _ _ (PySem.call (Value.ref 86) [Value.ref _, Value.int _ _, Value.int _ _]) _ _ _); k_dflt (refine' use_li (mscale_says (by is_list) (by l_ints) (by k_extra "sa len") (by omega) (by omega) (by omega) (by omega)) (by k_asm) (by k_asm) (by k_asm) (by k_asm) (by k_asm) (by first | exact rfl | assumption) (by ktr_room) (by ktr_units) ?_; k_whole); intro l' vs' n' h' tk' F' N' i' ne' st'; (try simp only [List.forall_mem_cons, List.not_mem_nil, false_implies, implies_true, and_true] at ne'); (try k_sweep); walk_say "MSCALE")
  k_with "call ref" => (k_here; (with_reducible show wpAny _ _ (PySem.call (Value.ref 93) [Value.ref _, Value.ref _, Value.int _ _]) _ _ _); k_dflt (refine' use_li (mmul_says (by is_list) (by l_ints) (by k_extra "sa len") (by assumption) (by is_list) (by l_ints) (by k_extra "sa len") (by omega) (by omega)) (by k_asm) (by k_asm) (by k_asm) (by k_asm) (by k_asm) (by first | exact rfl | assumption) (by ktr_room) (by ktr_units) ?_; k_whole); intro l' vs' n' h' tk' F' N' i' ne' st'; (try simp only [List.forall_mem_cons, List.not_mem_nil, false_implies, implies_true, and_true] at ne'); (try k_sweep); walk_say "MMUL")
  k_with "call ref" => (k_here; (with_reducible show wpAny _ _ (PySem.call (Value.ref 48) [Value.int _ _, Value.int _ _]) _ _ _); k_dflt (refine' use_int (inv_says (by first | assumption | decide) (by first | assumption | omega)) (by k_asm) (by k_asm) (by k_asm) (by k_asm) (by k_asm) (by first | exact rfl | assumption) (by ktr_room) (by ktr_units) ?_; k_whole); intro t1' h' tk' F' N' st'; (try k_sweep); walk_say "INV")
  trivial
noncomputable def divStep2 (at' x p : Int) (fd : List Int) (y : Int × Nat) : List Int := fd.set (at' + (y.2 : Int)).toNat ((fd.getD (at' + (y.2 : Int)).toNat 0 - x * y.1).fmod p)
noncomputable def divNum (bs : List Int) (p : Int) (fd : List Int) (at' : Int) : Int := (fd.getD (at' + (bs.length : Int) - 1).toNat 0 * 1).fmod p
noncomputable def divStep1 (bs : List Int) (p : Int) (fd : List Int) (at' : Int) : List Int := if divNum bs p fd at' = 0 then fd else bs.zipIdx.foldl (divStep2 at' (divNum bs p fd at') p) fd
noncomputable def divState (as bs : List Int) (p : Int) : Nat → List Int
  | 0 => as
  | i + 1 => divStep1 bs p (divState as bs p i) ((as.length : Int) - bs.length - i)
noncomputable def mrestF (as bs : List Int) (p : Int) : List Int := trimF ((divState as bs p (as.length + 1 - bs.length)).take (bs.length - 1))
theorem mrest_end {as bs l1 : List Int} {q : Int} (h : l1 = divState as bs q (as.length + 1 - bs.length)) : mrestF as bs q = trimF (l1.take ((bs.length : Int) - 1).toNat) := by
  subst h
  have e : ((bs.length : Int) - 1).toNat = bs.length - 1 := by rw [Int.pred_toNat, Int.toNat_natCast]
  rw [e]
  rfl
/-- a new pair, its second a new list of these ints -/
noncomputable def NewP2 (h₀ : Heap) (v : Value) (h : Heap) (ns : List Int) : Prop := ∃ l v1 l2 n vs c, v = .ref l ∧ h₀.get? l = none ∧ h.get? l = some ({ cls := .type "tuple", data := .seq #[v1, .ref l2] n } : Obj) ∧ h₀.get? l2 = none ∧ h.get? l2 = some (listOf vs.toArray c) ∧ IntsAre vs ns
section
variable {prog : Program} {w : World} {p : Program} {loose : List Str} {mean : ExcName → Option Value} {mg mb : Str → Option Value}
set_option maxHeartbeats 2000000 in
theorem mdivmod_says {s : Shared} {la lb : Addr} {va vb : List Value} {as bs : List Int} {q : Int} {tq : Tok} (hla : s.heap.IsList la va.toArray) (hia : IntsAre va as) (hna : as.length ≤ 20)
    (hlb : s.heap.IsList lb vb.toArray) (hib : IntsAre vb bs) (hnb : bs.length ≤ 10) (hnb1 : 1 ≤ bs.length) (hB : ∀ x ∈ bs, 0 ≤ x ∧ x ≤ 6) (hB1 : bs.getD (-1 + (bs.length : Int)).toNat 0 = 1) (hq : q = 2 ∨ q = 3 ∨ q = 5 ∨ q = 7) :
    Says prog w p loose mean mg mb 100 [.ref la, .ref lb, .int q tq] s 8 (fun v h' => NewP2 s.heap v h' (mrestF as bs q)) := by
  intro dp un gd cn cs a ccd cl outer A₀ base h₀ L m Q E B F X T hk hd hu hret
  have hq2 : 2 ≤ q := by omega
  have hq7 : q ≤ 7 := by omega
  walk_at "sa enter"
  k_with "pyIter ref" => ((rename IsRange _ _ _ _ _ _ _ _ => rgX); (rename IntsAre (List.flatten _) _ => i1'); with_unfolding_all refine' down_fold2m [Str.ofString "number", Str.ofString "spot", Str.ofString "other"] (fun i l1 l2 => l1 = divState as bs q i ∧ l1.length = as.length ∧ l2.length = as.length + 1 - bs.length) rfl rgX ?rs ?rn ?rF ?rN hia i1' ?rm1 ?rm2 ?rp ?turn ?done; (case rs => exact small_down (by first | decide | omega) (by first | decide | omega) (by first | decide | omega) (by first | decide | omega)); (case rn => exact (rangeSize_downNat _ _).trans (congrArg Nat.cast (show _ = as.length + 1 - bs.length by omega))); (case rF => assumption); (case rN => assumption); (case rm1 => k_mem); (case rm2 => k_mem); (case rp => exact ⟨rfl, rfl, by omega⟩))
  k_steps
  case turn =>
    unfold Hold
    intro i us1 c1 l1 us2 c2 l2 tt u1 h1 tk1 own1 hi' ho1 hu1 hu2 hP F1 N1
    obtain ⟨hP1, hP2, hP3⟩ := hP
    (try dsimp only)
    (try k_fold)
    k_steps
    · (rename PairSrcL _ _ _ _ _ _ _ _ _ _ _ _ => S2')
      with_unfolding_all refine' enum_fold (xi := Str.ofString "spot") [] (divStep2 ((as.length : Int) - bs.length - i) (divNum bs q l1 ((as.length : Int) - bs.length - i)) q) (fun fd => fd.length = as.length) (PairSrcL.at S2' _ rfl) ?ihu ?ihI ?iturn ?idone
      case ihu => assumption
      case ihI => assumption
      case iturn =>
        clear S2'
        intro j y tj ty us3 c3 fd2 u2 h2 tk2 own2 hj hu3 hI3 ho2 F2 N2
        (try simp only [List.cons_append, List.nil_append] at N2)
        have hj' := (ints_get_facts hj).1
        have hy' := hB y (mem_get hj)
        (try dsimp only at hI3)
        (try dsimp only)
        (try k_fold)
        k_steps
        refine foldEnd_ (by assumption) (by assumption) ?_ ?_ ?_
        · assumption
        · (try dsimp only); simp only [List.length_set, divStep2]; omega
        · intro z h1 h2 _
          simp [h1, h2]
      case idone =>
        clear S2'
        intro us3 c3 fd2 u2 h2 tk2 e2 hu3 hI3 F2 N2
        (try dsimp only)
        (try k_fold)
        k_steps
        refine fold2End_ (by assumption) N2 (fun _ h => h) hu3 (by assumption) ⟨?_, hI3, ?_⟩ ?_
        · rw [divState, divStep1, ← hP1, if_neg (by assumption), ← e2]
        · rw [List.length_set]; exact hP3
        · intro z h1 h3
          rw [List.contains_cons, List.contains_cons, List.contains_cons, List.contains_nil] at h3
          simp only [Bool.or_false, Bool.or_eq_false_iff, beq_eq_false_iff_ne, ne_eq] at h3
          simp [h1, h3]
    · refine fold2End_ (by assumption) (by assumption) (fun _ h => h) hu1 (by assumption) ⟨?_, hP2, ?_⟩ ?_
      · rw [divState, divStep1, ← hP1, if_pos (by assumption)]
      · rw [List.length_set]; exact hP3
      · intro z h1 h3
        rw [List.contains_cons, List.contains_cons, List.contains_cons, List.contains_nil] at h3
        simp only [Bool.or_false, Bool.or_eq_false_iff, beq_eq_false_iff_ne, ne_eq] at h3
        simp [h1, h3]
  case done =>
    unfold Hold
    intro us1 c1 l1 us2 c2 l2 u1 h1 tk1 hu1 hu2 hP F1 N1
    obtain ⟨hP1, hP2, hP3⟩ := hP
    (try dsimp only)
    (try k_fold)
    k_steps
    show LeaveP _ _ _ _
    (rename News _ _ _ _ => N')
    refine leaveP_ (by assumption) ⟨_, _, _, _, _, _, rfl, N'.fresh (List.Mem.head _), N'.get (List.Mem.head _), N'.fresh (List.Mem.tail _ (List.Mem.head _)), N'.get (List.Mem.tail _ (List.Mem.head _)), ?_⟩
    rw [mrest_end hP1]
    assumption
end

theorem anew_65_gfmul : True := by
  w_top off
  k_with_none
  k_with "sa enter" => (refine wpAny_call ?_; k_dflt (refine' enter_pure ?k1 ?k2 ?k3 ?k4 ?kA ?kF ?kK ?k6 ?k7 ?k8 ?k9 ?kB (by assumption) ?_ ?c2 ?c3 ?c4 ?c5; (case kA => exact rfl); (case kF => exact rfl); (case kK => assumption); (case k1 => k_asm); (case k2 => k_asm); (case k3 => k_asm); (case k4 => k_asm); (case k6 => k_is); (case k7 => k_is); (case k8 => ktr_room); (case k9 => exact BindsTo.of_eq rfl); (case c5 => decide); (case kB => exact locs rfl); (case c2 => exact rfl); (case c3 => exact rfl); (case c4 => exact rfl); k_whole); (with_reducible rename Below _ _ _ _ => kB'; clear kB'); (with_reducible rename Fr _ _ _ _ => kB'; clear kB'); (with_reducible rename Top _ _ _ _ _ _ => kB'; clear kB'); (rename Frag.In _ _ => kB'; clear kB'); intro L' h' F' N' B' X' T'; (try dsimp only); (try k_fold))
  k_with "sa leave list" => ((show LeaveP _ _ _ _); refine leaveP_ (by assumption) ⟨_, _, _, rfl, (News.fresh (by assumption) (List.Mem.head _)), (News.get (by assumption) (List.Mem.head _)), ?_⟩)
  k_with "execs cons Assign cons" => ((with_reducible refine wpAny_execs_cons ?_); try dsimp only)
  k_with "sa len" => (first | with_reducible assumption | exact List.length_take_le _ _ | omega | l_fact | ((simp only [rangeKs_length, List.length_map, List.length_append, List.length_cons, List.length_nil] at *); omega))
  k_with "sa enter cells" => (refine wpAny_call ?_; k_dflt (refine' enter_pureC ?k1 ?k2 ?k3 ?k4 ?kA ?kF ?kK ?k6 ?k7 ?k8 ?k9 ?kB ?kD (by assumption) ?_ ?c2 ?c3 ?c4; (case kA => exact rfl); (case kF => exact rfl); (case kK => assumption); (case k1 => k_asm); (case k2 => k_asm); (case k3 => k_asm); (case k4 => k_asm); (case k6 => k_is); (case k7 => k_is); (case k8 => ktr_room); (case k9 => exact BindsTo.of_eq rfl); (case kB => exact rfl); (case kD => decide +kernel); (case c2 => exact rfl); (case c3 => exact rfl); (case c4 => exact rfl); k_whole); (with_reducible rename Below _ _ _ _ => kB'; clear kB'); (with_reducible rename Fr _ _ _ _ => kB'; clear kB'); (with_reducible rename Top _ _ _ _ _ _ => kB'; clear kB'); (rename Frag.In _ _ => kB'; clear kB'); intro L' h' tk' cells' F' N' Y' B' X' T'; k_cells Y'; (try simp only [List.cons_append, List.nil_append, List.append_nil] at N'); (try dsimp only); (try k_fold))
  k_with "sa ne" => (first | with_reducible assumption | (refine Ne.symm ?_; with_reducible assumption) | (refine Nat.ne_of_gt ?_; assumption) | (refine Nat.ne_of_lt ?_; assumption) | ((rename _ ∧ _ => h9); first | (refine Ne.symm ?_; simp only [h9, ne_eq, not_false_eq_true]; done) | (simp only [h9, ne_eq, not_false_eq_true]; done) | (refine Nat.ne_of_gt ?_; simp only [h9]; done) | (refine Nat.ne_of_lt ?_; simp only [h9]; done) | (clear h9; k_extra "sa ne")))
  k_with "call ref" => (k_here; (with_reducible show wpAny _ _ (PySem.call (Value.ref 55) [Value.ref _]) _ _ _); k_dflt (refine' use_li (mtrim_says (by is_list) (by l_ints) (by k_extra "sa len")) (by k_asm) (by k_asm) (by k_asm) (by k_asm) (by k_asm) (by first | exact rfl | assumption) (by ktr_room) (by ktr_units) ?_; k_whole); intro l' vs' n' h' tk' F' N' i' ne' st'; (try simp only [List.forall_mem_cons, List.not_mem_nil, false_implies, implies_true, and_true] at ne'); (try k_sweep); walk_say "MTRIM"; (rename IntsAre _ (trimF _) => hI9); (have hC9 := trimF_lenI hI9))
  k_with "call ref" => (k_here; (with_reducible show wpAny _ _ (PySem.call (Value.ref 69) [Value.ref _, Value.ref _, Value.int _ _]) _ _ _); k_dflt (refine' use_li (madd_says (by is_list) (by l_ints) (by k_extra "sa len") (by is_list) (by l_ints) (by k_extra "sa len") (by omega) (by omega)) (by k_asm) (by k_asm) (by k_asm) (by k_asm) (by k_asm) (by first | exact rfl | assumption) (by ktr_room) (by ktr_units) ?_; k_whole); intro l' vs' n' h' tk' F' N' i' ne' st'; (try simp only [List.forall_mem_cons, List.not_mem_nil, false_implies, implies_true, and_true] at ne'); (try k_sweep); walk_say "MADD")
  k_with "call ref" => (k_here; (with_reducible show wpAny _ _ (PySem.call (Value.ref 86) [Value.ref _, Value.int _ _, Value.int _ _]) _ _ _); k_dflt (refine' use_li (mscale_says (by is_list) (by l_ints) (by k_extra "sa len") (by omega) (by omega) (by omega) (by omega)) (by k_asm) (by k_asm) (by k_asm) (by k_asm) (by k_asm) (by first | exact rfl | assumption) (by ktr_room) (by ktr_units) ?_; k_whole); intro l' vs' n' h' tk' F' N' i' ne' st'; (try simp only [List.forall_mem_cons, List.not_mem_nil, false_implies, implies_true, and_true] at ne'); (try k_sweep); walk_say "MSCALE")
  k_with "call ref" => (k_here; (with_reducible show wpAny _ _ (PySem.call (Value.ref 93) [Value.ref _, Value.ref _, Value.int _ _]) _ _ _); k_dflt (refine' use_li (mmul_says (by is_list) (by l_ints) (by k_extra "sa len") (by assumption) (by is_list) (by l_ints) (by k_extra "sa len") (by omega) (by omega)) (by k_asm) (by k_asm) (by k_asm) (by k_asm) (by k_asm) (by first | exact rfl | assumption) (by ktr_room) (by ktr_units) ?_; k_whole); intro l' vs' n' h' tk' F' N' i' ne' st'; (try simp only [List.forall_mem_cons, List.not_mem_nil, false_implies, implies_true, and_true] at ne'); (try k_sweep); walk_say "MMUL")
  k_with "call ref" => (k_here; (with_reducible show wpAny _ _ (PySem.call (Value.ref 48) [Value.int _ _, Value.int _ _]) _ _ _); k_dflt (refine' use_int (inv_says (by first | assumption | decide) (by first | assumption | omega)) (by k_asm) (by k_asm) (by k_asm) (by k_asm) (by k_asm) (by first | exact rfl | assumption) (by ktr_room) (by ktr_units) ?_; k_whole); intro t1' h' tk' F' N' st'; (try k_sweep); walk_say "INV")
  k_with "call ref" => (k_here; (with_reducible show wpAny _ _ (PySem.call (Value.ref 100) [Value.ref _, Value.ref _, Value.int _ _]) _ _ _); k_dflt (refine' use_p2 (mdivmod_says (by is_list) (by l_ints) (by k_extra "sa len") (by is_list) (by l_ints) (by k_extra "sa len") (by k_extra "sa len") (by assumption) (by assumption) (by assumption)) (by k_asm) (by k_asm) (by k_asm) (by k_asm) (by k_asm) (by first | exact rfl | assumption) (by ktr_room) (by ktr_units) ?_; k_whole); intro l' v1' l2' n' vs' c' h' tk' F' N' i' ne' ne2' st'; walk_say "MDIVMOD"; (try simp only [List.forall_mem_cons, List.not_mem_nil, false_implies, implies_true, and_true] at ne' ne2'); (try k_sweep))
  trivial
section
variable {prog : Program} {w : World} {A₀ : Around} {s : Shared} {base h₀ : Heap} {outer : List Env} {L : Addr} {m : Str → Option Value} {f : Addr} {vs : List Value} {need : Nat} {news : List (Addr × Obj)}
  {p : Program} {loose : List Str} {mean : ExcName → Option Value} {mg mb : Str → Option Value} {E : Value → Shared → Prop} {Q : Value → Shared → Prop}
theorem use_p2 {dp un : Nat} {gd : Option (List Code)} {cn : Str} {cs : Scope} {a : Addr} {ccd : Value} {cl : List (Str × Addr)} {ns : List Int}
    (S : Says prog w p loose mean mg mb f vs s need (fun v h' => NewP2 s.heap v h' ns))
    (B : Below A₀ base outer h₀) (F : Fr h₀ L s.heap m) (X : (hd.heap_39 w.params).In h₀) (N : News h₀ L s.heap news) (T : Top p loose mean mg mb h₀) (hk : cs.kind = .function) (hdp : dp + need < recursionLimit) (hu : un + 8 * need < cLine)
    (h : ∀ l v1 l2 n vs' c h' tk', Fr h₀ L h' m → News h₀ L h' ((l, ({ cls := .type "tuple", data := .seq #[v1, .ref l2] n } : Obj)) :: (l2, listOf vs'.toArray c) :: news) → IntsAre vs' ns → (∀ q ∈ news, @Ne Nat q.1 l) → (∀ q ∈ news, @Ne Nat q.1 l2) → s.heap.StaysIn h' → Q (.ref l) { s with heap := h', toks := tk' }) :
    wpAny (model prog w) (ktrTop dp un gd cn cs L a ccd cl outer) (call (.ref f) vs) Q E s := by
  refine S _ _ _ _ _ _ _ _ _ _ _ _ _ _ _ _ B F X T hk hdp hu fun v h' tk' st r => ?_
  obtain ⟨l, v1, l2, n, vs', c, rfl, h1, h2, h3, h4, hi⟩ := r
  obtain ⟨N1, ne1⟩ := news_add F N st h1 h2
  obtain ⟨N2, ne2⟩ := news_add F N st h3 h4
  refine h l v1 l2 n vs' c h' tk' (news_stays F N st).1 (fun p hp => ?_) hi ne1 ne2 st
  rcases List.mem_cons.mp hp with rfl | hp
  · exact N1 _ (.head _)
  · exact N2 _ hp
end
/-- what a modulus is -/
structure IsMod (bs : List Int) (q : Int) : Prop where
  many : bs.length ≤ 5
  some' : 1 ≤ bs.length
  small : ∀ x ∈ bs, 0 ≤ x ∧ x ≤ 6
  lead : bs.getD (-1 + (bs.length : Int)).toNat 0 = 1
  prime : q = 2 ∨ q = 3 ∨ q = 5 ∨ q = 7
section
variable {prog : Program} {w : World} {p : Program} {loose : List Str} {mean : ExcName → Option Value} {mg mb : Str → Option Value}
set_option maxHeartbeats 2000000 in
theorem mrest_says {s : Shared} {la lb : Addr} {va vb : List Value} {as bs : List Int} {q : Int} {tq : Tok} (hla : s.heap.IsList la va.toArray) (hia : IntsAre va as) (hna : as.length ≤ 20)
    (hlb : s.heap.IsList lb vb.toArray) (hib : IntsAre vb bs) (hM : IsMod bs q) :
    Says prog w p loose mean mg mb 107 [.ref la, .ref lb, .int q tq] s 10 (fun v h' => NewLI s.heap v h' (mrestF as bs q)) := by
  intro dp un gd cn cs a ccd cl outer A₀ base h₀ L m Q E B F X T hk hd hu hret
  obtain ⟨hM1, hM2, hM3, hM4, hM5⟩ := hM
  walk_at "sa enter"
  k_steps
  show LeaveP _ _ _ _
  (rename News _ _ _ _ => N')
  exact leaveP_ (by assumption) ⟨_, _, _, rfl, N'.fresh (List.Mem.tail _ (List.Mem.head _)), N'.get (List.Mem.tail _ (List.Mem.head _)), by assumption⟩
end
/-! sizes of what the plain functions give -/
noncomputable def Small (ns : List Int) : Prop := ∀ x ∈ ns, 0 ≤ x ∧ x ≤ 6
theorem fmod_small {x q : Int} (h : 2 ≤ q) (h' : q ≤ 7) : 0 ≤ x.fmod q ∧ x.fmod q ≤ 6 := by
  rw [Int.fmod_eq_emod_of_nonneg x (by omega)]
  have := Int.emod_nonneg x (show q ≠ 0 by omega)
  have := Int.emod_lt_of_pos x (show 0 < q by omega)
  omega
theorem small_nil : Small [] := fun _ h => nomatch h
theorem small_trim : ∀ {ns : List Int}, Small ns → Small (trimF ns)
  | [], h => h
  | x :: r, h => by
    have ih := small_trim (ns := r) fun y hy => h y (.tail _ hy)
    have hx := h x (.head _)
    unfold trimF
    split
    · split
      · exact small_nil
      · intro y hy; rw [List.mem_singleton.mp hy]; exact hx
    · rename_i e
      rw [e] at ih
      intro y hy
      rcases List.mem_cons.mp hy with rfl | hy
      · exact hx
      · exact ih y hy
theorem small_set {ns : List Int} {i : Nat} {x : Int} (h : Small ns) (hx : 0 ≤ x ∧ x ≤ 6) : Small (ns.set i x) := fun y hy => by
  rcases List.mem_or_eq_of_mem_set hy with h1 | h1
  · exact h y h1
  · rw [h1]; exact hx
theorem small_take {ns : List Int} {i : Nat} (h : Small ns) : Small (ns.take i) := fun y hy => h y (List.mem_of_mem_take hy)
theorem small_foldl {α : Type} {f : List Int → α → List Int} (hf : ∀ fd a, Small fd → Small (f fd a)) : ∀ (as : List α) (fd : List Int), Small fd → Small (as.foldl f fd)
  | [], _, h => h
  | a :: r, fd, h => small_foldl hf r (f fd a) (hf fd a h)
theorem len_foldl {α : Type} {f : List Int → α → List Int} (hf : ∀ fd a, (f fd a).length = fd.length) : ∀ (as : List α) (fd : List Int), (as.foldl f fd).length = fd.length
  | [], _ => rfl
  | a :: r, fd => (len_foldl hf r (f fd a)).trans (hf fd a)
theorem mulStep1_length (bs : List Int) (p : Int) (fd : List Int) (x : Int × Nat) : (mulStep1 bs p fd x).length = fd.length := by
  unfold mulStep1
  split
  · rfl
  · exact len_foldl (fun fd a => by simp [mulStep2]) _ _
theorem mmulF_length {as bs : List Int} {q : Int} : (mmulF as bs q).length ≤ as.length + bs.length := by
  unfold mmulF
  split
  · exact Nat.zero_le _
  · refine Nat.le_trans (trimF_length _) ?_
    rw [len_foldl (mulStep1_length bs q), List.length_replicate]
    omega
theorem mmulF_small {as bs : List Int} {q : Int} (h : 2 ≤ q) (h' : q ≤ 7) : Small (mmulF as bs q) := by
  unfold mmulF
  split
  · exact small_nil
  · refine small_trim (small_foldl (fun fd a hf => ?_) _ _ ?_)
    · unfold mulStep1
      split
      · exact hf
      · exact small_foldl (fun fd a hf => small_set hf (fmod_small h h')) _ _ hf
    · intro y hy
      rw [(List.mem_replicate.mp hy).2]
      decide
theorem divState_small {as bs : List Int} {q : Int} (h : 2 ≤ q) (h' : q ≤ 7) (ha : Small as) : ∀ n, Small (divState as bs q n)
  | 0 => ha
  | n + 1 => by
    have ih := divState_small (bs := bs) h h' ha n
    unfold divState divStep1
    split
    · exact ih
    · exact small_foldl (fun fd a hf => small_set hf (fmod_small h h')) _ _ ih
theorem mrestF_small {as bs : List Int} {q : Int} (h : 2 ≤ q) (h' : q ≤ 7) (ha : Small as) : Small (mrestF as bs q) := small_trim (small_take (divState_small h h' ha _))
theorem mrestF_length {as bs : List Int} {q : Int} : (mrestF as bs q).length ≤ bs.length - 1 := by
  unfold mrestF
  refine Nat.le_trans (trimF_length _) ?_
  rw [List.length_take]
  omega
theorem maddF_small {as bs : List Int} {q : Int} (h : 2 ≤ q) (h' : q ≤ 7) : Small (maddF as bs q) := by
  unfold maddF addF
  refine small_trim fun y hy => ?_
  obtain ⟨i, _, rfl⟩ := List.mem_map.mp hy
  exact fmod_small h h'
theorem maddF_length {as bs : List Int} {q : Int} : (maddF as bs q).length ≤ max as.length bs.length := by
  unfold maddF addF
  refine Nat.le_trans (trimF_length _) ?_
  simp
theorem mscaleF_small {as : List Int} {x q : Int} (h : 2 ≤ q) (h' : q ≤ 7) : Small (mscaleF as x q) := by
  unfold mscaleF
  refine small_trim fun y hy => ?_
  obtain ⟨i, _, rfl⟩ := List.mem_map.mp hy
  exact fmod_small h h'
theorem mscaleF_length {as : List Int} {x q : Int} : (mscaleF as x q).length ≤ as.length := by
  unfold mscaleF
  refine Nat.le_trans (trimF_length _) ?_
  simp
theorem mmulF_lenI {vs as bs} {q : Int} (_ : IntsAre vs (mmulF as bs q)) : (mmulF as bs q).length ≤ as.length + bs.length := mmulF_length
noncomputable def gmulF (as bs ms : List Int) (q : Int) : List Int := mrestF (mmulF as bs q) ms q
section
variable {prog : Program} {w : World} {p : Program} {loose : List Str} {mean : ExcName → Option Value} {mg mb : Str → Option Value}
set_option maxHeartbeats 2000000 in
theorem gmul_says {s : Shared} {la lb lm : Addr} {va vb vm : List Value} {as bs ms : List Int} {q : Int} {tq : Tok} (hla : s.heap.IsList la va.toArray) (hia : IntsAre va as) (hna : as.length ≤ 10) (hA : Small as)
    (hlb : s.heap.IsList lb vb.toArray) (hib : IntsAre vb bs) (hnb : bs.length ≤ 10) (hlm : s.heap.IsList lm vm.toArray) (him : IntsAre vm ms) (hM : IsMod ms q) :
    Says prog w p loose mean mg mb 147 [.ref la, .ref lb, .ref lm, .int q tq] s 13 (fun v h' => NewLI s.heap v h' (gmulF as bs ms q)) := by
  intro dp un gd cn cs a ccd cl outer A₀ base h₀ L m Q E B F X T hk hd hu hret
  k_with "call ref" => (k_here; (with_reducible show wpAny _ _ (PySem.call (Value.ref 107) [Value.ref _, Value.ref _, Value.int _ _]) _ _ _); k_dflt (refine' use_li (mrest_says (by is_list) (by l_ints) (by ((have hC9 := mmulF_lenI (by assumption)); omega)) (by is_list) (by l_ints) (by assumption)) (by k_asm) (by k_asm) (by k_asm) (by k_asm) (by k_asm) (by first | exact rfl | assumption) (by ktr_room) (by ktr_units) ?_; k_whole); intro l' vs' n' h' tk' F' N' i' ne' st'; (try simp only [List.forall_mem_cons, List.not_mem_nil, false_implies, implies_true, and_true] at ne'); (try k_sweep); walk_say "MREST")
  have hM5 := hM.prime
  have hA' : ∀ x ∈ as, 0 ≤ x ∧ x ≤ 6 := hA
  walk_at "sa enter"
  k_steps
  walk_at "sa leave list"
  assumption
end
theorem gmulF_lenI {vs : List Value} {as bs ms : List Int} {q : Int} (_ : IntsAre vs (gmulF as bs ms q)) : (gmulF as bs ms q).length ≤ ms.length - 1 := mrestF_length
theorem mscaleF_lenI {vs : List Value} {as : List Int} {x q : Int} (_ : IntsAre vs (mscaleF as x q)) : (mscaleF as x q).length ≤ as.length := mscaleF_length
theorem maddF_lenI {vs : List Value} {as bs : List Int} {q : Int} (_ : IntsAre vs (maddF as bs q)) : (maddF as bs q).length ≤ max as.length bs.length := maddF_length

theorem anew_70_iter : True := by
  w_top off
  k_with_none
  k_with "sa enter" => (refine wpAny_call ?_; k_dflt (refine' enter_pure ?k1 ?k2 ?k3 ?k4 ?kA ?kF ?kK ?k6 ?k7 ?k8 ?k9 ?kB (by assumption) ?_ ?c2 ?c3 ?c4 ?c5; (case kA => exact rfl); (case kF => exact rfl); (case kK => assumption); (case k1 => k_asm); (case k2 => k_asm); (case k3 => k_asm); (case k4 => k_asm); (case k6 => k_is); (case k7 => k_is); (case k8 => ktr_room); (case k9 => exact BindsTo.of_eq rfl); (case c5 => decide); (case kB => exact locs rfl); (case c2 => exact rfl); (case c3 => exact rfl); (case c4 => exact rfl); k_whole); (with_reducible rename Below _ _ _ _ => kB'; clear kB'); (with_reducible rename Fr _ _ _ _ => kB'; clear kB'); (with_reducible rename Top _ _ _ _ _ _ => kB'; clear kB'); (rename Frag.In _ _ => kB'; clear kB'); intro L' h' F' N' B' X' T'; (try dsimp only); (try k_fold))
  k_with "sa leave list" => ((show LeaveP _ _ _ _); refine leaveP_ (by assumption) ⟨_, _, _, rfl, (News.fresh (by assumption) (List.Mem.head _)), (News.get (by assumption) (List.Mem.head _)), ?_⟩)
  k_with "execs cons Assign cons" => ((with_reducible refine wpAny_execs_cons ?_); try dsimp only)
  k_with "sa len" => (first | with_reducible assumption | exact List.length_take_le _ _ | omega | l_fact | ((simp only [rangeKs_length, List.length_map, List.length_append, List.length_cons, List.length_nil] at *); omega))
  k_with "sa enter cells" => (refine wpAny_call ?_; k_dflt (refine' enter_pureC ?k1 ?k2 ?k3 ?k4 ?kA ?kF ?kK ?k6 ?k7 ?k8 ?k9 ?kB ?kD (by assumption) ?_ ?c2 ?c3 ?c4; (case kA => exact rfl); (case kF => exact rfl); (case kK => assumption); (case k1 => k_asm); (case k2 => k_asm); (case k3 => k_asm); (case k4 => k_asm); (case k6 => k_is); (case k7 => k_is); (case k8 => ktr_room); (case k9 => exact BindsTo.of_eq rfl); (case kB => exact rfl); (case kD => decide +kernel); (case c2 => exact rfl); (case c3 => exact rfl); (case c4 => exact rfl); k_whole); (with_reducible rename Below _ _ _ _ => kB'; clear kB'); (with_reducible rename Fr _ _ _ _ => kB'; clear kB'); (with_reducible rename Top _ _ _ _ _ _ => kB'; clear kB'); (rename Frag.In _ _ => kB'; clear kB'); intro L' h' tk' cells' F' N' Y' B' X' T'; k_cells Y'; (try simp only [List.cons_append, List.nil_append, List.append_nil] at N'); (try dsimp only); (try k_fold))
  k_with "sa ne" => (first | with_reducible assumption | (refine Ne.symm ?_; with_reducible assumption) | (refine Nat.ne_of_gt ?_; assumption) | (refine Nat.ne_of_lt ?_; assumption) | ((rename _ ∧ _ => h9); first | (refine Ne.symm ?_; simp only [h9, ne_eq, not_false_eq_true]; done) | (simp only [h9, ne_eq, not_false_eq_true]; done) | (refine Nat.ne_of_gt ?_; simp only [h9]; done) | (refine Nat.ne_of_lt ?_; simp only [h9]; done) | (clear h9; k_extra "sa ne")))
  k_with "call ref" => (k_here; (with_reducible show wpAny _ _ (PySem.call (Value.ref 55) [Value.ref _]) _ _ _); k_dflt (refine' use_li (mtrim_says (by is_list) (by l_ints) (by k_extra "sa len")) (by k_asm) (by k_asm) (by k_asm) (by k_asm) (by k_asm) (by first | exact rfl | assumption) (by ktr_room) (by ktr_units) ?_; k_whole); intro l' vs' n' h' tk' F' N' i' ne' st'; (try simp only [List.forall_mem_cons, List.not_mem_nil, false_implies, implies_true, and_true] at ne'); (try k_sweep); walk_say "MTRIM"; (rename IntsAre _ (trimF _) => hI9); (have hC9 := trimF_lenI hI9))
  k_with "call ref" => (k_here; (with_reducible show wpAny _ _ (PySem.call (Value.ref 69) [Value.ref _, Value.ref _, Value.int _ _]) _ _ _); k_dflt (refine' use_li (madd_says (by is_list) (by l_ints) (by k_extra "sa len") (by is_list) (by l_ints) (by k_extra "sa len") (by omega) (by omega)) (by k_asm) (by k_asm) (by k_asm) (by k_asm) (by k_asm) (by first | exact rfl | assumption) (by ktr_room) (by ktr_units) ?_; k_whole); intro l' vs' n' h' tk' F' N' i' ne' st'; (try simp only [List.forall_mem_cons, List.not_mem_nil, false_implies, implies_true, and_true] at ne'); (try k_sweep); walk_say "MADD")
  k_with "call ref" => (k_here; (with_reducible show wpAny _ _ (PySem.call (Value.ref 86) [Value.ref _, Value.int _ _, Value.int _ _]) _ _ _); k_dflt (refine' use_li (mscale_says (by is_list) (by l_ints) (by k_extra "sa len") (by omega) (by omega) (by omega) (by omega)) (by k_asm) (by k_asm) (by k_asm) (by k_asm) (by k_asm) (by first | exact rfl | assumption) (by ktr_room) (by ktr_units) ?_; k_whole); intro l' vs' n' h' tk' F' N' i' ne' st'; (try simp only [List.forall_mem_cons, List.not_mem_nil, false_implies, implies_true, and_true] at ne'); (try k_sweep); walk_say "MSCALE")
  k_with "call ref" => (k_here; (with_reducible show wpAny _ _ (PySem.call (Value.ref 93) [Value.ref _, Value.ref _, Value.int _ _]) _ _ _); k_dflt (refine' use_li (mmul_says (by is_list) (by l_ints) (by k_extra "sa len") (by assumption) (by is_list) (by l_ints) (by k_extra "sa len") (by omega) (by omega)) (by k_asm) (by k_asm) (by k_asm) (by k_asm) (by k_asm) (by first | exact rfl | assumption) (by ktr_room) (by ktr_units) ?_; k_whole); intro l' vs' n' h' tk' F' N' i' ne' st'; (try simp only [List.forall_mem_cons, List.not_mem_nil, false_implies, implies_true, and_true] at ne'); (try k_sweep); walk_say "MMUL")
  k_with "call ref" => (k_here; (with_reducible show wpAny _ _ (PySem.call (Value.ref 48) [Value.int _ _, Value.int _ _]) _ _ _); k_dflt (refine' use_int (inv_says (by first | assumption | decide) (by first | assumption | omega)) (by k_asm) (by k_asm) (by k_asm) (by k_asm) (by k_asm) (by first | exact rfl | assumption) (by ktr_room) (by ktr_units) ?_; k_whole); intro t1' h' tk' F' N' st'; (try k_sweep); walk_say "INV")
  k_with "call ref" => (k_here; (with_reducible show wpAny _ _ (PySem.call (Value.ref 100) [Value.ref _, Value.ref _, Value.int _ _]) _ _ _); k_dflt (refine' use_p2 (mdivmod_says (by is_list) (by l_ints) (by k_extra "sa len") (by is_list) (by l_ints) (by k_extra "sa len") (by k_extra "sa len") (by assumption) (by assumption) (by assumption)) (by k_asm) (by k_asm) (by k_asm) (by k_asm) (by k_asm) (by first | exact rfl | assumption) (by ktr_room) (by ktr_units) ?_; k_whole); intro l' v1' l2' n' vs' c' h' tk' F' N' i' ne' ne2' st'; walk_say "MDIVMOD"; (try simp only [List.forall_mem_cons, List.not_mem_nil, false_implies, implies_true, and_true] at ne' ne2'); (try k_sweep))
  k_with "call ref" => (k_here; (with_reducible show wpAny _ _ (PySem.call (Value.ref 147) [Value.ref _, Value.ref _, Value.ref _, Value.int _ _]) _ _ _); k_dflt (refine' use_li (gmul_says (by is_list) (by l_ints) (by k_extra "sa len") (by first | assumption | exact small_nil) (by is_list) (by l_ints) (by k_extra "sa len") (by is_list) (by assumption) (by assumption)) (by k_asm) (by k_asm) (by k_asm) (by k_asm) (by k_asm) (by first | exact rfl | assumption) (by ktr_room) (by ktr_units) ?_; k_whole); intro l' vs' n' h' tk' F' N' i' ne' st'; (try simp only [List.forall_mem_cons, List.not_mem_nil, false_implies, implies_true, and_true] at ne'); (try k_sweep); walk_say "GMUL"; (rename IntsAre _ (gmulF _ _ _ _) => hI9); (have hC9 := gmulF_lenI hI9))
  k_with "call ref" => (k_here; (with_reducible show wpAny _ _ (PySem.call (Value.ref 86) [Value.ref _, Value.int _ _, Value.int _ _]) _ _ _); k_dflt (refine' use_li (mscale_says (by is_list) (by l_ints) (by k_extra "sa len") (by omega) (by omega) (by omega) (by omega)) (by k_asm) (by k_asm) (by k_asm) (by k_asm) (by k_asm) (by first | exact rfl | assumption) (by ktr_room) (by ktr_units) ?_; k_whole); intro l' vs' n' h' tk' F' N' i' ne' st'; (try simp only [List.forall_mem_cons, List.not_mem_nil, false_implies, implies_true, and_true] at ne'); (try k_sweep); walk_say "MSCALE2"; (rename IntsAre _ (mscaleF _ _ _) => hI9); (have hC9 := mscaleF_lenI hI9); (try simp only [List.length_cons, List.length_nil] at hC9))
  k_with "call ref" => (k_here; (with_reducible show wpAny _ _ (PySem.call (Value.ref 69) [Value.ref _, Value.ref _, Value.int _ _]) _ _ _); k_dflt (refine' use_li (madd_says (by is_list) (by l_ints) (by k_extra "sa len") (by is_list) (by l_ints) (by k_extra "sa len") (by omega) (by omega)) (by k_asm) (by k_asm) (by k_asm) (by k_asm) (by k_asm) (by first | exact rfl | assumption) (by ktr_room) (by ktr_units) ?_; k_whole); intro l' vs' n' h' tk' F' N' i' ne' st'; (try simp only [List.forall_mem_cons, List.not_mem_nil, false_implies, implies_true, and_true] at ne'); (try k_sweep); walk_say "MADD2"; (rename IntsAre _ (maddF _ _ _) => hI9); (have hC9 := maddF_lenI hI9))
  trivial
/-! a loop over any list whose turns make new things alone -/
noncomputable def AnyEnd (h₀ : Heap) (L : Addr) (own : List (Addr × Obj)) (J : (Str → Option Value) → List (Addr × Obj) → Prop) (s : Shared) (f : Flow) (s₂ : Shared) : Prop :=
  (f = .next ∨ f = .cont) ∧ ∃ h' tk m' nx news', s₂ = { s with heap := h', toks := tk } ∧ Fr h₀ L h' m' ∧ News h₀ L h' news' ∧ (∀ p ∈ nx, p ∈ news') ∧ (∀ p ∈ own, p ∈ news') ∧ (∀ p ∈ nx, ∀ q ∈ own, p.1 ≠ q.1) ∧ J m' nx
theorem anyEnd_ {h₀ : Heap} {L : Addr} {own news' : List (Addr × Obj)} {J : (Str → Option Value) → List (Addr × Obj) → Prop} {s : Shared} {h' : Heap} {tk : Nat} {m' : Str → Option Value} (nx : List (Addr × Obj))
    (F : Fr h₀ L h' m') (N : News h₀ L h' news') (h1 : ∀ p ∈ nx, p ∈ news') (h2 : ∀ p ∈ own, p ∈ news') (h3 : ∀ p ∈ nx, ∀ q ∈ own, p.1 ≠ q.1) (hJ : J m' nx) : AnyEnd h₀ L own J s .next { s with heap := h', toks := tk } :=
  ⟨.inl rfl, h', tk, m', nx, news', rfl, F, N, h1, h2, h3, hJ⟩
section
variable {prog : Program} {w : World} {A : Around} {E : Value → Shared → Prop} {s : Shared} {env : Env} {h₀ : Heap} {x : Str} {body : List Stmt} {Q : Flow → Shared → Prop}
theorem iter_any {l : Addr} {items : List Value} {m₀ : Str → Option Value} {news nx₀ : List (Addr × Obj)} (J : Nat → (Str → Option Value) → List (Addr × Obj) → Prop)
    (hh : A.handled = none) (hl : LCg.SrcAt h₀ l items.toArray news) (F : Fr h₀ env.locals s.heap m₀) (N : News h₀ env.locals s.heap news) (hsub : ∀ p ∈ nx₀, p ∈ news) (hj : J 0 m₀ nx₀)
    (turn : Hold (∀ (i : Nat) v m₁ nx h tk own, items[i]? = some v → J i m₁ nx → Fr h₀ env.locals h (fun y => if y = x then some v else m₁ y) → News h₀ env.locals h (nx ++ own) →
      wpAny (model prog w) A (execs body env) (AnyEnd h₀ env.locals own (J (i + 1)) { s with heap := h, toks := tk }) E { s with heap := h, toks := tk }))
    (done : Hold (∀ m₁ nx h tk, J items.length m₁ nx → Fr h₀ env.locals h m₁ → News h₀ env.locals h nx → Q .next { s with heap := h, toks := tk })) :
    wpAny (model prog w) A (pyIter (.ref l)) (fun it s₂ => LoopAtV prog w A h₀ env x body Q E it s₂) E s := by
  have hls : s.heap.IsList l items.toArray := hl.list F.keep N
  obtain ⟨ol, hol, _⟩ := id hls
  have hne : l ≠ s.heap.objs.size := Nat.ne_of_lt (Heap.lt_size hol)
  have hlL : env.locals ≠ l := by
    rcases hl with ⟨o, e, _⟩ | ⟨o, hm, _⟩
    · exact Nat.ne_of_gt (Nat.lt_of_lt_of_le (Heap.lt_size e) F.above)
    · exact fun e => (N _ hm).2.1 e.symm
  have N₀ : News h₀ env.locals s.heap nx₀ := fun p hp => N p (hsub p hp)
  refine wpAny_pyIter_list hls ?_
  have W := Walks.list (prog := prog) (w := w) hh s.heap.objs.size l hne items.toArray
  rw [List.size_toArray] at W
  refine ⟨_, _, _, items.length, _, _, m₀, nx₀, J, rfl, W, ?_, ?_, ?_, ⟨⟨_, Heap.get?_push_size _ rfl, rfl, rfl⟩, hls.at fun o e => Heap.get?_push_of_some _ e⟩, F.push _, (fun p hp => ⟨Heap.get?_push_of_some _ (N₀ p hp).1, (N₀ p hp).2⟩), hj, ?_, ?_⟩
  · intro hm
    rcases List.mem_cons.mp hm with e | hm
    · exact absurd F.ns.lt (e ▸ Nat.lt_irrefl _)
    · exact hlL (List.mem_singleton.mp hm)
  · intro b hb
    rw [List.mem_singleton.mp hb]
    exact next_is_new F
  · intro p hp hI
    exact absurd (Heap.lt_size (N₀ p hp).1) ((List.mem_singleton.mp hI) ▸ Nat.lt_irrefl _)
  · rintro i v m₁ news₁ s₁ own ⟨hh', tk', rfl⟩ hin hP hJ hoff hown _ hmem hst F₁ N₁
    obtain ⟨⟨oi, hoi, _⟩, _⟩ := hst
    have hI : (s.heap.objs.size, oi) ∈ own := hmem _ (.head _) (next_is_new F) oi hoi
    have N₂ : News h₀ env.locals hh' (news₁ ++ own) := fun p hp => N₁ p ((List.mem_append.mp hp).elim (fun h => List.mem_append.mpr (.inr h)) fun h => List.mem_append.mpr (.inl h))
    refine wpAny_mono (turn i v m₁ news₁ hh' tk' own (by simpa using hP) hJ F₁ N₂) (fun f s₂ p => ?_) fun _ _ e => e
    obtain ⟨hf, h', tk, m', nx, news', e, F', N', h1, h2, h3, hm⟩ := p
    have fin : LoopStepU h₀ env.locals [s.heap.objs.size] own (J (i + 1)) { s with heap := hh', toks := tk' } .next s₂ :=
      ⟨rfl, h', tk, m', nx, e, F', fun p hp => N' p ((List.mem_append.mp hp).elim (h2 p) (h1 p)), fun p hp hq => h3 p hp _ hI (List.mem_singleton.mp hq), hm⟩
    rcases hf with rfl | rfl
    · exact .next fin
    · exact .cont fin
  · rintro h' tk m' news' F' N' _ hJ
    exact done m' news' h' tk hJ F' N'
end

theorem anew_71_iter1 : True := by
  w_top off
  k_with_none
  k_with "sa enter" => (refine wpAny_call ?_; k_dflt (refine' enter_pure ?k1 ?k2 ?k3 ?k4 ?kA ?kF ?kK ?k6 ?k7 ?k8 ?k9 ?kB (by assumption) ?_ ?c2 ?c3 ?c4 ?c5; (case kA => exact rfl); (case kF => exact rfl); (case kK => assumption); (case k1 => k_asm); (case k2 => k_asm); (case k3 => k_asm); (case k4 => k_asm); (case k6 => k_is); (case k7 => k_is); (case k8 => ktr_room); (case k9 => exact BindsTo.of_eq rfl); (case c5 => decide); (case kB => exact locs rfl); (case c2 => exact rfl); (case c3 => exact rfl); (case c4 => exact rfl); k_whole); (with_reducible rename Below _ _ _ _ => kB'; clear kB'); (with_reducible rename Fr _ _ _ _ => kB'; clear kB'); (with_reducible rename Top _ _ _ _ _ _ => kB'; clear kB'); (rename Frag.In _ _ => kB'; clear kB'); intro L' h' F' N' B' X' T'; (try dsimp only); (try k_fold))
  k_with "sa leave list" => ((show LeaveP _ _ _ _); refine leaveP_ (by assumption) ⟨_, _, _, rfl, (News.fresh (by assumption) (List.Mem.head _)), (News.get (by assumption) (List.Mem.head _)), ?_⟩)
  k_with "execs cons Assign cons" => ((with_reducible refine wpAny_execs_cons ?_); try dsimp only)
  k_with "sa len" => (first | with_reducible assumption | exact List.length_take_le _ _ | omega | l_fact | ((simp only [rangeKs_length, List.length_map, List.length_append, List.length_cons, List.length_nil] at *); omega))
  k_with "sa enter cells" => (refine wpAny_call ?_; k_dflt (refine' enter_pureC ?k1 ?k2 ?k3 ?k4 ?kA ?kF ?kK ?k6 ?k7 ?k8 ?k9 ?kB ?kD (by assumption) ?_ ?c2 ?c3 ?c4; (case kA => exact rfl); (case kF => exact rfl); (case kK => assumption); (case k1 => k_asm); (case k2 => k_asm); (case k3 => k_asm); (case k4 => k_asm); (case k6 => k_is); (case k7 => k_is); (case k8 => ktr_room); (case k9 => exact BindsTo.of_eq rfl); (case kB => exact rfl); (case kD => decide +kernel); (case c2 => exact rfl); (case c3 => exact rfl); (case c4 => exact rfl); k_whole); (with_reducible rename Below _ _ _ _ => kB'; clear kB'); (with_reducible rename Fr _ _ _ _ => kB'; clear kB'); (with_reducible rename Top _ _ _ _ _ _ => kB'; clear kB'); (rename Frag.In _ _ => kB'; clear kB'); intro L' h' tk' cells' F' N' Y' B' X' T'; k_cells Y'; (try simp only [List.cons_append, List.nil_append, List.append_nil] at N'); (try dsimp only); (try k_fold))
  k_with "sa ne" => (first | with_reducible assumption | (refine Ne.symm ?_; with_reducible assumption) | (refine Nat.ne_of_gt ?_; assumption) | (refine Nat.ne_of_lt ?_; assumption) | ((rename _ ∧ _ => h9); first | (refine Ne.symm ?_; simp only [h9, ne_eq, not_false_eq_true]; done) | (simp only [h9, ne_eq, not_false_eq_true]; done) | (refine Nat.ne_of_gt ?_; simp only [h9]; done) | (refine Nat.ne_of_lt ?_; simp only [h9]; done) | (clear h9; k_extra "sa ne")))
  k_with "call ref" => (k_here; (with_reducible show wpAny _ _ (PySem.call (Value.ref 55) [Value.ref _]) _ _ _); k_dflt (refine' use_li (mtrim_says (by is_list) (by l_ints) (by k_extra "sa len")) (by k_asm) (by k_asm) (by k_asm) (by k_asm) (by k_asm) (by first | exact rfl | assumption) (by ktr_room) (by ktr_units) ?_; k_whole); intro l' vs' n' h' tk' F' N' i' ne' st'; (try simp only [List.forall_mem_cons, List.not_mem_nil, false_implies, implies_true, and_true] at ne'); (try k_sweep); walk_say "MTRIM"; (rename IntsAre _ (trimF _) => hI9); (have hC9 := trimF_lenI hI9))
  k_with "call ref" => (k_here; (with_reducible show wpAny _ _ (PySem.call (Value.ref 69) [Value.ref _, Value.ref _, Value.int _ _]) _ _ _); k_dflt (refine' use_li (madd_says (by is_list) (by l_ints) (by k_extra "sa len") (by is_list) (by l_ints) (by k_extra "sa len") (by omega) (by omega)) (by k_asm) (by k_asm) (by k_asm) (by k_asm) (by k_asm) (by first | exact rfl | assumption) (by ktr_room) (by ktr_units) ?_; k_whole); intro l' vs' n' h' tk' F' N' i' ne' st'; (try simp only [List.forall_mem_cons, List.not_mem_nil, false_implies, implies_true, and_true] at ne'); (try k_sweep); walk_say "MADD")
  k_with "call ref" => (k_here; (with_reducible show wpAny _ _ (PySem.call (Value.ref 86) [Value.ref _, Value.int _ _, Value.int _ _]) _ _ _); k_dflt (refine' use_li (mscale_says (by is_list) (by l_ints) (by k_extra "sa len") (by omega) (by omega) (by omega) (by omega)) (by k_asm) (by k_asm) (by k_asm) (by k_asm) (by k_asm) (by first | exact rfl | assumption) (by ktr_room) (by ktr_units) ?_; k_whole); intro l' vs' n' h' tk' F' N' i' ne' st'; (try simp only [List.forall_mem_cons, List.not_mem_nil, false_implies, implies_true, and_true] at ne'); (try k_sweep); walk_say "MSCALE")
  k_with "call ref" => (k_here; (with_reducible show wpAny _ _ (PySem.call (Value.ref 93) [Value.ref _, Value.ref _, Value.int _ _]) _ _ _); k_dflt (refine' use_li (mmul_says (by is_list) (by l_ints) (by k_extra "sa len") (by assumption) (by is_list) (by l_ints) (by k_extra "sa len") (by omega) (by omega)) (by k_asm) (by k_asm) (by k_asm) (by k_asm) (by k_asm) (by first | exact rfl | assumption) (by ktr_room) (by ktr_units) ?_; k_whole); intro l' vs' n' h' tk' F' N' i' ne' st'; (try simp only [List.forall_mem_cons, List.not_mem_nil, false_implies, implies_true, and_true] at ne'); (try k_sweep); walk_say "MMUL")
  k_with "call ref" => (k_here; (with_reducible show wpAny _ _ (PySem.call (Value.ref 48) [Value.int _ _, Value.int _ _]) _ _ _); k_dflt (refine' use_int (inv_says (by first | assumption | decide) (by first | assumption | omega)) (by k_asm) (by k_asm) (by k_asm) (by k_asm) (by k_asm) (by first | exact rfl | assumption) (by ktr_room) (by ktr_units) ?_; k_whole); intro t1' h' tk' F' N' st'; (try k_sweep); walk_say "INV")
  k_with "call ref" => (k_here; (with_reducible show wpAny _ _ (PySem.call (Value.ref 100) [Value.ref _, Value.ref _, Value.int _ _]) _ _ _); k_dflt (refine' use_p2 (mdivmod_says (by is_list) (by l_ints) (by k_extra "sa len") (by is_list) (by l_ints) (by k_extra "sa len") (by k_extra "sa len") (by assumption) (by assumption) (by assumption)) (by k_asm) (by k_asm) (by k_asm) (by k_asm) (by k_asm) (by first | exact rfl | assumption) (by ktr_room) (by ktr_units) ?_; k_whole); intro l' v1' l2' n' vs' c' h' tk' F' N' i' ne' ne2' st'; walk_say "MDIVMOD"; (try simp only [List.forall_mem_cons, List.not_mem_nil, false_implies, implies_true, and_true] at ne' ne2'); (try k_sweep))
  k_with "call ref" => (k_here; (with_reducible show wpAny _ _ (PySem.call (Value.ref 147) [Value.ref _, Value.ref _, Value.ref _, Value.int _ _]) _ _ _); k_dflt (refine' use_li (gmul_says (by is_list) (by l_ints) (by k_extra "sa len") (by first | assumption | exact small_nil) (by is_list) (by l_ints) (by k_extra "sa len") (by is_list) (by assumption) (by assumption)) (by k_asm) (by k_asm) (by k_asm) (by k_asm) (by k_asm) (by first | exact rfl | assumption) (by ktr_room) (by ktr_units) ?_; k_whole); intro l' vs' n' h' tk' F' N' i' ne' st'; (try simp only [List.forall_mem_cons, List.not_mem_nil, false_implies, implies_true, and_true] at ne'); (try k_sweep); walk_say "GMUL"; (rename IntsAre _ (gmulF _ _ _ _) => hI9); (have hC9 := gmulF_lenI hI9))
  k_with "call ref" => (k_here; (with_reducible show wpAny _ _ (PySem.call (Value.ref 86) [Value.ref _, Value.int _ _, Value.int _ _]) _ _ _); k_dflt (refine' use_li (mscale_says (by is_list) (by l_ints) (by k_extra "sa len") (by omega) (by omega) (by omega) (by omega)) (by k_asm) (by k_asm) (by k_asm) (by k_asm) (by k_asm) (by first | exact rfl | assumption) (by ktr_room) (by ktr_units) ?_; k_whole); intro l' vs' n' h' tk' F' N' i' ne' st'; (try simp only [List.forall_mem_cons, List.not_mem_nil, false_implies, implies_true, and_true] at ne'); (try k_sweep); walk_say "MSCALE2"; (rename IntsAre _ (mscaleF _ _ _) => hI9); (have hC9 := mscaleF_lenI hI9); (try simp only [List.length_cons, List.length_nil] at hC9))
  k_with "call ref" => (k_here; (with_reducible show wpAny _ _ (PySem.call (Value.ref 69) [Value.ref _, Value.ref _, Value.int _ _]) _ _ _); k_dflt (refine' use_li (madd_says (by is_list) (by l_ints) (by k_extra "sa len") (by is_list) (by l_ints) (by k_extra "sa len") (by omega) (by omega)) (by k_asm) (by k_asm) (by k_asm) (by k_asm) (by k_asm) (by first | exact rfl | assumption) (by ktr_room) (by ktr_units) ?_; k_whole); intro l' vs' n' h' tk' F' N' i' ne' st'; (try simp only [List.forall_mem_cons, List.not_mem_nil, false_implies, implies_true, and_true] at ne'); (try k_sweep); walk_say "MADD2"; (rename IntsAre _ (maddF _ _ _) => hI9); (have hC9 := maddF_lenI hI9))
  trivial
/-! the same, where one name holds a list of ints, made anew at each turn -/
noncomputable def OneEnd (h₀ : Heap) (L : Addr) (own : List (Addr × Obj)) (x y : Str) (m₀ : Str → Option Value) (P : List Int → Prop) (s : Shared) (f : Flow) (s₂ : Shared) : Prop :=
  (f = .next ∨ f = .cont) ∧ ∃ h' tk m' lf vf cf acc news', s₂ = { s with heap := h', toks := tk } ∧ Fr h₀ L h' m' ∧ News h₀ L h' news' ∧ (lf, listOf vf.toArray cf) ∈ news' ∧ (∀ p ∈ own, p ∈ news') ∧ (∀ q ∈ own, @Ne Nat q.1 lf) ∧ IntsAre vf acc ∧ P acc ∧
    m' y = some (.ref lf) ∧ ∀ z, z ≠ x → z ≠ y → m' z = m₀ z
theorem oneEnd_ {h₀ : Heap} {L lf : Addr} {own news' : List (Addr × Obj)} {x y : Str} {m₀ m' : Str → Option Value} {P : List Int → Prop} {s : Shared} {h' : Heap} {tk : Nat} {vf : List Value} {cf : Nat} {acc : List Int}
    (F : Fr h₀ L h' m') (N : News h₀ L h' news') (hm : (lf, listOf vf.toArray cf) ∈ news') (h2 : ∀ p ∈ own, p ∈ news') (h3 : ∀ q ∈ own, @Ne Nat q.1 lf) (hi : IntsAre vf acc) (hP : P acc) (hy : m' y = some (.ref lf)) (hz : ∀ z, z ≠ x → z ≠ y → m' z = m₀ z) :
    OneEnd h₀ L own x y m₀ P s .next { s with heap := h', toks := tk } := ⟨.inl rfl, h', tk, m', lf, vf, cf, acc, news', rfl, F, N, hm, h2, h3, hi, hP, hy, hz⟩
section
variable {prog : Program} {w : World} {A : Around} {E : Value → Shared → Prop} {s : Shared} {env : Env} {h₀ : Heap} {x : Str} {body : List Stmt} {Q : Flow → Shared → Prop}
theorem iter_one {l lf : Addr} {items vf : List Value} {cf : Nat} {acc₀ : List Int} {m₀ : Str → Option Value} {news : List (Addr × Obj)} (y : Str) (P : Nat → List Int → Prop) (hxy : x ≠ y)
    (hh : A.handled = none) (hl : LCg.SrcAt h₀ l items.toArray news) (F : Fr h₀ env.locals s.heap m₀) (N : News h₀ env.locals s.heap news) (hy : m₀ y = some (.ref lf)) (hm : (lf, listOf vf.toArray cf) ∈ news) (hi : IntsAre vf acc₀) (hP : P 0 acc₀)
    (turn : Hold (∀ (i : Nat) v lf vf cf acc h tk own, items[i]? = some v → IntsAre vf acc → P i acc → Fr h₀ env.locals h (fun z => if z = x then some v else if z = y then some (.ref lf) else m₀ z) → News h₀ env.locals h ((lf, listOf vf.toArray cf) :: own) →
      wpAny (model prog w) A (execs body env) (OneEnd h₀ env.locals own x y m₀ (P (i + 1)) { s with heap := h, toks := tk }) E { s with heap := h, toks := tk }))
    (done : Hold (∀ lf vf cf acc (u : Str → Option Value) h tk, IntsAre vf acc → P items.length acc → Fr h₀ env.locals h (fun z => if z = x then u z else if z = y then some (.ref lf) else m₀ z) → News h₀ env.locals h [(lf, listOf vf.toArray cf)] → Q .next { s with heap := h, toks := tk })) :
    wpAny (model prog w) A (pyIter (.ref l)) (fun it s₂ => LoopAtV prog w A h₀ env x body Q E it s₂) E s := by
  have ov : ∀ {m₁ : Str → Option Value} {lf : Addr}, m₁ y = some (.ref lf) → (∀ z, z ≠ x → z ≠ y → m₁ z = m₀ z) → ∀ v : Str → Option Value, (fun z => if z = x then v z else if z = y then some (Value.ref lf) else m₀ z) = fun z => if z = x then v z else m₁ z := by
    intro m₁ lf h1 h2 v
    funext z
    by_cases e1 : z = x
    · simp [e1]
    · simp only [if_neg e1]
      by_cases e2 : z = y
      · rw [if_pos e2, e2, h1]
      · rw [if_neg e2, h2 z e1 e2]
  refine iter_any (nx₀ := [(lf, listOf vf.toArray cf)]) (fun i m₁ nx => ∃ lf vf cf acc, nx = [(lf, listOf vf.toArray cf)] ∧ IntsAre vf acc ∧ P i acc ∧ m₁ y = some (.ref lf) ∧ ∀ z, z ≠ x → z ≠ y → m₁ z = m₀ z) hh hl F N (fun p hp => by rw [List.mem_singleton.mp hp]; exact hm)
    ⟨lf, vf, cf, acc₀, rfl, hi, hP, hy, fun _ _ _ => rfl⟩ ?_ ?_
  · rintro i v m₁ nx h tk own hv ⟨lf, vf, cf, acc, rfl, hi, hP, hy, hz⟩ F₁ N₁
    rw [← ov hy hz (fun _ => some v)] at F₁
    refine wpAny_mono (turn i v lf vf cf acc h tk own hv hi hP F₁ N₁) (fun f s₂ p => ?_) fun _ _ e => e
    obtain ⟨hf, h', tk', m', lf', vf', cf', acc', news', e, F', N', k1, k2, k3, k4, k5, k6, k7⟩ := p
    refine ⟨hf, h', tk', m', [(lf', listOf vf'.toArray cf')], news', e, F', N', (fun p hp => by rw [List.mem_singleton.mp hp]; exact k1), k2, (fun p hp q hq => by rw [List.mem_singleton.mp hp]; exact (k3 q hq).symm), lf', vf', cf', acc', rfl, k4, k5, k6, k7⟩
  · rintro m₁ nx h tk ⟨lf, vf, cf, acc, rfl, hi, hP, hy, hz⟩ F₁ N₁
    have e : m₁ = fun z => if z = x then m₁ z else if z = y then some (Value.ref lf) else m₀ z := by
      rw [ov hy hz m₁]
      funext z
      simp
    rw [e] at F₁
    exact done lf vf cf acc m₁ h tk hi hP F₁ N₁
end

theorem anew_72_gfat : True := by
  w_top off
  k_with_none
  k_with "sa enter" => (refine wpAny_call ?_; k_dflt (refine' enter_pure ?k1 ?k2 ?k3 ?k4 ?kA ?kF ?kK ?k6 ?k7 ?k8 ?k9 ?kB (by assumption) ?_ ?c2 ?c3 ?c4 ?c5; (case kA => exact rfl); (case kF => exact rfl); (case kK => assumption); (case k1 => k_asm); (case k2 => k_asm); (case k3 => k_asm); (case k4 => k_asm); (case k6 => k_is); (case k7 => k_is); (case k8 => ktr_room); (case k9 => exact BindsTo.of_eq rfl); (case c5 => decide); (case kB => exact locs rfl); (case c2 => exact rfl); (case c3 => exact rfl); (case c4 => exact rfl); k_whole); (with_reducible rename Below _ _ _ _ => kB'; clear kB'); (with_reducible rename Fr _ _ _ _ => kB'; clear kB'); (with_reducible rename Top _ _ _ _ _ _ => kB'; clear kB'); (rename Frag.In _ _ => kB'; clear kB'); intro L' h' F' N' B' X' T'; (try dsimp only); (try k_fold))
  k_with "sa leave list" => ((show LeaveP _ _ _ _); refine leaveP_ (by assumption) ⟨_, _, _, rfl, (News.fresh (by assumption) (List.Mem.head _)), (News.get (by assumption) (List.Mem.head _)), ?_⟩)
  k_with "execs cons Assign cons" => ((with_reducible refine wpAny_execs_cons ?_); try dsimp only)
  k_with "sa len" => (first | with_reducible assumption | exact List.length_take_le _ _ | omega | l_fact | ((simp only [rangeKs_length, List.length_map, List.length_append, List.length_cons, List.length_nil] at *); omega))
  k_with "sa enter cells" => (refine wpAny_call ?_; k_dflt (refine' enter_pureC ?k1 ?k2 ?k3 ?k4 ?kA ?kF ?kK ?k6 ?k7 ?k8 ?k9 ?kB ?kD (by assumption) ?_ ?c2 ?c3 ?c4; (case kA => exact rfl); (case kF => exact rfl); (case kK => assumption); (case k1 => k_asm); (case k2 => k_asm); (case k3 => k_asm); (case k4 => k_asm); (case k6 => k_is); (case k7 => k_is); (case k8 => ktr_room); (case k9 => exact BindsTo.of_eq rfl); (case kB => exact rfl); (case kD => decide +kernel); (case c2 => exact rfl); (case c3 => exact rfl); (case c4 => exact rfl); k_whole); (with_reducible rename Below _ _ _ _ => kB'; clear kB'); (with_reducible rename Fr _ _ _ _ => kB'; clear kB'); (with_reducible rename Top _ _ _ _ _ _ => kB'; clear kB'); (rename Frag.In _ _ => kB'; clear kB'); intro L' h' tk' cells' F' N' Y' B' X' T'; k_cells Y'; (try simp only [List.cons_append, List.nil_append, List.append_nil] at N'); (try dsimp only); (try k_fold))
  k_with "sa ne" => (first | with_reducible assumption | (refine Ne.symm ?_; with_reducible assumption) | (refine Nat.ne_of_gt ?_; assumption) | (refine Nat.ne_of_lt ?_; assumption) | ((rename _ ∧ _ => h9); first | (refine Ne.symm ?_; simp only [h9, ne_eq, not_false_eq_true]; done) | (simp only [h9, ne_eq, not_false_eq_true]; done) | (refine Nat.ne_of_gt ?_; simp only [h9]; done) | (refine Nat.ne_of_lt ?_; simp only [h9]; done) | (clear h9; k_extra "sa ne")))
  k_with "call ref" => (k_here; (with_reducible show wpAny _ _ (PySem.call (Value.ref 55) [Value.ref _]) _ _ _); k_dflt (refine' use_li (mtrim_says (by is_list) (by l_ints) (by k_extra "sa len")) (by k_asm) (by k_asm) (by k_asm) (by k_asm) (by k_asm) (by first | exact rfl | assumption) (by ktr_room) (by ktr_units) ?_; k_whole); intro l' vs' n' h' tk' F' N' i' ne' st'; (try simp only [List.forall_mem_cons, List.not_mem_nil, false_implies, implies_true, and_true] at ne'); (try k_sweep); walk_say "MTRIM"; (rename IntsAre _ (trimF _) => hI9); (have hC9 := trimF_lenI hI9))
  k_with "call ref" => (k_here; (with_reducible show wpAny _ _ (PySem.call (Value.ref 69) [Value.ref _, Value.ref _, Value.int _ _]) _ _ _); k_dflt (refine' use_li (madd_says (by is_list) (by l_ints) (by k_extra "sa len") (by is_list) (by l_ints) (by k_extra "sa len") (by omega) (by omega)) (by k_asm) (by k_asm) (by k_asm) (by k_asm) (by k_asm) (by first | exact rfl | assumption) (by ktr_room) (by ktr_units) ?_; k_whole); intro l' vs' n' h' tk' F' N' i' ne' st'; (try simp only [List.forall_mem_cons, List.not_mem_nil, false_implies, implies_true, and_true] at ne'); (try k_sweep); walk_say "MADD")
  k_with "call ref" => (k_here; (with_reducible show wpAny _ _ (PySem.call (Value.ref 86) [Value.ref _, Value.int _ _, Value.int _ _]) _ _ _); k_dflt (refine' use_li (mscale_says (by is_list) (by l_ints) (by k_extra "sa len") (by omega) (by omega) (by omega) (by omega)) (by k_asm) (by k_asm) (by k_asm) (by k_asm) (by k_asm) (by first | exact rfl | assumption) (by ktr_room) (by ktr_units) ?_; k_whole); intro l' vs' n' h' tk' F' N' i' ne' st'; (try simp only [List.forall_mem_cons, List.not_mem_nil, false_implies, implies_true, and_true] at ne'); (try k_sweep); walk_say "MSCALE")
  k_with "call ref" => (k_here; (with_reducible show wpAny _ _ (PySem.call (Value.ref 93) [Value.ref _, Value.ref _, Value.int _ _]) _ _ _); k_dflt (refine' use_li (mmul_says (by is_list) (by l_ints) (by k_extra "sa len") (by assumption) (by is_list) (by l_ints) (by k_extra "sa len") (by omega) (by omega)) (by k_asm) (by k_asm) (by k_asm) (by k_asm) (by k_asm) (by first | exact rfl | assumption) (by ktr_room) (by ktr_units) ?_; k_whole); intro l' vs' n' h' tk' F' N' i' ne' st'; (try simp only [List.forall_mem_cons, List.not_mem_nil, false_implies, implies_true, and_true] at ne'); (try k_sweep); walk_say "MMUL")
  k_with "call ref" => (k_here; (with_reducible show wpAny _ _ (PySem.call (Value.ref 48) [Value.int _ _, Value.int _ _]) _ _ _); k_dflt (refine' use_int (inv_says (by first | assumption | decide) (by first | assumption | omega)) (by k_asm) (by k_asm) (by k_asm) (by k_asm) (by k_asm) (by first | exact rfl | assumption) (by ktr_room) (by ktr_units) ?_; k_whole); intro t1' h' tk' F' N' st'; (try k_sweep); walk_say "INV")
  k_with "call ref" => (k_here; (with_reducible show wpAny _ _ (PySem.call (Value.ref 100) [Value.ref _, Value.ref _, Value.int _ _]) _ _ _); k_dflt (refine' use_p2 (mdivmod_says (by is_list) (by l_ints) (by k_extra "sa len") (by is_list) (by l_ints) (by k_extra "sa len") (by k_extra "sa len") (by assumption) (by assumption) (by assumption)) (by k_asm) (by k_asm) (by k_asm) (by k_asm) (by k_asm) (by first | exact rfl | assumption) (by ktr_room) (by ktr_units) ?_; k_whole); intro l' v1' l2' n' vs' c' h' tk' F' N' i' ne' ne2' st'; walk_say "MDIVMOD"; (try simp only [List.forall_mem_cons, List.not_mem_nil, false_implies, implies_true, and_true] at ne' ne2'); (try k_sweep))
  k_with "call ref" => (k_here; (with_reducible show wpAny _ _ (PySem.call (Value.ref 147) [Value.ref _, Value.ref _, Value.ref _, Value.int _ _]) _ _ _); k_dflt (refine' use_li (gmul_says (by is_list) (by l_ints) (by k_extra "sa len") (by first | assumption | exact small_nil) (by is_list) (by l_ints) (by k_extra "sa len") (by is_list) (by assumption) (by assumption)) (by k_asm) (by k_asm) (by k_asm) (by k_asm) (by k_asm) (by first | exact rfl | assumption) (by ktr_room) (by ktr_units) ?_; k_whole); intro l' vs' n' h' tk' F' N' i' ne' st'; (try simp only [List.forall_mem_cons, List.not_mem_nil, false_implies, implies_true, and_true] at ne'); (try k_sweep); walk_say "GMUL"; (rename IntsAre _ (gmulF _ _ _ _) => hI9); (have hC9 := gmulF_lenI hI9))
  k_with "call ref" => (k_here; (with_reducible show wpAny _ _ (PySem.call (Value.ref 86) [Value.ref _, Value.int _ _, Value.int _ _]) _ _ _); k_dflt (refine' use_li (mscale_says (by is_list) (by l_ints) (by k_extra "sa len") (by omega) (by omega) (by omega) (by omega)) (by k_asm) (by k_asm) (by k_asm) (by k_asm) (by k_asm) (by first | exact rfl | assumption) (by ktr_room) (by ktr_units) ?_; k_whole); intro l' vs' n' h' tk' F' N' i' ne' st'; (try simp only [List.forall_mem_cons, List.not_mem_nil, false_implies, implies_true, and_true] at ne'); (try k_sweep); walk_say "MSCALE2"; (rename IntsAre _ (mscaleF _ _ _) => hI9); (have hC9 := mscaleF_lenI hI9); (try simp only [List.length_cons, List.length_nil] at hC9))
  k_with "call ref" => (k_here; (with_reducible show wpAny _ _ (PySem.call (Value.ref 69) [Value.ref _, Value.ref _, Value.int _ _]) _ _ _); k_dflt (refine' use_li (madd_says (by is_list) (by l_ints) (by k_extra "sa len") (by is_list) (by l_ints) (by k_extra "sa len") (by omega) (by omega)) (by k_asm) (by k_asm) (by k_asm) (by k_asm) (by k_asm) (by first | exact rfl | assumption) (by ktr_room) (by ktr_units) ?_; k_whole); intro l' vs' n' h' tk' F' N' i' ne' st'; (try simp only [List.forall_mem_cons, List.not_mem_nil, false_implies, implies_true, and_true] at ne'); (try k_sweep); walk_say "MADD2"; (rename IntsAre _ (maddF _ _ _) => hI9); (have hC9 := maddF_lenI hI9))
  k_with "exec For Name Subscript cons nil" => (k_here; (rename Fr _ _ _ _ => lF'); (with_unfolding_all (refine' For_invVF lF' (by exact rfl) (by exact rfl) ?_; k_whole)))
  k_with "exec For Name Name cons nil" => (k_here; (rename Fr _ _ _ _ => lF'); (with_unfolding_all (refine' For_invVF lF' (by exact rfl) (by exact rfl) ?_; k_whole)))
  trivial
noncomputable def gatStep (a ms : List Int) (q : Int) (acc : List Int) (number : Int) : List Int := maddF (gmulF acc a ms q) (mscaleF [1] number q) q
noncomputable def gatF (f a ms : List Int) (q : Int) : List Int := f.reverse.foldl (gatStep a ms q) []
theorem gatStep_small {a ms acc : List Int} {q n : Int} (h : 2 ≤ q) (h' : q ≤ 7) : Small (gatStep a ms q acc n) := maddF_small h h'
theorem gatStep_length {a ms acc : List Int} {q n : Int} (hM : IsMod ms q) : (gatStep a ms q acc n).length ≤ 5 := by
  unfold gatStep gmulF
  have := maddF_length (as := mrestF (mmulF acc a q) ms q) (bs := mscaleF [1] n q) (q := q)
  have := mrestF_length (as := mmulF acc a q) (bs := ms) (q := q)
  have := mscaleF_length (as := [1]) (x := n) (q := q)
  have := hM.many
  simp only [List.length_cons, List.length_nil] at *
  omega
theorem foldl_snoc {α β : Type} {f : β → α → β} {as : List α} {a₀ : β} {i : Nat} {a : α} (h : as[i]? = some a) : (as.take (i + 1)).foldl f a₀ = f ((as.take i).foldl f a₀) a := by
  rw [List.take_add_one, h]; simp
theorem ints_item {vs : List Value} {ns : List Int} (h : IntsAre vs ns) {i : Nat} {v : Value} (hv : vs[i]? = some v) : ∃ x t, v = .int x t ∧ ns[i]? = some x := by
  obtain ⟨k, t, e, hk⟩ := IntsAre.at h i v hv
  first | exact ⟨k, t, e, hk⟩ | exact ⟨k, t, hk, e⟩
section
variable {prog : Program} {w : World} {p : Program} {loose : List Str} {mean : ExcName → Option Value} {mg mb : Str → Option Value}
set_option maxHeartbeats 2000000 in
theorem gat_says {s : Shared} {lf la lm : Addr} {vf va vm : List Value} {fs as ms : List Int} {q : Int} {tq : Tok} (hlf : s.heap.IsList lf vf.toArray) (hif : IntsAre vf fs) (hnf : fs.length ≤ 10) (hF : Small fs) (hla : s.heap.IsList la va.toArray) (hia : IntsAre va as) (hna : as.length ≤ 10) (hA : Small as)
    (hlm : s.heap.IsList lm vm.toArray) (him : IntsAre vm ms) (hM : IsMod ms q) :
    Says prog w p loose mean mg mb 168 [.ref lf, .ref la, .ref lm, .int q tq] s 20 (fun v h' => NewLI s.heap v h' (gatF fs as ms q)) := by
  intro dp un gd cn cs a ccd cl outer A₀ base h₀ L m Q E B F X T hk hd hu hret
  have hM5 := hM.prime
  have hM1 := hM.many
  have hq2 : 2 ≤ q := by omega
  have hq7 : q ≤ 7 := by omega
  walk_at "sa enter"
  k_steps
  (rename Fr _ _ _ _ => kF')
  (rename News _ _ _ _ => kN')
  (rename IntsAre _ fs.reverse => hI')
  with_unfolding_all refine' iter_one (x := Str.ofString "number") (Str.ofString "found") (fun i acc => acc = (fs.reverse.take i).foldl (gatStep as ms q) [] ∧ Small acc ∧ acc.length ≤ 5) (by decide) ?hh ?hl ?hF ?hN ?hy ?hm ?hi ?hP ?turn ?done
  case hh => exact rfl
  case hF => exact kF'
  case hN => exact kN'
  case hl => exact Or.inr ⟨_, List.Mem.head _, rfl, _, rfl⟩
  case hy => exact rfl
  case hm => exact List.Mem.tail _ (List.Mem.head _)
  case hi => exact IntsAre.nil
  case hP => exact ⟨rfl, small_nil, Nat.zero_le _⟩
  case turn =>
    unfold Hold
    clear kF' kN'
    intro i v l1 v1 c1 acc h1 tk1 own hv hi1 hP F1 N1
    obtain ⟨hP1, hP2, hP3⟩ := hP
    obtain ⟨x, tx, rfl, hx⟩ := ints_item hI' hv
    have hxs := hF x (List.mem_reverse.mp (List.mem_of_getElem? hx))
    (try dsimp only)
    (try k_fold)
    k_steps
    (rename _ ≠ _ ∧ _ ≠ _ ∧ _ ≠ _ ∧ _ ≠ _ ∧ (∀ x : Addr × Obj, x ∈ own → _) => hne)
    refine oneEnd_ (by assumption) (by assumption) (List.Mem.head _) (by intro p hp; k_ownIn) hne.2.2.2.2 (by assumption) ⟨?_, gatStep_small (by omega) (by omega), gatStep_length hM⟩ rfl ?_
    · rw [foldl_snoc hx, ← hP1]
    · intro z h1 h2
      simp [h1, h2]
  case done =>
    unfold Hold
    clear kF' kN'
    intro l1 v1 c1 acc u h1 tk1 hi1 hP F1 N1
    (try dsimp only)
    (try k_fold)
    k_steps
    show LeaveP _ _ _ _
    refine leaveP_ F1 ⟨_, _, _, rfl, N1.fresh (List.Mem.head _), N1.get (List.Mem.head _), ?_⟩
    have hl := IntsAre.length hI'
    rw [show gatF fs as ms q = acc from ?_]
    · exact hi1
    · rw [hP.1, hl, List.take_length]
      try rfl
end

theorem anew_74_total : True := by
  w_top off
  k_with_none
  k_with "sa enter" => (refine wpAny_call ?_; k_dflt (refine' enter_pure ?k1 ?k2 ?k3 ?k4 ?kA ?kF ?kK ?k6 ?k7 ?k8 ?k9 ?kB (by assumption) ?_ ?c2 ?c3 ?c4 ?c5; (case kA => exact rfl); (case kF => exact rfl); (case kK => assumption); (case k1 => k_asm); (case k2 => k_asm); (case k3 => k_asm); (case k4 => k_asm); (case k6 => k_is); (case k7 => k_is); (case k8 => ktr_room); (case k9 => exact BindsTo.of_eq rfl); (case c5 => decide); (case kB => exact locs rfl); (case c2 => exact rfl); (case c3 => exact rfl); (case c4 => exact rfl); k_whole); (with_reducible rename Below _ _ _ _ => kB'; clear kB'); (with_reducible rename Fr _ _ _ _ => kB'; clear kB'); (with_reducible rename Top _ _ _ _ _ _ => kB'; clear kB'); (rename Frag.In _ _ => kB'; clear kB'); intro L' h' F' N' B' X' T'; (try dsimp only); (try k_fold))
  k_with "sa leave list" => ((show LeaveP _ _ _ _); refine leaveP_ (by assumption) ⟨_, _, _, rfl, (News.fresh (by assumption) (List.Mem.head _)), (News.get (by assumption) (List.Mem.head _)), ?_⟩)
  k_with "execs cons Assign cons" => ((with_reducible refine wpAny_execs_cons ?_); try dsimp only)
  k_with "sa len" => (first | with_reducible assumption | exact List.length_take_le _ _ | omega | l_fact | ((simp only [rangeKs_length, List.length_map, List.length_append, List.length_cons, List.length_nil] at *); omega))
  k_with "sa enter cells" => (refine wpAny_call ?_; k_dflt (refine' enter_pureC ?k1 ?k2 ?k3 ?k4 ?kA ?kF ?kK ?k6 ?k7 ?k8 ?k9 ?kB ?kD (by assumption) ?_ ?c2 ?c3 ?c4; (case kA => exact rfl); (case kF => exact rfl); (case kK => assumption); (case k1 => k_asm); (case k2 => k_asm); (case k3 => k_asm); (case k4 => k_asm); (case k6 => k_is); (case k7 => k_is); (case k8 => ktr_room); (case k9 => exact BindsTo.of_eq rfl); (case kB => exact rfl); (case kD => decide +kernel); (case c2 => exact rfl); (case c3 => exact rfl); (case c4 => exact rfl); k_whole); (with_reducible rename Below _ _ _ _ => kB'; clear kB'); (with_reducible rename Fr _ _ _ _ => kB'; clear kB'); (with_reducible rename Top _ _ _ _ _ _ => kB'; clear kB'); (rename Frag.In _ _ => kB'; clear kB'); intro L' h' tk' cells' F' N' Y' B' X' T'; k_cells Y'; (try simp only [List.cons_append, List.nil_append, List.append_nil] at N'); (try dsimp only); (try k_fold))
  k_with "sa ne" => (first | with_reducible assumption | (refine Ne.symm ?_; with_reducible assumption) | (refine Nat.ne_of_gt ?_; assumption) | (refine Nat.ne_of_lt ?_; assumption) | ((rename _ ∧ _ => h9); first | (refine Ne.symm ?_; simp only [h9, ne_eq, not_false_eq_true]; done) | (simp only [h9, ne_eq, not_false_eq_true]; done) | (refine Nat.ne_of_gt ?_; simp only [h9]; done) | (refine Nat.ne_of_lt ?_; simp only [h9]; done) | (clear h9; k_extra "sa ne")))
  k_with "call ref" => (k_here; (with_reducible show wpAny _ _ (PySem.call (Value.ref 55) [Value.ref _]) _ _ _); k_dflt (refine' use_li (mtrim_says (by is_list) (by l_ints) (by k_extra "sa len")) (by k_asm) (by k_asm) (by k_asm) (by k_asm) (by k_asm) (by first | exact rfl | assumption) (by ktr_room) (by ktr_units) ?_; k_whole); intro l' vs' n' h' tk' F' N' i' ne' st'; (try simp only [List.forall_mem_cons, List.not_mem_nil, false_implies, implies_true, and_true] at ne'); (try k_sweep); walk_say "MTRIM"; (rename IntsAre _ (trimF _) => hI9); (have hC9 := trimF_lenI hI9))
  k_with "call ref" => (k_here; (with_reducible show wpAny _ _ (PySem.call (Value.ref 69) [Value.ref _, Value.ref _, Value.int _ _]) _ _ _); k_dflt (refine' use_li (madd_says (by is_list) (by l_ints) (by k_extra "sa len") (by is_list) (by l_ints) (by k_extra "sa len") (by omega) (by omega)) (by k_asm) (by k_asm) (by k_asm) (by k_asm) (by k_asm) (by first | exact rfl | assumption) (by ktr_room) (by ktr_units) ?_; k_whole); intro l' vs' n' h' tk' F' N' i' ne' st'; (try simp only [List.forall_mem_cons, List.not_mem_nil, false_implies, implies_true, and_true] at ne'); (try k_sweep); walk_say "MADD")
  k_with "call ref" => (k_here; (with_reducible show wpAny _ _ (PySem.call (Value.ref 86) [Value.ref _, Value.int _ _, Value.int _ _]) _ _ _); k_dflt (refine' use_li (mscale_says (by is_list) (by l_ints) (by k_extra "sa len") (by omega) (by omega) (by omega) (by omega)) (by k_asm) (by k_asm) (by k_asm) (by k_asm) (by k_asm) (by first | exact rfl | assumption) (by ktr_room) (by ktr_units) ?_; k_whole); intro l' vs' n' h' tk' F' N' i' ne' st'; (try simp only [List.forall_mem_cons, List.not_mem_nil, false_implies, implies_true, and_true] at ne'); (try k_sweep); walk_say "MSCALE")
  k_with "call ref" => (k_here; (with_reducible show wpAny _ _ (PySem.call (Value.ref 93) [Value.ref _, Value.ref _, Value.int _ _]) _ _ _); k_dflt (refine' use_li (mmul_says (by is_list) (by l_ints) (by k_extra "sa len") (by assumption) (by is_list) (by l_ints) (by k_extra "sa len") (by omega) (by omega)) (by k_asm) (by k_asm) (by k_asm) (by k_asm) (by k_asm) (by first | exact rfl | assumption) (by ktr_room) (by ktr_units) ?_; k_whole); intro l' vs' n' h' tk' F' N' i' ne' st'; (try simp only [List.forall_mem_cons, List.not_mem_nil, false_implies, implies_true, and_true] at ne'); (try k_sweep); walk_say "MMUL")
  k_with "call ref" => (k_here; (with_reducible show wpAny _ _ (PySem.call (Value.ref 48) [Value.int _ _, Value.int _ _]) _ _ _); k_dflt (refine' use_int (inv_says (by first | assumption | decide) (by first | assumption | omega)) (by k_asm) (by k_asm) (by k_asm) (by k_asm) (by k_asm) (by first | exact rfl | assumption) (by ktr_room) (by ktr_units) ?_; k_whole); intro t1' h' tk' F' N' st'; (try k_sweep); walk_say "INV")
  k_with "call ref" => (k_here; (with_reducible show wpAny _ _ (PySem.call (Value.ref 100) [Value.ref _, Value.ref _, Value.int _ _]) _ _ _); k_dflt (refine' use_p2 (mdivmod_says (by is_list) (by l_ints) (by k_extra "sa len") (by is_list) (by l_ints) (by k_extra "sa len") (by k_extra "sa len") (by assumption) (by assumption) (by assumption)) (by k_asm) (by k_asm) (by k_asm) (by k_asm) (by k_asm) (by first | exact rfl | assumption) (by ktr_room) (by ktr_units) ?_; k_whole); intro l' v1' l2' n' vs' c' h' tk' F' N' i' ne' ne2' st'; walk_say "MDIVMOD"; (try simp only [List.forall_mem_cons, List.not_mem_nil, false_implies, implies_true, and_true] at ne' ne2'); (try k_sweep))
  k_with "call ref" => (k_here; (with_reducible show wpAny _ _ (PySem.call (Value.ref 147) [Value.ref _, Value.ref _, Value.ref _, Value.int _ _]) _ _ _); k_dflt (refine' use_li (gmul_says (by is_list) (by l_ints) (by k_extra "sa len") (by first | assumption | exact small_nil) (by is_list) (by l_ints) (by k_extra "sa len") (by is_list) (by assumption) (by assumption)) (by k_asm) (by k_asm) (by k_asm) (by k_asm) (by k_asm) (by first | exact rfl | assumption) (by ktr_room) (by ktr_units) ?_; k_whole); intro l' vs' n' h' tk' F' N' i' ne' st'; (try simp only [List.forall_mem_cons, List.not_mem_nil, false_implies, implies_true, and_true] at ne'); (try k_sweep); walk_say "GMUL"; (rename IntsAre _ (gmulF _ _ _ _) => hI9); (have hC9 := gmulF_lenI hI9))
  k_with "call ref" => (k_here; (with_reducible show wpAny _ _ (PySem.call (Value.ref 86) [Value.ref _, Value.int _ _, Value.int _ _]) _ _ _); k_dflt (refine' use_li (mscale_says (by is_list) (by l_ints) (by k_extra "sa len") (by omega) (by omega) (by omega) (by omega)) (by k_asm) (by k_asm) (by k_asm) (by k_asm) (by k_asm) (by first | exact rfl | assumption) (by ktr_room) (by ktr_units) ?_; k_whole); intro l' vs' n' h' tk' F' N' i' ne' st'; (try simp only [List.forall_mem_cons, List.not_mem_nil, false_implies, implies_true, and_true] at ne'); (try k_sweep); walk_say "MSCALE2"; (rename IntsAre _ (mscaleF _ _ _) => hI9); (have hC9 := mscaleF_lenI hI9); (try simp only [List.length_cons, List.length_nil] at hC9))
  k_with "call ref" => (k_here; (with_reducible show wpAny _ _ (PySem.call (Value.ref 69) [Value.ref _, Value.ref _, Value.int _ _]) _ _ _); k_dflt (refine' use_li (madd_says (by is_list) (by l_ints) (by k_extra "sa len") (by is_list) (by l_ints) (by k_extra "sa len") (by omega) (by omega)) (by k_asm) (by k_asm) (by k_asm) (by k_asm) (by k_asm) (by first | exact rfl | assumption) (by ktr_room) (by ktr_units) ?_; k_whole); intro l' vs' n' h' tk' F' N' i' ne' st'; (try simp only [List.forall_mem_cons, List.not_mem_nil, false_implies, implies_true, and_true] at ne'); (try k_sweep); walk_say "MADD2"; (rename IntsAre _ (maddF _ _ _) => hI9); (have hC9 := maddF_lenI hI9))
  k_with "exec For Name Subscript cons nil" => (k_here; (rename Fr _ _ _ _ => lF'); (with_unfolding_all (refine' For_invVF lF' (by exact rfl) (by exact rfl) ?_; k_whole)))
  k_with "exec For Name Name cons nil" => (k_here; (rename Fr _ _ _ _ => lF'); (with_unfolding_all (refine' For_invVF lF' (by exact rfl) (by exact rfl) ?_; k_whole)))
  k_with "call ref" => (k_here; (with_reducible show wpAny _ _ (PySem.call (Value.ref 168) [Value.ref _, Value.ref _, Value.ref _, Value.int _ _]) _ _ _); k_dflt (refine' use_li (gat_says (by is_list) (by l_ints) (by k_extra "sa len") (by assumption) (by is_list) (by l_ints) (by k_extra "sa len") (by assumption) (by is_list) (by assumption) (by assumption)) (by k_asm) (by k_asm) (by k_asm) (by k_asm) (by k_asm) (by first | exact rfl | assumption) (by ktr_room) (by ktr_units) ?_; k_whole); intro l' vs' n' h' tk' F' N' i' ne' st'; walk_say "GAT"; (try k_sweep))
  trivial
/-- a list's values are lists of ints, these -/
noncomputable def RowsAt (h : Heap) (ys : List Value) (rows : List (List Int)) : Prop := ys.length = rows.length ∧ ∀ (i : Nat) (v : Value), ys[i]? = some v → ∃ l vs r, v = .ref l ∧ h.IsList l vs.toArray ∧ IntsAre vs r ∧ rows[i]? = some r
theorem RowsAt.length {h : Heap} {ys : List Value} {rows : List (List Int)} (x : RowsAt h ys rows) : ys.length = rows.length := x.1
theorem RowsAt.item {h : Heap} {ys : List Value} {rows : List (List Int)} (x : RowsAt h ys rows) {i : Nat} {v : Value} (e : ys[i]? = some v) : ∃ l vs r, v = .ref l ∧ h.IsList l vs.toArray ∧ IntsAre vs r ∧ rows[i]? = some r := x.2 i v e
noncomputable def totalF (rows : List (List Int)) (q : Int) : List Int := rows.foldl (fun acc r => maddF acc r q) []
section
variable {prog : Program} {w : World} {p : Program} {loose : List Str} {mean : ExcName → Option Value} {mg mb : Str → Option Value}
set_option maxHeartbeats 2000000 in
theorem total_says {s : Shared} {lt : Addr} {ys : List Value} {rows : List (List Int)} {q : Int} {tq : Tok} (hlt : s.heap.IsList lt ys.toArray) (hr : RowsAt s.heap ys rows) (hn : ∀ r ∈ rows, r.length ≤ 10) (hq : 2 ≤ q) (hq' : q ≤ 7) :
    Says prog w p loose mean mg mb 195 [.ref lt, .int q tq] s 8 (fun v h' => NewLI s.heap v h' (totalF rows q)) := by
  intro dp un gd cn cs a ccd cl outer A₀ base h₀ L m Q E B F X T hk hd hu hret
  walk_at "sa enter"
  k_steps
  (rename Fr _ _ _ _ => kF')
  (rename News _ _ _ _ => kN')
  with_unfolding_all refine' iter_one (x := Str.ofString "one") (Str.ofString "found") (fun i acc => acc = (rows.take i).foldl (fun acc r => maddF acc r q) [] ∧ acc.length ≤ 10) (by decide) ?hh ?hl ?hF ?hN ?hy ?hm ?hi ?hP ?turn ?done
  case hh => exact rfl
  case hF => exact kF'
  case hN => exact kN'
  case hl => exact Or.inl hlt
  case hy => exact rfl
  case hm => exact List.Mem.head _
  case hi => exact IntsAre.nil
  case hP => exact ⟨rfl, Nat.zero_le _⟩
  case turn =>
    unfold Hold
    clear kF' kN'
    intro i v l1 v1 c1 acc h1 tk1 own hv hi1 hP F1 N1
    obtain ⟨hP1, hP2⟩ := hP
    obtain ⟨l2, v2, r, rfl, hl2, hi2, hx⟩ := hr.item hv
    have hn2 := hn r (List.mem_of_getElem? hx)
    (try dsimp only)
    (try k_fold)
    k_steps
    (rename _ ≠ _ ∧ (∀ x : Addr × Obj, x ∈ own → _) => hne)
    refine oneEnd_ (by assumption) (by assumption) (List.Mem.head _) (by intro p hp; k_ownIn) hne.2 (by assumption) ⟨?_, by omega⟩ rfl ?_
    · rw [foldl_snoc hx, ← hP1]
    · intro z h1 h2
      simp [h1, h2]
  case done =>
    unfold Hold
    clear kF' kN'
    intro l1 v1 c1 acc u h1 tk1 hi1 hP F1 N1
    (try dsimp only)
    (try k_fold)
    k_steps
    show LeaveP _ _ _ _
    refine leaveP_ F1 ⟨_, _, _, rfl, N1.fresh (List.Mem.head _), N1.get (List.Mem.head _), ?_⟩
    rw [show totalF rows q = acc from ?_]
    · exact hi1
    · rw [hP.1, hr.length, List.take_length]; rfl
end

theorem anew_76_while : True := by
  w_top off
  k_with_none
  k_with "sa enter" => (refine wpAny_call ?_; k_dflt (refine' enter_pure ?k1 ?k2 ?k3 ?k4 ?kA ?kF ?kK ?k6 ?k7 ?k8 ?k9 ?kB (by assumption) ?_ ?c2 ?c3 ?c4 ?c5; (case kA => exact rfl); (case kF => exact rfl); (case kK => assumption); (case k1 => k_asm); (case k2 => k_asm); (case k3 => k_asm); (case k4 => k_asm); (case k6 => k_is); (case k7 => k_is); (case k8 => ktr_room); (case k9 => exact BindsTo.of_eq rfl); (case c5 => decide); (case kB => exact locs rfl); (case c2 => exact rfl); (case c3 => exact rfl); (case c4 => exact rfl); k_whole); (with_reducible rename Below _ _ _ _ => kB'; clear kB'); (with_reducible rename Fr _ _ _ _ => kB'; clear kB'); (with_reducible rename Top _ _ _ _ _ _ => kB'; clear kB'); (rename Frag.In _ _ => kB'; clear kB'); intro L' h' F' N' B' X' T'; (try dsimp only); (try k_fold))
  k_with "sa leave list" => ((show LeaveP _ _ _ _); refine leaveP_ (by assumption) ⟨_, _, _, rfl, (News.fresh (by assumption) (List.Mem.head _)), (News.get (by assumption) (List.Mem.head _)), ?_⟩)
  k_with "execs cons Assign cons" => ((with_reducible refine wpAny_execs_cons ?_); try dsimp only)
  k_with "sa len" => (first | with_reducible assumption | exact List.length_take_le _ _ | omega | l_fact | ((simp only [rangeKs_length, List.length_map, List.length_append, List.length_cons, List.length_nil] at *); omega))
  k_with "sa enter cells" => (refine wpAny_call ?_; k_dflt (refine' enter_pureC ?k1 ?k2 ?k3 ?k4 ?kA ?kF ?kK ?k6 ?k7 ?k8 ?k9 ?kB ?kD (by assumption) ?_ ?c2 ?c3 ?c4; (case kA => exact rfl); (case kF => exact rfl); (case kK => assumption); (case k1 => k_asm); (case k2 => k_asm); (case k3 => k_asm); (case k4 => k_asm); (case k6 => k_is); (case k7 => k_is); (case k8 => ktr_room); (case k9 => exact BindsTo.of_eq rfl); (case kB => exact rfl); (case kD => decide +kernel); (case c2 => exact rfl); (case c3 => exact rfl); (case c4 => exact rfl); k_whole); (with_reducible rename Below _ _ _ _ => kB'; clear kB'); (with_reducible rename Fr _ _ _ _ => kB'; clear kB'); (with_reducible rename Top _ _ _ _ _ _ => kB'; clear kB'); (rename Frag.In _ _ => kB'; clear kB'); intro L' h' tk' cells' F' N' Y' B' X' T'; k_cells Y'; (try simp only [List.cons_append, List.nil_append, List.append_nil] at N'); (try dsimp only); (try k_fold))
  k_with "sa ne" => (first | with_reducible assumption | (refine Ne.symm ?_; with_reducible assumption) | (refine Nat.ne_of_gt ?_; assumption) | (refine Nat.ne_of_lt ?_; assumption) | ((rename _ ∧ _ => h9); first | (refine Ne.symm ?_; simp only [h9, ne_eq, not_false_eq_true]; done) | (simp only [h9, ne_eq, not_false_eq_true]; done) | (refine Nat.ne_of_gt ?_; simp only [h9]; done) | (refine Nat.ne_of_lt ?_; simp only [h9]; done) | (clear h9; k_extra "sa ne")))
  k_with "call ref" => (k_here; (with_reducible show wpAny _ _ (PySem.call (Value.ref 55) [Value.ref _]) _ _ _); k_dflt (refine' use_li (mtrim_says (by is_list) (by l_ints) (by k_extra "sa len")) (by k_asm) (by k_asm) (by k_asm) (by k_asm) (by k_asm) (by first | exact rfl | assumption) (by ktr_room) (by ktr_units) ?_; k_whole); intro l' vs' n' h' tk' F' N' i' ne' st'; (try simp only [List.forall_mem_cons, List.not_mem_nil, false_implies, implies_true, and_true] at ne'); (try k_sweep); walk_say "MTRIM"; (rename IntsAre _ (trimF _) => hI9); (have hC9 := trimF_lenI hI9))
  k_with "call ref" => (k_here; (with_reducible show wpAny _ _ (PySem.call (Value.ref 69) [Value.ref _, Value.ref _, Value.int _ _]) _ _ _); k_dflt (refine' use_li (madd_says (by is_list) (by l_ints) (by k_extra "sa len") (by is_list) (by l_ints) (by k_extra "sa len") (by omega) (by omega)) (by k_asm) (by k_asm) (by k_asm) (by k_asm) (by k_asm) (by first | exact rfl | assumption) (by ktr_room) (by ktr_units) ?_; k_whole); intro l' vs' n' h' tk' F' N' i' ne' st'; (try simp only [List.forall_mem_cons, List.not_mem_nil, false_implies, implies_true, and_true] at ne'); (try k_sweep); walk_say "MADD")
  k_with "call ref" => (k_here; (with_reducible show wpAny _ _ (PySem.call (Value.ref 86) [Value.ref _, Value.int _ _, Value.int _ _]) _ _ _); k_dflt (refine' use_li (mscale_says (by is_list) (by l_ints) (by k_extra "sa len") (by omega) (by omega) (by omega) (by omega)) (by k_asm) (by k_asm) (by k_asm) (by k_asm) (by k_asm) (by first | exact rfl | assumption) (by ktr_room) (by ktr_units) ?_; k_whole); intro l' vs' n' h' tk' F' N' i' ne' st'; (try simp only [List.forall_mem_cons, List.not_mem_nil, false_implies, implies_true, and_true] at ne'); (try k_sweep); walk_say "MSCALE")
  k_with "call ref" => (k_here; (with_reducible show wpAny _ _ (PySem.call (Value.ref 93) [Value.ref _, Value.ref _, Value.int _ _]) _ _ _); k_dflt (refine' use_li (mmul_says (by is_list) (by l_ints) (by k_extra "sa len") (by assumption) (by is_list) (by l_ints) (by k_extra "sa len") (by omega) (by omega)) (by k_asm) (by k_asm) (by k_asm) (by k_asm) (by k_asm) (by first | exact rfl | assumption) (by ktr_room) (by ktr_units) ?_; k_whole); intro l' vs' n' h' tk' F' N' i' ne' st'; (try simp only [List.forall_mem_cons, List.not_mem_nil, false_implies, implies_true, and_true] at ne'); (try k_sweep); walk_say "MMUL")
  k_with "call ref" => (k_here; (with_reducible show wpAny _ _ (PySem.call (Value.ref 48) [Value.int _ _, Value.int _ _]) _ _ _); k_dflt (refine' use_int (inv_says (by first | assumption | decide) (by first | assumption | omega)) (by k_asm) (by k_asm) (by k_asm) (by k_asm) (by k_asm) (by first | exact rfl | assumption) (by ktr_room) (by ktr_units) ?_; k_whole); intro t1' h' tk' F' N' st'; (try k_sweep); walk_say "INV")
  k_with "call ref" => (k_here; (with_reducible show wpAny _ _ (PySem.call (Value.ref 100) [Value.ref _, Value.ref _, Value.int _ _]) _ _ _); k_dflt (refine' use_p2 (mdivmod_says (by is_list) (by l_ints) (by k_extra "sa len") (by is_list) (by l_ints) (by k_extra "sa len") (by k_extra "sa len") (by assumption) (by assumption) (by assumption)) (by k_asm) (by k_asm) (by k_asm) (by k_asm) (by k_asm) (by first | exact rfl | assumption) (by ktr_room) (by ktr_units) ?_; k_whole); intro l' v1' l2' n' vs' c' h' tk' F' N' i' ne' ne2' st'; walk_say "MDIVMOD"; (try simp only [List.forall_mem_cons, List.not_mem_nil, false_implies, implies_true, and_true] at ne' ne2'); (try k_sweep))
  k_with "call ref" => (k_here; (with_reducible show wpAny _ _ (PySem.call (Value.ref 147) [Value.ref _, Value.ref _, Value.ref _, Value.int _ _]) _ _ _); k_dflt (refine' use_li (gmul_says (by is_list) (by l_ints) (by k_extra "sa len") (by first | assumption | exact small_nil) (by is_list) (by l_ints) (by k_extra "sa len") (by is_list) (by assumption) (by assumption)) (by k_asm) (by k_asm) (by k_asm) (by k_asm) (by k_asm) (by first | exact rfl | assumption) (by ktr_room) (by ktr_units) ?_; k_whole); intro l' vs' n' h' tk' F' N' i' ne' st'; (try simp only [List.forall_mem_cons, List.not_mem_nil, false_implies, implies_true, and_true] at ne'); (try k_sweep); walk_say "GMUL"; (rename IntsAre _ (gmulF _ _ _ _) => hI9); (have hC9 := gmulF_lenI hI9))
  k_with "call ref" => (k_here; (with_reducible show wpAny _ _ (PySem.call (Value.ref 86) [Value.ref _, Value.int _ _, Value.int _ _]) _ _ _); k_dflt (refine' use_li (mscale_says (by is_list) (by l_ints) (by k_extra "sa len") (by omega) (by omega) (by omega) (by omega)) (by k_asm) (by k_asm) (by k_asm) (by k_asm) (by k_asm) (by first | exact rfl | assumption) (by ktr_room) (by ktr_units) ?_; k_whole); intro l' vs' n' h' tk' F' N' i' ne' st'; (try simp only [List.forall_mem_cons, List.not_mem_nil, false_implies, implies_true, and_true] at ne'); (try k_sweep); walk_say "MSCALE2"; (rename IntsAre _ (mscaleF _ _ _) => hI9); (have hC9 := mscaleF_lenI hI9); (try simp only [List.length_cons, List.length_nil] at hC9))
  k_with "call ref" => (k_here; (with_reducible show wpAny _ _ (PySem.call (Value.ref 69) [Value.ref _, Value.ref _, Value.int _ _]) _ _ _); k_dflt (refine' use_li (madd_says (by is_list) (by l_ints) (by k_extra "sa len") (by is_list) (by l_ints) (by k_extra "sa len") (by omega) (by omega)) (by k_asm) (by k_asm) (by k_asm) (by k_asm) (by k_asm) (by first | exact rfl | assumption) (by ktr_room) (by ktr_units) ?_; k_whole); intro l' vs' n' h' tk' F' N' i' ne' st'; (try simp only [List.forall_mem_cons, List.not_mem_nil, false_implies, implies_true, and_true] at ne'); (try k_sweep); walk_say "MADD2"; (rename IntsAre _ (maddF _ _ _) => hI9); (have hC9 := maddF_lenI hI9))
  k_with "exec For Name Subscript cons nil" => (k_here; (rename Fr _ _ _ _ => lF'); (with_unfolding_all (refine' For_invVF lF' (by exact rfl) (by exact rfl) ?_; k_whole)))
  k_with "exec For Name Name cons nil" => (k_here; (rename Fr _ _ _ _ => lF'); (with_unfolding_all (refine' For_invVF lF' (by exact rfl) (by exact rfl) ?_; k_whole)))
  k_with "call ref" => (k_here; (with_reducible show wpAny _ _ (PySem.call (Value.ref 168) [Value.ref _, Value.ref _, Value.ref _, Value.int _ _]) _ _ _); k_dflt (refine' use_li (gat_says (by is_list) (by l_ints) (by k_extra "sa len") (by assumption) (by is_list) (by l_ints) (by k_extra "sa len") (by assumption) (by is_list) (by assumption) (by assumption)) (by k_asm) (by k_asm) (by k_asm) (by k_asm) (by k_asm) (by first | exact rfl | assumption) (by ktr_room) (by ktr_units) ?_; k_whole); intro l' vs' n' h' tk' F' N' i' ne' st'; walk_say "GAT"; (try k_sweep))
  trivial
/-! a while over one int name and two names that hold lists of ints, made anew -/
noncomputable def PowEnd (h₀ : Heap) (L : Addr) (nn nf ns : Str) (m₀ : Str → Option Value) (P : Int → List Int → List Int → Prop) (n : Int) (s : Shared) (f : Flow) (s₂ : Shared) : Prop :=
  (f = .next ∨ f = .cont) ∧ ∃ h' tk m' n' t lf vf cf a ls vs cs b news', s₂ = { s with heap := h', toks := tk } ∧ Fr h₀ L h' m' ∧ News h₀ L h' news' ∧ (lf, listOf vf.toArray cf) ∈ news' ∧ (ls, listOf vs.toArray cs) ∈ news' ∧ IntsAre vf a ∧ IntsAre vs b ∧ 0 ≤ n' ∧ n' < n ∧ P n' a b ∧
    m' nn = some (.int n' t) ∧ m' nf = some (.ref lf) ∧ m' ns = some (.ref ls) ∧ ∀ z, z ≠ nn → z ≠ nf → z ≠ ns → m' z = m₀ z
theorem powEnd_ {h₀ : Heap} {L lf ls : Addr} {nn nf ns : Str} {m₀ m' : Str → Option Value} {P : Int → List Int → List Int → Prop} {n n' : Int} {t : Tok} {s : Shared} {h' : Heap} {tk : Nat} {vf vs : List Value} {cf cs : Nat} {a b : List Int} {news' : List (Addr × Obj)}
    (F : Fr h₀ L h' m') (N : News h₀ L h' news') (h1 : m' nn = some (.int n' t)) (h2 : m' nf = some (.ref lf)) (h3 : m' ns = some (.ref ls)) (k1 : (lf, listOf vf.toArray cf) ∈ news') (k2 : (ls, listOf vs.toArray cs) ∈ news') (i1 : IntsAre vf a) (i2 : IntsAre vs b) (hn : 0 ≤ n') (hn' : n' < n) (hP : P n' a b)
    (hz : ∀ z, z ≠ nn → z ≠ nf → z ≠ ns → m' z = m₀ z) : PowEnd h₀ L nn nf ns m₀ P n s .next { s with heap := h', toks := tk } :=
  ⟨.inl rfl, h', tk, m', n', t, lf, vf, cf, a, ls, vs, cs, b, news', rfl, F, N, k1, k2, i1, i2, hn, hn', hP, h1, h2, h3, hz⟩
section
variable {prog : Program} {w : World} {A : Around} {E : Value → Shared → Prop} {s : Shared} {env : Env} {h₀ : Heap} {L : Addr} {test : PySem.Expr} {body : List Stmt} {pos : Pos} {Q : Flow → Shared → Prop}
theorem while_pow {news : List (Addr × Obj)} {m₀ : Str → Option Value} {n₀ : Int} {t₀ : Tok} {lf ls : Addr} {vf vs : List Value} {cf cs : Nat} {a b : List Int} (nn nf ns : Str) (P : Int → List Int → List Int → Prop) (hnf : nf ≠ nn) (hns : ns ≠ nn) (hfs : ns ≠ nf)
    (F : Fr h₀ L s.heap m₀) (N : News h₀ L s.heap news) (h1 : m₀ nn = some (.int n₀ t₀)) (h2 : m₀ nf = some (.ref lf)) (h3 : m₀ ns = some (.ref ls)) (k1 : (lf, listOf vf.toArray cf) ∈ news) (k2 : (ls, listOf vs.toArray cs) ∈ news) (i1 : IntsAre vf a) (i2 : IntsAre vs b) (hn : 0 ≤ n₀) (hP : P n₀ a b)
    (turn : Hold (∀ (n : Int) (t : Tok) lf vf cf a ls vs cs b h tk, IntsAre vf a → IntsAre vs b → 0 ≤ n → P n a b → Fr h₀ L h (fun z => if z = nn then some (.int n t) else if z = nf then some (.ref lf) else if z = ns then some (.ref ls) else m₀ z) →
      News h₀ L h [(lf, listOf vf.toArray cf), (ls, listOf vs.toArray cs)] →
      wpAny (model prog w) A (isTrue test env (eval test env)) (fun b s₂ =>
        if b = true then wpAny (model prog w) A (execs body env) (PowEnd h₀ L nn nf ns m₀ P n s) E s₂ else Q .next s₂) E { s with heap := h, toks := tk }))
    (hE : PassesOwn (model prog w) A env E) :
    wpAny (model prog w) A (exec (.While test body [] pos) env) Q E s := by
  have ov : ∀ {m₁ : Str → Option Value} {n : Int} {t : Tok} {lf ls : Addr}, m₁ nn = some (.int n t) → m₁ nf = some (.ref lf) → m₁ ns = some (.ref ls) → (∀ z, z ≠ nn → z ≠ nf → z ≠ ns → m₁ z = m₀ z) →
      m₁ = fun z => if z = nn then some (.int n t) else if z = nf then some (.ref lf) else if z = ns then some (.ref ls) else m₀ z := by
    intro m₁ n t lf ls e1 e2 e3 e4
    funext z
    by_cases q1 : z = nn
    · rw [if_pos q1, q1, e1]
    · rw [if_neg q1]
      by_cases q2 : z = nf
      · rw [if_pos q2, q2, e2]
      · rw [if_neg q2]
        by_cases q3 : z = ns
        · rw [if_pos q3, q3, e3]
        · rw [if_neg q3, e4 z q1 q2 q3]
  refine While_inv2 (news := [(lf, listOf vf.toArray cf), (ls, listOf vs.toArray cs)]) (n₀ := n₀.toNat) (fun k m nx => ∃ (n : Int) (t : Tok) (lf : Addr) (vf : List Value) (cf : Nat) (a : List Int) (ls : Addr) (vs : List Value) (cs : Nat) (b : List Int), k = n.toNat ∧ nx = [(lf, listOf vf.toArray cf), (ls, listOf vs.toArray cs)] ∧ IntsAre vf a ∧ IntsAre vs b ∧ 0 ≤ n ∧ P n a b ∧
    m nn = some (.int n t) ∧ m nf = some (.ref lf) ∧ m ns = some (.ref ls) ∧ ∀ z, z ≠ nn → z ≠ nf → z ≠ ns → m z = m₀ z) F (fun p hp => ?_) ⟨n₀, t₀, lf, vf, cf, a, ls, vs, cs, b, rfl, rfl, i1, i2, hn, hP, h1, h2, h3, fun _ _ _ _ => rfl⟩ ?_ hE
  · rcases List.mem_cons.mp hp with rfl | hp
    · exact N _ k1
    · rw [List.mem_singleton.mp hp]; exact N _ k2
  · rintro k m₁ nx h tk F₁ N₁ ⟨n, t, lf, vf, cf, a, ls, vs, cs, b, rfl, rfl, i1, i2, hn, hP, e1, e2, e3, e4⟩
    rw [ov e1 e2 e3 e4] at F₁
    refine wpAny_mono (turn n t lf vf cf a ls vs cs b h tk i1 i2 hn hP F₁ N₁) (fun bb s₂ p => ?_) fun _ _ x => x
    cases bb with
    | false => simpa using p
    | true =>
      simp only [if_true] at p ⊢
      refine wpAny_mono p (fun f s₃ q => ?_) fun _ _ x => x
      obtain ⟨hf, h', tk', m', n', t', lf', vf', cf', a', ls', vs', cs', b', news', rfl, F', N', j1, j2, j3, j4, j5, j6, j7, e1', e2', e3', e4'⟩ := q
      have fin : ∃ h'' tk m₂ news₂ n'', ({ s with heap := h', toks := tk' } : Shared) = { s with heap := h'', toks := tk } ∧ Fr h₀ L h'' m₂ ∧ News h₀ L h'' news₂ ∧ n'' < n.toNat ∧ (∃ (n : Int) (t : Tok) (lf : Addr) (vf : List Value) (cf : Nat) (a : List Int) (ls : Addr) (vs : List Value) (cs : Nat) (b : List Int), n'' = n.toNat ∧ news₂ = [(lf, listOf vf.toArray cf), (ls, listOf vs.toArray cs)] ∧ IntsAre vf a ∧ IntsAre vs b ∧ 0 ≤ n ∧ P n a b ∧
          m₂ nn = some (.int n t) ∧ m₂ nf = some (.ref lf) ∧ m₂ ns = some (.ref ls) ∧ ∀ z, z ≠ nn → z ≠ nf → z ≠ ns → m₂ z = m₀ z) := by
        refine ⟨h', tk', m', [(lf', listOf vf'.toArray cf'), (ls', listOf vs'.toArray cs')], n'.toNat, rfl, F', fun p hp => ?_, by omega, n', t', lf', vf', cf', a', ls', vs', cs', b', rfl, rfl, j3, j4, j5, j7, e1', e2', e3', e4'⟩
        rcases List.mem_cons.mp hp with rfl | hp
        · exact N' _ j1
        · rw [List.mem_singleton.mp hp]; exact N' _ j2
      rcases hf with rfl | rfl
      · exact fin
      · exact fin
end

theorem anew_78_gfpow : True := by
  w_top off
  k_with_none
  k_with "sa enter" => (refine wpAny_call ?_; k_dflt (refine' enter_pure ?k1 ?k2 ?k3 ?k4 ?kA ?kF ?kK ?k6 ?k7 ?k8 ?k9 ?kB (by assumption) ?_ ?c2 ?c3 ?c4 ?c5; (case kA => exact rfl); (case kF => exact rfl); (case kK => assumption); (case k1 => k_asm); (case k2 => k_asm); (case k3 => k_asm); (case k4 => k_asm); (case k6 => k_is); (case k7 => k_is); (case k8 => ktr_room); (case k9 => exact BindsTo.of_eq rfl); (case c5 => decide); (case kB => exact locs rfl); (case c2 => exact rfl); (case c3 => exact rfl); (case c4 => exact rfl); k_whole); (with_reducible rename Below _ _ _ _ => kB'; clear kB'); (with_reducible rename Fr _ _ _ _ => kB'; clear kB'); (with_reducible rename Top _ _ _ _ _ _ => kB'; clear kB'); (rename Frag.In _ _ => kB'; clear kB'); intro L' h' F' N' B' X' T'; (try dsimp only); (try k_fold))
  k_with "sa leave list" => ((show LeaveP _ _ _ _); refine leaveP_ (by assumption) ⟨_, _, _, rfl, (News.fresh (by assumption) (List.Mem.head _)), (News.get (by assumption) (List.Mem.head _)), ?_⟩)
  k_with "execs cons Assign cons" => ((with_reducible refine wpAny_execs_cons ?_); try dsimp only)
  k_with "sa len" => (first | with_reducible assumption | exact List.length_take_le _ _ | omega | l_fact | ((simp only [rangeKs_length, List.length_map, List.length_append, List.length_cons, List.length_nil] at *); omega))
  k_with "sa enter cells" => (refine wpAny_call ?_; k_dflt (refine' enter_pureC ?k1 ?k2 ?k3 ?k4 ?kA ?kF ?kK ?k6 ?k7 ?k8 ?k9 ?kB ?kD (by assumption) ?_ ?c2 ?c3 ?c4; (case kA => exact rfl); (case kF => exact rfl); (case kK => assumption); (case k1 => k_asm); (case k2 => k_asm); (case k3 => k_asm); (case k4 => k_asm); (case k6 => k_is); (case k7 => k_is); (case k8 => ktr_room); (case k9 => exact BindsTo.of_eq rfl); (case kB => exact rfl); (case kD => decide +kernel); (case c2 => exact rfl); (case c3 => exact rfl); (case c4 => exact rfl); k_whole); (with_reducible rename Below _ _ _ _ => kB'; clear kB'); (with_reducible rename Fr _ _ _ _ => kB'; clear kB'); (with_reducible rename Top _ _ _ _ _ _ => kB'; clear kB'); (rename Frag.In _ _ => kB'; clear kB'); intro L' h' tk' cells' F' N' Y' B' X' T'; k_cells Y'; (try simp only [List.cons_append, List.nil_append, List.append_nil] at N'); (try dsimp only); (try k_fold))
  k_with "sa ne" => (first | with_reducible assumption | (refine Ne.symm ?_; with_reducible assumption) | (refine Nat.ne_of_gt ?_; assumption) | (refine Nat.ne_of_lt ?_; assumption) | ((rename _ ∧ _ => h9); first | (refine Ne.symm ?_; simp only [h9, ne_eq, not_false_eq_true]; done) | (simp only [h9, ne_eq, not_false_eq_true]; done) | (refine Nat.ne_of_gt ?_; simp only [h9]; done) | (refine Nat.ne_of_lt ?_; simp only [h9]; done) | (clear h9; k_extra "sa ne")))
  k_with "call ref" => (k_here; (with_reducible show wpAny _ _ (PySem.call (Value.ref 55) [Value.ref _]) _ _ _); k_dflt (refine' use_li (mtrim_says (by is_list) (by l_ints) (by k_extra "sa len")) (by k_asm) (by k_asm) (by k_asm) (by k_asm) (by k_asm) (by first | exact rfl | assumption) (by ktr_room) (by ktr_units) ?_; k_whole); intro l' vs' n' h' tk' F' N' i' ne' st'; (try simp only [List.forall_mem_cons, List.not_mem_nil, false_implies, implies_true, and_true] at ne'); (try k_sweep); walk_say "MTRIM"; (rename IntsAre _ (trimF _) => hI9); (have hC9 := trimF_lenI hI9))
  k_with "call ref" => (k_here; (with_reducible show wpAny _ _ (PySem.call (Value.ref 69) [Value.ref _, Value.ref _, Value.int _ _]) _ _ _); k_dflt (refine' use_li (madd_says (by is_list) (by l_ints) (by k_extra "sa len") (by is_list) (by l_ints) (by k_extra "sa len") (by omega) (by omega)) (by k_asm) (by k_asm) (by k_asm) (by k_asm) (by k_asm) (by first | exact rfl | assumption) (by ktr_room) (by ktr_units) ?_; k_whole); intro l' vs' n' h' tk' F' N' i' ne' st'; (try simp only [List.forall_mem_cons, List.not_mem_nil, false_implies, implies_true, and_true] at ne'); (try k_sweep); walk_say "MADD")
  k_with "call ref" => (k_here; (with_reducible show wpAny _ _ (PySem.call (Value.ref 86) [Value.ref _, Value.int _ _, Value.int _ _]) _ _ _); k_dflt (refine' use_li (mscale_says (by is_list) (by l_ints) (by k_extra "sa len") (by omega) (by omega) (by omega) (by omega)) (by k_asm) (by k_asm) (by k_asm) (by k_asm) (by k_asm) (by first | exact rfl | assumption) (by ktr_room) (by ktr_units) ?_; k_whole); intro l' vs' n' h' tk' F' N' i' ne' st'; (try simp only [List.forall_mem_cons, List.not_mem_nil, false_implies, implies_true, and_true] at ne'); (try k_sweep); walk_say "MSCALE")
  k_with "call ref" => (k_here; (with_reducible show wpAny _ _ (PySem.call (Value.ref 93) [Value.ref _, Value.ref _, Value.int _ _]) _ _ _); k_dflt (refine' use_li (mmul_says (by is_list) (by l_ints) (by k_extra "sa len") (by assumption) (by is_list) (by l_ints) (by k_extra "sa len") (by omega) (by omega)) (by k_asm) (by k_asm) (by k_asm) (by k_asm) (by k_asm) (by first | exact rfl | assumption) (by ktr_room) (by ktr_units) ?_; k_whole); intro l' vs' n' h' tk' F' N' i' ne' st'; (try simp only [List.forall_mem_cons, List.not_mem_nil, false_implies, implies_true, and_true] at ne'); (try k_sweep); walk_say "MMUL")
  k_with "call ref" => (k_here; (with_reducible show wpAny _ _ (PySem.call (Value.ref 48) [Value.int _ _, Value.int _ _]) _ _ _); k_dflt (refine' use_int (inv_says (by first | assumption | decide) (by first | assumption | omega)) (by k_asm) (by k_asm) (by k_asm) (by k_asm) (by k_asm) (by first | exact rfl | assumption) (by ktr_room) (by ktr_units) ?_; k_whole); intro t1' h' tk' F' N' st'; (try k_sweep); walk_say "INV")
  k_with "call ref" => (k_here; (with_reducible show wpAny _ _ (PySem.call (Value.ref 100) [Value.ref _, Value.ref _, Value.int _ _]) _ _ _); k_dflt (refine' use_p2 (mdivmod_says (by is_list) (by l_ints) (by k_extra "sa len") (by is_list) (by l_ints) (by k_extra "sa len") (by k_extra "sa len") (by assumption) (by assumption) (by assumption)) (by k_asm) (by k_asm) (by k_asm) (by k_asm) (by k_asm) (by first | exact rfl | assumption) (by ktr_room) (by ktr_units) ?_; k_whole); intro l' v1' l2' n' vs' c' h' tk' F' N' i' ne' ne2' st'; walk_say "MDIVMOD"; (try simp only [List.forall_mem_cons, List.not_mem_nil, false_implies, implies_true, and_true] at ne' ne2'); (try k_sweep))
  k_with "call ref" => (k_here; (with_reducible show wpAny _ _ (PySem.call (Value.ref 147) [Value.ref _, Value.ref _, Value.ref _, Value.int _ _]) _ _ _); k_dflt (refine' use_li (gmul_says (by is_list) (by l_ints) (by k_extra "sa len") (by first | assumption | exact small_nil) (by is_list) (by l_ints) (by k_extra "sa len") (by is_list) (by assumption) (by assumption)) (by k_asm) (by k_asm) (by k_asm) (by k_asm) (by k_asm) (by first | exact rfl | assumption) (by ktr_room) (by ktr_units) ?_; k_whole); intro l' vs' n' h' tk' F' N' i' ne' st'; (try simp only [List.forall_mem_cons, List.not_mem_nil, false_implies, implies_true, and_true] at ne'); (try k_sweep); walk_say "GMUL"; (rename IntsAre _ (gmulF _ _ _ _) => hI9); (have hC9 := gmulF_lenI hI9))
  k_with "call ref" => (k_here; (with_reducible show wpAny _ _ (PySem.call (Value.ref 86) [Value.ref _, Value.int _ _, Value.int _ _]) _ _ _); k_dflt (refine' use_li (mscale_says (by is_list) (by l_ints) (by k_extra "sa len") (by omega) (by omega) (by omega) (by omega)) (by k_asm) (by k_asm) (by k_asm) (by k_asm) (by k_asm) (by first | exact rfl | assumption) (by ktr_room) (by ktr_units) ?_; k_whole); intro l' vs' n' h' tk' F' N' i' ne' st'; (try simp only [List.forall_mem_cons, List.not_mem_nil, false_implies, implies_true, and_true] at ne'); (try k_sweep); walk_say "MSCALE2"; (rename IntsAre _ (mscaleF _ _ _) => hI9); (have hC9 := mscaleF_lenI hI9); (try simp only [List.length_cons, List.length_nil] at hC9))
  k_with "call ref" => (k_here; (with_reducible show wpAny _ _ (PySem.call (Value.ref 69) [Value.ref _, Value.ref _, Value.int _ _]) _ _ _); k_dflt (refine' use_li (madd_says (by is_list) (by l_ints) (by k_extra "sa len") (by is_list) (by l_ints) (by k_extra "sa len") (by omega) (by omega)) (by k_asm) (by k_asm) (by k_asm) (by k_asm) (by k_asm) (by first | exact rfl | assumption) (by ktr_room) (by ktr_units) ?_; k_whole); intro l' vs' n' h' tk' F' N' i' ne' st'; (try simp only [List.forall_mem_cons, List.not_mem_nil, false_implies, implies_true, and_true] at ne'); (try k_sweep); walk_say "MADD2"; (rename IntsAre _ (maddF _ _ _) => hI9); (have hC9 := maddF_lenI hI9))
  k_with "exec For Name Subscript cons nil" => (k_here; (rename Fr _ _ _ _ => lF'); (with_unfolding_all (refine' For_invVF lF' (by exact rfl) (by exact rfl) ?_; k_whole)))
  k_with "exec For Name Name cons nil" => (k_here; (rename Fr _ _ _ _ => lF'); (with_unfolding_all (refine' For_invVF lF' (by exact rfl) (by exact rfl) ?_; k_whole)))
  k_with "call ref" => (k_here; (with_reducible show wpAny _ _ (PySem.call (Value.ref 168) [Value.ref _, Value.ref _, Value.ref _, Value.int _ _]) _ _ _); k_dflt (refine' use_li (gat_says (by is_list) (by l_ints) (by k_extra "sa len") (by assumption) (by is_list) (by l_ints) (by k_extra "sa len") (by assumption) (by is_list) (by assumption) (by assumption)) (by k_asm) (by k_asm) (by k_asm) (by k_asm) (by k_asm) (by first | exact rfl | assumption) (by ktr_room) (by ktr_units) ?_; k_whole); intro l' vs' n' h' tk' F' N' i' ne' st'; walk_say "GAT"; (try k_sweep))
  trivial
noncomputable def powLoop (ms : List Int) (q : Int) : Nat → Nat → List Int → List Int → List Int
  | 0, _, f, _ => f
  | k + 1, n, f, s => if n = 0 then f else powLoop ms q k (n / 2) (if n % 2 = 1 then gmulF f s ms q else f) (if 0 < n / 2 then gmulF s s ms q else s)
noncomputable def powF (a : List Int) (n : Int) (ms : List Int) (q : Int) : List Int := powLoop ms q 9 n.toNat [1] a
noncomputable def PowP (as ms : List Int) (q n₀ : Int) (n : Int) (f b : List Int) : Prop := (∃ k, n.toNat ≤ k ∧ powLoop ms q k n.toNat f b = powF as n₀ ms q) ∧ n ≤ 8 ∧ Small f ∧ Small b ∧ f.length ≤ 10 ∧ b.length ≤ 10
theorem powP_0 {as ms : List Int} {q n : Int} (h8 : n ≤ 8) (hA : Small as) (hl : as.length ≤ 10) : PowP as ms q n n [1] as :=
  ⟨⟨9, by omega, rfl⟩, h8, (fun y hy => by rw [List.mem_singleton.mp hy]; decide), hA, by decide, hl⟩
theorem fdiv2 (n : Int) : n.fdiv 2 = n / 2 := Int.fdiv_eq_ediv_of_nonneg n (by decide)
theorem fmod2 (n : Int) : n.fmod 2 = n % 2 := Int.fmod_eq_emod_of_nonneg n (by decide)
theorem fdiv2_lo {n : Int} (h : 0 ≤ n) : 0 ≤ n.fdiv 2 := by rw [fdiv2]; omega
theorem fdiv2_lt {n : Int} (h : 0 < n) : n.fdiv 2 < n := by rw [fdiv2]; omega
theorem fdiv2_even {n : Int} (h : 0 < n) (h' : n.fmod 2 ≠ 1) : 0 < n.fdiv 2 := by rw [fdiv2]; rw [fmod2] at h'; omega
theorem powP_step {as ms f b f' b' : List Int} {q n n₁ : Int} (hM : IsMod ms q) (h : PowP as ms q n n₁ f b) (hp : 0 < n₁) (hf : (if n₁.fmod 2 = 1 then gmulF f b ms q else f) = f') (hb : (if 0 < n₁.fdiv 2 then gmulF b b ms q else b) = b') : PowP as ms q n (n₁.fdiv 2) f' b' := by
  obtain ⟨⟨k, hk, e⟩, h8, s1, s2, l1, l2⟩ := h
  have hM5 := hM.prime
  have hM1 := hM.many
  have hq2 : 2 ≤ q := by omega
  have hq7 : q ≤ 7 := by omega
  clear hM5
  have lg : ∀ x y : List Int, (gmulF x y ms q).length ≤ 10 := fun x y => Nat.le_trans mrestF_length (Nat.le_trans (Nat.sub_le _ _) (Nat.le_trans hM1 (by decide)))
  have sg : ∀ x y : List Int, Small (gmulF x y ms q) := fun x y => mrestF_small hq2 hq7 (mmulF_small hq2 hq7)
  obtain ⟨N, rfl⟩ : ∃ N : Nat, n₁ = (N : Int) := ⟨n₁.toNat, (Int.toNat_of_nonneg (Int.le_of_lt hp)).symm⟩
  have hN : 0 < N := Int.ofNat_lt.mp hp
  rw [Int.toNat_natCast] at hk e
  obtain ⟨j, rfl⟩ : ∃ j, k = j + 1 := ⟨k - 1, by omega⟩
  have e1 : ((N : Int).fdiv 2) = ((N / 2 : Nat) : Int) := by rw [fdiv2]; rfl
  have e2 : ((N : Int).fmod 2 = 1) = (N % 2 = 1) := by rw [fmod2]; exact propext ⟨fun h => Int.ofNat.inj h, fun h => congrArg Int.ofNat h⟩
  have e3 : (0 < (N : Int).fdiv 2) = (0 < N / 2) := by rw [e1]; exact propext ⟨fun h => Int.ofNat_lt.mp h, fun h => Int.ofNat_lt.mpr h⟩
  simp only [e2] at hf
  simp only [e3] at hb
  rw [e1]
  have h2 : N / 2 < N := Nat.div_lt_self hN (by decide)
  refine ⟨⟨j, by rw [Int.toNat_natCast]; omega, ?_⟩, by omega, ?_, ?_, ?_, ?_⟩
  · rw [Int.toNat_natCast, ← e, powLoop, if_neg (Nat.ne_of_gt hN), hf, hb]
  · rw [← hf]; split <;> first | exact sg _ _ | exact s1
  · rw [← hb]; split <;> first | exact sg _ _ | exact s2
  · rw [← hf]; split <;> first | exact lg _ _ | exact l1
  · rw [← hb]; split <;> first | exact lg _ _ | exact l2
theorem powP_end {as ms f b : List Int} {q n n₁ : Int} (h : PowP as ms q n n₁ f b) (hz : n₁ ≤ 0) : f = powF as n ms q := by
  obtain ⟨⟨k, hk, e⟩, _⟩ := h
  rw [← e, show n₁.toNat = 0 by omega]
  cases k with
  | zero => rfl
  | succ k => rw [powLoop, if_pos rfl]
section
variable {prog : Program} {w : World} {p : Program} {loose : List Str} {mean : ExcName → Option Value} {mg mb : Str → Option Value}
set_option maxHeartbeats 2000000 in
theorem gpow_says {s : Shared} {la lm : Addr} {va vm : List Value} {as ms : List Int} {n q : Int} {tn tq : Tok} (hla : s.heap.IsList la va.toArray) (hia : IntsAre va as) (hna : as.length ≤ 10) (hA : Small as) (hn0 : 0 ≤ n) (hn8 : n ≤ 8)
    (hlm : s.heap.IsList lm vm.toArray) (him : IntsAre vm ms) (hM : IsMod ms q) :
    Says prog w p loose mean mg mb 161 [.ref la, .int n tn, .ref lm, .int q tq] s 20 (fun v h' => NewLI s.heap v h' (powF as n ms q)) := by
  intro dp un gd cn cs a ccd cl outer A₀ base h₀ L m Q E B F X T hk hd hu hret
  have hM5 := hM.prime
  have hM1 := hM.many
  have hq2 : 2 ≤ q := by omega
  have hq7 : q ≤ 7 := by omega
  walk_at "sa enter"
  k_with "exec While Compare cons nil" => ((rename Fr _ _ _ _ => kF'); (rename News _ _ _ _ => kN'); (with_unfolding_all refine' while_pow (Str.ofString "n") (Str.ofString "found") (Str.ofString "square") (PowP as ms q n) (by decide) (by decide) (by decide) ?hF ?hN ?h1 ?h2 ?h3 ?k1 ?k2 ?i1 ?i2 hn0 ?hP ?turn ?hE); (case hF => exact kF'); (case hN => exact kN'); (case h1 => exact rfl); (case h2 => exact rfl); (case h3 => exact rfl); (case k1 => k_mem); (case k2 => k_mem); (case i1 => l_ints); (case i2 => assumption); (case hE => exact PassesOwn.never); (case hP => exact powP_0 hn8 hA hna))
  k_steps
  case turn =>
    unfold Hold
    (rename Fr _ _ _ _ => kF'; clear kF')
    (rename News _ _ _ _ => kN'; clear kN')
    intro n1 t1 lf vf cf f1 ls vs cs1 b1 h1 tk1 i1 i2 hn1 hP F1 N1
    have hP2 := hP.2.1
    have hP3 := hP.2.2.1
    have hP4 := hP.2.2.2.1
    have hP5 := hP.2.2.2.2.1
    have hP6 := hP.2.2.2.2.2
    (try dsimp only)
    (try k_fold)
    k_steps
    · refine powEnd_ (n' := n1.fdiv 2) (by assumption) (by assumption) rfl rfl rfl (by k_mem) (by k_mem) (by assumption) (by assumption) (fdiv2_lo hn1) (fdiv2_lt (by assumption)) (powP_step hM hP (by assumption) (if_pos (by assumption)) (if_pos (by assumption))) ?_
      intro z h1 h2 h3
      simp [h1, h2, h3]
    · refine powEnd_ (n' := n1.fdiv 2) (by assumption) (by assumption) rfl rfl rfl (by k_mem) (by k_mem) (by assumption) i2 (fdiv2_lo hn1) (fdiv2_lt (by assumption)) (powP_step hM hP (by assumption) (if_pos (by assumption)) (if_neg (by assumption))) ?_
      intro z h1 h2 h3
      simp [h1, h2, h3]
    · refine powEnd_ (n' := n1.fdiv 2) (by assumption) (by assumption) rfl rfl rfl (by k_mem) (by k_mem) i1 (by assumption) (fdiv2_lo hn1) (fdiv2_lt (by assumption)) (powP_step hM hP (by assumption) (if_neg (by assumption)) (if_pos (fdiv2_even (by assumption) (by assumption)))) ?_
      intro z h1 h2 h3
      simp [h1, h2, h3]
    · show LeaveP _ _ _ _
      refine leaveP_ F1 ⟨_, _, _, rfl, N1.fresh (List.Mem.head _), N1.get (List.Mem.head _), ?_⟩
      rw [← powP_end hP (by omega)]
      exact i1
end

theorem anew_79_while2 : True := by
  w_top off
  k_with_none
  k_with "sa enter" => (refine wpAny_call ?_; k_dflt (refine' enter_pure ?k1 ?k2 ?k3 ?k4 ?kA ?kF ?kK ?k6 ?k7 ?k8 ?k9 ?kB (by assumption) ?_ ?c2 ?c3 ?c4 ?c5; (case kA => exact rfl); (case kF => exact rfl); (case kK => assumption); (case k1 => k_asm); (case k2 => k_asm); (case k3 => k_asm); (case k4 => k_asm); (case k6 => k_is); (case k7 => k_is); (case k8 => ktr_room); (case k9 => exact BindsTo.of_eq rfl); (case c5 => decide); (case kB => exact locs rfl); (case c2 => exact rfl); (case c3 => exact rfl); (case c4 => exact rfl); k_whole); (with_reducible rename Below _ _ _ _ => kB'; clear kB'); (with_reducible rename Fr _ _ _ _ => kB'; clear kB'); (with_reducible rename Top _ _ _ _ _ _ => kB'; clear kB'); (rename Frag.In _ _ => kB'; clear kB'); intro L' h' F' N' B' X' T'; (try dsimp only); (try k_fold))
  k_with "sa leave list" => ((show LeaveP _ _ _ _); refine leaveP_ (by assumption) ⟨_, _, _, rfl, (News.fresh (by assumption) (List.Mem.head _)), (News.get (by assumption) (List.Mem.head _)), ?_⟩)
  k_with "execs cons Assign cons" => ((with_reducible refine wpAny_execs_cons ?_); try dsimp only)
  k_with "sa len" => (first | with_reducible assumption | exact List.length_take_le _ _ | omega | l_fact | ((simp only [rangeKs_length, List.length_map, List.length_append, List.length_cons, List.length_nil] at *); omega))
  k_with "sa enter cells" => (refine wpAny_call ?_; k_dflt (refine' enter_pureC ?k1 ?k2 ?k3 ?k4 ?kA ?kF ?kK ?k6 ?k7 ?k8 ?k9 ?kB ?kD (by assumption) ?_ ?c2 ?c3 ?c4; (case kA => exact rfl); (case kF => exact rfl); (case kK => assumption); (case k1 => k_asm); (case k2 => k_asm); (case k3 => k_asm); (case k4 => k_asm); (case k6 => k_is); (case k7 => k_is); (case k8 => ktr_room); (case k9 => exact BindsTo.of_eq rfl); (case kB => exact rfl); (case kD => decide +kernel); (case c2 => exact rfl); (case c3 => exact rfl); (case c4 => exact rfl); k_whole); (with_reducible rename Below _ _ _ _ => kB'; clear kB'); (with_reducible rename Fr _ _ _ _ => kB'; clear kB'); (with_reducible rename Top _ _ _ _ _ _ => kB'; clear kB'); (rename Frag.In _ _ => kB'; clear kB'); intro L' h' tk' cells' F' N' Y' B' X' T'; k_cells Y'; (try simp only [List.cons_append, List.nil_append, List.append_nil] at N'); (try dsimp only); (try k_fold))
  k_with "sa ne" => (first | with_reducible assumption | (refine Ne.symm ?_; with_reducible assumption) | (refine Nat.ne_of_gt ?_; assumption) | (refine Nat.ne_of_lt ?_; assumption) | ((rename _ ∧ _ => h9); first | (refine Ne.symm ?_; simp only [h9, ne_eq, not_false_eq_true]; done) | (simp only [h9, ne_eq, not_false_eq_true]; done) | (refine Nat.ne_of_gt ?_; simp only [h9]; done) | (refine Nat.ne_of_lt ?_; simp only [h9]; done) | (clear h9; k_extra "sa ne")))
  k_with "call ref" => (k_here; (with_reducible show wpAny _ _ (PySem.call (Value.ref 55) [Value.ref _]) _ _ _); k_dflt (refine' use_li (mtrim_says (by is_list) (by l_ints) (by k_extra "sa len")) (by k_asm) (by k_asm) (by k_asm) (by k_asm) (by k_asm) (by first | exact rfl | assumption) (by ktr_room) (by ktr_units) ?_; k_whole); intro l' vs' n' h' tk' F' N' i' ne' st'; (try simp only [List.forall_mem_cons, List.not_mem_nil, false_implies, implies_true, and_true] at ne'); (try k_sweep); walk_say "MTRIM"; (rename IntsAre _ (trimF _) => hI9); (have hC9 := trimF_lenI hI9))
  k_with "call ref" => (k_here; (with_reducible show wpAny _ _ (PySem.call (Value.ref 69) [Value.ref _, Value.ref _, Value.int _ _]) _ _ _); k_dflt (refine' use_li (madd_says (by is_list) (by l_ints) (by k_extra "sa len") (by is_list) (by l_ints) (by k_extra "sa len") (by omega) (by omega)) (by k_asm) (by k_asm) (by k_asm) (by k_asm) (by k_asm) (by first | exact rfl | assumption) (by ktr_room) (by ktr_units) ?_; k_whole); intro l' vs' n' h' tk' F' N' i' ne' st'; (try simp only [List.forall_mem_cons, List.not_mem_nil, false_implies, implies_true, and_true] at ne'); (try k_sweep); walk_say "MADD")
  k_with "call ref" => (k_here; (with_reducible show wpAny _ _ (PySem.call (Value.ref 86) [Value.ref _, Value.int _ _, Value.int _ _]) _ _ _); k_dflt (refine' use_li (mscale_says (by is_list) (by l_ints) (by k_extra "sa len") (by omega) (by omega) (by omega) (by omega)) (by k_asm) (by k_asm) (by k_asm) (by k_asm) (by k_asm) (by first | exact rfl | assumption) (by ktr_room) (by ktr_units) ?_; k_whole); intro l' vs' n' h' tk' F' N' i' ne' st'; (try simp only [List.forall_mem_cons, List.not_mem_nil, false_implies, implies_true, and_true] at ne'); (try k_sweep); walk_say "MSCALE")
  k_with "call ref" => (k_here; (with_reducible show wpAny _ _ (PySem.call (Value.ref 93) [Value.ref _, Value.ref _, Value.int _ _]) _ _ _); k_dflt (refine' use_li (mmul_says (by is_list) (by l_ints) (by k_extra "sa len") (by assumption) (by is_list) (by l_ints) (by k_extra "sa len") (by omega) (by omega)) (by k_asm) (by k_asm) (by k_asm) (by k_asm) (by k_asm) (by first | exact rfl | assumption) (by ktr_room) (by ktr_units) ?_; k_whole); intro l' vs' n' h' tk' F' N' i' ne' st'; (try simp only [List.forall_mem_cons, List.not_mem_nil, false_implies, implies_true, and_true] at ne'); (try k_sweep); walk_say "MMUL")
  k_with "call ref" => (k_here; (with_reducible show wpAny _ _ (PySem.call (Value.ref 48) [Value.int _ _, Value.int _ _]) _ _ _); k_dflt (refine' use_int (inv_says (by first | assumption | decide) (by first | assumption | omega)) (by k_asm) (by k_asm) (by k_asm) (by k_asm) (by k_asm) (by first | exact rfl | assumption) (by ktr_room) (by ktr_units) ?_; k_whole); intro t1' h' tk' F' N' st'; (try k_sweep); walk_say "INV")
  k_with "call ref" => (k_here; (with_reducible show wpAny _ _ (PySem.call (Value.ref 100) [Value.ref _, Value.ref _, Value.int _ _]) _ _ _); k_dflt (refine' use_p2 (mdivmod_says (by is_list) (by l_ints) (by k_extra "sa len") (by is_list) (by l_ints) (by k_extra "sa len") (by k_extra "sa len") (by assumption) (by assumption) (by assumption)) (by k_asm) (by k_asm) (by k_asm) (by k_asm) (by k_asm) (by first | exact rfl | assumption) (by ktr_room) (by ktr_units) ?_; k_whole); intro l' v1' l2' n' vs' c' h' tk' F' N' i' ne' ne2' st'; walk_say "MDIVMOD"; (try simp only [List.forall_mem_cons, List.not_mem_nil, false_implies, implies_true, and_true] at ne' ne2'); (try k_sweep))
  k_with "call ref" => (k_here; (with_reducible show wpAny _ _ (PySem.call (Value.ref 147) [Value.ref _, Value.ref _, Value.ref _, Value.int _ _]) _ _ _); k_dflt (refine' use_li (gmul_says (by is_list) (by l_ints) (by k_extra "sa len") (by first | assumption | exact small_nil) (by is_list) (by l_ints) (by k_extra "sa len") (by is_list) (by assumption) (by assumption)) (by k_asm) (by k_asm) (by k_asm) (by k_asm) (by k_asm) (by first | exact rfl | assumption) (by ktr_room) (by ktr_units) ?_; k_whole); intro l' vs' n' h' tk' F' N' i' ne' st'; (try simp only [List.forall_mem_cons, List.not_mem_nil, false_implies, implies_true, and_true] at ne'); (try k_sweep); walk_say "GMUL"; (rename IntsAre _ (gmulF _ _ _ _) => hI9); (have hC9 := gmulF_lenI hI9))
  k_with "call ref" => (k_here; (with_reducible show wpAny _ _ (PySem.call (Value.ref 86) [Value.ref _, Value.int _ _, Value.int _ _]) _ _ _); k_dflt (refine' use_li (mscale_says (by is_list) (by l_ints) (by k_extra "sa len") (by omega) (by omega) (by omega) (by omega)) (by k_asm) (by k_asm) (by k_asm) (by k_asm) (by k_asm) (by first | exact rfl | assumption) (by ktr_room) (by ktr_units) ?_; k_whole); intro l' vs' n' h' tk' F' N' i' ne' st'; (try simp only [List.forall_mem_cons, List.not_mem_nil, false_implies, implies_true, and_true] at ne'); (try k_sweep); walk_say "MSCALE2"; (rename IntsAre _ (mscaleF _ _ _) => hI9); (have hC9 := mscaleF_lenI hI9); (try simp only [List.length_cons, List.length_nil] at hC9))
  k_with "call ref" => (k_here; (with_reducible show wpAny _ _ (PySem.call (Value.ref 69) [Value.ref _, Value.ref _, Value.int _ _]) _ _ _); k_dflt (refine' use_li (madd_says (by is_list) (by l_ints) (by k_extra "sa len") (by is_list) (by l_ints) (by k_extra "sa len") (by omega) (by omega)) (by k_asm) (by k_asm) (by k_asm) (by k_asm) (by k_asm) (by first | exact rfl | assumption) (by ktr_room) (by ktr_units) ?_; k_whole); intro l' vs' n' h' tk' F' N' i' ne' st'; (try simp only [List.forall_mem_cons, List.not_mem_nil, false_implies, implies_true, and_true] at ne'); (try k_sweep); walk_say "MADD2"; (rename IntsAre _ (maddF _ _ _) => hI9); (have hC9 := maddF_lenI hI9))
  k_with "exec For Name Subscript cons nil" => (k_here; (rename Fr _ _ _ _ => lF'); (with_unfolding_all (refine' For_invVF lF' (by exact rfl) (by exact rfl) ?_; k_whole)))
  k_with "exec For Name Name cons nil" => (k_here; (rename Fr _ _ _ _ => lF'); (with_unfolding_all (refine' For_invVF lF' (by exact rfl) (by exact rfl) ?_; k_whole)))
  k_with "call ref" => (k_here; (with_reducible show wpAny _ _ (PySem.call (Value.ref 168) [Value.ref _, Value.ref _, Value.ref _, Value.int _ _]) _ _ _); k_dflt (refine' use_li (gat_says (by is_list) (by l_ints) (by k_extra "sa len") (by assumption) (by is_list) (by l_ints) (by k_extra "sa len") (by assumption) (by is_list) (by assumption) (by assumption)) (by k_asm) (by k_asm) (by k_asm) (by k_asm) (by k_asm) (by first | exact rfl | assumption) (by ktr_room) (by ktr_units) ?_; k_whole); intro l' vs' n' h' tk' F' N' i' ne' st'; walk_say "GAT"; (try k_sweep))
  k_with "call ref" => (k_here; (with_reducible show wpAny _ _ (PySem.call (Value.ref 161) [Value.ref _, Value.int _ _, Value.ref _, Value.int _ _]) _ _ _); k_dflt (refine' use_li (gpow_says (by is_list) (by l_ints) (by k_extra "sa len") (by assumption) (by omega) (by omega) (by is_list) (by assumption) (by assumption)) (by k_asm) (by k_asm) (by k_asm) (by k_asm) (by k_asm) (by first | exact rfl | assumption) (by ktr_room) (by ktr_units) ?_; k_whole); intro l' vs' n' h' tk' F' N' i' ne' st'; walk_say "GPOW"; (try k_sweep))
  trivial
/-! a while over one int name and one list of ints that it changes -/
noncomputable def CntEnd (h₀ : Heap) (L D : Addr) (nn : Str) (m₀ : Str → Option Value) (P : Int → List Int → Prop) (n : Int) (s : Shared) (f : Flow) (s₂ : Shared) : Prop :=
  (f = .next ∨ f = .cont) ∧ ∃ h' tk m' n' t us c a news', s₂ = { s with heap := h', toks := tk } ∧ Fr h₀ L h' m' ∧ News h₀ L h' news' ∧ (D, listOf us.toArray c) ∈ news' ∧ IntsAre us a ∧ 0 ≤ n' ∧ n' < n ∧ P n' a ∧ m' nn = some (.int n' t) ∧ ∀ z, z ≠ nn → m' z = m₀ z
theorem cntEnd_ {h₀ : Heap} {L D : Addr} {nn : Str} {m₀ m' : Str → Option Value} {P : Int → List Int → Prop} {n n' : Int} {t : Tok} {s : Shared} {h' : Heap} {tk : Nat} {us : List Value} {c : Nat} {a : List Int} {news' : List (Addr × Obj)}
    (F : Fr h₀ L h' m') (N : News h₀ L h' news') (h1 : m' nn = some (.int n' t)) (k1 : (D, listOf us.toArray c) ∈ news') (i1 : IntsAre us a) (hn : 0 ≤ n') (hn' : n' < n) (hP : P n' a) (hz : ∀ z, z ≠ nn → m' z = m₀ z) : CntEnd h₀ L D nn m₀ P n s .next { s with heap := h', toks := tk } :=
  ⟨.inl rfl, h', tk, m', n', t, us, c, a, news', rfl, F, N, k1, i1, hn, hn', hP, h1, hz⟩
section
variable {prog : Program} {w : World} {A : Around} {E : Value → Shared → Prop} {s : Shared} {env : Env} {h₀ : Heap} {L : Addr} {test : PySem.Expr} {body : List Stmt} {pos : Pos} {Q : Flow → Shared → Prop}
theorem while_cnt {news : List (Addr × Obj)} {m₀ : Str → Option Value} {n₀ : Int} {t₀ : Tok} {D : Addr} {us : List Value} {c : Nat} {a : List Int} (nn : Str) (P : Int → List Int → Prop)
    (F : Fr h₀ L s.heap m₀) (N : News h₀ L s.heap news) (h1 : m₀ nn = some (.int n₀ t₀)) (k1 : (D, listOf us.toArray c) ∈ news) (i1 : IntsAre us a) (hn : 0 ≤ n₀) (hP : P n₀ a)
    (turn : Hold (∀ (n : Int) (t : Tok) us c a h tk, IntsAre us a → 0 ≤ n → P n a → Fr h₀ L h (fun z => if z = nn then some (.int n t) else m₀ z) → News h₀ L h [(D, listOf us.toArray c)] →
      wpAny (model prog w) A (isTrue test env (eval test env)) (fun b s₂ =>
        if b = true then wpAny (model prog w) A (execs body env) (CntEnd h₀ L D nn m₀ P n s) E s₂ else Q .next s₂) E { s with heap := h, toks := tk }))
    (hE : PassesOwn (model prog w) A env E) :
    wpAny (model prog w) A (exec (.While test body [] pos) env) Q E s := by
  have ov : ∀ {m₁ : Str → Option Value} {n : Int} {t : Tok}, m₁ nn = some (.int n t) → (∀ z, z ≠ nn → m₁ z = m₀ z) → m₁ = fun z => if z = nn then some (.int n t) else m₀ z := by
    intro m₁ n t e1 e4
    funext z
    by_cases q1 : z = nn
    · rw [if_pos q1, q1, e1]
    · rw [if_neg q1, e4 z q1]
  refine While_inv2 (news := [(D, listOf us.toArray c)]) (n₀ := n₀.toNat) (fun k m nx => ∃ (n : Int) (t : Tok) (us : List Value) (c : Nat) (a : List Int), k = n.toNat ∧ nx = [(D, listOf us.toArray c)] ∧ IntsAre us a ∧ 0 ≤ n ∧ P n a ∧ m nn = some (.int n t) ∧ ∀ z, z ≠ nn → m z = m₀ z)
    F (fun p hp => by rw [List.mem_singleton.mp hp]; exact N _ k1) ⟨n₀, t₀, us, c, a, rfl, rfl, i1, hn, hP, h1, fun _ _ => rfl⟩ ?_ hE
  rintro k m₁ nx h tk F₁ N₁ ⟨n, t, us, c, a, rfl, rfl, i1, hn, hP, e1, e4⟩
  rw [ov e1 e4] at F₁
  refine wpAny_mono (turn n t us c a h tk i1 hn hP F₁ N₁) (fun bb s₂ p => ?_) fun _ _ x => x
  cases bb with
  | false => simpa using p
  | true =>
    simp only [if_true] at p ⊢
    refine wpAny_mono p (fun f s₃ q => ?_) fun _ _ x => x
    obtain ⟨hf, h', tk', m', n', t', us', c', a', news', rfl, F', N', j1, j3, j5, j6, j7, e1', e4'⟩ := q
    have fin : ∃ h'' tk m₂ news₂ n'', ({ s with heap := h', toks := tk' } : Shared) = { s with heap := h'', toks := tk } ∧ Fr h₀ L h'' m₂ ∧ News h₀ L h'' news₂ ∧ n'' < n.toNat ∧ (∃ (n : Int) (t : Tok) (us : List Value) (c : Nat) (a : List Int), n'' = n.toNat ∧ news₂ = [(D, listOf us.toArray c)] ∧ IntsAre us a ∧ 0 ≤ n ∧ P n a ∧ m₂ nn = some (.int n t) ∧ ∀ z, z ≠ nn → m₂ z = m₀ z) :=
      ⟨h', tk', m', [(D, listOf us'.toArray c')], n'.toNat, rfl, F', (fun p hp => by rw [List.mem_singleton.mp hp]; exact N' _ j1), by omega, n', t', us', c', a', rfl, rfl, j3, j5, j7, e1', e4'⟩
    rcases hf with rfl | rfl
    · exact fin
    · exact fin
end

theorem anew_80_counted : True := by
  w_top off
  k_with_none
  k_with "sa enter" => (refine wpAny_call ?_; k_dflt (refine' enter_pure ?k1 ?k2 ?k3 ?k4 ?kA ?kF ?kK ?k6 ?k7 ?k8 ?k9 ?kB (by assumption) ?_ ?c2 ?c3 ?c4 ?c5; (case kA => exact rfl); (case kF => exact rfl); (case kK => assumption); (case k1 => k_asm); (case k2 => k_asm); (case k3 => k_asm); (case k4 => k_asm); (case k6 => k_is); (case k7 => k_is); (case k8 => ktr_room); (case k9 => exact BindsTo.of_eq rfl); (case c5 => decide); (case kB => exact locs rfl); (case c2 => exact rfl); (case c3 => exact rfl); (case c4 => exact rfl); k_whole); (with_reducible rename Below _ _ _ _ => kB'; clear kB'); (with_reducible rename Fr _ _ _ _ => kB'; clear kB'); (with_reducible rename Top _ _ _ _ _ _ => kB'; clear kB'); (rename Frag.In _ _ => kB'; clear kB'); intro L' h' F' N' B' X' T'; (try dsimp only); (try k_fold))
  k_with "sa leave list" => ((show LeaveP _ _ _ _); refine leaveP_ (by assumption) ⟨_, _, _, rfl, (News.fresh (by assumption) (List.Mem.head _)), (News.get (by assumption) (List.Mem.head _)), ?_⟩)
  k_with "execs cons Assign cons" => ((with_reducible refine wpAny_execs_cons ?_); try dsimp only)
  k_with "sa len" => (first | with_reducible assumption | exact List.length_take_le _ _ | omega | l_fact | ((simp only [rangeKs_length, List.length_map, List.length_append, List.length_cons, List.length_nil] at *); omega))
  k_with "sa enter cells" => (refine wpAny_call ?_; k_dflt (refine' enter_pureC ?k1 ?k2 ?k3 ?k4 ?kA ?kF ?kK ?k6 ?k7 ?k8 ?k9 ?kB ?kD (by assumption) ?_ ?c2 ?c3 ?c4; (case kA => exact rfl); (case kF => exact rfl); (case kK => assumption); (case k1 => k_asm); (case k2 => k_asm); (case k3 => k_asm); (case k4 => k_asm); (case k6 => k_is); (case k7 => k_is); (case k8 => ktr_room); (case k9 => exact BindsTo.of_eq rfl); (case kB => exact rfl); (case kD => decide +kernel); (case c2 => exact rfl); (case c3 => exact rfl); (case c4 => exact rfl); k_whole); (with_reducible rename Below _ _ _ _ => kB'; clear kB'); (with_reducible rename Fr _ _ _ _ => kB'; clear kB'); (with_reducible rename Top _ _ _ _ _ _ => kB'; clear kB'); (rename Frag.In _ _ => kB'; clear kB'); intro L' h' tk' cells' F' N' Y' B' X' T'; k_cells Y'; (try simp only [List.cons_append, List.nil_append, List.append_nil] at N'); (try dsimp only); (try k_fold))
  k_with "sa ne" => (first | with_reducible assumption | (refine Ne.symm ?_; with_reducible assumption) | (refine Nat.ne_of_gt ?_; assumption) | (refine Nat.ne_of_lt ?_; assumption) | ((rename _ ∧ _ => h9); first | (refine Ne.symm ?_; simp only [h9, ne_eq, not_false_eq_true]; done) | (simp only [h9, ne_eq, not_false_eq_true]; done) | (refine Nat.ne_of_gt ?_; simp only [h9]; done) | (refine Nat.ne_of_lt ?_; simp only [h9]; done) | (clear h9; k_extra "sa ne")))
  k_with "call ref" => (k_here; (with_reducible show wpAny _ _ (PySem.call (Value.ref 55) [Value.ref _]) _ _ _); k_dflt (refine' use_li (mtrim_says (by is_list) (by l_ints) (by k_extra "sa len")) (by k_asm) (by k_asm) (by k_asm) (by k_asm) (by k_asm) (by first | exact rfl | assumption) (by ktr_room) (by ktr_units) ?_; k_whole); intro l' vs' n' h' tk' F' N' i' ne' st'; (try simp only [List.forall_mem_cons, List.not_mem_nil, false_implies, implies_true, and_true] at ne'); (try k_sweep); walk_say "MTRIM"; (rename IntsAre _ (trimF _) => hI9); (have hC9 := trimF_lenI hI9))
  k_with "call ref" => (k_here; (with_reducible show wpAny _ _ (PySem.call (Value.ref 69) [Value.ref _, Value.ref _, Value.int _ _]) _ _ _); k_dflt (refine' use_li (madd_says (by is_list) (by l_ints) (by k_extra "sa len") (by is_list) (by l_ints) (by k_extra "sa len") (by omega) (by omega)) (by k_asm) (by k_asm) (by k_asm) (by k_asm) (by k_asm) (by first | exact rfl | assumption) (by ktr_room) (by ktr_units) ?_; k_whole); intro l' vs' n' h' tk' F' N' i' ne' st'; (try simp only [List.forall_mem_cons, List.not_mem_nil, false_implies, implies_true, and_true] at ne'); (try k_sweep); walk_say "MADD")
  k_with "call ref" => (k_here; (with_reducible show wpAny _ _ (PySem.call (Value.ref 86) [Value.ref _, Value.int _ _, Value.int _ _]) _ _ _); k_dflt (refine' use_li (mscale_says (by is_list) (by l_ints) (by k_extra "sa len") (by omega) (by omega) (by omega) (by omega)) (by k_asm) (by k_asm) (by k_asm) (by k_asm) (by k_asm) (by first | exact rfl | assumption) (by ktr_room) (by ktr_units) ?_; k_whole); intro l' vs' n' h' tk' F' N' i' ne' st'; (try simp only [List.forall_mem_cons, List.not_mem_nil, false_implies, implies_true, and_true] at ne'); (try k_sweep); walk_say "MSCALE")
  k_with "call ref" => (k_here; (with_reducible show wpAny _ _ (PySem.call (Value.ref 93) [Value.ref _, Value.ref _, Value.int _ _]) _ _ _); k_dflt (refine' use_li (mmul_says (by is_list) (by l_ints) (by k_extra "sa len") (by assumption) (by is_list) (by l_ints) (by k_extra "sa len") (by omega) (by omega)) (by k_asm) (by k_asm) (by k_asm) (by k_asm) (by k_asm) (by first | exact rfl | assumption) (by ktr_room) (by ktr_units) ?_; k_whole); intro l' vs' n' h' tk' F' N' i' ne' st'; (try simp only [List.forall_mem_cons, List.not_mem_nil, false_implies, implies_true, and_true] at ne'); (try k_sweep); walk_say "MMUL")
  k_with "call ref" => (k_here; (with_reducible show wpAny _ _ (PySem.call (Value.ref 48) [Value.int _ _, Value.int _ _]) _ _ _); k_dflt (refine' use_int (inv_says (by first | assumption | decide) (by first | assumption | omega)) (by k_asm) (by k_asm) (by k_asm) (by k_asm) (by k_asm) (by first | exact rfl | assumption) (by ktr_room) (by ktr_units) ?_; k_whole); intro t1' h' tk' F' N' st'; (try k_sweep); walk_say "INV")
  k_with "call ref" => (k_here; (with_reducible show wpAny _ _ (PySem.call (Value.ref 100) [Value.ref _, Value.ref _, Value.int _ _]) _ _ _); k_dflt (refine' use_p2 (mdivmod_says (by is_list) (by l_ints) (by k_extra "sa len") (by is_list) (by l_ints) (by k_extra "sa len") (by k_extra "sa len") (by assumption) (by assumption) (by assumption)) (by k_asm) (by k_asm) (by k_asm) (by k_asm) (by k_asm) (by first | exact rfl | assumption) (by ktr_room) (by ktr_units) ?_; k_whole); intro l' v1' l2' n' vs' c' h' tk' F' N' i' ne' ne2' st'; walk_say "MDIVMOD"; (try simp only [List.forall_mem_cons, List.not_mem_nil, false_implies, implies_true, and_true] at ne' ne2'); (try k_sweep))
  k_with "call ref" => (k_here; (with_reducible show wpAny _ _ (PySem.call (Value.ref 147) [Value.ref _, Value.ref _, Value.ref _, Value.int _ _]) _ _ _); k_dflt (refine' use_li (gmul_says (by is_list) (by l_ints) (by k_extra "sa len") (by first | assumption | exact small_nil) (by is_list) (by l_ints) (by k_extra "sa len") (by is_list) (by assumption) (by assumption)) (by k_asm) (by k_asm) (by k_asm) (by k_asm) (by k_asm) (by first | exact rfl | assumption) (by ktr_room) (by ktr_units) ?_; k_whole); intro l' vs' n' h' tk' F' N' i' ne' st'; (try simp only [List.forall_mem_cons, List.not_mem_nil, false_implies, implies_true, and_true] at ne'); (try k_sweep); walk_say "GMUL"; (rename IntsAre _ (gmulF _ _ _ _) => hI9); (have hC9 := gmulF_lenI hI9))
  k_with "call ref" => (k_here; (with_reducible show wpAny _ _ (PySem.call (Value.ref 86) [Value.ref _, Value.int _ _, Value.int _ _]) _ _ _); k_dflt (refine' use_li (mscale_says (by is_list) (by l_ints) (by k_extra "sa len") (by omega) (by omega) (by omega) (by omega)) (by k_asm) (by k_asm) (by k_asm) (by k_asm) (by k_asm) (by first | exact rfl | assumption) (by ktr_room) (by ktr_units) ?_; k_whole); intro l' vs' n' h' tk' F' N' i' ne' st'; (try simp only [List.forall_mem_cons, List.not_mem_nil, false_implies, implies_true, and_true] at ne'); (try k_sweep); walk_say "MSCALE2"; (rename IntsAre _ (mscaleF _ _ _) => hI9); (have hC9 := mscaleF_lenI hI9); (try simp only [List.length_cons, List.length_nil] at hC9))
  k_with "call ref" => (k_here; (with_reducible show wpAny _ _ (PySem.call (Value.ref 69) [Value.ref _, Value.ref _, Value.int _ _]) _ _ _); k_dflt (refine' use_li (madd_says (by is_list) (by l_ints) (by k_extra "sa len") (by is_list) (by l_ints) (by k_extra "sa len") (by omega) (by omega)) (by k_asm) (by k_asm) (by k_asm) (by k_asm) (by k_asm) (by first | exact rfl | assumption) (by ktr_room) (by ktr_units) ?_; k_whole); intro l' vs' n' h' tk' F' N' i' ne' st'; (try simp only [List.forall_mem_cons, List.not_mem_nil, false_implies, implies_true, and_true] at ne'); (try k_sweep); walk_say "MADD2"; (rename IntsAre _ (maddF _ _ _) => hI9); (have hC9 := maddF_lenI hI9))
  k_with "exec For Name Subscript cons nil" => (k_here; (rename Fr _ _ _ _ => lF'); (with_unfolding_all (refine' For_invVF lF' (by exact rfl) (by exact rfl) ?_; k_whole)))
  k_with "exec For Name Name cons nil" => (k_here; (rename Fr _ _ _ _ => lF'); (with_unfolding_all (refine' For_invVF lF' (by exact rfl) (by exact rfl) ?_; k_whole)))
  k_with "call ref" => (k_here; (with_reducible show wpAny _ _ (PySem.call (Value.ref 168) [Value.ref _, Value.ref _, Value.ref _, Value.int _ _]) _ _ _); k_dflt (refine' use_li (gat_says (by is_list) (by l_ints) (by k_extra "sa len") (by assumption) (by is_list) (by l_ints) (by k_extra "sa len") (by assumption) (by is_list) (by assumption) (by assumption)) (by k_asm) (by k_asm) (by k_asm) (by k_asm) (by k_asm) (by first | exact rfl | assumption) (by ktr_room) (by ktr_units) ?_; k_whole); intro l' vs' n' h' tk' F' N' i' ne' st'; walk_say "GAT"; (try k_sweep))
  k_with "call ref" => (k_here; (with_reducible show wpAny _ _ (PySem.call (Value.ref 161) [Value.ref _, Value.int _ _, Value.ref _, Value.int _ _]) _ _ _); k_dflt (refine' use_li (gpow_says (by is_list) (by l_ints) (by k_extra "sa len") (by assumption) (by omega) (by omega) (by is_list) (by assumption) (by assumption)) (by k_asm) (by k_asm) (by k_asm) (by k_asm) (by k_asm) (by first | exact rfl | assumption) (by ktr_room) (by ktr_units) ?_; k_whole); intro l' vs' n' h' tk' F' N' i' ne' st'; walk_say "GPOW"; (try k_sweep))
  trivial
noncomputable def digs (p : Int) : Nat → Int → List Int
  | 0, _ => []
  | k + 1, n => if 0 < n then n.fmod p :: digs p k (n.fdiv p) else []
noncomputable def countF (n p : Int) : List Int := trimF (digs p 9 n)
noncomputable def CntP (q n₀ n : Int) (fd : List Int) : Prop := 0 ≤ n ∧ (∃ k, n.toNat ≤ k ∧ fd ++ digs q k n = digs q 9 n₀) ∧ (fd.length : Int) + n ≤ 9
theorem fdiv_pos {n q : Int} (hq : 2 ≤ q) : n.fdiv q = n / q := Int.fdiv_eq_ediv_of_nonneg n (by omega)
theorem fdiv_lo {n q : Int} (hq : 2 ≤ q) (h : 0 ≤ n) : 0 ≤ n.fdiv q := by
  rw [fdiv_pos hq]; exact Int.ediv_nonneg h (by omega)
theorem fdiv_lt {n q : Int} (hq : 2 ≤ q) (h : 0 < n) : n.fdiv q < n := by
  rw [fdiv_pos hq]; exact Int.ediv_lt_self_of_pos_of_ne_one h (by omega)
theorem cntP_0 {q n : Int} (h : 0 ≤ n) (h' : n ≤ 8) : CntP q n n [] := ⟨h, ⟨9, by omega, rfl⟩, by simp; omega⟩
theorem cntP_step {q n₀ n : Int} {fd : List Int} (hq : 2 ≤ q) (h : CntP q n₀ n fd) (hp : 0 < n) : CntP q n₀ (n.fdiv q) (fd ++ [n.fmod q]) := by
  obtain ⟨h0, ⟨k, hk, e⟩, hl⟩ := h
  have hlt := fdiv_lt hq hp
  obtain ⟨j, rfl⟩ : ∃ j, k = j + 1 := ⟨k - 1, by omega⟩
  refine ⟨fdiv_lo hq h0, ⟨j, by omega, ?_⟩, ?_⟩
  · rw [← e, digs, if_pos hp]; simp
  · simp only [List.length_append, List.length_cons, List.length_nil]; omega
theorem cntP_end {q n₀ n : Int} {fd : List Int} (h : CntP q n₀ n fd) (hp : ¬ 0 < n) : fd = digs q 9 n₀ := by
  obtain ⟨h0, ⟨k, hk, e⟩, hl⟩ := h
  rw [← e]
  cases k with
  | zero => simp [digs]
  | succ k => rw [digs, if_neg hp]; simp
section
variable {prog : Program} {w : World} {p : Program} {loose : List Str} {mean : ExcName → Option Value} {mg mb : Str → Option Value}
set_option maxHeartbeats 2000000 in
theorem count_says {s : Shared} {n q : Int} {tn tq : Tok} (hn0 : 0 ≤ n) (hn8 : n ≤ 8) (hq : 2 ≤ q) (hq' : q ≤ 7) :
    Says prog w p loose mean mg mb 128 [.int n tn, .int q tq] s 4 (fun v h' => NewLI s.heap v h' (countF n q)) := by
  intro dp un gd cn cs a ccd cl outer A₀ base h₀ L m Q E B F X T hk hd hu hret
  walk_at "sa enter"
  k_with "exec While Compare cons nil" => ((rename Fr _ _ _ _ => kF'); (rename News _ _ _ _ => kN'); (with_unfolding_all refine' while_cnt (Str.ofString "number") (CntP q n) ?hF ?hN ?h1 ?k1 ?i1 hn0 ?hP ?turn ?hE); (case hF => exact kF'); (case hN => exact kN'); (case h1 => exact rfl); (case k1 => k_mem); (case i1 => exact IntsAre.nil); (case hE => exact PassesOwn.never); (case hP => exact cntP_0 hn0 hn8))
  k_steps
  case turn =>
    unfold Hold
    (rename Fr _ _ _ _ => kF'; clear kF')
    (rename News _ _ _ _ => kN'; clear kN')
    intro n1 t1 us1 c1 fd1 h1 tk1 i1 hn1 hP F1 N1
    have hP2 := hP.2.2
    (try dsimp only)
    (try k_fold)
    k_steps
    · (rename News _ _ _ _ => N2')
      simp only [List.push_toArray] at N2'
      refine cntEnd_ (n' := n1.fdiv q) (by assumption) N2' rfl (List.Mem.head _) (IntsAre.append i1 (.cons _ _ .nil)) (fdiv_lo hq hn1) (fdiv_lt hq (by assumption)) (cntP_step hq hP (by assumption)) ?_
      intro z h1
      simp [h1]
    · walk_at "sa leave list"
      rw [show countF n q = trimF fd1 from by rw [cntP_end hP (by omega)]; rfl]
      assumption
end

theorem anew_82_size : True := by
  w_top off
  k_with_none
  k_with "sa enter" => (refine wpAny_call ?_; k_dflt (refine' enter_pure ?k1 ?k2 ?k3 ?k4 ?kA ?kF ?kK ?k6 ?k7 ?k8 ?k9 ?kB (by assumption) ?_ ?c2 ?c3 ?c4 ?c5; (case kA => exact rfl); (case kF => exact rfl); (case kK => assumption); (case k1 => k_asm); (case k2 => k_asm); (case k3 => k_asm); (case k4 => k_asm); (case k6 => k_is); (case k7 => k_is); (case k8 => ktr_room); (case k9 => exact BindsTo.of_eq rfl); (case c5 => decide); (case kB => exact locs rfl); (case c2 => exact rfl); (case c3 => exact rfl); (case c4 => exact rfl); k_whole); (with_reducible rename Below _ _ _ _ => kB'; clear kB'); (with_reducible rename Fr _ _ _ _ => kB'; clear kB'); (with_reducible rename Top _ _ _ _ _ _ => kB'; clear kB'); (rename Frag.In _ _ => kB'; clear kB'); intro L' h' F' N' B' X' T'; (try dsimp only); (try k_fold))
  k_with "sa leave list" => ((show LeaveP _ _ _ _); refine leaveP_ (by assumption) ⟨_, _, _, rfl, (News.fresh (by assumption) (List.Mem.head _)), (News.get (by assumption) (List.Mem.head _)), ?_⟩)
  k_with "execs cons Assign cons" => ((with_reducible refine wpAny_execs_cons ?_); try dsimp only)
  k_with "sa len" => (first | with_reducible assumption | exact List.length_take_le _ _ | omega | l_fact | ((simp only [rangeKs_length, List.length_map, List.length_append, List.length_cons, List.length_nil] at *); omega))
  k_with "sa enter cells" => (refine wpAny_call ?_; k_dflt (refine' enter_pureC ?k1 ?k2 ?k3 ?k4 ?kA ?kF ?kK ?k6 ?k7 ?k8 ?k9 ?kB ?kD (by assumption) ?_ ?c2 ?c3 ?c4; (case kA => exact rfl); (case kF => exact rfl); (case kK => assumption); (case k1 => k_asm); (case k2 => k_asm); (case k3 => k_asm); (case k4 => k_asm); (case k6 => k_is); (case k7 => k_is); (case k8 => ktr_room); (case k9 => exact BindsTo.of_eq rfl); (case kB => exact rfl); (case kD => decide +kernel); (case c2 => exact rfl); (case c3 => exact rfl); (case c4 => exact rfl); k_whole); (with_reducible rename Below _ _ _ _ => kB'; clear kB'); (with_reducible rename Fr _ _ _ _ => kB'; clear kB'); (with_reducible rename Top _ _ _ _ _ _ => kB'; clear kB'); (rename Frag.In _ _ => kB'; clear kB'); intro L' h' tk' cells' F' N' Y' B' X' T'; k_cells Y'; (try simp only [List.cons_append, List.nil_append, List.append_nil] at N'); (try dsimp only); (try k_fold))
  k_with "sa ne" => (first | with_reducible assumption | (refine Ne.symm ?_; with_reducible assumption) | (refine Nat.ne_of_gt ?_; assumption) | (refine Nat.ne_of_lt ?_; assumption) | ((rename _ ∧ _ => h9); first | (refine Ne.symm ?_; simp only [h9, ne_eq, not_false_eq_true]; done) | (simp only [h9, ne_eq, not_false_eq_true]; done) | (refine Nat.ne_of_gt ?_; simp only [h9]; done) | (refine Nat.ne_of_lt ?_; simp only [h9]; done) | (clear h9; k_extra "sa ne")))
  k_with "call ref" => (k_here; (with_reducible show wpAny _ _ (PySem.call (Value.ref 55) [Value.ref _]) _ _ _); k_dflt (refine' use_li (mtrim_says (by is_list) (by l_ints) (by k_extra "sa len")) (by k_asm) (by k_asm) (by k_asm) (by k_asm) (by k_asm) (by first | exact rfl | assumption) (by ktr_room) (by ktr_units) ?_; k_whole); intro l' vs' n' h' tk' F' N' i' ne' st'; (try simp only [List.forall_mem_cons, List.not_mem_nil, false_implies, implies_true, and_true] at ne'); (try k_sweep); walk_say "MTRIM"; (rename IntsAre _ (trimF _) => hI9); (have hC9 := trimF_lenI hI9))
  k_with "call ref" => (k_here; (with_reducible show wpAny _ _ (PySem.call (Value.ref 69) [Value.ref _, Value.ref _, Value.int _ _]) _ _ _); k_dflt (refine' use_li (madd_says (by is_list) (by l_ints) (by k_extra "sa len") (by is_list) (by l_ints) (by k_extra "sa len") (by omega) (by omega)) (by k_asm) (by k_asm) (by k_asm) (by k_asm) (by k_asm) (by first | exact rfl | assumption) (by ktr_room) (by ktr_units) ?_; k_whole); intro l' vs' n' h' tk' F' N' i' ne' st'; (try simp only [List.forall_mem_cons, List.not_mem_nil, false_implies, implies_true, and_true] at ne'); (try k_sweep); walk_say "MADD")
  k_with "call ref" => (k_here; (with_reducible show wpAny _ _ (PySem.call (Value.ref 86) [Value.ref _, Value.int _ _, Value.int _ _]) _ _ _); k_dflt (refine' use_li (mscale_says (by is_list) (by l_ints) (by k_extra "sa len") (by omega) (by omega) (by omega) (by omega)) (by k_asm) (by k_asm) (by k_asm) (by k_asm) (by k_asm) (by first | exact rfl | assumption) (by ktr_room) (by ktr_units) ?_; k_whole); intro l' vs' n' h' tk' F' N' i' ne' st'; (try simp only [List.forall_mem_cons, List.not_mem_nil, false_implies, implies_true, and_true] at ne'); (try k_sweep); walk_say "MSCALE")
  k_with "call ref" => (k_here; (with_reducible show wpAny _ _ (PySem.call (Value.ref 93) [Value.ref _, Value.ref _, Value.int _ _]) _ _ _); k_dflt (refine' use_li (mmul_says (by is_list) (by l_ints) (by k_extra "sa len") (by assumption) (by is_list) (by l_ints) (by k_extra "sa len") (by omega) (by omega)) (by k_asm) (by k_asm) (by k_asm) (by k_asm) (by k_asm) (by first | exact rfl | assumption) (by ktr_room) (by ktr_units) ?_; k_whole); intro l' vs' n' h' tk' F' N' i' ne' st'; (try simp only [List.forall_mem_cons, List.not_mem_nil, false_implies, implies_true, and_true] at ne'); (try k_sweep); walk_say "MMUL")
  k_with "call ref" => (k_here; (with_reducible show wpAny _ _ (PySem.call (Value.ref 48) [Value.int _ _, Value.int _ _]) _ _ _); k_dflt (refine' use_int (inv_says (by first | assumption | decide) (by first | assumption | omega)) (by k_asm) (by k_asm) (by k_asm) (by k_asm) (by k_asm) (by first | exact rfl | assumption) (by ktr_room) (by ktr_units) ?_; k_whole); intro t1' h' tk' F' N' st'; (try k_sweep); walk_say "INV")
  k_with "call ref" => (k_here; (with_reducible show wpAny _ _ (PySem.call (Value.ref 100) [Value.ref _, Value.ref _, Value.int _ _]) _ _ _); k_dflt (refine' use_p2 (mdivmod_says (by is_list) (by l_ints) (by k_extra "sa len") (by is_list) (by l_ints) (by k_extra "sa len") (by k_extra "sa len") (by assumption) (by assumption) (by assumption)) (by k_asm) (by k_asm) (by k_asm) (by k_asm) (by k_asm) (by first | exact rfl | assumption) (by ktr_room) (by ktr_units) ?_; k_whole); intro l' v1' l2' n' vs' c' h' tk' F' N' i' ne' ne2' st'; walk_say "MDIVMOD"; (try simp only [List.forall_mem_cons, List.not_mem_nil, false_implies, implies_true, and_true] at ne' ne2'); (try k_sweep))
  k_with "call ref" => (k_here; (with_reducible show wpAny _ _ (PySem.call (Value.ref 147) [Value.ref _, Value.ref _, Value.ref _, Value.int _ _]) _ _ _); k_dflt (refine' use_li (gmul_says (by is_list) (by l_ints) (by k_extra "sa len") (by first | assumption | exact small_nil) (by is_list) (by l_ints) (by k_extra "sa len") (by is_list) (by assumption) (by assumption)) (by k_asm) (by k_asm) (by k_asm) (by k_asm) (by k_asm) (by first | exact rfl | assumption) (by ktr_room) (by ktr_units) ?_; k_whole); intro l' vs' n' h' tk' F' N' i' ne' st'; (try simp only [List.forall_mem_cons, List.not_mem_nil, false_implies, implies_true, and_true] at ne'); (try k_sweep); walk_say "GMUL"; (rename IntsAre _ (gmulF _ _ _ _) => hI9); (have hC9 := gmulF_lenI hI9))
  k_with "call ref" => (k_here; (with_reducible show wpAny _ _ (PySem.call (Value.ref 86) [Value.ref _, Value.int _ _, Value.int _ _]) _ _ _); k_dflt (refine' use_li (mscale_says (by is_list) (by l_ints) (by k_extra "sa len") (by omega) (by omega) (by omega) (by omega)) (by k_asm) (by k_asm) (by k_asm) (by k_asm) (by k_asm) (by first | exact rfl | assumption) (by ktr_room) (by ktr_units) ?_; k_whole); intro l' vs' n' h' tk' F' N' i' ne' st'; (try simp only [List.forall_mem_cons, List.not_mem_nil, false_implies, implies_true, and_true] at ne'); (try k_sweep); walk_say "MSCALE2"; (rename IntsAre _ (mscaleF _ _ _) => hI9); (have hC9 := mscaleF_lenI hI9); (try simp only [List.length_cons, List.length_nil] at hC9))
  k_with "call ref" => (k_here; (with_reducible show wpAny _ _ (PySem.call (Value.ref 69) [Value.ref _, Value.ref _, Value.int _ _]) _ _ _); k_dflt (refine' use_li (madd_says (by is_list) (by l_ints) (by k_extra "sa len") (by is_list) (by l_ints) (by k_extra "sa len") (by omega) (by omega)) (by k_asm) (by k_asm) (by k_asm) (by k_asm) (by k_asm) (by first | exact rfl | assumption) (by ktr_room) (by ktr_units) ?_; k_whole); intro l' vs' n' h' tk' F' N' i' ne' st'; (try simp only [List.forall_mem_cons, List.not_mem_nil, false_implies, implies_true, and_true] at ne'); (try k_sweep); walk_say "MADD2"; (rename IntsAre _ (maddF _ _ _) => hI9); (have hC9 := maddF_lenI hI9))
  k_with "exec For Name Subscript cons nil" => (k_here; (rename Fr _ _ _ _ => lF'); (with_unfolding_all (refine' For_invVF lF' (by exact rfl) (by exact rfl) ?_; k_whole)))
  k_with "exec For Name Name cons nil" => (k_here; (rename Fr _ _ _ _ => lF'); (with_unfolding_all (refine' For_invVF lF' (by exact rfl) (by exact rfl) ?_; k_whole)))
  k_with "call ref" => (k_here; (with_reducible show wpAny _ _ (PySem.call (Value.ref 168) [Value.ref _, Value.ref _, Value.ref _, Value.int _ _]) _ _ _); k_dflt (refine' use_li (gat_says (by is_list) (by l_ints) (by k_extra "sa len") (by assumption) (by is_list) (by l_ints) (by k_extra "sa len") (by assumption) (by is_list) (by assumption) (by assumption)) (by k_asm) (by k_asm) (by k_asm) (by k_asm) (by k_asm) (by first | exact rfl | assumption) (by ktr_room) (by ktr_units) ?_; k_whole); intro l' vs' n' h' tk' F' N' i' ne' st'; walk_say "GAT"; (try k_sweep))
  k_with "call ref" => (k_here; (with_reducible show wpAny _ _ (PySem.call (Value.ref 161) [Value.ref _, Value.int _ _, Value.ref _, Value.int _ _]) _ _ _); k_dflt (refine' use_li (gpow_says (by is_list) (by l_ints) (by k_extra "sa len") (by assumption) (by omega) (by omega) (by is_list) (by assumption) (by assumption)) (by k_asm) (by k_asm) (by k_asm) (by k_asm) (by k_asm) (by first | exact rfl | assumption) (by ktr_room) (by ktr_units) ?_; k_whole); intro l' vs' n' h' tk' F' N' i' ne' st'; walk_say "GPOW"; (try k_sweep))
  k_with "call ref" => (k_here; (with_reducible show wpAny _ _ (PySem.call (Value.ref 128) [Value.int _ _, Value.int _ _]) _ _ _); k_dflt (refine' use_li (count_says (by omega) (by omega) (by omega) (by omega)) (by k_asm) (by k_asm) (by k_asm) (by k_asm) (by k_asm) (by first | exact rfl | assumption) (by ktr_room) (by ktr_units) ?_; k_whole); intro l' vs' n' h' tk' F' N' i' ne' st'; (try simp only [List.forall_mem_cons, List.not_mem_nil, false_implies, implies_true, and_true] at ne'); (try k_sweep); walk_say "COUNT")
  trivial
theorem hold9 {P : Prop} (h : Hold P) : P := h
/-- the six fields' sizes -/
noncomputable def IsSize (ms : List Int) (q d n : Int) : Prop := (ms.length : Int) - 1 = d ∧ ((q = 2 ∧ d = 2 ∧ n = 4) ∨ (q = 7 ∧ d = 1 ∧ n = 7) ∨ (q = 5 ∧ d = 1 ∧ n = 5) ∨ (q = 3 ∧ d = 2 ∧ n = 9) ∨ (q = 2 ∧ d = 3 ∧ n = 8) ∨ (q = 3 ∧ d = 1 ∧ n = 3))
theorem IsSize.most {ms : List Int} {q d n : Int} (h : IsSize ms q d n) : 2 ≤ q ∧ q ≤ 7 ∧ 3 ≤ n ∧ n ≤ 9 := by
  rcases h.2 with ⟨rfl, rfl, rfl⟩ | ⟨rfl, rfl, rfl⟩ | ⟨rfl, rfl, rfl⟩ | ⟨rfl, rfl, rfl⟩ | ⟨rfl, rfl, rfl⟩ | ⟨rfl, rfl, rfl⟩ <;> decide
section
variable {prog : Program} {w : World} {p : Program} {loose : List Str} {mean : ExcName → Option Value} {mg mb : Str → Option Value}
set_option maxHeartbeats 2000000 in
theorem mdeg_says {s : Shared} {lm : Addr} {vm : List Value} {ms : List Int} {d : Int} (hlm : s.heap.IsList lm vm.toArray) (him : IntsAre vm ms) (hn : ms.length ≤ 5) (hd0 : (ms.length : Int) - 1 = d) :
    Says prog w p loose mean mg mb 62 [.ref lm] s 2 (fun v _ => ∃ t, v = .int d t) := by
  intro dp un gd cn cs a ccd cl outer A₀ base h₀ L m Q E B F X T hk hd hu hret
  walk_at "sa enter"
  k_steps
  show LeaveP _ _ _ _
  exact leaveP_ (by assumption) (ktn_int hd0)
end
section
variable {prog : Program} {w : World} {p : Program} {loose : List Str} {mean : ExcName → Option Value} {mg mb : Str → Option Value}
set_option maxHeartbeats 2000000 in
theorem size_says {s : Shared} {lm : Addr} {vm : List Value} {ms : List Int} {q d n : Int} {tq : Tok} (hlm : s.heap.IsList lm vm.toArray) (him : IntsAre vm ms) (hS : IsSize ms q d n) :
    Says prog w p loose mean mg mb 135 [.ref lm, .int q tq] s 4 (fun v _ => ∃ t, v = .int n t) := by
  intro dp un gd cn cs a ccd cl outer A₀ base h₀ L m Q E B F X T hk hd hu hret
  k_with "call ref" => (k_here; (with_reducible show wpAny _ _ (PySem.call (Value.ref 62) [Value.ref _]) _ _ _); k_dflt (refine' use_int (mdeg_says (by is_list) (by assumption) (by omega) (by assumption)) (by k_asm) (by k_asm) (by k_asm) (by k_asm) (by k_asm) (by first | exact rfl | assumption) (by ktr_room) (by ktr_units) ?_; k_whole); intro t1' h' tk' F' N' st'; (try k_sweep); walk_say "MDEG")
  k_with "binaryOp Pow int int" => (k_here; (rename Hold True => hH9); clear hH9; refine hold9 ?_)
  obtain ⟨hS1, hS2⟩ := hS
  have hH9 : Hold True := trivial
  walk_at "sa enter"
  k_steps
  unfold Hold
  rcases hS2 with ⟨rfl, rfl, rfl⟩ | ⟨rfl, rfl, rfl⟩ | ⟨rfl, rfl, rfl⟩ | ⟨rfl, rfl, rfl⟩ | ⟨rfl, rfl, rfl⟩ | ⟨rfl, rfl, rfl⟩
  all_goals (
    k_steps
    show LeaveP _ _ _ _
    exact leaveP_ (by assumption) (ktn_int (by decide)))
end

theorem anew_84_rows : True := by
  w_top off
  k_with_none
  k_with "sa enter" => (refine wpAny_call ?_; k_dflt (refine' enter_pure ?k1 ?k2 ?k3 ?k4 ?kA ?kF ?kK ?k6 ?k7 ?k8 ?k9 ?kB (by assumption) ?_ ?c2 ?c3 ?c4 ?c5; (case kA => exact rfl); (case kF => exact rfl); (case kK => assumption); (case k1 => k_asm); (case k2 => k_asm); (case k3 => k_asm); (case k4 => k_asm); (case k6 => k_is); (case k7 => k_is); (case k8 => ktr_room); (case k9 => exact BindsTo.of_eq rfl); (case c5 => decide); (case kB => exact locs rfl); (case c2 => exact rfl); (case c3 => exact rfl); (case c4 => exact rfl); k_whole); (with_reducible rename Below _ _ _ _ => kB'; clear kB'); (with_reducible rename Fr _ _ _ _ => kB'; clear kB'); (with_reducible rename Top _ _ _ _ _ _ => kB'; clear kB'); (rename Frag.In _ _ => kB'; clear kB'); intro L' h' F' N' B' X' T'; (try dsimp only); (try k_fold))
  k_with "sa leave list" => ((show LeaveP _ _ _ _); refine leaveP_ (by assumption) ⟨_, _, _, rfl, (News.fresh (by assumption) (List.Mem.head _)), (News.get (by assumption) (List.Mem.head _)), ?_⟩)
  k_with "execs cons Assign cons" => ((with_reducible refine wpAny_execs_cons ?_); try dsimp only)
  k_with "sa len" => (first | with_reducible assumption | exact List.length_take_le _ _ | omega | l_fact | ((simp only [rangeKs_length, List.length_map, List.length_append, List.length_cons, List.length_nil] at *); omega))
  k_with "sa enter cells" => (refine wpAny_call ?_; k_dflt (refine' enter_pureC ?k1 ?k2 ?k3 ?k4 ?kA ?kF ?kK ?k6 ?k7 ?k8 ?k9 ?kB ?kD (by assumption) ?_ ?c2 ?c3 ?c4; (case kA => exact rfl); (case kF => exact rfl); (case kK => assumption); (case k1 => k_asm); (case k2 => k_asm); (case k3 => k_asm); (case k4 => k_asm); (case k6 => k_is); (case k7 => k_is); (case k8 => ktr_room); (case k9 => exact BindsTo.of_eq rfl); (case kB => exact rfl); (case kD => decide +kernel); (case c2 => exact rfl); (case c3 => exact rfl); (case c4 => exact rfl); k_whole); (with_reducible rename Below _ _ _ _ => kB'; clear kB'); (with_reducible rename Fr _ _ _ _ => kB'; clear kB'); (with_reducible rename Top _ _ _ _ _ _ => kB'; clear kB'); (rename Frag.In _ _ => kB'; clear kB'); intro L' h' tk' cells' F' N' Y' B' X' T'; k_cells Y'; (try simp only [List.cons_append, List.nil_append, List.append_nil] at N'); (try dsimp only); (try k_fold))
  k_with "sa ne" => (first | with_reducible assumption | (refine Ne.symm ?_; with_reducible assumption) | (refine Nat.ne_of_gt ?_; assumption) | (refine Nat.ne_of_lt ?_; assumption) | ((rename _ ∧ _ => h9); first | (refine Ne.symm ?_; simp only [h9, ne_eq, not_false_eq_true]; done) | (simp only [h9, ne_eq, not_false_eq_true]; done) | (refine Nat.ne_of_gt ?_; simp only [h9]; done) | (refine Nat.ne_of_lt ?_; simp only [h9]; done) | (clear h9; k_extra "sa ne")))
  k_with "call ref" => (k_here; (with_reducible show wpAny _ _ (PySem.call (Value.ref 55) [Value.ref _]) _ _ _); k_dflt (refine' use_li (mtrim_says (by is_list) (by l_ints) (by k_extra "sa len")) (by k_asm) (by k_asm) (by k_asm) (by k_asm) (by k_asm) (by first | exact rfl | assumption) (by ktr_room) (by ktr_units) ?_; k_whole); intro l' vs' n' h' tk' F' N' i' ne' st'; (try simp only [List.forall_mem_cons, List.not_mem_nil, false_implies, implies_true, and_true] at ne'); (try k_sweep); walk_say "MTRIM"; (rename IntsAre _ (trimF _) => hI9); (have hC9 := trimF_lenI hI9))
  k_with "call ref" => (k_here; (with_reducible show wpAny _ _ (PySem.call (Value.ref 69) [Value.ref _, Value.ref _, Value.int _ _]) _ _ _); k_dflt (refine' use_li (madd_says (by is_list) (by l_ints) (by k_extra "sa len") (by is_list) (by l_ints) (by k_extra "sa len") (by omega) (by omega)) (by k_asm) (by k_asm) (by k_asm) (by k_asm) (by k_asm) (by first | exact rfl | assumption) (by ktr_room) (by ktr_units) ?_; k_whole); intro l' vs' n' h' tk' F' N' i' ne' st'; (try simp only [List.forall_mem_cons, List.not_mem_nil, false_implies, implies_true, and_true] at ne'); (try k_sweep); walk_say "MADD")
  k_with "call ref" => (k_here; (with_reducible show wpAny _ _ (PySem.call (Value.ref 86) [Value.ref _, Value.int _ _, Value.int _ _]) _ _ _); k_dflt (refine' use_li (mscale_says (by is_list) (by l_ints) (by k_extra "sa len") (by omega) (by omega) (by omega) (by omega)) (by k_asm) (by k_asm) (by k_asm) (by k_asm) (by k_asm) (by first | exact rfl | assumption) (by ktr_room) (by ktr_units) ?_; k_whole); intro l' vs' n' h' tk' F' N' i' ne' st'; (try simp only [List.forall_mem_cons, List.not_mem_nil, false_implies, implies_true, and_true] at ne'); (try k_sweep); walk_say "MSCALE")
  k_with "call ref" => (k_here; (with_reducible show wpAny _ _ (PySem.call (Value.ref 93) [Value.ref _, Value.ref _, Value.int _ _]) _ _ _); k_dflt (refine' use_li (mmul_says (by is_list) (by l_ints) (by k_extra "sa len") (by assumption) (by is_list) (by l_ints) (by k_extra "sa len") (by omega) (by omega)) (by k_asm) (by k_asm) (by k_asm) (by k_asm) (by k_asm) (by first | exact rfl | assumption) (by ktr_room) (by ktr_units) ?_; k_whole); intro l' vs' n' h' tk' F' N' i' ne' st'; (try simp only [List.forall_mem_cons, List.not_mem_nil, false_implies, implies_true, and_true] at ne'); (try k_sweep); walk_say "MMUL")
  k_with "call ref" => (k_here; (with_reducible show wpAny _ _ (PySem.call (Value.ref 48) [Value.int _ _, Value.int _ _]) _ _ _); k_dflt (refine' use_int (inv_says (by first | assumption | decide) (by first | assumption | omega)) (by k_asm) (by k_asm) (by k_asm) (by k_asm) (by k_asm) (by first | exact rfl | assumption) (by ktr_room) (by ktr_units) ?_; k_whole); intro t1' h' tk' F' N' st'; (try k_sweep); walk_say "INV")
  k_with "call ref" => (k_here; (with_reducible show wpAny _ _ (PySem.call (Value.ref 100) [Value.ref _, Value.ref _, Value.int _ _]) _ _ _); k_dflt (refine' use_p2 (mdivmod_says (by is_list) (by l_ints) (by k_extra "sa len") (by is_list) (by l_ints) (by k_extra "sa len") (by k_extra "sa len") (by assumption) (by assumption) (by assumption)) (by k_asm) (by k_asm) (by k_asm) (by k_asm) (by k_asm) (by first | exact rfl | assumption) (by ktr_room) (by ktr_units) ?_; k_whole); intro l' v1' l2' n' vs' c' h' tk' F' N' i' ne' ne2' st'; walk_say "MDIVMOD"; (try simp only [List.forall_mem_cons, List.not_mem_nil, false_implies, implies_true, and_true] at ne' ne2'); (try k_sweep))
  k_with "call ref" => (k_here; (with_reducible show wpAny _ _ (PySem.call (Value.ref 147) [Value.ref _, Value.ref _, Value.ref _, Value.int _ _]) _ _ _); k_dflt (refine' use_li (gmul_says (by is_list) (by l_ints) (by k_extra "sa len") (by first | assumption | exact small_nil) (by is_list) (by l_ints) (by k_extra "sa len") (by is_list) (by assumption) (by assumption)) (by k_asm) (by k_asm) (by k_asm) (by k_asm) (by k_asm) (by first | exact rfl | assumption) (by ktr_room) (by ktr_units) ?_; k_whole); intro l' vs' n' h' tk' F' N' i' ne' st'; (try simp only [List.forall_mem_cons, List.not_mem_nil, false_implies, implies_true, and_true] at ne'); (try k_sweep); walk_say "GMUL"; (rename IntsAre _ (gmulF _ _ _ _) => hI9); (have hC9 := gmulF_lenI hI9))
  k_with "call ref" => (k_here; (with_reducible show wpAny _ _ (PySem.call (Value.ref 86) [Value.ref _, Value.int _ _, Value.int _ _]) _ _ _); k_dflt (refine' use_li (mscale_says (by is_list) (by l_ints) (by k_extra "sa len") (by omega) (by omega) (by omega) (by omega)) (by k_asm) (by k_asm) (by k_asm) (by k_asm) (by k_asm) (by first | exact rfl | assumption) (by ktr_room) (by ktr_units) ?_; k_whole); intro l' vs' n' h' tk' F' N' i' ne' st'; (try simp only [List.forall_mem_cons, List.not_mem_nil, false_implies, implies_true, and_true] at ne'); (try k_sweep); walk_say "MSCALE2"; (rename IntsAre _ (mscaleF _ _ _) => hI9); (have hC9 := mscaleF_lenI hI9); (try simp only [List.length_cons, List.length_nil] at hC9))
  k_with "call ref" => (k_here; (with_reducible show wpAny _ _ (PySem.call (Value.ref 69) [Value.ref _, Value.ref _, Value.int _ _]) _ _ _); k_dflt (refine' use_li (madd_says (by is_list) (by l_ints) (by k_extra "sa len") (by is_list) (by l_ints) (by k_extra "sa len") (by omega) (by omega)) (by k_asm) (by k_asm) (by k_asm) (by k_asm) (by k_asm) (by first | exact rfl | assumption) (by ktr_room) (by ktr_units) ?_; k_whole); intro l' vs' n' h' tk' F' N' i' ne' st'; (try simp only [List.forall_mem_cons, List.not_mem_nil, false_implies, implies_true, and_true] at ne'); (try k_sweep); walk_say "MADD2"; (rename IntsAre _ (maddF _ _ _) => hI9); (have hC9 := maddF_lenI hI9))
  k_with "exec For Name Subscript cons nil" => (k_here; (rename Fr _ _ _ _ => lF'); (with_unfolding_all (refine' For_invVF lF' (by exact rfl) (by exact rfl) ?_; k_whole)))
  k_with "exec For Name Name cons nil" => (k_here; (rename Fr _ _ _ _ => lF'); (with_unfolding_all (refine' For_invVF lF' (by exact rfl) (by exact rfl) ?_; k_whole)))
  k_with "call ref" => (k_here; (with_reducible show wpAny _ _ (PySem.call (Value.ref 168) [Value.ref _, Value.ref _, Value.ref _, Value.int _ _]) _ _ _); k_dflt (refine' use_li (gat_says (by is_list) (by l_ints) (by k_extra "sa len") (by assumption) (by is_list) (by l_ints) (by k_extra "sa len") (by assumption) (by is_list) (by assumption) (by assumption)) (by k_asm) (by k_asm) (by k_asm) (by k_asm) (by k_asm) (by first | exact rfl | assumption) (by ktr_room) (by ktr_units) ?_; k_whole); intro l' vs' n' h' tk' F' N' i' ne' st'; walk_say "GAT"; (try k_sweep))
  k_with "call ref" => (k_here; (with_reducible show wpAny _ _ (PySem.call (Value.ref 161) [Value.ref _, Value.int _ _, Value.ref _, Value.int _ _]) _ _ _); k_dflt (refine' use_li (gpow_says (by is_list) (by l_ints) (by k_extra "sa len") (by assumption) (by omega) (by omega) (by is_list) (by assumption) (by assumption)) (by k_asm) (by k_asm) (by k_asm) (by k_asm) (by k_asm) (by first | exact rfl | assumption) (by ktr_room) (by ktr_units) ?_; k_whole); intro l' vs' n' h' tk' F' N' i' ne' st'; walk_say "GPOW"; (try k_sweep))
  k_with "call ref" => (k_here; (with_reducible show wpAny _ _ (PySem.call (Value.ref 128) [Value.int _ _, Value.int _ _]) _ _ _); k_dflt (refine' use_li (count_says (by omega) (by omega) (by omega) (by omega)) (by k_asm) (by k_asm) (by k_asm) (by k_asm) (by k_asm) (by first | exact rfl | assumption) (by ktr_room) (by ktr_units) ?_; k_whole); intro l' vs' n' h' tk' F' N' i' ne' st'; (try simp only [List.forall_mem_cons, List.not_mem_nil, false_implies, implies_true, and_true] at ne'); (try k_sweep); walk_say "COUNT")
  k_with "call ref" => (k_here; (with_reducible show wpAny _ _ (PySem.call (Value.ref 135) [Value.ref _, Value.int _ _]) _ _ _); k_dflt (refine' use_int (size_says (by is_list) (by assumption) (by assumption)) (by k_asm) (by k_asm) (by k_asm) (by k_asm) (by k_asm) (by first | exact rfl | assumption) (by ktr_room) (by ktr_units) ?_; k_whole); intro t1' h' tk' F' N' st'; (try k_sweep); walk_say "SIZE")
  trivial
/-- the values are lists of ints, these, all of the ledger -/
noncomputable def RowsIn (news : List (Addr × Obj)) (ys : List Value) (rows : List (List Int)) : Prop := ys.length = rows.length ∧ ∀ (i : Nat) (v : Value), ys[i]? = some v → ∃ l vs c r, v = .ref l ∧ (l, listOf vs.toArray c) ∈ news ∧ IntsAre vs r ∧ rows[i]? = some r
section
variable {news : List (Addr × Obj)} {ys : List Value} {rows : List (List Int)}
theorem RowsIn.nil : RowsIn news [] [] := ⟨rfl, fun _ _ e => by cases e⟩
theorem RowsIn.length (x : RowsIn news ys rows) : ys.length = rows.length := x.1
theorem RowsIn.item (x : RowsIn news ys rows) {i : Nat} {v : Value} (e : ys[i]? = some v) : ∃ l vs c r, v = .ref l ∧ (l, listOf vs.toArray c) ∈ news ∧ IntsAre vs r ∧ rows[i]? = some r := x.2 i v e
theorem RowsIn.mono {news' : List (Addr × Obj)} (x : RowsIn news ys rows) (st : ∀ p ∈ news, p ∈ news') : RowsIn news' ys rows :=
  ⟨x.1, fun i v e => let ⟨l, vs, c, r, h1, h2, h3⟩ := x.2 i v e; ⟨l, vs, c, r, h1, st _ h2, h3⟩⟩
theorem RowsIn.snoc {l : Addr} {vs : List Value} {c : Nat} {r : List Int} (hl : (l, listOf vs.toArray c) ∈ news) (hi : IntsAre vs r) (x : RowsIn news ys rows) : RowsIn news (ys ++ [.ref l]) (rows ++ [r]) := by
  refine ⟨by rw [List.length_append, List.length_append, x.1]; rfl, fun i v e => ?_⟩
  by_cases h : i < ys.length
  · rw [List.getElem?_append_left h] at e
    rw [List.getElem?_append_left (x.1 ▸ h)]
    exact x.2 i v e
  · rw [List.getElem?_append_right (Nat.not_lt.mp h)] at e
    rw [List.getElem?_append_right (x.1 ▸ Nat.not_lt.mp h), ← x.1]
    cases h' : i - ys.length with
    | zero => rw [h'] at e; exact ⟨l, vs, c, r, (Option.some.inj e).symm, hl, hi, rfl⟩
    | succ k => rw [h'] at e; cases e
theorem RowsIn.at {h₀ h : Heap} {L : Addr} (N : News h₀ L h news) (x : RowsIn news ys rows) : RowsAt h ys rows :=
  ⟨x.1, fun i v e => let ⟨l, vs, c, r, h1, h2, h3⟩ := x.2 i v e; ⟨l, vs, r, h1, ⟨_, (N _ h2).1, rfl, _, rfl⟩, h3⟩⟩
end
/-- a new list of new lists of ints -/
noncomputable def NewRows (h₀ : Heap) (v : Value) (h : Heap) (rows : List (List Int)) : Prop := ∃ l ys c own, v = .ref l ∧ (∀ q ∈ (l, listOf ys.toArray c) :: own, h₀.get? q.1 = none ∧ h.get? q.1 = some q.2) ∧ RowsIn own ys rows
section
variable {prog : Program} {w : World} {A₀ : Around} {s : Shared} {base h₀ : Heap} {outer : List Env} {L : Addr} {m : Str → Option Value} {f : Addr} {vs : List Value} {need : Nat} {news : List (Addr × Obj)}
  {p : Program} {loose : List Str} {mean : ExcName → Option Value} {mg mb : Str → Option Value} {E : Value → Shared → Prop} {Q : Value → Shared → Prop}
theorem use_rows {dp un : Nat} {gd : Option (List Code)} {cn : Str} {cs : Scope} {a : Addr} {ccd : Value} {cl : List (Str × Addr)} {rows : List (List Int)}
    (S : Says prog w p loose mean mg mb f vs s need (fun v h' => NewRows s.heap v h' rows))
    (B : Below A₀ base outer h₀) (F : Fr h₀ L s.heap m) (X : (hd.heap_39 w.params).In h₀) (N : News h₀ L s.heap news) (T : Top p loose mean mg mb h₀) (hk : cs.kind = .function) (hdp : dp + need < recursionLimit) (hu : un + 8 * need < cLine)
    (h : ∀ l ys c own h' tk', Fr h₀ L h' m → News h₀ L h' ((l, listOf ys.toArray c) :: (news ++ own)) → RowsIn own ys rows → (∀ q ∈ news, @Ne Nat q.1 l) → (∀ q ∈ news, ∀ o ∈ own, @Ne Nat q.1 o.1) → s.heap.StaysIn h' → Q (.ref l) { s with heap := h', toks := tk' }) :
    wpAny (model prog w) (ktrTop dp un gd cn cs L a ccd cl outer) (call (.ref f) vs) Q E s := by
  refine S _ _ _ _ _ _ _ _ _ _ _ _ _ _ _ _ B F X T hk hdp hu fun v h' tk' st r => ?_
  obtain ⟨l, ys, c, own, rfl, hq, hr⟩ := r
  have add : ∀ q ∈ (l, listOf ys.toArray c) :: own, News h₀ L h' (q :: news) ∧ ∀ o ∈ news, @Ne Nat o.1 q.1 := fun q hm => news_add F N st (hq q hm).1 (hq q hm).2
  refine h l ys c own h' tk' (news_stays F N st).1 (fun q hm => ?_) hr (add _ (.head _)).2 (fun o ho q hm => (add q (.tail _ hm)).2 o ho) st
  rcases List.mem_cons.mp hm with rfl | hm
  · exact (add _ (.head _)).1 _ (.head _)
  · rcases List.mem_append.mp hm with hm | hm
    · exact (news_stays F N st).2 _ hm
    · exact (add q (.tail _ hm)).1 _ (.head _)
end
section
variable {prog : Program} {w : World} {A : Around} {h₀ : Heap} {L : Addr} {m : Str → Option Value} {env : Env} {elt : PySem.Expr} {x : Str} {scope : Scope} {cl : List (Str × Addr)} {s : Shared} {S : List (Addr × Obj) → Prop} {P : Nat → Value → Prop} {Fin : List Value → List (Addr × Obj) → Prop} {news : List (Addr × Obj)}
/-- at a turn's end of a comprehension: a new list of these ints comes back -/
noncomputable def RowEl (own news : List (Addr × Obj)) (r : List Int) (y : Value) (news' : List (Addr × Obj)) : Prop := ∃ l vs c, y = .ref l ∧ news' = news ++ ((l, listOf vs.toArray c) :: own) ∧ IntsAre vs r
theorem crow_rest {n : Nat} {rows : List (List Int)} (hn : rows.length = n)
    (turn : Hold (∀ (i : Nat) r v I oI C oC D m₂ ys own h tk (E' : Value → Shared → Prop), rows[i]? = some r → P i v → LCg.NsObj oC m₂ → m₂ x = some v → Fr h₀ L h m → News h₀ L h ((I, oI) :: (C, oC) :: (D, LCg.lst ys) :: (news ++ own)) → LCg.Off3 I C D (news ++ own) → ((@Ne Nat I C) ∧ (@Ne Nat I D) ∧ (@Ne Nat C D)) → S (news ++ own) →
      wpAny (model prog w) A (eval elt (compEnvC scope cl C env)) (LCg.CompEnd h₀ L m { s with heap := h, toks := tk } I oI C oC D (LCg.lst ys) S (RowEl own news r)) E' { s with heap := h, toks := tk }))
    (hS : S news) (fin : Hold (∀ ys own, RowsIn own ys rows → Fin ys (news ++ own))) : LCg.CompRest prog w A h₀ L m env elt x scope cl s S P Fin n 0 [] news := by
  have key : ∀ (j i : Nat) (ys : List Value) (own : List (Addr × Obj)), i + j = n → RowsIn own ys (rows.take i) → S (news ++ own) → LCg.CompRest prog w A h₀ L m env elt x scope cl s S P Fin j i ys (news ++ own) := by
    intro j
    induction j with
    | zero =>
      intro i ys own hi hy _
      have e : i = rows.length := by omega
      subst e
      rw [List.take_length] at hy
      exact LCg.CompRest.zero (fin ys own hy)
    | succ j ih =>
      intro i ys own hi hy hSo
      refine LCg.CompRest.succ ?_
      intro v I oI C oC D m₂ h tk E' hv hC hx F N off ne
      have hlt : i < rows.length := by omega
      refine wpAny_mono (turn i rows[i] v I oI C oC D m₂ ys own h tk E' (by simp [hlt]) hv hC hx F N off ne hSo) (fun y s₂ hq => ?_) fun _ _ e => e
      obtain ⟨h', tk', nw, e, F', N', off', hS', l, vs, c, rfl, rfl, hi'⟩ := hq
      refine ⟨h', tk', _, e, F', N', off', hS', ?_⟩
      have hr : RowsIn ((l, listOf vs.toArray c) :: own) (ys ++ [.ref l]) (rows.take (i + 1)) := by
        rw [List.take_add_one, List.getElem?_eq_getElem hlt]
        exact RowsIn.snoc (.head _) hi' (hy.mono fun _ hp => .tail _ hp)
      exact ih (i + 1) _ ((l, listOf vs.toArray c) :: own) (by omega) hr hS'
  have := key n 0 [] [] (by omega) .nil (by rw [List.append_nil]; exact hS)
  rw [List.append_nil] at this
  exact this
end
theorem hold_of {P : Prop} (h : Hold P) : P := h
theorem crow_end {h₀ : Heap} {L l I C D : Addr} {m : Str → Option Value} {s₁ : Shared} {oI oC oD : Obj} {S : List (Addr × Obj) → Prop} {own news : List (Addr × Obj)} {r : List Int} {vs : List Value} {c : Nat} {h' : Heap} {tk : Nat}
    (F : Fr h₀ L h' m) (N : News h₀ L h' ((l, listOf vs.toArray c) :: (I, oI) :: (C, oC) :: (D, oD) :: (news ++ own))) (off : LCg.Off3 I C D (news ++ own)) (ne : @Ne Nat I l ∧ @Ne Nat C l ∧ @Ne Nat D l) (hS : S (news ++ ((l, listOf vs.toArray c) :: own))) (hi : IntsAre vs r) :
    LCg.CompEnd h₀ L m s₁ I oI C oC D oD S (RowEl own news r) (.ref l) { s₁ with heap := h', toks := tk } := by
  have mm : ∀ p ∈ news ++ ((l, listOf vs.toArray c) :: own), p = (l, listOf vs.toArray c) ∨ p ∈ news ++ own := fun p hp => by
    simp only [List.mem_cons, List.mem_append] at hp ⊢
    rcases hp with h | h | h
    · exact .inr (.inl h)
    · exact .inl h
    · exact .inr (.inr h)
  refine LCg.CompEnd.intro F N (news ++ ((l, listOf vs.toArray c) :: own)) (fun p hp => ?_) (LCg.Off3.of fun p hp => ?_) hS ⟨l, vs, c, rfl, rfl, hi⟩
  · rcases List.mem_cons.mp hp with rfl | hp
    · exact .tail _ (.head _)
    · rcases List.mem_cons.mp hp with rfl | hp
      · exact .tail _ (.tail _ (.head _))
      · rcases List.mem_cons.mp hp with rfl | hp
        · exact .tail _ (.tail _ (.tail _ (.head _)))
        · rcases mm p hp with rfl | hp
          · exact .head _
          · exact .tail _ (.tail _ (.tail _ (.tail _ hp)))
  · rcases mm p hp with rfl | hp
    · exact ⟨ne.1.symm, ne.2.1.symm, ne.2.2.symm⟩
    · exact off.mem p hp
theorem rows_out {h₀ h : Heap} {L D : Addr} {ys : List Value} {c : Nat} {own rest : List (Addr × Obj)} (N : News h₀ L h ((D, listOf ys.toArray c) :: (rest ++ own))) : ∀ q ∈ (D, listOf ys.toArray c) :: own, h₀.get? q.1 = none ∧ h.get? q.1 = some q.2 := fun q hq => by
  have := N q (by
    rcases List.mem_cons.mp hq with rfl | hq
    · exact .head _
    · exact .tail _ (List.mem_append.mpr (.inr hq)))
  exact ⟨this.2.2, this.1⟩

local macro_rules | `(tactic| walk_at "eval Name") => `(tactic| (k_here; (with_reducible show wpAny _ _ (eval (Expr.Name _ _) (compEnvC _ _ _ _)) _ _ _); k_dflt (refine' kcf_cell ?hN ?hc ?hm ?hd ?_; (case hc => rfl); (case hN => k_asm); (case hm => k_extra "sa mem"); (case hd => k_asm); k_whole)))
theorem anew_86_things : True := by
  w_top off
  k_with_none
  k_with "sa enter" => (refine wpAny_call ?_; k_dflt (refine' enter_pure ?k1 ?k2 ?k3 ?k4 ?kA ?kF ?kK ?k6 ?k7 ?k8 ?k9 ?kB (by assumption) ?_ ?c2 ?c3 ?c4 ?c5; (case kA => exact rfl); (case kF => exact rfl); (case kK => assumption); (case k1 => k_asm); (case k2 => k_asm); (case k3 => k_asm); (case k4 => k_asm); (case k6 => k_is); (case k7 => k_is); (case k8 => ktr_room); (case k9 => exact BindsTo.of_eq rfl); (case c5 => decide); (case kB => exact locs rfl); (case c2 => exact rfl); (case c3 => exact rfl); (case c4 => exact rfl); k_whole); (with_reducible rename Below _ _ _ _ => kB'; clear kB'); (with_reducible rename Fr _ _ _ _ => kB'; clear kB'); (with_reducible rename Top _ _ _ _ _ _ => kB'; clear kB'); (rename Frag.In _ _ => kB'; clear kB'); intro L' h' F' N' B' X' T'; (try dsimp only); (try k_fold))
  k_with "sa leave list" => ((show LeaveP _ _ _ _); refine leaveP_ (by assumption) ⟨_, _, _, rfl, (News.fresh (by assumption) (List.Mem.head _)), (News.get (by assumption) (List.Mem.head _)), ?_⟩)
  k_with "execs cons Assign cons" => ((with_reducible refine wpAny_execs_cons ?_); try dsimp only)
  k_with "sa len" => (first | with_reducible assumption | exact List.length_take_le _ _ | omega | l_fact | ((simp only [rangeKs_length, List.length_map, List.length_append, List.length_cons, List.length_nil] at *); omega))
  k_with "sa enter cells" => (refine wpAny_call ?_; k_dflt (refine' enter_pureC ?k1 ?k2 ?k3 ?k4 ?kA ?kF ?kK ?k6 ?k7 ?k8 ?k9 ?kB ?kD (by assumption) ?_ ?c2 ?c3 ?c4; (case kA => exact rfl); (case kF => exact rfl); (case kK => assumption); (case k1 => k_asm); (case k2 => k_asm); (case k3 => k_asm); (case k4 => k_asm); (case k6 => k_is); (case k7 => k_is); (case k8 => ktr_room); (case k9 => exact BindsTo.of_eq rfl); (case kB => exact rfl); (case kD => decide +kernel); (case c2 => exact rfl); (case c3 => exact rfl); (case c4 => exact rfl); k_whole); (with_reducible rename Below _ _ _ _ => kB'; clear kB'); (with_reducible rename Fr _ _ _ _ => kB'; clear kB'); (with_reducible rename Top _ _ _ _ _ _ => kB'; clear kB'); (rename Frag.In _ _ => kB'; clear kB'); intro L' h' tk' cells' F' N' Y' B' X' T'; k_cells Y'; (try simp only [List.cons_append, List.nil_append, List.append_nil] at N'); (try dsimp only); (try k_fold))
  k_with "sa ne" => (first | with_reducible assumption | (refine Ne.symm ?_; with_reducible assumption) | (refine Nat.ne_of_gt ?_; assumption) | (refine Nat.ne_of_lt ?_; assumption) | ((rename _ ∧ _ => h9); first | (refine Ne.symm ?_; simp only [h9, ne_eq, not_false_eq_true]; done) | (simp only [h9, ne_eq, not_false_eq_true]; done) | (refine Nat.ne_of_gt ?_; simp only [h9]; done) | (refine Nat.ne_of_lt ?_; simp only [h9]; done) | (clear h9; k_extra "sa ne")))
  k_with "call ref" => (k_here; (with_reducible show wpAny _ _ (PySem.call (Value.ref 55) [Value.ref _]) _ _ _); k_dflt (refine' use_li (mtrim_says (by is_list) (by l_ints) (by k_extra "sa len")) (by k_asm) (by k_asm) (by k_asm) (by k_asm) (by k_asm) (by first | exact rfl | assumption) (by ktr_room) (by ktr_units) ?_; k_whole); intro l' vs' n' h' tk' F' N' i' ne' st'; (try simp only [List.forall_mem_cons, List.not_mem_nil, false_implies, implies_true, and_true] at ne'); (try k_sweep); walk_say "MTRIM"; (rename IntsAre _ (trimF _) => hI9); (have hC9 := trimF_lenI hI9))
  k_with "call ref" => (k_here; (with_reducible show wpAny _ _ (PySem.call (Value.ref 69) [Value.ref _, Value.ref _, Value.int _ _]) _ _ _); k_dflt (refine' use_li (madd_says (by is_list) (by l_ints) (by k_extra "sa len") (by is_list) (by l_ints) (by k_extra "sa len") (by omega) (by omega)) (by k_asm) (by k_asm) (by k_asm) (by k_asm) (by k_asm) (by first | exact rfl | assumption) (by ktr_room) (by ktr_units) ?_; k_whole); intro l' vs' n' h' tk' F' N' i' ne' st'; (try simp only [List.forall_mem_cons, List.not_mem_nil, false_implies, implies_true, and_true] at ne'); (try k_sweep); walk_say "MADD")
  k_with "call ref" => (k_here; (with_reducible show wpAny _ _ (PySem.call (Value.ref 86) [Value.ref _, Value.int _ _, Value.int _ _]) _ _ _); k_dflt (refine' use_li (mscale_says (by is_list) (by l_ints) (by k_extra "sa len") (by omega) (by omega) (by omega) (by omega)) (by k_asm) (by k_asm) (by k_asm) (by k_asm) (by k_asm) (by first | exact rfl | assumption) (by ktr_room) (by ktr_units) ?_; k_whole); intro l' vs' n' h' tk' F' N' i' ne' st'; (try simp only [List.forall_mem_cons, List.not_mem_nil, false_implies, implies_true, and_true] at ne'); (try k_sweep); walk_say "MSCALE")
  k_with "call ref" => (k_here; (with_reducible show wpAny _ _ (PySem.call (Value.ref 93) [Value.ref _, Value.ref _, Value.int _ _]) _ _ _); k_dflt (refine' use_li (mmul_says (by is_list) (by l_ints) (by k_extra "sa len") (by assumption) (by is_list) (by l_ints) (by k_extra "sa len") (by omega) (by omega)) (by k_asm) (by k_asm) (by k_asm) (by k_asm) (by k_asm) (by first | exact rfl | assumption) (by ktr_room) (by ktr_units) ?_; k_whole); intro l' vs' n' h' tk' F' N' i' ne' st'; (try simp only [List.forall_mem_cons, List.not_mem_nil, false_implies, implies_true, and_true] at ne'); (try k_sweep); walk_say "MMUL")
  k_with "call ref" => (k_here; (with_reducible show wpAny _ _ (PySem.call (Value.ref 48) [Value.int _ _, Value.int _ _]) _ _ _); k_dflt (refine' use_int (inv_says (by first | assumption | decide) (by first | assumption | omega)) (by k_asm) (by k_asm) (by k_asm) (by k_asm) (by k_asm) (by first | exact rfl | assumption) (by ktr_room) (by ktr_units) ?_; k_whole); intro t1' h' tk' F' N' st'; (try k_sweep); walk_say "INV")
  k_with "call ref" => (k_here; (with_reducible show wpAny _ _ (PySem.call (Value.ref 100) [Value.ref _, Value.ref _, Value.int _ _]) _ _ _); k_dflt (refine' use_p2 (mdivmod_says (by is_list) (by l_ints) (by k_extra "sa len") (by is_list) (by l_ints) (by k_extra "sa len") (by k_extra "sa len") (by assumption) (by assumption) (by assumption)) (by k_asm) (by k_asm) (by k_asm) (by k_asm) (by k_asm) (by first | exact rfl | assumption) (by ktr_room) (by ktr_units) ?_; k_whole); intro l' v1' l2' n' vs' c' h' tk' F' N' i' ne' ne2' st'; walk_say "MDIVMOD"; (try simp only [List.forall_mem_cons, List.not_mem_nil, false_implies, implies_true, and_true] at ne' ne2'); (try k_sweep))
  k_with "call ref" => (k_here; (with_reducible show wpAny _ _ (PySem.call (Value.ref 147) [Value.ref _, Value.ref _, Value.ref _, Value.int _ _]) _ _ _); k_dflt (refine' use_li (gmul_says (by is_list) (by l_ints) (by k_extra "sa len") (by first | assumption | exact small_nil) (by is_list) (by l_ints) (by k_extra "sa len") (by is_list) (by assumption) (by assumption)) (by k_asm) (by k_asm) (by k_asm) (by k_asm) (by k_asm) (by first | exact rfl | assumption) (by ktr_room) (by ktr_units) ?_; k_whole); intro l' vs' n' h' tk' F' N' i' ne' st'; (try simp only [List.forall_mem_cons, List.not_mem_nil, false_implies, implies_true, and_true] at ne'); (try k_sweep); walk_say "GMUL"; (rename IntsAre _ (gmulF _ _ _ _) => hI9); (have hC9 := gmulF_lenI hI9))
  k_with "call ref" => (k_here; (with_reducible show wpAny _ _ (PySem.call (Value.ref 86) [Value.ref _, Value.int _ _, Value.int _ _]) _ _ _); k_dflt (refine' use_li (mscale_says (by is_list) (by l_ints) (by k_extra "sa len") (by omega) (by omega) (by omega) (by omega)) (by k_asm) (by k_asm) (by k_asm) (by k_asm) (by k_asm) (by first | exact rfl | assumption) (by ktr_room) (by ktr_units) ?_; k_whole); intro l' vs' n' h' tk' F' N' i' ne' st'; (try simp only [List.forall_mem_cons, List.not_mem_nil, false_implies, implies_true, and_true] at ne'); (try k_sweep); walk_say "MSCALE2"; (rename IntsAre _ (mscaleF _ _ _) => hI9); (have hC9 := mscaleF_lenI hI9); (try simp only [List.length_cons, List.length_nil] at hC9))
  k_with "call ref" => (k_here; (with_reducible show wpAny _ _ (PySem.call (Value.ref 69) [Value.ref _, Value.ref _, Value.int _ _]) _ _ _); k_dflt (refine' use_li (madd_says (by is_list) (by l_ints) (by k_extra "sa len") (by is_list) (by l_ints) (by k_extra "sa len") (by omega) (by omega)) (by k_asm) (by k_asm) (by k_asm) (by k_asm) (by k_asm) (by first | exact rfl | assumption) (by ktr_room) (by ktr_units) ?_; k_whole); intro l' vs' n' h' tk' F' N' i' ne' st'; (try simp only [List.forall_mem_cons, List.not_mem_nil, false_implies, implies_true, and_true] at ne'); (try k_sweep); walk_say "MADD2"; (rename IntsAre _ (maddF _ _ _) => hI9); (have hC9 := maddF_lenI hI9))
  k_with "exec For Name Subscript cons nil" => (k_here; (rename Fr _ _ _ _ => lF'); (with_unfolding_all (refine' For_invVF lF' (by exact rfl) (by exact rfl) ?_; k_whole)))
  k_with "exec For Name Name cons nil" => (k_here; (rename Fr _ _ _ _ => lF'); (with_unfolding_all (refine' For_invVF lF' (by exact rfl) (by exact rfl) ?_; k_whole)))
  k_with "call ref" => (k_here; (with_reducible show wpAny _ _ (PySem.call (Value.ref 168) [Value.ref _, Value.ref _, Value.ref _, Value.int _ _]) _ _ _); k_dflt (refine' use_li (gat_says (by is_list) (by l_ints) (by k_extra "sa len") (by assumption) (by is_list) (by l_ints) (by k_extra "sa len") (by assumption) (by is_list) (by assumption) (by assumption)) (by k_asm) (by k_asm) (by k_asm) (by k_asm) (by k_asm) (by first | exact rfl | assumption) (by ktr_room) (by ktr_units) ?_; k_whole); intro l' vs' n' h' tk' F' N' i' ne' st'; walk_say "GAT"; (try k_sweep))
  k_with "call ref" => (k_here; (with_reducible show wpAny _ _ (PySem.call (Value.ref 161) [Value.ref _, Value.int _ _, Value.ref _, Value.int _ _]) _ _ _); k_dflt (refine' use_li (gpow_says (by is_list) (by l_ints) (by k_extra "sa len") (by assumption) (by omega) (by omega) (by is_list) (by assumption) (by assumption)) (by k_asm) (by k_asm) (by k_asm) (by k_asm) (by k_asm) (by first | exact rfl | assumption) (by ktr_room) (by ktr_units) ?_; k_whole); intro l' vs' n' h' tk' F' N' i' ne' st'; walk_say "GPOW"; (try k_sweep))
  k_with "call ref" => (k_here; (with_reducible show wpAny _ _ (PySem.call (Value.ref 128) [Value.int _ _, Value.int _ _]) _ _ _); k_dflt (refine' use_li (count_says (by omega) (by omega) (by omega) (by omega)) (by k_asm) (by k_asm) (by k_asm) (by k_asm) (by k_asm) (by first | exact rfl | assumption) (by ktr_room) (by ktr_units) ?_; k_whole); intro l' vs' n' h' tk' F' N' i' ne' st'; (try simp only [List.forall_mem_cons, List.not_mem_nil, false_implies, implies_true, and_true] at ne'); (try k_sweep); walk_say "COUNT")
  k_with "call ref" => (k_here; (with_reducible show wpAny _ _ (PySem.call (Value.ref 135) [Value.ref _, Value.int _ _]) _ _ _); k_dflt (refine' use_int (size_says (by is_list) (by assumption) (by assumption)) (by k_asm) (by k_asm) (by k_asm) (by k_asm) (by k_asm) (by first | exact rfl | assumption) (by ktr_room) (by ktr_units) ?_; k_whole); intro t1' h' tk' F' N' st'; (try k_sweep); walk_say "SIZE")
  k_with "CompSrc" => (refine hold_of ?_)
  k_with "sa mem" => (first | with_reducible assumption | exact List.Mem.head _ | (refine List.Mem.tail _ ?_; k_extra "sa mem") | (refine List.mem_append.mpr (Or.inr ?_); k_extra "sa mem") | (refine List.mem_append.mpr (Or.inl ?_); k_extra "sa mem"))
  trivial
noncomputable def thingsF (n q : Int) : List (List Int) := (List.range n.toNat).map fun (i : Nat) => countF (i : Int) q
theorem things_item {n q : Int} {i : Nat} {r : List Int} (h : (thingsF n q)[i]? = some r) : (i : Int) < n ∧ r = countF (i : Int) q := by
  unfold thingsF at h
  rw [List.getElem?_map] at h
  by_cases hi : i < n.toNat
  · rw [List.getElem?_range hi] at h
    exact ⟨by omega, (Option.some.inj h).symm⟩
  · rw [List.getElem?_eq_none (by simpa using hi)] at h
    cases h
section
variable {prog : Program} {w : World} {p : Program} {loose : List Str} {mean : ExcName → Option Value} {mg mb : Str → Option Value}
set_option maxHeartbeats 2000000 in
theorem things_says {s : Shared} {lm : Addr} {vm : List Value} {ms : List Int} {q d n : Int} {tq : Tok} (hlm : s.heap.IsList lm vm.toArray) (him : IntsAre vm ms) (hS : IsSize ms q d n) :
    Says prog w p loose mean mg mb 140 [.ref lm, .int q tq] s 8 (fun v h' => NewRows s.heap v h' (thingsF n q)) := by
  intro dp un gd cn cs a ccd cl outer A₀ base h₀ L m Q E B F X T hk hd hu hret
  have hq : 2 ≤ q ∧ q ≤ 7 ∧ 3 ≤ n ∧ n ≤ 9 := hS.most
  obtain ⟨hq1, hq2, hn1, hn2⟩ := hq
  walk_at "sa enter cells"
  k_steps
  unfold Hold
  (rename IsRange _ _ _ _ _ _ _ _ => rgX)
  with_unfolding_all refine' LCg.CompSrc.range (n := n.toNat) rfl ?hF ?hN rgX ?hsm ?hn ?hsz (fun g9 => crow_rest (rows := thingsF n q) ?hr ?turn trivial ?fin)
  case hF => assumption
  case hN => assumption
  case hsm => exact small_one (by omega) (by omega) (by omega) (by omega)
  case hn => exact (rangeSize_nat _ _).trans (congrArg Nat.cast (show _ = n.toNat by omega))
  case hsz => rw [PySem.sizeLine_eq]; omega
  case hr => simp [thingsF]
  case turn =>
    unfold Hold
    intro i r v I oI C oC D m2 ys own h1 tk1 E1 hr hP hC hx F1 N1 off ne _
    obtain ⟨ti, rfl⟩ := hP
    try simp only [List.cons_append, List.nil_append] at N1
    obtain ⟨hi, rfl⟩ := things_item hr
    rw [show (0 : Int) + (i : Int) = i by omega] at hx
    (try k_fold)
    k_steps
    (rename _ ≠ _ ∧ _ ≠ _ ∧ _ ≠ _ ∧ _ ≠ _ ∧ (∀ x : Addr × Obj, _ → _) => hne)
    refine crow_end (by assumption) (by assumption) off ⟨hne.1, hne.2.1, hne.2.2.1⟩ trivial ?_
    assumption
  case fin =>
    unfold Hold
    intro ys own hr D1 h1 tk1 F1 N1 o1
    show LeaveP _ _ _ _
    exact leaveP_ F1 ⟨D1, ys, _, own, rfl, rows_out N1, hr⟩
end

theorem anew_88_take : True := by
  w_top off
  k_with_none
  k_with "sa enter" => (refine wpAny_call ?_; k_dflt (refine' enter_pure ?k1 ?k2 ?k3 ?k4 ?kA ?kF ?kK ?k6 ?k7 ?k8 ?k9 ?kB (by assumption) ?_ ?c2 ?c3 ?c4 ?c5; (case kA => exact rfl); (case kF => exact rfl); (case kK => assumption); (case k1 => k_asm); (case k2 => k_asm); (case k3 => k_asm); (case k4 => k_asm); (case k6 => k_is); (case k7 => k_is); (case k8 => ktr_room); (case k9 => exact BindsTo.of_eq rfl); (case c5 => decide); (case kB => exact locs rfl); (case c2 => exact rfl); (case c3 => exact rfl); (case c4 => exact rfl); k_whole); (with_reducible rename Below _ _ _ _ => kB'; clear kB'); (with_reducible rename Fr _ _ _ _ => kB'; clear kB'); (with_reducible rename Top _ _ _ _ _ _ => kB'; clear kB'); (rename Frag.In _ _ => kB'; clear kB'); intro L' h' F' N' B' X' T'; (try dsimp only); (try k_fold))
  k_with "sa leave list" => ((show LeaveP _ _ _ _); refine leaveP_ (by assumption) ⟨_, _, _, rfl, (News.fresh (by assumption) (List.Mem.head _)), (News.get (by assumption) (List.Mem.head _)), ?_⟩)
  k_with "execs cons Assign cons" => ((with_reducible refine wpAny_execs_cons ?_); try dsimp only)
  k_with "sa len" => (first | with_reducible assumption | exact List.length_take_le _ _ | omega | l_fact | ((simp only [rangeKs_length, List.length_map, List.length_append, List.length_cons, List.length_nil] at *); omega))
  k_with "sa enter cells" => (refine wpAny_call ?_; k_dflt (refine' enter_pureC ?k1 ?k2 ?k3 ?k4 ?kA ?kF ?kK ?k6 ?k7 ?k8 ?k9 ?kB ?kD (by assumption) ?_ ?c2 ?c3 ?c4; (case kA => exact rfl); (case kF => exact rfl); (case kK => assumption); (case k1 => k_asm); (case k2 => k_asm); (case k3 => k_asm); (case k4 => k_asm); (case k6 => k_is); (case k7 => k_is); (case k8 => ktr_room); (case k9 => exact BindsTo.of_eq rfl); (case kB => exact rfl); (case kD => decide +kernel); (case c2 => exact rfl); (case c3 => exact rfl); (case c4 => exact rfl); k_whole); (with_reducible rename Below _ _ _ _ => kB'; clear kB'); (with_reducible rename Fr _ _ _ _ => kB'; clear kB'); (with_reducible rename Top _ _ _ _ _ _ => kB'; clear kB'); (rename Frag.In _ _ => kB'; clear kB'); intro L' h' tk' cells' F' N' Y' B' X' T'; k_cells Y'; (try simp only [List.cons_append, List.nil_append, List.append_nil] at N'); (try dsimp only); (try k_fold))
  k_with "sa ne" => (first | with_reducible assumption | (refine Ne.symm ?_; with_reducible assumption) | (refine Nat.ne_of_gt ?_; assumption) | (refine Nat.ne_of_lt ?_; assumption) | ((rename _ ∧ _ => h9); first | (refine Ne.symm ?_; simp only [h9, ne_eq, not_false_eq_true]; done) | (simp only [h9, ne_eq, not_false_eq_true]; done) | (refine Nat.ne_of_gt ?_; simp only [h9]; done) | (refine Nat.ne_of_lt ?_; simp only [h9]; done) | (clear h9; k_extra "sa ne")))
  k_with "call ref" => (k_here; (with_reducible show wpAny _ _ (PySem.call (Value.ref 55) [Value.ref _]) _ _ _); k_dflt (refine' use_li (mtrim_says (by is_list) (by l_ints) (by k_extra "sa len")) (by k_asm) (by k_asm) (by k_asm) (by k_asm) (by k_asm) (by first | exact rfl | assumption) (by ktr_room) (by ktr_units) ?_; k_whole); intro l' vs' n' h' tk' F' N' i' ne' st'; (try simp only [List.forall_mem_cons, List.not_mem_nil, false_implies, implies_true, and_true] at ne'); (try k_sweep); walk_say "MTRIM"; (rename IntsAre _ (trimF _) => hI9); (have hC9 := trimF_lenI hI9))
  k_with "call ref" => (k_here; (with_reducible show wpAny _ _ (PySem.call (Value.ref 69) [Value.ref _, Value.ref _, Value.int _ _]) _ _ _); k_dflt (refine' use_li (madd_says (by is_list) (by l_ints) (by k_extra "sa len") (by is_list) (by l_ints) (by k_extra "sa len") (by omega) (by omega)) (by k_asm) (by k_asm) (by k_asm) (by k_asm) (by k_asm) (by first | exact rfl | assumption) (by ktr_room) (by ktr_units) ?_; k_whole); intro l' vs' n' h' tk' F' N' i' ne' st'; (try simp only [List.forall_mem_cons, List.not_mem_nil, false_implies, implies_true, and_true] at ne'); (try k_sweep); walk_say "MADD")
  k_with "call ref" => (k_here; (with_reducible show wpAny _ _ (PySem.call (Value.ref 86) [Value.ref _, Value.int _ _, Value.int _ _]) _ _ _); k_dflt (refine' use_li (mscale_says (by is_list) (by l_ints) (by k_extra "sa len") (by omega) (by omega) (by omega) (by omega)) (by k_asm) (by k_asm) (by k_asm) (by k_asm) (by k_asm) (by first | exact rfl | assumption) (by ktr_room) (by ktr_units) ?_; k_whole); intro l' vs' n' h' tk' F' N' i' ne' st'; (try simp only [List.forall_mem_cons, List.not_mem_nil, false_implies, implies_true, and_true] at ne'); (try k_sweep); walk_say "MSCALE")
  k_with "call ref" => (k_here; (with_reducible show wpAny _ _ (PySem.call (Value.ref 93) [Value.ref _, Value.ref _, Value.int _ _]) _ _ _); k_dflt (refine' use_li (mmul_says (by is_list) (by l_ints) (by k_extra "sa len") (by assumption) (by is_list) (by l_ints) (by k_extra "sa len") (by omega) (by omega)) (by k_asm) (by k_asm) (by k_asm) (by k_asm) (by k_asm) (by first | exact rfl | assumption) (by ktr_room) (by ktr_units) ?_; k_whole); intro l' vs' n' h' tk' F' N' i' ne' st'; (try simp only [List.forall_mem_cons, List.not_mem_nil, false_implies, implies_true, and_true] at ne'); (try k_sweep); walk_say "MMUL")
  k_with "call ref" => (k_here; (with_reducible show wpAny _ _ (PySem.call (Value.ref 48) [Value.int _ _, Value.int _ _]) _ _ _); k_dflt (refine' use_int (inv_says (by first | assumption | decide) (by first | assumption | omega)) (by k_asm) (by k_asm) (by k_asm) (by k_asm) (by k_asm) (by first | exact rfl | assumption) (by ktr_room) (by ktr_units) ?_; k_whole); intro t1' h' tk' F' N' st'; (try k_sweep); walk_say "INV")
  k_with "call ref" => (k_here; (with_reducible show wpAny _ _ (PySem.call (Value.ref 100) [Value.ref _, Value.ref _, Value.int _ _]) _ _ _); k_dflt (refine' use_p2 (mdivmod_says (by is_list) (by l_ints) (by k_extra "sa len") (by is_list) (by l_ints) (by k_extra "sa len") (by k_extra "sa len") (by assumption) (by assumption) (by assumption)) (by k_asm) (by k_asm) (by k_asm) (by k_asm) (by k_asm) (by first | exact rfl | assumption) (by ktr_room) (by ktr_units) ?_; k_whole); intro l' v1' l2' n' vs' c' h' tk' F' N' i' ne' ne2' st'; walk_say "MDIVMOD"; (try simp only [List.forall_mem_cons, List.not_mem_nil, false_implies, implies_true, and_true] at ne' ne2'); (try k_sweep))
  k_with "call ref" => (k_here; (with_reducible show wpAny _ _ (PySem.call (Value.ref 147) [Value.ref _, Value.ref _, Value.ref _, Value.int _ _]) _ _ _); k_dflt (refine' use_li (gmul_says (by is_list) (by l_ints) (by k_extra "sa len") (by first | assumption | exact small_nil) (by is_list) (by l_ints) (by k_extra "sa len") (by is_list) (by assumption) (by assumption)) (by k_asm) (by k_asm) (by k_asm) (by k_asm) (by k_asm) (by first | exact rfl | assumption) (by ktr_room) (by ktr_units) ?_; k_whole); intro l' vs' n' h' tk' F' N' i' ne' st'; (try simp only [List.forall_mem_cons, List.not_mem_nil, false_implies, implies_true, and_true] at ne'); (try k_sweep); walk_say "GMUL"; (rename IntsAre _ (gmulF _ _ _ _) => hI9); (have hC9 := gmulF_lenI hI9))
  k_with "call ref" => (k_here; (with_reducible show wpAny _ _ (PySem.call (Value.ref 86) [Value.ref _, Value.int _ _, Value.int _ _]) _ _ _); k_dflt (refine' use_li (mscale_says (by is_list) (by l_ints) (by k_extra "sa len") (by omega) (by omega) (by omega) (by omega)) (by k_asm) (by k_asm) (by k_asm) (by k_asm) (by k_asm) (by first | exact rfl | assumption) (by ktr_room) (by ktr_units) ?_; k_whole); intro l' vs' n' h' tk' F' N' i' ne' st'; (try simp only [List.forall_mem_cons, List.not_mem_nil, false_implies, implies_true, and_true] at ne'); (try k_sweep); walk_say "MSCALE2"; (rename IntsAre _ (mscaleF _ _ _) => hI9); (have hC9 := mscaleF_lenI hI9); (try simp only [List.length_cons, List.length_nil] at hC9))
  k_with "call ref" => (k_here; (with_reducible show wpAny _ _ (PySem.call (Value.ref 69) [Value.ref _, Value.ref _, Value.int _ _]) _ _ _); k_dflt (refine' use_li (madd_says (by is_list) (by l_ints) (by k_extra "sa len") (by is_list) (by l_ints) (by k_extra "sa len") (by omega) (by omega)) (by k_asm) (by k_asm) (by k_asm) (by k_asm) (by k_asm) (by first | exact rfl | assumption) (by ktr_room) (by ktr_units) ?_; k_whole); intro l' vs' n' h' tk' F' N' i' ne' st'; (try simp only [List.forall_mem_cons, List.not_mem_nil, false_implies, implies_true, and_true] at ne'); (try k_sweep); walk_say "MADD2"; (rename IntsAre _ (maddF _ _ _) => hI9); (have hC9 := maddF_lenI hI9))
  k_with "exec For Name Subscript cons nil" => (k_here; (rename Fr _ _ _ _ => lF'); (with_unfolding_all (refine' For_invVF lF' (by exact rfl) (by exact rfl) ?_; k_whole)))
  k_with "exec For Name Name cons nil" => (k_here; (rename Fr _ _ _ _ => lF'); (with_unfolding_all (refine' For_invVF lF' (by exact rfl) (by exact rfl) ?_; k_whole)))
  k_with "call ref" => (k_here; (with_reducible show wpAny _ _ (PySem.call (Value.ref 168) [Value.ref _, Value.ref _, Value.ref _, Value.int _ _]) _ _ _); k_dflt (refine' use_li (gat_says (by is_list) (by l_ints) (by k_extra "sa len") (by assumption) (by is_list) (by l_ints) (by k_extra "sa len") (by assumption) (by is_list) (by assumption) (by assumption)) (by k_asm) (by k_asm) (by k_asm) (by k_asm) (by k_asm) (by first | exact rfl | assumption) (by ktr_room) (by ktr_units) ?_; k_whole); intro l' vs' n' h' tk' F' N' i' ne' st'; walk_say "GAT"; (try k_sweep))
  k_with "call ref" => (k_here; (with_reducible show wpAny _ _ (PySem.call (Value.ref 161) [Value.ref _, Value.int _ _, Value.ref _, Value.int _ _]) _ _ _); k_dflt (refine' use_li (gpow_says (by is_list) (by l_ints) (by k_extra "sa len") (by assumption) (by omega) (by omega) (by is_list) (by assumption) (by assumption)) (by k_asm) (by k_asm) (by k_asm) (by k_asm) (by k_asm) (by first | exact rfl | assumption) (by ktr_room) (by ktr_units) ?_; k_whole); intro l' vs' n' h' tk' F' N' i' ne' st'; walk_say "GPOW"; (try k_sweep))
  k_with "call ref" => (k_here; (with_reducible show wpAny _ _ (PySem.call (Value.ref 128) [Value.int _ _, Value.int _ _]) _ _ _); k_dflt (refine' use_li (count_says (by omega) (by omega) (by omega) (by omega)) (by k_asm) (by k_asm) (by k_asm) (by k_asm) (by k_asm) (by first | exact rfl | assumption) (by ktr_room) (by ktr_units) ?_; k_whole); intro l' vs' n' h' tk' F' N' i' ne' st'; (try simp only [List.forall_mem_cons, List.not_mem_nil, false_implies, implies_true, and_true] at ne'); (try k_sweep); walk_say "COUNT")
  k_with "call ref" => (k_here; (with_reducible show wpAny _ _ (PySem.call (Value.ref 135) [Value.ref _, Value.int _ _]) _ _ _); k_dflt (refine' use_int (size_says (by is_list) (by assumption) (by assumption)) (by k_asm) (by k_asm) (by k_asm) (by k_asm) (by k_asm) (by first | exact rfl | assumption) (by ktr_room) (by ktr_units) ?_; k_whole); intro t1' h' tk' F' N' st'; (try k_sweep); walk_say "SIZE")
  k_with "CompSrc" => (refine hold_of ?_)
  k_with "sa mem" => (first | with_reducible assumption | exact List.Mem.head _ | (refine List.Mem.tail _ ?_; k_extra "sa mem") | (refine List.mem_append.mpr (Or.inr ?_); k_extra "sa mem") | (refine List.mem_append.mpr (Or.inl ?_); k_extra "sa mem"))
  trivial
abbrev boxO (lb : Addr) (k : Int) (t : Tok) (c : Nat) : Obj := listOf [Value.ref lb, Value.int k t].toArray c
noncomputable def StaysBut (h h' : Heap) (B : Addr) : Prop := ∀ b o, h.get? b = some o → b ≠ B → h'.get? b = some o
theorem fmod_pos {x q : Int} (h : 0 < q) : 0 ≤ x.fmod q ∧ x.fmod q < q := by
  rw [Int.fmod_eq_emod_of_nonneg x (by omega)]
  exact ⟨Int.emod_nonneg x (by omega), Int.emod_lt_of_pos x h⟩
theorem stays_take {h₀ H g h' : Heap} {L L' B lb : Addr} {o1 o1' o2 : Obj} {m' : Str → Option Value} (G : GSub H g ([(B, o1), (lb, o2)].map (·.1))) (F' : Fr g L' h' m') (N0 : News h₀ L H [(B, o1), (lb, o2)]) (N1 : News h₀ L h' [(B, o1'), (lb, o2)]) : StaysBut H h' B := by
  intro b o e hb
  by_cases hl : b = lb
  · subst hl
    have h1 := (N0 (b, o2) (.tail _ (.head _))).1
    rw [e] at h1
    cases h1
    exact (N1 _ (.tail _ (.head _))).1
  · refine F'.keep b o (G b o e fun hm => ?_)
    rcases List.mem_cons.mp hm with h | hm
    · exact hb h
    · exact hl (List.mem_singleton.mp hm)
section
variable {prog : Program} {w : World} {A₀ : Around} {s : Shared} {base h₀ : Heap} {outer : List Env} {L : Addr} {m : Str → Option Value} {rest : List (Addr × Obj)}
  {p : Program} {loose : List Str} {mean : ExcName → Option Value} {mg mb : Str → Option Value} {E : Value → Shared → Prop} {Q : Value → Shared → Prop}
set_option maxHeartbeats 1000000 in
theorem take_core {dp un : Nat} {gd : Option (List Code)} {cn : Str} {cs : Scope} {a : Addr} {ccd : Value} {cl : List (Str × Addr)} {B lb : Addr} {k many : Int} {t tm : Tok} {c cb : Nat} {vs : List Value} {ns : List Int}
    (hB : Below A₀ base outer h₀) (F : Fr h₀ L s.heap m) (X : (hd.heap_39 w.params).In h₀) (N : News h₀ L s.heap [(B, boxO lb k t c), (lb, listOf vs.toArray cb)]) (T : Top p loose mean mg mb h₀) (hk : cs.kind = .function) (hdp : dp + 4 < recursionLimit) (hu : un + 8 * 4 < cLine)
    (hne : @Ne Nat lb B) (hi : IntsAre vs ns) (hn : ns.length ≤ 12) (hk0 : 0 ≤ k) (hk1 : k ≤ 30) (hm0 : 2 ≤ many) (hm1 : many ≤ 9)
    (h : ∀ x t' tx c' h' tk', 0 ≤ x → x < many → Fr h₀ L h' m → News h₀ L h' [(B, boxO lb (k + 1) t' c'), (lb, listOf vs.toArray cb)] → StaysBut s.heap h' B → Q (.int x tx) { s with heap := h', toks := tk' }) :
    wpAny (model prog w) (ktrTop dp un gd cn cs L a ccd cl outer) (call (.ref 188) [.ref B, .int many tm]) Q E s := by
  refine wpAny_call ?_
  k_dflt (refine' code_defG ?k1 ?k2 ?k3 ?k4 ?k5 ?kA ?kF ?kK ?k6 ?k7 ?k8 ?k9 ?kB ?_ ?c2 ?c3 ?c4 ?c5; (case kA => exact rfl); (case kF => exact rfl); (case kK => assumption); (case k1 => k_asm); (case k2 => k_asm); (case k3 => k_asm); (case k4 => k_asm); (case k5 => k_asm); (case k6 => k_is); (case k7 => k_is); (case k8 => ktr_room); (case k9 => exact BindsTo.of_eq rfl); (case c5 => decide); (case kB => exact locs rfl); (case c2 => exact rfl); (case c3 => exact rfl); (case c4 => exact rfl); k_whole; intro g' L' h' FG' F' N' B' X' T' kG'; (try dsimp only); (try k_fold))
  k_steps
  · (rename GSub _ _ _ => kG)
    exact h _ _ _ _ _ _ (fmod_pos (by omega)).1 (fmod_pos (by omega)).2 (by assumption) (by assumption) (stays_take kG (by assumption) N (by assumption))
  · (rename GSub _ _ _ => kG)
    exact h _ _ _ _ _ _ (fmod_pos (by omega)).1 (fmod_pos (by omega)).2 (by assumption) (by assumption) (stays_take kG (by assumption) N (by assumption))
end

theorem anew_89_fields : True := by
  w_top off
  k_with_none
  k_with "sa enter" => (refine wpAny_call ?_; k_dflt (refine' enter_pure ?k1 ?k2 ?k3 ?k4 ?kA ?kF ?kK ?k6 ?k7 ?k8 ?k9 ?kB (by assumption) ?_ ?c2 ?c3 ?c4 ?c5; (case kA => exact rfl); (case kF => exact rfl); (case kK => assumption); (case k1 => k_asm); (case k2 => k_asm); (case k3 => k_asm); (case k4 => k_asm); (case k6 => k_is); (case k7 => k_is); (case k8 => ktr_room); (case k9 => exact BindsTo.of_eq rfl); (case c5 => decide); (case kB => exact locs rfl); (case c2 => exact rfl); (case c3 => exact rfl); (case c4 => exact rfl); k_whole); (with_reducible rename Below _ _ _ _ => kB'; clear kB'); (with_reducible rename Fr _ _ _ _ => kB'; clear kB'); (with_reducible rename Top _ _ _ _ _ _ => kB'; clear kB'); (rename Frag.In _ _ => kB'; clear kB'); intro L' h' F' N' B' X' T'; (try dsimp only); (try k_fold))
  k_with "sa leave list" => ((show LeaveP _ _ _ _); refine leaveP_ (by assumption) ⟨_, _, _, rfl, (News.fresh (by assumption) (List.Mem.head _)), (News.get (by assumption) (List.Mem.head _)), ?_⟩)
  k_with "execs cons Assign cons" => ((with_reducible refine wpAny_execs_cons ?_); try dsimp only)
  k_with "sa len" => (first | with_reducible assumption | exact List.length_take_le _ _ | omega | l_fact | ((simp only [rangeKs_length, List.length_map, List.length_append, List.length_cons, List.length_nil] at *); omega))
  k_with "sa enter cells" => (refine wpAny_call ?_; k_dflt (refine' enter_pureC ?k1 ?k2 ?k3 ?k4 ?kA ?kF ?kK ?k6 ?k7 ?k8 ?k9 ?kB ?kD (by assumption) ?_ ?c2 ?c3 ?c4; (case kA => exact rfl); (case kF => exact rfl); (case kK => assumption); (case k1 => k_asm); (case k2 => k_asm); (case k3 => k_asm); (case k4 => k_asm); (case k6 => k_is); (case k7 => k_is); (case k8 => ktr_room); (case k9 => exact BindsTo.of_eq rfl); (case kB => exact rfl); (case kD => decide +kernel); (case c2 => exact rfl); (case c3 => exact rfl); (case c4 => exact rfl); k_whole); (with_reducible rename Below _ _ _ _ => kB'; clear kB'); (with_reducible rename Fr _ _ _ _ => kB'; clear kB'); (with_reducible rename Top _ _ _ _ _ _ => kB'; clear kB'); (rename Frag.In _ _ => kB'; clear kB'); intro L' h' tk' cells' F' N' Y' B' X' T'; k_cells Y'; (try simp only [List.cons_append, List.nil_append, List.append_nil] at N'); (try dsimp only); (try k_fold))
  k_with "sa ne" => (first | with_reducible assumption | (refine Ne.symm ?_; with_reducible assumption) | (refine Nat.ne_of_gt ?_; assumption) | (refine Nat.ne_of_lt ?_; assumption) | ((rename _ ∧ _ => h9); first | (refine Ne.symm ?_; simp only [h9, ne_eq, not_false_eq_true]; done) | (simp only [h9, ne_eq, not_false_eq_true]; done) | (refine Nat.ne_of_gt ?_; simp only [h9]; done) | (refine Nat.ne_of_lt ?_; simp only [h9]; done) | (clear h9; k_extra "sa ne")))
  k_with "call ref" => (k_here; (with_reducible show wpAny _ _ (PySem.call (Value.ref 55) [Value.ref _]) _ _ _); k_dflt (refine' use_li (mtrim_says (by is_list) (by l_ints) (by k_extra "sa len")) (by k_asm) (by k_asm) (by k_asm) (by k_asm) (by k_asm) (by first | exact rfl | assumption) (by ktr_room) (by ktr_units) ?_; k_whole); intro l' vs' n' h' tk' F' N' i' ne' st'; (try simp only [List.forall_mem_cons, List.not_mem_nil, false_implies, implies_true, and_true] at ne'); (try k_sweep); walk_say "MTRIM"; (rename IntsAre _ (trimF _) => hI9); (have hC9 := trimF_lenI hI9))
  k_with "call ref" => (k_here; (with_reducible show wpAny _ _ (PySem.call (Value.ref 69) [Value.ref _, Value.ref _, Value.int _ _]) _ _ _); k_dflt (refine' use_li (madd_says (by is_list) (by l_ints) (by k_extra "sa len") (by is_list) (by l_ints) (by k_extra "sa len") (by omega) (by omega)) (by k_asm) (by k_asm) (by k_asm) (by k_asm) (by k_asm) (by first | exact rfl | assumption) (by ktr_room) (by ktr_units) ?_; k_whole); intro l' vs' n' h' tk' F' N' i' ne' st'; (try simp only [List.forall_mem_cons, List.not_mem_nil, false_implies, implies_true, and_true] at ne'); (try k_sweep); walk_say "MADD")
  k_with "call ref" => (k_here; (with_reducible show wpAny _ _ (PySem.call (Value.ref 86) [Value.ref _, Value.int _ _, Value.int _ _]) _ _ _); k_dflt (refine' use_li (mscale_says (by is_list) (by l_ints) (by k_extra "sa len") (by omega) (by omega) (by omega) (by omega)) (by k_asm) (by k_asm) (by k_asm) (by k_asm) (by k_asm) (by first | exact rfl | assumption) (by ktr_room) (by ktr_units) ?_; k_whole); intro l' vs' n' h' tk' F' N' i' ne' st'; (try simp only [List.forall_mem_cons, List.not_mem_nil, false_implies, implies_true, and_true] at ne'); (try k_sweep); walk_say "MSCALE")
  k_with "call ref" => (k_here; (with_reducible show wpAny _ _ (PySem.call (Value.ref 93) [Value.ref _, Value.ref _, Value.int _ _]) _ _ _); k_dflt (refine' use_li (mmul_says (by is_list) (by l_ints) (by k_extra "sa len") (by assumption) (by is_list) (by l_ints) (by k_extra "sa len") (by omega) (by omega)) (by k_asm) (by k_asm) (by k_asm) (by k_asm) (by k_asm) (by first | exact rfl | assumption) (by ktr_room) (by ktr_units) ?_; k_whole); intro l' vs' n' h' tk' F' N' i' ne' st'; (try simp only [List.forall_mem_cons, List.not_mem_nil, false_implies, implies_true, and_true] at ne'); (try k_sweep); walk_say "MMUL")
  k_with "call ref" => (k_here; (with_reducible show wpAny _ _ (PySem.call (Value.ref 48) [Value.int _ _, Value.int _ _]) _ _ _); k_dflt (refine' use_int (inv_says (by first | assumption | decide) (by first | assumption | omega)) (by k_asm) (by k_asm) (by k_asm) (by k_asm) (by k_asm) (by first | exact rfl | assumption) (by ktr_room) (by ktr_units) ?_; k_whole); intro t1' h' tk' F' N' st'; (try k_sweep); walk_say "INV")
  k_with "call ref" => (k_here; (with_reducible show wpAny _ _ (PySem.call (Value.ref 100) [Value.ref _, Value.ref _, Value.int _ _]) _ _ _); k_dflt (refine' use_p2 (mdivmod_says (by is_list) (by l_ints) (by k_extra "sa len") (by is_list) (by l_ints) (by k_extra "sa len") (by k_extra "sa len") (by assumption) (by assumption) (by assumption)) (by k_asm) (by k_asm) (by k_asm) (by k_asm) (by k_asm) (by first | exact rfl | assumption) (by ktr_room) (by ktr_units) ?_; k_whole); intro l' v1' l2' n' vs' c' h' tk' F' N' i' ne' ne2' st'; walk_say "MDIVMOD"; (try simp only [List.forall_mem_cons, List.not_mem_nil, false_implies, implies_true, and_true] at ne' ne2'); (try k_sweep))
  k_with "call ref" => (k_here; (with_reducible show wpAny _ _ (PySem.call (Value.ref 147) [Value.ref _, Value.ref _, Value.ref _, Value.int _ _]) _ _ _); k_dflt (refine' use_li (gmul_says (by is_list) (by l_ints) (by k_extra "sa len") (by first | assumption | exact small_nil) (by is_list) (by l_ints) (by k_extra "sa len") (by is_list) (by assumption) (by assumption)) (by k_asm) (by k_asm) (by k_asm) (by k_asm) (by k_asm) (by first | exact rfl | assumption) (by ktr_room) (by ktr_units) ?_; k_whole); intro l' vs' n' h' tk' F' N' i' ne' st'; (try simp only [List.forall_mem_cons, List.not_mem_nil, false_implies, implies_true, and_true] at ne'); (try k_sweep); walk_say "GMUL"; (rename IntsAre _ (gmulF _ _ _ _) => hI9); (have hC9 := gmulF_lenI hI9))
  k_with "call ref" => (k_here; (with_reducible show wpAny _ _ (PySem.call (Value.ref 86) [Value.ref _, Value.int _ _, Value.int _ _]) _ _ _); k_dflt (refine' use_li (mscale_says (by is_list) (by l_ints) (by k_extra "sa len") (by omega) (by omega) (by omega) (by omega)) (by k_asm) (by k_asm) (by k_asm) (by k_asm) (by k_asm) (by first | exact rfl | assumption) (by ktr_room) (by ktr_units) ?_; k_whole); intro l' vs' n' h' tk' F' N' i' ne' st'; (try simp only [List.forall_mem_cons, List.not_mem_nil, false_implies, implies_true, and_true] at ne'); (try k_sweep); walk_say "MSCALE2"; (rename IntsAre _ (mscaleF _ _ _) => hI9); (have hC9 := mscaleF_lenI hI9); (try simp only [List.length_cons, List.length_nil] at hC9))
  k_with "call ref" => (k_here; (with_reducible show wpAny _ _ (PySem.call (Value.ref 69) [Value.ref _, Value.ref _, Value.int _ _]) _ _ _); k_dflt (refine' use_li (madd_says (by is_list) (by l_ints) (by k_extra "sa len") (by is_list) (by l_ints) (by k_extra "sa len") (by omega) (by omega)) (by k_asm) (by k_asm) (by k_asm) (by k_asm) (by k_asm) (by first | exact rfl | assumption) (by ktr_room) (by ktr_units) ?_; k_whole); intro l' vs' n' h' tk' F' N' i' ne' st'; (try simp only [List.forall_mem_cons, List.not_mem_nil, false_implies, implies_true, and_true] at ne'); (try k_sweep); walk_say "MADD2"; (rename IntsAre _ (maddF _ _ _) => hI9); (have hC9 := maddF_lenI hI9))
  k_with "exec For Name Subscript cons nil" => (k_here; (rename Fr _ _ _ _ => lF'); (with_unfolding_all (refine' For_invVF lF' (by exact rfl) (by exact rfl) ?_; k_whole)))
  k_with "exec For Name Name cons nil" => (k_here; (rename Fr _ _ _ _ => lF'); (with_unfolding_all (refine' For_invVF lF' (by exact rfl) (by exact rfl) ?_; k_whole)))
  k_with "call ref" => (k_here; (with_reducible show wpAny _ _ (PySem.call (Value.ref 168) [Value.ref _, Value.ref _, Value.ref _, Value.int _ _]) _ _ _); k_dflt (refine' use_li (gat_says (by is_list) (by l_ints) (by k_extra "sa len") (by assumption) (by is_list) (by l_ints) (by k_extra "sa len") (by assumption) (by is_list) (by assumption) (by assumption)) (by k_asm) (by k_asm) (by k_asm) (by k_asm) (by k_asm) (by first | exact rfl | assumption) (by ktr_room) (by ktr_units) ?_; k_whole); intro l' vs' n' h' tk' F' N' i' ne' st'; walk_say "GAT"; (try k_sweep))
  k_with "call ref" => (k_here; (with_reducible show wpAny _ _ (PySem.call (Value.ref 161) [Value.ref _, Value.int _ _, Value.ref _, Value.int _ _]) _ _ _); k_dflt (refine' use_li (gpow_says (by is_list) (by l_ints) (by k_extra "sa len") (by assumption) (by omega) (by omega) (by is_list) (by assumption) (by assumption)) (by k_asm) (by k_asm) (by k_asm) (by k_asm) (by k_asm) (by first | exact rfl | assumption) (by ktr_room) (by ktr_units) ?_; k_whole); intro l' vs' n' h' tk' F' N' i' ne' st'; walk_say "GPOW"; (try k_sweep))
  k_with "call ref" => (k_here; (with_reducible show wpAny _ _ (PySem.call (Value.ref 128) [Value.int _ _, Value.int _ _]) _ _ _); k_dflt (refine' use_li (count_says (by omega) (by omega) (by omega) (by omega)) (by k_asm) (by k_asm) (by k_asm) (by k_asm) (by k_asm) (by first | exact rfl | assumption) (by ktr_room) (by ktr_units) ?_; k_whole); intro l' vs' n' h' tk' F' N' i' ne' st'; (try simp only [List.forall_mem_cons, List.not_mem_nil, false_implies, implies_true, and_true] at ne'); (try k_sweep); walk_say "COUNT")
  k_with "call ref" => (k_here; (with_reducible show wpAny _ _ (PySem.call (Value.ref 135) [Value.ref _, Value.int _ _]) _ _ _); k_dflt (refine' use_int (size_says (by is_list) (by assumption) (by assumption)) (by k_asm) (by k_asm) (by k_asm) (by k_asm) (by k_asm) (by first | exact rfl | assumption) (by ktr_room) (by ktr_units) ?_; k_whole); intro t1' h' tk' F' N' st'; (try k_sweep); walk_say "SIZE")
  k_with "CompSrc" => (refine hold_of ?_)
  k_with "sa mem" => (first | with_reducible assumption | exact List.Mem.head _ | (refine List.Mem.tail _ ?_; k_extra "sa mem") | (refine List.mem_append.mpr (Or.inr ?_); k_extra "sa mem") | (refine List.mem_append.mpr (Or.inl ?_); k_extra "sa mem"))
  trivial
/-- the six fields of the law's table: p, m, how many numbers f has; and m's degree, the field's size -/
noncomputable def FieldOk (q : Int) (ms : List Int) (most d n : Int) : Prop :=
  (q = 2 ∧ ms = [1, 1, 1] ∧ most = 4 ∧ d = 2 ∧ n = 4) ∨ (q = 7 ∧ ms = [0, 1] ∧ most = 7 ∧ d = 1 ∧ n = 7) ∨ (q = 5 ∧ ms = [0, 1] ∧ most = 5 ∧ d = 1 ∧ n = 5) ∨
  (q = 3 ∧ ms = [1, 0, 1] ∧ most = 4 ∧ d = 2 ∧ n = 9) ∨ (q = 2 ∧ ms = [1, 1, 0, 1] ∧ most = 2 ∧ d = 3 ∧ n = 8) ∨ (q = 3 ∧ ms = [1, 1] ∧ most = 3 ∧ d = 1 ∧ n = 3)
theorem FieldOk.isMod {q most d n : Int} {ms : List Int} (h : FieldOk q ms most d n) : IsMod ms q := by
  rcases h with ⟨rfl, rfl, rfl, rfl, rfl⟩ | ⟨rfl, rfl, rfl, rfl, rfl⟩ | ⟨rfl, rfl, rfl, rfl, rfl⟩ | ⟨rfl, rfl, rfl, rfl, rfl⟩ | ⟨rfl, rfl, rfl, rfl, rfl⟩ | ⟨rfl, rfl, rfl, rfl, rfl⟩ <;> exact ⟨by decide, by decide, by decide, by decide, by decide⟩
theorem FieldOk.isSize {q most d n : Int} {ms : List Int} (h : FieldOk q ms most d n) : IsSize ms q d n := by
  rcases h with ⟨rfl, rfl, rfl, rfl, rfl⟩ | ⟨rfl, rfl, rfl, rfl, rfl⟩ | ⟨rfl, rfl, rfl, rfl, rfl⟩ | ⟨rfl, rfl, rfl, rfl, rfl⟩ | ⟨rfl, rfl, rfl, rfl, rfl⟩ | ⟨rfl, rfl, rfl, rfl, rfl⟩ <;> exact ⟨by decide, by decide⟩
theorem FieldOk.most {q most d n : Int} {ms : List Int} (h : FieldOk q ms most d n) : 2 ≤ most ∧ most ≤ 7 ∧ 3 ≤ n ∧ n ≤ 9 ∧ 2 ≤ q ∧ q ≤ 7 := by
  rcases h with ⟨rfl, rfl, rfl, rfl, rfl⟩ | ⟨rfl, rfl, rfl, rfl, rfl⟩ | ⟨rfl, rfl, rfl, rfl, rfl⟩ | ⟨rfl, rfl, rfl, rfl, rfl⟩ | ⟨rfl, rfl, rfl, rfl, rfl⟩ | ⟨rfl, rfl, rfl, rfl, rfl⟩ <;> decide
section
variable {prog : Program} {w : World} {A : Around} {s : Shared} {h₀ : Heap} {L : Addr} {m : Str → Option Value} {E : Value → Shared → Prop} {Q : Value → Shared → Prop} {value slice : PySem.Expr}
theorem fields_item {x : Int} {u : Tok} (F : Fr h₀ L s.heap m) (X : (hd.heap_39 w.params).In h₀) (hx0 : 0 ≤ x) (hx1 : x < 6)
    (h : ∀ (tp lm : Addr) (q most d n : Int) (tq tm : Tok) (vs : List Value) (ms : List Int), FieldOk q ms most d n → IsTup h₀ tp #[.int q tq, .ref lm, .int most tm] → h₀.IsList lm vs.toArray → IntsAre vs ms → Q (.ref tp) s)
    (hs : subscripted slice false (.ref 181) (.int x u) = operate [.ref 181, .int x u] (getItem (.ref 181) (.int x u))) :
    wpAny (model prog w) A (subscriptTail value slice (.ref 181) (.int x u)) Q E s := by
  have hx : x = 0 ∨ x = 1 ∨ x = 2 ∨ x = 3 ∨ x = 4 ∨ x = 5 := by omega
  rcases hx with rfl | rfl | rfl | rfl | rfl | rfl
  · refine' topTup_K F X ?hl (by decide) (by decide) ?hj ?hx ?hh hs
    case hl => k_is
    case hj => exact rfl
    case hx => exact rfl
    case hh => exact h _ _ 2 4 2 4 _ _ _ [1, 1, 1] (.inl ⟨rfl, rfl, rfl, rfl, rfl⟩) (tupK X (by k_is)) (lstK X (by k_is)) (by repeat constructor)
  · refine' topTup_K F X ?hl (by decide) (by decide) ?hj ?hx ?hh hs
    case hl => k_is
    case hj => exact rfl
    case hx => exact rfl
    case hh => exact h _ _ 7 7 1 7 _ _ _ [0, 1] (.inr (.inl ⟨rfl, rfl, rfl, rfl, rfl⟩)) (tupK X (by k_is)) (lstK X (by k_is)) (by repeat constructor)
  · refine' topTup_K F X ?hl (by decide) (by decide) ?hj ?hx ?hh hs
    case hl => k_is
    case hj => exact rfl
    case hx => exact rfl
    case hh => exact h _ _ 5 5 1 5 _ _ _ [0, 1] (.inr (.inr (.inl ⟨rfl, rfl, rfl, rfl, rfl⟩))) (tupK X (by k_is)) (lstK X (by k_is)) (by repeat constructor)
  · refine' topTup_K F X ?hl (by decide) (by decide) ?hj ?hx ?hh hs
    case hl => k_is
    case hj => exact rfl
    case hx => exact rfl
    case hh => exact h _ _ 3 4 2 9 _ _ _ [1, 0, 1] (.inr (.inr (.inr (.inl ⟨rfl, rfl, rfl, rfl, rfl⟩)))) (tupK X (by k_is)) (lstK X (by k_is)) (by repeat constructor)
  · refine' topTup_K F X ?hl (by decide) (by decide) ?hj ?hx ?hh hs
    case hl => k_is
    case hj => exact rfl
    case hx => exact rfl
    case hh => exact h _ _ 2 2 3 8 _ _ _ [1, 1, 0, 1] (.inr (.inr (.inr (.inr (.inl ⟨rfl, rfl, rfl, rfl, rfl⟩))))) (tupK X (by k_is)) (lstK X (by k_is)) (by repeat constructor)
  · refine' topTup_K F X ?hl (by decide) (by decide) ?hj ?hx ?hh hs
    case hl => k_is
    case hj => exact rfl
    case hx => exact rfl
    case hh => exact h _ _ 3 3 1 3 _ _ _ [1, 1] (.inr (.inr (.inr (.inr (.inr ⟨rfl, rfl, rfl, rfl, rfl⟩))))) (tupK X (by k_is)) (lstK X (by k_is)) (by repeat constructor)
end

theorem anew_90_use : True := by
  w_top off
  k_with_none
  k_with "sa enter" => (refine wpAny_call ?_; k_dflt (refine' enter_pure ?k1 ?k2 ?k3 ?k4 ?kA ?kF ?kK ?k6 ?k7 ?k8 ?k9 ?kB (by assumption) ?_ ?c2 ?c3 ?c4 ?c5; (case kA => exact rfl); (case kF => exact rfl); (case kK => assumption); (case k1 => k_asm); (case k2 => k_asm); (case k3 => k_asm); (case k4 => k_asm); (case k6 => k_is); (case k7 => k_is); (case k8 => ktr_room); (case k9 => exact BindsTo.of_eq rfl); (case c5 => decide); (case kB => exact locs rfl); (case c2 => exact rfl); (case c3 => exact rfl); (case c4 => exact rfl); k_whole); (with_reducible rename Below _ _ _ _ => kB'; clear kB'); (with_reducible rename Fr _ _ _ _ => kB'; clear kB'); (with_reducible rename Top _ _ _ _ _ _ => kB'; clear kB'); (rename Frag.In _ _ => kB'; clear kB'); intro L' h' F' N' B' X' T'; (try dsimp only); (try k_fold))
  k_with "sa leave list" => ((show LeaveP _ _ _ _); refine leaveP_ (by assumption) ⟨_, _, _, rfl, (News.fresh (by assumption) (List.Mem.head _)), (News.get (by assumption) (List.Mem.head _)), ?_⟩)
  k_with "execs cons Assign cons" => ((with_reducible refine wpAny_execs_cons ?_); try dsimp only)
  k_with "sa len" => (first | with_reducible assumption | exact List.length_take_le _ _ | omega | l_fact | ((simp only [rangeKs_length, List.length_map, List.length_append, List.length_cons, List.length_nil] at *); omega))
  k_with "sa enter cells" => (refine wpAny_call ?_; k_dflt (refine' enter_pureC ?k1 ?k2 ?k3 ?k4 ?kA ?kF ?kK ?k6 ?k7 ?k8 ?k9 ?kB ?kD (by assumption) ?_ ?c2 ?c3 ?c4; (case kA => exact rfl); (case kF => exact rfl); (case kK => assumption); (case k1 => k_asm); (case k2 => k_asm); (case k3 => k_asm); (case k4 => k_asm); (case k6 => k_is); (case k7 => k_is); (case k8 => ktr_room); (case k9 => exact BindsTo.of_eq rfl); (case kB => exact rfl); (case kD => decide +kernel); (case c2 => exact rfl); (case c3 => exact rfl); (case c4 => exact rfl); k_whole); (with_reducible rename Below _ _ _ _ => kB'; clear kB'); (with_reducible rename Fr _ _ _ _ => kB'; clear kB'); (with_reducible rename Top _ _ _ _ _ _ => kB'; clear kB'); (rename Frag.In _ _ => kB'; clear kB'); intro L' h' tk' cells' F' N' Y' B' X' T'; k_cells Y'; (try simp only [List.cons_append, List.nil_append, List.append_nil] at N'); (try dsimp only); (try k_fold))
  k_with "sa ne" => (first | with_reducible assumption | (refine Ne.symm ?_; with_reducible assumption) | (refine Nat.ne_of_gt ?_; assumption) | (refine Nat.ne_of_lt ?_; assumption) | ((rename _ ∧ _ => h9); first | (refine Ne.symm ?_; simp only [h9, ne_eq, not_false_eq_true]; done) | (simp only [h9, ne_eq, not_false_eq_true]; done) | (refine Nat.ne_of_gt ?_; simp only [h9]; done) | (refine Nat.ne_of_lt ?_; simp only [h9]; done) | (clear h9; k_extra "sa ne")))
  k_with "call ref" => (k_here; (with_reducible show wpAny _ _ (PySem.call (Value.ref 55) [Value.ref _]) _ _ _); k_dflt (refine' use_li (mtrim_says (by is_list) (by l_ints) (by k_extra "sa len")) (by k_asm) (by k_asm) (by k_asm) (by k_asm) (by k_asm) (by first | exact rfl | assumption) (by ktr_room) (by ktr_units) ?_; k_whole); intro l' vs' n' h' tk' F' N' i' ne' st'; (try simp only [List.forall_mem_cons, List.not_mem_nil, false_implies, implies_true, and_true] at ne'); (try k_sweep); walk_say "MTRIM"; (rename IntsAre _ (trimF _) => hI9); (have hC9 := trimF_lenI hI9))
  k_with "call ref" => (k_here; (with_reducible show wpAny _ _ (PySem.call (Value.ref 69) [Value.ref _, Value.ref _, Value.int _ _]) _ _ _); k_dflt (refine' use_li (madd_says (by is_list) (by l_ints) (by k_extra "sa len") (by is_list) (by l_ints) (by k_extra "sa len") (by omega) (by omega)) (by k_asm) (by k_asm) (by k_asm) (by k_asm) (by k_asm) (by first | exact rfl | assumption) (by ktr_room) (by ktr_units) ?_; k_whole); intro l' vs' n' h' tk' F' N' i' ne' st'; (try simp only [List.forall_mem_cons, List.not_mem_nil, false_implies, implies_true, and_true] at ne'); (try k_sweep); walk_say "MADD")
  k_with "call ref" => (k_here; (with_reducible show wpAny _ _ (PySem.call (Value.ref 86) [Value.ref _, Value.int _ _, Value.int _ _]) _ _ _); k_dflt (refine' use_li (mscale_says (by is_list) (by l_ints) (by k_extra "sa len") (by omega) (by omega) (by omega) (by omega)) (by k_asm) (by k_asm) (by k_asm) (by k_asm) (by k_asm) (by first | exact rfl | assumption) (by ktr_room) (by ktr_units) ?_; k_whole); intro l' vs' n' h' tk' F' N' i' ne' st'; (try simp only [List.forall_mem_cons, List.not_mem_nil, false_implies, implies_true, and_true] at ne'); (try k_sweep); walk_say "MSCALE")
  k_with "call ref" => (k_here; (with_reducible show wpAny _ _ (PySem.call (Value.ref 93) [Value.ref _, Value.ref _, Value.int _ _]) _ _ _); k_dflt (refine' use_li (mmul_says (by is_list) (by l_ints) (by k_extra "sa len") (by assumption) (by is_list) (by l_ints) (by k_extra "sa len") (by omega) (by omega)) (by k_asm) (by k_asm) (by k_asm) (by k_asm) (by k_asm) (by first | exact rfl | assumption) (by ktr_room) (by ktr_units) ?_; k_whole); intro l' vs' n' h' tk' F' N' i' ne' st'; (try simp only [List.forall_mem_cons, List.not_mem_nil, false_implies, implies_true, and_true] at ne'); (try k_sweep); walk_say "MMUL")
  k_with "call ref" => (k_here; (with_reducible show wpAny _ _ (PySem.call (Value.ref 48) [Value.int _ _, Value.int _ _]) _ _ _); k_dflt (refine' use_int (inv_says (by first | assumption | decide) (by first | assumption | omega)) (by k_asm) (by k_asm) (by k_asm) (by k_asm) (by k_asm) (by first | exact rfl | assumption) (by ktr_room) (by ktr_units) ?_; k_whole); intro t1' h' tk' F' N' st'; (try k_sweep); walk_say "INV")
  k_with "call ref" => (k_here; (with_reducible show wpAny _ _ (PySem.call (Value.ref 100) [Value.ref _, Value.ref _, Value.int _ _]) _ _ _); k_dflt (refine' use_p2 (mdivmod_says (by is_list) (by l_ints) (by k_extra "sa len") (by is_list) (by l_ints) (by k_extra "sa len") (by k_extra "sa len") (by assumption) (by assumption) (by assumption)) (by k_asm) (by k_asm) (by k_asm) (by k_asm) (by k_asm) (by first | exact rfl | assumption) (by ktr_room) (by ktr_units) ?_; k_whole); intro l' v1' l2' n' vs' c' h' tk' F' N' i' ne' ne2' st'; walk_say "MDIVMOD"; (try simp only [List.forall_mem_cons, List.not_mem_nil, false_implies, implies_true, and_true] at ne' ne2'); (try k_sweep))
  k_with "call ref" => (k_here; (with_reducible show wpAny _ _ (PySem.call (Value.ref 147) [Value.ref _, Value.ref _, Value.ref _, Value.int _ _]) _ _ _); k_dflt (refine' use_li (gmul_says (by is_list) (by l_ints) (by k_extra "sa len") (by first | assumption | exact small_nil) (by is_list) (by l_ints) (by k_extra "sa len") (by is_list) (by assumption) (by assumption)) (by k_asm) (by k_asm) (by k_asm) (by k_asm) (by k_asm) (by first | exact rfl | assumption) (by ktr_room) (by ktr_units) ?_; k_whole); intro l' vs' n' h' tk' F' N' i' ne' st'; (try simp only [List.forall_mem_cons, List.not_mem_nil, false_implies, implies_true, and_true] at ne'); (try k_sweep); walk_say "GMUL"; (rename IntsAre _ (gmulF _ _ _ _) => hI9); (have hC9 := gmulF_lenI hI9))
  k_with "call ref" => (k_here; (with_reducible show wpAny _ _ (PySem.call (Value.ref 86) [Value.ref _, Value.int _ _, Value.int _ _]) _ _ _); k_dflt (refine' use_li (mscale_says (by is_list) (by l_ints) (by k_extra "sa len") (by omega) (by omega) (by omega) (by omega)) (by k_asm) (by k_asm) (by k_asm) (by k_asm) (by k_asm) (by first | exact rfl | assumption) (by ktr_room) (by ktr_units) ?_; k_whole); intro l' vs' n' h' tk' F' N' i' ne' st'; (try simp only [List.forall_mem_cons, List.not_mem_nil, false_implies, implies_true, and_true] at ne'); (try k_sweep); walk_say "MSCALE2"; (rename IntsAre _ (mscaleF _ _ _) => hI9); (have hC9 := mscaleF_lenI hI9); (try simp only [List.length_cons, List.length_nil] at hC9))
  k_with "call ref" => (k_here; (with_reducible show wpAny _ _ (PySem.call (Value.ref 69) [Value.ref _, Value.ref _, Value.int _ _]) _ _ _); k_dflt (refine' use_li (madd_says (by is_list) (by l_ints) (by k_extra "sa len") (by is_list) (by l_ints) (by k_extra "sa len") (by omega) (by omega)) (by k_asm) (by k_asm) (by k_asm) (by k_asm) (by k_asm) (by first | exact rfl | assumption) (by ktr_room) (by ktr_units) ?_; k_whole); intro l' vs' n' h' tk' F' N' i' ne' st'; (try simp only [List.forall_mem_cons, List.not_mem_nil, false_implies, implies_true, and_true] at ne'); (try k_sweep); walk_say "MADD2"; (rename IntsAre _ (maddF _ _ _) => hI9); (have hC9 := maddF_lenI hI9))
  k_with "exec For Name Subscript cons nil" => (k_here; (rename Fr _ _ _ _ => lF'); (with_unfolding_all (refine' For_invVF lF' (by exact rfl) (by exact rfl) ?_; k_whole)))
  k_with "exec For Name Name cons nil" => (k_here; (rename Fr _ _ _ _ => lF'); (with_unfolding_all (refine' For_invVF lF' (by exact rfl) (by exact rfl) ?_; k_whole)))
  k_with "call ref" => (k_here; (with_reducible show wpAny _ _ (PySem.call (Value.ref 168) [Value.ref _, Value.ref _, Value.ref _, Value.int _ _]) _ _ _); k_dflt (refine' use_li (gat_says (by is_list) (by l_ints) (by k_extra "sa len") (by assumption) (by is_list) (by l_ints) (by k_extra "sa len") (by assumption) (by is_list) (by assumption) (by assumption)) (by k_asm) (by k_asm) (by k_asm) (by k_asm) (by k_asm) (by first | exact rfl | assumption) (by ktr_room) (by ktr_units) ?_; k_whole); intro l' vs' n' h' tk' F' N' i' ne' st'; walk_say "GAT"; (try k_sweep))
  k_with "call ref" => (k_here; (with_reducible show wpAny _ _ (PySem.call (Value.ref 161) [Value.ref _, Value.int _ _, Value.ref _, Value.int _ _]) _ _ _); k_dflt (refine' use_li (gpow_says (by is_list) (by l_ints) (by k_extra "sa len") (by assumption) (by omega) (by omega) (by is_list) (by assumption) (by assumption)) (by k_asm) (by k_asm) (by k_asm) (by k_asm) (by k_asm) (by first | exact rfl | assumption) (by ktr_room) (by ktr_units) ?_; k_whole); intro l' vs' n' h' tk' F' N' i' ne' st'; walk_say "GPOW"; (try k_sweep))
  k_with "call ref" => (k_here; (with_reducible show wpAny _ _ (PySem.call (Value.ref 128) [Value.int _ _, Value.int _ _]) _ _ _); k_dflt (refine' use_li (count_says (by omega) (by omega) (by omega) (by omega)) (by k_asm) (by k_asm) (by k_asm) (by k_asm) (by k_asm) (by first | exact rfl | assumption) (by ktr_room) (by ktr_units) ?_; k_whole); intro l' vs' n' h' tk' F' N' i' ne' st'; (try simp only [List.forall_mem_cons, List.not_mem_nil, false_implies, implies_true, and_true] at ne'); (try k_sweep); walk_say "COUNT")
  k_with "call ref" => (k_here; (with_reducible show wpAny _ _ (PySem.call (Value.ref 135) [Value.ref _, Value.int _ _]) _ _ _); k_dflt (refine' use_int (size_says (by is_list) (by assumption) (by assumption)) (by k_asm) (by k_asm) (by k_asm) (by k_asm) (by k_asm) (by first | exact rfl | assumption) (by ktr_room) (by ktr_units) ?_; k_whole); intro t1' h' tk' F' N' st'; (try k_sweep); walk_say "SIZE")
  k_with "CompSrc" => (refine hold_of ?_)
  k_with "sa mem" => (first | with_reducible assumption | exact List.Mem.head _ | (refine List.Mem.tail _ ?_; k_extra "sa mem") | (refine List.mem_append.mpr (Or.inr ?_); k_extra "sa mem") | (refine List.mem_append.mpr (Or.inl ?_); k_extra "sa mem"))
  trivial
section
variable {prog : Program} {w : World} {A₀ : Around} {s : Shared} {base h₀ : Heap} {outer : List Env} {L : Addr} {m : Str → Option Value} {news : List (Addr × Obj)}
  {p : Program} {loose : List Str} {mean : ExcName → Option Value} {mg mb : Str → Option Value} {E : Value → Shared → Prop} {Q : Value → Shared → Prop}
theorem take_use {dp un : Nat} {gd : Option (List Code)} {cn : Str} {cs : Scope} {a : Addr} {ccd : Value} {cl : List (Str × Addr)} {B lb : Addr} {k many : Int} {t tm : Tok} {c cb : Nat} {vs : List Value} {ns : List Int} {nb : Obj → List (Addr × Obj)}
    (hB : Below A₀ base outer h₀) (F : Fr h₀ L s.heap m) (X : (hd.heap_39 w.params).In h₀) (N : News h₀ L s.heap news) (T : Top p loose mean mg mb h₀) (hk : cs.kind = .function) (hdp : dp + 4 < recursionLimit) (hu : un + 8 * 4 < cLine)
    (U : ∀ o', Upd B (boxO lb k t c) o' news (nb o')) (hl : (lb, listOf vs.toArray cb) ∈ news) (hne : @Ne Nat lb B) (hi : IntsAre vs ns) (hn : ns.length ≤ 12) (hk0 : 0 ≤ k) (hk1 : k ≤ 30) (hm0 : 2 ≤ many) (hm1 : many ≤ 9)
    (h : ∀ x t' tx c' h' tk', 0 ≤ x → x < many → Fr h₀ L h' m → News h₀ L h' (nb (boxO lb (k + 1) t' c')) → Q (.int x tx) { s with heap := h', toks := tk' }) :
    wpAny (model prog w) (ktrTop dp un gd cn cs L a ccd cl outer) (call (.ref 188) [.ref B, .int many tm]) Q E s := by
  obtain ⟨pre, post, e, _, hpre, hpost⟩ := (U (boxO lb k t c)).split
  have N2 : News h₀ L s.heap [(B, boxO lb k t c), (lb, listOf vs.toArray cb)] := fun q hq => N q (by
    rcases List.mem_cons.mp hq with rfl | hq
    · rw [e]; exact List.mem_append.mpr (.inr (.head _))
    · rw [List.mem_singleton.mp hq]; exact hl)
  refine take_core hB F X N2 T hk hdp hu hne hi hn hk0 hk1 hm0 hm1 fun x t' tx c' h' tk' hx0 hx1 F' N' st => h x t' tx c' h' tk' hx0 hx1 F' ?_
  obtain ⟨pre, post, e, e2, hpre, hpost⟩ := (U (boxO lb (k + 1) t' c')).split
  rw [e2]
  intro q hq
  have old : q ∈ pre ∨ q ∈ post → q.1 ≠ B → h'.get? q.1 = some q.2 ∧ q.1 ≠ L ∧ h₀.get? q.1 = none := fun hm hb => by
    have hN := N q (by rw [e]; exact List.mem_append.mpr (hm.imp id fun hm => .tail _ hm))
    exact ⟨st _ _ hN.1 hb, hN.2⟩
  rcases List.mem_append.mp hq with hq | hq
  · exact old (.inl hq) (hpre q hq)
  · rcases List.mem_cons.mp hq with rfl | hq
    · exact N' _ (.head _)
    · exact old (.inr hq) (hpost q hq)
theorem rows_use {dp un : Nat} {gd : Option (List Code)} {cn : Str} {cs : Scope} {a : Addr} {ccd : Value} {cl : List (Str × Addr)} {f : Addr} {vs : List Value} {need : Nat} {rows : List (List Int)}
    (S : Says prog w p loose mean mg mb f vs s need (fun v h' => NewRows s.heap v h' rows))
    (B : Below A₀ base outer h₀) (F : Fr h₀ L s.heap m) (X : (hd.heap_39 w.params).In h₀) (N : News h₀ L s.heap news) (T : Top p loose mean mg mb h₀) (hk : cs.kind = .function) (hdp : dp + need < recursionLimit) (hu : un + 8 * need < cLine)
    (h : ∀ l ys c own h' tk', Fr h₀ L h' m → News h₀ L h' ((l, listOf ys.toArray c) :: (news ++ own)) → RowsIn own ys rows → (∀ q ∈ news, @Ne Nat q.1 l) → OwnOff own (news.map (·.1)) → Q (.ref l) { s with heap := h', toks := tk' }) :
    wpAny (model prog w) (ktrTop dp un gd cn cs L a ccd cl outer) (call (.ref f) vs) Q E s :=
  use_rows S B F X N T hk hdp hu fun l ys c own h' tk' F' N' hr ne1 ne2 _ => h l ys c own h' tk' F' N' hr ne1 (fun o ho b hb e => by
    obtain ⟨q, hq, rfl⟩ := List.mem_map.mp hb
    exact ne2 q hq o ho e.symm)
end

theorem anew_91_comps : True := by
  w_top off
  k_with_none
  k_with "sa enter" => (refine wpAny_call ?_; k_dflt (refine' enter_pure ?k1 ?k2 ?k3 ?k4 ?kA ?kF ?kK ?k6 ?k7 ?k8 ?k9 ?kB (by assumption) ?_ ?c2 ?c3 ?c4 ?c5; (case kA => exact rfl); (case kF => exact rfl); (case kK => assumption); (case k1 => k_asm); (case k2 => k_asm); (case k3 => k_asm); (case k4 => k_asm); (case k6 => k_is); (case k7 => k_is); (case k8 => ktr_room); (case k9 => exact BindsTo.of_eq rfl); (case c5 => decide); (case kB => exact locs rfl); (case c2 => exact rfl); (case c3 => exact rfl); (case c4 => exact rfl); k_whole); (with_reducible rename Below _ _ _ _ => kB'; clear kB'); (with_reducible rename Fr _ _ _ _ => kB'; clear kB'); (with_reducible rename Top _ _ _ _ _ _ => kB'; clear kB'); (rename Frag.In _ _ => kB'; clear kB'); intro L' h' F' N' B' X' T'; (try dsimp only); (try k_fold))
  k_with "sa leave list" => ((show LeaveP _ _ _ _); refine leaveP_ (by assumption) ⟨_, _, _, rfl, (News.fresh (by assumption) (List.Mem.head _)), (News.get (by assumption) (List.Mem.head _)), ?_⟩)
  k_with "execs cons Assign cons" => ((with_reducible refine wpAny_execs_cons ?_); try dsimp only)
  k_with "sa len" => (first | with_reducible assumption | exact List.length_take_le _ _ | omega | l_fact | ((simp only [rangeKs_length, List.length_map, List.length_append, List.length_cons, List.length_nil] at *); omega))
  k_with "sa enter cells" => (refine wpAny_call ?_; k_dflt (refine' enter_pureC ?k1 ?k2 ?k3 ?k4 ?kA ?kF ?kK ?k6 ?k7 ?k8 ?k9 ?kB ?kD (by assumption) ?_ ?c2 ?c3 ?c4; (case kA => exact rfl); (case kF => exact rfl); (case kK => assumption); (case k1 => k_asm); (case k2 => k_asm); (case k3 => k_asm); (case k4 => k_asm); (case k6 => k_is); (case k7 => k_is); (case k8 => ktr_room); (case k9 => exact BindsTo.of_eq rfl); (case kB => exact rfl); (case kD => decide +kernel); (case c2 => exact rfl); (case c3 => exact rfl); (case c4 => exact rfl); k_whole); (with_reducible rename Below _ _ _ _ => kB'; clear kB'); (with_reducible rename Fr _ _ _ _ => kB'; clear kB'); (with_reducible rename Top _ _ _ _ _ _ => kB'; clear kB'); (rename Frag.In _ _ => kB'; clear kB'); intro L' h' tk' cells' F' N' Y' B' X' T'; k_cells Y'; (try simp only [List.cons_append, List.nil_append, List.append_nil] at N'); (try dsimp only); (try k_fold))
  k_with "sa ne" => (first | with_reducible assumption | (refine Ne.symm ?_; with_reducible assumption) | (refine Nat.ne_of_gt ?_; assumption) | (refine Nat.ne_of_lt ?_; assumption) | ((rename _ ∧ _ => h9); first | (refine Ne.symm ?_; simp only [h9, ne_eq, not_false_eq_true]; done) | (simp only [h9, ne_eq, not_false_eq_true]; done) | (refine Nat.ne_of_gt ?_; simp only [h9]; done) | (refine Nat.ne_of_lt ?_; simp only [h9]; done) | (clear h9; k_extra "sa ne")))
  k_with "call ref" => (k_here; (with_reducible show wpAny _ _ (PySem.call (Value.ref 55) [Value.ref _]) _ _ _); k_dflt (refine' use_li (mtrim_says (by is_list) (by l_ints) (by k_extra "sa len")) (by k_asm) (by k_asm) (by k_asm) (by k_asm) (by k_asm) (by first | exact rfl | assumption) (by ktr_room) (by ktr_units) ?_; k_whole); intro l' vs' n' h' tk' F' N' i' ne' st'; (try simp only [List.forall_mem_cons, List.not_mem_nil, false_implies, implies_true, and_true] at ne'); (try k_sweep); walk_say "MTRIM"; (rename IntsAre _ (trimF _) => hI9); (have hC9 := trimF_lenI hI9))
  k_with "call ref" => (k_here; (with_reducible show wpAny _ _ (PySem.call (Value.ref 69) [Value.ref _, Value.ref _, Value.int _ _]) _ _ _); k_dflt (refine' use_li (madd_says (by is_list) (by l_ints) (by k_extra "sa len") (by is_list) (by l_ints) (by k_extra "sa len") (by omega) (by omega)) (by k_asm) (by k_asm) (by k_asm) (by k_asm) (by k_asm) (by first | exact rfl | assumption) (by ktr_room) (by ktr_units) ?_; k_whole); intro l' vs' n' h' tk' F' N' i' ne' st'; (try simp only [List.forall_mem_cons, List.not_mem_nil, false_implies, implies_true, and_true] at ne'); (try k_sweep); walk_say "MADD")
  k_with "call ref" => (k_here; (with_reducible show wpAny _ _ (PySem.call (Value.ref 86) [Value.ref _, Value.int _ _, Value.int _ _]) _ _ _); k_dflt (refine' use_li (mscale_says (by is_list) (by l_ints) (by k_extra "sa len") (by omega) (by omega) (by omega) (by omega)) (by k_asm) (by k_asm) (by k_asm) (by k_asm) (by k_asm) (by first | exact rfl | assumption) (by ktr_room) (by ktr_units) ?_; k_whole); intro l' vs' n' h' tk' F' N' i' ne' st'; (try simp only [List.forall_mem_cons, List.not_mem_nil, false_implies, implies_true, and_true] at ne'); (try k_sweep); walk_say "MSCALE")
  k_with "call ref" => (k_here; (with_reducible show wpAny _ _ (PySem.call (Value.ref 93) [Value.ref _, Value.ref _, Value.int _ _]) _ _ _); k_dflt (refine' use_li (mmul_says (by is_list) (by l_ints) (by k_extra "sa len") (by assumption) (by is_list) (by l_ints) (by k_extra "sa len") (by omega) (by omega)) (by k_asm) (by k_asm) (by k_asm) (by k_asm) (by k_asm) (by first | exact rfl | assumption) (by ktr_room) (by ktr_units) ?_; k_whole); intro l' vs' n' h' tk' F' N' i' ne' st'; (try simp only [List.forall_mem_cons, List.not_mem_nil, false_implies, implies_true, and_true] at ne'); (try k_sweep); walk_say "MMUL")
  k_with "call ref" => (k_here; (with_reducible show wpAny _ _ (PySem.call (Value.ref 48) [Value.int _ _, Value.int _ _]) _ _ _); k_dflt (refine' use_int (inv_says (by first | assumption | decide) (by first | assumption | omega)) (by k_asm) (by k_asm) (by k_asm) (by k_asm) (by k_asm) (by first | exact rfl | assumption) (by ktr_room) (by ktr_units) ?_; k_whole); intro t1' h' tk' F' N' st'; (try k_sweep); walk_say "INV")
  k_with "call ref" => (k_here; (with_reducible show wpAny _ _ (PySem.call (Value.ref 100) [Value.ref _, Value.ref _, Value.int _ _]) _ _ _); k_dflt (refine' use_p2 (mdivmod_says (by is_list) (by l_ints) (by k_extra "sa len") (by is_list) (by l_ints) (by k_extra "sa len") (by k_extra "sa len") (by assumption) (by assumption) (by assumption)) (by k_asm) (by k_asm) (by k_asm) (by k_asm) (by k_asm) (by first | exact rfl | assumption) (by ktr_room) (by ktr_units) ?_; k_whole); intro l' v1' l2' n' vs' c' h' tk' F' N' i' ne' ne2' st'; walk_say "MDIVMOD"; (try simp only [List.forall_mem_cons, List.not_mem_nil, false_implies, implies_true, and_true] at ne' ne2'); (try k_sweep))
  k_with "call ref" => (k_here; (with_reducible show wpAny _ _ (PySem.call (Value.ref 147) [Value.ref _, Value.ref _, Value.ref _, Value.int _ _]) _ _ _); k_dflt (refine' use_li (gmul_says (by is_list) (by l_ints) (by k_extra "sa len") (by first | assumption | exact small_nil) (by is_list) (by l_ints) (by k_extra "sa len") (by is_list) (by assumption) (by assumption)) (by k_asm) (by k_asm) (by k_asm) (by k_asm) (by k_asm) (by first | exact rfl | assumption) (by ktr_room) (by ktr_units) ?_; k_whole); intro l' vs' n' h' tk' F' N' i' ne' st'; (try simp only [List.forall_mem_cons, List.not_mem_nil, false_implies, implies_true, and_true] at ne'); (try k_sweep); walk_say "GMUL"; (rename IntsAre _ (gmulF _ _ _ _) => hI9); (have hC9 := gmulF_lenI hI9))
  k_with "call ref" => (k_here; (with_reducible show wpAny _ _ (PySem.call (Value.ref 86) [Value.ref _, Value.int _ _, Value.int _ _]) _ _ _); k_dflt (refine' use_li (mscale_says (by is_list) (by l_ints) (by k_extra "sa len") (by omega) (by omega) (by omega) (by omega)) (by k_asm) (by k_asm) (by k_asm) (by k_asm) (by k_asm) (by first | exact rfl | assumption) (by ktr_room) (by ktr_units) ?_; k_whole); intro l' vs' n' h' tk' F' N' i' ne' st'; (try simp only [List.forall_mem_cons, List.not_mem_nil, false_implies, implies_true, and_true] at ne'); (try k_sweep); walk_say "MSCALE2"; (rename IntsAre _ (mscaleF _ _ _) => hI9); (have hC9 := mscaleF_lenI hI9); (try simp only [List.length_cons, List.length_nil] at hC9))
  k_with "call ref" => (k_here; (with_reducible show wpAny _ _ (PySem.call (Value.ref 69) [Value.ref _, Value.ref _, Value.int _ _]) _ _ _); k_dflt (refine' use_li (madd_says (by is_list) (by l_ints) (by k_extra "sa len") (by is_list) (by l_ints) (by k_extra "sa len") (by omega) (by omega)) (by k_asm) (by k_asm) (by k_asm) (by k_asm) (by k_asm) (by first | exact rfl | assumption) (by ktr_room) (by ktr_units) ?_; k_whole); intro l' vs' n' h' tk' F' N' i' ne' st'; (try simp only [List.forall_mem_cons, List.not_mem_nil, false_implies, implies_true, and_true] at ne'); (try k_sweep); walk_say "MADD2"; (rename IntsAre _ (maddF _ _ _) => hI9); (have hC9 := maddF_lenI hI9))
  k_with "exec For Name Subscript cons nil" => (k_here; (rename Fr _ _ _ _ => lF'); (with_unfolding_all (refine' For_invVF lF' (by exact rfl) (by exact rfl) ?_; k_whole)))
  k_with "exec For Name Name cons nil" => (k_here; (rename Fr _ _ _ _ => lF'); (with_unfolding_all (refine' For_invVF lF' (by exact rfl) (by exact rfl) ?_; k_whole)))
  k_with "call ref" => (k_here; (with_reducible show wpAny _ _ (PySem.call (Value.ref 168) [Value.ref _, Value.ref _, Value.ref _, Value.int _ _]) _ _ _); k_dflt (refine' use_li (gat_says (by is_list) (by l_ints) (by k_extra "sa len") (by assumption) (by is_list) (by l_ints) (by k_extra "sa len") (by assumption) (by is_list) (by assumption) (by assumption)) (by k_asm) (by k_asm) (by k_asm) (by k_asm) (by k_asm) (by first | exact rfl | assumption) (by ktr_room) (by ktr_units) ?_; k_whole); intro l' vs' n' h' tk' F' N' i' ne' st'; walk_say "GAT"; (try k_sweep))
  k_with "call ref" => (k_here; (with_reducible show wpAny _ _ (PySem.call (Value.ref 161) [Value.ref _, Value.int _ _, Value.ref _, Value.int _ _]) _ _ _); k_dflt (refine' use_li (gpow_says (by is_list) (by l_ints) (by k_extra "sa len") (by assumption) (by omega) (by omega) (by is_list) (by assumption) (by assumption)) (by k_asm) (by k_asm) (by k_asm) (by k_asm) (by k_asm) (by first | exact rfl | assumption) (by ktr_room) (by ktr_units) ?_; k_whole); intro l' vs' n' h' tk' F' N' i' ne' st'; walk_say "GPOW"; (try k_sweep))
  k_with "call ref" => (k_here; (with_reducible show wpAny _ _ (PySem.call (Value.ref 128) [Value.int _ _, Value.int _ _]) _ _ _); k_dflt (refine' use_li (count_says (by omega) (by omega) (by omega) (by omega)) (by k_asm) (by k_asm) (by k_asm) (by k_asm) (by k_asm) (by first | exact rfl | assumption) (by ktr_room) (by ktr_units) ?_; k_whole); intro l' vs' n' h' tk' F' N' i' ne' st'; (try simp only [List.forall_mem_cons, List.not_mem_nil, false_implies, implies_true, and_true] at ne'); (try k_sweep); walk_say "COUNT")
  k_with "call ref" => (k_here; (with_reducible show wpAny _ _ (PySem.call (Value.ref 135) [Value.ref _, Value.int _ _]) _ _ _); k_dflt (refine' use_int (size_says (by is_list) (by assumption) (by assumption)) (by k_asm) (by k_asm) (by k_asm) (by k_asm) (by k_asm) (by first | exact rfl | assumption) (by ktr_room) (by ktr_units) ?_; k_whole); intro t1' h' tk' F' N' st'; (try k_sweep); walk_say "SIZE")
  k_with "CompSrc" => (refine hold_of ?_)
  k_with "sa mem" => (first | with_reducible assumption | exact List.Mem.head _ | (refine List.Mem.tail _ ?_; k_extra "sa mem") | (refine List.mem_append.mpr (Or.inr ?_); k_extra "sa mem") | (refine List.mem_append.mpr (Or.inl ?_); k_extra "sa mem"))
  k_with "call ref" => (k_here; (with_reducible show wpAny _ _ (PySem.call (Value.ref 188) [Value.ref _, Value.int _ _]) _ _ _); k_dflt (refine' take_use (by k_asm) (by k_asm) (by k_asm) (by k_asm) (by k_asm) (by first | exact rfl | assumption) (by ktr_room) (by ktr_units) (by (intro o9; k_upd)) (by k_extra "sa mem") (by k_ne) (by l_ints) (by k_extra "sa len") (by omega) (by first | with_reducible assumption | omega) (by omega) (by omega) ?_; k_whole); intro x9 t9 tx9 c9 h' tk' hx9 hy9 F' N'; walk_say "TAKE"; (try dsimp only at N'); (try k_sweep))
  k_with "call ref" => (k_here; (with_reducible show wpAny _ _ (PySem.call (Value.ref 140) [Value.ref _, Value.int _ _]) _ _ _); k_dflt (refine' rows_use (things_says (by is_list) (by assumption) (by exact FieldOk.isSize (by assumption))) (by k_asm) (by k_asm) (by k_asm) (by k_asm) (by k_asm) (by first | exact rfl | assumption) (by ktr_room) (by ktr_units) ?_; k_whole); intro l' ys' c' own' h' tk' F' N' hr' ne' off'; walk_say "THINGS"; (try simp only [List.forall_mem_cons, List.not_mem_nil, false_implies, implies_true, and_true] at ne'); (try simp only [List.map_cons, List.map_nil] at off'); (try simp only [List.cons_append, List.nil_append, List.append_assoc] at N'); (try k_sweep))
  trivial
theorem upd_app {d : Addr} {o o' : Obj} {own r r' : List (Addr × Obj)} (h : ∀ p ∈ own, p.1 ≠ d) (u : Upd d o o' r r') : Upd d o o' (own ++ r) (own ++ r') := by
  induction own with
  | nil => exact u
  | cons q own ih => exact .tail (h q (.head _)) (ih fun p hp => h p (.tail _ hp))
theorem upd_addr {d : Addr} {o o' : Obj} {l l' : List (Addr × Obj)} (u : Upd d o o' l l') : l'.map (·.1) = l.map (·.1) := by
  induction u with
  | head h => rfl
  | tail h _ ih => simp only [List.map_cons, ih]
theorem off3_map {I C D : Addr} : ∀ {l l' : List (Addr × Obj)}, l'.map (·.1) = l.map (·.1) → LCg.Off3 I C D l → LCg.Off3 I C D l'
  | [], [], _, _ => trivial
  | [], _ :: _, e, _ => by simp at e
  | _ :: _, [], e, _ => by simp at e
  | p :: r, p' :: r', e, h => by
    simp only [List.map_cons, List.cons.injEq] at e
    refine ⟨?_, off3_map e.2 h.2⟩
    rw [e.1]
    exact h.1
noncomputable def TakeEl (h₀ : Heap) (L : Addr) (m : Str → Option Value) (s : Shared) (I : Addr) (oI : Obj) (C : Addr) (oC : Obj) (D : Addr) (oD : Obj) (lb : Addr) (k many : Int) (nb : Obj → List (Addr × Obj)) (y : Value) (s₂ : Shared) : Prop :=
  ∃ h' tk' x t' tx c', y = .int x tx ∧ s₂ = { s with heap := h', toks := tk' } ∧ 0 ≤ x ∧ x < many ∧ Fr h₀ L h' m ∧ News h₀ L h' ((I, oI) :: (C, oC) :: (D, oD) :: nb (boxO lb k t' c'))
section
variable {prog : Program} {w : World} {A : Around} {h₀ : Heap} {L : Addr} {m : Str → Option Value} {env : Env} {elt : PySem.Expr} {x : Str} {scope : Scope} {cl : List (Str × Addr)} {s : Shared} {P : Nat → Value → Prop} {Fin : List Value → List (Addr × Obj) → Prop} {news : List (Addr × Obj)}
theorem ctake_rest {n : Nat} {B lb : Addr} {k : Int} {t₀ : Tok} {c₀ : Nat} {nb : Obj → List (Addr × Obj)} (many : Int) (U : ∀ o', Upd B (boxO lb k t₀ c₀) o' news (nb o'))
    (turn : Hold (∀ (i : Nat) t c v I oI C oC D m₂ ys h tk (E' : Value → Shared → Prop), i < n → P i v → LCg.NsObj oC m₂ → m₂ x = some v → Fr h₀ L h m → News h₀ L h ((I, oI) :: (C, oC) :: (D, LCg.lst ys) :: nb (boxO lb (k + (i : Int)) t c)) → ((@Ne Nat I B) ∧ (@Ne Nat C B) ∧ (@Ne Nat D B)) →
      wpAny (model prog w) A (eval elt (compEnvC scope cl C env)) (TakeEl h₀ L m { s with heap := h, toks := tk } I oI C oC D (LCg.lst ys) lb (k + (i : Int) + 1) many nb) E' { s with heap := h, toks := tk }))
    (fin : Hold (∀ ys ns t c, IntsAre ys ns → ns.length = n → (∀ y ∈ ns, 0 ≤ y ∧ y < many) → Fin ys (nb (boxO lb (k + (n : Int)) t c)))) :
    LCg.CompRest prog w A h₀ L m env elt x scope cl s (fun _ => True) P Fin n 0 [] news := by
  have addr : ∀ o', (nb o').map (·.1) = news.map (·.1) := fun o' => upd_addr (U o')
  have key : ∀ (j i : Nat) (ys : List Value) (ns : List Int) (t : Tok) (c : Nat), i + j = n → IntsAre ys ns → ns.length = i → (∀ y ∈ ns, 0 ≤ y ∧ y < many) → LCg.CompRest prog w A h₀ L m env elt x scope cl s (fun _ => True) P Fin j i ys (nb (boxO lb (k + (i : Int)) t c)) := by
    intro j
    induction j with
    | zero =>
      intro i ys ns t c hi hy hl hb
      have e : i = n := by omega
      subst e
      exact LCg.CompRest.zero (fin ys ns t c hy hl hb)
    | succ j ih =>
      intro i ys ns t c hi hy hl hb
      refine LCg.CompRest.succ ?_
      intro v I oI C oC D m₂ h tk E' hv hC hx F N off ne
      have hBm : (B, boxO lb (k + (i : Int)) t c) ∈ nb (boxO lb (k + (i : Int)) t c) := by
        obtain ⟨pre, post, _, e, _⟩ := (U (boxO lb (k + (i : Int)) t c)).split
        rw [e]; exact List.mem_append.mpr (.inr (.head _))
      have hB := off.mem _ hBm
      refine wpAny_mono (turn i t c v I oI C oC D m₂ ys h tk E' (by omega) hv hC hx F N ⟨fun e => hB.1 e.symm, fun e => hB.2.1 e.symm, fun e => hB.2.2 e.symm⟩) (fun y s₂ hq => ?_) fun _ _ e => e
      obtain ⟨h', tk', x', t', tx, c', rfl, rfl, hx0, hx1, F', N'⟩ := hq
      refine ⟨h', tk', _, rfl, F', N', off3_map ((addr _).trans (addr _).symm) off, trivial, ?_⟩
      have := ih (i + 1) (ys ++ [.int x' tx]) (ns ++ [x']) t' c' (by omega) (IntsAre.append hy (.cons x' tx .nil)) (by simp [hl]) (fun y hy' => by
        rcases List.mem_append.mp hy' with hy' | hy'
        · exact hb y hy'
        · rw [List.mem_singleton.mp hy']; exact ⟨hx0, hx1⟩)
      rw [show k + ((i + 1 : Nat) : Int) = k + (i : Int) + 1 by omega] at this
      exact this
  have e0 : news = nb (boxO lb (k + ((0 : Nat) : Int)) t₀ c₀) := by
    rw [show k + ((0 : Nat) : Int) = k by omega]
    obtain ⟨pre, post, e1, e2, _⟩ := (U (boxO lb k t₀ c₀)).split
    rw [e1, e2]
  have := key n 0 [] [] t₀ c₀ (by omega) .nil rfl (fun _ h => nomatch h)
  rw [← e0] at this
  exact this
end
theorem updF_app {d : Addr} {o : Obj} {own r : List (Addr × Obj)} {g : Obj → List (Addr × Obj)} (h : ∀ p ∈ own, p.1 ≠ d) (u : UpdF d o r g) : UpdF d o (own ++ r) (fun o' => own ++ g o') := by
  induction own with
  | nil => exact u
  | cons q own ih => exact .tail (h q (.head _)) (ih fun p hp => h p (.tail _ hp))
theorem box_name {h₀ h : Heap} {L B lb : Addr} {k : Int} {t : Tok} {c : Nat} {rest : List (Addr × Obj)} (_ : News h₀ L h ((B, boxO lb k t c) :: rest)) : ∃ B' lb' : Addr, B' = B ∧ lb' = lb := ⟨_, _, rfl, rfl⟩
theorem thingsF_length {n q : Int} (h : 0 ≤ n) : ((thingsF n q).length : Int) = n := by simp [thingsF]; omega
theorem len_rows {prog : Program} {w : World} {A : Around} {E : Value → Shared → Prop} {s : Shared} {h₀ : Heap} {L l : Addr} {news own : List (Addr × Obj)} {ys : List Value} {c : Nat} {rows : List (List Int)} {n : Int} {Q : Value → Shared → Prop}
    (N : News h₀ L s.heap news) (hm : (l, listOf ys.toArray c) ∈ news) (hr : RowsIn own ys rows) (hl : (rows.length : Int) = n) (hn : n ≤ 1000)
    (h : Q (.int n (s.toks + 1)) { s with toks := s.toks + 1 + 1 }) : wpAny (model prog w) A (call (.builtin "len") [.ref l]) Q E s := by
  have e : (ys.toArray.size : Int) = n := by rw [List.size_toArray, hr.length]; exact hl
  refine len_list (items := ys.toArray) ⟨_, (N _ hm).1, rfl, _, rfl⟩ (by rw [e]; omega) ?_
  rw [e]; exact h

local macro_rules | `(tactic| k_upd) => `(tactic| (refine' upd_app ?a ?b; (case a => k_all); (case b => k_upd)))
local macro_rules | `(tactic| k_updF) => `(tactic| (refine' updF_app ?a ?b; (case a => k_all); (case b => k_updF)))
local macro_rules | `(tactic| k_mem) => `(tactic| k_extra "sa mem")
local macro_rules | `(tactic| news_mem) => `(tactic| k_extra "sa mem")
local macro_rules | `(tactic| walk_at "eval Name") => `(tactic| (k_here; k_dflt (refine' nameX_C ?N ?c ?m ?d ?_ ?a ?b; (case a => rfl); (case b => rfl); (case N => k_asm); (case c => rfl); (case m => k_extra "sa mem"); (case d => k_asm); k_whole)))
theorem anew_92_comp2 : True := by
  w_top off
  k_with_none
  k_with "sa enter" => (refine wpAny_call ?_; k_dflt (refine' enter_pure ?k1 ?k2 ?k3 ?k4 ?kA ?kF ?kK ?k6 ?k7 ?k8 ?k9 ?kB (by assumption) ?_ ?c2 ?c3 ?c4 ?c5; (case kA => exact rfl); (case kF => exact rfl); (case kK => assumption); (case k1 => k_asm); (case k2 => k_asm); (case k3 => k_asm); (case k4 => k_asm); (case k6 => k_is); (case k7 => k_is); (case k8 => ktr_room); (case k9 => exact BindsTo.of_eq rfl); (case c5 => decide); (case kB => exact locs rfl); (case c2 => exact rfl); (case c3 => exact rfl); (case c4 => exact rfl); k_whole); (with_reducible rename Below _ _ _ _ => kB'; clear kB'); (with_reducible rename Fr _ _ _ _ => kB'; clear kB'); (with_reducible rename Top _ _ _ _ _ _ => kB'; clear kB'); (rename Frag.In _ _ => kB'; clear kB'); intro L' h' F' N' B' X' T'; (try dsimp only); (try k_fold))
  k_with "sa leave list" => ((show LeaveP _ _ _ _); refine leaveP_ (by assumption) ⟨_, _, _, rfl, (News.fresh (by assumption) (List.Mem.head _)), (News.get (by assumption) (List.Mem.head _)), ?_⟩)
  k_with "execs cons Assign cons" => ((with_reducible refine wpAny_execs_cons ?_); try dsimp only)
  k_with "sa len" => (first | with_reducible assumption | exact List.length_take_le _ _ | omega | l_fact | ((simp only [rangeKs_length, List.length_map, List.length_append, List.length_cons, List.length_nil] at *); omega))
  k_with "sa enter cells" => (refine wpAny_call ?_; k_dflt (refine' enter_pureC ?k1 ?k2 ?k3 ?k4 ?kA ?kF ?kK ?k6 ?k7 ?k8 ?k9 ?kB ?kD (by assumption) ?_ ?c2 ?c3 ?c4; (case kA => exact rfl); (case kF => exact rfl); (case kK => assumption); (case k1 => k_asm); (case k2 => k_asm); (case k3 => k_asm); (case k4 => k_asm); (case k6 => k_is); (case k7 => k_is); (case k8 => ktr_room); (case k9 => exact BindsTo.of_eq rfl); (case kB => exact rfl); (case kD => decide +kernel); (case c2 => exact rfl); (case c3 => exact rfl); (case c4 => exact rfl); k_whole); (with_reducible rename Below _ _ _ _ => kB'; clear kB'); (with_reducible rename Fr _ _ _ _ => kB'; clear kB'); (with_reducible rename Top _ _ _ _ _ _ => kB'; clear kB'); (rename Frag.In _ _ => kB'; clear kB'); intro L' h' tk' cells' F' N' Y' B' X' T'; k_cells Y'; (try simp only [List.cons_append, List.nil_append, List.append_nil] at N'); (try dsimp only); (try k_fold))
  k_with "sa ne" => (first | with_reducible assumption | (refine Ne.symm ?_; with_reducible assumption) | (refine Nat.ne_of_gt ?_; assumption) | (refine Nat.ne_of_lt ?_; assumption) | ((rename _ ∧ _ => h9); first | (refine Ne.symm ?_; simp only [h9, ne_eq, not_false_eq_true]; done) | (simp only [h9, ne_eq, not_false_eq_true]; done) | (refine Nat.ne_of_gt ?_; simp only [h9]; done) | (refine Nat.ne_of_lt ?_; simp only [h9]; done) | (clear h9; k_extra "sa ne")))
  k_with "call ref" => (k_here; (with_reducible show wpAny _ _ (PySem.call (Value.ref 55) [Value.ref _]) _ _ _); k_dflt (refine' use_li (mtrim_says (by is_list) (by l_ints) (by k_extra "sa len")) (by k_asm) (by k_asm) (by k_asm) (by k_asm) (by k_asm) (by first | exact rfl | assumption) (by ktr_room) (by ktr_units) ?_; k_whole); intro l' vs' n' h' tk' F' N' i' ne' st'; (try simp only [List.forall_mem_cons, List.not_mem_nil, false_implies, implies_true, and_true] at ne'); (try k_sweep); walk_say "MTRIM"; (rename IntsAre _ (trimF _) => hI9); (have hC9 := trimF_lenI hI9))
  k_with "call ref" => (k_here; (with_reducible show wpAny _ _ (PySem.call (Value.ref 69) [Value.ref _, Value.ref _, Value.int _ _]) _ _ _); k_dflt (refine' use_li (madd_says (by is_list) (by l_ints) (by k_extra "sa len") (by is_list) (by l_ints) (by k_extra "sa len") (by omega) (by omega)) (by k_asm) (by k_asm) (by k_asm) (by k_asm) (by k_asm) (by first | exact rfl | assumption) (by ktr_room) (by ktr_units) ?_; k_whole); intro l' vs' n' h' tk' F' N' i' ne' st'; (try simp only [List.forall_mem_cons, List.not_mem_nil, false_implies, implies_true, and_true] at ne'); (try k_sweep); walk_say "MADD")
  k_with "call ref" => (k_here; (with_reducible show wpAny _ _ (PySem.call (Value.ref 86) [Value.ref _, Value.int _ _, Value.int _ _]) _ _ _); k_dflt (refine' use_li (mscale_says (by is_list) (by l_ints) (by k_extra "sa len") (by omega) (by omega) (by omega) (by omega)) (by k_asm) (by k_asm) (by k_asm) (by k_asm) (by k_asm) (by first | exact rfl | assumption) (by ktr_room) (by ktr_units) ?_; k_whole); intro l' vs' n' h' tk' F' N' i' ne' st'; (try simp only [List.forall_mem_cons, List.not_mem_nil, false_implies, implies_true, and_true] at ne'); (try k_sweep); walk_say "MSCALE")
  k_with "call ref" => (k_here; (with_reducible show wpAny _ _ (PySem.call (Value.ref 93) [Value.ref _, Value.ref _, Value.int _ _]) _ _ _); k_dflt (refine' use_li (mmul_says (by is_list) (by l_ints) (by k_extra "sa len") (by assumption) (by is_list) (by l_ints) (by k_extra "sa len") (by omega) (by omega)) (by k_asm) (by k_asm) (by k_asm) (by k_asm) (by k_asm) (by first | exact rfl | assumption) (by ktr_room) (by ktr_units) ?_; k_whole); intro l' vs' n' h' tk' F' N' i' ne' st'; (try simp only [List.forall_mem_cons, List.not_mem_nil, false_implies, implies_true, and_true] at ne'); (try k_sweep); walk_say "MMUL")
  k_with "call ref" => (k_here; (with_reducible show wpAny _ _ (PySem.call (Value.ref 48) [Value.int _ _, Value.int _ _]) _ _ _); k_dflt (refine' use_int (inv_says (by first | assumption | decide) (by first | assumption | omega)) (by k_asm) (by k_asm) (by k_asm) (by k_asm) (by k_asm) (by first | exact rfl | assumption) (by ktr_room) (by ktr_units) ?_; k_whole); intro t1' h' tk' F' N' st'; (try k_sweep); walk_say "INV")
  k_with "call ref" => (k_here; (with_reducible show wpAny _ _ (PySem.call (Value.ref 100) [Value.ref _, Value.ref _, Value.int _ _]) _ _ _); k_dflt (refine' use_p2 (mdivmod_says (by is_list) (by l_ints) (by k_extra "sa len") (by is_list) (by l_ints) (by k_extra "sa len") (by k_extra "sa len") (by assumption) (by assumption) (by assumption)) (by k_asm) (by k_asm) (by k_asm) (by k_asm) (by k_asm) (by first | exact rfl | assumption) (by ktr_room) (by ktr_units) ?_; k_whole); intro l' v1' l2' n' vs' c' h' tk' F' N' i' ne' ne2' st'; walk_say "MDIVMOD"; (try simp only [List.forall_mem_cons, List.not_mem_nil, false_implies, implies_true, and_true] at ne' ne2'); (try k_sweep))
  k_with "call ref" => (k_here; (with_reducible show wpAny _ _ (PySem.call (Value.ref 147) [Value.ref _, Value.ref _, Value.ref _, Value.int _ _]) _ _ _); k_dflt (refine' use_li (gmul_says (by is_list) (by l_ints) (by k_extra "sa len") (by first | assumption | exact small_nil) (by is_list) (by l_ints) (by k_extra "sa len") (by is_list) (by assumption) (by assumption)) (by k_asm) (by k_asm) (by k_asm) (by k_asm) (by k_asm) (by first | exact rfl | assumption) (by ktr_room) (by ktr_units) ?_; k_whole); intro l' vs' n' h' tk' F' N' i' ne' st'; (try simp only [List.forall_mem_cons, List.not_mem_nil, false_implies, implies_true, and_true] at ne'); (try k_sweep); walk_say "GMUL"; (rename IntsAre _ (gmulF _ _ _ _) => hI9); (have hC9 := gmulF_lenI hI9))
  k_with "call ref" => (k_here; (with_reducible show wpAny _ _ (PySem.call (Value.ref 86) [Value.ref _, Value.int _ _, Value.int _ _]) _ _ _); k_dflt (refine' use_li (mscale_says (by is_list) (by l_ints) (by k_extra "sa len") (by omega) (by omega) (by omega) (by omega)) (by k_asm) (by k_asm) (by k_asm) (by k_asm) (by k_asm) (by first | exact rfl | assumption) (by ktr_room) (by ktr_units) ?_; k_whole); intro l' vs' n' h' tk' F' N' i' ne' st'; (try simp only [List.forall_mem_cons, List.not_mem_nil, false_implies, implies_true, and_true] at ne'); (try k_sweep); walk_say "MSCALE2"; (rename IntsAre _ (mscaleF _ _ _) => hI9); (have hC9 := mscaleF_lenI hI9); (try simp only [List.length_cons, List.length_nil] at hC9))
  k_with "call ref" => (k_here; (with_reducible show wpAny _ _ (PySem.call (Value.ref 69) [Value.ref _, Value.ref _, Value.int _ _]) _ _ _); k_dflt (refine' use_li (madd_says (by is_list) (by l_ints) (by k_extra "sa len") (by is_list) (by l_ints) (by k_extra "sa len") (by omega) (by omega)) (by k_asm) (by k_asm) (by k_asm) (by k_asm) (by k_asm) (by first | exact rfl | assumption) (by ktr_room) (by ktr_units) ?_; k_whole); intro l' vs' n' h' tk' F' N' i' ne' st'; (try simp only [List.forall_mem_cons, List.not_mem_nil, false_implies, implies_true, and_true] at ne'); (try k_sweep); walk_say "MADD2"; (rename IntsAre _ (maddF _ _ _) => hI9); (have hC9 := maddF_lenI hI9))
  k_with "exec For Name Subscript cons nil" => (k_here; (rename Fr _ _ _ _ => lF'); (with_unfolding_all (refine' For_invVF lF' (by exact rfl) (by exact rfl) ?_; k_whole)))
  k_with "exec For Name Name cons nil" => (k_here; (rename Fr _ _ _ _ => lF'); (with_unfolding_all (refine' For_invVF lF' (by exact rfl) (by exact rfl) ?_; k_whole)))
  k_with "call ref" => (k_here; (with_reducible show wpAny _ _ (PySem.call (Value.ref 168) [Value.ref _, Value.ref _, Value.ref _, Value.int _ _]) _ _ _); k_dflt (refine' use_li (gat_says (by is_list) (by l_ints) (by k_extra "sa len") (by assumption) (by is_list) (by l_ints) (by k_extra "sa len") (by assumption) (by is_list) (by assumption) (by assumption)) (by k_asm) (by k_asm) (by k_asm) (by k_asm) (by k_asm) (by first | exact rfl | assumption) (by ktr_room) (by ktr_units) ?_; k_whole); intro l' vs' n' h' tk' F' N' i' ne' st'; walk_say "GAT"; (try k_sweep))
  k_with "call ref" => (k_here; (with_reducible show wpAny _ _ (PySem.call (Value.ref 161) [Value.ref _, Value.int _ _, Value.ref _, Value.int _ _]) _ _ _); k_dflt (refine' use_li (gpow_says (by is_list) (by l_ints) (by k_extra "sa len") (by assumption) (by omega) (by omega) (by is_list) (by assumption) (by assumption)) (by k_asm) (by k_asm) (by k_asm) (by k_asm) (by k_asm) (by first | exact rfl | assumption) (by ktr_room) (by ktr_units) ?_; k_whole); intro l' vs' n' h' tk' F' N' i' ne' st'; walk_say "GPOW"; (try k_sweep))
  k_with "call ref" => (k_here; (with_reducible show wpAny _ _ (PySem.call (Value.ref 128) [Value.int _ _, Value.int _ _]) _ _ _); k_dflt (refine' use_li (count_says (by omega) (by omega) (by omega) (by omega)) (by k_asm) (by k_asm) (by k_asm) (by k_asm) (by k_asm) (by first | exact rfl | assumption) (by ktr_room) (by ktr_units) ?_; k_whole); intro l' vs' n' h' tk' F' N' i' ne' st'; (try simp only [List.forall_mem_cons, List.not_mem_nil, false_implies, implies_true, and_true] at ne'); (try k_sweep); walk_say "COUNT")
  k_with "call ref" => (k_here; (with_reducible show wpAny _ _ (PySem.call (Value.ref 135) [Value.ref _, Value.int _ _]) _ _ _); k_dflt (refine' use_int (size_says (by is_list) (by assumption) (by assumption)) (by k_asm) (by k_asm) (by k_asm) (by k_asm) (by k_asm) (by first | exact rfl | assumption) (by ktr_room) (by ktr_units) ?_; k_whole); intro t1' h' tk' F' N' st'; (try k_sweep); walk_say "SIZE")
  k_with "CompSrc" => (refine hold_of ?_)
  k_with "sa mem" => (first | with_reducible assumption | exact List.Mem.head _ | (refine List.Mem.tail _ ?_; k_extra "sa mem") | (refine List.mem_append.mpr (Or.inr ?_); k_extra "sa mem") | (refine List.mem_append.mpr (Or.inl ?_); k_extra "sa mem"))
  k_with "call ref" => (k_here; (with_reducible show wpAny _ _ (PySem.call (Value.ref 188) [Value.ref _, Value.int _ _]) _ _ _); k_dflt (refine' take_use (by k_asm) (by k_asm) (by k_asm) (by k_asm) (by k_asm) (by first | exact rfl | assumption) (by ktr_room) (by ktr_units) (by (intro o9; k_upd)) (by k_extra "sa mem") (by k_ne) (by l_ints) (by k_extra "sa len") (by omega) (by first | with_reducible assumption | omega) (by omega) (by omega) ?_; k_whole); intro x9 t9 tx9 c9 h' tk' hx9 hy9 F' N'; walk_say "TAKE"; (try dsimp only at N'); (try k_sweep))
  k_with "call ref" => (k_here; (with_reducible show wpAny _ _ (PySem.call (Value.ref 140) [Value.ref _, Value.int _ _]) _ _ _); k_dflt (refine' rows_use (things_says (by is_list) (by assumption) (by exact FieldOk.isSize (by assumption))) (by k_asm) (by k_asm) (by k_asm) (by k_asm) (by k_asm) (by first | exact rfl | assumption) (by ktr_room) (by ktr_units) ?_; k_whole); intro l' ys' c' own' h' tk' F' N' hr' ne' off'; walk_say "THINGS"; (try simp only [List.forall_mem_cons, List.not_mem_nil, false_implies, implies_true, and_true] at ne'); (try simp only [List.map_cons, List.map_nil] at off'); (try simp only [List.cons_append, List.nil_append, List.append_assoc] at N'); (try k_sweep))
  k_with "subscriptTail" => (k_here; (with_reducible show wpAny _ _ (subscriptTail _ _ (Value.ref 181) (Value.int _ _)) _ _ _); refine hold_of ?_)
  k_with "call builtin:len" => (k_here; (with_reducible show wpAny _ _ (PySem.call (Value.builtin "len") [Value.ref _]) _ _ _); (rename RowsIn _ _ _ => hr9); k_dflt (refine' len_rows (by k_asm) (by k_extra "sa mem") hr9 (by first | exact thingsF_length (by omega) | assumption) (by omega) ?_; k_whole); walk_say "LENROWS")
  trivial
/-! comprehensions over pairs whose turns make new things alone -/
noncomputable def CpEnd (s₁ : Shared) (R : List (Addr × Obj) → Prop) (s₃ : Shared) : Prop :=
  ∃ h' tk' extra, s₃ = { s₁ with heap := h', toks := tk' } ∧ s₁.heap.StaysIn h' ∧ (∀ q ∈ extra, s₁.heap.get? q.1 = none ∧ h'.get? q.1 = some q.2) ∧ R extra
theorem cpEnd_0 {s₁ : Shared} {R : List (Addr × Obj) → Prop} {tk : Nat} (r : R []) : CpEnd s₁ R { s₁ with toks := tk } := ⟨s₁.heap, tk, [], rfl, fun _ _ e => e, (fun _ h => nomatch h), r⟩
section
theorem cp_step {s₂ s₅ : Shared} {h₀ h₄ : Heap} {L C D : Addr} {m m4 : Str → Option Value} {oC oD : Obj} {news own : List (Addr × Obj)} {wr : List Addr} {Stn : Heap → Prop} {R : List (Addr × Obj) → Prop} {tk₄ : Nat}
    (F₄ : Fr h₀ L h₄ m) (N₄ : News h₀ L h₄ ((C, oC) :: (D, oD) :: (news ++ own))) (hn₄ : h₄.Ns C m4) (fr : ∀ h', (∀ b o, h₄.get? b = some o → h'.get? b = some o) → Stn h') (live : ∀ b ∈ wr, ∃ o, h₄.get? b = some o)
    (off' : ∀ q ∈ news ++ own, q.1 ∉ wr ∧ @Ne Nat q.1 C ∧ @Ne Nat q.1 D) (c : CpEnd { s₂ with heap := h₄, toks := tk₄ } (fun extra => R (extra ++ own)) s₅) :
    ∃ h₅ tk₅ extra, s₅ = { s₂ with heap := h₅, toks := tk₅ } ∧ Stn h₅ ∧ Fr h₀ L h₅ m ∧ h₅.Ns C m4 ∧ h₅.get? D = some oD ∧ News h₀ L h₅ (news ++ (extra ++ own)) ∧ (∀ q ∈ news ++ (extra ++ own), q.1 ∉ wr ∧ @Ne Nat q.1 C ∧ @Ne Nat q.1 D) ∧ R (extra ++ own) := by
  obtain ⟨h₅, tk₅, extra, rfl, st, hex, hR'⟩ := c
  have heC := (N₄ (C, oC) (.head _)).1
  have hD₄ := (N₄ (D, oD) (.tail _ (.head _))).1
  have exn : ∀ q ∈ extra, h₅.get? q.1 = some q.2 ∧ q.1 ≠ L ∧ h₀.get? q.1 = none := fun q hq => by
    refine ⟨(hex q hq).2, fun e => ?_, ?_⟩
    · obtain ⟨oL, _, _, hL, _⟩ := F₄.ns
      have := (hex q hq).1
      rw [e] at this
      exact absurd (hL.symm.trans this) (by simp)
    · cases e : h₀.get? q.1 with
      | none => rfl
      | some o' => have := (hex q hq).1; exact absurd ((F₄.keep _ _ e).symm.trans this) (by simp)
  have exo : ∀ q ∈ extra, ∀ b o, h₄.get? b = some o → @Ne Nat q.1 b := fun q hq b o e q' => by
    have q'' : q.1 = b := q'
    have := (hex q hq).1
    rw [q''] at this
    exact absurd (e.symm.trans this) (by simp)
  refine ⟨h₅, tk₅, extra, rfl, fr _ fun b o e => st b o e, ⟨F₄.ns.at' fun o e => st _ o e, fun c o e => st _ _ (F₄.keep c o e), F₄.above⟩, hn₄.at' fun o e => st _ o e, st _ _ hD₄, fun q hq => ?_, fun q hq => ?_, hR'⟩
  · rcases List.mem_append.mp hq with hq | hq
    · exact ⟨st _ _ (N₄ q (.tail _ (.tail _ (List.mem_append.mpr (.inl hq))))).1, (N₄ q (.tail _ (.tail _ (List.mem_append.mpr (.inl hq))))).2⟩
    · rcases List.mem_append.mp hq with hq | hq
      · exact exn q hq
      · exact ⟨st _ _ (N₄ q (.tail _ (.tail _ (List.mem_append.mpr (.inr hq))))).1, (N₄ q (.tail _ (.tail _ (List.mem_append.mpr (.inr hq))))).2⟩
  · rcases List.mem_append.mp hq with hq | hq
    · exact off' q (List.mem_append.mpr (.inl hq))
    · rcases List.mem_append.mp hq with hq | hq
      · refine ⟨fun hw => ?_, exo q hq _ _ heC, exo q hq _ _ hD₄⟩
        obtain ⟨o, e⟩ := live _ hw
        exact exo q hq _ _ e rfl
      · exact off' q (List.mem_append.mpr (.inr hq))
end

noncomputable def Turn2T (prog : Program) (w : World) (A : Around) (h₀ : Heap) (L : Addr) (m : Str → Option Value) (env : Env) (c : PySem.Expr) (elt : PySem.Expr) (x x₂ : Str) (scope : Scope) (cl : List (Str × Addr)) (s₂ : Shared) (n : Nat) (P2 : Nat → Value → Value → Prop) (news : List (Addr × Obj)) (R : Nat → List Value → List (Addr × Obj) → Prop) : Prop :=
  ∀ (i : Nat) v0 v1 ys own C oC D m₂ h tk (E' : Value → Shared → Prop), i < n → P2 i v0 v1 → R i ys own → LCg.NsObj oC m₂ → m₂ x = some v0 → m₂ x₂ = some v1 → Fr h₀ L h m → News h₀ L h ((C, oC) :: (D, LCg.lst ys) :: (news ++ own)) →
    wpAny (model prog w) A (isTrue c (compEnvC scope cl C env) (eval c (compEnvC scope cl C env))) (fun okb s₃ => if okb = true then wpAny (model prog w) A (eval elt (compEnvC scope cl C env)) (fun y s₄ => CpEnd { s₂ with heap := h, toks := tk } (fun extra => R (i + 1) (ys ++ [y]) (extra ++ own)) s₄) E' s₃ else CpEnd { s₂ with heap := h, toks := tk } (fun extra => R (i + 1) ys (extra ++ own)) s₃) E' { s₂ with heap := h, toks := tk }
noncomputable def Src2X (prog : Program) (w : World) (A : Around) (h₀ : Heap) (L : Addr) (m : Str → Option Value) (env : Env) (c : PySem.Expr) (elt : PySem.Expr) (x x₂ : Str) (scope : Scope) (cl : List (Str × Addr)) (mf : Addr → Str → Option Value) (Q : Addr → Shared → Prop) (xv : Value) (s₁ : Shared) : Prop :=
  ∀ P : Prop, (∀ (I : Addr) (fp wr : List Addr) (n : Nat) (Pt : Nat → Array Value → Prop) (St : Nat → Heap → Prop) (Mid : Nat → Addr → Heap → Prop) (P2 : Nat → Value → Value → Prop) (news : List (Addr × Obj)) (R : Nat → List Value → List (Addr × Obj) → Prop), xv = .ref I → A.handled = none → WalksT prog w A I fp wr n Pt St Mid → (∀ i vals, Pt i vals → ∃ v0 v1, vals = #[v0, v1] ∧ P2 i v0 v1) → n ≤ sizeLine → St 0 s₁.heap → (∀ b ∈ fp, b < s₁.heap.objs.size) → L ∉ fp → (∀ b ∈ wr, h₀.get? b = none) → (∀ p ∈ news, p.1 ∉ wr) → (∀ i h b, St i h → b ∈ wr → ∃ o, h.get? b = some o) → Fr h₀ L s₁.heap m → News h₀ L s₁.heap news → R 0 [] [] → Turn2T prog w A h₀ L m env c elt x x₂ scope cl s₁ n P2 news R → (∀ D h tk ys own, Fr h₀ L h (mf D) → News h₀ L h ((D, LCg.lst ys) :: (news ++ own)) → (∀ q ∈ news ++ own, @Ne Nat q.1 D) → R n ys own → Q D { s₁ with heap := h, toks := tk }) → P) → P
abbrev Src2T (prog : Program) (w : World) (A : Around) (h₀ : Heap) (L : Addr) (m : Str → Option Value) (env : Env) (c : PySem.Expr) (elt : PySem.Expr) (x x₂ : Str) (scope : Scope) (cl : List (Str × Addr)) (Q : Value → Shared → Prop) : Value → Shared → Prop := Src2X prog w A h₀ L m env c elt x x₂ scope cl (fun _ => m) (fun D s => Q (.ref D) s)
abbrev Src2A (prog : Program) (w : World) (A : Around) (h₀ : Heap) (L : Addr) (m : Str → Option Value) (env : Env) (c : PySem.Expr) (elt : PySem.Expr) (x x₂ : Str) (scope : Scope) (cl : List (Str × Addr)) (y : Str) (Q : Flow → Shared → Prop) : Value → Shared → Prop := Src2X prog w A h₀ L m env c elt x x₂ scope cl (fun D z => if z = y then some (.ref D) else m z) (fun _ s => Q .next s)
section
variable {prog : Program} {w : World} {A : Around} {E : Value → Shared → Prop} {s : Shared} {h₀ : Heap} {L : Addr} {m : Str → Option Value} {env : Env}
set_option maxHeartbeats 1000000 in
theorem core_2T {elt iter c : PySem.Expr} {x x₂ : Str} {px px₂ tp : Pos} {kk : Nat} {scope : Scope} {cl : List (Str × Addr)} {pos : Pos} {s₂ : Shared} {xv : Value} {mf : Addr → Str → Option Value} {Q : Addr → Shared → Prop} {RR : Value → Addr → Result → Shared → Prop}
    (hcell : ∀ y ∈ scope.names, y.2 ≠ .cell) (hkind : scope.kind = .function) (hxa : scope.names.lookup x = some .local) (hxb : scope.names.lookup x₂ = some .local) (hab : ¬ x = x₂) (h₁ : Src2X prog w A h₀ L m env c elt x x₂ scope cl mf Q xv s₂)
    (fin : ∀ D C h tk m', Fr h₀ L h m → h.Ns C m' → C ≠ L → h₀.get? C = none → (∀ h'' tk'', Fr h₀ L h'' (mf D) → (∀ b o, @Ne Nat b C → @Ne Nat b L → h.get? b = some o → h''.get? b = some o) → Q D { s₂ with heap := h'', toks := tk'' }) → RR (.ref D) C (.ok .next) { s₂ with heap := h, toks := tk }) :
    wpAny (model prog w) A (pyIter xv) (fun it s₃ => wpAny (model prog w) A (newList []) (fun acc s₃ => wpAny (model prog w) A (newFunctionEnv scope env.globals cl [] env.qual none .none (some env)) (fun cenv s₄ =>
      codeAny (model prog w) A (.compStart (.ListComp elt [⟨.Tuple [.Name x px, .Name x₂ px₂] kk tp, iter, [c], 0⟩] scope pos) 0 it acc { cenv with scope := relabel scope env }) (RR acc cenv.locals) s₄) E s₃) E s₃) E s₂ := by
  refine h₁ _ fun I fp wr n Pt St Mid P2 news R hxv hh W h2 hsz hst hfp hLf hwr hnw hlive F N hR0 turn fin0 => ?_
  subst hxv
  refine W.self 0 _ _ _ hst ?_
  refine wpAny_newObj_type (wpAny_newFunctionEnv hcell (by intro y hy; simp at hy) (fun h₁ hns₁ hsb₁ => ?_) hkind)
  dsimp only at hns₁ hsb₁ ⊢
  generalize hH2 : s₂.heap.push { cls := .type "list", dict := none, data := .seq ([] : List Value).toArray } = H2 at hns₁ hsb₁ ⊢
  have hC : H2.objs.size = s₂.heap.objs.size + 1 := by rw [← hH2, Heap.size_push]
  have hDC : s₂.heap.objs.size ≠ H2.objs.size := by rw [hC]; exact Nat.ne_of_lt (Nat.lt_succ_self _)
  have below : ∀ b, b < s₂.heap.objs.size → b ≠ H2.objs.size ∧ b ≠ s₂.heap.objs.size := fun b hb => ⟨by rw [hC]; exact Nat.ne_of_lt (Nat.lt_succ_of_lt hb), Nat.ne_of_lt hb⟩
  have old : ∀ b o, s₂.heap.get? b = some o → h₁.get? b = some o := fun b o e => hsb₁.extBut b o (below b (Heap.lt_size e)).1 (Heap.get?_push_of_some _ (hH2 ▸ Heap.get?_push_of_some _ e))
  have hacc : h₁.get? s₂.heap.objs.size = some (LCg.lst []) := hsb₁.extBut _ _ hDC (Heap.get?_push_of_some _ (hH2 ▸ Heap.get?_push_size _ rfl))
  have fresh₀ : ∀ a, s₂.heap.objs.size ≤ a → h₀.get? a = none := fun a ha => by
    cases e : h₀.get? a with
    | none => rfl
    | some o' => exact absurd (Heap.lt_size (F.keep a o' e)) (Nat.not_lt.mpr ha)
  have hD₀ : h₀.get? s₂.heap.objs.size = none := fresh₀ _ (Nat.le_refl _)
  have hC₀ : h₀.get? H2.objs.size = none := fresh₀ _ (by rw [hC]; exact Nat.le_succ _)
  have hLlt : L < s₂.heap.objs.size := F.ns.lt
  have hDL : s₂.heap.objs.size ≠ L := Ne.symm (below L hLlt).2
  have hCL : H2.objs.size ≠ L := Ne.symm (below L hLlt).1
  have hCf : H2.objs.size ∉ fp := fun hm => (below _ (hfp _ hm)).1 rfl
  have hDf : s₂.heap.objs.size ∉ fp := fun hm => (below _ (hfp _ hm)).2 rfl
  have hCw : H2.objs.size ∉ wr := fun hm => hCf (W.sub _ hm)
  have hDw : s₂.heap.objs.size ∉ wr := fun hm => hDf (W.sub _ hm)
  have hLw : L ∉ wr := fun hm => hLf (W.sub _ hm)
  have hst₁ : St 0 h₁ := W.frame _ _ _ hst fun b _ o e => old b o e
  have loop : ∀ s₃ : Shared, s₃ = { s₂ with heap := h₁, toks := s₂.toks + ([] : List (Str × Value)).length } →
      codeAny (model prog w) A (.compLoop (.ListComp elt [⟨.Tuple [.Name x px, .Name x₂ px₂] kk tp, iter, [c], 0⟩] scope pos) 0 (.ref I) (.ref s₂.heap.objs.size) (compEnvC scope cl H2.objs.size env))
        (RR (.ref s₂.heap.objs.size) H2.objs.size) s₃ := by
    rintro s₃ rfl
    refine kct_loop
      (fun k s' => ∃ h' tk i ys m' own, s' = { s₂ with heap := h', toks := tk } ∧ i ≤ n ∧ k = n + 1 - i ∧ ys.length ≤ i ∧ St i h' ∧ Fr h₀ L h' m ∧ h'.Ns H2.objs.size m' ∧
        News h₀ L h' ((s₂.heap.objs.size, LCg.lst ys) :: (news ++ own)) ∧ (∀ q ∈ news ++ own, q.1 ∉ wr ∧ @Ne Nat q.1 H2.objs.size ∧ @Ne Nat q.1 s₂.heap.objs.size) ∧ R i ys own) ?_ (n + 1)
      ⟨h₁, _, 0, [], _, [], rfl, Nat.zero_le _, rfl, Nat.le_refl _, hst₁, F.keeps old, hns₁, fun p hp => ?_, fun q hq => ?_, hR0⟩
    · rintro k s' ⟨h', tk, i, ys, m', own, rfl, hi, rfl, hyl, hst', F', hn', N', off', hR⟩
      by_cases hlt : i < n
      · refine W.item i _ _ _ hlt hst' fun T vals h₂ tk₂ hPt hTs hT hMid hk₂ => ?_
        obtain ⟨v0, v1, rfl, hP2⟩ := h2 i vals hPt
        refine W.go _ _ _ i T _ _ _ hMid fun h₃ hst₃ hk₃ => ?_
        have hTw : T ∉ wr := W.apart i T _ hMid
        have hT₃ : h₃.IsTuple T #[v0, v1] := by
          obtain ⟨o, e, r⟩ := hT
          exact ⟨o, hk₃ T o hTw e, r⟩
        have up₃ : ∀ c o, c ∉ wr → h'.get? c = some o → h₃.get? c = some o := fun c o hc e => hk₃ c o hc (hk₂ c o hc e)
        refine kcp_assign (env := compEnvC scope cl H2.objs.size env) hh hT₃ (lookup_relabel_local hxa) (lookup_relabel_local hxb) (by simp [compEnvC, relabel, hkind]) (hn'.at' fun o e => up₃ _ o hCw e) fun h₄ tk₄ hn₄ hs₄ => ?_
        have up : ∀ c o, c ∉ wr → c ≠ H2.objs.size → h'.get? c = some o → h₄.get? c = some o := fun c o h1 h2 e => hs₄ c o h2 (up₃ c o h1 e)
        have hst₄ : St (i + 1) h₄ := W.frame _ _ _ hst₃ fun b hb o e => hs₄ b o (fun q => hCf (by have q' : b = H2.objs.size := q; rw [← q']; exact hb)) e
        obtain ⟨oC, heC, hoC⟩ := LCg.ns_obj hn₄
        have F₄ : Fr h₀ L h₄ m := ⟨F'.ns.at' fun o e => up _ o hLw (Ne.symm hCL) e, fun c o e => up c o (fun q => by rw [hwr c q] at e; cases e) (fun q => by rw [q, hC₀] at e; cases e) (F'.keep c o e), F'.above⟩
        have N₄ : News h₀ L h₄ ((H2.objs.size, oC) :: (s₂.heap.objs.size, LCg.lst ys) :: (news ++ own)) := fun q hq => by
          rcases List.mem_cons.mp hq with rfl | hq
          · exact ⟨heC, hCL, hC₀⟩
          · have z := N' q hq
            rcases List.mem_cons.mp hq with rfl | hq
            · exact ⟨up _ _ hDw hDC z.1, z.2⟩
            · exact ⟨up _ _ (off' q hq).1 (off' q hq).2.1 z.1, z.2⟩
        have fin' := fun {s₅ : Shared} {R' : List (Addr × Obj) → Prop} (c : CpEnd { s₂ with heap := h₄, toks := tk₄ } (fun extra => R' (extra ++ own)) s₅) => cp_step (Stn := St (i + 1)) F₄ N₄ hn₄ (fun h' e => W.frame _ _ _ hst₄ fun b _ o => e b o) (fun b hb => hlive _ _ _ hst₄ hb) off' c
        refine wpAny_mono (turn i v0 v1 ys own H2.objs.size oC s₂.heap.objs.size _ h₄ tk₄ _ hlt hP2 hR hoC (by simp [hab]) (by simp) F₄ N₄) (fun okb s₅ h₅ => ?_) fun _ _ e => e
        cases okb with
        | false =>
          simp only [Bool.false_eq_true, if_false] at h₅ ⊢
          obtain ⟨g₅, tk₅, extra, rfl, hst₅, F₅, hn₅, hD₅, N₅, off₅, hR₅⟩ := fin' (R' := R (i + 1) ys) h₅
          refine ⟨n + 1 - (i + 1), by omega, g₅, tk₅, i + 1, ys, _, extra ++ own, rfl, hlt, rfl, Nat.le_succ_of_le hyl, hst₅, F₅, hn₅, fun q hq => ?_, off₅, hR₅⟩
          rcases List.mem_cons.mp hq with rfl | hq
          · exact ⟨hD₅, hDL, hD₀⟩
          · exact N₅ q hq
        | true =>
          simp only [if_true] at h₅ ⊢
          refine wpAny_mono h₅ (fun y s₆ h₆ => ?_) fun _ _ e => e
          obtain ⟨g₅, tk₅, extra, rfl, hst₅, F₅, hn₅, hD₅, N₅, off₅, hR₅⟩ := fin' (R' := R (i + 1) (ys ++ [y])) h₆
          refine append_at (hsz := by show ys.toArray.size ≤ sizeLine; rw [List.size_toArray]; exact Nat.le_trans hyl (Nat.le_trans hi hsz)) hD₅ fun h₆ hs₆ hD₆ => ?_
          refine ⟨n + 1 - (i + 1), by omega, h₆, tk₅, i + 1, ys ++ [y], _, extra ++ own, rfl, hlt, rfl, by rw [List.length_append, List.length_singleton]; exact Nat.succ_le_succ hyl, W.frame _ _ _ hst₅ fun b hb o e => hs₆.extBut b o (fun q => hDf (by have q' : b = s₂.heap.objs.size := q; rw [← q']; exact hb)) e, F₅.change hs₆ hDL hD₀, hn₅.sameBut hs₆ (Ne.symm hDC), fun q hq => ?_, off₅, hR₅⟩
          rcases List.mem_cons.mp hq with rfl | hq
          · exact ⟨hD₆.trans (congrArg some (LCg.lst_snoc ys y)), hDL, hD₀⟩
          · exact ⟨hs₆.extBut _ _ (off₅ q hq).2.2 (N₅ q hq).1, (N₅ q hq).2⟩
      · obtain rfl : i = n := Nat.le_antisymm hi (Nat.not_lt.mp hlt)
        refine W.done _ _ _ hst' fun h₂ tk₂ hk₂ => ?_
        have hn₂ : h₂.Ns H2.objs.size m' := hn'.at' fun o e => hk₂ _ o hCw e
        have F₂ : Fr h₀ L h₂ m := ⟨F'.ns.at' fun o e => hk₂ _ o hLw e, fun c o e => hk₂ c o (fun q => by rw [hwr c q] at e; cases e) (F'.keep c o e), F'.above⟩
        refine fin _ _ h₂ tk₂ m' F₂ hn₂ hCL hC₀ fun h'' tk'' F'' up => fin0 _ h'' tk'' ys own F'' (fun p hp => ?_) (fun q hq => (off' q hq).2.2) hR
        have z := N' p hp
        rcases List.mem_cons.mp hp with rfl | hp
        · exact ⟨up _ _ hDC z.2.1 (hk₂ _ _ hDw z.1), z.2⟩
        · exact ⟨up _ _ (off' p hp).2.1 z.2.1 (hk₂ _ _ (off' p hp).1 z.1), z.2⟩
    · rcases List.mem_cons.mp hp with rfl | hp
      · exact ⟨hacc, hDL, hD₀⟩
      · rw [List.append_nil] at hp
        exact ⟨old _ _ (N p hp).1, (N p hp).2⟩
    · rw [List.append_nil] at hq
      exact ⟨hnw q hq, (below _ (Heap.lt_size (N q hq).1)).1, (below _ (Heap.lt_size (N q hq).1)).2⟩
  exact codeAny_compStart_list (loop _ rfl) (W.self 0 _ _ _ hst₁ (loop _ rfl))
set_option maxHeartbeats 1000000 in
theorem ListComp_2T {elt iter c : PySem.Expr} {x x₂ : Str} {px px₂ tp : Pos} {kk : Nat} {scope : Scope} {cl : List (Str × Addr)} {pos : Pos} {Q : Value → Shared → Prop}
    (hclos : closureFor scope env = pure cl) (hcell : ∀ y ∈ scope.names, y.2 ≠ .cell) (hkind : scope.kind = .function)
    (hnames : ∀ y ∈ scope.names, y.2 = .local → scope.names.lookup y.1 = some .local) (hxa : scope.names.lookup x = some .local) (hxb : scope.names.lookup x₂ = some .local) (hab : ¬ x = x₂)
    (h : wpAny (model prog w) A (eval iter env) (Src2T prog w A h₀ L m env c elt x x₂ scope cl Q) E s)
    (hs : ∀ x, foldedSetIterable iter env x = pure x) :
    wpAny (model prog w) A (eval (.ListComp elt [⟨.Tuple [.Name x px, .Name x₂ px₂] kk tp, iter, [c], 0⟩] scope pos) env) Q E s := by
  rw [eval_ListComp]
  exact wpAny_comprehension_free (use := none) rfl hs hclos hkind hnames (wpAny_mono h (fun _ _ h₁ => core_2T hcell hkind hxa hxb hab h₁ fun _ _ _ tk m' F hn hCL hC₀ K => ⟨m', hn, fun h'' hs'' => K h'' tk (F.change hs'' hCL hC₀) fun b o hb _ e => hs''.extBut b o hb e⟩) fun _ _ e => e)
end

noncomputable def Turn2N (prog : Program) (w : World) (A : Around) (h₀ : Heap) (L : Addr) (m : Str → Option Value) (env : Env) (elt : PySem.Expr) (x x₂ : Str) (scope : Scope) (cl : List (Str × Addr)) (s₂ : Shared) (n : Nat) (P2 : Nat → Value → Value → Prop) (news : List (Addr × Obj)) (R : Nat → List Value → List (Addr × Obj) → Prop) : Prop :=
  ∀ (i : Nat) v0 v1 ys own C oC D m₂ h tk (E' : Value → Shared → Prop), i < n → P2 i v0 v1 → R i ys own → LCg.NsObj oC m₂ → m₂ x = some v0 → m₂ x₂ = some v1 → Fr h₀ L h m → News h₀ L h ((C, oC) :: (D, LCg.lst ys) :: (news ++ own)) →
    wpAny (model prog w) A (eval elt (compEnvC scope cl C env)) (fun y s₄ => CpEnd { s₂ with heap := h, toks := tk } (fun extra => R (i + 1) (ys ++ [y]) (extra ++ own)) s₄) E' { s₂ with heap := h, toks := tk }
noncomputable def Src2N (prog : Program) (w : World) (A : Around) (h₀ : Heap) (L : Addr) (m : Str → Option Value) (env : Env) (elt : PySem.Expr) (x x₂ : Str) (scope : Scope) (cl : List (Str × Addr)) (Q : Value → Shared → Prop) (xv : Value) (s₁ : Shared) : Prop :=
  ∀ P : Prop, (∀ (I : Addr) (fp wr : List Addr) (n : Nat) (Pt : Nat → Array Value → Prop) (St : Nat → Heap → Prop) (Mid : Nat → Addr → Heap → Prop) (P2 : Nat → Value → Value → Prop) (news : List (Addr × Obj)) (R : Nat → List Value → List (Addr × Obj) → Prop), xv = .ref I → A.handled = none → WalksT prog w A I fp wr n Pt St Mid → (∀ i vals, Pt i vals → ∃ v0 v1, vals = #[v0, v1] ∧ P2 i v0 v1) → n ≤ sizeLine → St 0 s₁.heap → (∀ b ∈ fp, b < s₁.heap.objs.size) → L ∉ fp → (∀ b ∈ wr, h₀.get? b = none) → (∀ p ∈ news, p.1 ∉ wr) → (∀ i h b, St i h → b ∈ wr → ∃ o, h.get? b = some o) → Fr h₀ L s₁.heap m → News h₀ L s₁.heap news → R 0 [] [] → Turn2N prog w A h₀ L m env elt x x₂ scope cl s₁ n P2 news R → (∀ D h tk ys own, Fr h₀ L h m → News h₀ L h ((D, LCg.lst ys) :: (news ++ own)) → (∀ q ∈ news ++ own, @Ne Nat q.1 D) → R n ys own → Q (.ref D) { s₁ with heap := h, toks := tk }) → P) → P
section
variable {prog : Program} {w : World} {A : Around} {E : Value → Shared → Prop} {s : Shared} {h₀ : Heap} {L : Addr} {m : Str → Option Value} {env : Env}
set_option maxHeartbeats 1000000 in
theorem core_2N {elt iter : PySem.Expr} {x x₂ : Str} {px px₂ tp : Pos} {kk : Nat} {scope : Scope} {cl : List (Str × Addr)} {pos : Pos} {s₂ : Shared} {xv : Value} {Q : Value → Shared → Prop} {RR : Value → Addr → Result → Shared → Prop}
    (hcell : ∀ y ∈ scope.names, y.2 ≠ .cell) (hkind : scope.kind = .function) (hxa : scope.names.lookup x = some .local) (hxb : scope.names.lookup x₂ = some .local) (hab : ¬ x = x₂) (h₁ : Src2N prog w A h₀ L m env elt x x₂ scope cl Q xv s₂)
    (fin : ∀ D C h tk m', Fr h₀ L h m → h.Ns C m' → C ≠ L → h₀.get? C = none → (∀ h'' tk'', Fr h₀ L h'' m → (∀ b o, @Ne Nat b C → @Ne Nat b L → h.get? b = some o → h''.get? b = some o) → Q (.ref D) { s₂ with heap := h'', toks := tk'' }) → RR (.ref D) C (.ok .next) { s₂ with heap := h, toks := tk }) :
    wpAny (model prog w) A (pyIter xv) (fun it s₃ => wpAny (model prog w) A (newList []) (fun acc s₃ => wpAny (model prog w) A (newFunctionEnv scope env.globals cl [] env.qual none .none (some env)) (fun cenv s₄ =>
      codeAny (model prog w) A (.compStart (.ListComp elt [⟨.Tuple [.Name x px, .Name x₂ px₂] kk tp, iter, [], 0⟩] scope pos) 0 it acc { cenv with scope := relabel scope env }) (RR acc cenv.locals) s₄) E s₃) E s₃) E s₂ := by
  refine h₁ _ fun I fp wr n Pt St Mid P2 news R hxv hh W h2 hsz hst hfp hLf hwr hnw hlive F N hR0 turn fin0 => ?_
  subst hxv
  refine W.self 0 _ _ _ hst ?_
  refine wpAny_newObj_type (wpAny_newFunctionEnv hcell (by intro y hy; simp at hy) (fun h₁ hns₁ hsb₁ => ?_) hkind)
  dsimp only at hns₁ hsb₁ ⊢
  generalize hH2 : s₂.heap.push { cls := .type "list", dict := none, data := .seq ([] : List Value).toArray } = H2 at hns₁ hsb₁ ⊢
  have hC : H2.objs.size = s₂.heap.objs.size + 1 := by rw [← hH2, Heap.size_push]
  have hDC : s₂.heap.objs.size ≠ H2.objs.size := by rw [hC]; exact Nat.ne_of_lt (Nat.lt_succ_self _)
  have below : ∀ b, b < s₂.heap.objs.size → b ≠ H2.objs.size ∧ b ≠ s₂.heap.objs.size := fun b hb => ⟨by rw [hC]; exact Nat.ne_of_lt (Nat.lt_succ_of_lt hb), Nat.ne_of_lt hb⟩
  have old : ∀ b o, s₂.heap.get? b = some o → h₁.get? b = some o := fun b o e => hsb₁.extBut b o (below b (Heap.lt_size e)).1 (Heap.get?_push_of_some _ (hH2 ▸ Heap.get?_push_of_some _ e))
  have hacc : h₁.get? s₂.heap.objs.size = some (LCg.lst []) := hsb₁.extBut _ _ hDC (Heap.get?_push_of_some _ (hH2 ▸ Heap.get?_push_size _ rfl))
  have fresh₀ : ∀ a, s₂.heap.objs.size ≤ a → h₀.get? a = none := fun a ha => by
    cases e : h₀.get? a with
    | none => rfl
    | some o' => exact absurd (Heap.lt_size (F.keep a o' e)) (Nat.not_lt.mpr ha)
  have hD₀ : h₀.get? s₂.heap.objs.size = none := fresh₀ _ (Nat.le_refl _)
  have hC₀ : h₀.get? H2.objs.size = none := fresh₀ _ (by rw [hC]; exact Nat.le_succ _)
  have hLlt : L < s₂.heap.objs.size := F.ns.lt
  have hDL : s₂.heap.objs.size ≠ L := Ne.symm (below L hLlt).2
  have hCL : H2.objs.size ≠ L := Ne.symm (below L hLlt).1
  have hCf : H2.objs.size ∉ fp := fun hm => (below _ (hfp _ hm)).1 rfl
  have hDf : s₂.heap.objs.size ∉ fp := fun hm => (below _ (hfp _ hm)).2 rfl
  have hCw : H2.objs.size ∉ wr := fun hm => hCf (W.sub _ hm)
  have hDw : s₂.heap.objs.size ∉ wr := fun hm => hDf (W.sub _ hm)
  have hLw : L ∉ wr := fun hm => hLf (W.sub _ hm)
  have hst₁ : St 0 h₁ := W.frame _ _ _ hst fun b _ o e => old b o e
  have loop : ∀ s₃ : Shared, s₃ = { s₂ with heap := h₁, toks := s₂.toks + ([] : List (Str × Value)).length } →
      codeAny (model prog w) A (.compLoop (.ListComp elt [⟨.Tuple [.Name x px, .Name x₂ px₂] kk tp, iter, [], 0⟩] scope pos) 0 (.ref I) (.ref s₂.heap.objs.size) (compEnvC scope cl H2.objs.size env))
        (RR (.ref s₂.heap.objs.size) H2.objs.size) s₃ := by
    rintro s₃ rfl
    refine kcp_loop
      (fun k s' => ∃ h' tk i ys m' own, s' = { s₂ with heap := h', toks := tk } ∧ i ≤ n ∧ k = n + 1 - i ∧ ys.length ≤ i ∧ St i h' ∧ Fr h₀ L h' m ∧ h'.Ns H2.objs.size m' ∧
        News h₀ L h' ((s₂.heap.objs.size, LCg.lst ys) :: (news ++ own)) ∧ (∀ q ∈ news ++ own, q.1 ∉ wr ∧ @Ne Nat q.1 H2.objs.size ∧ @Ne Nat q.1 s₂.heap.objs.size) ∧ R i ys own) ?_ (n + 1)
      ⟨h₁, _, 0, [], _, [], rfl, Nat.zero_le _, rfl, Nat.le_refl _, hst₁, F.keeps old, hns₁, fun p hp => ?_, fun q hq => ?_, hR0⟩
    · rintro k s' ⟨h', tk, i, ys, m', own, rfl, hi, rfl, hyl, hst', F', hn', N', off', hR⟩
      by_cases hlt : i < n
      · refine W.item i _ _ _ hlt hst' fun T vals h₂ tk₂ hPt hTs hT hMid hk₂ => ?_
        obtain ⟨v0, v1, rfl, hP2⟩ := h2 i vals hPt
        refine W.go _ _ _ i T _ _ _ hMid fun h₃ hst₃ hk₃ => ?_
        have hTw : T ∉ wr := W.apart i T _ hMid
        have hT₃ : h₃.IsTuple T #[v0, v1] := by
          obtain ⟨o, e, r⟩ := hT
          exact ⟨o, hk₃ T o hTw e, r⟩
        have up₃ : ∀ c o, c ∉ wr → h'.get? c = some o → h₃.get? c = some o := fun c o hc e => hk₃ c o hc (hk₂ c o hc e)
        refine kcp_assign (env := compEnvC scope cl H2.objs.size env) hh hT₃ (lookup_relabel_local hxa) (lookup_relabel_local hxb) (by simp [compEnvC, relabel, hkind]) (hn'.at' fun o e => up₃ _ o hCw e) fun h₄ tk₄ hn₄ hs₄ => ?_
        have up : ∀ c o, c ∉ wr → c ≠ H2.objs.size → h'.get? c = some o → h₄.get? c = some o := fun c o h1 h2 e => hs₄ c o h2 (up₃ c o h1 e)
        have hst₄ : St (i + 1) h₄ := W.frame _ _ _ hst₃ fun b hb o e => hs₄ b o (fun q => hCf (by have q' : b = H2.objs.size := q; rw [← q']; exact hb)) e
        obtain ⟨oC, heC, hoC⟩ := LCg.ns_obj hn₄
        have F₄ : Fr h₀ L h₄ m := ⟨F'.ns.at' fun o e => up _ o hLw (Ne.symm hCL) e, fun c o e => up c o (fun q => by rw [hwr c q] at e; cases e) (fun q => by rw [q, hC₀] at e; cases e) (F'.keep c o e), F'.above⟩
        have N₄ : News h₀ L h₄ ((H2.objs.size, oC) :: (s₂.heap.objs.size, LCg.lst ys) :: (news ++ own)) := fun q hq => by
          rcases List.mem_cons.mp hq with rfl | hq
          · exact ⟨heC, hCL, hC₀⟩
          · have z := N' q hq
            rcases List.mem_cons.mp hq with rfl | hq
            · exact ⟨up _ _ hDw hDC z.1, z.2⟩
            · exact ⟨up _ _ (off' q hq).1 (off' q hq).2.1 z.1, z.2⟩
        have fin' := fun {s₅ : Shared} {R' : List (Addr × Obj) → Prop} (c : CpEnd { s₂ with heap := h₄, toks := tk₄ } (fun extra => R' (extra ++ own)) s₅) => cp_step (Stn := St (i + 1)) F₄ N₄ hn₄ (fun h' e => W.frame _ _ _ hst₄ fun b _ o => e b o) (fun b hb => hlive _ _ _ hst₄ hb) off' c
        refine wpAny_mono (turn i v0 v1 ys own H2.objs.size oC s₂.heap.objs.size _ h₄ tk₄ _ hlt hP2 hR hoC (by simp [hab]) (by simp) F₄ N₄) (fun y s₅ h₅ => ?_) fun _ _ e => e
        obtain ⟨g₅, tk₅, extra, rfl, hst₅, F₅, hn₅, hD₅, N₅, off₅, hR₅⟩ := fin' (R' := R (i + 1) (ys ++ [y])) h₅
        refine append_at (hsz := by show ys.toArray.size ≤ sizeLine; rw [List.size_toArray]; exact Nat.le_trans hyl (Nat.le_trans hi hsz)) hD₅ fun h₆ hs₆ hD₆ => ?_
        refine ⟨n + 1 - (i + 1), by omega, h₆, tk₅, i + 1, ys ++ [y], _, extra ++ own, rfl, hlt, rfl, by rw [List.length_append, List.length_singleton]; exact Nat.succ_le_succ hyl, W.frame _ _ _ hst₅ fun b hb o e => hs₆.extBut b o (fun q => hDf (by have q' : b = s₂.heap.objs.size := q; rw [← q']; exact hb)) e, F₅.change hs₆ hDL hD₀, hn₅.sameBut hs₆ (Ne.symm hDC), fun q hq => ?_, off₅, hR₅⟩
        rcases List.mem_cons.mp hq with rfl | hq
        · exact ⟨hD₆.trans (congrArg some (LCg.lst_snoc ys y)), hDL, hD₀⟩
        · exact ⟨hs₆.extBut _ _ (off₅ q hq).2.2 (N₅ q hq).1, (N₅ q hq).2⟩
      · obtain rfl : i = n := Nat.le_antisymm hi (Nat.not_lt.mp hlt)
        refine W.done _ _ _ hst' fun h₂ tk₂ hk₂ => ?_
        have hn₂ : h₂.Ns H2.objs.size m' := hn'.at' fun o e => hk₂ _ o hCw e
        have F₂ : Fr h₀ L h₂ m := ⟨F'.ns.at' fun o e => hk₂ _ o hLw e, fun c o e => hk₂ c o (fun q => by rw [hwr c q] at e; cases e) (F'.keep c o e), F'.above⟩
        refine fin _ _ h₂ tk₂ m' F₂ hn₂ hCL hC₀ fun h'' tk'' F'' up => fin0 _ h'' tk'' ys own F'' (fun p hp => ?_) (fun q hq => (off' q hq).2.2) hR
        have z := N' p hp
        rcases List.mem_cons.mp hp with rfl | hp
        · exact ⟨up _ _ hDC z.2.1 (hk₂ _ _ hDw z.1), z.2⟩
        · exact ⟨up _ _ (off' p hp).2.1 z.2.1 (hk₂ _ _ (off' p hp).1 z.1), z.2⟩
    · rcases List.mem_cons.mp hp with rfl | hp
      · exact ⟨hacc, hDL, hD₀⟩
      · rw [List.append_nil] at hp
        exact ⟨old _ _ (N p hp).1, (N p hp).2⟩
    · rw [List.append_nil] at hq
      exact ⟨hnw q hq, (below _ (Heap.lt_size (N q hq).1)).1, (below _ (Heap.lt_size (N q hq).1)).2⟩
  exact codeAny_compStart_list (loop _ rfl) (W.self 0 _ _ _ hst₁ (loop _ rfl))
set_option maxHeartbeats 1000000 in
theorem ListComp_2N {elt iter : PySem.Expr} {x x₂ : Str} {px px₂ tp : Pos} {kk : Nat} {scope : Scope} {cl : List (Str × Addr)} {pos : Pos} {Q : Value → Shared → Prop}
    (hclos : closureFor scope env = pure cl) (hcell : ∀ y ∈ scope.names, y.2 ≠ .cell) (hkind : scope.kind = .function)
    (hnames : ∀ y ∈ scope.names, y.2 = .local → scope.names.lookup y.1 = some .local) (hxa : scope.names.lookup x = some .local) (hxb : scope.names.lookup x₂ = some .local) (hab : ¬ x = x₂)
    (h : wpAny (model prog w) A (eval iter env) (Src2N prog w A h₀ L m env elt x x₂ scope cl Q) E s)
    (hs : ∀ x, foldedSetIterable iter env x = pure x) :
    wpAny (model prog w) A (eval (.ListComp elt [⟨.Tuple [.Name x px, .Name x₂ px₂] kk tp, iter, [], 0⟩] scope pos) env) Q E s := by
  rw [eval_ListComp]
  exact wpAny_comprehension_free (use := none) rfl hs hclos hkind hnames (wpAny_mono h (fun _ _ h₁ => core_2N hcell hkind hxa hxb hab h₁ fun _ _ _ tk m' F hn hCL hC₀ K => ⟨m', hn, fun h'' hs'' => K h'' tk (F.change hs'' hCL hC₀) fun b o hb _ e => hs''.extBut b o hb e⟩) fun _ _ e => e)
end

theorem anew_93_enum : True := by
  w_top off
  k_with_none
  k_with "sa enter" => (refine wpAny_call ?_; k_dflt (refine' enter_pure ?k1 ?k2 ?k3 ?k4 ?kA ?kF ?kK ?k6 ?k7 ?k8 ?k9 ?kB (by assumption) ?_ ?c2 ?c3 ?c4 ?c5; (case kA => exact rfl); (case kF => exact rfl); (case kK => assumption); (case k1 => k_asm); (case k2 => k_asm); (case k3 => k_asm); (case k4 => k_asm); (case k6 => k_is); (case k7 => k_is); (case k8 => ktr_room); (case k9 => exact BindsTo.of_eq rfl); (case c5 => decide); (case kB => exact locs rfl); (case c2 => exact rfl); (case c3 => exact rfl); (case c4 => exact rfl); k_whole); (with_reducible rename Below _ _ _ _ => kB'; clear kB'); (with_reducible rename Fr _ _ _ _ => kB'; clear kB'); (with_reducible rename Top _ _ _ _ _ _ => kB'; clear kB'); (rename Frag.In _ _ => kB'; clear kB'); intro L' h' F' N' B' X' T'; (try dsimp only); (try k_fold))
  k_with "sa leave list" => ((show LeaveP _ _ _ _); refine leaveP_ (by assumption) ⟨_, _, _, rfl, (News.fresh (by assumption) (List.Mem.head _)), (News.get (by assumption) (List.Mem.head _)), ?_⟩)
  k_with "execs cons Assign cons" => ((with_reducible refine wpAny_execs_cons ?_); try dsimp only)
  k_with "sa len" => (first | with_reducible assumption | exact List.length_take_le _ _ | omega | l_fact | ((simp only [rangeKs_length, List.length_map, List.length_append, List.length_cons, List.length_nil] at *); omega))
  k_with "sa enter cells" => (refine wpAny_call ?_; k_dflt (refine' enter_pureC ?k1 ?k2 ?k3 ?k4 ?kA ?kF ?kK ?k6 ?k7 ?k8 ?k9 ?kB ?kD (by assumption) ?_ ?c2 ?c3 ?c4; (case kA => exact rfl); (case kF => exact rfl); (case kK => assumption); (case k1 => k_asm); (case k2 => k_asm); (case k3 => k_asm); (case k4 => k_asm); (case k6 => k_is); (case k7 => k_is); (case k8 => ktr_room); (case k9 => exact BindsTo.of_eq rfl); (case kB => exact rfl); (case kD => decide +kernel); (case c2 => exact rfl); (case c3 => exact rfl); (case c4 => exact rfl); k_whole); (with_reducible rename Below _ _ _ _ => kB'; clear kB'); (with_reducible rename Fr _ _ _ _ => kB'; clear kB'); (with_reducible rename Top _ _ _ _ _ _ => kB'; clear kB'); (rename Frag.In _ _ => kB'; clear kB'); intro L' h' tk' cells' F' N' Y' B' X' T'; k_cells Y'; (try simp only [List.cons_append, List.nil_append, List.append_nil] at N'); (try dsimp only); (try k_fold))
  k_with "sa ne" => (first | with_reducible assumption | (refine Ne.symm ?_; with_reducible assumption) | (refine Nat.ne_of_gt ?_; assumption) | (refine Nat.ne_of_lt ?_; assumption) | ((rename _ ∧ _ => h9); first | (refine Ne.symm ?_; simp only [h9, ne_eq, not_false_eq_true]; done) | (simp only [h9, ne_eq, not_false_eq_true]; done) | (refine Nat.ne_of_gt ?_; simp only [h9]; done) | (refine Nat.ne_of_lt ?_; simp only [h9]; done) | (clear h9; k_extra "sa ne")))
  k_with "call ref" => (k_here; (with_reducible show wpAny _ _ (PySem.call (Value.ref 55) [Value.ref _]) _ _ _); k_dflt (refine' use_li (mtrim_says (by is_list) (by l_ints) (by k_extra "sa len")) (by k_asm) (by k_asm) (by k_asm) (by k_asm) (by k_asm) (by first | exact rfl | assumption) (by ktr_room) (by ktr_units) ?_; k_whole); intro l' vs' n' h' tk' F' N' i' ne' st'; (try simp only [List.forall_mem_cons, List.not_mem_nil, false_implies, implies_true, and_true] at ne'); (try k_sweep); walk_say "MTRIM"; (rename IntsAre _ (trimF _) => hI9); (have hC9 := trimF_lenI hI9))
  k_with "call ref" => (k_here; (with_reducible show wpAny _ _ (PySem.call (Value.ref 69) [Value.ref _, Value.ref _, Value.int _ _]) _ _ _); k_dflt (refine' use_li (madd_says (by is_list) (by l_ints) (by k_extra "sa len") (by is_list) (by l_ints) (by k_extra "sa len") (by omega) (by omega)) (by k_asm) (by k_asm) (by k_asm) (by k_asm) (by k_asm) (by first | exact rfl | assumption) (by ktr_room) (by ktr_units) ?_; k_whole); intro l' vs' n' h' tk' F' N' i' ne' st'; (try simp only [List.forall_mem_cons, List.not_mem_nil, false_implies, implies_true, and_true] at ne'); (try k_sweep); walk_say "MADD")
  k_with "call ref" => (k_here; (with_reducible show wpAny _ _ (PySem.call (Value.ref 86) [Value.ref _, Value.int _ _, Value.int _ _]) _ _ _); k_dflt (refine' use_li (mscale_says (by is_list) (by l_ints) (by k_extra "sa len") (by omega) (by omega) (by omega) (by omega)) (by k_asm) (by k_asm) (by k_asm) (by k_asm) (by k_asm) (by first | exact rfl | assumption) (by ktr_room) (by ktr_units) ?_; k_whole); intro l' vs' n' h' tk' F' N' i' ne' st'; (try simp only [List.forall_mem_cons, List.not_mem_nil, false_implies, implies_true, and_true] at ne'); (try k_sweep); walk_say "MSCALE")
  k_with "call ref" => (k_here; (with_reducible show wpAny _ _ (PySem.call (Value.ref 93) [Value.ref _, Value.ref _, Value.int _ _]) _ _ _); k_dflt (refine' use_li (mmul_says (by is_list) (by l_ints) (by k_extra "sa len") (by assumption) (by is_list) (by l_ints) (by k_extra "sa len") (by omega) (by omega)) (by k_asm) (by k_asm) (by k_asm) (by k_asm) (by k_asm) (by first | exact rfl | assumption) (by ktr_room) (by ktr_units) ?_; k_whole); intro l' vs' n' h' tk' F' N' i' ne' st'; (try simp only [List.forall_mem_cons, List.not_mem_nil, false_implies, implies_true, and_true] at ne'); (try k_sweep); walk_say "MMUL")
  k_with "call ref" => (k_here; (with_reducible show wpAny _ _ (PySem.call (Value.ref 48) [Value.int _ _, Value.int _ _]) _ _ _); k_dflt (refine' use_int (inv_says (by first | assumption | decide) (by first | assumption | omega)) (by k_asm) (by k_asm) (by k_asm) (by k_asm) (by k_asm) (by first | exact rfl | assumption) (by ktr_room) (by ktr_units) ?_; k_whole); intro t1' h' tk' F' N' st'; (try k_sweep); walk_say "INV")
  k_with "call ref" => (k_here; (with_reducible show wpAny _ _ (PySem.call (Value.ref 100) [Value.ref _, Value.ref _, Value.int _ _]) _ _ _); k_dflt (refine' use_p2 (mdivmod_says (by is_list) (by l_ints) (by k_extra "sa len") (by is_list) (by l_ints) (by k_extra "sa len") (by k_extra "sa len") (by assumption) (by assumption) (by assumption)) (by k_asm) (by k_asm) (by k_asm) (by k_asm) (by k_asm) (by first | exact rfl | assumption) (by ktr_room) (by ktr_units) ?_; k_whole); intro l' v1' l2' n' vs' c' h' tk' F' N' i' ne' ne2' st'; walk_say "MDIVMOD"; (try simp only [List.forall_mem_cons, List.not_mem_nil, false_implies, implies_true, and_true] at ne' ne2'); (try k_sweep))
  k_with "call ref" => (k_here; (with_reducible show wpAny _ _ (PySem.call (Value.ref 147) [Value.ref _, Value.ref _, Value.ref _, Value.int _ _]) _ _ _); k_dflt (refine' use_li (gmul_says (by is_list) (by l_ints) (by k_extra "sa len") (by first | assumption | exact small_nil) (by is_list) (by l_ints) (by k_extra "sa len") (by is_list) (by assumption) (by assumption)) (by k_asm) (by k_asm) (by k_asm) (by k_asm) (by k_asm) (by first | exact rfl | assumption) (by ktr_room) (by ktr_units) ?_; k_whole); intro l' vs' n' h' tk' F' N' i' ne' st'; (try simp only [List.forall_mem_cons, List.not_mem_nil, false_implies, implies_true, and_true] at ne'); (try k_sweep); walk_say "GMUL"; (rename IntsAre _ (gmulF _ _ _ _) => hI9); (have hC9 := gmulF_lenI hI9))
  k_with "call ref" => (k_here; (with_reducible show wpAny _ _ (PySem.call (Value.ref 86) [Value.ref _, Value.int _ _, Value.int _ _]) _ _ _); k_dflt (refine' use_li (mscale_says (by is_list) (by l_ints) (by k_extra "sa len") (by omega) (by omega) (by omega) (by omega)) (by k_asm) (by k_asm) (by k_asm) (by k_asm) (by k_asm) (by first | exact rfl | assumption) (by ktr_room) (by ktr_units) ?_; k_whole); intro l' vs' n' h' tk' F' N' i' ne' st'; (try simp only [List.forall_mem_cons, List.not_mem_nil, false_implies, implies_true, and_true] at ne'); (try k_sweep); walk_say "MSCALE2"; (rename IntsAre _ (mscaleF _ _ _) => hI9); (have hC9 := mscaleF_lenI hI9); (try simp only [List.length_cons, List.length_nil] at hC9))
  k_with "call ref" => (k_here; (with_reducible show wpAny _ _ (PySem.call (Value.ref 69) [Value.ref _, Value.ref _, Value.int _ _]) _ _ _); k_dflt (refine' use_li (madd_says (by is_list) (by l_ints) (by k_extra "sa len") (by is_list) (by l_ints) (by k_extra "sa len") (by omega) (by omega)) (by k_asm) (by k_asm) (by k_asm) (by k_asm) (by k_asm) (by first | exact rfl | assumption) (by ktr_room) (by ktr_units) ?_; k_whole); intro l' vs' n' h' tk' F' N' i' ne' st'; (try simp only [List.forall_mem_cons, List.not_mem_nil, false_implies, implies_true, and_true] at ne'); (try k_sweep); walk_say "MADD2"; (rename IntsAre _ (maddF _ _ _) => hI9); (have hC9 := maddF_lenI hI9))
  k_with "exec For Name Subscript cons nil" => (k_here; (rename Fr _ _ _ _ => lF'); (with_unfolding_all (refine' For_invVF lF' (by exact rfl) (by exact rfl) ?_; k_whole)))
  k_with "exec For Name Name cons nil" => (k_here; (rename Fr _ _ _ _ => lF'); (with_unfolding_all (refine' For_invVF lF' (by exact rfl) (by exact rfl) ?_; k_whole)))
  k_with "call ref" => (k_here; (with_reducible show wpAny _ _ (PySem.call (Value.ref 168) [Value.ref _, Value.ref _, Value.ref _, Value.int _ _]) _ _ _); k_dflt (refine' use_li (gat_says (by is_list) (by l_ints) (by k_extra "sa len") (by assumption) (by is_list) (by l_ints) (by k_extra "sa len") (by assumption) (by is_list) (by assumption) (by assumption)) (by k_asm) (by k_asm) (by k_asm) (by k_asm) (by k_asm) (by first | exact rfl | assumption) (by ktr_room) (by ktr_units) ?_; k_whole); intro l' vs' n' h' tk' F' N' i' ne' st'; walk_say "GAT"; (try k_sweep))
  k_with "call ref" => (k_here; (with_reducible show wpAny _ _ (PySem.call (Value.ref 161) [Value.ref _, Value.int _ _, Value.ref _, Value.int _ _]) _ _ _); k_dflt (refine' use_li (gpow_says (by is_list) (by l_ints) (by k_extra "sa len") (by assumption) (by omega) (by omega) (by is_list) (by assumption) (by assumption)) (by k_asm) (by k_asm) (by k_asm) (by k_asm) (by k_asm) (by first | exact rfl | assumption) (by ktr_room) (by ktr_units) ?_; k_whole); intro l' vs' n' h' tk' F' N' i' ne' st'; walk_say "GPOW"; (try k_sweep))
  k_with "call ref" => (k_here; (with_reducible show wpAny _ _ (PySem.call (Value.ref 128) [Value.int _ _, Value.int _ _]) _ _ _); k_dflt (refine' use_li (count_says (by omega) (by omega) (by omega) (by omega)) (by k_asm) (by k_asm) (by k_asm) (by k_asm) (by k_asm) (by first | exact rfl | assumption) (by ktr_room) (by ktr_units) ?_; k_whole); intro l' vs' n' h' tk' F' N' i' ne' st'; (try simp only [List.forall_mem_cons, List.not_mem_nil, false_implies, implies_true, and_true] at ne'); (try k_sweep); walk_say "COUNT")
  k_with "call ref" => (k_here; (with_reducible show wpAny _ _ (PySem.call (Value.ref 135) [Value.ref _, Value.int _ _]) _ _ _); k_dflt (refine' use_int (size_says (by is_list) (by assumption) (by assumption)) (by k_asm) (by k_asm) (by k_asm) (by k_asm) (by k_asm) (by first | exact rfl | assumption) (by ktr_room) (by ktr_units) ?_; k_whole); intro t1' h' tk' F' N' st'; (try k_sweep); walk_say "SIZE")
  k_with "CompSrc" => (refine hold_of ?_)
  k_with "sa mem" => (first | with_reducible assumption | exact List.Mem.head _ | (refine List.Mem.tail _ ?_; k_extra "sa mem") | (refine List.mem_append.mpr (Or.inr ?_); k_extra "sa mem") | (refine List.mem_append.mpr (Or.inl ?_); k_extra "sa mem"))
  k_with "call ref" => (k_here; (with_reducible show wpAny _ _ (PySem.call (Value.ref 188) [Value.ref _, Value.int _ _]) _ _ _); k_dflt (refine' take_use (by k_asm) (by k_asm) (by k_asm) (by k_asm) (by k_asm) (by first | exact rfl | assumption) (by ktr_room) (by ktr_units) (by (intro o9; k_upd)) (by k_extra "sa mem") (by k_ne) (by l_ints) (by k_extra "sa len") (by omega) (by first | with_reducible assumption | omega) (by omega) (by omega) ?_; k_whole); intro x9 t9 tx9 c9 h' tk' hx9 hy9 F' N'; walk_say "TAKE"; (try dsimp only at N'); (try k_sweep))
  k_with "call ref" => (k_here; (with_reducible show wpAny _ _ (PySem.call (Value.ref 140) [Value.ref _, Value.int _ _]) _ _ _); k_dflt (refine' rows_use (things_says (by is_list) (by assumption) (by exact FieldOk.isSize (by assumption))) (by k_asm) (by k_asm) (by k_asm) (by k_asm) (by k_asm) (by first | exact rfl | assumption) (by ktr_room) (by ktr_units) ?_; k_whole); intro l' ys' c' own' h' tk' F' N' hr' ne' off'; walk_say "THINGS"; (try simp only [List.forall_mem_cons, List.not_mem_nil, false_implies, implies_true, and_true] at ne'); (try simp only [List.map_cons, List.map_nil] at off'); (try simp only [List.cons_append, List.nil_append, List.append_assoc] at N'); (try k_sweep))
  k_with "subscriptTail" => (k_here; (with_reducible show wpAny _ _ (subscriptTail _ _ (Value.ref 181) (Value.int _ _)) _ _ _); refine hold_of ?_)
  k_with "call builtin:len" => (k_here; (with_reducible show wpAny _ _ (PySem.call (Value.builtin "len") [Value.ref _]) _ _ _); (rename RowsIn _ _ _ => hr9); k_dflt (refine' len_rows (by k_asm) (by k_extra "sa mem") hr9 (by first | exact thingsF_length (by omega) | assumption) (by omega) ?_; k_whole); walk_say "LENROWS")
  trivial
noncomputable def CpInt (s₁ : Shared) (P : Prop) (s₃ : Shared) : Prop := ∃ tk', s₃ = { s₁ with toks := tk' } ∧ P
theorem cpInt_ {s₁ : Shared} {P : Prop} {tk : Nat} (h : P) : CpInt s₁ P { s₁ with toks := tk } := ⟨tk, rfl, h⟩
section
variable {prog : Program} {w : World} {A : Around} {E : Value → Shared → Prop} {s : Shared} {h₀ : Heap} {L : Addr} {m : Str → Option Value} {env : Env} {news : List (Addr × Obj)}
theorem enum_src {l : Addr} {vs : List Value} {k : Nat} {ns : List Int} {c elt : PySem.Expr} {x x₂ : Str} {scope : Scope} {cl : List (Str × Addr)} {mf : Addr → Str → Option Value} {Q : Addr → Shared → Prop} (G : List Int → Int × Nat → List Int)
    (hh : A.handled = none) (F : Fr h₀ L s.heap m) (N : News h₀ L s.heap news) (hl : (l, listOf vs.toArray k) ∈ news) (hi : IntsAre vs ns) (hsz : ns.length ≤ sizeLine)
    (turn : Hold (∀ (i : Nat) (a : Int) (ti ta : Tok) ys lst C oC D m₂ h tk (E' : Value → Shared → Prop), ns[i]? = some a → IntsAre ys lst → LCg.NsObj oC m₂ → m₂ x = some (.int (i : Int) ti) → m₂ x₂ = some (.int a ta) → Fr h₀ L h m → News h₀ L h ((C, oC) :: (D, LCg.lst ys) :: news) →
      wpAny (model prog w) A (isTrue c (compEnvC scope cl C env) (eval c (compEnvC scope cl C env))) (fun okb s₃ => if okb = true then wpAny (model prog w) A (eval elt (compEnvC scope cl C env)) (fun y s₄ => CpInt { s with heap := h, toks := tk } (IntsAre (ys ++ [y]) (G lst (a, i))) s₄) E' s₃
        else CpInt { s with heap := h, toks := tk } (IntsAre ys (G lst (a, i))) s₃) E' { s with heap := h, toks := tk }))
    (fin : Hold (∀ D h tk ys, Fr h₀ L h (mf D) → News h₀ L h ((D, LCg.lst ys) :: news) → (∀ q ∈ news, @Ne Nat q.1 D) → IntsAre ys (ns.zipIdx.foldl G []) → Q D { s with heap := h, toks := tk })) :
    wpAny (model prog w) A (call (.type "enumerate") [.ref l]) (Src2X prog w A h₀ L m env c elt x x₂ scope cl mf Q) E s := by
  have hls : s.heap.IsList l vs.toArray := ⟨_, (N _ hl).1, rfl, k, rfl⟩
  have hll : l < s.heap.objs.size := Heap.lt_size (N _ hl).1
  have hLs : L < s.heap.objs.size := F.ns.lt
  refine call_enumerate_list hls fun h' he hit hsz' hk => ?_
  have fresh : ∀ b, s.heap.objs.size ≤ b → h₀.get? b = none := fun b hb => by
    cases e : h₀.get? b with
    | none => rfl
    | some o => exact absurd (Heap.lt_size (F.keep _ _ e)) (Nat.not_lt.mpr hb)
  have hlen : vs.length = ns.length := hi.length
  refine fun P k9 => k9 (s.heap.objs.size + 1) _ _ vs.toArray.size _ _ _ (fun i v0 v1 => ∃ t, v0 = .int (i : Int) t ∧ vs.toArray[i]? = some v1) news (fun i ys own => own = [] ∧ IntsAre ys ((ns.zipIdx.take i).foldl G [])) rfl hh
    (WalksT.enumerate hh (s.heap.objs.size + 1) s.heap.objs.size l (Nat.succ_ne_self _) (Nat.ne_of_lt (Nat.lt_succ_of_lt hll)) (Nat.ne_of_lt hll) vs.toArray) ?_ ?_ ⟨⟨_, by simpa using he⟩, hit, hls.at fun o e => hk l o e⟩ ?_ ?_ ?_ ?_ ?_
    ⟨F.ns.keeps hk, fun b o e => hk b o (F.keep b o e), F.above⟩ (fun p hp => ⟨hk _ _ (N p hp).1, (N p hp).2⟩) ⟨rfl, .nil⟩ ?_ ?_
  · rintro i vals ⟨t, x, hx, rfl⟩
    exact ⟨_, _, rfl, t, rfl, hx⟩
  · rw [List.size_toArray, hlen]; exact hsz
  · intro b hb
    show b < h'.objs.size
    rw [hsz']
    simp only [List.mem_cons, List.not_mem_nil, or_false] at hb
    rcases hb with rfl | rfl | rfl
    · exact Nat.lt_succ_self _
    · exact Nat.lt_succ_of_lt (Nat.lt_succ_self _)
    · exact Nat.lt_succ_of_lt (Nat.lt_succ_of_lt hll)
  · intro hb
    simp only [List.mem_cons, List.not_mem_nil, or_false] at hb
    rcases hb with e | e | e
    · exact Nat.ne_of_lt (Nat.lt_succ_of_lt hLs) e
    · exact Nat.ne_of_lt hLs e
    · exact (N _ hl).2.1 e.symm
  · intro b hb
    simp only [List.mem_cons, List.not_mem_nil, or_false] at hb
    rcases hb with rfl | rfl
    · exact fresh _ (Nat.le_succ _)
    · exact fresh _ (Nat.le_refl _)
  · intro p hp hb
    have := Heap.lt_size (N p hp).1
    simp only [List.mem_cons, List.not_mem_nil, or_false] at hb
    rcases hb with e | e
    · exact Nat.ne_of_lt (Nat.lt_succ_of_lt this) e
    · exact Nat.ne_of_lt this e
  · rintro i h b ⟨⟨old, he⟩, ⟨o, ho, _⟩, _⟩ hb
    simp only [List.mem_cons, List.not_mem_nil, or_false] at hb
    rcases hb with rfl | rfl
    · exact ⟨_, he⟩
    · exact ⟨_, ho⟩
  · rintro i v0 v1 ys own C oC D m₂ h tk E' hlt ⟨t, rfl, hv⟩ ⟨rfl, hys⟩ hC h0 h1 F₁ N₁
    rw [List.append_nil] at N₁
    obtain ⟨a, ta, rfl, ha⟩ : ∃ a ta, v1 = .int a ta ∧ ns[i]? = some a := ints_item hi (by simpa using hv)
    have hs : (ns.zipIdx.take (i + 1)).foldl G [] = G ((ns.zipIdx.take i).foldl G []) (a, i) := by
      rw [List.take_add_one, zipIdx_get ha]; simp
    refine wpAny_mono (turn i a t ta ys _ C oC D m₂ h tk E' ha hys hC h0 h1 F₁ N₁) (fun okb s₃ q => ?_) fun _ _ e => e
    cases okb with
    | false =>
      simp only [Bool.false_eq_true, if_false] at q ⊢
      obtain ⟨tk', rfl, q⟩ := q
      exact cpEnd_0 ⟨rfl, by rw [hs]; exact q⟩
    | true =>
      simp only [if_true] at q ⊢
      refine wpAny_mono q (fun y s₄ q => ?_) fun _ _ e => e
      obtain ⟨tk', rfl, q⟩ := q
      exact cpEnd_0 ⟨rfl, by rw [hs]; exact q⟩
  · rintro D h tk ys own F₁ N₁ hne ⟨rfl, hys⟩
    rw [List.append_nil] at N₁ hne
    rw [List.size_toArray, hlen, List.take_of_length_le (by simp)] at hys
    exact fin D h tk ys F₁ N₁ hne hys
theorem ListComp_2TF {elt iter c : PySem.Expr} {x x₂ : Str} {px px₂ tp : Pos} {kk : Nat} {scope : Scope} {cl : List (Str × Addr)} {pos : Pos} {Q : Value → Shared → Prop}
    (hclos : closureFor scope env = pure cl) (hcell : ∀ y ∈ scope.names, y.2 ≠ .cell) (hkind : scope.kind = .function)
    (hnames : ∀ y ∈ scope.names, y.2 = .local → scope.names.lookup y.1 = some .local) (hxa : scope.names.lookup x = some .local) (hxb : scope.names.lookup x₂ = some .local) (hab : ¬ x = x₂) (_ : Fr h₀ L s.heap m)
    (h : wpAny (model prog w) A (eval iter env) (Src2T prog w A h₀ L m env c elt x x₂ scope cl Q) E s)
    (hs : ∀ x, foldedSetIterable iter env x = pure x) :
    wpAny (model prog w) A (eval (.ListComp elt [⟨.Tuple [.Name x px, .Name x₂ px₂] kk tp, iter, [c], 0⟩] scope pos) env) Q E s := ListComp_2T hclos hcell hkind hnames hxa hxb hab h hs
theorem ListComp_2NF {elt iter : PySem.Expr} {x x₂ : Str} {px px₂ tp : Pos} {kk : Nat} {scope : Scope} {cl : List (Str × Addr)} {pos : Pos} {Q : Value → Shared → Prop}
    (hclos : closureFor scope env = pure cl) (hcell : ∀ y ∈ scope.names, y.2 ≠ .cell) (hkind : scope.kind = .function)
    (hnames : ∀ y ∈ scope.names, y.2 = .local → scope.names.lookup y.1 = some .local) (hxa : scope.names.lookup x = some .local) (hxb : scope.names.lookup x₂ = some .local) (hab : ¬ x = x₂) (_ : Fr h₀ L s.heap m)
    (h : wpAny (model prog w) A (eval iter env) (Src2N prog w A h₀ L m env elt x x₂ scope cl Q) E s)
    (hs : ∀ x, foldedSetIterable iter env x = pure x) :
    wpAny (model prog w) A (eval (.ListComp elt [⟨.Tuple [.Name x px, .Name x₂ px₂] kk tp, iter, [], 0⟩] scope pos) env) Q E s := ListComp_2N hclos hcell hkind hnames hxa hxb hab h hs
end

theorem anew_94_law1 : True := by
  w_top off
  k_with_none
  k_with "sa enter" => (refine wpAny_call ?_; k_dflt (refine' enter_pure ?k1 ?k2 ?k3 ?k4 ?kA ?kF ?kK ?k6 ?k7 ?k8 ?k9 ?kB (by assumption) ?_ ?c2 ?c3 ?c4 ?c5; (case kA => exact rfl); (case kF => exact rfl); (case kK => assumption); (case k1 => k_asm); (case k2 => k_asm); (case k3 => k_asm); (case k4 => k_asm); (case k6 => k_is); (case k7 => k_is); (case k8 => ktr_room); (case k9 => exact BindsTo.of_eq rfl); (case c5 => decide); (case kB => exact locs rfl); (case c2 => exact rfl); (case c3 => exact rfl); (case c4 => exact rfl); k_whole); (with_reducible rename Below _ _ _ _ => kB'; clear kB'); (with_reducible rename Fr _ _ _ _ => kB'; clear kB'); (with_reducible rename Top _ _ _ _ _ _ => kB'; clear kB'); (rename Frag.In _ _ => kB'; clear kB'); intro L' h' F' N' B' X' T'; (try dsimp only); (try k_fold))
  k_with "sa leave list" => ((show LeaveP _ _ _ _); refine leaveP_ (by assumption) ⟨_, _, _, rfl, (News.fresh (by assumption) (List.Mem.head _)), (News.get (by assumption) (List.Mem.head _)), ?_⟩)
  k_with "execs cons Assign cons" => ((with_reducible refine wpAny_execs_cons ?_); try dsimp only)
  k_with "sa len" => (first | with_reducible assumption | exact List.length_take_le _ _ | omega | l_fact | ((simp only [rangeKs_length, List.length_map, List.length_append, List.length_cons, List.length_nil] at *); omega))
  k_with "sa enter cells" => (refine wpAny_call ?_; k_dflt (refine' enter_pureC ?k1 ?k2 ?k3 ?k4 ?kA ?kF ?kK ?k6 ?k7 ?k8 ?k9 ?kB ?kD (by assumption) ?_ ?c2 ?c3 ?c4; (case kA => exact rfl); (case kF => exact rfl); (case kK => assumption); (case k1 => k_asm); (case k2 => k_asm); (case k3 => k_asm); (case k4 => k_asm); (case k6 => k_is); (case k7 => k_is); (case k8 => ktr_room); (case k9 => exact BindsTo.of_eq rfl); (case kB => exact rfl); (case kD => decide +kernel); (case c2 => exact rfl); (case c3 => exact rfl); (case c4 => exact rfl); k_whole); (with_reducible rename Below _ _ _ _ => kB'; clear kB'); (with_reducible rename Fr _ _ _ _ => kB'; clear kB'); (with_reducible rename Top _ _ _ _ _ _ => kB'; clear kB'); (rename Frag.In _ _ => kB'; clear kB'); intro L' h' tk' cells' F' N' Y' B' X' T'; k_cells Y'; (try simp only [List.cons_append, List.nil_append, List.append_nil] at N'); (try dsimp only); (try k_fold))
  k_with "sa ne" => (first | with_reducible assumption | (refine Ne.symm ?_; with_reducible assumption) | (refine Nat.ne_of_gt ?_; assumption) | (refine Nat.ne_of_lt ?_; assumption) | ((rename _ ∧ _ => h9); first | (refine Ne.symm ?_; simp only [h9, ne_eq, not_false_eq_true]; done) | (simp only [h9, ne_eq, not_false_eq_true]; done) | (refine Nat.ne_of_gt ?_; simp only [h9]; done) | (refine Nat.ne_of_lt ?_; simp only [h9]; done) | (clear h9; k_extra "sa ne")))
  k_with "call ref" => (k_here; (with_reducible show wpAny _ _ (PySem.call (Value.ref 55) [Value.ref _]) _ _ _); k_dflt (refine' use_li (mtrim_says (by is_list) (by l_ints) (by k_extra "sa len")) (by k_asm) (by k_asm) (by k_asm) (by k_asm) (by k_asm) (by first | exact rfl | assumption) (by ktr_room) (by ktr_units) ?_; k_whole); intro l' vs' n' h' tk' F' N' i' ne' st'; (try simp only [List.forall_mem_cons, List.not_mem_nil, false_implies, implies_true, and_true] at ne'); (try k_sweep); walk_say "MTRIM"; (rename IntsAre _ (trimF _) => hI9); (have hC9 := trimF_lenI hI9))
  k_with "call ref" => (k_here; (with_reducible show wpAny _ _ (PySem.call (Value.ref 69) [Value.ref _, Value.ref _, Value.int _ _]) _ _ _); k_dflt (refine' use_li (madd_says (by is_list) (by l_ints) (by k_extra "sa len") (by is_list) (by l_ints) (by k_extra "sa len") (by omega) (by omega)) (by k_asm) (by k_asm) (by k_asm) (by k_asm) (by k_asm) (by first | exact rfl | assumption) (by ktr_room) (by ktr_units) ?_; k_whole); intro l' vs' n' h' tk' F' N' i' ne' st'; (try simp only [List.forall_mem_cons, List.not_mem_nil, false_implies, implies_true, and_true] at ne'); (try k_sweep); walk_say "MADD")
  k_with "call ref" => (k_here; (with_reducible show wpAny _ _ (PySem.call (Value.ref 86) [Value.ref _, Value.int _ _, Value.int _ _]) _ _ _); k_dflt (refine' use_li (mscale_says (by is_list) (by l_ints) (by k_extra "sa len") (by omega) (by omega) (by omega) (by omega)) (by k_asm) (by k_asm) (by k_asm) (by k_asm) (by k_asm) (by first | exact rfl | assumption) (by ktr_room) (by ktr_units) ?_; k_whole); intro l' vs' n' h' tk' F' N' i' ne' st'; (try simp only [List.forall_mem_cons, List.not_mem_nil, false_implies, implies_true, and_true] at ne'); (try k_sweep); walk_say "MSCALE")
  k_with "call ref" => (k_here; (with_reducible show wpAny _ _ (PySem.call (Value.ref 93) [Value.ref _, Value.ref _, Value.int _ _]) _ _ _); k_dflt (refine' use_li (mmul_says (by is_list) (by l_ints) (by k_extra "sa len") (by assumption) (by is_list) (by l_ints) (by k_extra "sa len") (by omega) (by omega)) (by k_asm) (by k_asm) (by k_asm) (by k_asm) (by k_asm) (by first | exact rfl | assumption) (by ktr_room) (by ktr_units) ?_; k_whole); intro l' vs' n' h' tk' F' N' i' ne' st'; (try simp only [List.forall_mem_cons, List.not_mem_nil, false_implies, implies_true, and_true] at ne'); (try k_sweep); walk_say "MMUL")
  k_with "call ref" => (k_here; (with_reducible show wpAny _ _ (PySem.call (Value.ref 48) [Value.int _ _, Value.int _ _]) _ _ _); k_dflt (refine' use_int (inv_says (by first | assumption | decide) (by first | assumption | omega)) (by k_asm) (by k_asm) (by k_asm) (by k_asm) (by k_asm) (by first | exact rfl | assumption) (by ktr_room) (by ktr_units) ?_; k_whole); intro t1' h' tk' F' N' st'; (try k_sweep); walk_say "INV")
  k_with "call ref" => (k_here; (with_reducible show wpAny _ _ (PySem.call (Value.ref 100) [Value.ref _, Value.ref _, Value.int _ _]) _ _ _); k_dflt (refine' use_p2 (mdivmod_says (by is_list) (by l_ints) (by k_extra "sa len") (by is_list) (by l_ints) (by k_extra "sa len") (by k_extra "sa len") (by assumption) (by assumption) (by assumption)) (by k_asm) (by k_asm) (by k_asm) (by k_asm) (by k_asm) (by first | exact rfl | assumption) (by ktr_room) (by ktr_units) ?_; k_whole); intro l' v1' l2' n' vs' c' h' tk' F' N' i' ne' ne2' st'; walk_say "MDIVMOD"; (try simp only [List.forall_mem_cons, List.not_mem_nil, false_implies, implies_true, and_true] at ne' ne2'); (try k_sweep))
  k_with "call ref" => (k_here; (with_reducible show wpAny _ _ (PySem.call (Value.ref 147) [Value.ref _, Value.ref _, Value.ref _, Value.int _ _]) _ _ _); k_dflt (refine' use_li (gmul_says (by is_list) (by l_ints) (by k_extra "sa len") (by first | assumption | exact small_nil) (by is_list) (by l_ints) (by k_extra "sa len") (by is_list) (by assumption) (by assumption)) (by k_asm) (by k_asm) (by k_asm) (by k_asm) (by k_asm) (by first | exact rfl | assumption) (by ktr_room) (by ktr_units) ?_; k_whole); intro l' vs' n' h' tk' F' N' i' ne' st'; (try simp only [List.forall_mem_cons, List.not_mem_nil, false_implies, implies_true, and_true] at ne'); (try k_sweep); walk_say "GMUL"; (rename IntsAre _ (gmulF _ _ _ _) => hI9); (have hC9 := gmulF_lenI hI9))
  k_with "call ref" => (k_here; (with_reducible show wpAny _ _ (PySem.call (Value.ref 86) [Value.ref _, Value.int _ _, Value.int _ _]) _ _ _); k_dflt (refine' use_li (mscale_says (by is_list) (by l_ints) (by k_extra "sa len") (by omega) (by omega) (by omega) (by omega)) (by k_asm) (by k_asm) (by k_asm) (by k_asm) (by k_asm) (by first | exact rfl | assumption) (by ktr_room) (by ktr_units) ?_; k_whole); intro l' vs' n' h' tk' F' N' i' ne' st'; (try simp only [List.forall_mem_cons, List.not_mem_nil, false_implies, implies_true, and_true] at ne'); (try k_sweep); walk_say "MSCALE2"; (rename IntsAre _ (mscaleF _ _ _) => hI9); (have hC9 := mscaleF_lenI hI9); (try simp only [List.length_cons, List.length_nil] at hC9))
  k_with "call ref" => (k_here; (with_reducible show wpAny _ _ (PySem.call (Value.ref 69) [Value.ref _, Value.ref _, Value.int _ _]) _ _ _); k_dflt (refine' use_li (madd_says (by is_list) (by l_ints) (by k_extra "sa len") (by is_list) (by l_ints) (by k_extra "sa len") (by omega) (by omega)) (by k_asm) (by k_asm) (by k_asm) (by k_asm) (by k_asm) (by first | exact rfl | assumption) (by ktr_room) (by ktr_units) ?_; k_whole); intro l' vs' n' h' tk' F' N' i' ne' st'; (try simp only [List.forall_mem_cons, List.not_mem_nil, false_implies, implies_true, and_true] at ne'); (try k_sweep); walk_say "MADD2"; (rename IntsAre _ (maddF _ _ _) => hI9); (have hC9 := maddF_lenI hI9))
  k_with "exec For Name Subscript cons nil" => (k_here; (rename Fr _ _ _ _ => lF'); (with_unfolding_all (refine' For_invVF lF' (by exact rfl) (by exact rfl) ?_; k_whole)))
  k_with "exec For Name Name cons nil" => (k_here; (rename Fr _ _ _ _ => lF'); (with_unfolding_all (refine' For_invVF lF' (by exact rfl) (by exact rfl) ?_; k_whole)))
  k_with "call ref" => (k_here; (with_reducible show wpAny _ _ (PySem.call (Value.ref 168) [Value.ref _, Value.ref _, Value.ref _, Value.int _ _]) _ _ _); k_dflt (refine' use_li (gat_says (by is_list) (by l_ints) (by k_extra "sa len") (by assumption) (by is_list) (by l_ints) (by k_extra "sa len") (by assumption) (by is_list) (by assumption) (by assumption)) (by k_asm) (by k_asm) (by k_asm) (by k_asm) (by k_asm) (by first | exact rfl | assumption) (by ktr_room) (by ktr_units) ?_; k_whole); intro l' vs' n' h' tk' F' N' i' ne' st'; walk_say "GAT"; (try k_sweep))
  k_with "call ref" => (k_here; (with_reducible show wpAny _ _ (PySem.call (Value.ref 161) [Value.ref _, Value.int _ _, Value.ref _, Value.int _ _]) _ _ _); k_dflt (refine' use_li (gpow_says (by is_list) (by l_ints) (by k_extra "sa len") (by assumption) (by omega) (by omega) (by is_list) (by assumption) (by assumption)) (by k_asm) (by k_asm) (by k_asm) (by k_asm) (by k_asm) (by first | exact rfl | assumption) (by ktr_room) (by ktr_units) ?_; k_whole); intro l' vs' n' h' tk' F' N' i' ne' st'; walk_say "GPOW"; (try k_sweep))
  k_with "call ref" => (k_here; (with_reducible show wpAny _ _ (PySem.call (Value.ref 128) [Value.int _ _, Value.int _ _]) _ _ _); k_dflt (refine' use_li (count_says (by omega) (by omega) (by omega) (by omega)) (by k_asm) (by k_asm) (by k_asm) (by k_asm) (by k_asm) (by first | exact rfl | assumption) (by ktr_room) (by ktr_units) ?_; k_whole); intro l' vs' n' h' tk' F' N' i' ne' st'; (try simp only [List.forall_mem_cons, List.not_mem_nil, false_implies, implies_true, and_true] at ne'); (try k_sweep); walk_say "COUNT")
  k_with "call ref" => (k_here; (with_reducible show wpAny _ _ (PySem.call (Value.ref 135) [Value.ref _, Value.int _ _]) _ _ _); k_dflt (refine' use_int (size_says (by is_list) (by assumption) (by assumption)) (by k_asm) (by k_asm) (by k_asm) (by k_asm) (by k_asm) (by first | exact rfl | assumption) (by ktr_room) (by ktr_units) ?_; k_whole); intro t1' h' tk' F' N' st'; (try k_sweep); walk_say "SIZE")
  k_with "CompSrc" => (refine hold_of ?_)
  k_with "sa mem" => (first | with_reducible assumption | exact List.Mem.head _ | (refine List.Mem.tail _ ?_; k_extra "sa mem") | (refine List.mem_append.mpr (Or.inr ?_); k_extra "sa mem") | (refine List.mem_append.mpr (Or.inl ?_); k_extra "sa mem"))
  k_with "call ref" => (k_here; (with_reducible show wpAny _ _ (PySem.call (Value.ref 188) [Value.ref _, Value.int _ _]) _ _ _); k_dflt (refine' take_use (by k_asm) (by k_asm) (by k_asm) (by k_asm) (by k_asm) (by first | exact rfl | assumption) (by ktr_room) (by ktr_units) (by (intro o9; k_upd)) (by k_extra "sa mem") (by k_ne) (by l_ints) (by k_extra "sa len") (by omega) (by first | with_reducible assumption | omega) (by omega) (by omega) ?_; k_whole); intro x9 t9 tx9 c9 h' tk' hx9 hy9 F' N'; walk_say "TAKE"; (try dsimp only at N'); (try k_sweep))
  k_with "call ref" => (k_here; (with_reducible show wpAny _ _ (PySem.call (Value.ref 140) [Value.ref _, Value.int _ _]) _ _ _); k_dflt (refine' rows_use (things_says (by is_list) (by assumption) (by exact FieldOk.isSize (by assumption))) (by k_asm) (by k_asm) (by k_asm) (by k_asm) (by k_asm) (by first | exact rfl | assumption) (by ktr_room) (by ktr_units) ?_; k_whole); intro l' ys' c' own' h' tk' F' N' hr' ne' off'; walk_say "THINGS"; (try simp only [List.forall_mem_cons, List.not_mem_nil, false_implies, implies_true, and_true] at ne'); (try simp only [List.map_cons, List.map_nil] at off'); (try simp only [List.cons_append, List.nil_append, List.append_assoc] at N'); (try k_sweep))
  k_with "subscriptTail" => (k_here; (with_reducible show wpAny _ _ (subscriptTail _ _ (Value.ref 181) (Value.int _ _)) _ _ _); refine hold_of ?_)
  k_with "call builtin:len" => (k_here; (with_reducible show wpAny _ _ (PySem.call (Value.builtin "len") [Value.ref _]) _ _ _); (rename RowsIn _ _ _ => hr9); k_dflt (refine' len_rows (by k_asm) (by k_extra "sa mem") hr9 (by first | exact thingsF_length (by omega) | assumption) (by omega) ?_; k_whole); walk_say "LENROWS")
  k_with "eval ListComp" => ((with_reducible show wpAny _ _ (eval (PySem.Expr.ListComp _ (PySem.Comprehension.mk (PySem.Expr.Tuple _ _ _) _ _ _ :: _) _ _) _) _ _ _); refine hold_of ?_)
  k_with "call type:enumerate" => ((with_reducible show wpAny _ _ (PySem.call (Value.type "enumerate") _) (Src2X _ _ _ _ _ _ _ _ _ _ _ _ _ _ _) _ _); refine hold_of ?_)
  k_with "call type:zip" => ((with_reducible show wpAny _ _ (PySem.call (Value.type "zip") _) (Src2N _ _ _ _ _ _ _ _ _ _ _ _ _) _ _); refine hold_of ?_)
  k_with "call builtin:max" => (refine hold_of ?_)
  trivial
/-! the plain facts of the law's walk -/
noncomputable def posF (f : List Int) : List Int := f.zipIdx.foldl (fun l p => if p.1 ≠ 0 then l ++ [(p.2 : Int) + 1] else l) []
theorem posF_go (f : List Int) (k : Nat) (l : List Int) (x : Int) : (x ∈ (f.zipIdx k).foldl (fun l p => if p.1 ≠ 0 then l ++ [(p.2 : Int) + 1] else l) l) ↔ (x ∈ l ∨ ∃ j : Nat, j < f.length ∧ f.getD j 0 ≠ 0 ∧ x = (k : Int) + j + 1) := by
  induction f generalizing k l with
  | nil => simp
  | cons a f ih =>
    rw [List.zipIdx_cons, List.foldl_cons, ih]
    constructor
    · rintro (h | ⟨j, hj, h0, rfl⟩)
      · by_cases ha : a = 0
        · simp only [ha, ne_eq, not_true_eq_false, if_false] at h; exact .inl h
        · simp only [ne_eq, ha, not_false_eq_true, if_true, List.mem_append, List.mem_singleton] at h
          rcases h with h | h
          · exact .inl h
          · exact .inr ⟨0, by simp, by simpa using ha, by subst h; simp⟩
      · exact .inr ⟨j + 1, by simp; omega, by simpa using h0, by simp; omega⟩
    · rintro (h | ⟨j, hj, h0, rfl⟩)
      · refine .inl ?_
        dsimp only
        split
        · exact List.mem_append.mpr (.inl h)
        · exact h
      · cases j with
        | zero => refine .inl ?_; rw [if_pos (by simpa using h0)]; simp
        | succ j => exact .inr ⟨j, by simpa using hj, by simpa using h0, by simp; omega⟩
theorem posF_mem {f : List Int} {x : Int} : x ∈ posF f ↔ ∃ j : Nat, j < f.length ∧ f.getD j 0 ≠ 0 ∧ x = (j : Int) + 1 := by
  unfold posF
  rw [posF_go f 0 [] x]
  simp
theorem posF_length (f : List Int) : (posF f).length ≤ f.length := by
  have : ∀ (f : List Int) (k : Nat) (l : List Int), ((f.zipIdx k).foldl (fun l p => if p.1 ≠ 0 then l ++ [(p.2 : Int) + 1] else l) l).length ≤ l.length + f.length := by
    intro f
    induction f with
    | nil => intro k l; simp
    | cons a f ih =>
      intro k l
      rw [List.zipIdx_cons, List.foldl_cons]
      refine Nat.le_trans (ih _ _) ?_
      dsimp only
      split <;> simp <;> omega
  have h := this f 0 []
  rw [List.length_nil, Nat.zero_add] at h
  exact h
theorem posF_max {f : List Int} {M : Int} (hm : M ∈ posF f ++ [0]) (hx : ∀ a, a ∈ posF f ++ [0] → a ≤ M) : 0 ≤ M ∧ M ≤ f.length ∧ trimF f = f.take M.toNat := by
  have h0 : 0 ≤ M := hx 0 (by simp)
  have hle : M ≤ f.length := by
    rcases List.mem_append.mp hm with h | h
    · obtain ⟨j, hj, _, rfl⟩ := posF_mem.mp h; omega
    · simp at h; omega
  refine ⟨h0, hle, trimF_take f M.toNat (by omega) (fun j hj hj' => ?_) ?_⟩
  · by_cases e : f.getD j 0 = 0
    · exact e
    · have := hx ((j : Int) + 1) (List.mem_append.mpr (.inl (posF_mem.mpr ⟨j, hj', e, rfl⟩)))
      omega
  · rcases List.mem_append.mp hm with h | h
    · obtain ⟨j, hj, e, rfl⟩ := posF_mem.mp h
      right
      rw [show ((j : Int) + 1).toNat - 1 = j by omega]; exact e
    · left; simp at h; omega
theorem digs_small {q : Int} (h : 2 ≤ q) (h' : q ≤ 7) : ∀ (k : Nat) (n : Int), Small (digs q k n) ∧ (digs q k n).length ≤ k
  | 0, _ => ⟨(fun _ h => nomatch h), Nat.le_refl _⟩
  | k + 1, n => by
    rw [digs]
    split
    · obtain ⟨a, b⟩ := digs_small h h' k (n.fdiv q)
      refine ⟨fun x hx => ?_, by simp only [List.length_cons]; omega⟩
      rcases List.mem_cons.mp hx with rfl | hx
      · exact fmod_small h h'
      · exact a x hx
    · exact ⟨(fun _ h => nomatch h), Nat.zero_le _⟩
theorem trimF_mem {ns : List Int} {x : Int} (h : x ∈ trimF ns) : x ∈ ns := by
  induction ns with
  | nil => exact h
  | cons a r ih =>
    unfold trimF at h
    revert h
    split
    · split
      · intro h; cases h
      · intro h; rw [List.mem_singleton.mp h]; exact .head _
    · rename_i e
      intro h
      rcases List.mem_cons.mp h with rfl | h
      · exact .head _
      · exact .tail _ (ih (by rw [e]; exact h))
theorem thing_small {n q : Int} {i : Nat} {r : List Int} (h : 2 ≤ q) (h' : q ≤ 7) (e : (thingsF n q)[i]? = some r) : Small r ∧ r.length ≤ 10 := by
  obtain ⟨_, rfl⟩ := things_item e
  obtain ⟨a, b⟩ := digs_small h h' 9 (i : Int)
  unfold countF
  exact ⟨fun x hx => a x (trimF_mem hx), by have := trimF_length (digs q 9 (i : Int)); omega⟩

theorem anew_94b_plain : True := by
  w_top off
  k_with_none
  k_with "sa enter" => (refine wpAny_call ?_; k_dflt (refine' enter_pure ?k1 ?k2 ?k3 ?k4 ?kA ?kF ?kK ?k6 ?k7 ?k8 ?k9 ?kB (by assumption) ?_ ?c2 ?c3 ?c4 ?c5; (case kA => exact rfl); (case kF => exact rfl); (case kK => assumption); (case k1 => k_asm); (case k2 => k_asm); (case k3 => k_asm); (case k4 => k_asm); (case k6 => k_is); (case k7 => k_is); (case k8 => ktr_room); (case k9 => exact BindsTo.of_eq rfl); (case c5 => decide); (case kB => exact locs rfl); (case c2 => exact rfl); (case c3 => exact rfl); (case c4 => exact rfl); k_whole); (with_reducible rename Below _ _ _ _ => kB'; clear kB'); (with_reducible rename Fr _ _ _ _ => kB'; clear kB'); (with_reducible rename Top _ _ _ _ _ _ => kB'; clear kB'); (rename Frag.In _ _ => kB'; clear kB'); intro L' h' F' N' B' X' T'; (try dsimp only); (try k_fold))
  k_with "sa leave list" => ((show LeaveP _ _ _ _); refine leaveP_ (by assumption) ⟨_, _, _, rfl, (News.fresh (by assumption) (List.Mem.head _)), (News.get (by assumption) (List.Mem.head _)), ?_⟩)
  k_with "execs cons Assign cons" => ((with_reducible refine wpAny_execs_cons ?_); try dsimp only)
  k_with "sa len" => (first | with_reducible assumption | exact List.length_take_le _ _ | omega | l_fact | ((simp only [rangeKs_length, List.length_map, List.length_append, List.length_cons, List.length_nil] at *); omega))
  k_with "sa enter cells" => (refine wpAny_call ?_; k_dflt (refine' enter_pureC ?k1 ?k2 ?k3 ?k4 ?kA ?kF ?kK ?k6 ?k7 ?k8 ?k9 ?kB ?kD (by assumption) ?_ ?c2 ?c3 ?c4; (case kA => exact rfl); (case kF => exact rfl); (case kK => assumption); (case k1 => k_asm); (case k2 => k_asm); (case k3 => k_asm); (case k4 => k_asm); (case k6 => k_is); (case k7 => k_is); (case k8 => ktr_room); (case k9 => exact BindsTo.of_eq rfl); (case kB => exact rfl); (case kD => decide +kernel); (case c2 => exact rfl); (case c3 => exact rfl); (case c4 => exact rfl); k_whole); (with_reducible rename Below _ _ _ _ => kB'; clear kB'); (with_reducible rename Fr _ _ _ _ => kB'; clear kB'); (with_reducible rename Top _ _ _ _ _ _ => kB'; clear kB'); (rename Frag.In _ _ => kB'; clear kB'); intro L' h' tk' cells' F' N' Y' B' X' T'; k_cells Y'; (try simp only [List.cons_append, List.nil_append, List.append_nil] at N'); (try dsimp only); (try k_fold))
  k_with "sa ne" => (first | with_reducible assumption | (refine Ne.symm ?_; with_reducible assumption) | (refine Nat.ne_of_gt ?_; assumption) | (refine Nat.ne_of_lt ?_; assumption) | ((rename _ ∧ _ => h9); first | (refine Ne.symm ?_; simp only [h9, ne_eq, not_false_eq_true]; done) | (simp only [h9, ne_eq, not_false_eq_true]; done) | (refine Nat.ne_of_gt ?_; simp only [h9]; done) | (refine Nat.ne_of_lt ?_; simp only [h9]; done) | (clear h9; k_extra "sa ne")))
  k_with "call ref" => (k_here; (with_reducible show wpAny _ _ (PySem.call (Value.ref 55) [Value.ref _]) _ _ _); k_dflt (refine' use_li (mtrim_says (by is_list) (by l_ints) (by k_extra "sa len")) (by k_asm) (by k_asm) (by k_asm) (by k_asm) (by k_asm) (by first | exact rfl | assumption) (by ktr_room) (by ktr_units) ?_; k_whole); intro l' vs' n' h' tk' F' N' i' ne' st'; (try simp only [List.forall_mem_cons, List.not_mem_nil, false_implies, implies_true, and_true] at ne'); (try k_sweep); walk_say "MTRIM"; (rename IntsAre _ (trimF _) => hI9); (have hC9 := trimF_lenI hI9))
  k_with "call ref" => (k_here; (with_reducible show wpAny _ _ (PySem.call (Value.ref 69) [Value.ref _, Value.ref _, Value.int _ _]) _ _ _); k_dflt (refine' use_li (madd_says (by is_list) (by l_ints) (by k_extra "sa len") (by is_list) (by l_ints) (by k_extra "sa len") (by omega) (by omega)) (by k_asm) (by k_asm) (by k_asm) (by k_asm) (by k_asm) (by first | exact rfl | assumption) (by ktr_room) (by ktr_units) ?_; k_whole); intro l' vs' n' h' tk' F' N' i' ne' st'; (try simp only [List.forall_mem_cons, List.not_mem_nil, false_implies, implies_true, and_true] at ne'); (try k_sweep); walk_say "MADD")
  k_with "call ref" => (k_here; (with_reducible show wpAny _ _ (PySem.call (Value.ref 86) [Value.ref _, Value.int _ _, Value.int _ _]) _ _ _); k_dflt (refine' use_li (mscale_says (by is_list) (by l_ints) (by k_extra "sa len") (by omega) (by omega) (by omega) (by omega)) (by k_asm) (by k_asm) (by k_asm) (by k_asm) (by k_asm) (by first | exact rfl | assumption) (by ktr_room) (by ktr_units) ?_; k_whole); intro l' vs' n' h' tk' F' N' i' ne' st'; (try simp only [List.forall_mem_cons, List.not_mem_nil, false_implies, implies_true, and_true] at ne'); (try k_sweep); walk_say "MSCALE")
  k_with "call ref" => (k_here; (with_reducible show wpAny _ _ (PySem.call (Value.ref 93) [Value.ref _, Value.ref _, Value.int _ _]) _ _ _); k_dflt (refine' use_li (mmul_says (by is_list) (by l_ints) (by k_extra "sa len") (by assumption) (by is_list) (by l_ints) (by k_extra "sa len") (by omega) (by omega)) (by k_asm) (by k_asm) (by k_asm) (by k_asm) (by k_asm) (by first | exact rfl | assumption) (by ktr_room) (by ktr_units) ?_; k_whole); intro l' vs' n' h' tk' F' N' i' ne' st'; (try simp only [List.forall_mem_cons, List.not_mem_nil, false_implies, implies_true, and_true] at ne'); (try k_sweep); walk_say "MMUL")
  k_with "call ref" => (k_here; (with_reducible show wpAny _ _ (PySem.call (Value.ref 48) [Value.int _ _, Value.int _ _]) _ _ _); k_dflt (refine' use_int (inv_says (by first | assumption | decide) (by first | assumption | omega)) (by k_asm) (by k_asm) (by k_asm) (by k_asm) (by k_asm) (by first | exact rfl | assumption) (by ktr_room) (by ktr_units) ?_; k_whole); intro t1' h' tk' F' N' st'; (try k_sweep); walk_say "INV")
  k_with "call ref" => (k_here; (with_reducible show wpAny _ _ (PySem.call (Value.ref 100) [Value.ref _, Value.ref _, Value.int _ _]) _ _ _); k_dflt (refine' use_p2 (mdivmod_says (by is_list) (by l_ints) (by k_extra "sa len") (by is_list) (by l_ints) (by k_extra "sa len") (by k_extra "sa len") (by assumption) (by assumption) (by assumption)) (by k_asm) (by k_asm) (by k_asm) (by k_asm) (by k_asm) (by first | exact rfl | assumption) (by ktr_room) (by ktr_units) ?_; k_whole); intro l' v1' l2' n' vs' c' h' tk' F' N' i' ne' ne2' st'; walk_say "MDIVMOD"; (try simp only [List.forall_mem_cons, List.not_mem_nil, false_implies, implies_true, and_true] at ne' ne2'); (try k_sweep))
  k_with "call ref" => (k_here; (with_reducible show wpAny _ _ (PySem.call (Value.ref 147) [Value.ref _, Value.ref _, Value.ref _, Value.int _ _]) _ _ _); k_dflt (refine' use_li (gmul_says (by is_list) (by l_ints) (by k_extra "sa len") (by first | assumption | exact small_nil) (by is_list) (by l_ints) (by k_extra "sa len") (by is_list) (by assumption) (by assumption)) (by k_asm) (by k_asm) (by k_asm) (by k_asm) (by k_asm) (by first | exact rfl | assumption) (by ktr_room) (by ktr_units) ?_; k_whole); intro l' vs' n' h' tk' F' N' i' ne' st'; (try simp only [List.forall_mem_cons, List.not_mem_nil, false_implies, implies_true, and_true] at ne'); (try k_sweep); walk_say "GMUL"; (rename IntsAre _ (gmulF _ _ _ _) => hI9); (have hC9 := gmulF_lenI hI9))
  k_with "call ref" => (k_here; (with_reducible show wpAny _ _ (PySem.call (Value.ref 86) [Value.ref _, Value.int _ _, Value.int _ _]) _ _ _); k_dflt (refine' use_li (mscale_says (by is_list) (by l_ints) (by k_extra "sa len") (by omega) (by omega) (by omega) (by omega)) (by k_asm) (by k_asm) (by k_asm) (by k_asm) (by k_asm) (by first | exact rfl | assumption) (by ktr_room) (by ktr_units) ?_; k_whole); intro l' vs' n' h' tk' F' N' i' ne' st'; (try simp only [List.forall_mem_cons, List.not_mem_nil, false_implies, implies_true, and_true] at ne'); (try k_sweep); walk_say "MSCALE2"; (rename IntsAre _ (mscaleF _ _ _) => hI9); (have hC9 := mscaleF_lenI hI9); (try simp only [List.length_cons, List.length_nil] at hC9))
  k_with "call ref" => (k_here; (with_reducible show wpAny _ _ (PySem.call (Value.ref 69) [Value.ref _, Value.ref _, Value.int _ _]) _ _ _); k_dflt (refine' use_li (madd_says (by is_list) (by l_ints) (by k_extra "sa len") (by is_list) (by l_ints) (by k_extra "sa len") (by omega) (by omega)) (by k_asm) (by k_asm) (by k_asm) (by k_asm) (by k_asm) (by first | exact rfl | assumption) (by ktr_room) (by ktr_units) ?_; k_whole); intro l' vs' n' h' tk' F' N' i' ne' st'; (try simp only [List.forall_mem_cons, List.not_mem_nil, false_implies, implies_true, and_true] at ne'); (try k_sweep); walk_say "MADD2"; (rename IntsAre _ (maddF _ _ _) => hI9); (have hC9 := maddF_lenI hI9))
  k_with "exec For Name Subscript cons nil" => (k_here; (rename Fr _ _ _ _ => lF'); (with_unfolding_all (refine' For_invVF lF' (by exact rfl) (by exact rfl) ?_; k_whole)))
  k_with "exec For Name Name cons nil" => (k_here; (rename Fr _ _ _ _ => lF'); (with_unfolding_all (refine' For_invVF lF' (by exact rfl) (by exact rfl) ?_; k_whole)))
  k_with "call ref" => (k_here; (with_reducible show wpAny _ _ (PySem.call (Value.ref 168) [Value.ref _, Value.ref _, Value.ref _, Value.int _ _]) _ _ _); k_dflt (refine' use_li (gat_says (by is_list) (by l_ints) (by k_extra "sa len") (by assumption) (by is_list) (by l_ints) (by k_extra "sa len") (by assumption) (by is_list) (by assumption) (by assumption)) (by k_asm) (by k_asm) (by k_asm) (by k_asm) (by k_asm) (by first | exact rfl | assumption) (by ktr_room) (by ktr_units) ?_; k_whole); intro l' vs' n' h' tk' F' N' i' ne' st'; walk_say "GAT"; (try k_sweep))
  k_with "call ref" => (k_here; (with_reducible show wpAny _ _ (PySem.call (Value.ref 161) [Value.ref _, Value.int _ _, Value.ref _, Value.int _ _]) _ _ _); k_dflt (refine' use_li (gpow_says (by is_list) (by l_ints) (by k_extra "sa len") (by assumption) (by omega) (by omega) (by is_list) (by assumption) (by assumption)) (by k_asm) (by k_asm) (by k_asm) (by k_asm) (by k_asm) (by first | exact rfl | assumption) (by ktr_room) (by ktr_units) ?_; k_whole); intro l' vs' n' h' tk' F' N' i' ne' st'; walk_say "GPOW"; (try k_sweep))
  k_with "call ref" => (k_here; (with_reducible show wpAny _ _ (PySem.call (Value.ref 128) [Value.int _ _, Value.int _ _]) _ _ _); k_dflt (refine' use_li (count_says (by omega) (by omega) (by omega) (by omega)) (by k_asm) (by k_asm) (by k_asm) (by k_asm) (by k_asm) (by first | exact rfl | assumption) (by ktr_room) (by ktr_units) ?_; k_whole); intro l' vs' n' h' tk' F' N' i' ne' st'; (try simp only [List.forall_mem_cons, List.not_mem_nil, false_implies, implies_true, and_true] at ne'); (try k_sweep); walk_say "COUNT")
  k_with "call ref" => (k_here; (with_reducible show wpAny _ _ (PySem.call (Value.ref 135) [Value.ref _, Value.int _ _]) _ _ _); k_dflt (refine' use_int (size_says (by is_list) (by assumption) (by assumption)) (by k_asm) (by k_asm) (by k_asm) (by k_asm) (by k_asm) (by first | exact rfl | assumption) (by ktr_room) (by ktr_units) ?_; k_whole); intro t1' h' tk' F' N' st'; (try k_sweep); walk_say "SIZE")
  k_with "CompSrc" => (refine hold_of ?_)
  k_with "sa mem" => (first | with_reducible assumption | exact List.Mem.head _ | (refine List.Mem.tail _ ?_; k_extra "sa mem") | (refine List.mem_append.mpr (Or.inr ?_); k_extra "sa mem") | (refine List.mem_append.mpr (Or.inl ?_); k_extra "sa mem"))
  k_with "call ref" => (k_here; (with_reducible show wpAny _ _ (PySem.call (Value.ref 188) [Value.ref _, Value.int _ _]) _ _ _); k_dflt (refine' take_use (by k_asm) (by k_asm) (by k_asm) (by k_asm) (by k_asm) (by first | exact rfl | assumption) (by ktr_room) (by ktr_units) (by (intro o9; k_upd)) (by k_extra "sa mem") (by k_ne) (by l_ints) (by k_extra "sa len") (by omega) (by first | with_reducible assumption | omega) (by omega) (by omega) ?_; k_whole); intro x9 t9 tx9 c9 h' tk' hx9 hy9 F' N'; walk_say "TAKE"; (try dsimp only at N'); (try k_sweep))
  k_with "call ref" => (k_here; (with_reducible show wpAny _ _ (PySem.call (Value.ref 140) [Value.ref _, Value.int _ _]) _ _ _); k_dflt (refine' rows_use (things_says (by is_list) (by assumption) (by exact FieldOk.isSize (by assumption))) (by k_asm) (by k_asm) (by k_asm) (by k_asm) (by k_asm) (by first | exact rfl | assumption) (by ktr_room) (by ktr_units) ?_; k_whole); intro l' ys' c' own' h' tk' F' N' hr' ne' off'; walk_say "THINGS"; (try simp only [List.forall_mem_cons, List.not_mem_nil, false_implies, implies_true, and_true] at ne'); (try simp only [List.map_cons, List.map_nil] at off'); (try simp only [List.cons_append, List.nil_append, List.append_assoc] at N'); (try k_sweep))
  k_with "subscriptTail" => (k_here; (with_reducible show wpAny _ _ (subscriptTail _ _ (Value.ref 181) (Value.int _ _)) _ _ _); refine hold_of ?_)
  k_with "call builtin:len" => (k_here; (with_reducible show wpAny _ _ (PySem.call (Value.builtin "len") [Value.ref _]) _ _ _); (rename RowsIn _ _ _ => hr9); k_dflt (refine' len_rows (by k_asm) (by k_extra "sa mem") hr9 (by first | exact thingsF_length (by omega) | assumption) (by omega) ?_; k_whole); walk_say "LENROWS")
  k_with "eval ListComp" => ((with_reducible show wpAny _ _ (eval (PySem.Expr.ListComp _ (PySem.Comprehension.mk (PySem.Expr.Tuple _ _ _) _ _ _ :: _) _ _) _) _ _ _); refine hold_of ?_)
  k_with "call type:enumerate" => ((with_reducible show wpAny _ _ (PySem.call (Value.type "enumerate") _) (Src2X _ _ _ _ _ _ _ _ _ _ _ _ _ _ _) _ _); refine hold_of ?_)
  k_with "call type:zip" => ((with_reducible show wpAny _ _ (PySem.call (Value.type "zip") _) (Src2N _ _ _ _ _ _ _ _ _ _ _ _ _) _ _); refine hold_of ?_)
  k_with "call builtin:max" => (refine hold_of ?_)
  trivial
/-! the plain law: the things of a field, numbered -/
noncomputable def look {n : Nat} (h : 0 < n) (t : List (List Nat)) (x y : Fin n) : Fin n := ⟨(t.getD x.val []).getD y.val 0 % n, Nat.mod_lt _ h⟩
noncomputable def lookP {n : Nat} (h : 0 < n) (t : List (List Nat)) (x : Fin n) (k : Nat) : Fin n := ⟨(t.getD x.val []).getD k 0 % n, Nat.mod_lt _ h⟩
/-- a field of n things, its tables -/
structure FldD (n : Nat) where
  T : Fin n → List Int
  A : Fin n → Fin n → Fin n
  M : Fin n → Fin n → Fin n
  C : Nat → Fin n
  P : Fin n → Nat → Fin n
structure Fld (n q : Nat) (ms : List Int) (D : FldD n) : Prop where
  h_things : thingsF (n : Int) (q : Int) = (List.finRange n).map D.T
  h_add : ∀ x y, maddF (D.T x) (D.T y) q = D.T (D.A x y)
  h_mul : ∀ x y, gmulF (D.T x) (D.T y) ms q = D.T (D.M x y)
  h_sc : ∀ c : Fin q, mscaleF [1] (c.val : Int) q = D.T (D.C c)
  h_nil : D.T (D.C 0) = []
  h_zero : ∀ x, D.T x = [] → x = D.C 0
  h_pw : ∀ (x : Fin n) (k : Fin 9), powF (D.T x) (k.val : Int) ms q = D.T (D.P x k)
  h_p1 : ∀ (x : Fin n) (k : Fin 15), D.M x (D.P x k) = D.P x (k + 1)
  h_comm : ∀ x y, D.A x y = D.A y x
  h_assoc : ∀ x y z, D.A (D.A x y) z = D.A x (D.A y z)
  h_massoc : ∀ x y z, D.M (D.M x y) z = D.M x (D.M y z)
  h_dist : ∀ x y z, D.M (D.A x y) z = D.A (D.M x z) (D.M y z)
  h_distl : ∀ x y z, D.M x (D.A y z) = D.A (D.M x y) (D.M x z)
  h_za : ∀ x, D.A x (D.C 0) = x
  h_zm : ∀ x, D.M (D.C 0) x = D.C 0
  h_mz : ∀ x, D.M x (D.C 0) = D.C 0
  h_tot : ∀ k : Fin 16, (List.finRange n).foldl (fun acc a => D.A acc (D.P a k)) (D.C 0) = if 0 < k.val ∧ k.val % (n - 1) = 0 then D.C (q - 1) else D.C 0
  h_step : ∀ x c : Fin q, D.A (D.C x) (D.M (D.C c) (D.C (q - 1))) = D.C ((x + q - c) % q)
  h_ty : ∀ x : Fin q, D.T (D.C x) = if 0 < x.val then [(x.val : Int)] else []
noncomputable def fld0 : FldD 4 where
  T x := countF (x.val : Int) 2
  A := look (by decide) [[0, 1, 2, 3], [1, 0, 3, 2], [2, 3, 0, 1], [3, 2, 1, 0]]
  M := look (by decide) [[0, 0, 0, 0], [0, 1, 2, 3], [0, 2, 3, 1], [0, 3, 1, 2]]
  C c := if h : c < 4 then ⟨c, h⟩ else ⟨0, by decide⟩
  P := lookP (by decide) [[1, 0, 0, 0, 0, 0, 0, 0, 0, 0, 0, 0, 0, 0, 0, 0], [1, 1, 1, 1, 1, 1, 1, 1, 1, 1, 1, 1, 1, 1, 1, 1], [1, 2, 3, 1, 2, 3, 1, 2, 3, 1, 2, 3, 1, 2, 3, 1], [1, 3, 2, 1, 3, 2, 1, 3, 2, 1, 3, 2, 1, 3, 2, 1]]
theorem fld0_ok : Fld 4 2 [1, 1, 1] fld0 where
  h_things := by decide +kernel
  h_add := by decide +kernel
  h_mul := by decide +kernel
  h_sc := by decide +kernel
  h_nil := by decide +kernel
  h_zero := by decide +kernel
  h_pw := by decide +kernel
  h_p1 := by decide +kernel
  h_comm := by decide +kernel
  h_assoc := by decide +kernel
  h_massoc := by decide +kernel
  h_dist := by decide +kernel
  h_distl := by decide +kernel
  h_za := by decide +kernel
  h_zm := by decide +kernel
  h_mz := by decide +kernel
  h_tot := by decide +kernel
  h_step := by decide +kernel
  h_ty := by decide +kernel
noncomputable def fld1 : FldD 7 where
  T x := countF (x.val : Int) 7
  A := look (by decide) [[0, 1, 2, 3, 4, 5, 6], [1, 2, 3, 4, 5, 6, 0], [2, 3, 4, 5, 6, 0, 1], [3, 4, 5, 6, 0, 1, 2], [4, 5, 6, 0, 1, 2, 3], [5, 6, 0, 1, 2, 3, 4], [6, 0, 1, 2, 3, 4, 5]]
  M := look (by decide) [[0, 0, 0, 0, 0, 0, 0], [0, 1, 2, 3, 4, 5, 6], [0, 2, 4, 6, 1, 3, 5], [0, 3, 6, 2, 5, 1, 4], [0, 4, 1, 5, 2, 6, 3], [0, 5, 3, 1, 6, 4, 2], [0, 6, 5, 4, 3, 2, 1]]
  C c := if h : c < 7 then ⟨c, h⟩ else ⟨0, by decide⟩
  P := lookP (by decide) [[1, 0, 0, 0, 0, 0, 0, 0, 0, 0, 0, 0, 0, 0, 0, 0], [1, 1, 1, 1, 1, 1, 1, 1, 1, 1, 1, 1, 1, 1, 1, 1], [1, 2, 4, 1, 2, 4, 1, 2, 4, 1, 2, 4, 1, 2, 4, 1], [1, 3, 2, 6, 4, 5, 1, 3, 2, 6, 4, 5, 1, 3, 2, 6], [1, 4, 2, 1, 4, 2, 1, 4, 2, 1, 4, 2, 1, 4, 2, 1], [1, 5, 4, 6, 2, 3, 1, 5, 4, 6, 2, 3, 1, 5, 4, 6], [1, 6, 1, 6, 1, 6, 1, 6, 1, 6, 1, 6, 1, 6, 1, 6]]
theorem fld1_ok : Fld 7 7 [0, 1] fld1 where
  h_things := by decide +kernel
  h_add := by decide +kernel
  h_mul := by decide +kernel
  h_sc := by decide +kernel
  h_nil := by decide +kernel
  h_zero := by decide +kernel
  h_pw := by decide +kernel
  h_p1 := by decide +kernel
  h_comm := by decide +kernel
  h_assoc := by decide +kernel
  h_massoc := by decide +kernel
  h_dist := by decide +kernel
  h_distl := by decide +kernel
  h_za := by decide +kernel
  h_zm := by decide +kernel
  h_mz := by decide +kernel
  h_tot := by decide +kernel
  h_step := by decide +kernel
  h_ty := by decide +kernel
noncomputable def fld2 : FldD 5 where
  T x := countF (x.val : Int) 5
  A := look (by decide) [[0, 1, 2, 3, 4], [1, 2, 3, 4, 0], [2, 3, 4, 0, 1], [3, 4, 0, 1, 2], [4, 0, 1, 2, 3]]
  M := look (by decide) [[0, 0, 0, 0, 0], [0, 1, 2, 3, 4], [0, 2, 4, 1, 3], [0, 3, 1, 4, 2], [0, 4, 3, 2, 1]]
  C c := if h : c < 5 then ⟨c, h⟩ else ⟨0, by decide⟩
  P := lookP (by decide) [[1, 0, 0, 0, 0, 0, 0, 0, 0, 0, 0, 0, 0, 0, 0, 0], [1, 1, 1, 1, 1, 1, 1, 1, 1, 1, 1, 1, 1, 1, 1, 1], [1, 2, 4, 3, 1, 2, 4, 3, 1, 2, 4, 3, 1, 2, 4, 3], [1, 3, 4, 2, 1, 3, 4, 2, 1, 3, 4, 2, 1, 3, 4, 2], [1, 4, 1, 4, 1, 4, 1, 4, 1, 4, 1, 4, 1, 4, 1, 4]]
theorem fld2_ok : Fld 5 5 [0, 1] fld2 where
  h_things := by decide +kernel
  h_add := by decide +kernel
  h_mul := by decide +kernel
  h_sc := by decide +kernel
  h_nil := by decide +kernel
  h_zero := by decide +kernel
  h_pw := by decide +kernel
  h_p1 := by decide +kernel
  h_comm := by decide +kernel
  h_assoc := by decide +kernel
  h_massoc := by decide +kernel
  h_dist := by decide +kernel
  h_distl := by decide +kernel
  h_za := by decide +kernel
  h_zm := by decide +kernel
  h_mz := by decide +kernel
  h_tot := by decide +kernel
  h_step := by decide +kernel
  h_ty := by decide +kernel
noncomputable def fld3 : FldD 9 where
  T x := countF (x.val : Int) 3
  A := look (by decide) [[0, 1, 2, 3, 4, 5, 6, 7, 8], [1, 2, 0, 4, 5, 3, 7, 8, 6], [2, 0, 1, 5, 3, 4, 8, 6, 7], [3, 4, 5, 6, 7, 8, 0, 1, 2], [4, 5, 3, 7, 8, 6, 1, 2, 0], [5, 3, 4, 8, 6, 7, 2, 0, 1], [6, 7, 8, 0, 1, 2, 3, 4, 5], [7, 8, 6, 1, 2, 0, 4, 5, 3], [8, 6, 7, 2, 0, 1, 5, 3, 4]]
  M := look (by decide) [[0, 0, 0, 0, 0, 0, 0, 0, 0], [0, 1, 2, 3, 4, 5, 6, 7, 8], [0, 2, 1, 6, 8, 7, 3, 5, 4], [0, 3, 6, 2, 5, 8, 1, 4, 7], [0, 4, 8, 5, 6, 1, 7, 2, 3], [0, 5, 7, 8, 1, 3, 4, 6, 2], [0, 6, 3, 1, 7, 4, 2, 8, 5], [0, 7, 5, 4, 2, 6, 8, 3, 1], [0, 8, 4, 7, 3, 2, 5, 1, 6]]
  C c := if h : c < 9 then ⟨c, h⟩ else ⟨0, by decide⟩
  P := lookP (by decide) [[1, 0, 0, 0, 0, 0, 0, 0, 0, 0, 0, 0, 0, 0, 0, 0], [1, 1, 1, 1, 1, 1, 1, 1, 1, 1, 1, 1, 1, 1, 1, 1], [1, 2, 1, 2, 1, 2, 1, 2, 1, 2, 1, 2, 1, 2, 1, 2], [1, 3, 2, 6, 1, 3, 2, 6, 1, 3, 2, 6, 1, 3, 2, 6], [1, 4, 6, 7, 2, 8, 3, 5, 1, 4, 6, 7, 2, 8, 3, 5], [1, 5, 3, 8, 2, 7, 6, 4, 1, 5, 3, 8, 2, 7, 6, 4], [1, 6, 2, 3, 1, 6, 2, 3, 1, 6, 2, 3, 1, 6, 2, 3], [1, 7, 3, 4, 2, 5, 6, 8, 1, 7, 3, 4, 2, 5, 6, 8], [1, 8, 6, 5, 2, 4, 3, 7, 1, 8, 6, 5, 2, 4, 3, 7]]
theorem fld3_ok : Fld 9 3 [1, 0, 1] fld3 where
  h_things := by decide +kernel
  h_add := by decide +kernel
  h_mul := by decide +kernel
  h_sc := by decide +kernel
  h_nil := by decide +kernel
  h_zero := by decide +kernel
  h_pw := by decide +kernel
  h_p1 := by decide +kernel
  h_comm := by decide +kernel
  h_assoc := by decide +kernel
  h_massoc := by decide +kernel
  h_dist := by decide +kernel
  h_distl := by decide +kernel
  h_za := by decide +kernel
  h_zm := by decide +kernel
  h_mz := by decide +kernel
  h_tot := by decide +kernel
  h_step := by decide +kernel
  h_ty := by decide +kernel
noncomputable def fld4 : FldD 8 where
  T x := countF (x.val : Int) 2
  A := look (by decide) [[0, 1, 2, 3, 4, 5, 6, 7], [1, 0, 3, 2, 5, 4, 7, 6], [2, 3, 0, 1, 6, 7, 4, 5], [3, 2, 1, 0, 7, 6, 5, 4], [4, 5, 6, 7, 0, 1, 2, 3], [5, 4, 7, 6, 1, 0, 3, 2], [6, 7, 4, 5, 2, 3, 0, 1], [7, 6, 5, 4, 3, 2, 1, 0]]
  M := look (by decide) [[0, 0, 0, 0, 0, 0, 0, 0], [0, 1, 2, 3, 4, 5, 6, 7], [0, 2, 4, 6, 3, 1, 7, 5], [0, 3, 6, 5, 7, 4, 1, 2], [0, 4, 3, 7, 6, 2, 5, 1], [0, 5, 1, 4, 2, 7, 3, 6], [0, 6, 7, 1, 5, 3, 2, 4], [0, 7, 5, 2, 1, 6, 4, 3]]
  C c := if h : c < 8 then ⟨c, h⟩ else ⟨0, by decide⟩
  P := lookP (by decide) [[1, 0, 0, 0, 0, 0, 0, 0, 0, 0, 0, 0, 0, 0, 0, 0], [1, 1, 1, 1, 1, 1, 1, 1, 1, 1, 1, 1, 1, 1, 1, 1], [1, 2, 4, 3, 6, 7, 5, 1, 2, 4, 3, 6, 7, 5, 1, 2], [1, 3, 5, 4, 7, 2, 6, 1, 3, 5, 4, 7, 2, 6, 1, 3], [1, 4, 6, 5, 2, 3, 7, 1, 4, 6, 5, 2, 3, 7, 1, 4], [1, 5, 7, 6, 3, 4, 2, 1, 5, 7, 6, 3, 4, 2, 1, 5], [1, 6, 2, 7, 4, 5, 3, 1, 6, 2, 7, 4, 5, 3, 1, 6], [1, 7, 3, 2, 5, 6, 4, 1, 7, 3, 2, 5, 6, 4, 1, 7]]
theorem fld4_ok : Fld 8 2 [1, 1, 0, 1] fld4 where
  h_things := by decide +kernel
  h_add := by decide +kernel
  h_mul := by decide +kernel
  h_sc := by decide +kernel
  h_nil := by decide +kernel
  h_zero := by decide +kernel
  h_pw := by decide +kernel
  h_p1 := by decide +kernel
  h_comm := by decide +kernel
  h_assoc := by decide +kernel
  h_massoc := by decide +kernel
  h_dist := by decide +kernel
  h_distl := by decide +kernel
  h_za := by decide +kernel
  h_zm := by decide +kernel
  h_mz := by decide +kernel
  h_tot := by decide +kernel
  h_step := by decide +kernel
  h_ty := by decide +kernel
noncomputable def fld5 : FldD 3 where
  T x := countF (x.val : Int) 3
  A := look (by decide) [[0, 1, 2], [1, 2, 0], [2, 0, 1]]
  M := look (by decide) [[0, 0, 0], [0, 1, 2], [0, 2, 1]]
  C c := if h : c < 3 then ⟨c, h⟩ else ⟨0, by decide⟩
  P := lookP (by decide) [[1, 0, 0, 0, 0, 0, 0, 0, 0, 0, 0, 0, 0, 0, 0, 0], [1, 1, 1, 1, 1, 1, 1, 1, 1, 1, 1, 1, 1, 1, 1, 1], [1, 2, 1, 2, 1, 2, 1, 2, 1, 2, 1, 2, 1, 2, 1, 2]]
theorem fld5_ok : Fld 3 3 [1, 1] fld5 where
  h_things := by decide +kernel
  h_add := by decide +kernel
  h_mul := by decide +kernel
  h_sc := by decide +kernel
  h_nil := by decide +kernel
  h_zero := by decide +kernel
  h_pw := by decide +kernel
  h_p1 := by decide +kernel
  h_comm := by decide +kernel
  h_assoc := by decide +kernel
  h_massoc := by decide +kernel
  h_dist := by decide +kernel
  h_distl := by decide +kernel
  h_za := by decide +kernel
  h_zm := by decide +kernel
  h_mz := by decide +kernel
  h_tot := by decide +kernel
  h_step := by decide +kernel
  h_ty := by decide +kernel

/-- a sum over things -/
noncomputable def FldD.sum {n : Nat} (D : FldD n) (L : List (Fin n)) (u : Fin n → Fin n) (z : Fin n) : Fin n := L.foldl (fun acc a => D.A acc (u a)) z
/-- f at a thing -/
noncomputable def FldD.G {n : Nat} (D : FldD n) (g : List Nat) (a : Fin n) : Fin n := g.foldr (fun c acc => D.A (D.M acc a) (D.C c)) (D.C 0)
noncomputable def FldD.S {n : Nat} (D : FldD n) (g : List Nat) (k : Nat) : Fin n := D.sum (List.finRange n) (fun a => D.M (D.G g a) (D.P a k)) (D.C 0)
namespace Fld
variable {n q : Nat} {ms : List Int} {D : FldD n} (t : Fld n q ms D)
include t
theorem swap (a b c d : Fin n) : D.A (D.A a b) (D.A c d) = D.A (D.A a c) (D.A b d) := by
  rw [t.h_assoc, t.h_assoc, ← t.h_assoc b c d, t.h_comm b c, t.h_assoc c b d]
theorem sum_add (u v : Fin n → Fin n) : ∀ (L : List (Fin n)) (z z' : Fin n), D.sum L (fun a => D.A (u a) (v a)) (D.A z z') = D.A (D.sum L u z) (D.sum L v z')
  | [], _, _ => rfl
  | a :: L, z, z' => by
    show D.sum L _ (D.A (D.A z z') (D.A (u a) (v a))) = _
    rw [t.swap, sum_add u v L]
    rfl
theorem sum_mul (c : Fin n) (u : Fin n → Fin n) : ∀ (L : List (Fin n)) (z : Fin n), D.sum L (fun a => D.M c (u a)) (D.M c z) = D.M c (D.sum L u z)
  | [], _ => rfl
  | a :: L, z => by
    show D.sum L _ (D.A (D.M c z) (D.M c (u a))) = _
    rw [← t.h_distl, sum_mul c u L]
    rfl
theorem sum_zero : ∀ (L : List (Fin n)), D.sum L (fun _ => D.C 0) (D.C 0) = D.C 0
  | [] => rfl
  | a :: L => by
    show D.sum L _ (D.A (D.C 0) (D.C 0)) = _
    rw [t.h_za, sum_zero L]
end Fld
/-- the numbers of f whose power goes with k, added up: from 0, the other sign -/
noncomputable def valN (n q : Nat) : List Nat → Nat → Nat
  | [], _ => 0
  | c :: g, k => if 0 < k ∧ k % (n - 1) = 0 then (valN n q g (k + 1) + q - c) % q else valN n q g (k + 1)
theorem valN_lt {n q : Nat} (h : 0 < q) : ∀ (g : List Nat) (k : Nat), valN n q g k < q
  | [], _ => h
  | c :: g, k => by
    unfold valN
    split
    · exact Nat.mod_lt _ h
    · exact valN_lt h g (k + 1)
namespace Fld
variable {n q : Nat} {ms : List Int} {D : FldD n} (t : Fld n q ms D)
include t
theorem S_val (hq : 0 < q) : ∀ (g : List Nat) (k : Nat), (∀ c ∈ g, c < q) → k + g.length ≤ 15 → D.S g k = D.C (valN n q g k)
  | [], k, _, _ => by
    show D.sum _ (fun a => D.M (D.C 0) (D.P a k)) _ = D.C 0
    simp only [t.h_zm]
    exact t.sum_zero _
  | c :: g, k, hc, hl => by
    simp only [List.length_cons] at hl
    have ih := S_val hq g (k + 1) (fun x hx => hc x (.tail _ hx)) (by omega)
    have hcq := hc c (.head _)
    have e : ∀ a, D.M (D.G (c :: g) a) (D.P a k) = D.A (D.M (D.G g a) (D.P a (k + 1))) (D.M (D.C c) (D.P a k)) := fun a => by
      show D.M (D.A (D.M (D.G g a) a) (D.C c)) (D.P a k) = _
      rw [t.h_dist, t.h_massoc]
      congr 2
      exact t.h_p1 a ⟨k, by omega⟩
    have e0 : D.C 0 = D.A (D.C 0) (D.M (D.C c) (D.C 0)) := by rw [t.h_mz, t.h_za]
    have e1 : D.S (c :: g) k = D.A (D.S g (k + 1)) (D.M (D.C c) (D.sum (List.finRange n) (fun a => D.P a k) (D.C 0))) := by
      unfold FldD.S
      simp only [e]
      rw [← t.sum_mul, ← t.sum_add]
      congr 1
    have e2 := t.h_tot ⟨k, by omega⟩
    have e3 : D.sum (List.finRange n) (fun a => D.P a k) (D.C 0) = if 0 < k ∧ k % (n - 1) = 0 then D.C (q - 1) else D.C 0 := e2
    rw [e1, ih, e3]
    rw [valN]
    split
    · exact t.h_step ⟨_, valN_lt hq g (k + 1)⟩ ⟨c, hcq⟩
    · rw [t.h_mz, t.h_za]
end Fld

theorem trimF_gat {a ms : List Int} {q : Int} (h0 : gatStep a ms q [] 0 = []) : ∀ f : List Int, (trimF f).foldr (fun c acc => gatStep a ms q acc c) [] = f.foldr (fun c acc => gatStep a ms q acc c) []
  | [] => rfl
  | x :: r => by
    have ih := trimF_gat h0 r
    unfold trimF
    split
    · rename_i e
      rw [e] at ih
      split
      · rename_i e0
        rw [List.foldr_cons, ← ih, e0]
        exact h0.symm
      · rw [List.foldr_cons, List.foldr_cons, ← ih]
    · rename_i e
      rw [e] at ih
      rw [List.foldr_cons, ih, List.foldr_cons]
namespace Fld
variable {n q : Nat} {ms : List Int} {D : FldD n} (t : Fld n q ms D)
include t
theorem gat_trim (hq : 0 < q) (f : List Int) (a : Fin n) : gatF (trimF f) (D.T a) ms q = f.foldr (fun c acc => gatStep (D.T a) ms q acc c) [] := by
  unfold gatF
  rw [List.foldl_reverse]
  refine trimF_gat ?_ f
  unfold gatStep
  have h1 := t.h_sc ⟨0, hq⟩
  have h2 := t.h_mul (D.C 0) a
  rw [t.h_zm, t.h_nil] at h2
  have h3 := t.h_add (D.C 0) (D.C 0)
  rw [t.h_za, t.h_nil] at h3
  rw [h2, show (0 : Int) = (((⟨0, hq⟩ : Fin q).val : Nat) : Int) from rfl, h1]
  dsimp only
  rw [t.h_nil, h3]
theorem gat_G : ∀ (f : List Int) (a : Fin n), (∀ x ∈ f, 0 ≤ x ∧ x < q) → f.foldr (fun c acc => gatStep (D.T a) ms q acc c) [] = D.T (D.G (f.map Int.toNat) a)
  | [], _, _ => t.h_nil.symm
  | c :: f, a, h => by
    have hc := h c (.head _)
    rw [List.foldr_cons, gat_G f a fun x hx => h x (.tail _ hx)]
    unfold gatStep
    have h1 := t.h_sc ⟨c.toNat, by omega⟩
    dsimp only at h1
    rw [show ((c.toNat : Nat) : Int) = c by omega] at h1
    rw [t.h_mul, h1, t.h_add]
    rfl
theorem total_T (u : Fin n → Fin n) : ∀ (L : List (Fin n)) (z : Fin n), (L.map fun a => D.T (u a)).foldl (fun acc r => maddF acc r q) (D.T z) = D.T (D.sum L u z)
  | [], _ => rfl
  | a :: L, z => by
    rw [List.map_cons, List.foldl_cons, t.h_add, total_T u L]
    rfl
theorem total_T0 (u : Fin n → Fin n) : totalF ((List.finRange n).map fun a => D.T (u a)) q = D.T (D.sum (List.finRange n) u (D.C 0)) := by
  rw [← t.total_T, t.h_nil]
  rfl
theorem total_pow (k : Fin 9) : totalF ((thingsF n q).map fun r => powF r (k.val : Int) ms q) q = D.T (if 0 < k.val ∧ k.val % (n - 1) = 0 then D.C (q - 1) else D.C 0) := by
  rw [t.h_things, List.map_map]
  have e : ((fun r => powF r (k.val : Int) ms q) ∘ D.T) = fun a => D.T (D.P a k) := funext fun a => t.h_pw a k
  rw [e, t.total_T0]
  exact congrArg D.T (t.h_tot ⟨k.val, by omega⟩)
theorem total_mul (hq : 0 < q) (f : List Int) (h : ∀ x ∈ f, 0 ≤ x ∧ x < q) (hl : f.length ≤ 7) (k : Fin 9) :
    totalF ((thingsF n q).map fun r => gmulF (gatF (trimF f) r ms q) (powF r (k.val : Int) ms q) ms q) q = D.T (D.C (valN n q (f.map Int.toNat) k)) := by
  rw [t.h_things, List.map_map]
  have e : ((fun r => gmulF (gatF (trimF f) r ms q) (powF r (k.val : Int) ms q) ms q) ∘ D.T) = fun a => D.T (D.M (D.G (f.map Int.toNat) a) (D.P a k)) := funext fun a => by
    show gmulF (gatF (trimF f) (D.T a) ms q) (powF (D.T a) (k.val : Int) ms q) ms q = _
    rw [t.gat_trim hq, t.gat_G f a h, t.h_pw, t.h_mul]
  rw [e, t.total_T0, ← t.S_val hq _ _ ?_ ?_]
  · rfl
  · intro c hc
    obtain ⟨x, hx, rfl⟩ := List.mem_map.mp hc
    have := h x hx
    omega
  · rw [List.length_map]; omega
/-- all values nothing: then each sum is 0 -/
theorem val_zero (hq : 0 < q) (f : List Int) (h : ∀ x ∈ f, 0 ≤ x ∧ x < q) (hl : f.length ≤ 7) (hz : ∀ r ∈ thingsF n q, gatF (trimF f) r ms q = []) (k : Nat) (hk : k ≤ 8) : valN n q (f.map Int.toNat) k = 0 := by
  have hg : ∀ c ∈ f.map Int.toNat, c < q := fun c hc => by
    obtain ⟨x, hx, rfl⟩ := List.mem_map.mp hc
    have := h x hx
    omega
  have e : D.S (f.map Int.toNat) k = D.C 0 := by
    unfold FldD.S
    rw [show (fun a => D.M (D.G (f.map Int.toNat) a) (D.P a k)) = fun _ => D.C 0 from funext fun a => ?_, t.sum_zero]
    have hm : D.T a ∈ thingsF n q := by rw [t.h_things]; exact List.mem_map.mpr ⟨a, List.mem_finRange a, rfl⟩
    have := hz _ hm
    rw [t.gat_trim hq, t.gat_G f a h] at this
    rw [t.h_zero _ this, t.h_zm]
  rw [t.S_val hq _ _ hg (by rw [List.length_map]; omega)] at e
  have h1 := t.h_ty ⟨_, valN_lt (n := n) hq (f.map Int.toNat) k⟩
  dsimp only at h1
  rw [e, t.h_nil] at h1
  by_cases h0 : 0 < valN n q (f.map Int.toNat) k
  · rw [if_pos h0] at h1; cases h1
  · omega
end Fld
/-- the same numbers, as a sum of ints -/
noncomputable def numS (n : Nat) : List Int → Nat → Int
  | [], _ => 0
  | c :: f, k => (if 0 < k ∧ k % (n - 1) = 0 then c else 0) + numS n f (k + 1)
theorem valN_numS {n q : Nat} (hq : 0 < q) : ∀ (f : List Int) (k : Nat), (∀ x ∈ f, 0 ≤ x ∧ x < q) → (valN n q (f.map Int.toNat) k : Int) = (0 - numS n f k) % (q : Int)
  | [], _, _ => by simp [valN, numS]
  | c :: f, k, h => by
    have ih := valN_numS (n := n) hq f (k + 1) fun x hx => h x (.tail _ hx)
    have hc := h c (.head _)
    rw [List.map_cons, valN, numS]
    split
    · have hv := valN_lt (n := n) hq (f.map Int.toNat) (k + 1)
      rw [Int.natCast_emod, Int.ofNat_sub (by omega), Int.natCast_add, ih, show ((c.toNat : Nat) : Int) = c by omega]
      rw [show (0 : Int) - numS n f (k + 1) = -numS n f (k + 1) by omega, show (0 : Int) - (c + numS n f (k + 1)) = -numS n f (k + 1) - c by omega]
      rw [Int.sub_emod, Int.add_emod_right, Int.emod_emod, ← Int.sub_emod]
    · rw [ih]; congr 1; omega
noncomputable def numF (f : List Int) (k n : Int) : List Int := f.zipIdx.foldl (fun l p => if 0 < (p.2 : Int) + k ∧ ((p.2 : Int) + k).fmod (n - 1) = 0 then l ++ [p.1] else l) []
theorem numF_go (n k : Nat) (hn : 1 ≤ n) : ∀ (f : List Int) (j : Nat) (l : List Int), ((f.zipIdx j).foldl (fun l p => if 0 < (p.2 : Int) + (k : Int) ∧ ((p.2 : Int) + (k : Int)).fmod ((n : Int) - 1) = 0 then l ++ [p.1] else l) l).sum = l.sum + numS n f (k + j)
  | [], j, l => by simp [numS]
  | c :: f, j, l => by
    rw [List.zipIdx_cons, List.foldl_cons, numF_go n k hn f (j + 1), numS, show k + (j + 1) = k + j + 1 by omega]
    have e1 : ((j : Int) + (k : Int)).fmod ((n : Int) - 1) = (((k + j) % (n - 1) : Nat) : Int) := by
      rw [Int.fmod_eq_emod_of_nonneg _ (by omega), Int.natCast_emod, Int.natCast_add, Int.ofNat_sub hn, Int.add_comm]
      rfl
    have e2 : (0 < (j : Int) + (k : Int) ∧ ((j : Int) + (k : Int)).fmod ((n : Int) - 1) = 0) = (0 < k + j ∧ (k + j) % (n - 1) = 0) := by
      rw [e1]
      exact propext ⟨fun h => ⟨by omega, by omega⟩, fun h => ⟨by omega, by omega⟩⟩
    dsimp only
    simp only [e2]
    split
    · rw [List.sum_append]; simp only [List.sum_cons, List.sum_nil]; omega
    · omega
theorem numF_sum {n k : Nat} {q : Nat} (hq : 0 < q) (hn : 1 ≤ n) {f : List Int} (h : ∀ x ∈ f, 0 ≤ x ∧ x < q) : (valN n q (f.map Int.toNat) k : Int) = (0 - (numF f k n).sum).fmod q := by
  rw [Int.fmod_eq_emod_of_nonneg _ (by omega), valN_numS hq f k h]
  unfold numF
  rw [numF_go n k hn f 0 []]
  simp
/-- the law's three checks -/
structure LawOk (q : Int) (ms : List Int) (n : Int) (f : List Int) (k : Int) : Prop where
  zero : (∀ r ∈ thingsF n q, gatF (trimF f) r ms q = []) ↔ trimF f = []
  pow : totalF ((thingsF n q).map fun r => powF r k ms q) q = if 0 < k ∧ k.fmod (n - 1) = 0 then [q - 1] else []
  val : totalF ((thingsF n q).map fun r => gmulF (gatF (trimF f) r ms q) (powF r k ms q) ms q) q = if 0 < (0 - (numF f k n).sum).fmod q then [(0 - (numF f k n).sum).fmod q] else []
theorem Fld.lawOk {n q : Nat} {ms : List Int} {D : FldD n} (t : Fld n q ms D) (hq : 2 ≤ q) (hn : 1 ≤ n) (f : List Int) (h : ∀ x ∈ f, 0 ≤ x ∧ x < q) (hl : f.length ≤ 7) (k : Nat) (hk : k ≤ 8)
    (hz : (∀ k, k ≤ 8 → valN n q (f.map Int.toNat) k = 0) → trimF f = []) : LawOk q ms n f k := by
  refine ⟨⟨fun h0 => hz fun k hk => t.val_zero (by omega) f h hl h0 k hk, fun e r _ => ?_⟩, ?_, ?_⟩
  · rw [e]; rfl
  · have := t.total_pow ⟨k, by omega⟩
    dsimp only at this
    rw [this]
    have e : ((k : Int)).fmod ((n : Int) - 1) = ((k % (n - 1) : Nat) : Int) := by
      rw [Int.fmod_eq_emod_of_nonneg _ (by omega), Int.natCast_emod, Int.ofNat_sub hn]
      rfl
    have e2 : (0 < (k : Int) ∧ (k : Int).fmod ((n : Int) - 1) = 0) = (0 < k ∧ k % (n - 1) = 0) := by
      rw [e]
      exact propext ⟨fun h => ⟨by omega, by omega⟩, fun h => ⟨by omega, by omega⟩⟩
    simp only [e2]
    split
    · have h1 := t.h_ty ⟨q - 1, by omega⟩
      dsimp only at h1
      rw [h1, if_pos (by omega), Int.ofNat_sub (by omega)]
      rfl
    · exact t.h_nil
  · have := t.total_mul (by omega) f h hl ⟨k, by omega⟩
    dsimp only at this
    rw [this, ← numF_sum (by omega) hn h]
    have h1 := t.h_ty ⟨_, valN_lt (n := n) (by omega) (f.map Int.toNat) k⟩
    dsimp only at h1
    rw [h1]
    split <;> split <;> first | rfl | omega

theorem trimF_all0 {f : List Int} (h : ∀ x ∈ f, x = 0) : trimF f = [] := trimF_zero f fun j hj => by
  rw [List.getD_eq_getElem?_getD, List.getElem?_eq_getElem hj]
  exact h _ (List.getElem_mem hj)
theorem list_cons {f : List Nat} {n : Nat} (h : f.length = n + 1) : ∃ a g, f = a :: g ∧ g.length = n := by
  match f with
  | [] => simp at h
  | a :: g => exact ⟨a, g, rfl, by simpa using h⟩
theorem one_zero {q c : Nat} (h : c < q) (e : (0 + q - c) % q = 0) : c = 0 := by
  rcases Nat.eq_zero_or_pos c with h0 | h0
  · exact h0
  · rw [Nat.mod_eq_of_lt (by omega)] at e; omega
theorem cons_zero {a : Nat} {g : List Nat} (h : a = 0) (h' : ∀ c ∈ g, c = 0) : ∀ c ∈ a :: g, c = 0 := List.forall_mem_cons.mpr ⟨h, h'⟩
theorem zero_0 (g : List Nat) (hl0 : g.length = 4) (hg : ∀ c ∈ g, c < 2) (hz : ∀ k, k ≤ 8 → valN 4 2 g k = 0) : ∀ c ∈ g, c = 0 := by
  obtain ⟨x0, g, rfl, hl1⟩ := list_cons hl0
  obtain ⟨x1, g, rfl, hl2⟩ := list_cons hl1
  obtain ⟨x2, g, rfl, hl3⟩ := list_cons hl2
  obtain ⟨x3, g, rfl, hl4⟩ := list_cons hl3
  cases List.eq_nil_of_length_eq_zero hl4
  have e3 : x3 = 0 := one_zero (q := 2) (hg _ (.tail _ (.tail _ (.tail _ (.head _))))) (hz 0 (by decide))
  have e2 : x2 = 0 := one_zero (q := 2) (hg _ (.tail _ (.tail _ (.head _)))) (hz 1 (by decide))
  have e1 : x1 = 0 := one_zero (q := 2) (hg _ (.tail _ (.head _))) (hz 2 (by decide))
  subst e3
  have e0 : x0 = 0 := one_zero (q := 2) (hg _ (.head _)) (hz 3 (by decide))
  exact (cons_zero e0 (cons_zero e1 (cons_zero e2 (cons_zero rfl (fun _ h => nomatch h)))))
theorem zero_1 (g : List Nat) (hl0 : g.length = 7) (hg : ∀ c ∈ g, c < 7) (hz : ∀ k, k ≤ 8 → valN 7 7 g k = 0) : ∀ c ∈ g, c = 0 := by
  obtain ⟨x0, g, rfl, hl1⟩ := list_cons hl0
  obtain ⟨x1, g, rfl, hl2⟩ := list_cons hl1
  obtain ⟨x2, g, rfl, hl3⟩ := list_cons hl2
  obtain ⟨x3, g, rfl, hl4⟩ := list_cons hl3
  obtain ⟨x4, g, rfl, hl5⟩ := list_cons hl4
  obtain ⟨x5, g, rfl, hl6⟩ := list_cons hl5
  obtain ⟨x6, g, rfl, hl7⟩ := list_cons hl6
  cases List.eq_nil_of_length_eq_zero hl7
  have e6 : x6 = 0 := one_zero (q := 7) (hg _ (.tail _ (.tail _ (.tail _ (.tail _ (.tail _ (.tail _ (.head _)))))))) (hz 0 (by decide))
  have e5 : x5 = 0 := one_zero (q := 7) (hg _ (.tail _ (.tail _ (.tail _ (.tail _ (.tail _ (.head _))))))) (hz 1 (by decide))
  have e4 : x4 = 0 := one_zero (q := 7) (hg _ (.tail _ (.tail _ (.tail _ (.tail _ (.head _)))))) (hz 2 (by decide))
  have e3 : x3 = 0 := one_zero (q := 7) (hg _ (.tail _ (.tail _ (.tail _ (.head _))))) (hz 3 (by decide))
  have e2 : x2 = 0 := one_zero (q := 7) (hg _ (.tail _ (.tail _ (.head _)))) (hz 4 (by decide))
  have e1 : x1 = 0 := one_zero (q := 7) (hg _ (.tail _ (.head _))) (hz 5 (by decide))
  subst e6
  have e0 : x0 = 0 := one_zero (q := 7) (hg _ (.head _)) (hz 6 (by decide))
  exact (cons_zero e0 (cons_zero e1 (cons_zero e2 (cons_zero e3 (cons_zero e4 (cons_zero e5 (cons_zero rfl (fun _ h => nomatch h))))))))
theorem zero_2 (g : List Nat) (hl0 : g.length = 5) (hg : ∀ c ∈ g, c < 5) (hz : ∀ k, k ≤ 8 → valN 5 5 g k = 0) : ∀ c ∈ g, c = 0 := by
  obtain ⟨x0, g, rfl, hl1⟩ := list_cons hl0
  obtain ⟨x1, g, rfl, hl2⟩ := list_cons hl1
  obtain ⟨x2, g, rfl, hl3⟩ := list_cons hl2
  obtain ⟨x3, g, rfl, hl4⟩ := list_cons hl3
  obtain ⟨x4, g, rfl, hl5⟩ := list_cons hl4
  cases List.eq_nil_of_length_eq_zero hl5
  have e4 : x4 = 0 := one_zero (q := 5) (hg _ (.tail _ (.tail _ (.tail _ (.tail _ (.head _)))))) (hz 0 (by decide))
  have e3 : x3 = 0 := one_zero (q := 5) (hg _ (.tail _ (.tail _ (.tail _ (.head _))))) (hz 1 (by decide))
  have e2 : x2 = 0 := one_zero (q := 5) (hg _ (.tail _ (.tail _ (.head _)))) (hz 2 (by decide))
  have e1 : x1 = 0 := one_zero (q := 5) (hg _ (.tail _ (.head _))) (hz 3 (by decide))
  subst e4
  have e0 : x0 = 0 := one_zero (q := 5) (hg _ (.head _)) (hz 4 (by decide))
  exact (cons_zero e0 (cons_zero e1 (cons_zero e2 (cons_zero e3 (cons_zero rfl (fun _ h => nomatch h))))))
theorem zero_3 (g : List Nat) (hl0 : g.length = 4) (hg : ∀ c ∈ g, c < 3) (hz : ∀ k, k ≤ 8 → valN 9 3 g k = 0) : ∀ c ∈ g, c = 0 := by
  obtain ⟨x0, g, rfl, hl1⟩ := list_cons hl0
  obtain ⟨x1, g, rfl, hl2⟩ := list_cons hl1
  obtain ⟨x2, g, rfl, hl3⟩ := list_cons hl2
  obtain ⟨x3, g, rfl, hl4⟩ := list_cons hl3
  cases List.eq_nil_of_length_eq_zero hl4
  have e3 : x3 = 0 := one_zero (q := 3) (hg _ (.tail _ (.tail _ (.tail _ (.head _))))) (hz 5 (by decide))
  have e2 : x2 = 0 := one_zero (q := 3) (hg _ (.tail _ (.tail _ (.head _)))) (hz 6 (by decide))
  have e1 : x1 = 0 := one_zero (q := 3) (hg _ (.tail _ (.head _))) (hz 7 (by decide))
  have e0 : x0 = 0 := one_zero (q := 3) (hg _ (.head _)) (hz 8 (by decide))
  exact (cons_zero e0 (cons_zero e1 (cons_zero e2 (cons_zero e3 (fun _ h => nomatch h)))))
theorem zero_4 (g : List Nat) (hl0 : g.length = 2) (hg : ∀ c ∈ g, c < 2) (hz : ∀ k, k ≤ 8 → valN 8 2 g k = 0) : ∀ c ∈ g, c = 0 := by
  obtain ⟨x0, g, rfl, hl1⟩ := list_cons hl0
  obtain ⟨x1, g, rfl, hl2⟩ := list_cons hl1
  cases List.eq_nil_of_length_eq_zero hl2
  have e1 : x1 = 0 := one_zero (q := 2) (hg _ (.tail _ (.head _))) (hz 6 (by decide))
  have e0 : x0 = 0 := one_zero (q := 2) (hg _ (.head _)) (hz 7 (by decide))
  exact (cons_zero e0 (cons_zero e1 (fun _ h => nomatch h)))
theorem zero_5 (g : List Nat) (hl0 : g.length = 3) (hg : ∀ c ∈ g, c < 3) (hz : ∀ k, k ≤ 8 → valN 3 3 g k = 0) : ∀ c ∈ g, c = 0 := by
  obtain ⟨x0, g, rfl, hl1⟩ := list_cons hl0
  obtain ⟨x1, g, rfl, hl2⟩ := list_cons hl1
  obtain ⟨x2, g, rfl, hl3⟩ := list_cons hl2
  cases List.eq_nil_of_length_eq_zero hl3
  have e2 : x2 = 0 := one_zero (q := 3) (hg _ (.tail _ (.tail _ (.head _)))) (hz 0 (by decide))
  have e1 : x1 = 0 := one_zero (q := 3) (hg _ (.tail _ (.head _))) (hz 1 (by decide))
  subst e2
  have e0 : x0 = 0 := one_zero (q := 3) (hg _ (.head _)) (hz 2 (by decide))
  exact (cons_zero e0 (cons_zero e1 (cons_zero rfl (fun _ h => nomatch h))))
theorem trim_zero {f : List Int} {q : Nat} (h : ∀ x ∈ f, 0 ≤ x ∧ x < q) (hz : ∀ c ∈ f.map Int.toNat, c = 0) : trimF f = [] := trimF_all0 fun x hx => by
  have h1 := h x hx
  have h2 := hz x.toNat (List.mem_map.mpr ⟨x, hx, rfl⟩)
  omega
theorem nat_lt {f : List Int} {q : Nat} (h : ∀ x ∈ f, 0 ≤ x ∧ x < q) : ∀ c ∈ f.map Int.toNat, c < q := fun c hc => by
  obtain ⟨x, hx, rfl⟩ := List.mem_map.mp hc
  have := h x hx
  omega
theorem map_len {f : List Int} {m : Nat} (h : (f.length : Int) = (m : Nat)) : (f.map Int.toNat).length = m := by rw [List.length_map]; omega
theorem Fld.lawOk' {n q m : Nat} {ms : List Int} {D : FldD n} (t : Fld n q ms D) (hq : 2 ≤ q) (hn : 1 ≤ n) (hm : m ≤ 7) (zero : ∀ g : List Nat, g.length = m → (∀ c ∈ g, c < q) → (∀ k, k ≤ 8 → valN n q g k = 0) → ∀ c ∈ g, c = 0)
    {f : List Int} (hl : (f.length : Int) = (m : Nat)) (h : ∀ x ∈ f, 0 ≤ x ∧ x < q) {k : Int} (hk : 0 ≤ k) (hk' : k < 9) : LawOk q ms n f k := by
  obtain ⟨k, rfl⟩ : ∃ k' : Nat, k = (k' : Int) := ⟨k.toNat, by omega⟩
  exact t.lawOk hq hn f h (by omega) k (by omega) fun hz => trim_zero h (zero _ (map_len hl) (nat_lt h) hz)
theorem law_plain {q most d n : Int} {ms : List Int} (hF : FieldOk q ms most d n) {f : List Int} (hl : (f.length : Int) = most) (h : ∀ x ∈ f, 0 ≤ x ∧ x < q) {k : Int} (hk : 0 ≤ k) (hk' : k < 9) : LawOk q ms n f k := by
  rcases hF with ⟨rfl, rfl, rfl, rfl, rfl⟩ | ⟨rfl, rfl, rfl, rfl, rfl⟩ | ⟨rfl, rfl, rfl, rfl, rfl⟩ | ⟨rfl, rfl, rfl, rfl, rfl⟩ | ⟨rfl, rfl, rfl, rfl, rfl⟩ | ⟨rfl, rfl, rfl, rfl, rfl⟩
  · exact fld0_ok.lawOk' (m := 4) (by decide) (by decide) (by decide) zero_0 hl h hk hk'
  · exact fld1_ok.lawOk' (m := 7) (by decide) (by decide) (by decide) zero_1 hl h hk hk'
  · exact fld2_ok.lawOk' (m := 5) (by decide) (by decide) (by decide) zero_2 hl h hk hk'
  · exact fld3_ok.lawOk' (m := 4) (by decide) (by decide) (by decide) zero_3 hl h hk hk'
  · exact fld4_ok.lawOk' (m := 2) (by decide) (by decide) (by decide) zero_4 hl h hk hk'
  · exact fld5_ok.lawOk' (m := 3) (by decide) (by decide) (by decide) zero_5 hl h hk hk'

theorem anew_94c_zip : True := by
  w_top off
  k_with_none
  k_with "sa enter" => (refine wpAny_call ?_; k_dflt (refine' enter_pure ?k1 ?k2 ?k3 ?k4 ?kA ?kF ?kK ?k6 ?k7 ?k8 ?k9 ?kB (by assumption) ?_ ?c2 ?c3 ?c4 ?c5; (case kA => exact rfl); (case kF => exact rfl); (case kK => assumption); (case k1 => k_asm); (case k2 => k_asm); (case k3 => k_asm); (case k4 => k_asm); (case k6 => k_is); (case k7 => k_is); (case k8 => ktr_room); (case k9 => exact BindsTo.of_eq rfl); (case c5 => decide); (case kB => exact locs rfl); (case c2 => exact rfl); (case c3 => exact rfl); (case c4 => exact rfl); k_whole); (with_reducible rename Below _ _ _ _ => kB'; clear kB'); (with_reducible rename Fr _ _ _ _ => kB'; clear kB'); (with_reducible rename Top _ _ _ _ _ _ => kB'; clear kB'); (rename Frag.In _ _ => kB'; clear kB'); intro L' h' F' N' B' X' T'; (try dsimp only); (try k_fold))
  k_with "sa leave list" => ((show LeaveP _ _ _ _); refine leaveP_ (by assumption) ⟨_, _, _, rfl, (News.fresh (by assumption) (List.Mem.head _)), (News.get (by assumption) (List.Mem.head _)), ?_⟩)
  k_with "execs cons Assign cons" => ((with_reducible refine wpAny_execs_cons ?_); try dsimp only)
  k_with "sa len" => (first | with_reducible assumption | exact List.length_take_le _ _ | omega | l_fact | ((simp only [rangeKs_length, List.length_map, List.length_append, List.length_cons, List.length_nil] at *); omega))
  k_with "sa enter cells" => (refine wpAny_call ?_; k_dflt (refine' enter_pureC ?k1 ?k2 ?k3 ?k4 ?kA ?kF ?kK ?k6 ?k7 ?k8 ?k9 ?kB ?kD (by assumption) ?_ ?c2 ?c3 ?c4; (case kA => exact rfl); (case kF => exact rfl); (case kK => assumption); (case k1 => k_asm); (case k2 => k_asm); (case k3 => k_asm); (case k4 => k_asm); (case k6 => k_is); (case k7 => k_is); (case k8 => ktr_room); (case k9 => exact BindsTo.of_eq rfl); (case kB => exact rfl); (case kD => decide +kernel); (case c2 => exact rfl); (case c3 => exact rfl); (case c4 => exact rfl); k_whole); (with_reducible rename Below _ _ _ _ => kB'; clear kB'); (with_reducible rename Fr _ _ _ _ => kB'; clear kB'); (with_reducible rename Top _ _ _ _ _ _ => kB'; clear kB'); (rename Frag.In _ _ => kB'; clear kB'); intro L' h' tk' cells' F' N' Y' B' X' T'; k_cells Y'; (try simp only [List.cons_append, List.nil_append, List.append_nil] at N'); (try dsimp only); (try k_fold))
  k_with "sa ne" => (first | with_reducible assumption | (refine Ne.symm ?_; with_reducible assumption) | (refine Nat.ne_of_gt ?_; assumption) | (refine Nat.ne_of_lt ?_; assumption) | ((rename _ ∧ _ => h9); first | (refine Ne.symm ?_; simp only [h9, ne_eq, not_false_eq_true]; done) | (simp only [h9, ne_eq, not_false_eq_true]; done) | (refine Nat.ne_of_gt ?_; simp only [h9]; done) | (refine Nat.ne_of_lt ?_; simp only [h9]; done) | (clear h9; k_extra "sa ne")))
  k_with "call ref" => (k_here; (with_reducible show wpAny _ _ (PySem.call (Value.ref 55) [Value.ref _]) _ _ _); k_dflt (refine' use_li (mtrim_says (by is_list) (by l_ints) (by k_extra "sa len")) (by k_asm) (by k_asm) (by k_asm) (by k_asm) (by k_asm) (by first | exact rfl | assumption) (by ktr_room) (by ktr_units) ?_; k_whole); intro l' vs' n' h' tk' F' N' i' ne' st'; (try simp only [List.forall_mem_cons, List.not_mem_nil, false_implies, implies_true, and_true] at ne'); (try k_sweep); walk_say "MTRIM"; (rename IntsAre _ (trimF _) => hI9); (have hC9 := trimF_lenI hI9))
  k_with "call ref" => (k_here; (with_reducible show wpAny _ _ (PySem.call (Value.ref 69) [Value.ref _, Value.ref _, Value.int _ _]) _ _ _); k_dflt (refine' use_li (madd_says (by is_list) (by l_ints) (by k_extra "sa len") (by is_list) (by l_ints) (by k_extra "sa len") (by omega) (by omega)) (by k_asm) (by k_asm) (by k_asm) (by k_asm) (by k_asm) (by first | exact rfl | assumption) (by ktr_room) (by ktr_units) ?_; k_whole); intro l' vs' n' h' tk' F' N' i' ne' st'; (try simp only [List.forall_mem_cons, List.not_mem_nil, false_implies, implies_true, and_true] at ne'); (try k_sweep); walk_say "MADD")
  k_with "call ref" => (k_here; (with_reducible show wpAny _ _ (PySem.call (Value.ref 86) [Value.ref _, Value.int _ _, Value.int _ _]) _ _ _); k_dflt (refine' use_li (mscale_says (by is_list) (by l_ints) (by k_extra "sa len") (by omega) (by omega) (by omega) (by omega)) (by k_asm) (by k_asm) (by k_asm) (by k_asm) (by k_asm) (by first | exact rfl | assumption) (by ktr_room) (by ktr_units) ?_; k_whole); intro l' vs' n' h' tk' F' N' i' ne' st'; (try simp only [List.forall_mem_cons, List.not_mem_nil, false_implies, implies_true, and_true] at ne'); (try k_sweep); walk_say "MSCALE")
  k_with "call ref" => (k_here; (with_reducible show wpAny _ _ (PySem.call (Value.ref 93) [Value.ref _, Value.ref _, Value.int _ _]) _ _ _); k_dflt (refine' use_li (mmul_says (by is_list) (by l_ints) (by k_extra "sa len") (by assumption) (by is_list) (by l_ints) (by k_extra "sa len") (by omega) (by omega)) (by k_asm) (by k_asm) (by k_asm) (by k_asm) (by k_asm) (by first | exact rfl | assumption) (by ktr_room) (by ktr_units) ?_; k_whole); intro l' vs' n' h' tk' F' N' i' ne' st'; (try simp only [List.forall_mem_cons, List.not_mem_nil, false_implies, implies_true, and_true] at ne'); (try k_sweep); walk_say "MMUL")
  k_with "call ref" => (k_here; (with_reducible show wpAny _ _ (PySem.call (Value.ref 48) [Value.int _ _, Value.int _ _]) _ _ _); k_dflt (refine' use_int (inv_says (by first | assumption | decide) (by first | assumption | omega)) (by k_asm) (by k_asm) (by k_asm) (by k_asm) (by k_asm) (by first | exact rfl | assumption) (by ktr_room) (by ktr_units) ?_; k_whole); intro t1' h' tk' F' N' st'; (try k_sweep); walk_say "INV")
  k_with "call ref" => (k_here; (with_reducible show wpAny _ _ (PySem.call (Value.ref 100) [Value.ref _, Value.ref _, Value.int _ _]) _ _ _); k_dflt (refine' use_p2 (mdivmod_says (by is_list) (by l_ints) (by k_extra "sa len") (by is_list) (by l_ints) (by k_extra "sa len") (by k_extra "sa len") (by assumption) (by assumption) (by assumption)) (by k_asm) (by k_asm) (by k_asm) (by k_asm) (by k_asm) (by first | exact rfl | assumption) (by ktr_room) (by ktr_units) ?_; k_whole); intro l' v1' l2' n' vs' c' h' tk' F' N' i' ne' ne2' st'; walk_say "MDIVMOD"; (try simp only [List.forall_mem_cons, List.not_mem_nil, false_implies, implies_true, and_true] at ne' ne2'); (try k_sweep))
  k_with "call ref" => (k_here; (with_reducible show wpAny _ _ (PySem.call (Value.ref 147) [Value.ref _, Value.ref _, Value.ref _, Value.int _ _]) _ _ _); k_dflt (refine' use_li (gmul_says (by is_list) (by l_ints) (by k_extra "sa len") (by first | assumption | exact small_nil) (by is_list) (by l_ints) (by k_extra "sa len") (by is_list) (by assumption) (by assumption)) (by k_asm) (by k_asm) (by k_asm) (by k_asm) (by k_asm) (by first | exact rfl | assumption) (by ktr_room) (by ktr_units) ?_; k_whole); intro l' vs' n' h' tk' F' N' i' ne' st'; (try simp only [List.forall_mem_cons, List.not_mem_nil, false_implies, implies_true, and_true] at ne'); (try k_sweep); walk_say "GMUL"; (rename IntsAre _ (gmulF _ _ _ _) => hI9); (have hC9 := gmulF_lenI hI9))
  k_with "call ref" => (k_here; (with_reducible show wpAny _ _ (PySem.call (Value.ref 86) [Value.ref _, Value.int _ _, Value.int _ _]) _ _ _); k_dflt (refine' use_li (mscale_says (by is_list) (by l_ints) (by k_extra "sa len") (by omega) (by omega) (by omega) (by omega)) (by k_asm) (by k_asm) (by k_asm) (by k_asm) (by k_asm) (by first | exact rfl | assumption) (by ktr_room) (by ktr_units) ?_; k_whole); intro l' vs' n' h' tk' F' N' i' ne' st'; (try simp only [List.forall_mem_cons, List.not_mem_nil, false_implies, implies_true, and_true] at ne'); (try k_sweep); walk_say "MSCALE2"; (rename IntsAre _ (mscaleF _ _ _) => hI9); (have hC9 := mscaleF_lenI hI9); (try simp only [List.length_cons, List.length_nil] at hC9))
  k_with "call ref" => (k_here; (with_reducible show wpAny _ _ (PySem.call (Value.ref 69) [Value.ref _, Value.ref _, Value.int _ _]) _ _ _); k_dflt (refine' use_li (madd_says (by is_list) (by l_ints) (by k_extra "sa len") (by is_list) (by l_ints) (by k_extra "sa len") (by omega) (by omega)) (by k_asm) (by k_asm) (by k_asm) (by k_asm) (by k_asm) (by first | exact rfl | assumption) (by ktr_room) (by ktr_units) ?_; k_whole); intro l' vs' n' h' tk' F' N' i' ne' st'; (try simp only [List.forall_mem_cons, List.not_mem_nil, false_implies, implies_true, and_true] at ne'); (try k_sweep); walk_say "MADD2"; (rename IntsAre _ (maddF _ _ _) => hI9); (have hC9 := maddF_lenI hI9))
  k_with "exec For Name Subscript cons nil" => (k_here; (rename Fr _ _ _ _ => lF'); (with_unfolding_all (refine' For_invVF lF' (by exact rfl) (by exact rfl) ?_; k_whole)))
  k_with "exec For Name Name cons nil" => (k_here; (rename Fr _ _ _ _ => lF'); (with_unfolding_all (refine' For_invVF lF' (by exact rfl) (by exact rfl) ?_; k_whole)))
  k_with "call ref" => (k_here; (with_reducible show wpAny _ _ (PySem.call (Value.ref 168) [Value.ref _, Value.ref _, Value.ref _, Value.int _ _]) _ _ _); k_dflt (refine' use_li (gat_says (by is_list) (by l_ints) (by k_extra "sa len") (by assumption) (by is_list) (by l_ints) (by k_extra "sa len") (by assumption) (by is_list) (by assumption) (by assumption)) (by k_asm) (by k_asm) (by k_asm) (by k_asm) (by k_asm) (by first | exact rfl | assumption) (by ktr_room) (by ktr_units) ?_; k_whole); intro l' vs' n' h' tk' F' N' i' ne' st'; walk_say "GAT"; (try k_sweep))
  k_with "call ref" => (k_here; (with_reducible show wpAny _ _ (PySem.call (Value.ref 161) [Value.ref _, Value.int _ _, Value.ref _, Value.int _ _]) _ _ _); k_dflt (refine' use_li (gpow_says (by is_list) (by l_ints) (by k_extra "sa len") (by assumption) (by omega) (by omega) (by is_list) (by assumption) (by assumption)) (by k_asm) (by k_asm) (by k_asm) (by k_asm) (by k_asm) (by first | exact rfl | assumption) (by ktr_room) (by ktr_units) ?_; k_whole); intro l' vs' n' h' tk' F' N' i' ne' st'; walk_say "GPOW"; (try k_sweep))
  k_with "call ref" => (k_here; (with_reducible show wpAny _ _ (PySem.call (Value.ref 128) [Value.int _ _, Value.int _ _]) _ _ _); k_dflt (refine' use_li (count_says (by omega) (by omega) (by omega) (by omega)) (by k_asm) (by k_asm) (by k_asm) (by k_asm) (by k_asm) (by first | exact rfl | assumption) (by ktr_room) (by ktr_units) ?_; k_whole); intro l' vs' n' h' tk' F' N' i' ne' st'; (try simp only [List.forall_mem_cons, List.not_mem_nil, false_implies, implies_true, and_true] at ne'); (try k_sweep); walk_say "COUNT")
  k_with "call ref" => (k_here; (with_reducible show wpAny _ _ (PySem.call (Value.ref 135) [Value.ref _, Value.int _ _]) _ _ _); k_dflt (refine' use_int (size_says (by is_list) (by assumption) (by assumption)) (by k_asm) (by k_asm) (by k_asm) (by k_asm) (by k_asm) (by first | exact rfl | assumption) (by ktr_room) (by ktr_units) ?_; k_whole); intro t1' h' tk' F' N' st'; (try k_sweep); walk_say "SIZE")
  k_with "CompSrc" => (refine hold_of ?_)
  k_with "sa mem" => (first | with_reducible assumption | exact List.Mem.head _ | (refine List.Mem.tail _ ?_; k_extra "sa mem") | (refine List.mem_append.mpr (Or.inr ?_); k_extra "sa mem") | (refine List.mem_append.mpr (Or.inl ?_); k_extra "sa mem"))
  k_with "call ref" => (k_here; (with_reducible show wpAny _ _ (PySem.call (Value.ref 188) [Value.ref _, Value.int _ _]) _ _ _); k_dflt (refine' take_use (by k_asm) (by k_asm) (by k_asm) (by k_asm) (by k_asm) (by first | exact rfl | assumption) (by ktr_room) (by ktr_units) (by (intro o9; k_upd)) (by k_extra "sa mem") (by k_ne) (by l_ints) (by k_extra "sa len") (by omega) (by first | with_reducible assumption | omega) (by omega) (by omega) ?_; k_whole); intro x9 t9 tx9 c9 h' tk' hx9 hy9 F' N'; walk_say "TAKE"; (try dsimp only at N'); (try k_sweep))
  k_with "call ref" => (k_here; (with_reducible show wpAny _ _ (PySem.call (Value.ref 140) [Value.ref _, Value.int _ _]) _ _ _); k_dflt (refine' rows_use (things_says (by is_list) (by assumption) (by exact FieldOk.isSize (by assumption))) (by k_asm) (by k_asm) (by k_asm) (by k_asm) (by k_asm) (by first | exact rfl | assumption) (by ktr_room) (by ktr_units) ?_; k_whole); intro l' ys' c' own' h' tk' F' N' hr' ne' off'; walk_say "THINGS"; (try simp only [List.forall_mem_cons, List.not_mem_nil, false_implies, implies_true, and_true] at ne'); (try simp only [List.map_cons, List.map_nil] at off'); (try simp only [List.cons_append, List.nil_append, List.append_assoc] at N'); (try k_sweep))
  k_with "subscriptTail" => (k_here; (with_reducible show wpAny _ _ (subscriptTail _ _ (Value.ref 181) (Value.int _ _)) _ _ _); refine hold_of ?_)
  k_with "call builtin:len" => (k_here; (with_reducible show wpAny _ _ (PySem.call (Value.builtin "len") [Value.ref _]) _ _ _); (rename RowsIn _ _ _ => hr9); k_dflt (refine' len_rows (by k_asm) (by k_extra "sa mem") hr9 (by first | exact thingsF_length (by omega) | assumption) (by omega) ?_; k_whole); walk_say "LENROWS")
  k_with "eval ListComp" => ((with_reducible show wpAny _ _ (eval (PySem.Expr.ListComp _ (PySem.Comprehension.mk (PySem.Expr.Tuple _ _ _) _ _ _ :: _) _ _) _) _ _ _); refine hold_of ?_)
  k_with "call type:enumerate" => ((with_reducible show wpAny _ _ (PySem.call (Value.type "enumerate") _) (Src2X _ _ _ _ _ _ _ _ _ _ _ _ _ _ _) _ _); refine hold_of ?_)
  k_with "call type:zip" => ((with_reducible show wpAny _ _ (PySem.call (Value.type "zip") _) (Src2N _ _ _ _ _ _ _ _ _ _ _ _ _) _ _); refine hold_of ?_)
  k_with "call builtin:max" => (refine hold_of ?_)
  trivial
/-! a comprehension over zip of two lists of int lists, each turn makes one new list of ints; a filter that reads alone -/
section
variable {prog : Program} {w : World} {A : Around} {E : Value → Shared → Prop} {s : Shared} {h₀ : Heap} {L : Addr} {m : Str → Option Value} {env : Env} {news : List (Addr × Obj)}
noncomputable def ZipEl (s₁ : Shared) (r : List Int) (y : Value) (s₄ : Shared) : Prop := ∃ l vs c h' tk', y = .ref l ∧ s₄ = { s₁ with heap := h', toks := tk' } ∧ s₁.heap.StaysIn h' ∧ s₁.heap.get? l = none ∧ h'.get? l = some (listOf vs.toArray c) ∧ IntsAre vs r
theorem zipEl_ {s₁ : Shared} {r : List Int} {v : Value} {h' : Heap} {tk' : Nat} (st : s₁.heap.StaysIn h') (x : NewLI s₁.heap v h' r) : ZipEl s₁ r v { s₁ with heap := h', toks := tk' } := by
  obtain ⟨l, vs, n, rfl, h1, h2, h3⟩ := x
  exact ⟨l, vs, n, h', tk', rfl, rfl, st, h1, h2, h3⟩
theorem zip_src {l1 l2 : Addr} {xs ys : List Value} {k1 k2 : Nat} {rs1 rs2 : List (List Int)} {elt : PySem.Expr} {x x₂ : Str} {scope : Scope} {cl : List (Str × Addr)} {Q : Value → Shared → Prop} (g : List Int → List Int → List Int)
    (hh : A.handled = none) (F : Fr h₀ L s.heap m) (N : News h₀ L s.heap news) (hl1 : (l1, listOf xs.toArray k1) ∈ news) (hl2 : (l2, listOf ys.toArray k2) ∈ news) (hr1 : RowsIn news xs rs1) (hr2 : RowsIn news ys rs2) (hlen : rs1.length = rs2.length) (hsz : rs1.length ≤ sizeLine)
    (turn : Hold (∀ (i : Nat) r1 r2 a1 a2 v1 v2 c1 c2 ys own C oC D m₂ h tk (E' : Value → Shared → Prop), rs1[i]? = some r1 → rs2[i]? = some r2 → (a1, listOf v1.toArray c1) ∈ news → IntsAre v1 r1 → (a2, listOf v2.toArray c2) ∈ news → IntsAre v2 r2 →
      LCg.NsObj oC m₂ → m₂ x = some (.ref a1) → m₂ x₂ = some (.ref a2) → Fr h₀ L h m → News h₀ L h ((C, oC) :: (D, LCg.lst ys) :: (news ++ own)) →
      wpAny (model prog w) A (eval elt (compEnvC scope cl C env)) (ZipEl { s with heap := h, toks := tk } (g r1 r2)) E' { s with heap := h, toks := tk }))
    (fin : Hold (∀ D h tk ys own, Fr h₀ L h m → News h₀ L h ((D, LCg.lst ys) :: (news ++ own)) → (∀ q ∈ news ++ own, @Ne Nat q.1 D) → RowsIn own ys (List.zipWith g rs1 rs2) → Q (.ref D) { s with heap := h, toks := tk })) :
    wpAny (model prog w) A (call (.type "zip") [.ref l1, .ref l2]) (Src2N prog w A h₀ L m env elt x x₂ scope cl Q) E s := by
  have hls1 : s.heap.IsList l1 xs.toArray := ⟨_, (N _ hl1).1, rfl, k1, rfl⟩
  have hls2 : s.heap.IsList l2 ys.toArray := ⟨_, (N _ hl2).1, rfl, k2, rfl⟩
  have hlt1 : l1 < s.heap.objs.size := Heap.lt_size (N _ hl1).1
  have hlt2 : l2 < s.heap.objs.size := Heap.lt_size (N _ hl2).1
  have hLs : L < s.heap.objs.size := F.ns.lt
  refine call_zip_2 hls1 hls2 fun h' hz hTI hTO hi1 hi2 hsz' hk => ?_
  have fresh : ∀ b, s.heap.objs.size ≤ b → h₀.get? b = none := fun b hb => by
    cases e : h₀.get? b with
    | none => rfl
    | some o => exact absurd (Heap.lt_size (F.keep _ _ e)) (Nat.not_lt.mpr hb)
  have D := zipApart_new hlt1 hlt2
  have e1 : xs.length = rs1.length := hr1.length
  have e2 : ys.length = rs2.length := hr2.length
  have en : min xs.toArray.size ys.toArray.size = rs1.length := by rw [List.size_toArray, List.size_toArray, e1, e2, ← hlen, Nat.min_self]
  refine fun P k9 => k9 (s.heap.objs.size + 4) _ _ (min xs.toArray.size ys.toArray.size) _ _ _ (fun i v0 v1 => xs[i]? = some v0 ∧ ys[i]? = some v1) news (fun i zs own => RowsIn own zs ((List.zipWith g rs1 rs2).take i)) rfl hh
    (WalksT.zip2 hh _ _ _ _ _ _ _ D xs.toArray ys.toArray) ?_ (by rw [en]; exact hsz) ⟨hz, hTI, ⟨_, _, hTO⟩, hi1, hi2, hls1.at fun o e => hk _ o e, hls2.at fun o e => hk _ o e⟩ ?_ ?_ ?_ ?_ ?_
    ⟨F.ns.keeps hk, fun b o e => hk b o (F.keep b o e), F.above⟩ (fun p hp => ⟨hk _ _ (N p hp).1, (N p hp).2⟩) .nil ?_ ?_
  · rintro i vals ⟨a, b, ha, hb, rfl⟩
    exact ⟨a, b, rfl, by simpa using ha, by simpa using hb⟩
  · intro b hb
    show b < h'.objs.size
    rw [hsz']
    simp only [List.mem_cons, List.not_mem_nil, or_false] at hb
    rcases hb with rfl | rfl | rfl | rfl | rfl | rfl | rfl
    · exact Nat.lt_succ_self _
    · exact Nat.add_lt_add_left (by decide) _
    · exact Nat.add_lt_add_left (by decide) _
    · exact Nat.lt_add_of_pos_right (by decide)
    · exact Nat.add_lt_add_left (by decide) _
    · exact Nat.lt_of_lt_of_le hlt1 (Nat.le_add_right _ _)
    · exact Nat.lt_of_lt_of_le hlt2 (Nat.le_add_right _ _)
  · intro hb
    simp only [List.mem_cons, List.not_mem_nil, or_false] at hb
    rcases hb with e | e | e | e | e | e | e
    · exact Nat.ne_of_lt (Nat.lt_of_lt_of_le hLs (Nat.le_add_right _ _)) e
    · exact Nat.ne_of_lt (Nat.lt_of_lt_of_le hLs (Nat.le_add_right _ _)) e
    · exact Nat.ne_of_lt (Nat.lt_of_lt_of_le hLs (Nat.le_add_right _ _)) e
    · exact Nat.ne_of_lt hLs e
    · exact Nat.ne_of_lt (Nat.lt_of_lt_of_le hLs (Nat.le_add_right _ _)) e
    · exact (N _ hl1).2.1 e.symm
    · exact (N _ hl2).2.1 e.symm
  · intro b hb
    simp only [List.mem_cons, List.not_mem_nil, or_false] at hb
    rcases hb with rfl | rfl | rfl | rfl
    · exact fresh _ (Nat.le_add_right _ _)
    · exact fresh _ (Nat.le_add_right _ _)
    · exact fresh _ (Nat.le_refl _)
    · exact fresh _ (Nat.le_add_right _ _)
  · intro p hp hb
    have := Heap.lt_size (N p hp).1
    simp only [List.mem_cons, List.not_mem_nil, or_false] at hb
    rcases hb with e | e | e | e
    · exact Nat.ne_of_lt (Nat.lt_of_lt_of_le this (Nat.le_add_right _ _)) e
    · exact Nat.ne_of_lt (Nat.lt_of_lt_of_le this (Nat.le_add_right _ _)) e
    · exact Nat.ne_of_lt this e
    · exact Nat.ne_of_lt (Nat.lt_of_lt_of_le this (Nat.le_add_right _ _)) e
  · rintro i h b ⟨hz, hTI, ⟨x1, x2, hTO⟩, ⟨o1, ho1, _⟩, ⟨o2, ho2, _⟩, _⟩ hb
    simp only [List.mem_cons, List.not_mem_nil, or_false] at hb
    rcases hb with rfl | rfl | rfl | rfl
    · exact ⟨_, hz⟩
    · exact ⟨_, hTO⟩
    · exact ⟨_, ho1⟩
    · exact ⟨_, ho2⟩
  · rintro i v0 v1 zs own C oC D m₂ h tk E' hlt ⟨hv0, hv1⟩ hzs hC h0 h1 F₁ N₁
    obtain ⟨a1, u1, c1, r1, rfl, hm1, hu1, hx1⟩ := hr1.item hv0
    obtain ⟨a2, u2, c2, r2, rfl, hm2, hu2, hx2⟩ := hr2.item hv1
    refine wpAny_mono (turn i r1 r2 a1 a2 u1 u2 c1 c2 zs own C oC D m₂ h tk E' hx1 hx2 hm1 hu1 hm2 hu2 hC h0 h1 F₁ N₁) (fun y s₄ q => ?_) fun _ _ e => e
    obtain ⟨l, vs, c, h', tk', rfl, rfl, st, hn, hg, hi⟩ := q
    refine ⟨h', tk', [(l, listOf vs.toArray c)], rfl, st, fun p hp => ?_, ?_⟩
    · rw [List.mem_singleton.mp hp]; exact ⟨hn, hg⟩
    · have hz : (List.zipWith g rs1 rs2)[i]? = some (g r1 r2) := by rw [List.getElem?_zipWith, hx1, hx2]
      show RowsIn ((l, listOf vs.toArray c) :: own) (zs ++ [.ref l]) ((List.zipWith g rs1 rs2).take (i + 1))
      rw [List.take_add_one, hz]
      exact RowsIn.snoc (.head _) hi (hzs.mono fun _ hp => .tail _ hp)
  · rintro D h tk zs own F₁ N₁ hne hzs
    rw [en, List.take_of_length_le (by rw [List.length_zipWith, ← hlen, Nat.min_self]; exact Nat.le_refl _)] at hzs
    exact fin D h tk zs own F₁ N₁ hne hzs
end
section
variable {prog : Program} {w : World} {A : Around} {h₀ : Heap} {L : Addr} {m : Str → Option Value} {env : Env} {ct elt : PySem.Expr} {x : Str} {scope : Scope} {cl : List (Str × Addr)} {s : Shared} {S : List (Addr × Obj) → Prop} {Fin : List Value → List (Addr × Obj) → Prop} {news : List (Addr × Obj)}
noncomputable def TestEnd (h₀ : Heap) (L : Addr) (m : Str → Option Value) (s₁ : Shared) (all : List (Addr × Obj)) (P : Prop) (s₂ : Shared) : Prop := ∃ h' tk', s₂ = { s₁ with heap := h', toks := tk' } ∧ Fr h₀ L h' m ∧ News h₀ L h' all ∧ P
theorem testEnd_ {s₁ : Shared} {all all' : List (Addr × Obj)} {P : Prop} {h' : Heap} {tk' : Nat} (F : Fr h₀ L h' m) (N : News h₀ L h' all') (sub : ∀ p ∈ all, p ∈ all') (r : P) : TestEnd h₀ L m s₁ all P { s₁ with heap := h', toks := tk' } := ⟨h', tk', rfl, F, fun p hp => N p (sub p hp), r⟩
/-- a filter of a list of int lists by a test of them: it is empty just if each fails the test -/
theorem filt_rest {n : Nat} {its : Array Value} {vals : List Value} {rows : List (List Int)} {ok : List Int → Bool} (hr : RowsIn news vals rows) (hit : its = vals.toArray) (hn : n = its.size)
    (turn : Hold (∀ (i : Nat) r l vs c I oI C oC D m₂ ys h tk (E' : Value → Shared → Prop), rows[i]? = some r → (l, listOf vs.toArray c) ∈ news → IntsAre vs r → LCg.NsObj oC m₂ → m₂ x = some (.ref l) → Fr h₀ L h m → News h₀ L h ((I, oI) :: (C, oC) :: (D, LCg.lst ys) :: news) → LCg.Off3 I C D news →
      wpAny (model prog w) A (isTrue ct (compEnvC scope cl C env) (eval ct (compEnvC scope cl C env))) (fun b s' => TestEnd h₀ L m { s with heap := h, toks := tk } ((I, oI) :: (C, oC) :: (D, LCg.lst ys) :: news) (b = ok r) s') E' { s with heap := h, toks := tk }))
    (turn2 : Hold (∀ (i : Nat) r l vs c I oI C oC D m₂ ys h tk (E' : Value → Shared → Prop), rows[i]? = some r → (l, listOf vs.toArray c) ∈ news → IntsAre vs r → LCg.NsObj oC m₂ → m₂ x = some (.ref l) → Fr h₀ L h m → News h₀ L h ((I, oI) :: (C, oC) :: (D, LCg.lst ys) :: news) →
      wpAny (model prog w) A (eval elt (compEnvC scope cl C env)) (fun _ s' => TestEnd h₀ L m { s with heap := h, toks := tk } ((I, oI) :: (C, oC) :: (D, LCg.lst ys) :: news) True s') E' { s with heap := h, toks := tk }))
    (hS : S news) (fin : Hold (∀ ys, (ys = [] ↔ ∀ r ∈ rows, ok r = false) → Fin ys news)) : LCt.CompRestT prog w A h₀ L m env ct elt x scope cl s S (fun i v => its[i]? = some v) Fin n 0 [] news := by
  subst hit hn
  have key : ∀ (j i : Nat) (ys : List Value), i + j = vals.length → (ys = [] ↔ ∀ r ∈ rows.take i, ok r = false) → LCt.CompRestT prog w A h₀ L m env ct elt x scope cl s S (fun i v => vals.toArray[i]? = some v) Fin j i ys news := by
    intro j
    induction j with
    | zero =>
      intro i ys hi hy
      have e : i = rows.length := by have := hr.length; omega
      subst e
      rw [List.take_length] at hy
      exact LCt.CompRestT.zero (fin ys hy)
    | succ j ih =>
      intro i ys hi hy
      refine LCt.CompRestT.succ ?_
      intro v I oI C oC D m₂ h tk E' hv hC hx F N off ne
      obtain ⟨l, vs, c, r, rfl, hm, hu, hxr⟩ := hr.item (i := i) (by simpa using hv)
      refine wpAny_mono (turn i r l vs c I oI C oC D m₂ ys h tk E' hxr hm hu hC hx F N off) (fun b s₂ hq => ?_) fun _ _ e => e
      obtain ⟨h', tk', rfl, F', N', rfl⟩ := hq
      have ht : rows.take (i + 1) = rows.take i ++ [r] := by rw [List.take_add_one, hxr]; rfl
      cases hb : ok r with
      | false =>
        simp only [Bool.false_eq_true, if_false]
        refine ⟨h', tk', news, rfl, F', N', off, hS, ih (i + 1) ys (by omega) ?_⟩
        rw [ht]
        constructor
        · intro e r' hr'
          rcases List.mem_append.mp hr' with hr' | hr'
          · exact hy.mp e r' hr'
          · rw [List.mem_singleton.mp hr']; exact hb
        · intro e
          exact hy.mpr fun r' hr' => e r' (List.mem_append.mpr (.inl hr'))
      | true =>
        simp only [if_true]
        refine wpAny_mono (turn2 i r l vs c I oI C oC D m₂ ys h' tk' E' hxr hm hu hC hx F' N') (fun y s₃ hq => ?_) fun _ _ e => e
        obtain ⟨h2, tk2, rfl, F2, N2, _⟩ := hq
        refine ⟨h2, tk2, news, rfl, F2, N2, off, hS, ih (i + 1) (ys ++ [y]) (by omega) ?_⟩
        rw [ht]
        constructor
        · intro e; simp at e
        · intro e
          have := e r (List.mem_append.mpr (.inr (List.mem_singleton.mpr rfl)))
          rw [hb] at this; cases this
  have := key vals.length 0 [] (by omega) (by simp)
  rw [← List.size_toArray] at this
  exact this
/-- a list beside an empty list -/
theorem eq_empty {E : Value → Shared → Prop} {l b : Addr} {ys : List Value} {us : List Value} {Q : Value → Shared → Prop} (hl : s.heap.IsList l ys.toArray) (hb : s.heap.IsList b us.toArray) (he : us = []) (hu : A.units < cLine) (h : Q (.bool (decide (ys = []))) s) :
    wpAny (model prog w) A (compareOp .Eq (.ref l) (.ref b)) Q E s := by
  subst he
  cases ys with
  | nil => exact SeqAt.eq_listAt (e := fun _ => true) hl hb rfl hu (fun j h1 _ => absurd h1 (Nat.not_lt_zero _)) h
  | cons y ys => exact SeqAt.eq_list_lengthsAt hl hb (by simp) hu h
end

theorem anew_94d_help : True := by
  w_top off
  k_with_none
  k_with "sa enter" => (refine wpAny_call ?_; k_dflt (refine' enter_pure ?k1 ?k2 ?k3 ?k4 ?kA ?kF ?kK ?k6 ?k7 ?k8 ?k9 ?kB (by assumption) ?_ ?c2 ?c3 ?c4 ?c5; (case kA => exact rfl); (case kF => exact rfl); (case kK => assumption); (case k1 => k_asm); (case k2 => k_asm); (case k3 => k_asm); (case k4 => k_asm); (case k6 => k_is); (case k7 => k_is); (case k8 => ktr_room); (case k9 => exact BindsTo.of_eq rfl); (case c5 => decide); (case kB => exact locs rfl); (case c2 => exact rfl); (case c3 => exact rfl); (case c4 => exact rfl); k_whole); (with_reducible rename Below _ _ _ _ => kB'; clear kB'); (with_reducible rename Fr _ _ _ _ => kB'; clear kB'); (with_reducible rename Top _ _ _ _ _ _ => kB'; clear kB'); (rename Frag.In _ _ => kB'; clear kB'); intro L' h' F' N' B' X' T'; (try dsimp only); (try k_fold))
  k_with "sa leave list" => ((show LeaveP _ _ _ _); refine leaveP_ (by assumption) ⟨_, _, _, rfl, (News.fresh (by assumption) (List.Mem.head _)), (News.get (by assumption) (List.Mem.head _)), ?_⟩)
  k_with "execs cons Assign cons" => ((with_reducible refine wpAny_execs_cons ?_); try dsimp only)
  k_with "sa len" => (first | with_reducible assumption | exact List.length_take_le _ _ | omega | l_fact | ((simp only [rangeKs_length, List.length_map, List.length_append, List.length_cons, List.length_nil] at *); omega))
  k_with "sa enter cells" => (refine wpAny_call ?_; k_dflt (refine' enter_pureC ?k1 ?k2 ?k3 ?k4 ?kA ?kF ?kK ?k6 ?k7 ?k8 ?k9 ?kB ?kD (by assumption) ?_ ?c2 ?c3 ?c4; (case kA => exact rfl); (case kF => exact rfl); (case kK => assumption); (case k1 => k_asm); (case k2 => k_asm); (case k3 => k_asm); (case k4 => k_asm); (case k6 => k_is); (case k7 => k_is); (case k8 => ktr_room); (case k9 => exact BindsTo.of_eq rfl); (case kB => exact rfl); (case kD => decide +kernel); (case c2 => exact rfl); (case c3 => exact rfl); (case c4 => exact rfl); k_whole); (with_reducible rename Below _ _ _ _ => kB'; clear kB'); (with_reducible rename Fr _ _ _ _ => kB'; clear kB'); (with_reducible rename Top _ _ _ _ _ _ => kB'; clear kB'); (rename Frag.In _ _ => kB'; clear kB'); intro L' h' tk' cells' F' N' Y' B' X' T'; k_cells Y'; (try simp only [List.cons_append, List.nil_append, List.append_nil] at N'); (try dsimp only); (try k_fold))
  k_with "sa ne" => (first | with_reducible assumption | (refine Ne.symm ?_; with_reducible assumption) | (refine Nat.ne_of_gt ?_; assumption) | (refine Nat.ne_of_lt ?_; assumption) | ((rename _ ∧ _ => h9); first | (refine Ne.symm ?_; simp only [h9, ne_eq, not_false_eq_true]; done) | (simp only [h9, ne_eq, not_false_eq_true]; done) | (refine Nat.ne_of_gt ?_; simp only [h9]; done) | (refine Nat.ne_of_lt ?_; simp only [h9]; done) | (clear h9; k_extra "sa ne")))
  k_with "call ref" => (k_here; (with_reducible show wpAny _ _ (PySem.call (Value.ref 55) [Value.ref _]) _ _ _); k_dflt (refine' use_li (mtrim_says (by is_list) (by l_ints) (by k_extra "sa len")) (by k_asm) (by k_asm) (by k_asm) (by k_asm) (by k_asm) (by first | exact rfl | assumption) (by ktr_room) (by ktr_units) ?_; k_whole); intro l' vs' n' h' tk' F' N' i' ne' st'; (try simp only [List.forall_mem_cons, List.not_mem_nil, false_implies, implies_true, and_true] at ne'); (try k_sweep); walk_say "MTRIM"; (rename IntsAre _ (trimF _) => hI9); (have hC9 := trimF_lenI hI9))
  k_with "call ref" => (k_here; (with_reducible show wpAny _ _ (PySem.call (Value.ref 69) [Value.ref _, Value.ref _, Value.int _ _]) _ _ _); k_dflt (refine' use_li (madd_says (by is_list) (by l_ints) (by k_extra "sa len") (by is_list) (by l_ints) (by k_extra "sa len") (by omega) (by omega)) (by k_asm) (by k_asm) (by k_asm) (by k_asm) (by k_asm) (by first | exact rfl | assumption) (by ktr_room) (by ktr_units) ?_; k_whole); intro l' vs' n' h' tk' F' N' i' ne' st'; (try simp only [List.forall_mem_cons, List.not_mem_nil, false_implies, implies_true, and_true] at ne'); (try k_sweep); walk_say "MADD")
  k_with "call ref" => (k_here; (with_reducible show wpAny _ _ (PySem.call (Value.ref 86) [Value.ref _, Value.int _ _, Value.int _ _]) _ _ _); k_dflt (refine' use_li (mscale_says (by is_list) (by l_ints) (by k_extra "sa len") (by omega) (by omega) (by omega) (by omega)) (by k_asm) (by k_asm) (by k_asm) (by k_asm) (by k_asm) (by first | exact rfl | assumption) (by ktr_room) (by ktr_units) ?_; k_whole); intro l' vs' n' h' tk' F' N' i' ne' st'; (try simp only [List.forall_mem_cons, List.not_mem_nil, false_implies, implies_true, and_true] at ne'); (try k_sweep); walk_say "MSCALE")
  k_with "call ref" => (k_here; (with_reducible show wpAny _ _ (PySem.call (Value.ref 93) [Value.ref _, Value.ref _, Value.int _ _]) _ _ _); k_dflt (refine' use_li (mmul_says (by is_list) (by l_ints) (by k_extra "sa len") (by assumption) (by is_list) (by l_ints) (by k_extra "sa len") (by omega) (by omega)) (by k_asm) (by k_asm) (by k_asm) (by k_asm) (by k_asm) (by first | exact rfl | assumption) (by ktr_room) (by ktr_units) ?_; k_whole); intro l' vs' n' h' tk' F' N' i' ne' st'; (try simp only [List.forall_mem_cons, List.not_mem_nil, false_implies, implies_true, and_true] at ne'); (try k_sweep); walk_say "MMUL")
  k_with "call ref" => (k_here; (with_reducible show wpAny _ _ (PySem.call (Value.ref 48) [Value.int _ _, Value.int _ _]) _ _ _); k_dflt (refine' use_int (inv_says (by first | assumption | decide) (by first | assumption | omega)) (by k_asm) (by k_asm) (by k_asm) (by k_asm) (by k_asm) (by first | exact rfl | assumption) (by ktr_room) (by ktr_units) ?_; k_whole); intro t1' h' tk' F' N' st'; (try k_sweep); walk_say "INV")
  k_with "call ref" => (k_here; (with_reducible show wpAny _ _ (PySem.call (Value.ref 100) [Value.ref _, Value.ref _, Value.int _ _]) _ _ _); k_dflt (refine' use_p2 (mdivmod_says (by is_list) (by l_ints) (by k_extra "sa len") (by is_list) (by l_ints) (by k_extra "sa len") (by k_extra "sa len") (by assumption) (by assumption) (by assumption)) (by k_asm) (by k_asm) (by k_asm) (by k_asm) (by k_asm) (by first | exact rfl | assumption) (by ktr_room) (by ktr_units) ?_; k_whole); intro l' v1' l2' n' vs' c' h' tk' F' N' i' ne' ne2' st'; walk_say "MDIVMOD"; (try simp only [List.forall_mem_cons, List.not_mem_nil, false_implies, implies_true, and_true] at ne' ne2'); (try k_sweep))
  k_with "call ref" => (k_here; (with_reducible show wpAny _ _ (PySem.call (Value.ref 147) [Value.ref _, Value.ref _, Value.ref _, Value.int _ _]) _ _ _); k_dflt (refine' use_li (gmul_says (by is_list) (by l_ints) (by k_extra "sa len") (by first | assumption | exact small_nil) (by is_list) (by l_ints) (by k_extra "sa len") (by is_list) (by assumption) (by assumption)) (by k_asm) (by k_asm) (by k_asm) (by k_asm) (by k_asm) (by first | exact rfl | assumption) (by ktr_room) (by ktr_units) ?_; k_whole); intro l' vs' n' h' tk' F' N' i' ne' st'; (try simp only [List.forall_mem_cons, List.not_mem_nil, false_implies, implies_true, and_true] at ne'); (try k_sweep); walk_say "GMUL"; (rename IntsAre _ (gmulF _ _ _ _) => hI9); (have hC9 := gmulF_lenI hI9))
  k_with "call ref" => (k_here; (with_reducible show wpAny _ _ (PySem.call (Value.ref 86) [Value.ref _, Value.int _ _, Value.int _ _]) _ _ _); k_dflt (refine' use_li (mscale_says (by is_list) (by l_ints) (by k_extra "sa len") (by omega) (by omega) (by omega) (by omega)) (by k_asm) (by k_asm) (by k_asm) (by k_asm) (by k_asm) (by first | exact rfl | assumption) (by ktr_room) (by ktr_units) ?_; k_whole); intro l' vs' n' h' tk' F' N' i' ne' st'; (try simp only [List.forall_mem_cons, List.not_mem_nil, false_implies, implies_true, and_true] at ne'); (try k_sweep); walk_say "MSCALE2"; (rename IntsAre _ (mscaleF _ _ _) => hI9); (have hC9 := mscaleF_lenI hI9); (try simp only [List.length_cons, List.length_nil] at hC9))
  k_with "call ref" => (k_here; (with_reducible show wpAny _ _ (PySem.call (Value.ref 69) [Value.ref _, Value.ref _, Value.int _ _]) _ _ _); k_dflt (refine' use_li (madd_says (by is_list) (by l_ints) (by k_extra "sa len") (by is_list) (by l_ints) (by k_extra "sa len") (by omega) (by omega)) (by k_asm) (by k_asm) (by k_asm) (by k_asm) (by k_asm) (by first | exact rfl | assumption) (by ktr_room) (by ktr_units) ?_; k_whole); intro l' vs' n' h' tk' F' N' i' ne' st'; (try simp only [List.forall_mem_cons, List.not_mem_nil, false_implies, implies_true, and_true] at ne'); (try k_sweep); walk_say "MADD2"; (rename IntsAre _ (maddF _ _ _) => hI9); (have hC9 := maddF_lenI hI9))
  k_with "exec For Name Subscript cons nil" => (k_here; (rename Fr _ _ _ _ => lF'); (with_unfolding_all (refine' For_invVF lF' (by exact rfl) (by exact rfl) ?_; k_whole)))
  k_with "exec For Name Name cons nil" => (k_here; (rename Fr _ _ _ _ => lF'); (with_unfolding_all (refine' For_invVF lF' (by exact rfl) (by exact rfl) ?_; k_whole)))
  k_with "call ref" => (k_here; (with_reducible show wpAny _ _ (PySem.call (Value.ref 168) [Value.ref _, Value.ref _, Value.ref _, Value.int _ _]) _ _ _); k_dflt (refine' use_li (gat_says (by is_list) (by l_ints) (by k_extra "sa len") (by assumption) (by is_list) (by l_ints) (by k_extra "sa len") (by assumption) (by is_list) (by assumption) (by assumption)) (by k_asm) (by k_asm) (by k_asm) (by k_asm) (by k_asm) (by first | exact rfl | assumption) (by ktr_room) (by ktr_units) ?_; k_whole); intro l' vs' n' h' tk' F' N' i' ne' st'; walk_say "GAT"; (try k_sweep))
  k_with "call ref" => (k_here; (with_reducible show wpAny _ _ (PySem.call (Value.ref 161) [Value.ref _, Value.int _ _, Value.ref _, Value.int _ _]) _ _ _); k_dflt (refine' use_li (gpow_says (by is_list) (by l_ints) (by k_extra "sa len") (by assumption) (by omega) (by omega) (by is_list) (by assumption) (by assumption)) (by k_asm) (by k_asm) (by k_asm) (by k_asm) (by k_asm) (by first | exact rfl | assumption) (by ktr_room) (by ktr_units) ?_; k_whole); intro l' vs' n' h' tk' F' N' i' ne' st'; walk_say "GPOW"; (try k_sweep))
  k_with "call ref" => (k_here; (with_reducible show wpAny _ _ (PySem.call (Value.ref 128) [Value.int _ _, Value.int _ _]) _ _ _); k_dflt (refine' use_li (count_says (by omega) (by omega) (by omega) (by omega)) (by k_asm) (by k_asm) (by k_asm) (by k_asm) (by k_asm) (by first | exact rfl | assumption) (by ktr_room) (by ktr_units) ?_; k_whole); intro l' vs' n' h' tk' F' N' i' ne' st'; (try simp only [List.forall_mem_cons, List.not_mem_nil, false_implies, implies_true, and_true] at ne'); (try k_sweep); walk_say "COUNT")
  k_with "call ref" => (k_here; (with_reducible show wpAny _ _ (PySem.call (Value.ref 135) [Value.ref _, Value.int _ _]) _ _ _); k_dflt (refine' use_int (size_says (by is_list) (by assumption) (by assumption)) (by k_asm) (by k_asm) (by k_asm) (by k_asm) (by k_asm) (by first | exact rfl | assumption) (by ktr_room) (by ktr_units) ?_; k_whole); intro t1' h' tk' F' N' st'; (try k_sweep); walk_say "SIZE")
  k_with "CompSrc" => (refine hold_of ?_)
  k_with "sa mem" => (first | with_reducible assumption | exact List.Mem.head _ | (refine List.Mem.tail _ ?_; k_extra "sa mem") | (refine List.mem_append.mpr (Or.inr ?_); k_extra "sa mem") | (refine List.mem_append.mpr (Or.inl ?_); k_extra "sa mem"))
  k_with "call ref" => (k_here; (with_reducible show wpAny _ _ (PySem.call (Value.ref 188) [Value.ref _, Value.int _ _]) _ _ _); k_dflt (refine' take_use (by k_asm) (by k_asm) (by k_asm) (by k_asm) (by k_asm) (by first | exact rfl | assumption) (by ktr_room) (by ktr_units) (by (intro o9; k_upd)) (by k_extra "sa mem") (by k_ne) (by l_ints) (by k_extra "sa len") (by omega) (by first | with_reducible assumption | omega) (by omega) (by omega) ?_; k_whole); intro x9 t9 tx9 c9 h' tk' hx9 hy9 F' N'; walk_say "TAKE"; (try dsimp only at N'); (try k_sweep))
  k_with "call ref" => (k_here; (with_reducible show wpAny _ _ (PySem.call (Value.ref 140) [Value.ref _, Value.int _ _]) _ _ _); k_dflt (refine' rows_use (things_says (by is_list) (by assumption) (by exact FieldOk.isSize (by assumption))) (by k_asm) (by k_asm) (by k_asm) (by k_asm) (by k_asm) (by first | exact rfl | assumption) (by ktr_room) (by ktr_units) ?_; k_whole); intro l' ys' c' own' h' tk' F' N' hr' ne' off'; walk_say "THINGS"; (try simp only [List.forall_mem_cons, List.not_mem_nil, false_implies, implies_true, and_true] at ne'); (try simp only [List.map_cons, List.map_nil] at off'); (try simp only [List.cons_append, List.nil_append, List.append_assoc] at N'); (try k_sweep))
  k_with "subscriptTail" => (k_here; (with_reducible show wpAny _ _ (subscriptTail _ _ (Value.ref 181) (Value.int _ _)) _ _ _); refine hold_of ?_)
  k_with "call builtin:len" => (k_here; (with_reducible show wpAny _ _ (PySem.call (Value.builtin "len") [Value.ref _]) _ _ _); (rename RowsIn _ _ _ => hr9); k_dflt (refine' len_rows (by k_asm) (by k_extra "sa mem") hr9 (by first | exact thingsF_length (by omega) | assumption) (by omega) ?_; k_whole); walk_say "LENROWS")
  k_with "eval ListComp" => ((with_reducible show wpAny _ _ (eval (PySem.Expr.ListComp _ (PySem.Comprehension.mk (PySem.Expr.Tuple _ _ _) _ _ _ :: _) _ _) _) _ _ _); refine hold_of ?_)
  k_with "call type:enumerate" => ((with_reducible show wpAny _ _ (PySem.call (Value.type "enumerate") _) (Src2X _ _ _ _ _ _ _ _ _ _ _ _ _ _ _) _ _); refine hold_of ?_)
  k_with "call type:zip" => ((with_reducible show wpAny _ _ (PySem.call (Value.type "zip") _) (Src2N _ _ _ _ _ _ _ _ _ _ _ _ _) _ _); refine hold_of ?_)
  k_with "call builtin:max" => (refine hold_of ?_)
  trivial
theorem srcAt_ {h₀ : Heap} {ax : Addr} {vs : List Value} {c : Nat} {news : List (Addr × Obj)} (h : (ax, listOf vs.toArray c) ∈ news) : LCg.SrcAt h₀ ax vs.toArray news := Or.inr ⟨_, h, rfl, _, rfl⟩
theorem rows_at {h₀ h : Heap} {L : Addr} {news own : List (Addr × Obj)} {ys : List Value} {rows : List (List Int)} (N : News h₀ L h news) (hr : RowsIn own ys rows) (sub : ∀ p ∈ own, p ∈ news) : RowsAt h ys rows := RowsIn.at N (hr.mono sub)
theorem gatF_ok {f a ms : List Int} {q : Int} (hM : IsMod ms q) : Small (gatF f a ms q) ∧ (gatF f a ms q).length ≤ 5 := by
  have hq := hM.prime
  have go : ∀ (g acc : List Int), Small acc ∧ acc.length ≤ 5 → Small (g.foldl (gatStep a ms q) acc) ∧ (g.foldl (gatStep a ms q) acc).length ≤ 5 := by
    intro g
    induction g with
    | nil => exact fun acc h => h
    | cons x g ih => exact fun acc _ => ih _ ⟨gatStep_small (by omega) (by omega), gatStep_length hM⟩
  exact go _ _ ⟨small_nil, Nat.zero_le _⟩
theorem gmulF_len {a b ms : List Int} {q : Int} (hM : IsMod ms q) : (gmulF a b ms q).length ≤ 10 := Nat.le_trans mrestF_length (by have := hM.many; omega)
theorem powF_len {a ms : List Int} {n q : Int} (hM : IsMod ms q) : (powF a n ms q).length ≤ 10 := by
  have go : ∀ (k n : Nat) (g s : List Int), g.length ≤ 10 → (powLoop ms q k n g s).length ≤ 10 := by
    intro k
    induction k with
    | zero => exact fun n g s h => h
    | succ k ih =>
      intro n g s h
      unfold powLoop
      split
      · exact h
      · refine ih _ _ _ ?_
        split
        · exact gmulF_len hM
        · exact h
  exact go _ _ _ _ (by simp)
theorem filt_zero {f ms : List Int} {q n k : Int} {ysF : List Value} (h : ysF = [] ↔ ∀ r ∈ (thingsF n q).map (fun r => gatF (trimF f) r ms q), (!decide (r = [])) = false) (ok : LawOk q ms n f k) : decide (ysF = []) = decide (trimF f = []) := by
  rw [decide_eq_decide, h, ← ok.zero]
  simp
theorem zip_map {α β γ δ : Type} (g : β → γ → δ) (a : α → β) (b : α → γ) : ∀ L : List α, List.zipWith g (L.map a) (L.map b) = L.map fun r => g (a r) (b r)
  | [] => rfl
  | x :: L => by rw [List.map_cons, List.map_cons, List.zipWith_cons_cons, zip_map g a b L]; rfl
theorem flip_ne {a b : Bool} (h : a = b) (h' : (a != b) = true) : False := by subst h; simp at h'
theorem most_len {f : List Int} {m : Int} (h : f.length = m.toNat) (h2 : 2 ≤ m) : (f.length : Int) = m := by omega
/-- a cut: whichever way a new list of ints is made -/
noncomputable def CutInts (h₀ : Heap) (L : Addr) (m : Str → Option Value) (s : Shared) (news : List (Addr × Obj)) (ns : List Int) (v : Value) (s' : Shared) : Prop :=
  ∃ l vs c h' tk', v = .ref l ∧ s' = { s with heap := h', toks := tk' } ∧ Fr h₀ L h' m ∧ News h₀ L h' ((l, listOf vs.toArray c) :: news) ∧ IntsAre vs ns
theorem cutInts_ {h₀ : Heap} {L l : Addr} {m : Str → Option Value} {s : Shared} {news : List (Addr × Obj)} {ns ns' : List Int} {vs : List Value} {c : Nat} {h' : Heap} {tk' : Nat} (F : Fr h₀ L h' m) (N : News h₀ L h' ((l, listOf vs.toArray c) :: news)) (hi : IntsAre vs ns') (e : ns' = ns) :
    CutInts h₀ L m s news ns (.ref l) { s with heap := h', toks := tk' } := by
  subst e; exact ⟨l, vs, c, h', tk', rfl, rfl, F, N, hi⟩
theorem cut_ints {prog : Program} {w : World} {A : Around} {e : PySem.Expr} {env : Env} {h₀ : Heap} {L : Addr} {m : Str → Option Value} {s : Shared} {news : List (Addr × Obj)} {Q E : Value → Shared → Prop} (ns : List Int)
    (F : Fr h₀ L s.heap m) (N : News h₀ L s.heap news)
    (h : wpAny (model prog w) A (eval e env) (CutInts h₀ L m s news ns) E s)
    (k : ∀ l vs c h' tk', Fr h₀ L h' m → News h₀ L h' ((l, listOf vs.toArray c) :: news) → IntsAre vs ns → Q (.ref l) { s with heap := h', toks := tk' }) : wpAny (model prog w) A (eval e env) Q E s :=
  wpAny_mono h (fun v s' hc => by
    obtain ⟨l, vs, c, h', tk', rfl, rfl, F, N, hi⟩ := hc
    exact k l vs c h' tk' F N hi) fun _ _ e => e
theorem pow_1 {ms : List Int} {q n k : Int} {f : List Int} (ok : LawOk q ms n f k) (h : 0 < k) (h' : k.fmod (n - 1) = 0) : [q - 1] = totalF ((thingsF n q).map fun r => powF r k ms q) q := by rw [ok.pow, if_pos ⟨h, h'⟩]
theorem pow_2 {ms : List Int} {q n k : Int} {f : List Int} (ok : LawOk q ms n f k) (h' : k.fmod (n - 1) ≠ 0) : [] = totalF ((thingsF n q).map fun r => powF r k ms q) q := by rw [ok.pow, if_neg fun h => h' h.2]
theorem pow_3 {ms : List Int} {q n k : Int} {f : List Int} (ok : LawOk q ms n f k) (h' : ¬ 0 < k) : [] = totalF ((thingsF n q).map fun r => powF r k ms q) q := by rw [ok.pow, if_neg fun h => h' h.1]
theorem f_size {f : List Int} {m : Int} (h : f.length = m.toNat) (h2 : m ≤ 7) : f.length ≤ sizeLine := by rw [PySem.sizeLine_eq]; omega
theorem things_size {n q : Int} (h : 0 ≤ n) (h' : n ≤ 9) : (thingsF n q).length ≤ sizeLine := by
  have := thingsF_length (n := n) (q := q) h
  rw [PySem.sizeLine_eq]; omega
theorem gat_row {rows : List (List Int)} {f ms r : List Int} {q : Int} {i : Nat} (hM : IsMod ms q) (h : (rows.map fun r => gatF f r ms q)[i]? = some r) : Small r ∧ r.length ≤ 10 := by
  obtain ⟨a, _, rfl⟩ := List.mem_map.mp (List.mem_of_getElem? h)
  have := gatF_ok (f := f) (a := a) hM
  exact ⟨this.1, Nat.le_trans this.2 (by decide)⟩
theorem pow_row {rows : List (List Int)} {ms r : List Int} {n q : Int} {i : Nat} (hM : IsMod ms q) (h : (rows.map fun r => powF r n ms q)[i]? = some r) : r.length ≤ 10 := by
  obtain ⟨a, _, rfl⟩ := List.mem_map.mp (List.mem_of_getElem? h)
  exact powF_len hM
theorem mul_rows {rows : List (List Int)} {ms : List Int} {q : Int} (hM : IsMod ms q) {a b : List Int → List Int} : ∀ r ∈ rows.map fun r => gmulF (a r) (b r) ms q, r.length ≤ 10 := fun r hr => by
  obtain ⟨a, _, rfl⟩ := List.mem_map.mp hr
  exact gmulF_len hM
theorem rows_zip {own : List (Addr × Obj)} {ys : List Value} {rows : List (List Int)} {ms : List Int} {q : Int} {a b : List Int → List Int} (h : RowsIn own ys (List.zipWith (fun x y => gmulF x y ms q) (rows.map a) (rows.map b))) : RowsIn own ys (rows.map fun r => gmulF (a r) (b r) ms q) := by
  rw [zip_map] at h; exact h
theorem val_1 {ms : List Int} {q n k : Int} {f : List Int} (ok : LawOk q ms n f k) (h : 0 < (0 - (numF f k n).sum).fmod q) : [(0 - (numF f k n).sum).fmod q] = totalF ((thingsF n q).map fun r => gmulF (gatF (trimF f) r ms q) (powF r k ms q) ms q) q := by rw [ok.val, if_pos h]
theorem val_2 {ms : List Int} {q n k : Int} {f : List Int} (ok : LawOk q ms n f k) (h : ¬ 0 < (0 - (numF f k n).sum).fmod q) : [] = totalF ((thingsF n q).map fun r => gmulF (gatF (trimF f) r ms q) (powF r k ms q) ms q) q := by rw [ok.val, if_neg h]
theorem lt_name {x : Int} (_ : x < 9) : ∃ y, y = x := ⟨x, rfl⟩
theorem k30 {m : Int} (h2 : m ≤ 7) : 0 + 1 + ((m.toNat : Nat) : Int) ≤ 30 := by omega
theorem toNat_sub0 (m : Int) : (m - 0).toNat = m.toNat := by rw [Int.sub_zero]
theorem nat_size {m : Int} (h2 : m ≤ 7) : m.toNat ≤ sizeLine := by rw [PySem.sizeLine_eq]; omega
theorem pos_size {f : List Int} {m : Int} (h : f.length = m.toNat) (h2 : m ≤ 7) : (posF f).length + [(0 : Int)].length ≤ sizeLine := by
  have := posF_length f
  rw [PySem.sizeLine_eq, List.length_singleton]; omega
theorem trim_small {f : List Int} {q : Int} (h : ∀ y ∈ f, 0 ≤ y ∧ y < q) (hq : q ≤ 7) : Small (trimF f) := fun x hx => by
  have := h x (trimF_mem hx)
  omega
theorem trim_len {f : List Int} {m : Int} (h : f.length = m.toNat) (h2 : m ≤ 7) : (trimF f).length ≤ 10 := by
  have := trimF_length f
  omega
theorem rows_size {own : List (Addr × Obj)} {ys : List Value} {n q : Int} (hr : RowsIn own ys (thingsF n q)) (h : 3 ≤ n) (h' : n ≤ 9) : ys.toArray.size ≤ sizeLine := by
  rw [List.size_toArray, hr.length]; exact things_size (by omega) h'
theorem rows_sizeM {own : List (Addr × Obj)} {ys : List Value} {n q : Int} {g : List Int → List Int} (hr : RowsIn own ys ((thingsF n q).map g)) (h : 3 ≤ n) (h' : n ≤ 9) : ys.toArray.size ≤ sizeLine := by
  rw [List.size_toArray, hr.length, List.length_map]; exact things_size (by omega) h'
theorem rows_map {own : List (Addr × Obj)} {ys : List Value} {rows : List (List Int)} {g : List Int → List Int} (hr : RowsIn own ys rows) : (rows.map g).length = ys.toArray.size := by
  rw [List.length_map, List.size_toArray, hr.length]
/-! a ledger's part -/
section
variable {a : Addr × Obj} {l l' own : List (Addr × Obj)}
theorem sub_all : ∀ p ∈ l, p ∈ l := fun _ h => h
theorem sub_skip (s : ∀ p ∈ l', p ∈ l) : ∀ p ∈ l', p ∈ a :: l := fun p hp => .tail _ (s p hp)
theorem sub_skipL (s : ∀ p ∈ l', p ∈ l) : ∀ p ∈ l', p ∈ own ++ l := fun p hp => List.mem_append.mpr (.inr (s p hp))
theorem sub_take (s : ∀ p ∈ l', p ∈ l) : ∀ p ∈ a :: l', p ∈ a :: l := fun p hp => by
  rcases List.mem_cons.mp hp with rfl | hp
  · exact .head _
  · exact .tail _ (s p hp)
theorem news_sub {h₀ h : Heap} {L : Addr} (N : News h₀ L h l) (s : ∀ p ∈ l', p ∈ l) : News h₀ L h l' := fun p hp => N p (s p hp)
end

theorem anew_94e_assign : True := by
  w_top off
  k_with_none
  k_with "sa enter" => (refine wpAny_call ?_; k_dflt (refine' enter_pure ?k1 ?k2 ?k3 ?k4 ?kA ?kF ?kK ?k6 ?k7 ?k8 ?k9 ?kB (by assumption) ?_ ?c2 ?c3 ?c4 ?c5; (case kA => exact rfl); (case kF => exact rfl); (case kK => assumption); (case k1 => k_asm); (case k2 => k_asm); (case k3 => k_asm); (case k4 => k_asm); (case k6 => k_is); (case k7 => k_is); (case k8 => ktr_room); (case k9 => exact BindsTo.of_eq rfl); (case c5 => decide); (case kB => exact locs rfl); (case c2 => exact rfl); (case c3 => exact rfl); (case c4 => exact rfl); k_whole); (with_reducible rename Below _ _ _ _ => kB'; clear kB'); (with_reducible rename Fr _ _ _ _ => kB'; clear kB'); (with_reducible rename Top _ _ _ _ _ _ => kB'; clear kB'); (rename Frag.In _ _ => kB'; clear kB'); intro L' h' F' N' B' X' T'; (try dsimp only); (try k_fold))
  k_with "sa leave list" => ((show LeaveP _ _ _ _); refine leaveP_ (by assumption) ⟨_, _, _, rfl, (News.fresh (by assumption) (List.Mem.head _)), (News.get (by assumption) (List.Mem.head _)), ?_⟩)
  k_with "execs cons Assign cons" => ((with_reducible refine wpAny_execs_cons ?_); try dsimp only)
  k_with "sa len" => (first | with_reducible assumption | exact List.length_take_le _ _ | omega | l_fact | ((simp only [rangeKs_length, List.length_map, List.length_append, List.length_cons, List.length_nil] at *); omega))
  k_with "sa enter cells" => (refine wpAny_call ?_; k_dflt (refine' enter_pureC ?k1 ?k2 ?k3 ?k4 ?kA ?kF ?kK ?k6 ?k7 ?k8 ?k9 ?kB ?kD (by assumption) ?_ ?c2 ?c3 ?c4; (case kA => exact rfl); (case kF => exact rfl); (case kK => assumption); (case k1 => k_asm); (case k2 => k_asm); (case k3 => k_asm); (case k4 => k_asm); (case k6 => k_is); (case k7 => k_is); (case k8 => ktr_room); (case k9 => exact BindsTo.of_eq rfl); (case kB => exact rfl); (case kD => decide +kernel); (case c2 => exact rfl); (case c3 => exact rfl); (case c4 => exact rfl); k_whole); (with_reducible rename Below _ _ _ _ => kB'; clear kB'); (with_reducible rename Fr _ _ _ _ => kB'; clear kB'); (with_reducible rename Top _ _ _ _ _ _ => kB'; clear kB'); (rename Frag.In _ _ => kB'; clear kB'); intro L' h' tk' cells' F' N' Y' B' X' T'; k_cells Y'; (try simp only [List.cons_append, List.nil_append, List.append_nil] at N'); (try dsimp only); (try k_fold))
  k_with "sa ne" => (first | with_reducible assumption | (refine Ne.symm ?_; with_reducible assumption) | (refine Nat.ne_of_gt ?_; assumption) | (refine Nat.ne_of_lt ?_; assumption) | ((rename _ ∧ _ => h9); first | (refine Ne.symm ?_; simp only [h9, ne_eq, not_false_eq_true]; done) | (simp only [h9, ne_eq, not_false_eq_true]; done) | (refine Nat.ne_of_gt ?_; simp only [h9]; done) | (refine Nat.ne_of_lt ?_; simp only [h9]; done) | (clear h9; k_extra "sa ne")))
  k_with "call ref" => (k_here; (with_reducible show wpAny _ _ (PySem.call (Value.ref 55) [Value.ref _]) _ _ _); k_dflt (refine' use_li (mtrim_says (by is_list) (by l_ints) (by k_extra "sa len")) (by k_asm) (by k_asm) (by k_asm) (by k_asm) (by k_asm) (by first | exact rfl | assumption) (by ktr_room) (by ktr_units) ?_; k_whole); intro l' vs' n' h' tk' F' N' i' ne' st'; (try simp only [List.forall_mem_cons, List.not_mem_nil, false_implies, implies_true, and_true] at ne'); (try k_sweep); walk_say "MTRIM"; (rename IntsAre _ (trimF _) => hI9); (have hC9 := trimF_lenI hI9))
  k_with "call ref" => (k_here; (with_reducible show wpAny _ _ (PySem.call (Value.ref 69) [Value.ref _, Value.ref _, Value.int _ _]) _ _ _); k_dflt (refine' use_li (madd_says (by is_list) (by l_ints) (by k_extra "sa len") (by is_list) (by l_ints) (by k_extra "sa len") (by omega) (by omega)) (by k_asm) (by k_asm) (by k_asm) (by k_asm) (by k_asm) (by first | exact rfl | assumption) (by ktr_room) (by ktr_units) ?_; k_whole); intro l' vs' n' h' tk' F' N' i' ne' st'; (try simp only [List.forall_mem_cons, List.not_mem_nil, false_implies, implies_true, and_true] at ne'); (try k_sweep); walk_say "MADD")
  k_with "call ref" => (k_here; (with_reducible show wpAny _ _ (PySem.call (Value.ref 86) [Value.ref _, Value.int _ _, Value.int _ _]) _ _ _); k_dflt (refine' use_li (mscale_says (by is_list) (by l_ints) (by k_extra "sa len") (by omega) (by omega) (by omega) (by omega)) (by k_asm) (by k_asm) (by k_asm) (by k_asm) (by k_asm) (by first | exact rfl | assumption) (by ktr_room) (by ktr_units) ?_; k_whole); intro l' vs' n' h' tk' F' N' i' ne' st'; (try simp only [List.forall_mem_cons, List.not_mem_nil, false_implies, implies_true, and_true] at ne'); (try k_sweep); walk_say "MSCALE")
  k_with "call ref" => (k_here; (with_reducible show wpAny _ _ (PySem.call (Value.ref 93) [Value.ref _, Value.ref _, Value.int _ _]) _ _ _); k_dflt (refine' use_li (mmul_says (by is_list) (by l_ints) (by k_extra "sa len") (by assumption) (by is_list) (by l_ints) (by k_extra "sa len") (by omega) (by omega)) (by k_asm) (by k_asm) (by k_asm) (by k_asm) (by k_asm) (by first | exact rfl | assumption) (by ktr_room) (by ktr_units) ?_; k_whole); intro l' vs' n' h' tk' F' N' i' ne' st'; (try simp only [List.forall_mem_cons, List.not_mem_nil, false_implies, implies_true, and_true] at ne'); (try k_sweep); walk_say "MMUL")
  k_with "call ref" => (k_here; (with_reducible show wpAny _ _ (PySem.call (Value.ref 48) [Value.int _ _, Value.int _ _]) _ _ _); k_dflt (refine' use_int (inv_says (by first | assumption | decide) (by first | assumption | omega)) (by k_asm) (by k_asm) (by k_asm) (by k_asm) (by k_asm) (by first | exact rfl | assumption) (by ktr_room) (by ktr_units) ?_; k_whole); intro t1' h' tk' F' N' st'; (try k_sweep); walk_say "INV")
  k_with "call ref" => (k_here; (with_reducible show wpAny _ _ (PySem.call (Value.ref 100) [Value.ref _, Value.ref _, Value.int _ _]) _ _ _); k_dflt (refine' use_p2 (mdivmod_says (by is_list) (by l_ints) (by k_extra "sa len") (by is_list) (by l_ints) (by k_extra "sa len") (by k_extra "sa len") (by assumption) (by assumption) (by assumption)) (by k_asm) (by k_asm) (by k_asm) (by k_asm) (by k_asm) (by first | exact rfl | assumption) (by ktr_room) (by ktr_units) ?_; k_whole); intro l' v1' l2' n' vs' c' h' tk' F' N' i' ne' ne2' st'; walk_say "MDIVMOD"; (try simp only [List.forall_mem_cons, List.not_mem_nil, false_implies, implies_true, and_true] at ne' ne2'); (try k_sweep))
  k_with "call ref" => (k_here; (with_reducible show wpAny _ _ (PySem.call (Value.ref 147) [Value.ref _, Value.ref _, Value.ref _, Value.int _ _]) _ _ _); k_dflt (refine' use_li (gmul_says (by is_list) (by l_ints) (by k_extra "sa len") (by first | assumption | exact small_nil) (by is_list) (by l_ints) (by k_extra "sa len") (by is_list) (by assumption) (by assumption)) (by k_asm) (by k_asm) (by k_asm) (by k_asm) (by k_asm) (by first | exact rfl | assumption) (by ktr_room) (by ktr_units) ?_; k_whole); intro l' vs' n' h' tk' F' N' i' ne' st'; (try simp only [List.forall_mem_cons, List.not_mem_nil, false_implies, implies_true, and_true] at ne'); (try k_sweep); walk_say "GMUL"; (rename IntsAre _ (gmulF _ _ _ _) => hI9); (have hC9 := gmulF_lenI hI9))
  k_with "call ref" => (k_here; (with_reducible show wpAny _ _ (PySem.call (Value.ref 86) [Value.ref _, Value.int _ _, Value.int _ _]) _ _ _); k_dflt (refine' use_li (mscale_says (by is_list) (by l_ints) (by k_extra "sa len") (by omega) (by omega) (by omega) (by omega)) (by k_asm) (by k_asm) (by k_asm) (by k_asm) (by k_asm) (by first | exact rfl | assumption) (by ktr_room) (by ktr_units) ?_; k_whole); intro l' vs' n' h' tk' F' N' i' ne' st'; (try simp only [List.forall_mem_cons, List.not_mem_nil, false_implies, implies_true, and_true] at ne'); (try k_sweep); walk_say "MSCALE2"; (rename IntsAre _ (mscaleF _ _ _) => hI9); (have hC9 := mscaleF_lenI hI9); (try simp only [List.length_cons, List.length_nil] at hC9))
  k_with "call ref" => (k_here; (with_reducible show wpAny _ _ (PySem.call (Value.ref 69) [Value.ref _, Value.ref _, Value.int _ _]) _ _ _); k_dflt (refine' use_li (madd_says (by is_list) (by l_ints) (by k_extra "sa len") (by is_list) (by l_ints) (by k_extra "sa len") (by omega) (by omega)) (by k_asm) (by k_asm) (by k_asm) (by k_asm) (by k_asm) (by first | exact rfl | assumption) (by ktr_room) (by ktr_units) ?_; k_whole); intro l' vs' n' h' tk' F' N' i' ne' st'; (try simp only [List.forall_mem_cons, List.not_mem_nil, false_implies, implies_true, and_true] at ne'); (try k_sweep); walk_say "MADD2"; (rename IntsAre _ (maddF _ _ _) => hI9); (have hC9 := maddF_lenI hI9))
  k_with "exec For Name Subscript cons nil" => (k_here; (rename Fr _ _ _ _ => lF'); (with_unfolding_all (refine' For_invVF lF' (by exact rfl) (by exact rfl) ?_; k_whole)))
  k_with "exec For Name Name cons nil" => (k_here; (rename Fr _ _ _ _ => lF'); (with_unfolding_all (refine' For_invVF lF' (by exact rfl) (by exact rfl) ?_; k_whole)))
  k_with "call ref" => (k_here; (with_reducible show wpAny _ _ (PySem.call (Value.ref 168) [Value.ref _, Value.ref _, Value.ref _, Value.int _ _]) _ _ _); k_dflt (refine' use_li (gat_says (by is_list) (by l_ints) (by k_extra "sa len") (by assumption) (by is_list) (by l_ints) (by k_extra "sa len") (by assumption) (by is_list) (by assumption) (by assumption)) (by k_asm) (by k_asm) (by k_asm) (by k_asm) (by k_asm) (by first | exact rfl | assumption) (by ktr_room) (by ktr_units) ?_; k_whole); intro l' vs' n' h' tk' F' N' i' ne' st'; walk_say "GAT"; (try k_sweep))
  k_with "call ref" => (k_here; (with_reducible show wpAny _ _ (PySem.call (Value.ref 161) [Value.ref _, Value.int _ _, Value.ref _, Value.int _ _]) _ _ _); k_dflt (refine' use_li (gpow_says (by is_list) (by l_ints) (by k_extra "sa len") (by assumption) (by omega) (by omega) (by is_list) (by assumption) (by assumption)) (by k_asm) (by k_asm) (by k_asm) (by k_asm) (by k_asm) (by first | exact rfl | assumption) (by ktr_room) (by ktr_units) ?_; k_whole); intro l' vs' n' h' tk' F' N' i' ne' st'; walk_say "GPOW"; (try k_sweep))
  k_with "call ref" => (k_here; (with_reducible show wpAny _ _ (PySem.call (Value.ref 128) [Value.int _ _, Value.int _ _]) _ _ _); k_dflt (refine' use_li (count_says (by omega) (by omega) (by omega) (by omega)) (by k_asm) (by k_asm) (by k_asm) (by k_asm) (by k_asm) (by first | exact rfl | assumption) (by ktr_room) (by ktr_units) ?_; k_whole); intro l' vs' n' h' tk' F' N' i' ne' st'; (try simp only [List.forall_mem_cons, List.not_mem_nil, false_implies, implies_true, and_true] at ne'); (try k_sweep); walk_say "COUNT")
  k_with "call ref" => (k_here; (with_reducible show wpAny _ _ (PySem.call (Value.ref 135) [Value.ref _, Value.int _ _]) _ _ _); k_dflt (refine' use_int (size_says (by is_list) (by assumption) (by assumption)) (by k_asm) (by k_asm) (by k_asm) (by k_asm) (by k_asm) (by first | exact rfl | assumption) (by ktr_room) (by ktr_units) ?_; k_whole); intro t1' h' tk' F' N' st'; (try k_sweep); walk_say "SIZE")
  k_with "CompSrc" => (refine hold_of ?_)
  k_with "sa mem" => (first | with_reducible assumption | exact List.Mem.head _ | (refine List.Mem.tail _ ?_; k_extra "sa mem") | (refine List.mem_append.mpr (Or.inr ?_); k_extra "sa mem") | (refine List.mem_append.mpr (Or.inl ?_); k_extra "sa mem"))
  k_with "call ref" => (k_here; (with_reducible show wpAny _ _ (PySem.call (Value.ref 188) [Value.ref _, Value.int _ _]) _ _ _); k_dflt (refine' take_use (by k_asm) (by k_asm) (by k_asm) (by k_asm) (by k_asm) (by first | exact rfl | assumption) (by ktr_room) (by ktr_units) (by (intro o9; k_upd)) (by k_extra "sa mem") (by k_ne) (by l_ints) (by k_extra "sa len") (by omega) (by first | with_reducible assumption | omega) (by omega) (by omega) ?_; k_whole); intro x9 t9 tx9 c9 h' tk' hx9 hy9 F' N'; walk_say "TAKE"; (try dsimp only at N'); (try k_sweep))
  k_with "call ref" => (k_here; (with_reducible show wpAny _ _ (PySem.call (Value.ref 140) [Value.ref _, Value.int _ _]) _ _ _); k_dflt (refine' rows_use (things_says (by is_list) (by assumption) (by exact FieldOk.isSize (by assumption))) (by k_asm) (by k_asm) (by k_asm) (by k_asm) (by k_asm) (by first | exact rfl | assumption) (by ktr_room) (by ktr_units) ?_; k_whole); intro l' ys' c' own' h' tk' F' N' hr' ne' off'; walk_say "THINGS"; (try simp only [List.forall_mem_cons, List.not_mem_nil, false_implies, implies_true, and_true] at ne'); (try simp only [List.map_cons, List.map_nil] at off'); (try simp only [List.cons_append, List.nil_append, List.append_assoc] at N'); (try k_sweep))
  k_with "subscriptTail" => (k_here; (with_reducible show wpAny _ _ (subscriptTail _ _ (Value.ref 181) (Value.int _ _)) _ _ _); refine hold_of ?_)
  k_with "call builtin:len" => (k_here; (with_reducible show wpAny _ _ (PySem.call (Value.builtin "len") [Value.ref _]) _ _ _); (rename RowsIn _ _ _ => hr9); k_dflt (refine' len_rows (by k_asm) (by k_extra "sa mem") hr9 (by first | exact thingsF_length (by omega) | assumption) (by omega) ?_; k_whole); walk_say "LENROWS")
  k_with "eval ListComp" => ((with_reducible show wpAny _ _ (eval (PySem.Expr.ListComp _ (PySem.Comprehension.mk (PySem.Expr.Tuple _ _ _) _ _ _ :: _) _ _) _) _ _ _); refine hold_of ?_)
  k_with "call type:enumerate" => ((with_reducible show wpAny _ _ (PySem.call (Value.type "enumerate") _) (Src2X _ _ _ _ _ _ _ _ _ _ _ _ _ _ _) _ _); refine hold_of ?_)
  k_with "call type:zip" => ((with_reducible show wpAny _ _ (PySem.call (Value.type "zip") _) (Src2N _ _ _ _ _ _ _ _ _ _ _ _ _) _ _); refine hold_of ?_)
  k_with "call builtin:max" => (refine hold_of ?_)
  k_with "CompSrcT" => (refine hold_of ?_)
  k_with "compareOp Eq ref ref" => (k_here; refine hold_of ?_)
  k_with "compareOp NotEq ref ref" => (k_here; refine hold_of ?_)
  k_with "compareOp Eq ref ref" => (k_here; (with_reducible show wpAny _ _ (compareOp CmpOp.Eq (Value.ref _) (Value.ref _)) _ _ _); (with_unfolding_all (refine' eq_intsK (by is_list) (by l_ints) (by is_list) (by l_ints) (by units_room) ?_; k_whole)); walk_say "EQINTS")
  k_with "compareOp NotEq ref ref" => (k_here; (with_reducible show wpAny _ _ (compareOp CmpOp.NotEq (Value.ref _) (Value.ref _)) _ _ _); (with_unfolding_all (refine' ne_intsK (by is_list) (by l_ints) (by is_list) (by l_ints) (by units_room) ?_; k_whole)); walk_say "NEINTS")
  k_with "call ref" => (k_here; (with_reducible show wpAny _ _ (PySem.call (Value.ref 195) [Value.ref _, Value.int _ _]) _ _ _); k_dflt (refine' use_li (total_says (by is_list) (by ((rename News _ _ _ _ => N9); refine rows_at N9 (by assumption) ?_; intro _ _; k_extra "sa mem")) (by assumption) (by omega) (by omega)) (by k_asm) (by k_asm) (by k_asm) (by k_asm) (by k_asm) (by first | exact rfl | assumption) (by ktr_room) (by ktr_units) ?_; k_whole); intro l' vs' n' h' tk' F' N' i' ne' st'; walk_say "TOTAL"; (try k_sweep))
  k_with "sa calm" => (repeat (first | ((rename @LT.lt Nat _ _ _ ∧ _ => hz9); clear hz9) | ((rename @Ne Nat _ _ ∧ _ => hz9); clear hz9)))
  trivial
/-! printed by gen94e.py -/
section
variable {prog : Program} {w : World} {A : Around} {E : Value → Shared → Prop} {s : Shared} {h₀ : Heap} {L : Addr} {m : Str → Option Value} {env : Env}
set_option maxHeartbeats 1000000 in
theorem Assign_2A {elt iter c : PySem.Expr} {x x₂ : Str} {px px₂ tp : Pos} {kk : Nat} {scope : Scope} {cl : List (Str × Addr)} {pos spos py : Pos} {y : Str} {Q : Flow → Shared → Prop} (hLe : env.locals = L)
    (hsw : swapsWith (.ListComp elt [⟨.Tuple [.Name x px, .Name x₂ px₂] kk tp, iter, [c], 0⟩] scope pos) (some (.Name y py)) spos.line env = pure true)
    (hy : env.kindOf y = some .local) (hp9 : (env.scope.kind == .class || (env.scope.kind == .module && env.locals != env.globals)) = false)
    (hclos : closureFor scope env = pure cl) (hcell : ∀ y ∈ scope.names, y.2 ≠ .cell) (hkind : scope.kind = .function)
    (hnames : ∀ y ∈ scope.names, y.2 = .local → scope.names.lookup y.1 = some .local) (hxa : scope.names.lookup x = some .local) (hxb : scope.names.lookup x₂ = some .local) (hab : ¬ x = x₂)
    (h : wpAny (model prog w) A (eval iter env) (Src2A prog w A h₀ L m env c elt x x₂ scope cl y Q) E s)
    (hs : ∀ x, foldedSetIterable iter env x = pure x) :
    wpAny (model prog w) A (exec (.Assign [.Name y py] (.ListComp elt [⟨.Tuple [.Name x px, .Name x₂ px₂] kk tp, iter, [c], 0⟩] scope pos) spos) env) Q E s := by
  rw [exec_Assign_Name_used _ _ _ _ hsw]
  refine wpAny_bind (wpAny_standAt (wpAny_bind ?_))
  show wpAny _ A (do let _ ← comprehension (.ListComp elt [⟨.Tuple [.Name x px, .Name x₂ px₂] kk tp, iter, [c], 0⟩] scope pos) scope env _ (newList []) false (eval iter env) (some (assign (.Name y py) env))) _ _ s
  subst hLe
  refine wpAny_bind (wpAny_mono (wpAny_comprehension_free (use := some (assign (.Name y py) env)) (Q := fun _ s' => Q .next s') rfl hs hclos hkind hnames
    (wpAny_mono h (fun _ _ h₁ => core_2T hcell hkind hxa hxb hab h₁ fun D _ _ _ m' F' hn hCL hC₀ K => ?_) fun _ _ e => e)) (fun _ s' hq => wpAny_pure (wpAny_pure hq)) fun _ _ e => e)
  show wpAny _ A (assign (.Name y py) env (.ref D)) _ _ _
  refine wpAny_assign_Name (wpAny_storeName_local hy F'.ns (fun h₇ hn₇ hs₇ => ?_) hp9)
  have hL₀ : h₀.get? env.locals = none := Heap.get?_none_of_le F'.above
  have F₇ : Fr h₀ env.locals h₇ (fun z => if z = y then some (.ref D) else m z) := ⟨hn₇, fun b o e => hs₇.extBut b o (fun q => by have q' : b = env.locals := q; rw [q', hL₀] at e; cases e) (F'.keep b o e), F'.above⟩
  exact ⟨m', hn.sameBut hs₇ hCL, fun h'' hs'' => K h'' _ (F₇.change hs'' hCL hC₀) fun b o hb hl e => hs''.extBut b o hb (hs₇.extBut b o hl e)⟩
end
section
variable {prog : Program} {w : World} {A : Around} {E : Value → Shared → Prop} {s : Shared} {h₀ : Heap} {L : Addr} {m : Str → Option Value} {env : Env}
variable {news : List (Addr × Obj)}
theorem Assign_2AF {elt iter c : PySem.Expr} {x x₂ : Str} {px px₂ tp : Pos} {kk : Nat} {scope : Scope} {cl : List (Str × Addr)} {pos spos py : Pos} {y : Str} {Q : Flow → Shared → Prop} (hLe : env.locals = L)
    (hsw : swapsWith (.ListComp elt [⟨.Tuple [.Name x px, .Name x₂ px₂] kk tp, iter, [c], 0⟩] scope pos) (some (.Name y py)) spos.line env = pure true)
    (hy : env.kindOf y = some .local) (hp9 : (env.scope.kind == .class || (env.scope.kind == .module && env.locals != env.globals)) = false)
    (hclos : closureFor scope env = pure cl) (hcell : ∀ y ∈ scope.names, y.2 ≠ .cell) (hkind : scope.kind = .function)
    (hnames : ∀ y ∈ scope.names, y.2 = .local → scope.names.lookup y.1 = some .local) (hxa : scope.names.lookup x = some .local) (hxb : scope.names.lookup x₂ = some .local) (hab : ¬ x = x₂) (_ : Fr h₀ L s.heap m)
    (h : wpAny (model prog w) A (eval iter env) (Src2A prog w A h₀ L m env c elt x x₂ scope cl y Q) E s)
    (hs : ∀ x, foldedSetIterable iter env x = pure x) :
    wpAny (model prog w) A (exec (.Assign [.Name y py] (.ListComp elt [⟨.Tuple [.Name x px, .Name x₂ px₂] kk tp, iter, [c], 0⟩] scope pos) spos) env) Q E s := Assign_2A hLe hsw hy hp9 hclos hcell hkind hnames hxa hxb hab h hs
end

theorem anew_95_law : True := by
  w_top off
  k_with_none
  k_with "sa enter" => (refine wpAny_call ?_; k_dflt (refine' enter_pure ?k1 ?k2 ?k3 ?k4 ?kA ?kF ?kK ?k6 ?k7 ?k8 ?k9 ?kB (by assumption) ?_ ?c2 ?c3 ?c4 ?c5; (case kA => exact rfl); (case kF => exact rfl); (case kK => assumption); (case k1 => k_asm); (case k2 => k_asm); (case k3 => k_asm); (case k4 => k_asm); (case k6 => k_is); (case k7 => k_is); (case k8 => ktr_room); (case k9 => exact BindsTo.of_eq rfl); (case c5 => decide); (case kB => exact locs rfl); (case c2 => exact rfl); (case c3 => exact rfl); (case c4 => exact rfl); k_whole); (with_reducible rename Below _ _ _ _ => kB'; clear kB'); (with_reducible rename Fr _ _ _ _ => kB'; clear kB'); (with_reducible rename Top _ _ _ _ _ _ => kB'; clear kB'); (rename Frag.In _ _ => kB'; clear kB'); intro L' h' F' N' B' X' T'; (try dsimp only); (try k_fold))
  k_with "sa leave list" => ((show LeaveP _ _ _ _); refine leaveP_ (by assumption) ⟨_, _, _, rfl, (News.fresh (by assumption) (List.Mem.head _)), (News.get (by assumption) (List.Mem.head _)), ?_⟩)
  k_with "execs cons Assign cons" => ((with_reducible refine wpAny_execs_cons ?_); try dsimp only)
  k_with "sa len" => (first | with_reducible assumption | exact List.length_take_le _ _ | omega | l_fact | ((simp only [rangeKs_length, List.length_map, List.length_append, List.length_cons, List.length_nil] at *); omega))
  k_with "sa enter cells" => (refine wpAny_call ?_; k_dflt (refine' enter_pureC ?k1 ?k2 ?k3 ?k4 ?kA ?kF ?kK ?k6 ?k7 ?k8 ?k9 ?kB ?kD (by assumption) ?_ ?c2 ?c3 ?c4; (case kA => exact rfl); (case kF => exact rfl); (case kK => assumption); (case k1 => k_asm); (case k2 => k_asm); (case k3 => k_asm); (case k4 => k_asm); (case k6 => k_is); (case k7 => k_is); (case k8 => ktr_room); (case k9 => exact BindsTo.of_eq rfl); (case kB => exact rfl); (case kD => decide +kernel); (case c2 => exact rfl); (case c3 => exact rfl); (case c4 => exact rfl); k_whole); (with_reducible rename Below _ _ _ _ => kB'; clear kB'); (with_reducible rename Fr _ _ _ _ => kB'; clear kB'); (with_reducible rename Top _ _ _ _ _ _ => kB'; clear kB'); (rename Frag.In _ _ => kB'; clear kB'); intro L' h' tk' cells' F' N' Y' B' X' T'; k_cells Y'; (try simp only [List.cons_append, List.nil_append, List.append_nil] at N'); (try dsimp only); (try k_fold))
  k_with "sa ne" => (first | with_reducible assumption | (refine Ne.symm ?_; with_reducible assumption) | (refine Nat.ne_of_gt ?_; assumption) | (refine Nat.ne_of_lt ?_; assumption) | ((rename _ ∧ _ => h9); first | (refine Ne.symm ?_; simp only [h9, ne_eq, not_false_eq_true]; done) | (simp only [h9, ne_eq, not_false_eq_true]; done) | (refine Nat.ne_of_gt ?_; simp only [h9]; done) | (refine Nat.ne_of_lt ?_; simp only [h9]; done) | (clear h9; k_extra "sa ne")))
  k_with "call ref" => (k_here; (with_reducible show wpAny _ _ (PySem.call (Value.ref 55) [Value.ref _]) _ _ _); k_dflt (refine' use_li (mtrim_says (by is_list) (by l_ints) (by k_extra "sa len")) (by k_asm) (by k_asm) (by k_asm) (by k_asm) (by k_asm) (by first | exact rfl | assumption) (by ktr_room) (by ktr_units) ?_; k_whole); intro l' vs' n' h' tk' F' N' i' ne' st'; (try simp only [List.forall_mem_cons, List.not_mem_nil, false_implies, implies_true, and_true] at ne'); (try k_sweep); walk_say "MTRIM"; (rename IntsAre _ (trimF _) => hI9); (have hC9 := trimF_lenI hI9))
  k_with "call ref" => (k_here; (with_reducible show wpAny _ _ (PySem.call (Value.ref 69) [Value.ref _, Value.ref _, Value.int _ _]) _ _ _); k_dflt (refine' use_li (madd_says (by is_list) (by l_ints) (by k_extra "sa len") (by is_list) (by l_ints) (by k_extra "sa len") (by omega) (by omega)) (by k_asm) (by k_asm) (by k_asm) (by k_asm) (by k_asm) (by first | exact rfl | assumption) (by ktr_room) (by ktr_units) ?_; k_whole); intro l' vs' n' h' tk' F' N' i' ne' st'; (try simp only [List.forall_mem_cons, List.not_mem_nil, false_implies, implies_true, and_true] at ne'); (try k_sweep); walk_say "MADD")
  k_with "call ref" => (k_here; (with_reducible show wpAny _ _ (PySem.call (Value.ref 86) [Value.ref _, Value.int _ _, Value.int _ _]) _ _ _); k_dflt (refine' use_li (mscale_says (by is_list) (by l_ints) (by k_extra "sa len") (by omega) (by omega) (by omega) (by omega)) (by k_asm) (by k_asm) (by k_asm) (by k_asm) (by k_asm) (by first | exact rfl | assumption) (by ktr_room) (by ktr_units) ?_; k_whole); intro l' vs' n' h' tk' F' N' i' ne' st'; (try simp only [List.forall_mem_cons, List.not_mem_nil, false_implies, implies_true, and_true] at ne'); (try k_sweep); walk_say "MSCALE")
  k_with "call ref" => (k_here; (with_reducible show wpAny _ _ (PySem.call (Value.ref 93) [Value.ref _, Value.ref _, Value.int _ _]) _ _ _); k_dflt (refine' use_li (mmul_says (by is_list) (by l_ints) (by k_extra "sa len") (by assumption) (by is_list) (by l_ints) (by k_extra "sa len") (by omega) (by omega)) (by k_asm) (by k_asm) (by k_asm) (by k_asm) (by k_asm) (by first | exact rfl | assumption) (by ktr_room) (by ktr_units) ?_; k_whole); intro l' vs' n' h' tk' F' N' i' ne' st'; (try simp only [List.forall_mem_cons, List.not_mem_nil, false_implies, implies_true, and_true] at ne'); (try k_sweep); walk_say "MMUL")
  k_with "call ref" => (k_here; (with_reducible show wpAny _ _ (PySem.call (Value.ref 48) [Value.int _ _, Value.int _ _]) _ _ _); k_dflt (refine' use_int (inv_says (by first | assumption | decide) (by first | assumption | omega)) (by k_asm) (by k_asm) (by k_asm) (by k_asm) (by k_asm) (by first | exact rfl | assumption) (by ktr_room) (by ktr_units) ?_; k_whole); intro t1' h' tk' F' N' st'; (try k_sweep); walk_say "INV")
  k_with "call ref" => (k_here; (with_reducible show wpAny _ _ (PySem.call (Value.ref 100) [Value.ref _, Value.ref _, Value.int _ _]) _ _ _); k_dflt (refine' use_p2 (mdivmod_says (by is_list) (by l_ints) (by k_extra "sa len") (by is_list) (by l_ints) (by k_extra "sa len") (by k_extra "sa len") (by assumption) (by assumption) (by assumption)) (by k_asm) (by k_asm) (by k_asm) (by k_asm) (by k_asm) (by first | exact rfl | assumption) (by ktr_room) (by ktr_units) ?_; k_whole); intro l' v1' l2' n' vs' c' h' tk' F' N' i' ne' ne2' st'; walk_say "MDIVMOD"; (try simp only [List.forall_mem_cons, List.not_mem_nil, false_implies, implies_true, and_true] at ne' ne2'); (try k_sweep))
  k_with "call ref" => (k_here; (with_reducible show wpAny _ _ (PySem.call (Value.ref 147) [Value.ref _, Value.ref _, Value.ref _, Value.int _ _]) _ _ _); k_dflt (refine' use_li (gmul_says (by is_list) (by l_ints) (by k_extra "sa len") (by first | assumption | exact small_nil) (by is_list) (by l_ints) (by k_extra "sa len") (by is_list) (by assumption) (by assumption)) (by k_asm) (by k_asm) (by k_asm) (by k_asm) (by k_asm) (by first | exact rfl | assumption) (by ktr_room) (by ktr_units) ?_; k_whole); intro l' vs' n' h' tk' F' N' i' ne' st'; (try simp only [List.forall_mem_cons, List.not_mem_nil, false_implies, implies_true, and_true] at ne'); (try k_sweep); walk_say "GMUL"; (rename IntsAre _ (gmulF _ _ _ _) => hI9); (have hC9 := gmulF_lenI hI9))
  k_with "call ref" => (k_here; (with_reducible show wpAny _ _ (PySem.call (Value.ref 86) [Value.ref _, Value.int _ _, Value.int _ _]) _ _ _); k_dflt (refine' use_li (mscale_says (by is_list) (by l_ints) (by k_extra "sa len") (by omega) (by omega) (by omega) (by omega)) (by k_asm) (by k_asm) (by k_asm) (by k_asm) (by k_asm) (by first | exact rfl | assumption) (by ktr_room) (by ktr_units) ?_; k_whole); intro l' vs' n' h' tk' F' N' i' ne' st'; (try simp only [List.forall_mem_cons, List.not_mem_nil, false_implies, implies_true, and_true] at ne'); (try k_sweep); walk_say "MSCALE2"; (rename IntsAre _ (mscaleF _ _ _) => hI9); (have hC9 := mscaleF_lenI hI9); (try simp only [List.length_cons, List.length_nil] at hC9))
  k_with "call ref" => (k_here; (with_reducible show wpAny _ _ (PySem.call (Value.ref 69) [Value.ref _, Value.ref _, Value.int _ _]) _ _ _); k_dflt (refine' use_li (madd_says (by is_list) (by l_ints) (by k_extra "sa len") (by is_list) (by l_ints) (by k_extra "sa len") (by omega) (by omega)) (by k_asm) (by k_asm) (by k_asm) (by k_asm) (by k_asm) (by first | exact rfl | assumption) (by ktr_room) (by ktr_units) ?_; k_whole); intro l' vs' n' h' tk' F' N' i' ne' st'; (try simp only [List.forall_mem_cons, List.not_mem_nil, false_implies, implies_true, and_true] at ne'); (try k_sweep); walk_say "MADD2"; (rename IntsAre _ (maddF _ _ _) => hI9); (have hC9 := maddF_lenI hI9))
  k_with "exec For Name Subscript cons nil" => (k_here; (rename Fr _ _ _ _ => lF'); (with_unfolding_all (refine' For_invVF lF' (by exact rfl) (by exact rfl) ?_; k_whole)))
  k_with "exec For Name Name cons nil" => (k_here; (rename Fr _ _ _ _ => lF'); (with_unfolding_all (refine' For_invVF lF' (by exact rfl) (by exact rfl) ?_; k_whole)))
  k_with "call ref" => (k_here; (with_reducible show wpAny _ _ (PySem.call (Value.ref 168) [Value.ref _, Value.ref _, Value.ref _, Value.int _ _]) _ _ _); k_dflt (refine' use_li (gat_says (by is_list) (by l_ints) (by k_extra "sa len") (by assumption) (by is_list) (by l_ints) (by k_extra "sa len") (by assumption) (by is_list) (by assumption) (by assumption)) (by k_asm) (by k_asm) (by k_asm) (by k_asm) (by k_asm) (by first | exact rfl | assumption) (by ktr_room) (by ktr_units) ?_; k_whole); intro l' vs' n' h' tk' F' N' i' ne' st'; walk_say "GAT"; (try k_sweep))
  k_with "call ref" => (k_here; (with_reducible show wpAny _ _ (PySem.call (Value.ref 161) [Value.ref _, Value.int _ _, Value.ref _, Value.int _ _]) _ _ _); k_dflt (refine' use_li (gpow_says (by is_list) (by l_ints) (by k_extra "sa len") (by assumption) (by omega) (by omega) (by is_list) (by assumption) (by assumption)) (by k_asm) (by k_asm) (by k_asm) (by k_asm) (by k_asm) (by first | exact rfl | assumption) (by ktr_room) (by ktr_units) ?_; k_whole); intro l' vs' n' h' tk' F' N' i' ne' st'; walk_say "GPOW"; (try k_sweep))
  k_with "call ref" => (k_here; (with_reducible show wpAny _ _ (PySem.call (Value.ref 128) [Value.int _ _, Value.int _ _]) _ _ _); k_dflt (refine' use_li (count_says (by omega) (by omega) (by omega) (by omega)) (by k_asm) (by k_asm) (by k_asm) (by k_asm) (by k_asm) (by first | exact rfl | assumption) (by ktr_room) (by ktr_units) ?_; k_whole); intro l' vs' n' h' tk' F' N' i' ne' st'; (try simp only [List.forall_mem_cons, List.not_mem_nil, false_implies, implies_true, and_true] at ne'); (try k_sweep); walk_say "COUNT")
  k_with "call ref" => (k_here; (with_reducible show wpAny _ _ (PySem.call (Value.ref 135) [Value.ref _, Value.int _ _]) _ _ _); k_dflt (refine' use_int (size_says (by is_list) (by assumption) (by assumption)) (by k_asm) (by k_asm) (by k_asm) (by k_asm) (by k_asm) (by first | exact rfl | assumption) (by ktr_room) (by ktr_units) ?_; k_whole); intro t1' h' tk' F' N' st'; (try k_sweep); walk_say "SIZE")
  k_with "CompSrc" => (refine hold_of ?_)
  k_with "sa mem" => (first | with_reducible assumption | exact List.Mem.head _ | (refine List.Mem.tail _ ?_; k_extra "sa mem") | (refine List.mem_append.mpr (Or.inr ?_); k_extra "sa mem") | (refine List.mem_append.mpr (Or.inl ?_); k_extra "sa mem"))
  k_with "call ref" => (k_here; (with_reducible show wpAny _ _ (PySem.call (Value.ref 188) [Value.ref _, Value.int _ _]) _ _ _); k_dflt (refine' take_use (by k_asm) (by k_asm) (by k_asm) (by k_asm) (by k_asm) (by first | exact rfl | assumption) (by ktr_room) (by ktr_units) (by (intro o9; k_upd)) (by k_extra "sa mem") (by k_ne) (by l_ints) (by k_extra "sa len") (by omega) (by first | with_reducible assumption | omega) (by omega) (by omega) ?_; k_whole); intro x9 t9 tx9 c9 h' tk' hx9 hy9 F' N'; walk_say "TAKE"; (try dsimp only at N'); (try k_sweep))
  k_with "call ref" => (k_here; (with_reducible show wpAny _ _ (PySem.call (Value.ref 140) [Value.ref _, Value.int _ _]) _ _ _); k_dflt (refine' rows_use (things_says (by is_list) (by assumption) (by exact FieldOk.isSize (by assumption))) (by k_asm) (by k_asm) (by k_asm) (by k_asm) (by k_asm) (by first | exact rfl | assumption) (by ktr_room) (by ktr_units) ?_; k_whole); intro l' ys' c' own' h' tk' F' N' hr' ne' off'; walk_say "THINGS"; (try simp only [List.forall_mem_cons, List.not_mem_nil, false_implies, implies_true, and_true] at ne'); (try simp only [List.map_cons, List.map_nil] at off'); (try simp only [List.cons_append, List.nil_append, List.append_assoc] at N'); (try k_sweep))
  k_with "subscriptTail" => (k_here; (with_reducible show wpAny _ _ (subscriptTail _ _ (Value.ref 181) (Value.int _ _)) _ _ _); refine hold_of ?_)
  k_with "call builtin:len" => (k_here; (with_reducible show wpAny _ _ (PySem.call (Value.builtin "len") [Value.ref _]) _ _ _); (rename RowsIn _ _ _ => hr9); k_dflt (refine' len_rows (by k_asm) (by k_extra "sa mem") hr9 (by first | exact thingsF_length (by omega) | assumption) (by omega) ?_; k_whole); walk_say "LENROWS")
  k_with "eval ListComp" => ((with_reducible show wpAny _ _ (eval (PySem.Expr.ListComp _ (PySem.Comprehension.mk (PySem.Expr.Tuple _ _ _) _ _ _ :: _) _ _) _) _ _ _); refine hold_of ?_)
  k_with "call type:enumerate" => ((with_reducible show wpAny _ _ (PySem.call (Value.type "enumerate") _) (Src2X _ _ _ _ _ _ _ _ _ _ _ _ _ _ _) _ _); refine hold_of ?_)
  k_with "call type:zip" => ((with_reducible show wpAny _ _ (PySem.call (Value.type "zip") _) (Src2N _ _ _ _ _ _ _ _ _ _ _ _ _) _ _); refine hold_of ?_)
  k_with "call builtin:max" => (refine hold_of ?_)
  k_with "CompSrcT" => (refine hold_of ?_)
  k_with "compareOp Eq ref ref" => (k_here; refine hold_of ?_)
  k_with "compareOp NotEq ref ref" => (k_here; refine hold_of ?_)
  k_with "compareOp Eq ref ref" => (k_here; (with_reducible show wpAny _ _ (compareOp CmpOp.Eq (Value.ref _) (Value.ref _)) _ _ _); (with_unfolding_all (refine' eq_intsK (by is_list) (by l_ints) (by is_list) (by l_ints) (by units_room) ?_; k_whole)); walk_say "EQINTS")
  k_with "compareOp NotEq ref ref" => (k_here; (with_reducible show wpAny _ _ (compareOp CmpOp.NotEq (Value.ref _) (Value.ref _)) _ _ _); (with_unfolding_all (refine' ne_intsK (by is_list) (by l_ints) (by is_list) (by l_ints) (by units_room) ?_; k_whole)); walk_say "NEINTS")
  k_with "call ref" => (k_here; (with_reducible show wpAny _ _ (PySem.call (Value.ref 195) [Value.ref _, Value.int _ _]) _ _ _); k_dflt (refine' use_li (total_says (by is_list) (by ((rename News _ _ _ _ => N9); refine rows_at N9 (by assumption) ?_; intro _ _; k_extra "sa mem")) (by assumption) (by omega) (by omega)) (by k_asm) (by k_asm) (by k_asm) (by k_asm) (by k_asm) (by first | exact rfl | assumption) (by ktr_room) (by ktr_units) ?_; k_whole); intro l' vs' n' h' tk' F' N' i' ne' st'; walk_say "TOTAL"; (try k_sweep))
  k_with "sa calm" => (repeat (first | ((rename @LT.lt Nat _ _ _ ∧ _ => hz9); clear hz9) | ((rename @Ne Nat _ _ ∧ _ => hz9); clear hz9)))
  k_with "exec Assign cons ListComp" => (k_here; (with_reducible show wpAny _ _ (exec (Stmt.Assign _ (PySem.Expr.ListComp _ (PySem.Comprehension.mk (PySem.Expr.Tuple _ _ _) _ _ _ :: _) _ _) _) _) _ _ _); refine hold_of ?_)
  k_with "eval IfExp" => (k_here; (fail_if_success (with_reducible show wpAny _ _ _ (CutInts _ _ _ _ _ _) _ _)); refine hold_of ?_)
  k_with "call builtin:sum" => (k_here; refine hold_of ?_)
  k_with "call ref" => (k_here; (with_reducible show wpAny _ _ (PySem.call (Value.ref 147) [Value.ref _, Value.ref _, Value.ref _, Value.int _ _]) (ZipEl _ _) _ _); k_dflt (refine' (gmul_says (by is_list) (by assumption) (by assumption) (by assumption) (by is_list) (by assumption) (by assumption) (by is_list) (by assumption) (by assumption)) _ _ _ _ _ _ _ _ _ _ _ _ _ _ _ _ (by k_asm) (by k_asm) (by k_asm) (by k_asm) (by first | exact rfl | assumption) (by ktr_room) (by ktr_units) ?_; k_whole); walk_say "ZIPMUL"; exact fun _ _ _ st9 r9 => zipEl_ st9 r9)
  trivial
set_option maxHeartbeats 20000000 in
theorem law_holds : PySem.Challenge.rw_sa0090_01.Holds := hd (by
  k_go0
  all_goals (try k_fold)
  k_steps
  unfold Hold
  (rename News _ _ _ _ => hN0)
  obtain ⟨B, lb, hBe, hlbe⟩ := box_name hN0
  subst hBe hlbe
  k_dflt (refine' fields_item ?F ?X ?x0 ?x1 ?_ ?hs)
  case F => k_asm
  case X => k_asm
  case x0 => omega
  case x1 => omega
  case hs => with_unfolding_all rfl
  intro tp lm q most d n tq tm vm ms hF hT hL hI
  have hF8 := FieldOk.most hF
  have hmo7 : most ≤ 7 := hF8.2.1
  have hn3 : 3 ≤ n := hF8.2.2.1
  have hn9 : n ≤ 9 := hF8.2.2.2.1
  have hq2 : 2 ≤ q := hF8.2.2.2.2.1
  have hq7 : q ≤ 7 := hF8.2.2.2.2.2
  have hk30 := k30 hmo7
  have hM := FieldOk.isMod hF
  k_steps
  unfold Hold
  (rename IsRange _ _ _ _ _ _ _ _ => rgX)
  with_unfolding_all refine' LCg.CompSrc.range (n := most.toNat) rfl ?hF ?hN rgX ?hsm ?hn ?hsz (fun g9 => ctake_rest (B := B) q ?U ?turn ?fin)
  case hF => assumption
  case hN => assumption
  case hsm => exact small_one (by omega) (by omega) (by omega) (by omega)
  case hn => exact (rangeSize_nat _ _).trans (congrArg Nat.cast (toNat_sub0 most))
  case hsz => exact nat_size hmo7
  case U => (intro o9; k_upd)
  case turn =>
    unfold Hold
    intro i t c v I oI C oC D m2 ys h1 tk1 E1 hi hP hC hx F1 N1 hB
    try dsimp only at N1
    (try k_fold)
    k_steps
    exact ⟨_, _, _, _, _, _, rfl, rfl, by assumption, by assumption, by assumption, by assumption⟩
  case fin =>
    unfold Hold
    intro ys f t c hys hlen hf
    unfold LCg.FinE
    intro D1 h1 tk1 F1 N1 o1
    try dsimp only at N1
    simp only [LCg.Off1, and_true] at o1
    try dsimp only
    try k_fold
    k_steps
    unfold Hold
    (rename News _ _ _ _ => N8)
    have N9 := news_sub N8 (sub_skip (sub_skip (sub_take (sub_take (sub_skip (sub_skip (sub_skip (sub_take (sub_take (sub_take (sub_take (sub_take (sub_skip sub_all)))))))))))))
    clear N8
    k_dflt (refine' ListComp_2TF (by with_unfolding_all rfl) (by decide) (by rfl) (by decide) (by rfl) (by rfl) (by decide) ?F ?_ ?hs)
    case F => k_asm
    case hs => (intro _; rfl)
    k_steps
    unfold Hold
    k_dflt (refine' enum_src (ns := f) (vs := ys) (G := fun l p => if p.1 ≠ 0 then l ++ [(p.2 : Int) + 1] else l) ?hh ?F ?N ?hl ?hi ?hsz ?turn ?fin)
    case hh => rfl
    case F => k_asm
    case N => k_asm
    case hl => k_extra "sa mem"
    case hi => assumption
    case hsz => exact f_size hlen hmo7
    case turn =>
      unfold Hold
      intro i a ti ta ys1 lst C oC D m2 h tk E1 hia hys1 hC hx hx2 F1 N1
      k_steps
      · exact cpInt_ (by rw [if_pos (by first | assumption | omega)]; exact IntsAre.append hys1 (.cons _ _ .nil))
      · exact cpInt_ (by rw [if_neg (by omega)]; exact hys1)
    case fin =>
      unfold Hold
      intro D h tk zs F1 N1 hne hzs
      try dsimp only at F1
      simp only [List.forall_mem_cons] at hne
      try dsimp only
      k_steps
      k_dflt (refine' kmk_add_ints (ns := posF f) (ms := [0]) ?addF ?addN ?addA ?addB ?addI ?addJ ?_ ?addZ)
      case addF => k_asm
      case addN => k_asm
      case addA => is_list
      case addB => is_list
      case addI => exact hzs
      case addJ => l_ints
      case addZ => exact pos_size hlen hmo7
      intro D' ws' h' F' N' l1 hI'
      k_lt l1
      k_steps
      unfold Hold
      refine' max_list_N (ns := posF f ++ [0]) rfl ?maxF ?maxN ?maxL hI' (by simp) ?_
      case maxF => k_asm
      case maxN => k_asm
      case maxL => is_list
      intro h2 M tM kM F2 N2 hMm hMx
      obtain ⟨hM0, hM1, hrow⟩ := posF_max hMm hMx
      clear hMm hMx
      k_steps
      unfold Hold
      (rename _ < (9 : Int) => hy9_1)
      obtain ⟨x9_1, he9⟩ := lt_name hy9_1
      subst he9
      (rename 0 ≤ x9_1 => hx9_1)
      (rename RowsIn _ _ _ => hrT)
      (rename IntsAre _ (List.take M.toNat f) => hRow)
      rw [← hrow] at hRow
      have hRowS : Small (trimF f) := trim_small hf hq7
      have hRowL : (trimF f).length ≤ 10 := trim_len hlen hmo7
      (rename News _ _ _ _ => N8)
      have N9 := news_sub N8 (sub_take (sub_skip (sub_skip (sub_skip sub_all))))
      clear N8
      refine' LCg.CompSrc.ledger rfl ?vF ?vN ?vM ?vZ (fun g9 => crow_rest (rows := (thingsF n q).map fun r => gatF (trimF f) r ms q) ?vR ?vT ?vS ?vE)
      case vF => k_asm
      case vN => k_asm
      case vM => k_extra "sa mem"
      case vZ => exact rows_size hrT hn3 hn9
      case vR => exact rows_map hrT
      case vS => exact srcAt_ (by k_extra "sa mem")
      case vT =>
        unfold Hold
        intro i r v I oI C oC D2 m2 ys own h3 tk3 E3 hr hP hC hx F1 N1 off ne hS
        obtain ⟨l2, v2, c2, r2, rfl, hm2, hi2, hx2⟩ := hrT.item (i := i) (by simpa using hP)
        rw [List.getElem?_map, hx2] at hr
        obtain rfl := (Option.some.inj hr)
        obtain ⟨hs2, hl2⟩ := thing_small hq2 hq7 hx2
        dsimp only [List.cons_append, List.nil_append] at N1
        have hL2 : h3.IsList l2 v2.toArray := ⟨_, (N1 (l2, _) (by k_extra "sa mem")).1, rfl, _, rfl⟩
        (try k_fold)
        k_steps
        (rename ∀ q ∈ _, @Ne Nat _ _ => hne9)
        refine crow_end (by assumption) (by assumption) off ⟨hne9 _ (.head _), hne9 _ (.tail _ (.head _)), hne9 _ (.tail _ (.tail _ (.head _)))⟩ (srcAt_ (by k_extra "sa mem")) ?_
        assumption
      case vE =>
        unfold Hold
        intro ysV ownV hrV
        unfold LCg.FinE
        intro DV h5 tk5 F5 N5 o5
        try dsimp only at N5
        clear o5
        dsimp only [List.cons_append, List.nil_append] at N5
        try dsimp only
        try k_fold
        k_steps
        unfold Hold
        refine' LCg.CompSrc.ledger rfl ?wF ?wN ?wM ?wZ (fun g9 => crow_rest (rows := (thingsF n q).map fun r => powF r x9_1 ms q) ?wR ?wT ?wS ?wE)
        case wF => k_asm
        case wN => k_asm
        case wM => k_extra "sa mem"
        case wZ => exact rows_size hrT hn3 hn9
        case wR => exact rows_map hrT
        case wS => exact srcAt_ (by k_extra "sa mem")
        case wT =>
          unfold Hold
          intro i r v I oI C oC D2 m2 ys own h3 tk3 E3 hr hP hC hx F1 N1 off ne hS
          obtain ⟨l2, v2, c2, r2, rfl, hm2, hi2, hx2⟩ := hrT.item (i := i) (by simpa using hP)
          rw [List.getElem?_map, hx2] at hr
          obtain rfl := (Option.some.inj hr)
          obtain ⟨hs2, hl2⟩ := thing_small hq2 hq7 hx2
          dsimp only [List.cons_append, List.nil_append] at N1
          have hL2 : h3.IsList l2 v2.toArray := ⟨_, (N1 (l2, _) (by k_extra "sa mem")).1, rfl, _, rfl⟩
          (try k_fold)
          k_steps
          (rename ∀ q ∈ _, @Ne Nat _ _ => hne9)
          refine crow_end (by assumption) (by assumption) off ⟨hne9 _ (.head _), hne9 _ (.tail _ (.head _)), hne9 _ (.tail _ (.tail _ (.head _)))⟩ (srcAt_ (by k_extra "sa mem")) ?_
          assumption
        case wE =>
          unfold Hold
          intro ysP ownP hrP
          unfold LCg.FinE
          intro DP h6 tk6 F6 N6 o6
          try dsimp only at N6
          clear o6
          dsimp only [List.cons_append, List.nil_append] at N6
          try dsimp only
          try k_fold
          k_steps
          unfold Hold
          k_extra "sa calm"
          (rename News _ _ _ _ => N8)
          have N9 := news_sub N8 (sub_skip (sub_take (sub_take (sub_take (sub_take (sub_skip sub_all))))))
          clear N8
          have hOk : LawOk q ms n f x9_1 := law_plain hF (most_len hlen hF8.1) hf hx9_1 hy9_1
          have hP10 : ∀ r ∈ (thingsF n q).map (fun r => powF r x9_1 ms q), r.length ≤ 10 := fun r hr => by
            obtain ⟨a, _, rfl⟩ := List.mem_map.mp hr
            exact powF_len hM
          refine' LCt.CompSrcT.ledger rfl ?xF ?xN ?xM ?xZ (fun g9 => filt_rest (rows := (thingsF n q).map fun r => gatF (trimF f) r ms q) (ok := fun r => !decide (r = [])) ?xR rfl rfl ?xT ?xU ?xS ?xE)
          case xF => k_asm
          case xN => k_asm
          case xM => k_extra "sa mem"
          case xZ => exact rows_sizeM hrV hn3 hn9
          case xR => exact hrV.mono fun _ _ => by k_extra "sa mem"
          case xS => exact srcAt_ (by k_extra "sa mem")
          case xT =>
            unfold Hold
            intro i r l vs c I oI C oC D2 m2 ys h3 tk3 E3 hr hm hi hC hx F1 N1 off
            have hL2 : h3.IsList l vs.toArray := ⟨_, (N1 (l, _) (.tail _ (.tail _ (.tail _ hm)))).1, rfl, _, rfl⟩
            (try k_fold)
            k_steps
            unfold Hold
            (rename News _ _ _ _ => N9)
            refine ne_intsK (ns := r) (ms := []) ⟨_, (N9 (l, _) (.tail _ (.tail _ (.tail _ (.tail _ hm))))).1, rfl, _, rfl⟩ hi ⟨_, (N9 _ (.head _)).1, rfl, _, rfl⟩ .nil (by units_room) ?_
            k_steps
            exact testEnd_ (by assumption) N9 (fun _ hp => .tail _ hp) rfl
          case xU =>
            unfold Hold
            intro i r l vs c I oI C oC D2 m2 ys h3 tk3 E3 hr hm hi hC hx F1 N1
            (try k_fold)
            k_steps
            exact testEnd_ (by assumption) (by assumption) (fun _ hp => hp) trivial
          case xE =>
            unfold Hold
            intro ysF hysF
            have hZ := filt_zero hysF hOk
            clear hysF
            unfold LCg.FinE
            intro DF h7 tk7 F7 N7 o7
            clear o7
            try dsimp only
            try k_fold
            k_steps
            unfold Hold
            (rename News _ _ _ _ => N9)
            refine eq_empty (ys := ysF) (us := []) ⟨_, (N9 _ (.tail _ (.head _))).1, rfl, _, rfl⟩ ⟨_, (N9 _ (.head _)).1, rfl, _, rfl⟩ rfl (by units_room) ?_
            k_steps
            unfold Hold
            walk_at "sa calm"
            (rename News _ _ _ _ => N9)
            (rename Fr _ _ _ _ => F9)
            refine cut_ints (totalF ((thingsF n q).map fun r => powF r x9_1 ms q) q) F9 N9 ?cutA ?cutB
            case cutA =>
              k_steps
              · exact cutInts_ (by assumption) (by assumption) (.cons _ _ .nil) (pow_1 hOk (by assumption) (by assumption))
              · exact cutInts_ (by assumption) (by assumption) .nil (pow_2 hOk (by assumption))
              · exact cutInts_ (by assumption) (by assumption) .nil (pow_3 hOk (by assumption))
            case cutB =>
              clear N9 F9
              intro l9 vs9 c9 h9 tk9 F9 N9 hi9
              k_steps
              unfold Hold
              refine' Assign_2AF (by rfl) (by with_unfolding_all rfl) (by rfl) (by rfl) (by with_unfolding_all rfl) (by decide) (by rfl) (by decide) (by rfl) (by rfl) (by decide) ?nF ?_ ?nhs
              case nF => k_asm
              case nhs => (intro _; rfl)
              k_steps
              unfold Hold
              k_dflt (refine' enum_src (ns := f) (vs := ys) (G := fun l p => if 0 < (p.2 : Int) + x9_1 ∧ ((p.2 : Int) + x9_1).fmod (n - 1) = 0 then l ++ [p.1] else l) ?nh ?nG ?nN ?nl ?ni ?nz ?nt ?nfin)
              case nh => rfl
              case nG => k_asm
              case nN => k_asm
              case nl => k_extra "sa mem"
              case ni => assumption
              case nz => exact f_size hlen hF8.2.1
              case nt =>
                unfold Hold
                intro i a ti ta ys1 lst C oC D m2 h tk E1 hia hys1 hC hx hx2 F1 N1
                k_steps
                · exact cpInt_ (by rw [if_pos (And.intro (by assumption) (by assumption))]; exact IntsAre.append hys1 (.cons _ _ .nil))
                · exact cpInt_ (by rw [if_neg fun h => absurd h.2 (by assumption)]; exact hys1)
                · exact cpInt_ (by rw [if_neg fun h => absurd h.1 (by assumption)]; exact hys1)
              case nfin =>
                unfold Hold
                intro DN hN tkN ysN FN NN neN hyN
                try dsimp only at FN
                clear neN
                have hyS : IntsAre ysN (numF f x9_1 n) := hyN
                clear hyN
                try dsimp only
                k_steps
                unfold Hold
                refine LSm.sum_ints (ns := numF f x9_1 n) FN NN rfl ⟨_, (NN _ (.head _)).1, rfl, _, rfl⟩ hyS ?_
                clear FN NN
                intro hS tkS tS FS NS
                k_steps
                unfold Hold
                k_dflt (refine' ListComp_2NF (by with_unfolding_all rfl) (by decide) (by rfl) (by decide) (by rfl) (by rfl) (by decide) ?zF ?_ ?zs)
                case zF => k_asm
                case zs => (intro _; rfl)
                k_steps
                unfold Hold
                k_dflt (refine' zip_src (xs := ysV) (ys := ysP) (rs1 := (thingsF n q).map fun r => gatF (trimF f) r ms q) (rs2 := (thingsF n q).map fun r => powF r x9_1 ms q) (fun a b => gmulF a b ms q) ?zh ?zG ?zN ?zl1 ?zl2 ?zr1 ?zr2 ?zlen ?zsz ?zt ?zfin)
                case zh => rfl
                case zG => k_asm
                case zN => k_asm
                case zl1 => k_extra "sa mem"
                case zl2 => k_extra "sa mem"
                case zr1 => exact hrV.mono fun _ _ => by k_extra "sa mem"
                case zr2 => exact hrP.mono fun _ _ => by k_extra "sa mem"
                case zlen => rw [List.length_map, List.length_map]
                case zsz => rw [List.length_map]; exact things_size (Int.le_trans (by decide) hn3) hn9
                case zt =>
                  unfold Hold
                  intro i r1 r2 a1 a2 v1 v2 c1 c2 ys own C oC D m2 h tk E1 hx1 hx2 hm1 hi1 hm2 hi2 hC hv1 hv2 F1 N1
                  obtain ⟨hs1, hl1⟩ := gat_row hM hx1
                  have hl2 := pow_row hM hx2
                  have hL1 : h.IsList a1 v1.toArray := ⟨_, (N1 _ (.tail _ (.tail _ (List.mem_append.mpr (.inl hm1))))).1, rfl, _, rfl⟩
                  have hL2 : h.IsList a2 v2.toArray := ⟨_, (N1 _ (.tail _ (.tail _ (List.mem_append.mpr (.inl hm2))))).1, rfl, _, rfl⟩
                  dsimp only [List.cons_append, List.nil_append] at N1
                  k_steps
                case zfin =>
                  unfold Hold
                  intro DZ hZ9 tkZ ysZ ownZ FZ NZ neZ hrZ
                  clear neZ
                  have hrZ2 := rows_zip hrZ
                  clear hrZ
                  have hM10 := mul_rows (rows := thingsF n q) hM (a := fun r => gatF (trimF f) r ms q) (b := fun r => powF r x9_1 ms q)
                  dsimp only [List.cons_append, List.nil_append] at NZ
                  try dsimp only at hrZ2 hM10
                  try dsimp only
                  k_steps
                  unfold Hold
                  (rename News _ _ _ _ => N9)
                  (rename Fr _ _ _ _ => F9)
                  refine cut_ints (totalF ((thingsF n q).map fun r => gmulF (gatF (trimF f) r ms q) (powF r x9_1 ms q) ms q) q) F9 N9 ?cutC ?cutD
                  case cutC =>
                    k_steps
                    · exact cutInts_ (by assumption) (by assumption) (.cons _ _ .nil) (val_1 hOk (by assumption))
                    · exact cutInts_ (by assumption) (by assumption) .nil (val_2 hOk (by assumption))
                  case cutD =>
                    clear N9 F9
                    intro l9 vs9 c9 h9 tk9 F9 N9 hi9
                    k_steps)

end Sa
theorem PySem.Challenge.cw_sa0090_01_holds : PySem.Challenge.rw_sa0090_01.Holds :=
  Sa.law_holds
