import PyProof.Rows.All
import Wide.All
import OpenK.AllK
import Wide.FinOn
import PySem.Challenge.RW_xw0340_02
open PySem PySem.W PyProof.Rows PySem.Calls
set_option Elab.async false
set_option maxRecDepth 100000
namespace Mine
/-- one entry taken out of a ledger -/
inductive Sel (l : Addr) (o : Obj) : List (Addr × Obj) → List (Addr × Obj) → Prop
  | head {r : List (Addr × Obj)} : Sel l o ((l, o) :: r) r
  | tail {p : Addr × Obj} {r r' : List (Addr × Obj)} : Sel l o r r' → Sel l o (p :: r) (p :: r')
theorem Sel.mem {l : Addr} {o : Obj} {a b : List (Addr × Obj)} (h : Sel l o a b) : (l, o) ∈ a := by
  induction h with
  | head => exact .head _
  | tail _ ih => exact .tail _ ih
theorem Sel.sub {l : Addr} {o : Obj} {a b : List (Addr × Obj)} (h : Sel l o a b) : ∀ p ∈ b, p ∈ a := by
  induction h with
  | head => exact fun _ h => .tail _ h
  | tail _ ih =>
    intro p hp
    rcases List.mem_cons.mp hp with rfl | hp
    · exact .head _
    · exact .tail _ (ih p hp)

section
variable {prog : Program} {w : World} {A A₀ : Around} {s : Shared} {K : Frag} {L : Addr} {h₀ base : Heap} {m mg mb : Str → Option Value} {news rw ro rest : List (Addr × Obj)} {p : Program} {loose : List Str} {mean : ExcName → Option Value}

theorem code_part {env : Env} {outer : List Env} {R : Result → Shared → Prop} {name qual : Str} {params : Arguments} {body : List Stmt} {scope : Scope} {dV kV doc pm cdv ct oc : Value} {an od : Option Addr} {osl : Array (Option Value)} {f : Addr} {args : Args} {binds : List (Str × Value)}
    (B : Below A₀ base outer h₀) (F : Fr h₀ L s.heap m) (X₀ : K.In h₀) (N : News h₀ L s.heap news) (T : Top p loose mean mg mb h₀) (hA : A.frames = some (env :: outer)) (hf : env.frame = some L) (hke : env.scope.kind = .function)
    (ho : K.lookup f = some ⟨oc, od, .func (fnOf name qual params body scope dV kV doc pm an cdv ct), osl⟩) (hcd : codeIn K cdv qual = true) (hroom : A.depth < recursionLimit)
    (hbind : BindsTo s (fnOf name qual params body scope dV kV doc pm an cdv ct) args binds) (hloc : ∀ y ∈ binds, scope.names.lookup y.1 = some .local)
    (hrw : ∀ q ∈ rw, q ∈ news) (hre : ∀ q ∈ rest, q ∈ news) (hro : ∀ q ∈ ro, q ∈ rest) (ap : ∀ q ∈ rw, ∀ q' ∈ rest, q'.1 ≠ q.1)
    (h : ∀ g L' h₁, Fr h₀ L g m → Fr g L' h₁ (fun y => binds.reverse.lookup y) → News g L' h₁ (rw ++ ro) → Below A base (env :: outer) g → K.In g → Top p loose mean mg mb g → (∀ q ∈ rw ++ ro, q.1 < L') →
      (∀ b o, s.heap.get? b = some o → b ∉ (rw ++ ro).map (·.1) → g.get? b = some o) →
      wpAny (model prog w) (A.deeper (envOf qual scope L' f cdv)) (execs body (envOf qual scope L' f cdv))
        (fun fl s' => LeaveK h₀ L m g (fun r s'' => (News h₀ L s''.heap ro → News h₀ L s''.heap rest) → R r s'') (match fl with | .ret v => v | _ => .none) s')
        (fun e s' => wpAny (model prog w) (A.deeper (envOf qual scope L' f cdv)) (leaving (envOf qual scope L' f cdv) e) (fun _ s'' => R (.error e) s'') (fun e' s'' => R (.error e') s'') s')
        { s with heap := h₁, toks := s.toks + binds.length })
    (hco : scope.isCoroutine = false) (hgen : scope.isGenerator = false) (hk : scope.kind = .function)
    (hcell : ∀ x ∈ scope.names, x.2 ≠ .cell) : codeAny (model prog w) A (.call (.ref f) args) R s := by
  have hmid : ∀ q ∈ rw ++ ro, q ∈ news := fun q hq => (List.mem_append.mp hq).elim (hrw q) fun h => hre q (hro q h)
  have N₁ : News h₀ L s.heap (rw ++ ro) := fun q hq => N q (hmid q hq)
  obtain ⟨FG, BG, st, lv⟩ := groundX (R := fun r s'' => (News h₀ L s''.heap ro → News h₀ L s''.heap rest) → R r s'') B F N₁ hA hf hke
  refine codeAny_call_def (fd := fnOf name qual params body scope dV kV doc pm an cdv ct) (body := body) (binds := binds) hroom ((X₀.keeps F.keep) _ _ ho) rfl (T.nolimit.keeps F.keep) (codeRec_of (X₀.keeps F.keep) hcd) rfl hbind hcell hloc (fun h₁ hns hk₁ => ?_) hco hgen hk
  have gk : ∀ b o, s.heap.get? b = some o → b ∉ (rw ++ ro).map (·.1) → (hideAll s.heap ((rw ++ ro).map (·.1))).get? b = some o := fun b o e hb => hideAll_get _ e hb
  refine wpAny_mono (h _ s.heap.objs.size h₁ FG ⟨hns, fun b o e => hk₁ b o (of_hideAll _ e), Nat.le_of_eq (hideAll_size _ _)⟩
    (fun q hq => ⟨hk₁ _ _ (N₁ q hq).1, Nat.ne_of_lt (Heap.lt_size (N₁ q hq).1), hideAll_none _ (List.mem_map_of_mem hq)⟩) BG (X₀.keeps st) (T.keeps st) (fun q hq => Heap.lt_size (N₁ q hq).1) gk) (fun fl s' hl => ?_) fun _ _ y => y
  have hl' := lv _ _ hl
  obtain ⟨L', m', news', F', N', k⟩ := hl
  refine hl' fun nro q hq => ?_
  have hN := N q (hre q hq)
  refine ⟨?_, hN.2⟩
  by_cases hm : q.1 ∈ (rw ++ ro).map (·.1)
  · obtain ⟨q', hq', e⟩ := List.mem_map.mp hm
    rcases List.mem_append.mp hq' with h1 | h1
    · exact absurd e.symm (ap q' h1 q hq)
    · have h2 := (nro q' h1).1
      have h3 := (N₁ q' hq').1
      rw [e, hN.1] at h3
      rw [← e, h2]; exact h3.symm
  · exact F'.keep _ _ (gk _ _ hN.1 hm)
end
section
variable {prog : Program} {w : World} {A A₀ : Around} {s : Shared} {K : Frag} {L : Addr} {h₀ base : Heap} {m mg mb : Str → Option Value} {news rw ro rest : List (Addr × Obj)} {p : Program} {loose : List Str} {mean : ExcName → Option Value}
theorem code_partC {env : Env} {outer : List Env} {R : Result → Shared → Prop} {name qual : Str} {params : Arguments} {body : List Stmt} {scope : Scope} {dV kV doc pm cdv ct oc : Value} {an od : Option Addr} {osl : Array (Option Value)} {f : Addr} {args : Args} {binds : List (Str × Value)}
    (B : Below A₀ base outer h₀) (F : Fr h₀ L s.heap m) (X₀ : K.In h₀) (N : News h₀ L s.heap news) (T : Top p loose mean mg mb h₀) (hA : A.frames = some (env :: outer)) (hf : env.frame = some L) (hke : env.scope.kind = .function)
    (ho : K.lookup f = some ⟨oc, od, .func (fnOf name qual params body scope dV kV doc pm an cdv ct), osl⟩) (hcd : codeIn K cdv qual = true) (hroom : A.depth < recursionLimit)
    (hbind : BindsTo s (fnOf name qual params body scope dV kV doc pm an cdv ct) args binds) (hkind : (binds.all fun y => scope.names.lookup y.1 == some .local || scope.names.lookup y.1 == some .cell) = true)
    (hnd : ((cellsFrom 0 scope.names []).map (·.1)).Nodup)
    (hrw : ∀ q ∈ rw, q ∈ news) (hre : ∀ q ∈ rest, q ∈ news) (hro : ∀ q ∈ ro, q ∈ rest) (ap : ∀ q ∈ rw, ∀ q' ∈ rest, q'.1 ≠ q.1)
    (h : ∀ g L' h₁ tk cells, Fr h₀ L g m → Fr g L' h₁ (bindL (envOfC qual scope L' f cdv).kindOf binds fun _ => none) → News g L' h₁ (cells ++ (rw ++ ro)) →
      CellsAre (bindC (envOfC qual scope L' f cdv).kindOf binds fun _ => none) (cellsFrom (L' + 1) scope.names []) cells → Below A base (env :: outer) g → K.In g → Top p loose mean mg mb g → (∀ q ∈ rw ++ ro, q.1 < L') →
      (∀ b o, s.heap.get? b = some o → b ∉ (rw ++ ro).map (·.1) → g.get? b = some o) →
      wpAny (model prog w) (A.deeper (envOfC qual scope L' f cdv)) (execs body (envOfC qual scope L' f cdv))
        (fun fl s' => LeaveK h₀ L m g (fun r s'' => (News h₀ L s''.heap ro → News h₀ L s''.heap rest) → R r s'') (match fl with | .ret v => v | _ => .none) s')
        (fun e s' => wpAny (model prog w) (A.deeper (envOfC qual scope L' f cdv)) (leaving (envOfC qual scope L' f cdv) e) (fun _ s'' => R (.error e) s'') (fun e' s'' => R (.error e') s'') s')
        { s with heap := h₁, toks := tk })
    (hco : scope.isCoroutine = false) (hgen : scope.isGenerator = false) (hk : scope.kind = .function) : codeAny (model prog w) A (.call (.ref f) args) R s := by
  have hmid : ∀ q ∈ rw ++ ro, q ∈ news := fun q hq => (List.mem_append.mp hq).elim (hrw q) fun h => hre q (hro q h)
  have N₁ : News h₀ L s.heap (rw ++ ro) := fun q hq => N q (hmid q hq)
  obtain ⟨FG, BG, st, lv⟩ := groundX (R := fun r s'' => (News h₀ L s''.heap ro → News h₀ L s''.heap rest) → R r s'') B F N₁ hA hf hke
  have gk : ∀ b o, s.heap.get? b = some o → b ∉ (rw ++ ro).map (·.1) → (hideAll s.heap ((rw ++ ro).map (·.1))).get? b = some o := fun b o e hb => hideAll_get _ e hb
  refine codeAny_call_function hroom ((X₀.keeps F.keep) _ _ ho) rfl hco hgen rfl (codeRec_of (X₀.keeps F.keep) hcd) (hbind _ _ _ _ ?_)
  refine wpAny_newFunctionEnv_cells hk (kindsX hkind _) fun env' he s' x => ?_
  subst he
  refine ⟨(T.nolimit.keeps F.keep).keeps x.toInCall.keep, codeAny_func ?_⟩
  obtain ⟨h₁, tk, rfl, _⟩ := x.done
  have hk₁ := x.toInCall.keep
  obtain ⟨cells, NC, Y⟩ := Cl.news (h₀ := s.heap) (Nat.le_refl _) fun n c hm => ⟨x.cell n c (lookup_of_mem_nodup (cellsFrom_names scope.names 0 (s.heap.objs.size + 1) [] [] rfl ▸ hnd) hm), x.above n c hm⟩
  refine wpAny_mono (h _ s.heap.objs.size h₁ tk cells FG ⟨x.toInCall.ns, fun b o e => hk₁ b o (of_hideAll _ e), Nat.le_of_eq (hideAll_size _ _)⟩ (fun q hq => ?_) Y BG (X₀.keeps st) (T.keeps st) (fun q hq => Heap.lt_size (N₁ q hq).1) gk) (fun fl s' hl => ?_) fun _ _ y => y
  · rcases List.mem_append.mp hq with hq | hq
    · refine ⟨(NC q hq).1, (NC q hq).2.1, ?_⟩
      cases z : (hideAll s.heap ((rw ++ ro).map (·.1))).get? q.1 with
      | none => rfl
      | some o => have := of_hideAll _ z; rw [(NC q hq).2.2] at this; cases this
    · exact ⟨hk₁ _ _ (N₁ q hq).1, Nat.ne_of_lt (Heap.lt_size (N₁ q hq).1), hideAll_none _ (List.mem_map_of_mem hq)⟩
  have hl' := lv _ _ hl
  obtain ⟨L', m', news', F', N', k⟩ := hl
  refine hl' fun nro q hq => ?_
  have hN := N q (hre q hq)
  refine ⟨?_, hN.2⟩
  by_cases hm : q.1 ∈ (rw ++ ro).map (·.1)
  · obtain ⟨q', hq', e⟩ := List.mem_map.mp hm
    rcases List.mem_append.mp hq' with h1 | h1
    · exact absurd e.symm (ap q' h1 q hq)
    · have h2 := (nro q' h1).1
      have h3 := (N₁ q' hq').1
      rw [e, hN.1] at h3
      rw [← e, h2]; exact h3.symm
  · exact F'.keep _ _ (gk _ _ hN.1 hm)
end

def nthV : List Value → Nat → Option Value
  | [], _ => none
  | v :: _, 0 => some v
  | _ :: r, k + 1 => nthV r k
theorem nthV_eq : ∀ (l : List Value) (k : Nat), nthV l k = l[k]?
  | [], _ => rfl
  | _ :: _, 0 => rfl
  | _ :: r, k + 1 => nthV_eq r k
theorem item_L {prog : Program} {w : World} {A : Around} {E : Value → Shared → Prop} {s : Shared} {value slice : PySem.Expr} {L : Addr} {h₀ : Heap} {news : List (Addr × Obj)} {l : Addr} {vs : List Value} {n : Nat} {k : Int} {u : Tok} {v : Value} {Q : Value → Shared → Prop}
    (N : News h₀ L s.heap news) (hm : (l, listOf vs.toArray n) ∈ news) (h0 : 0 ≤ k) (hhi : k < 2 ^ 63) (hx : nthV vs k.toNat = some v) (h : Q v s)
    (hs : subscripted slice false (.ref l) (.int k u) = operate [.ref l, .int k u] (getItem (.ref l) (.int k u))) :
    wpAny (model prog w) A (subscriptTail value slice (.ref l) (.int k u)) Q E s := by
  have hl : s.heap.IsList l vs.toArray := ⟨_, (N _ hm).1, rfl, n, rfl⟩
  exact tail_any hl.typeIs slot_list_getitem.lookup (wpAny_getItem_list hl h0 hhi (by rw [nthV_eq] at hx; simpa using hx) h) hs
theorem np {x y : Int} (h0 : 0 < y) (h : y ≤ 4294967296) : Builtin.divisionGoesByPylong x y = false := by
  refine PyProof.noPylong_of_log2 ?_
  by_cases hz : y.natAbs = 0
  · omega
  · exact Nat.lt_trans ((Nat.log2_lt hz).mpr (show y.natAbs < 2 ^ 33 by omega)) (by decide)
theorem join1 {h₀ h : Heap} {L l : Addr} {o : Obj} {rest tl : List (Addr × Obj)} (kN : News h₀ L h ((l, o) :: tl)) (hR : News h₀ L h [] → News h₀ L h rest) : News h₀ L h ((l, o) :: rest) := by
  intro q hq
  rcases List.mem_cons.mp hq with rfl | hq
  · exact kN _ (.head _)
  · exact hR News.nil q hq
theorem newsc {h₀ h : Heap} {L : Addr} {p : Addr × Obj} {rest all : List (Addr × Obj)} (N : News h₀ L h all) (hm : p ∈ all) (hr : News h₀ L h rest) : News h₀ L h (p :: rest) := by
  intro q hq
  rcases List.mem_cons.mp hq with rfl | hq
  · exact N _ hm
  · exact hr q hq
theorem newsl {h₀ h : Heap} {L : Addr} {l all : List (Addr × Obj)} (N : News h₀ L h all) (hm : SubL l all) : News h₀ L h l := fun q hq => N q (hm.mem q hq)
theorem fresh_of {h₀ hs g h' : Heap} {L L' r : Addr} {o : Obj} {news all : List (Addr × Obj)} {mids : List Addr} (N : News h₀ L hs news) (hst : ∀ b o, hs.get? b = some o → b ∉ mids → g.get? b = some o) (N' : News g L' h' all) (hr : (r, o) ∈ all) (hm : r ∉ mids) : ∀ q ∈ news, q.1 ≠ r := by
  intro q hq e
  have h1 := hst _ _ (N q hq).1 (e ▸ hm)
  have h2 := (N' _ hr).2.2
  rw [e] at h1
  rw [show (r, o).1 = r from rfl, h1] at h2
  cases h2
theorem gr_nonneg (c : Int) : 0 ≤ (if -1 - c > c then -1 - c else c) := by split <;> omega
theorem ite01 {c : Prop} [Decidable c] : (0 : Int) ≤ (if c then 1 else 0) := by split <;> decide
section
variable {prog : Program} {w : World} {A : Around} {E : Value → Shared → Prop} {s : Shared} {env : Env} {h₀ : Heap} {x : Str} {body : List Stmt} {Q : Flow → Shared → Prop}
/-- the frame's map behind some turns: the stored names are anything -/
abbrev stoM (stored : List Str) (u m₀ : Str → Option Value) : Str → Option Value := fun z => if stored.contains z then u z else m₀ z
def IterEnd (h₀ : Heap) (L : Addr) (x : Str) (stored : List Str) (m₀ : Str → Option Value) (all : List (Addr × Obj)) (s₁ s₂ : Shared) : Prop :=
  ∃ h' tk m' news', s₂ = { s₁ with heap := h', toks := tk } ∧ Fr h₀ L h' m' ∧ News h₀ L h' news' ∧ (∀ p ∈ all, p ∈ news') ∧ ∀ z, z ≠ x → stored.contains z = false → m' z = m₀ z
def IterPost (h₀ : Heap) (L : Addr) (x : Str) (stored : List Str) (m₀ : Str → Option Value) (all : List (Addr × Obj)) (s₁ : Shared) (Q : Flow → Shared → Prop) (f : Flow) (s₂ : Shared) : Prop :=
  match f with
  | .ret v => Q (.ret v) s₂
  | .brk => Q .next s₂
  | _ => IterEnd h₀ L x stored m₀ all s₁ s₂
theorem IterEnd.intro {L : Addr} {stored : List Str} {m₀ m' : Str → Option Value} {all news' : List (Addr × Obj)} {s₁ : Shared} {h' : Heap} {tk : Nat} (F : Fr h₀ L h' m') (N : News h₀ L h' news') (hn : ∀ p ∈ all, p ∈ news') (hm : ∀ z, z ≠ x → stored.contains z = false → m' z = m₀ z) :
    IterEnd h₀ L x stored m₀ all s₁ { s₁ with heap := h', toks := tk } := ⟨h', tk, m', news', rfl, F, N, hn, hm⟩
theorem stoM_eq {stored : List Str} {m₀ m : Str → Option Value} {v : Option Value} (h : ∀ z, z ≠ x → stored.contains z = false → m z = m₀ z) : (fun y => if y = x then v else m y) = fun y => if y = x then v else stoM stored m m₀ y := by
  funext y
  by_cases h1 : y = x
  · simp [h1]
  · simp only [if_neg h1, stoM]
    by_cases h2 : stored.contains y = true
    · rw [if_pos h2]
    · rw [if_neg h2]; exact h y h1 (by simpa using h2)
theorem iter_keep {l : Addr} {vs : List Value} {nn : Nat} {m₀ : Str → Option Value} {news : List (Addr × Obj)} (stored : List Str) (P : Value → Prop)
    (hh : A.handled = none) (F : Fr h₀ env.locals s.heap m₀) (N : News h₀ env.locals s.heap news) (hl : (l, listOf vs.toArray nn) ∈ news) (hP : ∀ v ∈ vs, P v)
    (turn : ∀ v (u : Str → Option Value) h tk own, P v → Fr h₀ env.locals h (fun y => if y = x then some v else stoM stored u m₀ y) → News h₀ env.locals h (news ++ own) →
      wpAny (model prog w) A (execs body env) (IterPost h₀ env.locals x stored m₀ (news ++ own) { s with heap := h, toks := tk } Q) E { s with heap := h, toks := tk })
    (done : ∀ (u : Str → Option Value) h tk, Fr h₀ env.locals h (fun y => if y = x then u y else stoM stored u m₀ y) → News h₀ env.locals h news → Q .next { s with heap := h, toks := tk }) :
    wpAny (model prog w) A (pyIter (.ref l)) (fun it s₂ => LoopAtV prog w A h₀ env x body Q E it s₂) E s := by
  refine kdl_iter (fun _ m nx => nx = news ∧ ∀ z, z ≠ x → stored.contains z = false → m z = m₀ z) hh hl F N ⟨rfl, fun _ _ _ => rfl⟩ ?_ ?_
  · rintro i v m₁ news₁ h tk own hv hoff _ ⟨rfl, hm⟩ F₁ N₁
    rw [stoM_eq (m₀ := m₀) hm] at F₁
    refine wpAny_mono (turn v m₁ h tk own (hP v (List.mem_of_getElem? hv)) F₁ N₁) (fun f s₂ p => ?_) fun _ _ e => e
    have fin : IterEnd h₀ env.locals x stored m₀ (news₁ ++ own) { s with heap := h, toks := tk } s₂ →
        InvEndG h₀ env.locals (fun m' nx => (l, listOf vs.toArray nn) ∈ nx ∧ (nx = news₁ ∧ ∀ z, z ≠ x → stored.contains z = false → m' z = m₀ z)) own { s with heap := h, toks := tk } s₂ := by
      rintro ⟨h', tk', m', news', e, F', N', hn, hm'⟩
      exact ⟨h', tk', m', news', news₁, e, F', N', fun p hp => hn p (List.mem_append.mpr (.inl hp)), fun p hp => hn p (List.mem_append.mpr (.inr hp)), hoff, hl, rfl, hm'⟩
    cases f with
    | ret v => exact p
    | brk => exact p
    | next => exact fin p
    | cont => exact fin p
  · rintro m₁ news₁ h tk ⟨rfl, hm⟩ F₁ N₁
    refine done m₁ h tk ?_ N₁
    have e := stoM_eq (x := x) (v := m₁ x) hm
    have e2 : (fun y => if y = x then m₁ y else stoM stored m₁ m₀ y) = m₁ := by
      funext y
      by_cases h1 : y = x
      · simp [h1]
      · simp only [if_neg h1, stoM]
        by_cases h2 : stored.contains y = true
        · rw [if_pos h2]
        · rw [if_neg h2]; exact (hm y h1 (by simpa using h2)).symm
    rw [e2]; exact F₁
end

theorem pow_facts' : ∀ k : Fin 33, 1 ≤ (2 : Int) ^ (32 - k.val) ∧ (2 : Int) ^ (32 - k.val) ≤ 4294967296 := by decide
theorem pow_facts {p : Int} (h0 : 0 ≤ p) (h1 : p ≤ 32) : 1 ≤ (2 : Int) ^ (32 - p).toNat ∧ (2 : Int) ^ (32 - p).toNat ≤ 4294967296 := by
  have := pow_facts' ⟨p.toNat, by omega⟩
  have e : ((32 : Int) - p).toNat = 32 - p.toNat := by omega
  rw [e]; exact this
theorem nat_mask (a k : Nat) (hk : k ≤ 32) (ha : a < 2 ^ 32) : a &&& (2 ^ 32 - 2 ^ k) = a - a % 2 ^ k := by
  have e1 : a - a % 2 ^ k = (a >>> k) <<< k := by
    rw [Nat.shiftRight_eq_div_pow, Nat.shiftLeft_eq]
    have := Nat.div_add_mod a (2 ^ k)
    rw [Nat.mul_comm] at this
    omega
  have e2 : 2 ^ 32 - 2 ^ k = (2 ^ (32 - k) - 1) <<< k := by
    rw [Nat.shiftLeft_eq, Nat.sub_mul, ← Nat.pow_add, Nat.sub_add_cancel hk, Nat.one_mul]
  rw [e1, e2]
  apply Nat.eq_of_testBit_eq
  intro i
  rw [Nat.testBit_and, Nat.testBit_shiftLeft, Nat.testBit_shiftLeft, Nat.testBit_two_pow_sub_one, Nat.testBit_shiftRight]
  by_cases h : k ≤ i
  · have e3 : k + (i - k) = i := by omega
    simp only [ge_iff_le, h, decide_true, Bool.true_and, e3]
    by_cases h2 : i < 32
    · simp [show i - k < 32 - k by omega]
    · have : a.testBit i = false := Nat.testBit_lt_two_pow (Nat.lt_of_lt_of_le ha (Nat.pow_le_pow_right (by decide) (by omega)))
      simp [this]
  · simp [h]
theorem and_mask {y p : Int} (h0 : 0 ≤ p) (h1 : p ≤ 32) (hy : 0 ≤ y) (hy2 : y < 4294967296) : Builtin.bitAnd y (4294967296 - 2 ^ (32 - p).toNat) = y - y % 2 ^ (32 - p).toNat := by
  have hp := pow_facts h0 h1
  rw [bitAnd_pp hy (by omega)]
  have e : ((4294967296 : Int) - 2 ^ (32 - p).toNat).toNat = 2 ^ 32 - 2 ^ (32 - p).toNat := by
    have : ((2 ^ (32 - p).toNat : Nat) : Int) = (2 : Int) ^ (32 - p).toNat := by push_cast; rfl
    omega
  rw [e, nat_mask _ _ (by omega) (by omega)]
  have e4 : ((2 ^ (32 - p).toNat : Nat) : Int) = (2 : Int) ^ (32 - p).toNat := by push_cast; rfl
  have e5 : y % 2 ^ (32 - p).toNat = ((y.toNat % 2 ^ (32 - p).toNat : Nat) : Int) := by
    rw [← e4]
    conv => lhs; rw [← Int.toNat_of_nonneg hy]
    exact (Int.natCast_emod _ _).symm
  have := Nat.mod_le y.toNat (2 ^ (32 - p).toNat)
  omega
def told (x y p : Int) : Bool := x == 4294967295 || (decide (p < 31) && x == y - y % 2 ^ (32 - p).toNat + (2 ^ (32 - p).toNat - 1))
theorem told_a {x y p : Int} (h : x = 4294967295) : true = told x y p := by simp [told, h]
theorem told_d {x y p : Int} (h : x = 4294967295) : (x == 4294967295) = told x y p := by simp [told, h]
theorem told_b {x y p : Int} (h : x ≠ 4294967295) (h2 : ¬ p < 31) : false = told x y p := by simp [told, h, h2]
theorem told_c {x y p r r' : Int} (h : x ≠ 4294967295) (h2 : p < 31) (h0 : 0 ≤ p) (h1 : p ≤ 32) (hy : 0 ≤ y) (hy2 : y < 4294967296) (e : r = 4294967296 - 2 ^ (32 - p).toNat) (e' : r' = 4294967296 - 2 ^ (32 - p).toNat) :
    (x == Builtin.bitAnd y r + (4294967295 - r')) = told x y p := by
  rw [e, e', and_mask h0 h1 hy hy2]
  have : (x == 4294967295) = false := by simpa using h
  have e3 : (4294967295 : Int) - (4294967296 - 2 ^ (32 - p).toNat) = 2 ^ (32 - p).toNat - 1 := by omega
  simp only [told, this, h2, decide_true, Bool.true_and, Bool.false_or, e3]

def selI (f x y : Int) : Int := if f = 0 then x else y

def forAll (x x1 p1 x2 p2 : Int) : Bool := told x x1 p1 || told x x2 p2

theorem told_e {x y p : Int} (h : x ≠ 4294967295) (h2 : p < 31) : (x == y - y.fmod (2 ^ (32 - p).toNat) + 2 ^ (32 - p).toNat - 1) = told x y p := by
  have h3 : (x == 4294967295) = false := by simpa using h
  have e : y.fmod (2 ^ (32 - p).toNat) = y % 2 ^ (32 - p).toNat := Int.fmod_eq_emod_of_nonneg _ (Int.le_of_lt (Int.pow_pos (by decide)))
  rw [e]
  have e2 : y - y % 2 ^ (32 - p).toNat + 2 ^ (32 - p).toNat - 1 = y - y % 2 ^ (32 - p).toNat + (2 ^ (32 - p).toNat - 1) := by omega
  simp only [told, h3, h2, decide_true, Bool.true_and, Bool.false_or, e2]
theorem told_f {x y p : Int} (h : x ≠ 4294967295) (h2 : ¬ p < 31) : decide (p < 31) = told x y p := by
  have h3 : (x == 4294967295) = false := by simpa using h
  simp only [told, h3, h2, decide_false, Bool.false_and, Bool.or_self]
theorem due_a {x x1 p1 x2 p2 : Int} (h : x = 4294967295) : true = forAll x x1 p1 x2 p2 := by simp [forAll, told, h]
theorem due_or {x x1 p1 x2 p2 : Int} {b c : Bool} (h : b = told x x1 p1) (h2 : c = told x x2 p2) : (b || c) = forAll x x1 p1 x2 p2 := by rw [h, h2]; rfl


theorem ne_same {prog : Program} {w : World} {A : Around} {E : Value → Shared → Prop} {s : Shared} {c : Bool} {Q : Value → Shared → Prop} (h : Q (.bool false) s) : wpAny (model prog w) A (compareOp .NotEq (.bool c) (.bool c)) Q E s := ne_bool (by rw [bne_self_eq_false]; exact h)
theorem lit_a : forAll 184549631 167772161 8 184549377 24 = true := by decide +kernel
theorem lit_b : forAll 184549630 167772161 8 184549377 24 = false := by decide +kernel
abbrev IntV (lo hi : Int) (v : Value) : Prop := ∃ i t, v = .int i t ∧ lo ≤ i ∧ i ≤ hi
abbrev AnyInt (v : Value) : Prop := ∃ i t, v = .int i t

def D_take_spec (KK : Params → Frag) : Prop := ∀ {pp : Program} {w : World} {loose : List Str} {mean : ExcName → Option Value} {mg mb : Str → Option Value} {dp un : Nat} {gd : Option (List Code)} {cn : Str} {cs : Scope} {a : Addr} {ccd : Value} {cl : List (Str × Addr)} {outer : List Env} {A₀ : Around} {base h₀ : Heap} {L : Addr} {m : Str → Option Value} {news : List (Addr × Obj)} {s : Shared} {Q E : Value → Shared → Prop} {rest : List (Addr × Obj)} {l : Addr} {x y top : Int} {tx ty tt : Tok} {n : Nat},
    Below A₀ base outer h₀ → Fr h₀ L s.heap m → (KK w.params).In h₀ → News h₀ L s.heap news → Top pp loose mean mg mb h₀ → cs.kind = .function → dp < 495 → 
    Sel l (listOf #[Value.int x tx, Value.int y ty] n) news rest → (∀ p ∈ rest, p.1 ≠ l) → 0 ≤ x → 0 ≤ y → y < 2147483647 → 0 < top → top ≤ 4294967296 → 
    (∀ r tr x' tx' y' ty' h' tk', 0 ≤ r → r < top → 0 ≤ x' → 0 ≤ y' → y' < 2147483647 → Fr h₀ L h' m → News h₀ L h' ((l, listOf #[Value.int x' tx', Value.int y' ty'] n) :: rest) → Q (.int r tr) { s with heap := h', toks := tk' }) →
    wpAny (model Challenge.rw_xw0340_02.row.prog w) (ktrTop dp un gd cn cs L a ccd cl outer) (call (.ref 604) [.ref l, .int top tt]) Q E s
theorem U_take_spec {KK : Params → Frag} (hh : D_take_spec KK) {pp : Program} {w : World} {loose : List Str} {mean : ExcName → Option Value} {mg mb : Str → Option Value} {dp un : Nat} {gd : Option (List Code)} {cn : Str} {cs : Scope} {a : Addr} {ccd : Value} {cl : List (Str × Addr)} {outer : List Env} {A₀ : Around} {base h₀ : Heap} {L : Addr} {m : Str → Option Value} {news : List (Addr × Obj)} {s : Shared} {Q E : Value → Shared → Prop} {rest : List (Addr × Obj)} {l : Addr} {x y top : Int} {tx ty tt : Tok} {n : Nat} :
    Below A₀ base outer h₀ → Fr h₀ L s.heap m → (KK w.params).In h₀ → News h₀ L s.heap news → Top pp loose mean mg mb h₀ → cs.kind = .function → dp < 495 → 
    Sel l (listOf #[Value.int x tx, Value.int y ty] n) news rest → (∀ p ∈ rest, p.1 ≠ l) → 0 ≤ x → 0 ≤ y → y < 2147483647 → 0 < top → top ≤ 4294967296 → 
    (∀ r tr x' tx' y' ty' h' tk', 0 ≤ r → r < top → 0 ≤ x' → 0 ≤ y' → y' < 2147483647 → Fr h₀ L h' m → News h₀ L h' ((l, listOf #[Value.int x' tx', Value.int y' ty'] n) :: rest) → Q (.int r tr) { s with heap := h', toks := tk' }) →
    wpAny (model Challenge.rw_xw0340_02.row.prog w) (ktrTop dp un gd cn cs L a ccd cl outer) (call (.ref 604) [.ref l, .int top tt]) Q E s := hh
def D_mask_spec (KK : Params → Frag) : Prop := ∀ {pp : Program} {w : World} {loose : List Str} {mean : ExcName → Option Value} {mg mb : Str → Option Value} {dp un : Nat} {gd : Option (List Code)} {cn : Str} {cs : Scope} {a : Addr} {ccd : Value} {cl : List (Str × Addr)} {outer : List Env} {A₀ : Around} {base h₀ : Heap} {L : Addr} {m : Str → Option Value} {news : List (Addr × Obj)} {s : Shared} {Q E : Value → Shared → Prop} {p : Int} {tp : Tok},
    Below A₀ base outer h₀ → Fr h₀ L s.heap m → (KK w.params).In h₀ → News h₀ L s.heap news → Top pp loose mean mg mb h₀ → cs.kind = .function → dp < 495 → 
    0 ≤ p → p ≤ 32 → 
    (∀ r tr h' tk', r = 4294967296 - 2 ^ (32 - p).toNat → Fr h₀ L h' m → News h₀ L h' (news) → Q (.int r tr) { s with heap := h', toks := tk' }) →
    wpAny (model Challenge.rw_xw0340_02.row.prog w) (ktrTop dp un gd cn cs L a ccd cl outer) (call (.ref 117) [.int p tp]) Q E s
theorem U_mask_spec {KK : Params → Frag} (hh : D_mask_spec KK) {pp : Program} {w : World} {loose : List Str} {mean : ExcName → Option Value} {mg mb : Str → Option Value} {dp un : Nat} {gd : Option (List Code)} {cn : Str} {cs : Scope} {a : Addr} {ccd : Value} {cl : List (Str × Addr)} {outer : List Env} {A₀ : Around} {base h₀ : Heap} {L : Addr} {m : Str → Option Value} {news : List (Addr × Obj)} {s : Shared} {Q E : Value → Shared → Prop} {p : Int} {tp : Tok} :
    Below A₀ base outer h₀ → Fr h₀ L s.heap m → (KK w.params).In h₀ → News h₀ L s.heap news → Top pp loose mean mg mb h₀ → cs.kind = .function → dp < 495 → 
    0 ≤ p → p ≤ 32 → 
    (∀ r tr h' tk', r = 4294967296 - 2 ^ (32 - p).toNat → Fr h₀ L h' m → News h₀ L h' (news) → Q (.int r tr) { s with heap := h', toks := tk' }) →
    wpAny (model Challenge.rw_xw0340_02.row.prog w) (ktrTop dp un gd cn cs L a ccd cl outer) (call (.ref 117) [.int p tp]) Q E s := hh
def D_bcast_spec (KK : Params → Frag) : Prop := ∀ {pp : Program} {w : World} {loose : List Str} {mean : ExcName → Option Value} {mg mb : Str → Option Value} {dp un : Nat} {gd : Option (List Code)} {cn : Str} {cs : Scope} {a : Addr} {ccd : Value} {cl : List (Str × Addr)} {outer : List Env} {A₀ : Around} {base h₀ : Heap} {L : Addr} {m : Str → Option Value} {news : List (Addr × Obj)} {s : Shared} {Q E : Value → Shared → Prop} {x y p : Int} {tx ty tp : Tok},
    Below A₀ base outer h₀ → Fr h₀ L s.heap m → (KK w.params).In h₀ → News h₀ L s.heap news → Top pp loose mean mg mb h₀ → cs.kind = .function → dp < 490 → 
    0 ≤ y → y < 4294967296 → 0 ≤ p → p ≤ 32 → 
    (∀ b h' tk', b = told x y p → Fr h₀ L h' m → News h₀ L h' (news) → Q (.bool b) { s with heap := h', toks := tk' }) →
    wpAny (model Challenge.rw_xw0340_02.row.prog w) (ktrTop dp un gd cn cs L a ccd cl outer) (call (.ref 131) [.int x tx, .int y ty, .int p tp]) Q E s
theorem U_bcast_spec {KK : Params → Frag} (hh : D_bcast_spec KK) {pp : Program} {w : World} {loose : List Str} {mean : ExcName → Option Value} {mg mb : Str → Option Value} {dp un : Nat} {gd : Option (List Code)} {cn : Str} {cs : Scope} {a : Addr} {ccd : Value} {cl : List (Str × Addr)} {outer : List Env} {A₀ : Around} {base h₀ : Heap} {L : Addr} {m : Str → Option Value} {news : List (Addr × Obj)} {s : Shared} {Q E : Value → Shared → Prop} {x y p : Int} {tx ty tp : Tok} :
    Below A₀ base outer h₀ → Fr h₀ L s.heap m → (KK w.params).In h₀ → News h₀ L s.heap news → Top pp loose mean mg mb h₀ → cs.kind = .function → dp < 490 → 
    0 ≤ y → y < 4294967296 → 0 ≤ p → p ≤ 32 → 
    (∀ b h' tk', b = told x y p → Fr h₀ L h' m → News h₀ L h' (news) → Q (.bool b) { s with heap := h', toks := tk' }) →
    wpAny (model Challenge.rw_xw0340_02.row.prog w) (ktrTop dp un gd cn cs L a ccd cl outer) (call (.ref 131) [.int x tx, .int y ty, .int p tp]) Q E s := hh
def D_told0_spec (KK : Params → Frag) : Prop := ∀ {pp : Program} {w : World} {loose : List Str} {mean : ExcName → Option Value} {mg mb : Str → Option Value} {dp un : Nat} {gd : Option (List Code)} {cn : Str} {cs : Scope} {a : Addr} {ccd : Value} {cl : List (Str × Addr)} {outer : List Env} {A₀ : Around} {base h₀ : Heap} {L : Addr} {m : Str → Option Value} {news : List (Addr × Obj)} {s : Shared} {Q E : Value → Shared → Prop} {x : Int} {tx tf : Tok} {lay dl fl f1 d1 f2 d2 : Addr} {k1 k2 k3 k4 k5 k6 k7 k8 k9 k10 k11 t1 t2 t3 t4 : Tok} {v2 v3 v4 v5 v8 v11 : Value} {x1 p1 x2 p2 : Int},
    Below A₀ base outer h₀ → Fr h₀ L s.heap m → (KK w.params).In h₀ → News h₀ L s.heap news → Top pp loose mean mg mb h₀ → cs.kind = .function → dp < 485 → 
    SubL ([(lay, instObj 400 dl), (dl, dictOf [⟨PyData.keyHash w.params (Str.ofString "faces"), Value.str (Str.ofString "faces") k1, Value.ref fl⟩, ⟨PyData.keyHash w.params (Str.ofString "routes"), Value.str (Str.ofString "routes") k2, v2⟩, ⟨PyData.keyHash w.params (Str.ofString "reassembly"), Value.str (Str.ofString "reassembly") k3, v3⟩, ⟨PyData.keyHash w.params (Str.ofString "forwards"), Value.str (Str.ofString "forwards") k4, v4⟩, ⟨PyData.keyHash w.params (Str.ofString "last_ident"), Value.str (Str.ofString "last_ident") k5, v5⟩] 5), (fl, listOf #[Value.ref f1, Value.ref f2] 0), (f1, instObj 274 d1), (d1, dictOf [⟨PyData.keyHash w.params (Str.ofString "address"), Value.str (Str.ofString "address") k6, Value.int x1 t1⟩, ⟨PyData.keyHash w.params (Str.ofString "prefix"), Value.str (Str.ofString "prefix") k7, Value.int p1 t2⟩, ⟨PyData.keyHash w.params (Str.ofString "mtu"), Value.str (Str.ofString "mtu") k8, v8⟩] 3), (f2, instObj 274 d2), (d2, dictOf [⟨PyData.keyHash w.params (Str.ofString "address"), Value.str (Str.ofString "address") k9, Value.int x2 t3⟩, ⟨PyData.keyHash w.params (Str.ofString "prefix"), Value.str (Str.ofString "prefix") k10, Value.int p2 t4⟩, ⟨PyData.keyHash w.params (Str.ofString "mtu"), Value.str (Str.ofString "mtu") k11, v11⟩] 3)] : List (Addr × Obj)) news → 0 ≤ x1 → x1 < 4294967296 → 0 ≤ p1 → p1 ≤ 32 → 0 ≤ x2 → x2 < 4294967296 → 0 ≤ p2 → p2 ≤ 32 → 
    (∀ b h' tk', b = told x x1 p1 → Fr h₀ L h' m → News h₀ L h' (news) → Q (.bool b) { s with heap := h', toks := tk' }) →
    wpAny (model Challenge.rw_xw0340_02.row.prog w) (ktrTop dp un gd cn cs L a ccd cl outer) (call (.ref 314) [.ref lay, .int x tx, .int 0 tf]) Q E s
theorem U_told0_spec {KK : Params → Frag} (hh : D_told0_spec KK) {pp : Program} {w : World} {loose : List Str} {mean : ExcName → Option Value} {mg mb : Str → Option Value} {dp un : Nat} {gd : Option (List Code)} {cn : Str} {cs : Scope} {a : Addr} {ccd : Value} {cl : List (Str × Addr)} {outer : List Env} {A₀ : Around} {base h₀ : Heap} {L : Addr} {m : Str → Option Value} {news : List (Addr × Obj)} {s : Shared} {Q E : Value → Shared → Prop} {x : Int} {tx tf : Tok} {lay dl fl f1 d1 f2 d2 : Addr} {k1 k2 k3 k4 k5 k6 k7 k8 k9 k10 k11 t1 t2 t3 t4 : Tok} {v2 v3 v4 v5 v8 v11 : Value} {x1 p1 x2 p2 : Int} :
    Below A₀ base outer h₀ → Fr h₀ L s.heap m → (KK w.params).In h₀ → News h₀ L s.heap news → Top pp loose mean mg mb h₀ → cs.kind = .function → dp < 485 → 
    SubL ([(lay, instObj 400 dl), (dl, dictOf [⟨PyData.keyHash w.params (Str.ofString "faces"), Value.str (Str.ofString "faces") k1, Value.ref fl⟩, ⟨PyData.keyHash w.params (Str.ofString "routes"), Value.str (Str.ofString "routes") k2, v2⟩, ⟨PyData.keyHash w.params (Str.ofString "reassembly"), Value.str (Str.ofString "reassembly") k3, v3⟩, ⟨PyData.keyHash w.params (Str.ofString "forwards"), Value.str (Str.ofString "forwards") k4, v4⟩, ⟨PyData.keyHash w.params (Str.ofString "last_ident"), Value.str (Str.ofString "last_ident") k5, v5⟩] 5), (fl, listOf #[Value.ref f1, Value.ref f2] 0), (f1, instObj 274 d1), (d1, dictOf [⟨PyData.keyHash w.params (Str.ofString "address"), Value.str (Str.ofString "address") k6, Value.int x1 t1⟩, ⟨PyData.keyHash w.params (Str.ofString "prefix"), Value.str (Str.ofString "prefix") k7, Value.int p1 t2⟩, ⟨PyData.keyHash w.params (Str.ofString "mtu"), Value.str (Str.ofString "mtu") k8, v8⟩] 3), (f2, instObj 274 d2), (d2, dictOf [⟨PyData.keyHash w.params (Str.ofString "address"), Value.str (Str.ofString "address") k9, Value.int x2 t3⟩, ⟨PyData.keyHash w.params (Str.ofString "prefix"), Value.str (Str.ofString "prefix") k10, Value.int p2 t4⟩, ⟨PyData.keyHash w.params (Str.ofString "mtu"), Value.str (Str.ofString "mtu") k11, v11⟩] 3)] : List (Addr × Obj)) news → 0 ≤ x1 → x1 < 4294967296 → 0 ≤ p1 → p1 ≤ 32 → 0 ≤ x2 → x2 < 4294967296 → 0 ≤ p2 → p2 ≤ 32 → 
    (∀ b h' tk', b = told x x1 p1 → Fr h₀ L h' m → News h₀ L h' (news) → Q (.bool b) { s with heap := h', toks := tk' }) →
    wpAny (model Challenge.rw_xw0340_02.row.prog w) (ktrTop dp un gd cn cs L a ccd cl outer) (call (.ref 314) [.ref lay, .int x tx, .int 0 tf]) Q E s := hh
def D_told1_spec (KK : Params → Frag) : Prop := ∀ {pp : Program} {w : World} {loose : List Str} {mean : ExcName → Option Value} {mg mb : Str → Option Value} {dp un : Nat} {gd : Option (List Code)} {cn : Str} {cs : Scope} {a : Addr} {ccd : Value} {cl : List (Str × Addr)} {outer : List Env} {A₀ : Around} {base h₀ : Heap} {L : Addr} {m : Str → Option Value} {news : List (Addr × Obj)} {s : Shared} {Q E : Value → Shared → Prop} {x : Int} {tx tf : Tok} {lay dl fl f1 d1 f2 d2 : Addr} {k1 k2 k3 k4 k5 k6 k7 k8 k9 k10 k11 t1 t2 t3 t4 : Tok} {v2 v3 v4 v5 v8 v11 : Value} {x1 p1 x2 p2 : Int},
    Below A₀ base outer h₀ → Fr h₀ L s.heap m → (KK w.params).In h₀ → News h₀ L s.heap news → Top pp loose mean mg mb h₀ → cs.kind = .function → dp < 485 → 
    SubL ([(lay, instObj 400 dl), (dl, dictOf [⟨PyData.keyHash w.params (Str.ofString "faces"), Value.str (Str.ofString "faces") k1, Value.ref fl⟩, ⟨PyData.keyHash w.params (Str.ofString "routes"), Value.str (Str.ofString "routes") k2, v2⟩, ⟨PyData.keyHash w.params (Str.ofString "reassembly"), Value.str (Str.ofString "reassembly") k3, v3⟩, ⟨PyData.keyHash w.params (Str.ofString "forwards"), Value.str (Str.ofString "forwards") k4, v4⟩, ⟨PyData.keyHash w.params (Str.ofString "last_ident"), Value.str (Str.ofString "last_ident") k5, v5⟩] 5), (fl, listOf #[Value.ref f1, Value.ref f2] 0), (f1, instObj 274 d1), (d1, dictOf [⟨PyData.keyHash w.params (Str.ofString "address"), Value.str (Str.ofString "address") k6, Value.int x1 t1⟩, ⟨PyData.keyHash w.params (Str.ofString "prefix"), Value.str (Str.ofString "prefix") k7, Value.int p1 t2⟩, ⟨PyData.keyHash w.params (Str.ofString "mtu"), Value.str (Str.ofString "mtu") k8, v8⟩] 3), (f2, instObj 274 d2), (d2, dictOf [⟨PyData.keyHash w.params (Str.ofString "address"), Value.str (Str.ofString "address") k9, Value.int x2 t3⟩, ⟨PyData.keyHash w.params (Str.ofString "prefix"), Value.str (Str.ofString "prefix") k10, Value.int p2 t4⟩, ⟨PyData.keyHash w.params (Str.ofString "mtu"), Value.str (Str.ofString "mtu") k11, v11⟩] 3)] : List (Addr × Obj)) news → 0 ≤ x1 → x1 < 4294967296 → 0 ≤ p1 → p1 ≤ 32 → 0 ≤ x2 → x2 < 4294967296 → 0 ≤ p2 → p2 ≤ 32 → 
    (∀ b h' tk', b = told x x2 p2 → Fr h₀ L h' m → News h₀ L h' (news) → Q (.bool b) { s with heap := h', toks := tk' }) →
    wpAny (model Challenge.rw_xw0340_02.row.prog w) (ktrTop dp un gd cn cs L a ccd cl outer) (call (.ref 314) [.ref lay, .int x tx, .int 1 tf]) Q E s
theorem U_told1_spec {KK : Params → Frag} (hh : D_told1_spec KK) {pp : Program} {w : World} {loose : List Str} {mean : ExcName → Option Value} {mg mb : Str → Option Value} {dp un : Nat} {gd : Option (List Code)} {cn : Str} {cs : Scope} {a : Addr} {ccd : Value} {cl : List (Str × Addr)} {outer : List Env} {A₀ : Around} {base h₀ : Heap} {L : Addr} {m : Str → Option Value} {news : List (Addr × Obj)} {s : Shared} {Q E : Value → Shared → Prop} {x : Int} {tx tf : Tok} {lay dl fl f1 d1 f2 d2 : Addr} {k1 k2 k3 k4 k5 k6 k7 k8 k9 k10 k11 t1 t2 t3 t4 : Tok} {v2 v3 v4 v5 v8 v11 : Value} {x1 p1 x2 p2 : Int} :
    Below A₀ base outer h₀ → Fr h₀ L s.heap m → (KK w.params).In h₀ → News h₀ L s.heap news → Top pp loose mean mg mb h₀ → cs.kind = .function → dp < 485 → 
    SubL ([(lay, instObj 400 dl), (dl, dictOf [⟨PyData.keyHash w.params (Str.ofString "faces"), Value.str (Str.ofString "faces") k1, Value.ref fl⟩, ⟨PyData.keyHash w.params (Str.ofString "routes"), Value.str (Str.ofString "routes") k2, v2⟩, ⟨PyData.keyHash w.params (Str.ofString "reassembly"), Value.str (Str.ofString "reassembly") k3, v3⟩, ⟨PyData.keyHash w.params (Str.ofString "forwards"), Value.str (Str.ofString "forwards") k4, v4⟩, ⟨PyData.keyHash w.params (Str.ofString "last_ident"), Value.str (Str.ofString "last_ident") k5, v5⟩] 5), (fl, listOf #[Value.ref f1, Value.ref f2] 0), (f1, instObj 274 d1), (d1, dictOf [⟨PyData.keyHash w.params (Str.ofString "address"), Value.str (Str.ofString "address") k6, Value.int x1 t1⟩, ⟨PyData.keyHash w.params (Str.ofString "prefix"), Value.str (Str.ofString "prefix") k7, Value.int p1 t2⟩, ⟨PyData.keyHash w.params (Str.ofString "mtu"), Value.str (Str.ofString "mtu") k8, v8⟩] 3), (f2, instObj 274 d2), (d2, dictOf [⟨PyData.keyHash w.params (Str.ofString "address"), Value.str (Str.ofString "address") k9, Value.int x2 t3⟩, ⟨PyData.keyHash w.params (Str.ofString "prefix"), Value.str (Str.ofString "prefix") k10, Value.int p2 t4⟩, ⟨PyData.keyHash w.params (Str.ofString "mtu"), Value.str (Str.ofString "mtu") k11, v11⟩] 3)] : List (Addr × Obj)) news → 0 ≤ x1 → x1 < 4294967296 → 0 ≤ p1 → p1 ≤ 32 → 0 ≤ x2 → x2 < 4294967296 → 0 ≤ p2 → p2 ≤ 32 → 
    (∀ b h' tk', b = told x x2 p2 → Fr h₀ L h' m → News h₀ L h' (news) → Q (.bool b) { s with heap := h', toks := tk' }) →
    wpAny (model Challenge.rw_xw0340_02.row.prog w) (ktrTop dp un gd cn cs L a ccd cl outer) (call (.ref 314) [.ref lay, .int x tx, .int 1 tf]) Q E s := hh
def D_toldf_spec (KK : Params → Frag) : Prop := ∀ {pp : Program} {w : World} {loose : List Str} {mean : ExcName → Option Value} {mg mb : Str → Option Value} {dp un : Nat} {gd : Option (List Code)} {cn : Str} {cs : Scope} {a : Addr} {ccd : Value} {cl : List (Str × Addr)} {outer : List Env} {A₀ : Around} {base h₀ : Heap} {L : Addr} {m : Str → Option Value} {news : List (Addr × Obj)} {s : Shared} {Q E : Value → Shared → Prop} {x f : Int} {tx tf : Tok} {lay dl fl f1 d1 f2 d2 : Addr} {k1 k2 k3 k4 k5 k6 k7 k8 k9 k10 k11 t1 t2 t3 t4 : Tok} {v2 v3 v4 v5 v8 v11 : Value} {x1 p1 x2 p2 : Int},
    Below A₀ base outer h₀ → Fr h₀ L s.heap m → (KK w.params).In h₀ → News h₀ L s.heap news → Top pp loose mean mg mb h₀ → cs.kind = .function → dp < 485 →
    SubL ([(lay, instObj 400 dl), (dl, dictOf [⟨PyData.keyHash w.params (Str.ofString "faces"), Value.str (Str.ofString "faces") k1, Value.ref fl⟩, ⟨PyData.keyHash w.params (Str.ofString "routes"), Value.str (Str.ofString "routes") k2, v2⟩, ⟨PyData.keyHash w.params (Str.ofString "reassembly"), Value.str (Str.ofString "reassembly") k3, v3⟩, ⟨PyData.keyHash w.params (Str.ofString "forwards"), Value.str (Str.ofString "forwards") k4, v4⟩, ⟨PyData.keyHash w.params (Str.ofString "last_ident"), Value.str (Str.ofString "last_ident") k5, v5⟩] 5), (fl, listOf #[Value.ref f1, Value.ref f2] 0), (f1, instObj 274 d1), (d1, dictOf [⟨PyData.keyHash w.params (Str.ofString "address"), Value.str (Str.ofString "address") k6, Value.int x1 t1⟩, ⟨PyData.keyHash w.params (Str.ofString "prefix"), Value.str (Str.ofString "prefix") k7, Value.int p1 t2⟩, ⟨PyData.keyHash w.params (Str.ofString "mtu"), Value.str (Str.ofString "mtu") k8, v8⟩] 3), (f2, instObj 274 d2), (d2, dictOf [⟨PyData.keyHash w.params (Str.ofString "address"), Value.str (Str.ofString "address") k9, Value.int x2 t3⟩, ⟨PyData.keyHash w.params (Str.ofString "prefix"), Value.str (Str.ofString "prefix") k10, Value.int p2 t4⟩, ⟨PyData.keyHash w.params (Str.ofString "mtu"), Value.str (Str.ofString "mtu") k11, v11⟩] 3)] : List (Addr × Obj)) news → 0 ≤ x1 → x1 < 4294967296 → 0 ≤ p1 → p1 ≤ 32 → 0 ≤ x2 → x2 < 4294967296 → 0 ≤ p2 → p2 ≤ 32 → 0 ≤ f → f < 2 →
    (∀ h' tk', Fr h₀ L h' m → News h₀ L h' news → Q (.bool (told x (selI f x1 x2) (selI f p1 p2))) { s with heap := h', toks := tk' }) →
    wpAny (model Challenge.rw_xw0340_02.row.prog w) (ktrTop dp un gd cn cs L a ccd cl outer) (call (.ref 314) [.ref lay, .int x tx, .int f tf]) Q E s
theorem U_toldf_spec {KK : Params → Frag} (hh : D_toldf_spec KK) {pp : Program} {w : World} {loose : List Str} {mean : ExcName → Option Value} {mg mb : Str → Option Value} {dp un : Nat} {gd : Option (List Code)} {cn : Str} {cs : Scope} {a : Addr} {ccd : Value} {cl : List (Str × Addr)} {outer : List Env} {A₀ : Around} {base h₀ : Heap} {L : Addr} {m : Str → Option Value} {news : List (Addr × Obj)} {s : Shared} {Q E : Value → Shared → Prop} {x f : Int} {tx tf : Tok} {lay dl fl f1 d1 f2 d2 : Addr} {k1 k2 k3 k4 k5 k6 k7 k8 k9 k10 k11 t1 t2 t3 t4 : Tok} {v2 v3 v4 v5 v8 v11 : Value} {x1 p1 x2 p2 : Int} :
    Below A₀ base outer h₀ → Fr h₀ L s.heap m → (KK w.params).In h₀ → News h₀ L s.heap news → Top pp loose mean mg mb h₀ → cs.kind = .function → dp < 485 →
    SubL ([(lay, instObj 400 dl), (dl, dictOf [⟨PyData.keyHash w.params (Str.ofString "faces"), Value.str (Str.ofString "faces") k1, Value.ref fl⟩, ⟨PyData.keyHash w.params (Str.ofString "routes"), Value.str (Str.ofString "routes") k2, v2⟩, ⟨PyData.keyHash w.params (Str.ofString "reassembly"), Value.str (Str.ofString "reassembly") k3, v3⟩, ⟨PyData.keyHash w.params (Str.ofString "forwards"), Value.str (Str.ofString "forwards") k4, v4⟩, ⟨PyData.keyHash w.params (Str.ofString "last_ident"), Value.str (Str.ofString "last_ident") k5, v5⟩] 5), (fl, listOf #[Value.ref f1, Value.ref f2] 0), (f1, instObj 274 d1), (d1, dictOf [⟨PyData.keyHash w.params (Str.ofString "address"), Value.str (Str.ofString "address") k6, Value.int x1 t1⟩, ⟨PyData.keyHash w.params (Str.ofString "prefix"), Value.str (Str.ofString "prefix") k7, Value.int p1 t2⟩, ⟨PyData.keyHash w.params (Str.ofString "mtu"), Value.str (Str.ofString "mtu") k8, v8⟩] 3), (f2, instObj 274 d2), (d2, dictOf [⟨PyData.keyHash w.params (Str.ofString "address"), Value.str (Str.ofString "address") k9, Value.int x2 t3⟩, ⟨PyData.keyHash w.params (Str.ofString "prefix"), Value.str (Str.ofString "prefix") k10, Value.int p2 t4⟩, ⟨PyData.keyHash w.params (Str.ofString "mtu"), Value.str (Str.ofString "mtu") k11, v11⟩] 3)] : List (Addr × Obj)) news → 0 ≤ x1 → x1 < 4294967296 → 0 ≤ p1 → p1 ≤ 32 → 0 ≤ x2 → x2 < 4294967296 → 0 ≤ p2 → p2 ≤ 32 → 0 ≤ f → f < 2 →
    (∀ h' tk', Fr h₀ L h' m → News h₀ L h' news → Q (.bool (told x (selI f x1 x2) (selI f p1 p2))) { s with heap := h', toks := tk' }) →
    wpAny (model Challenge.rw_xw0340_02.row.prog w) (ktrTop dp un gd cn cs L a ccd cl outer) (call (.ref 314) [.ref lay, .int x tx, .int f tf]) Q E s := hh
def D_forall_spec (KK : Params → Frag) : Prop := ∀ {pp : Program} {w : World} {loose : List Str} {mean : ExcName → Option Value} {mg mb : Str → Option Value} {dp un : Nat} {gd : Option (List Code)} {cn : Str} {cs : Scope} {a : Addr} {ccd : Value} {cl : List (Str × Addr)} {outer : List Env} {A₀ : Around} {base h₀ : Heap} {L : Addr} {m : Str → Option Value} {news : List (Addr × Obj)} {s : Shared} {Q E : Value → Shared → Prop} {x : Int} {tx : Tok} {lay dl fl f1 d1 f2 d2 : Addr} {k1 k2 k3 k4 k5 k6 k7 k8 k9 k10 k11 t1 t2 t3 t4 : Tok} {v2 v3 v4 v5 v8 v11 : Value} {x1 p1 x2 p2 : Int},
    Below A₀ base outer h₀ → Fr h₀ L s.heap m → (KK w.params).In h₀ → News h₀ L s.heap news → Top pp loose mean mg mb h₀ → cs.kind = .function → dp < 480 → 
    SubL ([(lay, instObj 400 dl), (dl, dictOf [⟨PyData.keyHash w.params (Str.ofString "faces"), Value.str (Str.ofString "faces") k1, Value.ref fl⟩, ⟨PyData.keyHash w.params (Str.ofString "routes"), Value.str (Str.ofString "routes") k2, v2⟩, ⟨PyData.keyHash w.params (Str.ofString "reassembly"), Value.str (Str.ofString "reassembly") k3, v3⟩, ⟨PyData.keyHash w.params (Str.ofString "forwards"), Value.str (Str.ofString "forwards") k4, v4⟩, ⟨PyData.keyHash w.params (Str.ofString "last_ident"), Value.str (Str.ofString "last_ident") k5, v5⟩] 5), (fl, listOf #[Value.ref f1, Value.ref f2] 0), (f1, instObj 274 d1), (d1, dictOf [⟨PyData.keyHash w.params (Str.ofString "address"), Value.str (Str.ofString "address") k6, Value.int x1 t1⟩, ⟨PyData.keyHash w.params (Str.ofString "prefix"), Value.str (Str.ofString "prefix") k7, Value.int p1 t2⟩, ⟨PyData.keyHash w.params (Str.ofString "mtu"), Value.str (Str.ofString "mtu") k8, v8⟩] 3), (f2, instObj 274 d2), (d2, dictOf [⟨PyData.keyHash w.params (Str.ofString "address"), Value.str (Str.ofString "address") k9, Value.int x2 t3⟩, ⟨PyData.keyHash w.params (Str.ofString "prefix"), Value.str (Str.ofString "prefix") k10, Value.int p2 t4⟩, ⟨PyData.keyHash w.params (Str.ofString "mtu"), Value.str (Str.ofString "mtu") k11, v11⟩] 3)] : List (Addr × Obj)) news → 0 ≤ x1 → x1 < 4294967296 → 0 ≤ p1 → p1 ≤ 32 → 0 ≤ x2 → x2 < 4294967296 → 0 ≤ p2 → p2 ≤ 32 → 
    (∀ b h' tk', b = forAll x x1 p1 x2 p2 → Fr h₀ L h' m → News h₀ L h' (news) → Q (.bool b) { s with heap := h', toks := tk' }) →
    wpAny (model Challenge.rw_xw0340_02.row.prog w) (ktrTop dp un gd cn cs L a ccd cl outer) (call (.ref 319) [.ref lay, .int x tx]) Q E s
theorem U_forall_spec {KK : Params → Frag} (hh : D_forall_spec KK) {pp : Program} {w : World} {loose : List Str} {mean : ExcName → Option Value} {mg mb : Str → Option Value} {dp un : Nat} {gd : Option (List Code)} {cn : Str} {cs : Scope} {a : Addr} {ccd : Value} {cl : List (Str × Addr)} {outer : List Env} {A₀ : Around} {base h₀ : Heap} {L : Addr} {m : Str → Option Value} {news : List (Addr × Obj)} {s : Shared} {Q E : Value → Shared → Prop} {x : Int} {tx : Tok} {lay dl fl f1 d1 f2 d2 : Addr} {k1 k2 k3 k4 k5 k6 k7 k8 k9 k10 k11 t1 t2 t3 t4 : Tok} {v2 v3 v4 v5 v8 v11 : Value} {x1 p1 x2 p2 : Int} :
    Below A₀ base outer h₀ → Fr h₀ L s.heap m → (KK w.params).In h₀ → News h₀ L s.heap news → Top pp loose mean mg mb h₀ → cs.kind = .function → dp < 480 → 
    SubL ([(lay, instObj 400 dl), (dl, dictOf [⟨PyData.keyHash w.params (Str.ofString "faces"), Value.str (Str.ofString "faces") k1, Value.ref fl⟩, ⟨PyData.keyHash w.params (Str.ofString "routes"), Value.str (Str.ofString "routes") k2, v2⟩, ⟨PyData.keyHash w.params (Str.ofString "reassembly"), Value.str (Str.ofString "reassembly") k3, v3⟩, ⟨PyData.keyHash w.params (Str.ofString "forwards"), Value.str (Str.ofString "forwards") k4, v4⟩, ⟨PyData.keyHash w.params (Str.ofString "last_ident"), Value.str (Str.ofString "last_ident") k5, v5⟩] 5), (fl, listOf #[Value.ref f1, Value.ref f2] 0), (f1, instObj 274 d1), (d1, dictOf [⟨PyData.keyHash w.params (Str.ofString "address"), Value.str (Str.ofString "address") k6, Value.int x1 t1⟩, ⟨PyData.keyHash w.params (Str.ofString "prefix"), Value.str (Str.ofString "prefix") k7, Value.int p1 t2⟩, ⟨PyData.keyHash w.params (Str.ofString "mtu"), Value.str (Str.ofString "mtu") k8, v8⟩] 3), (f2, instObj 274 d2), (d2, dictOf [⟨PyData.keyHash w.params (Str.ofString "address"), Value.str (Str.ofString "address") k9, Value.int x2 t3⟩, ⟨PyData.keyHash w.params (Str.ofString "prefix"), Value.str (Str.ofString "prefix") k10, Value.int p2 t4⟩, ⟨PyData.keyHash w.params (Str.ofString "mtu"), Value.str (Str.ofString "mtu") k11, v11⟩] 3)] : List (Addr × Obj)) news → 0 ≤ x1 → x1 < 4294967296 → 0 ≤ p1 → p1 ≤ 32 → 0 ≤ x2 → x2 < 4294967296 → 0 ≤ p2 → p2 ≤ 32 → 
    (∀ b h' tk', b = forAll x x1 p1 x2 p2 → Fr h₀ L h' m → News h₀ L h' (news) → Q (.bool b) { s with heap := h', toks := tk' }) →
    wpAny (model Challenge.rw_xw0340_02.row.prog w) (ktrTop dp un gd cn cs L a ccd cl outer) (call (.ref 319) [.ref lay, .int x tx]) Q E s := hh
def D_forallv_spec (KK : Params → Frag) : Prop := ∀ {pp : Program} {w : World} {loose : List Str} {mean : ExcName → Option Value} {mg mb : Str → Option Value} {dp un : Nat} {gd : Option (List Code)} {cn : Str} {cs : Scope} {a : Addr} {ccd : Value} {cl : List (Str × Addr)} {outer : List Env} {A₀ : Around} {base h₀ : Heap} {L : Addr} {m : Str → Option Value} {news : List (Addr × Obj)} {s : Shared} {Q E : Value → Shared → Prop} {x : Int} {tx : Tok} {lay dl fl f1 d1 f2 d2 : Addr} {k1 k2 k3 k4 k5 k6 k7 k8 k9 k10 k11 t1 t2 t3 t4 : Tok} {v2 v3 v4 v5 v8 v11 : Value} {x1 p1 x2 p2 : Int},
    Below A₀ base outer h₀ → Fr h₀ L s.heap m → (KK w.params).In h₀ → News h₀ L s.heap news → Top pp loose mean mg mb h₀ → cs.kind = .function → dp < 480 →
    SubL ([(lay, instObj 400 dl), (dl, dictOf [⟨PyData.keyHash w.params (Str.ofString "faces"), Value.str (Str.ofString "faces") k1, Value.ref fl⟩, ⟨PyData.keyHash w.params (Str.ofString "routes"), Value.str (Str.ofString "routes") k2, v2⟩, ⟨PyData.keyHash w.params (Str.ofString "reassembly"), Value.str (Str.ofString "reassembly") k3, v3⟩, ⟨PyData.keyHash w.params (Str.ofString "forwards"), Value.str (Str.ofString "forwards") k4, v4⟩, ⟨PyData.keyHash w.params (Str.ofString "last_ident"), Value.str (Str.ofString "last_ident") k5, v5⟩] 5), (fl, listOf #[Value.ref f1, Value.ref f2] 0), (f1, instObj 274 d1), (d1, dictOf [⟨PyData.keyHash w.params (Str.ofString "address"), Value.str (Str.ofString "address") k6, Value.int x1 t1⟩, ⟨PyData.keyHash w.params (Str.ofString "prefix"), Value.str (Str.ofString "prefix") k7, Value.int p1 t2⟩, ⟨PyData.keyHash w.params (Str.ofString "mtu"), Value.str (Str.ofString "mtu") k8, v8⟩] 3), (f2, instObj 274 d2), (d2, dictOf [⟨PyData.keyHash w.params (Str.ofString "address"), Value.str (Str.ofString "address") k9, Value.int x2 t3⟩, ⟨PyData.keyHash w.params (Str.ofString "prefix"), Value.str (Str.ofString "prefix") k10, Value.int p2 t4⟩, ⟨PyData.keyHash w.params (Str.ofString "mtu"), Value.str (Str.ofString "mtu") k11, v11⟩] 3)] : List (Addr × Obj)) news → 0 ≤ x1 → x1 < 4294967296 → 0 ≤ p1 → p1 ≤ 32 → 0 ≤ x2 → x2 < 4294967296 → 0 ≤ p2 → p2 ≤ 32 →
    (∀ h' tk', Fr h₀ L h' m → News h₀ L h' news → Q (.bool (forAll x x1 p1 x2 p2)) { s with heap := h', toks := tk' }) →
    wpAny (model Challenge.rw_xw0340_02.row.prog w) (ktrTop dp un gd cn cs L a ccd cl outer) (call (.ref 319) [.ref lay, .int x tx]) Q E s
theorem U_forallv_spec {KK : Params → Frag} (hh : D_forallv_spec KK) {pp : Program} {w : World} {loose : List Str} {mean : ExcName → Option Value} {mg mb : Str → Option Value} {dp un : Nat} {gd : Option (List Code)} {cn : Str} {cs : Scope} {a : Addr} {ccd : Value} {cl : List (Str × Addr)} {outer : List Env} {A₀ : Around} {base h₀ : Heap} {L : Addr} {m : Str → Option Value} {news : List (Addr × Obj)} {s : Shared} {Q E : Value → Shared → Prop} {x : Int} {tx : Tok} {lay dl fl f1 d1 f2 d2 : Addr} {k1 k2 k3 k4 k5 k6 k7 k8 k9 k10 k11 t1 t2 t3 t4 : Tok} {v2 v3 v4 v5 v8 v11 : Value} {x1 p1 x2 p2 : Int} :
    Below A₀ base outer h₀ → Fr h₀ L s.heap m → (KK w.params).In h₀ → News h₀ L s.heap news → Top pp loose mean mg mb h₀ → cs.kind = .function → dp < 480 →
    SubL ([(lay, instObj 400 dl), (dl, dictOf [⟨PyData.keyHash w.params (Str.ofString "faces"), Value.str (Str.ofString "faces") k1, Value.ref fl⟩, ⟨PyData.keyHash w.params (Str.ofString "routes"), Value.str (Str.ofString "routes") k2, v2⟩, ⟨PyData.keyHash w.params (Str.ofString "reassembly"), Value.str (Str.ofString "reassembly") k3, v3⟩, ⟨PyData.keyHash w.params (Str.ofString "forwards"), Value.str (Str.ofString "forwards") k4, v4⟩, ⟨PyData.keyHash w.params (Str.ofString "last_ident"), Value.str (Str.ofString "last_ident") k5, v5⟩] 5), (fl, listOf #[Value.ref f1, Value.ref f2] 0), (f1, instObj 274 d1), (d1, dictOf [⟨PyData.keyHash w.params (Str.ofString "address"), Value.str (Str.ofString "address") k6, Value.int x1 t1⟩, ⟨PyData.keyHash w.params (Str.ofString "prefix"), Value.str (Str.ofString "prefix") k7, Value.int p1 t2⟩, ⟨PyData.keyHash w.params (Str.ofString "mtu"), Value.str (Str.ofString "mtu") k8, v8⟩] 3), (f2, instObj 274 d2), (d2, dictOf [⟨PyData.keyHash w.params (Str.ofString "address"), Value.str (Str.ofString "address") k9, Value.int x2 t3⟩, ⟨PyData.keyHash w.params (Str.ofString "prefix"), Value.str (Str.ofString "prefix") k10, Value.int p2 t4⟩, ⟨PyData.keyHash w.params (Str.ofString "mtu"), Value.str (Str.ofString "mtu") k11, v11⟩] 3)] : List (Addr × Obj)) news → 0 ≤ x1 → x1 < 4294967296 → 0 ≤ p1 → p1 ≤ 32 → 0 ≤ x2 → x2 < 4294967296 → 0 ≤ p2 → p2 ≤ 32 →
    (∀ h' tk', Fr h₀ L h' m → News h₀ L h' news → Q (.bool (forAll x x1 p1 x2 p2)) { s with heap := h', toks := tk' }) →
    wpAny (model Challenge.rw_xw0340_02.row.prog w) (ktrTop dp un gd cn cs L a ccd cl outer) (call (.ref 319) [.ref lay, .int x tx]) Q E s := hh
def D_ends_spec (KK : Params → Frag) : Prop := ∀ {pp : Program} {w : World} {loose : List Str} {mean : ExcName → Option Value} {mg mb : Str → Option Value} {dp un : Nat} {gd : Option (List Code)} {cn : Str} {cs : Scope} {a : Addr} {ccd : Value} {cl : List (Str × Addr)} {outer : List Env} {A₀ : Around} {base h₀ : Heap} {L : Addr} {m : Str → Option Value} {news : List (Addr × Obj)} {s : Shared} {Q E : Value → Shared → Prop} {ft : Addr} {y p : Int} {ty tp : Tok},
    Below A₀ base outer h₀ → Fr h₀ L s.heap m → (KK w.params).In h₀ → News h₀ L s.heap news → Top pp loose mean mg mb h₀ → cs.kind = .function → dp < 480 → 
    SubL ([(ft, ({ cls := .type "tuple", data := .seq #[Value.int y ty, Value.int p tp] } : Obj))] : List (Addr × Obj)) news → 0 ≤ p → p ≤ 32 → 
    (∀ r tb te h' tk',  Fr h₀ L h' m → News h₀ L h' ((r, ({ cls := .type "tuple", data := .seq #[Value.int (y - y.fmod (2 ^ (32 - p).toNat)) tb, Value.int (y - y.fmod (2 ^ (32 - p).toNat) + 2 ^ (32 - p).toNat - 1) te] } : Obj)) :: news) → Q (.ref r) { s with heap := h', toks := tk' }) →
    wpAny (model Challenge.rw_xw0340_02.row.prog w) (ktrTop dp un gd cn cs L a ccd cl outer) (call (.ref 618) [.ref ft]) Q E s
theorem U_ends_spec {KK : Params → Frag} (hh : D_ends_spec KK) {pp : Program} {w : World} {loose : List Str} {mean : ExcName → Option Value} {mg mb : Str → Option Value} {dp un : Nat} {gd : Option (List Code)} {cn : Str} {cs : Scope} {a : Addr} {ccd : Value} {cl : List (Str × Addr)} {outer : List Env} {A₀ : Around} {base h₀ : Heap} {L : Addr} {m : Str → Option Value} {news : List (Addr × Obj)} {s : Shared} {Q E : Value → Shared → Prop} {ft : Addr} {y p : Int} {ty tp : Tok} :
    Below A₀ base outer h₀ → Fr h₀ L s.heap m → (KK w.params).In h₀ → News h₀ L s.heap news → Top pp loose mean mg mb h₀ → cs.kind = .function → dp < 480 → 
    SubL ([(ft, ({ cls := .type "tuple", data := .seq #[Value.int y ty, Value.int p tp] } : Obj))] : List (Addr × Obj)) news → 0 ≤ p → p ≤ 32 → 
    (∀ r tb te h' tk',  Fr h₀ L h' m → News h₀ L h' ((r, ({ cls := .type "tuple", data := .seq #[Value.int (y - y.fmod (2 ^ (32 - p).toNat)) tb, Value.int (y - y.fmod (2 ^ (32 - p).toNat) + 2 ^ (32 - p).toNat - 1) te] } : Obj)) :: news) → Q (.ref r) { s with heap := h', toks := tk' }) →
    wpAny (model Challenge.rw_xw0340_02.row.prog w) (ktrTop dp un gd cn cs L a ccd cl outer) (call (.ref 618) [.ref ft]) Q E s := hh
def D_due_spec (KK : Params → Frag) : Prop := ∀ {pp : Program} {w : World} {loose : List Str} {mean : ExcName → Option Value} {mg mb : Str → Option Value} {dp un : Nat} {gd : Option (List Code)} {cn : Str} {cs : Scope} {a : Addr} {ccd : Value} {cl : List (Str × Addr)} {outer : List Env} {A₀ : Around} {base h₀ : Heap} {L : Addr} {m : Str → Option Value} {news : List (Addr × Obj)} {s : Shared} {Q E : Value → Shared → Prop} {x x1 p1 x2 p2 : Int} {tx t1 t2 t3 t4 : Tok} {na fa : Addr},
    Below A₀ base outer h₀ → Fr h₀ L s.heap m → (KK w.params).In h₀ → News h₀ L s.heap news → Top pp loose mean mg mb h₀ → cs.kind = .function → dp < 475 → 
    SubL ([(na, ({ cls := .type "tuple", data := .seq #[Value.int x1 t1, Value.int p1 t2] } : Obj)), (fa, ({ cls := .type "tuple", data := .seq #[Value.int x2 t3, Value.int p2 t4] } : Obj))] : List (Addr × Obj)) news → 0 ≤ x1 → x1 < 4294967296 → 0 ≤ p1 → p1 ≤ 32 → 0 ≤ x2 → x2 < 4294967296 → 0 ≤ p2 → p2 ≤ 32 → 
    (∀ b h' tk', b = forAll x x1 p1 x2 p2 → Fr h₀ L h' m → News h₀ L h' (news) → Q (.bool b) { s with heap := h', toks := tk' }) →
    wpAny (model Challenge.rw_xw0340_02.row.prog w) (ktrTop dp un gd cn cs L a ccd cl outer) (call (.ref 623) [.int x tx, .ref na, .ref fa]) Q E s
theorem U_due_spec {KK : Params → Frag} (hh : D_due_spec KK) {pp : Program} {w : World} {loose : List Str} {mean : ExcName → Option Value} {mg mb : Str → Option Value} {dp un : Nat} {gd : Option (List Code)} {cn : Str} {cs : Scope} {a : Addr} {ccd : Value} {cl : List (Str × Addr)} {outer : List Env} {A₀ : Around} {base h₀ : Heap} {L : Addr} {m : Str → Option Value} {news : List (Addr × Obj)} {s : Shared} {Q E : Value → Shared → Prop} {x x1 p1 x2 p2 : Int} {tx t1 t2 t3 t4 : Tok} {na fa : Addr} :
    Below A₀ base outer h₀ → Fr h₀ L s.heap m → (KK w.params).In h₀ → News h₀ L s.heap news → Top pp loose mean mg mb h₀ → cs.kind = .function → dp < 475 → 
    SubL ([(na, ({ cls := .type "tuple", data := .seq #[Value.int x1 t1, Value.int p1 t2] } : Obj)), (fa, ({ cls := .type "tuple", data := .seq #[Value.int x2 t3, Value.int p2 t4] } : Obj))] : List (Addr × Obj)) news → 0 ≤ x1 → x1 < 4294967296 → 0 ≤ p1 → p1 ≤ 32 → 0 ≤ x2 → x2 < 4294967296 → 0 ≤ p2 → p2 ≤ 32 → 
    (∀ b h' tk', b = forAll x x1 p1 x2 p2 → Fr h₀ L h' m → News h₀ L h' (news) → Q (.bool b) { s with heap := h', toks := tk' }) →
    wpAny (model Challenge.rw_xw0340_02.row.prog w) (ktrTop dp un gd cn cs L a ccd cl outer) (call (.ref 623) [.int x tx, .ref na, .ref fa]) Q E s := hh
def D_duev_spec (KK : Params → Frag) : Prop := ∀ {pp : Program} {w : World} {loose : List Str} {mean : ExcName → Option Value} {mg mb : Str → Option Value} {dp un : Nat} {gd : Option (List Code)} {cn : Str} {cs : Scope} {a : Addr} {ccd : Value} {cl : List (Str × Addr)} {outer : List Env} {A₀ : Around} {base h₀ : Heap} {L : Addr} {m : Str → Option Value} {news : List (Addr × Obj)} {s : Shared} {Q E : Value → Shared → Prop} {x x1 p1 x2 p2 : Int} {tx t1 t2 t3 t4 : Tok} {na fa : Addr},
    Below A₀ base outer h₀ → Fr h₀ L s.heap m → (KK w.params).In h₀ → News h₀ L s.heap news → Top pp loose mean mg mb h₀ → cs.kind = .function → dp < 475 →
    SubL ([(na, ({ cls := .type "tuple", data := .seq #[Value.int x1 t1, Value.int p1 t2] } : Obj)), (fa, ({ cls := .type "tuple", data := .seq #[Value.int x2 t3, Value.int p2 t4] } : Obj))] : List (Addr × Obj)) news → 0 ≤ x1 → x1 < 4294967296 → 0 ≤ p1 → p1 ≤ 32 → 0 ≤ x2 → x2 < 4294967296 → 0 ≤ p2 → p2 ≤ 32 →
    (∀ h' tk', Fr h₀ L h' m → News h₀ L h' news → Q (.bool (forAll x x1 p1 x2 p2)) { s with heap := h', toks := tk' }) →
    wpAny (model Challenge.rw_xw0340_02.row.prog w) (ktrTop dp un gd cn cs L a ccd cl outer) (call (.ref 623) [.int x tx, .ref na, .ref fa]) Q E s
theorem U_duev_spec {KK : Params → Frag} (hh : D_duev_spec KK) {pp : Program} {w : World} {loose : List Str} {mean : ExcName → Option Value} {mg mb : Str → Option Value} {dp un : Nat} {gd : Option (List Code)} {cn : Str} {cs : Scope} {a : Addr} {ccd : Value} {cl : List (Str × Addr)} {outer : List Env} {A₀ : Around} {base h₀ : Heap} {L : Addr} {m : Str → Option Value} {news : List (Addr × Obj)} {s : Shared} {Q E : Value → Shared → Prop} {x x1 p1 x2 p2 : Int} {tx t1 t2 t3 t4 : Tok} {na fa : Addr} :
    Below A₀ base outer h₀ → Fr h₀ L s.heap m → (KK w.params).In h₀ → News h₀ L s.heap news → Top pp loose mean mg mb h₀ → cs.kind = .function → dp < 475 →
    SubL ([(na, ({ cls := .type "tuple", data := .seq #[Value.int x1 t1, Value.int p1 t2] } : Obj)), (fa, ({ cls := .type "tuple", data := .seq #[Value.int x2 t3, Value.int p2 t4] } : Obj))] : List (Addr × Obj)) news → 0 ≤ x1 → x1 < 4294967296 → 0 ≤ p1 → p1 ≤ 32 → 0 ≤ x2 → x2 < 4294967296 → 0 ≤ p2 → p2 ≤ 32 →
    (∀ h' tk', Fr h₀ L h' m → News h₀ L h' news → Q (.bool (forAll x x1 p1 x2 p2)) { s with heap := h', toks := tk' }) →
    wpAny (model Challenge.rw_xw0340_02.row.prog w) (ktrTop dp un gd cn cs L a ccd cl outer) (call (.ref 623) [.int x tx, .ref na, .ref fa]) Q E s := hh
def D_layer_spec (KK : Params → Frag) : Prop := ∀ {pp : Program} {w : World} {loose : List Str} {mean : ExcName → Option Value} {mg mb : Str → Option Value} {dp un : Nat} {gd : Option (List Code)} {cn : Str} {cs : Scope} {a : Addr} {ccd : Value} {cl : List (Str × Addr)} {outer : List Env} {A₀ : Around} {base h₀ : Heap} {L : Addr} {m : Str → Option Value} {news : List (Addr × Obj)} {s : Shared} {Q E : Value → Shared → Prop} {x1 p1 x2 p2 : Int} {t1 t2 t3 t4 : Tok} {na fa : Addr},
    Below A₀ base outer h₀ → Fr h₀ L s.heap m → (KK w.params).In h₀ → News h₀ L s.heap news → Top pp loose mean mg mb h₀ → cs.kind = .function → dp < 475 → 
    SubL ([(na, ({ cls := .type "tuple", data := .seq #[Value.int x1 t1, Value.int p1 t2] } : Obj)), (fa, ({ cls := .type "tuple", data := .seq #[Value.int x2 t3, Value.int p2 t4] } : Obj))] : List (Addr × Obj)) news → 
    (∀ lay dl fl f1 d1 f2 d2 k1 k2 k3 k4 k5 k6 k7 k8 k9 k10 k11 t1 t2 t3 t4 v2 v3 v4 v5 v8 v11 h' tk',  Fr h₀ L h' m → News h₀ L h' ((lay, instObj 400 dl) :: (dl, dictOf [⟨PyData.keyHash w.params (Str.ofString "faces"), Value.str (Str.ofString "faces") k1, Value.ref fl⟩, ⟨PyData.keyHash w.params (Str.ofString "routes"), Value.str (Str.ofString "routes") k2, v2⟩, ⟨PyData.keyHash w.params (Str.ofString "reassembly"), Value.str (Str.ofString "reassembly") k3, v3⟩, ⟨PyData.keyHash w.params (Str.ofString "forwards"), Value.str (Str.ofString "forwards") k4, v4⟩, ⟨PyData.keyHash w.params (Str.ofString "last_ident"), Value.str (Str.ofString "last_ident") k5, v5⟩] 5) :: (fl, listOf #[Value.ref f1, Value.ref f2] 0) :: (f1, instObj 274 d1) :: (d1, dictOf [⟨PyData.keyHash w.params (Str.ofString "address"), Value.str (Str.ofString "address") k6, Value.int x1 t1⟩, ⟨PyData.keyHash w.params (Str.ofString "prefix"), Value.str (Str.ofString "prefix") k7, Value.int p1 t2⟩, ⟨PyData.keyHash w.params (Str.ofString "mtu"), Value.str (Str.ofString "mtu") k8, v8⟩] 3) :: (f2, instObj 274 d2) :: (d2, dictOf [⟨PyData.keyHash w.params (Str.ofString "address"), Value.str (Str.ofString "address") k9, Value.int x2 t3⟩, ⟨PyData.keyHash w.params (Str.ofString "prefix"), Value.str (Str.ofString "prefix") k10, Value.int p2 t4⟩, ⟨PyData.keyHash w.params (Str.ofString "mtu"), Value.str (Str.ofString "mtu") k11, v11⟩] 3) :: news) → Q (.ref lay) { s with heap := h', toks := tk' }) →
    wpAny (model Challenge.rw_xw0340_02.row.prog w) (ktrTop dp un gd cn cs L a ccd cl outer) (call (.ref 611) [.ref na, .ref fa]) Q E s
theorem U_layer_spec {KK : Params → Frag} (hh : D_layer_spec KK) {pp : Program} {w : World} {loose : List Str} {mean : ExcName → Option Value} {mg mb : Str → Option Value} {dp un : Nat} {gd : Option (List Code)} {cn : Str} {cs : Scope} {a : Addr} {ccd : Value} {cl : List (Str × Addr)} {outer : List Env} {A₀ : Around} {base h₀ : Heap} {L : Addr} {m : Str → Option Value} {news : List (Addr × Obj)} {s : Shared} {Q E : Value → Shared → Prop} {x1 p1 x2 p2 : Int} {t1 t2 t3 t4 : Tok} {na fa : Addr} :
    Below A₀ base outer h₀ → Fr h₀ L s.heap m → (KK w.params).In h₀ → News h₀ L s.heap news → Top pp loose mean mg mb h₀ → cs.kind = .function → dp < 475 → 
    SubL ([(na, ({ cls := .type "tuple", data := .seq #[Value.int x1 t1, Value.int p1 t2] } : Obj)), (fa, ({ cls := .type "tuple", data := .seq #[Value.int x2 t3, Value.int p2 t4] } : Obj))] : List (Addr × Obj)) news → 
    (∀ lay dl fl f1 d1 f2 d2 k1 k2 k3 k4 k5 k6 k7 k8 k9 k10 k11 t1 t2 t3 t4 v2 v3 v4 v5 v8 v11 h' tk',  Fr h₀ L h' m → News h₀ L h' ((lay, instObj 400 dl) :: (dl, dictOf [⟨PyData.keyHash w.params (Str.ofString "faces"), Value.str (Str.ofString "faces") k1, Value.ref fl⟩, ⟨PyData.keyHash w.params (Str.ofString "routes"), Value.str (Str.ofString "routes") k2, v2⟩, ⟨PyData.keyHash w.params (Str.ofString "reassembly"), Value.str (Str.ofString "reassembly") k3, v3⟩, ⟨PyData.keyHash w.params (Str.ofString "forwards"), Value.str (Str.ofString "forwards") k4, v4⟩, ⟨PyData.keyHash w.params (Str.ofString "last_ident"), Value.str (Str.ofString "last_ident") k5, v5⟩] 5) :: (fl, listOf #[Value.ref f1, Value.ref f2] 0) :: (f1, instObj 274 d1) :: (d1, dictOf [⟨PyData.keyHash w.params (Str.ofString "address"), Value.str (Str.ofString "address") k6, Value.int x1 t1⟩, ⟨PyData.keyHash w.params (Str.ofString "prefix"), Value.str (Str.ofString "prefix") k7, Value.int p1 t2⟩, ⟨PyData.keyHash w.params (Str.ofString "mtu"), Value.str (Str.ofString "mtu") k8, v8⟩] 3) :: (f2, instObj 274 d2) :: (d2, dictOf [⟨PyData.keyHash w.params (Str.ofString "address"), Value.str (Str.ofString "address") k9, Value.int x2 t3⟩, ⟨PyData.keyHash w.params (Str.ofString "prefix"), Value.str (Str.ofString "prefix") k10, Value.int p2 t4⟩, ⟨PyData.keyHash w.params (Str.ofString "mtu"), Value.str (Str.ofString "mtu") k11, v11⟩] 3) :: news) → Q (.ref lay) { s with heap := h', toks := tk' }) →
    wpAny (model Challenge.rw_xw0340_02.row.prog w) (ktrTop dp un gd cn cs L a ccd cl outer) (call (.ref 611) [.ref na, .ref fa]) Q E s := hh
def D_pool_spec (KK : Params → Frag) : Prop := ∀ {pp : Program} {w : World} {loose : List Str} {mean : ExcName → Option Value} {mg mb : Str → Option Value} {dp un : Nat} {gd : Option (List Code)} {cn : Str} {cs : Scope} {a : Addr} {ccd : Value} {cl : List (Str × Addr)} {outer : List Env} {A₀ : Around} {base h₀ : Heap} {L : Addr} {m : Str → Option Value} {news : List (Addr × Obj)} {s : Shared} {Q E : Value → Shared → Prop} {sl : Addr} {tz : Tok} {vs : List Value} {ns : List Int},
    Below A₀ base outer h₀ → Fr h₀ L s.heap m → (KK w.params).In h₀ → News h₀ L s.heap news → Top pp loose mean mg mb h₀ → cs.kind = .function → dp < 475 → 
    h₀.IsList sl vs.toArray → IntsAre vs ns → ns.length ≤ 63 → 
    (∀ r x tx y ty n h' tk', 0 ≤ x → 0 ≤ y → y < 2147483647 → (∀ p ∈ news, p.1 ≠ r) → Fr h₀ L h' m → News h₀ L h' ((r, listOf #[Value.int x tx, Value.int y ty] n) :: news) → Q (.ref r) { s with heap := h', toks := tk' }) →
    wpAny (model Challenge.rw_xw0340_02.row.prog w) (ktrTop dp un gd cn cs L a ccd cl outer) (call (.ref 597) [.ref sl, .int 0 tz]) Q E s
theorem U_pool_spec {KK : Params → Frag} (hh : D_pool_spec KK) {pp : Program} {w : World} {loose : List Str} {mean : ExcName → Option Value} {mg mb : Str → Option Value} {dp un : Nat} {gd : Option (List Code)} {cn : Str} {cs : Scope} {a : Addr} {ccd : Value} {cl : List (Str × Addr)} {outer : List Env} {A₀ : Around} {base h₀ : Heap} {L : Addr} {m : Str → Option Value} {news : List (Addr × Obj)} {s : Shared} {Q E : Value → Shared → Prop} {sl : Addr} {tz : Tok} {vs : List Value} {ns : List Int} :
    Below A₀ base outer h₀ → Fr h₀ L s.heap m → (KK w.params).In h₀ → News h₀ L s.heap news → Top pp loose mean mg mb h₀ → cs.kind = .function → dp < 475 → 
    h₀.IsList sl vs.toArray → IntsAre vs ns → ns.length ≤ 63 → 
    (∀ r x tx y ty n h' tk', 0 ≤ x → 0 ≤ y → y < 2147483647 → (∀ p ∈ news, p.1 ≠ r) → Fr h₀ L h' m → News h₀ L h' ((r, listOf #[Value.int x tx, Value.int y ty] n) :: news) → Q (.ref r) { s with heap := h', toks := tk' }) →
    wpAny (model Challenge.rw_xw0340_02.row.prog w) (ktrTop dp un gd cn cs L a ccd cl outer) (call (.ref 597) [.ref sl, .int 0 tz]) Q E s := hh
local macro_rules | `(tactic| walk_at "subscriptTail Name Constant ref int") => `(tactic| (k_here; (with_reducible show wpAny _ _ (subscriptTail _ _ (Value.ref _) (Value.int _ _)) _ _ _); k_dflt (refine' Mine.item_L ?k1 ?k2 ?k3 ?k4 ?k5 ?_ ?k6; (case k1 => k_asm); (case k2 => k_mem); (case k3 => decide); (case k4 => decide); (case k5 => exact rfl); (case k6 => with_unfolding_all rfl); k_whole)))
local macro_rules | `(tactic| walk_at "binaryOp FloorDiv int int") => `(tactic| ((with_reducible refine floordiv_int ?kb ?_ (Or.inl (Mine.np ?kc ?kd))); (case kb => omega); (case kc => omega); (case kd => omega)))
local macro_rules | `(tactic| k_room) => `(tactic| ((try simp only [depth_under_make, depth_under_kw, depth_in1, depth_deeper, depth_caller]); (try dsimp only [ktrTop]); (try unfold recursionLimit); omega))
local macro_rules | `(tactic| walk_at "eval Call Name") => `(tactic| ((with_reducible show wpAny _ _ (eval (Expr.Call (Expr.Name "mask_of" _) _ _ _) _) _ _ _); refine Call_ ?_))
local macro_rules | `(tactic| walk_at "eval Call Name") => `(tactic| ((with_reducible show wpAny _ _ (eval (Expr.Call (Expr.Name "net_of" _) _ _ _) _) _ _ _); refine Call_ ?_))
local macro_rules | `(tactic| walk_at "eval Call Name") => `(tactic| ((with_reducible show wpAny _ _ (eval (Expr.Call (Expr.Name "is_broadcast" _) _ _ _) _) _ _ _); refine Call_ ?_))
local macro_rules | `(tactic| walk_at "eval Call Name") => `(tactic| ((with_reducible show wpAny _ _ (eval (Expr.Call (Expr.Name "_law_take" _) _ _ _) _) _ _ _); refine Call_ ?_))
local macro_rules | `(tactic| walk_at "eval Call Name") => `(tactic| ((with_reducible show wpAny _ _ (eval (Expr.Call (Expr.Name "_law_layer" _) _ _ _) _) _ _ _); refine Call_ ?_))
local macro_rules | `(tactic| walk_at "eval Call Name") => `(tactic| ((with_reducible show wpAny _ _ (eval (Expr.Call (Expr.Name "_law_ends" _) _ _ _) _) _ _ _); refine Call_ ?_))
local macro_rules | `(tactic| walk_at "eval Call Name") => `(tactic| ((with_reducible show wpAny _ _ (eval (Expr.Call (Expr.Name "_law_due" _) _ _ _) _) _ _ _); refine Call_ ?_))
local macro_rules | `(tactic| walk_at "eval Call Name") => `(tactic| ((with_reducible show wpAny _ _ (eval (Expr.Call (Expr.Name "_law_pool" _) _ _ _) _) _ _ _); refine Call_ ?_))
local macro_rules | `(tactic| walk_at "eval Call Attribute") => `(tactic| ((with_reducible show wpAny _ _ (eval (Expr.Call (Expr.Attribute _ "is_told_to_all" _) _ _ _) _) _ _ _); refine MethodCall_ ?_))
local macro_rules | `(tactic| walk_at "eval Call Attribute") => `(tactic| ((with_reducible show wpAny _ _ (eval (Expr.Call (Expr.Attribute _ "is_for_all" _) _ _ _) _) _ _ _); refine MethodCall_ ?_))
local macro_rules | `(tactic| walk_at "call ref cons nil") => `(tactic| (k_here; (with_reducible show wpAny _ _ (call (Value.ref 604) _) _ _ _); k_dflt (refine' Mine.U_take_spec (by assumption) ?k1 ?k2 ?k3 ?k4 ?k5 ?kK ?kd ?e0 ?e1 ?e2 ?e3 ?e4 ?e5 ?e6 ?_; (case k1 => k_asm); (case k2 => k_asm); (case k3 => k_asm); (case k4 => k_asm); (case k5 => k_asm); (case kK => first | exact rfl | assumption); (case e0 => repeat (first | exact Sel.head | apply Sel.tail)); (case e1 => first | assumption | (refine List.forall_mem_cons.mpr ⟨?aa, ?bb⟩; (case aa => k_ne); (case bb => assumption)) | k_all); (case e2 => first | assumption | omega); (case e3 => first | assumption | omega); (case e4 => first | assumption | omega); (case e5 => first | decide | omega); (case e6 => first | decide | omega); (case kd => (first | decide | ((try simp only [depth_under_make, depth_under_kw, depth_in1, depth_deeper, depth_caller]); (try dsimp only [ktrTop]); omega))); k_whole); intro r' tr' x' tx' y' ty' h' tk' hr1' hr2' hx' hy1' hy2' F' N'; (try simp only [Int.reduceToNat, Int.reducePow] at hr2'); (try k_sweep)))
local macro_rules | `(tactic| walk_at "call ref cons nil") => `(tactic| (k_here; (with_reducible show wpAny _ _ (call (Value.ref 117) _) _ _ _); k_dflt (refine' Mine.U_mask_spec (by assumption) ?k1 ?k2 ?k3 ?k4 ?k5 ?kK ?kd ?e0 ?e1 ?_; (case k1 => k_asm); (case k2 => k_asm); (case k3 => k_asm); (case k4 => k_asm); (case k5 => k_asm); (case kK => first | exact rfl | assumption); (case e0 => omega); (case e1 => omega); (case kd => (first | decide | ((try simp only [depth_under_make, depth_under_kw, depth_in1, depth_deeper, depth_caller]); (try dsimp only [ktrTop]); omega))); k_whole); intro r' tr' h' tk' hr' F' N'; (try k_sweep)))
local macro_rules | `(tactic| walk_at "call ref cons nil") => `(tactic| (k_here; (with_reducible show wpAny _ _ (call (Value.ref 131) _) _ _ _); k_dflt (refine' Mine.U_bcast_spec (by assumption) ?k1 ?k2 ?k3 ?k4 ?k5 ?kK ?kd ?e0 ?e1 ?e2 ?e3 ?_; (case k1 => k_asm); (case k2 => k_asm); (case k3 => k_asm); (case k4 => k_asm); (case k5 => k_asm); (case kK => first | exact rfl | assumption); (case e0 => assumption); (case e1 => assumption); (case e2 => assumption); (case e3 => assumption); (case kd => (first | decide | ((try simp only [depth_under_make, depth_under_kw, depth_in1, depth_deeper, depth_caller]); (try dsimp only [ktrTop]); omega))); k_whole); intro r' h' tk' hr' F' N'; (try k_sweep)))
local macro_rules | `(tactic| walk_at "call ref cons nil") => `(tactic| (k_here; (with_reducible show wpAny _ _ (call (Value.ref 314) _) _ _ _); k_dflt (refine' Mine.U_toldf_spec (by assumption) ?k1 ?k2 ?k3 ?k4 ?k5 ?kK ?kd ?e0 ?e1 ?e2 ?e3 ?e4 ?e5 ?e6 ?e7 ?e8 ?e9 ?e10 ?_; (case k1 => k_asm); (case k2 => k_asm); (case k3 => k_asm); (case k4 => k_asm); (case k5 => k_asm); (case kK => first | exact rfl | assumption); (case e0 => k_subL); (case e1 => assumption); (case e2 => assumption); (case e3 => assumption); (case e4 => assumption); (case e5 => assumption); (case e6 => assumption); (case e7 => assumption); (case e8 => assumption); (case e9 => first | decide | assumption | omega); (case e10 => first | decide | assumption | exact Int.lt_of_lt_of_le (by assumption) (by decide) | omega); (case kd => (first | decide | ((try simp only [depth_under_make, depth_under_kw, depth_in1, depth_deeper, depth_caller]); (try dsimp only [ktrTop]); omega))); k_whole); intro h' tk' F' N'; (try k_sweep)))
local macro_rules | `(tactic| walk_at "CompSrc") => `(tactic| (k_here; k_dflt (first
  | (refine LCg.CompSrc.ledger (by rfl) (by k_asm) (by k_asm) (by k_mem) (by first | size_fits | exact Nat.le_of_ble_eq_true rfl) ?_; intro g'; lcg_lit)
  | (refine LCg.CompSrc.range (by rfl) (by k_asm) (by k_asm) (by assumption) (by first | decide | rfl) (by first | rfl | decide) (by first | size_fits | exact Nat.le_of_ble_eq_true rfl) ?_; intro g'; lcg_lit))))
local macro_rules | `(tactic| walk_at "CompRest") => `(tactic| (with_unfolding_all first
  | (refine LCg.CompRest.succ ?_; intro v' I' oI' C' oC' D' m' h' tk' E' hv' hC' hx' F' N' off' ne'; (first | lcg_open hv' | (obtain ⟨t9', hv9'⟩ := hv'; subst hv9')))
  | refine LCg.CompRest.zero ?_))
local macro_rules | `(tactic| walk_at "CompEnd") => `(tactic| (refine' LCg.CompEnd.intro ?F ?N _ ?sub ?off ?src ?_; (case off => assumption); (case F => k_asm); (case N => k_asm); (case sub => lcg_sub); (case src => lcg_src)))
local macro_rules | `(tactic| walk_at "call ref cons nil") => `(tactic| (k_here; (with_reducible show wpAny _ _ (call (Value.ref 319) _) _ _ _); k_dflt (refine' Mine.U_forallv_spec (by assumption) ?k1 ?k2 ?k3 ?k4 ?k5 ?kK ?kd ?e0 ?e1 ?e2 ?e3 ?e4 ?e5 ?e6 ?e7 ?e8 ?_; (case k1 => k_asm); (case k2 => k_asm); (case k3 => k_asm); (case k4 => k_asm); (case k5 => k_asm); (case kK => first | exact rfl | assumption); (case e0 => k_subL); (case e1 => first | assumption | decide | omega); (case e2 => first | assumption | decide | omega); (case e3 => first | assumption | decide | omega); (case e4 => first | assumption | decide | omega); (case e5 => first | assumption | decide | omega); (case e6 => first | assumption | decide | omega); (case e7 => first | assumption | decide | omega); (case e8 => first | assumption | decide | omega); (case kd => (first | decide | ((try simp only [depth_under_make, depth_under_kw, depth_in1, depth_deeper, depth_caller]); (try dsimp only [ktrTop]); omega))); k_whole); intro h' tk' F' N'; (try k_sweep)))
local macro_rules | `(tactic| walk_at "call ref cons nil") => `(tactic| (k_here; (with_reducible show wpAny _ _ (call (Value.ref 618) _) _ _ _); k_dflt (refine' Mine.U_ends_spec (by assumption) ?k1 ?k2 ?k3 ?k4 ?k5 ?kK ?kd ?e0 ?e1 ?e2 ?_; (case k1 => k_asm); (case k2 => k_asm); (case k3 => k_asm); (case k4 => k_asm); (case k5 => k_asm); (case kK => first | exact rfl | assumption); (case e0 => k_subL); (case e1 => first | assumption | omega); (case e2 => first | assumption | omega); (case kd => (first | decide | ((try simp only [depth_under_make, depth_under_kw, depth_in1, depth_deeper, depth_caller]); (try dsimp only [ktrTop]); omega))); k_whole); intro r' tb' te' h' tk' F' N'; (try k_sweep)))
local macro_rules | `(tactic| walk_at "call ref cons nil") => `(tactic| (k_here; (with_reducible show wpAny _ _ (call (Value.ref 623) _) _ _ _); k_dflt (refine' Mine.U_duev_spec (by assumption) ?k1 ?k2 ?k3 ?k4 ?k5 ?kK ?kd ?e0 ?e1 ?e2 ?e3 ?e4 ?e5 ?e6 ?e7 ?e8 ?_; (case k1 => k_asm); (case k2 => k_asm); (case k3 => k_asm); (case k4 => k_asm); (case k5 => k_asm); (case kK => first | exact rfl | assumption); (case e0 => k_subL); (case e1 => first | assumption | decide | omega); (case e2 => first | assumption | decide | omega); (case e3 => first | assumption | decide | omega); (case e4 => first | assumption | decide | omega); (case e5 => first | assumption | decide | omega); (case e6 => first | assumption | decide | omega); (case e7 => first | assumption | decide | omega); (case e8 => first | assumption | decide | omega); (case kd => (first | decide | ((try simp only [depth_under_make, depth_under_kw, depth_in1, depth_deeper, depth_caller]); (try dsimp only [ktrTop]); omega))); k_whole); intro h' tk' F' N'; (try k_sweep)))
local macro_rules | `(tactic| walk_at "call ref cons nil") => `(tactic| (k_here; (with_reducible show wpAny _ _ (call (Value.ref 611) _) _ _ _); k_dflt (refine' Mine.U_layer_spec (by assumption) ?k1 ?k2 ?k3 ?k4 ?k5 ?kK ?kd ?e0 ?_; (case k1 => k_asm); (case k2 => k_asm); (case k3 => k_asm); (case k4 => k_asm); (case k5 => k_asm); (case kK => first | exact rfl | assumption); (case e0 => k_subL); (case kd => (first | decide | ((try simp only [depth_under_make, depth_under_kw, depth_in1, depth_deeper, depth_caller]); (try dsimp only [ktrTop]); omega))); k_whole); intro lay' dl' fl' f1' d1' f2' d2' k1' k2' k3' k4' k5' k6' k7' k8' k9' k10' k11' t1' t2' t3' t4' v2' v3' v4' v5' v8' v11' h' tk' F' N'; (try k_sweep)))
local macro_rules | `(tactic| walk_at "call ref cons nil") => `(tactic| (k_here; (with_reducible show wpAny _ _ (call (Value.ref 597) _) _ _ _); k_dflt (refine' Mine.U_pool_spec (by assumption) ?k1 ?k2 ?k3 ?k4 ?k5 ?kK ?kd ?e0 ?e1 ?e2 ?_; (case k1 => k_asm); (case k2 => k_asm); (case k3 => k_asm); (case k4 => k_asm); (case k5 => k_asm); (case kK => first | exact rfl | assumption); (case e0 => assumption); (case e1 => assumption); (case e2 => omega); (case kd => (first | decide | ((try simp only [depth_under_make, depth_under_kw, depth_in1, depth_deeper, depth_caller]); (try dsimp only [ktrTop]); omega))); k_whole); intro r' x' tx' y' ty' n' h' tk' hx' hy1' hy2' hfr' F' N'; (try k_sweep)))
local macro_rules | `(tactic| walk_at "compareOp NotEq bool bool") => `(tactic| (refine Mine.ne_same ?_))
local macro_rules | `(tactic| walk_at "exec For Name List cons nil") => `(tactic| (k_here; (rename Fr _ _ _ _ => lF'); (with_unfolding_all refine' For_invVF lF' ?k1 ?k2 ?_; (case k1 => exact rfl); (case k2 => exact rfl); k_whole)))
local macro_rules | `(tactic| walk_at "pyIter ref") => `(tactic| ((with_reducible show wpAny _ _ (pyIter (Value.ref _)) (fun it s₂ => LoopAtV _ _ _ _ _ (Str.ofString "prefix") _ _ _ it s₂) _ _); (rename Fr _ _ _ _ => lF'); (rename News _ _ _ _ => lN'); k_dflt (refine' Mine.iter_keep [Str.ofString "near", Str.ofString "layer", Str.ofString "begin", Str.ofString "end", Str.ofString "other"] (Mine.IntV 0 32) rfl lF' lN' ?hl ?hP ?_ ?_; (case hl => k_mem); (case hP => (repeat (refine List.forall_mem_cons.mpr ⟨⟨_, _, rfl, by decide, by decide⟩, ?_⟩)); exact List.forall_mem_nil _)); clear lF' lN'; (all_goals first | (intro v' u' h' tk' own' hv' F' N'; (obtain ⟨p', t', e', hp0', hp1'⟩ := hv'); (subst e'); (try simp only [List.cons_append, List.nil_append] at N')) | intro u' h' tk' F' N')))
local macro_rules | `(tactic| walk_at "pyIter ref") => `(tactic| ((with_reducible show wpAny _ _ (pyIter (Value.ref _)) (fun it s₂ => LoopAtV _ _ _ _ _ (Str.ofString "other") _ _ _ it s₂) _ _); (rename Fr _ _ _ _ => lF'); (rename News _ _ _ _ => lN'); k_dflt (refine' Mine.iter_keep [] Mine.AnyInt rfl lF' lN' ?hl ?hP ?_ ?_; (case hl => k_mem); (case hP => (repeat (refine List.forall_mem_cons.mpr ⟨⟨_, _, rfl⟩, ?_⟩)); exact List.forall_mem_nil _)); clear lF' lN'; (all_goals first | (intro v' u' h' tk' own' hv' F' N'; (obtain ⟨p', t', e'⟩ := hv'); (subst e'); (try simp only [List.cons_append, List.nil_append] at N')) | intro u' h' tk' F' N')))
local macro_rules | `(tactic| walk_at "IterPost") => `(tactic| (dsimp only [Mine.IterPost]))
local macro_rules | `(tactic| walk_at "IterEnd") => `(tactic| (refine' Mine.IterEnd.intro ?F ?N ?a ?m; (case F => k_asm); (case N => k_asm); (case a => kcf_all); (case m => (intro z hz hz2; (try simp only [List.contains_cons, List.contains_nil, Bool.or_eq_false_iff, Bool.or_false, beq_eq_false_iff_ne, ne_eq] at hz2); first | (simp [hz, hz2]; done) | (simp [Mine.stoM, hz, hz2]; done)))))
local macro_rules | `(tactic| walk_at "call ref cons nil") => `(tactic| (k_here; (with_reducible show wpAny _ _ (call (Value.ref 319) [_, Value.int 184549631 _]) _ _ _); k_dflt (refine' Mine.U_forallv_spec (by assumption) ?k1 ?k2 ?k3 ?k4 ?k5 ?kK ?kd ?e0 ?e1 ?e2 ?e3 ?e4 ?e5 ?e6 ?e7 ?e8 ?_; (case k1 => k_asm); (case k2 => k_asm); (case k3 => k_asm); (case k4 => k_asm); (case k5 => k_asm); (case kK => first | exact rfl | assumption); (case e0 => k_subL); (case e1 => decide); (case e2 => decide); (case e3 => decide); (case e4 => decide); (case e5 => decide); (case e6 => decide); (case e7 => decide); (case e8 => decide); (case kd => (first | decide | ((try simp only [depth_under_make, depth_under_kw, depth_in1, depth_deeper, depth_caller]); (try dsimp only [ktrTop]); omega))); k_whole); intro h' tk' F' N'; (try k_sweep); (rw [Mine.lit_a])))
local macro_rules | `(tactic| walk_at "call ref cons nil") => `(tactic| (k_here; (with_reducible show wpAny _ _ (call (Value.ref 319) [_, Value.int 184549630 _]) _ _ _); k_dflt (refine' Mine.U_forallv_spec (by assumption) ?k1 ?k2 ?k3 ?k4 ?k5 ?kK ?kd ?e0 ?e1 ?e2 ?e3 ?e4 ?e5 ?e6 ?e7 ?e8 ?_; (case k1 => k_asm); (case k2 => k_asm); (case k3 => k_asm); (case k4 => k_asm); (case k5 => k_asm); (case kK => first | exact rfl | assumption); (case e0 => k_subL); (case e1 => decide); (case e2 => decide); (case e3 => decide); (case e4 => decide); (case e5 => decide); (case e6 => decide); (case e7 => decide); (case e8 => decide); (case kd => (first | decide | ((try simp only [depth_under_make, depth_under_kw, depth_in1, depth_deeper, depth_caller]); (try dsimp only [ktrTop]); omega))); k_whole); intro h' tk' F' N'; (try k_sweep); (rw [Mine.lit_b])))
def main.tw7439787175107056256 : Unit := ()
def main.tw12608185968620612914 : Unit := ()
def main.tw5921134243170700561 : Unit := ()
def main.tw11092141859048813250 : Unit := ()
def main.tw17146568849442343683 : Unit := ()
def main.tw13593225768355653860 : Unit := ()
def main.tw6907636171062424033 : Unit := ()
def main.tw9406782406253462049 : Unit := ()
def main.tw10450603732522932521 : Unit := ()
def main.tw6511744376749373798 : Unit := ()
def main.tw2406621943657119228 : Unit := ()
def main.tw13972245371655741198 : Unit := ()
def main.tw5372645768047454471 : Unit := ()
def main.tw5378808338967829844 : Unit := ()
def main.tw9268297945177815525 : Unit := ()
def main.tw14027531716089632829 : Unit := ()
def main.tw12748397558918655664 : Unit := ()
def main.tw10896356407431480244 : Unit := ()
def main.tw11785714552879321826 : Unit := ()
def main.tw15387884906608193903 : Unit := ()
def main.tw223528310411579522 : Unit := ()
def main.tw5781596087445459943 : Unit := ()
def main.tw5585478044538960755 : Unit := ()
def main.tw15955573374722617477 : Unit := ()
def main.tw13184314607181485883 : Unit := ()
def main.tw10334261112615635914 : Unit := ()
def main.tw7332552209862256014 : Unit := ()
def main.tw5518243967957118194 : Unit := ()
def main.tw2402762420636078793 : Unit := ()
def main.tw15806524323241146399 : Unit := ()
def main.tw11156056980113079860 : Unit := ()
def main.tw2821470743931037460 : Unit := ()
def main.tw16778611742570070204 : Unit := ()
def main.tw11101190512080308003 : Unit := ()
def main.tw4637267157515435788 : Unit := ()
def main.tw11273777480241942364 : Unit := ()
def main.tw6788530277367551627 : Unit := ()
def main.tw1142173933681417890 : Unit := ()
def main.tw16022572192331126682 : Unit := ()
def main.tw11218778669853930896 : Unit := ()
def main.tw6855474311058116810 : Unit := ()
def main.tw13219505800766818778 : Unit := ()
def main.tw9265829497004654079 : Unit := ()
def main.tw10092017014551392330 : Unit := ()
def main.tw6801380410627298636 : Unit := ()
def main.tw451873465583785326 : Unit := ()
def main.tw14539993770535171780 : Unit := ()
def main.tw13110970153573199417 : Unit := ()
def main.tw15485851114877660061 : Unit := ()
def main.tw12450111651097656602 : Unit := ()
def main.tw17297283025540448806 : Unit := ()
def main.tw5084117380071580128 : Unit := ()
def main.tw7093617532817203218 : Unit := ()
def main.tw2019394398466159022 : Unit := ()
def main.tw17644181745481072423 : Unit := ()
def main.tw3394367416137920725 : Unit := ()
def main.tw6655696309031964122 : Unit := ()
def main.tw1150287232629052791 : Unit := ()
def main.tw1504049600530537962 : Unit := ()
def main.tw5571399437266216444 : Unit := ()
def main.tw4330594992337426955 : Unit := ()
def main.tw8046773169563483271 : Unit := ()
def main.tw3164071578474256198 : Unit := ()
def main.tw4261964983698606537 : Unit := ()
def main.tw14457758005677747962 : Unit := ()
def main.tw13777938177461255882 : Unit := ()
def main.tw17561526911342447988 : Unit := ()
def main.tw16452447596832230105 : Unit := ()
def main.tw13989496423458381343 : Unit := ()
def main.tw2852251193174398662 : Unit := ()
def main.tw6361450105264607166 : Unit := ()
def main.tw15510692781650021527 : Unit := ()
def main.tw12653679108036650311 : Unit := ()
def main.tw9512817274939609580 : Unit := ()
def main.tw11239335112260394413 : Unit := ()
def main.tw4766233809647381661 : Unit := ()
def main.tw10924716458440934090 : Unit := ()
def main.tw14218914174604095658 : Unit := ()
def main.tw11129264269027447598 : Unit := ()
def main.tw17403364634526059139 : Unit := ()
def main.tw4139100593308808776 : Unit := ()
def main.tw2287757881348798766 : Unit := ()
def main.tw9302470337196694018 : Unit := ()
def main.tw14562738103837258888 : Unit := ()
def main.tw14864641218109852296 : Unit := ()
def main.tw7698036289167662538 : Unit := ()
def main.tw7237411587787531456 : Unit := ()
def main.tw17128291446047057950 : Unit := ()
def main.tw4452170602077327944 : Unit := ()
def main.tw5240779543111244032 : Unit := ()
def main.tw12885385263037960081 : Unit := ()
def main.tw11712081513822626495 : Unit := ()
def main.tw6663778134991626487 : Unit := ()
def main.tw1678875084529416142 : Unit := ()
def main.tw11221353774195762014 : Unit := ()
def main.tw9376575566392132001 : Unit := ()
def main.tw8627561154394265716 : Unit := ()
def main.tw18238007617527299592 : Unit := ()
def main.tw13876859957761632879 : Unit := ()
def main.tw2714283472998740243 : Unit := ()
def main.tw15109750227778091905 : Unit := ()
def main.tw9925469786538053656 : Unit := ()
def main.tw18332899500509843999 : Unit := ()
def main.tw10825838108423173272 : Unit := ()
def main.tw16008252555379753968 : Unit := ()
def main.tw5363903885879670357 : Unit := ()
def main.tw2341703837736514645 : Unit := ()
def main.tw10149618387772673413 : Unit := ()
def main.tw4900431672193113347 : Unit := ()
def main.tw9994787619460420439 : Unit := ()
def main.tw9121559901702372667 : Unit := ()
def main.tw10821422270917381399 : Unit := ()
def main.tw12431561837914552411 : Unit := ()
def main.tw6161133996638707016 : Unit := ()
def main.tw10707853282979444102 : Unit := ()
def main.tw15136431859952498927 : Unit := ()
def main.tw16218864148678617972 : Unit := ()
def main.tw1429040668314091153 : Unit := ()
def main.tw1714950047550659301 : Unit := ()
def main.tw5638201095994319732 : Unit := ()
def main.tw16826212616301561204 : Unit := ()
def main.tw15843245209704562525 : Unit := ()
def main.tw13980345723018547825 : Unit := ()
def main.tw13348322127785295214 : Unit := ()
def main.tw4038153913678941442 : Unit := ()
def main.tw9111253501102450974 : Unit := ()
def main.tw17118054049896295152 : Unit := ()
def main.tw17336282652733537790 : Unit := ()
def main.tw12747388180105724736 : Unit := ()
def main.tw14907226015203709474 : Unit := ()
def main.tw16629339528299215175 : Unit := ()
def main.tw3027586509356016917 : Unit := ()
def main.tw8546124895413445307 : Unit := ()
def main.tw14064073609400967072 : Unit := ()
def main.tw17737603089517620647 : Unit := ()
def main.tw17147588175821073265 : Unit := ()
def main.tw15062679425460387418 : Unit := ()
def main.tw10204856939554784155 : Unit := ()
def main.tw7514964652732493775 : Unit := ()
def main.tw14364048958407549093 : Unit := ()
def main.tw8809968196449919288 : Unit := ()
def main.tw6886502059237256666 : Unit := ()
def main.tw11857135199678951331 : Unit := ()
def main.tw6785657489111691699 : Unit := ()
def main.tw979501456738626862 : Unit := ()
def main.tw9417822746687237092 : Unit := ()
def main.tw18302796317244248524 : Unit := ()
def main.tw15467891735981029475 : Unit := ()
def main.tw10455743928339290457 : Unit := ()
def main.tw2496676261509829067 : Unit := ()
def main.tw6519269512792494810 : Unit := ()
def main.tw5396188567872606041 : Unit := ()
def main.tw4324958949535026087 : Unit := ()
def main.tw5613160597433933154 : Unit := ()
def main.tw8440099810896429113 : Unit := ()
def main.tw10123989817122485451 : Unit := ()
def main.tw14771111431291430275 : Unit := ()
def main.tw16641786646906312760 : Unit := ()
def main.tw3583811862363856187 : Unit := ()
def main.tw4749052000479324790 : Unit := ()
def main.tw9369988214560726041 : Unit := ()
def main.tw1454224541498743561 : Unit := ()
def main.tw12922898485456448571 : Unit := ()
def main.tw104360540948158410 : Unit := ()
def main.tw7884331609784382070 : Unit := ()
def main.tw6237627108579964202 : Unit := ()
def main.tw2900998541784483753 : Unit := ()
def main.tw6162249291895867263 : Unit := ()
def main.tw1677766988990989824 : Unit := ()
def main.tw7904437144335635152 : Unit := ()
def main.tw8079908401900000222 : Unit := ()
def main.tw12800608258095302798 : Unit := ()
def main.tw9897820754763898449 : Unit := ()
def main.tw15350898050860989542 : Unit := ()
def main.tw17958375852430007124 : Unit := ()
def main.tw4310270188432123100 : Unit := ()
def main.tw8663697691656813868 : Unit := ()
def main.tw15554039934745177238 : Unit := ()
def main.tw11735423636902730196 : Unit := ()
def main.tw10864377008497418100 : Unit := ()
def main.tw7298748307773712898 : Unit := ()
def main.tw12455012482086183272 : Unit := ()
def main.tw11403851563620829512 : Unit := ()
def main.tw12361340156312767134 : Unit := ()
def main.tw10234815189450012239 : Unit := ()
def main.tw18134284020713443437 : Unit := ()
def main.tw2906824675625879941 : Unit := ()
def main.tw4605139254293405059 : Unit := ()
def main.tw13724616953566380437 : Unit := ()
def main.tw17091655785135471103 : Unit := ()
def main.tw8478376212529829071 : Unit := ()
def main.tw11086099901593105684 : Unit := ()
def main.tw11476092923266045095 : Unit := ()
def main.tw17353955331779342651 : Unit := ()
def main.tw6541472054586571296 : Unit := ()
def main.tw5102693214775723256 : Unit := ()
def main.tw16451033083921036709 : Unit := ()
def main.tw9508770018378322450 : Unit := ()
def main.tw16572128252103988241 : Unit := ()
def main.tw5797031442667253490 : Unit := ()
def main.tw16135426469972691074 : Unit := ()
def main.tw3829396358689915599 : Unit := ()
def main.tw18190005008629794160 : Unit := ()
def main.tw3314904115985164895 : Unit := ()
def main.tw9155575984036265788 : Unit := ()
def main.tw14859100970857779836 : Unit := ()
def main.tw7590696779544312186 : Unit := ()
def main.tw5396361742852586263 : Unit := ()
def main.tw15270170921892066516 : Unit := ()
def main.tw17057053908230417247 : Unit := ()
def main.tw15595112118272840620 : Unit := ()
def main.tw5995161000843957690 : Unit := ()
def main.tw15513328568306737418 : Unit := ()
def main.tw10642606787283503386 : Unit := ()
def main.tw4126091431370883743 : Unit := ()
def main.tw10652863235454686790 : Unit := ()
def main.tw6690441779611380620 : Unit := ()
def main.tw9498315638749924794 : Unit := ()
def main.tw17268439761433841065 : Unit := ()
def main.tw7974275031393228247 : Unit := ()
def main.tw9903775340124721222 : Unit := ()
def main.tw12646911602827044314 : Unit := ()
def main.tw18063282731904131703 : Unit := ()
def main.tw16320729459185622934 : Unit := ()
def main.tw15225127925928830808 : Unit := ()
def main.tw7308723440029596264 : Unit := ()
def main.tw13224007501803129859 : Unit := ()
def main.tw16932026243761503260 : Unit := ()
def main.tw14759895335926876869 : Unit := ()
def main.tw3706830351922483016 : Unit := ()
def main.tw14080665800827857628 : Unit := ()
def main.tw17871620999419790863 : Unit := ()
def main.tw6696893160125735727 : Unit := ()
def main.tw11544348965984651327 : Unit := ()
def main.tw4026956272090484662 : Unit := ()
def main.tw17695171507069755227 : Unit := ()
def main.tw365850788961202214 : Unit := ()
def main.tw16136984950599521427 : Unit := ()
def main.tw1587290215689348708 : Unit := ()
def main.tw3748114642381145586 : Unit := ()
def main.tw11020365191643786025 : Unit := ()
def main.tw8228058824784995430 : Unit := ()
def main.tw5790326737455844299 : Unit := ()
def main.tw1439166485080882 : Unit := ()
def main.tw1469836325065767749 : Unit := ()
def main.tw14504180641510445567 : Unit := ()
def main.tw1319676515408343850 : Unit := ()
def main.tw14798791472264738832 : Unit := ()
def main.tw10663580350406149668 : Unit := ()
def main.tw6214117541549086881 : Unit := ()
def main.tw12222963475772708484 : Unit := ()
def main.tw5418533224930618480 : Unit := ()
def main.tw16008457594558532635 : Unit := ()
def main.tw15737690656516749961 : Unit := ()
def main.tw15017983477296125989 : Unit := ()
def main.tw1409966394225722968 : Unit := ()
def main.tw6183352029847204284 : Unit := ()
def main.tw9964214247947446159 : Unit := ()
def main.tw7186131708394509389 : Unit := ()
def main.tw13465503431842376007 : Unit := ()
def main.tw7235775444256392728 : Unit := ()
def main.tw13693970394777133609 : Unit := ()
def main.tw341453280667917650 : Unit := ()
def main.tw7268301785047649679 : Unit := ()
def main.tw10813080517026676716 : Unit := ()
def main.tw31828345220925962 : Unit := ()
def main.tw6674386428176565332 : Unit := ()
def main.tw13077236301305049449 : Unit := ()
def main.tw33456957511925785 : Unit := ()
def main.tw17292155258170135553 : Unit := ()
def main.tw5623159541915647742 : Unit := ()
def main.tw18344032359734412310 : Unit := ()
def main.tw3627144658338631552 : Unit := ()
def main.tw15803610866087392283 : Unit := ()
def main.tw1156462466702112376 : Unit := ()
def main.tw18120430973489738927 : Unit := ()
def main.tw6075091234017535682 : Unit := ()
def main.tw961187720498965250 : Unit := ()
def main.tw11135027115929721415 : Unit := ()
def main.tw15608450976537380609 : Unit := ()
def main.tw4544244032028310869 : Unit := ()
def main.tw18218335207050127959 : Unit := ()
def main.tw13355152605343272895 : Unit := ()
def main.tw4297412468100583042 : Unit := ()
def main.tw6981815665589151136 : Unit := ()
def main.tw12702744160499308131 : Unit := ()
def main.tw8557395850702784662 : Unit := ()
def main.tw1306636233014830658 : Unit := ()
def main.tw5287059835090251167 : Unit := ()
def main.tw4946776927847147119 : Unit := ()
def main.tw6334894449686545209 : Unit := ()
def main.tw9573086628692744296 : Unit := ()
def main.tw5203219222101121401 : Unit := ()
def main.tw2195194259037543316 : Unit := ()
def main.tw358491910552652209 : Unit := ()
def main.tw7699798408344515789 : Unit := ()
def main.tw3045742163950154196 : Unit := ()
def main.tw5677329702179833609 : Unit := ()
def main.tw12909650291622432550 : Unit := ()
def main.tw10652611922669240339 : Unit := ()
def main.tw13447220332142360421 : Unit := ()
def main.tw11554813239044494598 : Unit := ()
def main.tw10231336680788121439 : Unit := ()
def main.tw221909299271738847 : Unit := ()
def main.tw2279707942289718827 : Unit := ()
def main.tw15624239662980076321 : Unit := ()
def main.tw453184122279072053 : Unit := ()
def main.tw11987853993630220354 : Unit := ()
def main.tw2583023086579268501 : Unit := ()
def main.tw5450094653865882931 : Unit := ()
def main.tw9563168847844234846 : Unit := ()
def main.tw10877679251791092727 : Unit := ()
def main.tw10114013102757674387 : Unit := ()
def main.tw962032349192862916 : Unit := ()
def main.tw12992176717851604617 : Unit := ()
def main.tw16305672181175384284 : Unit := ()
def main.tw8260724100714396741 : Unit := ()
def main.tw12885673836220544336 : Unit := ()
def main.tw917386388269078853 : Unit := ()
def main.tw3370190323706015969 : Unit := ()
def main.tw17453503289922162039 : Unit := ()
def main.tw17708487481403421675 : Unit := ()
def main.tw12872379398031375081 : Unit := ()
def main.tw5243159528196176124 : Unit := ()
def main.tw12839114828313443825 : Unit := ()
def main.tw3613476055612923068 : Unit := ()
def main.tw9976160756891316704 : Unit := ()
def main.tw1826329307503635854 : Unit := ()
def main.tw12518504611687188807 : Unit := ()
def main.tw18315214858253571532 : Unit := ()
def main.tw8127475511531132179 : Unit := ()
def main.tw13227692790652741651 : Unit := ()
def main.tw7751025194823839400 : Unit := ()
def main.tw6044114016751833949 : Unit := ()
def main.tw17705503467451336006 : Unit := ()
def main.tw8466321980469482115 : Unit := ()
def main.tw2759098988195820126 : Unit := ()
def main.tw2225956059507018244 : Unit := ()
def main.tw8436210846270712021 : Unit := ()
def main.tw9483120023164983764 : Unit := ()
def main.tw10665469846841522134 : Unit := ()
def main.tw10140136200207757160 : Unit := ()
def main.tw18385570937342765463 : Unit := ()
def main.tw11501822485730972192 : Unit := ()
def main.tw14666387041718499266 : Unit := ()
def main.tw13503263706703578961 : Unit := ()
def main.tw12431731261707249289 : Unit := ()
def main.tw16965079339398995527 : Unit := ()
def main.tw6545385358150927430 : Unit := ()
def main.tw4990475226369331113 : Unit := ()
def main.tw4650958065196391918 : Unit := ()
def main.tw10750994468655217958 : Unit := ()
def main.tw16411370214107742406 : Unit := ()
def main.tw13838900630717943254 : Unit := ()
def main.tw4651154628705390771 : Unit := ()
def main.tw14635473669698735251 : Unit := ()
def main.tw10363585996791799541 : Unit := ()
def main.tw7411558596216406370 : Unit := ()
def main.tw7846812961960373227 : Unit := ()
def main.tw7293298908176781663 : Unit := ()
def main.tw9682133043923132273 : Unit := ()
def main.tw11646826074482590764 : Unit := ()
def main.tw11181722664286889309 : Unit := ()
def main.tw12343854547171428336 : Unit := ()
def main.tw1289389943133740499 : Unit := ()
def main.tw3298483428156984901 : Unit := ()
def main.tw8707812797481193996 : Unit := ()
def main.tw6389877041954997217 : Unit := ()
def main.tw17510229520200029679 : Unit := ()
def main.tw11912365163219861050 : Unit := ()
def main.tw11752208632293872130 : Unit := ()
def main.tw14060465935940456498 : Unit := ()
def main.tw17679725944135375923 : Unit := ()
def main.tw6596593509180878263 : Unit := ()
def main.tw10717781254789130011 : Unit := ()
def main.tw18284262389922463811 : Unit := ()
def main.tw3532412968194664532 : Unit := ()
def main.tw2238316416991798583 : Unit := ()
def main.tw4812270449578504274 : Unit := ()
def main.tw11962923498438245051 : Unit := ()
def main.tw8467378866343419333 : Unit := ()
def main.tw10928175160051115300 : Unit := ()
def main.tw8265370782698574782 : Unit := ()
def main.tw11399646045708457374 : Unit := ()
def main.tw17402982504261768225 : Unit := ()
def main.tw2629084897520917108 : Unit := ()
def main.tw2544328076492683441 : Unit := ()
def main.tw4413345314126155841 : Unit := ()
def main.tw7153082081811710619 : Unit := ()
def main.tw6053611964639427726 : Unit := ()
def main.tw8729708805864041840 : Unit := ()
def main.tw4592260682591058475 : Unit := ()
def main.tw12273490649430754879 : Unit := ()
def main.tw1092785777240315536 : Unit := ()
def main.tw452746233719593009 : Unit := ()
def main.tw5473700226181020891 : Unit := ()
def main.tw3535554277328711279 : Unit := ()
def main.tw8484041278411425421 : Unit := ()
def main.tw12077450504624328385 : Unit := ()
def main.tw6508729118710982530 : Unit := ()
def main.tw3779293765908593550 : Unit := ()
def main.tw8844999433837080629 : Unit := ()
def main.tw716429049611869786 : Unit := ()
def main.tw3628702603083378023 : Unit := ()
def main.tw6542085627976250192 : Unit := ()
def main.tw14492832472218066102 : Unit := ()
def main.tw4039676971129161736 : Unit := ()
def main.tw8118072479153026202 : Unit := ()
def main.tw13626721169425172152 : Unit := ()
def main.tw9957550378297406723 : Unit := ()
def main.tw3491332818749588091 : Unit := ()
def main.tw16026485685270457870 : Unit := ()
def main.tw16689149305811164139 : Unit := ()
def main.tw302440914744352476 : Unit := ()
def main.tw2647654807098235363 : Unit := ()
def main.tw2456247091588846565 : Unit := ()
def main.tw6632538468102435922 : Unit := ()
def main.tw11410963132546700228 : Unit := ()
def main.tw5127751686995613262 : Unit := ()
def main.tw11388154006635350966 : Unit := ()
def main.tw1519927702969063271 : Unit := ()
def main.tw13132915859168520264 : Unit := ()
def main.tw14061640607465278742 : Unit := ()
def main.tw1478348082256786915 : Unit := ()
def main.tw10665089971535097683 : Unit := ()
def main.tw16950194794029067938 : Unit := ()
def main.tw750237026923860459 : Unit := ()
def main.tw11982392923317675503 : Unit := ()
def main.tw13962693860625380366 : Unit := ()
def main.tw15060185592220127646 : Unit := ()
def main.tw10953687544409504101 : Unit := ()
def main.tw4333880214566435006 : Unit := ()
def main.tw9190990891756207365 : Unit := ()
def main.tw18418235949754561950 : Unit := ()
def main.tw3960113756560652017 : Unit := ()
def main.tw7623511443260959870 : Unit := ()
def main.tw4817600198373253283 : Unit := ()
def main.tw10047389527955405517 : Unit := ()
def main.tw1850612553970854742 : Unit := ()
def main.tw13667920496262714385 : Unit := ()
def main.tw14216407083858561409 : Unit := ()
def main.tw11710404883906591787 : Unit := ()
def main.tw14639212616227390028 : Unit := ()
def main.tw3137596982192898869 : Unit := ()
def main.tw4917070330192852093 : Unit := ()
def main.tw5400957986263281647 : Unit := ()
def main.tw6702130215012162313 : Unit := ()
def main.tw12139096438432415106 : Unit := ()
def main.tw2921621734765799159 : Unit := ()
def main.tw8211959896082780389 : Unit := ()
def main.tw7761410557224570781 : Unit := ()
def main.tw17864028415675338326 : Unit := ()
def main.tw4088224383575840552 : Unit := ()
def main.tw9361300454564663673 : Unit := ()
def main.tw10177057350305019805 : Unit := ()
def main.tw15514936471743626214 : Unit := ()
def main.tw18431692314602308842 : Unit := ()
def main.tw3994622017586750766 : Unit := ()
def main.tw1777545030009416734 : Unit := ()
def main.tw10159738436595150677 : Unit := ()
def main.tw10094358506670053839 : Unit := ()
def main.tw918671981122897330 : Unit := ()
def main.tw12675357926760492328 : Unit := ()
def main.tw12623159325031504133 : Unit := ()
def main.tw2538046985915079169 : Unit := ()
def main.tw765107192605250810 : Unit := ()
def main.tw1255815211270559930 : Unit := ()
def main.tw17767330081159143506 : Unit := ()
def main.tw9515011664573035354 : Unit := ()
def main.tw1261021989165538067 : Unit := ()
def main.tw471287901995484742 : Unit := ()
def main.tw4044139247061151142 : Unit := ()
def main.tw1615045767204293396 : Unit := ()
def main.tw13270728482189477470 : Unit := ()
def main.tw8834365191522931223 : Unit := ()
def main.tw17699438841360665129 : Unit := ()
def main.tw16676564476587882173 : Unit := ()
def main.tw18442785490491869365 : Unit := ()
def main.tw16798622893749714585 : Unit := ()
def main.tw2007339730380871907 : Unit := ()
def main.tw16819838333489098493 : Unit := ()
def main.tw52199770228462824 : Unit := ()
def main.tw17715262827843222689 : Unit := ()
def main.tw16251939892948500945 : Unit := ()
def main.tw13590572293223372214 : Unit := ()
def main.tw3867218068155391060 : Unit := ()
def main.tw8652556701797213591 : Unit := ()
def main.tw14274741233649588404 : Unit := ()
def main.tw4681395471914393968 : Unit := ()
def main.tw12751799325998411230 : Unit := ()
def main.tw6557543464795787104 : Unit := ()
def main.tw9942282790977331292 : Unit := ()
def main.tw9360745474812902239 : Unit := ()
def main.tw18195925520682101353 : Unit := ()
def main.tw7742616358663508648 : Unit := ()
def main.tw2433702464844828792 : Unit := ()
def main.tw1886080085820668685 : Unit := ()
def main.tw1099256609624015869 : Unit := ()
def main.tw5871769198996169552 : Unit := ()
def main.tw3796207824708393856 : Unit := ()
def main.tw13803360072150633466 : Unit := ()
def main.tw5061512775090418087 : Unit := ()
def main.tw17438294365789470252 : Unit := ()
def main.tw9253799994812790149 : Unit := ()
def main.tw832900586485598795 : Unit := ()
def main.tw6912675738884088206 : Unit := ()
def main.tw6584820252761975732 : Unit := ()
def main.tw1098248734344127483 : Unit := ()
def main.tw13642826006792871662 : Unit := ()
def main.tw5665406974723832613 : Unit := ()
def main.tw15491723280356408159 : Unit := ()
def main.tw4573282807186111410 : Unit := ()
def main.tw962193829226610041 : Unit := ()
def main.tw12483276189755474720 : Unit := ()
def main.tw16049902774474827687 : Unit := ()
def main.tw10609540516017602915 : Unit := ()
def main.tw8952462522180670554 : Unit := ()
def main.tw13154001654789283132 : Unit := ()
def main.tw4585930131862741453 : Unit := ()
def main.tw66260789543402106 : Unit := ()
def main.tw15643365686152983790 : Unit := ()
def main.tw7074144079889050967 : Unit := ()
def main.tw18031918436515192882 : Unit := ()
def main.tw13313126695403321540 : Unit := ()
def main.tw11815829001073249272 : Unit := ()
def main.tw1628013610222277130 : Unit := ()
def main.tw13116522157475607773 : Unit := ()
def main.tw8207831470162742035 : Unit := ()
def main.tw14009396871252706886 : Unit := ()
def main.tw16721930046160240684 : Unit := ()
def main.tw5842977544298395883 : Unit := ()
def main.tw12298629886278197574 : Unit := ()
def main.tw8323696390020096311 : Unit := ()
def main.tw656089360051881306 : Unit := ()
def main.tw10463206416058312583 : Unit := ()
def main.tw5517759331935216279 : Unit := ()
def main.tw12900284412222446716 : Unit := ()
def main.tw645136716886899192 : Unit := ()
def main.tw18425317256667529438 : Unit := ()
def main.tw18421580907717582127 : Unit := ()
def main.tw2566753976717531306 : Unit := ()
def main.tw9656510801202774680 : Unit := ()
def main.tw1545906260438175962 : Unit := ()
def main.tw15023316991559800185 : Unit := ()
def main.tw6449824600675878752 : Unit := ()
def main.tw6112859857366181021 : Unit := ()
def main.tw14313897822631088780 : Unit := ()
def main.tw587328917346081906 : Unit := ()
def main.tw1242282695825638017 : Unit := ()
def main.tw16193401482309157537 : Unit := ()
def main.tw12564604832814323664 : Unit := ()
def main.tw18392154025008590481 : Unit := ()
def main.tw13402765919934010277 : Unit := ()
def main.tw2190695567426971638 : Unit := ()
def main.tw11261727412033496967 : Unit := ()
def main.tw18403998269306519403 : Unit := ()
def main.tw2921958311620399285 : Unit := ()
def main.tw14909365282108701170 : Unit := ()
def main.tw5649967823195072380 : Unit := ()
def main.tw13797323745857372409 : Unit := ()
def main.tw3549514262204291990 : Unit := ()
def main.tw161903638078081290 : Unit := ()
def main.tw18302614123550932261 : Unit := ()
def main.tw3234112476842188716 : Unit := ()
def main.tw2702614204127132176 : Unit := ()
def main.tw12093647306153771053 : Unit := ()
def main.tw16480584520131690045 : Unit := ()
def main.tw6788695710022549768 : Unit := ()
def main.tw12915833801598196605 : Unit := ()
def main.tw14439473939278146460 : Unit := ()
def main.tw3934531018447913466 : Unit := ()
def main.tw6639522245352263942 : Unit := ()
def main.tw9756827057097773860 : Unit := ()
def main.tw13148611719377898607 : Unit := ()
def main.tw9681375758050803366 : Unit := ()
def main.tw12057704586751987240 : Unit := ()
def main.tw8930851030842425676 : Unit := ()
def main.tw1027651156746619712 : Unit := ()
def main.tw7083192437325867461 : Unit := ()
def main.tw9274054859765456524 : Unit := ()
def main.tw9392487213469676918 : Unit := ()
def main.tw8475525182357872103 : Unit := ()
def main.tw11531331273489700057 : Unit := ()
def main.tw3848698983108048278 : Unit := ()
def main.tw15768048840197415361 : Unit := ()
def main.tw12670839924663504800 : Unit := ()
def main.tw9561784451562097942 : Unit := ()
def main.tw11251407683458634364 : Unit := ()
def main.tw11349898740250378076 : Unit := ()
def main.tw8905464785575363620 : Unit := ()
def main.tw17477492558424962760 : Unit := ()
def main.tw8947760058931562597 : Unit := ()
def main.tw6880717277089553138 : Unit := ()
def main.tw6635558491612396129 : Unit := ()
def main.tw4189750870438640210 : Unit := ()
def main.tw13113777628852026922 : Unit := ()
def main.tw13260870731297125680 : Unit := ()
def main.tw9272984997812220495 : Unit := ()
def main.tw13995172100960836882 : Unit := ()
def main.tw17725498274588495791 : Unit := ()
def main.tw1178595665728414349 : Unit := ()
def main.tw2110754180369666209 : Unit := ()
def main.tw3160845607165458772 : Unit := ()
def main.tw1151946252083901208 : Unit := ()
def main.tw4839478117068044826 : Unit := ()
def main.tw6164561884633627433 : Unit := ()
def main.tw11595355409239048105 : Unit := ()
def main.tw17201416709059790184 : Unit := ()
def main.tw14106445559736802775 : Unit := ()
def main.tw14097447854668400296 : Unit := ()
def main.tw14793117695081215449 : Unit := ()
def main.tw3557749057250611081 : Unit := ()
def main.tw330327031418712150 : Unit := ()
def main.tw5602234197418806665 : Unit := ()
def main.tw13676971244355772609 : Unit := ()
def main.tw12927740378394474205 : Unit := ()
def main.tw9557352009045844224 : Unit := ()
def main.tw5181119749688162637 : Unit := ()
def main.tw3454311308915712629 : Unit := ()
def main.tw9069182735580402390 : Unit := ()
def main.tw1130211791997205004 : Unit := ()
def main.tw1980160206288974728 : Unit := ()
def main.tw16656740534632174751 : Unit := ()
def main.tw14722489848711283861 : Unit := ()
def main.tw10876229203375891673 : Unit := ()
def main.tw6910295442248876197 : Unit := ()
def main.tw5978758484761866263 : Unit := ()
def main.tw15928290008803537013 : Unit := ()
def main.tw17275675667316583603 : Unit := ()
def main.tw4491334807805099456 : Unit := ()
def main.tw15616401959046598769 : Unit := ()
def main.tw14646587721710459877 : Unit := ()
def main.tw7273056430967151046 : Unit := ()
def main.tw799486724532869496 : Unit := ()
def main.tw6222487380544312443 : Unit := ()
def main.tw7691172733374981047 : Unit := ()
def main.tw14788915703135433725 : Unit := ()
def main.tw14168887731352723522 : Unit := ()
def main.tw5240536507193477226 : Unit := ()
def main.tw14672674291997333471 : Unit := ()
def main.tw15734200111481486640 : Unit := ()
def main.tw5309058905264134205 : Unit := ()
def main.tw15269026261588454279 : Unit := ()
def main.tw2707173551233143345 : Unit := ()
def main.tw13180746182150919023 : Unit := ()
def main.tw1051108251117913619 : Unit := ()
def main.tw6418098437765475518 : Unit := ()
def main.tw9670510015898674028 : Unit := ()
def main.tw7875838824674609581 : Unit := ()
def main.tw4072190877284726289 : Unit := ()
def main.tw15456292953607678552 : Unit := ()
def main.tw6657087868060814 : Unit := ()
def main.tw16952715711813285254 : Unit := ()
def main.tw6660377722381337597 : Unit := ()
def main.tw5401703158475992631 : Unit := ()
def main.tw3299218664060906527 : Unit := ()
def main.tw1236483940969888574 : Unit := ()
def main.tw16320215318167395912 : Unit := ()
def main.tw1390771862084280389 : Unit := ()
def main.tw13157206579259725088 : Unit := ()
set_option Elab.async true in
set_option maxHeartbeats 40000000 in
theorem main : PySem.Challenge.rw_xw0340_02.Holds := by
  w_on
  o_law
  k_head
  (case hw => w_witness2)
  have take_spec : D_take_spec Mine.main.heap_1_39 := by
    as_aux_lemma =>
      unfold D_take_spec
      intro pp w loose mean mg mb dp un gd cn cs a ccd cl outer A₀ base h₀ L m news s Q E rest l x y top tx ty tt n
      k_fill
      intro B F X N T hk hd S hap hx hy hy2 ht ht2 ret
      refine wpAny_call ?_
      refine' code_part (rw := [(l, listOf #[Value.int x tx, Value.int y ty] n)]) (ro := []) (rest := rest) ?k1 ?k2 ?k3 ?k4 ?k5 ?kA ?kF ?kK ?k6 ?k7 ?k8 ?k9 ?kB ?r1 ?r2 ?r3 ?r4 ?_ ?c2 ?c3 ?c4 ?c5
      (case kA => exact rfl)
      (case kF => exact rfl)
      (case kK => exact hk)
      (case k1 => k_asm)
      (case k2 => k_asm)
      (case k3 => k_asm)
      (case k4 => k_asm)
      (case k5 => k_asm)
      (case k6 => k_is)
      (case k7 => k_is)
      (case k8 => (first | (show dp < recursionLimit; unfold recursionLimit; omega) | (show dp + _ < recursionLimit; unfold recursionLimit; omega)))
      (case k9 => first | exact BindsTo.of_eq rfl | exact binds_K (by k_in) rfl (by k_is) rfl rfl rfl)
      (case c5 => decide)
      (case kB => exact locs rfl)
      (case c2 => exact rfl)
      (case c3 => exact rfl)
      (case c4 => exact rfl)
      (case r1 => intro q hq; rw [List.mem_singleton.mp hq]; exact S.mem)
      (case r2 => exact S.sub)
      (case r3 => intro q hq; cases hq)
      (case r4 => intro q hq q' hq'; rw [List.mem_singleton.mp hq]; exact hap q' hq')
      intro g' L' h' FG' F' N' B' X' T' hLt hst
      (try simp only [List.nil_append, List.cons_append] at N' hLt)
      (try dsimp only)
      k_steps
      all_goals (rename (News _ _ _ _ → News _ _ _ _) => hR)
      all_goals (refine' ret _ _ _ _ _ _ _ _ ?b1 ?b2 ?b3 ?b4 ?b5 ?f ?nn; (case nn => exact join1 (by k_asm) hR); (case f => k_asm); (case b1 => exact Int.fmod_nonneg_of_pos _ ht); (case b2 => exact Int.fmod_lt_of_pos _ ht); (case b3 => first | assumption | exact Int.fdiv_nonneg hx (Int.le_of_lt ht)); (case b4 => first | assumption | exact Int.fmod_nonneg_of_pos _ (by decide)); (case b5 => first | assumption | exact Int.fmod_lt_of_pos _ (by decide)))
  have mask_spec : D_mask_spec Mine.main.heap_1_39 := by
    as_aux_lemma =>
      unfold D_mask_spec
      intro pp w loose mean mg mb dp un gd cn cs a ccd cl outer A₀ base h₀ L m news s Q E p tp
      k_fill
      intro B F X N T hk hd hp hp2 ret
      refine wpAny_call ?_
      refine' code_part (rw := []) (ro := []) (rest := news) ?k1 ?k2 ?k3 ?k4 ?k5 ?kA ?kF ?kK ?k6 ?k7 ?k8 ?k9 ?kB ?r1 ?r2 ?r3 ?r4 ?_ ?c2 ?c3 ?c4 ?c5
      (case kA => exact rfl)
      (case kF => exact rfl)
      (case kK => exact hk)
      (case k1 => k_asm)
      (case k2 => k_asm)
      (case k3 => k_asm)
      (case k4 => k_asm)
      (case k5 => k_asm)
      (case k6 => k_is)
      (case k7 => k_is)
      (case k8 => (first | (show dp < recursionLimit; unfold recursionLimit; omega) | (show dp + _ < recursionLimit; unfold recursionLimit; omega)))
      (case k9 => first | exact BindsTo.of_eq rfl | exact binds_K (by k_in) rfl (by k_is) rfl rfl rfl)
      (case c5 => decide)
      (case kB => exact locs rfl)
      (case c2 => exact rfl)
      (case c3 => exact rfl)
      (case c4 => exact rfl)
      (case r1 => intro q hq; cases hq)
      (case r2 => exact fun q hq => hq)
      (case r3 => intro q hq; cases hq)
      (case r4 => intro q hq; cases hq)
      intro g' L' h' FG' F' N' B' X' T' hLt hst
      (try simp only [List.nil_append, List.cons_append] at N' hLt)
      (try dsimp only)
      k_steps
      all_goals (rename (News _ _ _ _ → News _ _ _ _) => hR)
      all_goals exact ret _ _ _ _ (by omega) (by k_asm) (hR News.nil)
  have bcast_spec : D_bcast_spec Mine.main.heap_1_39 := by
    as_aux_lemma =>
      unfold D_bcast_spec
      intro pp w loose mean mg mb dp un gd cn cs a ccd cl outer A₀ base h₀ L m news s Q E x y p tx ty tp
      k_fill
      intro B F X N T hk hd hy hy2 hp hp2 ret
      refine wpAny_call ?_
      refine' code_part (rw := []) (ro := []) (rest := news) ?k1 ?k2 ?k3 ?k4 ?k5 ?kA ?kF ?kK ?k6 ?k7 ?k8 ?k9 ?kB ?r1 ?r2 ?r3 ?r4 ?_ ?c2 ?c3 ?c4 ?c5
      (case kA => exact rfl)
      (case kF => exact rfl)
      (case kK => exact hk)
      (case k1 => k_asm)
      (case k2 => k_asm)
      (case k3 => k_asm)
      (case k4 => k_asm)
      (case k5 => k_asm)
      (case k6 => k_is)
      (case k7 => k_is)
      (case k8 => (first | (show dp < recursionLimit; unfold recursionLimit; omega) | (show dp + _ < recursionLimit; unfold recursionLimit; omega)))
      (case k9 => first | exact BindsTo.of_eq rfl | exact binds_K (by k_in) rfl (by k_is) rfl rfl rfl)
      (case c5 => decide)
      (case kB => exact locs rfl)
      (case c2 => exact rfl)
      (case c3 => exact rfl)
      (case c4 => exact rfl)
      (case r1 => intro q hq; cases hq)
      (case r2 => exact fun q hq => hq)
      (case r3 => intro q hq; cases hq)
      (case r4 => intro q hq; cases hq)
      intro g' L' h' FG' F' N' B' X' T' hLt hst
      (try simp only [List.nil_append, List.cons_append] at N' hLt)
      (try dsimp only)
      k_steps
      all_goals (rename (News _ _ _ _ → News _ _ _ _) => hR)
      all_goals (refine' ret _ _ _ ?b ?f ?nn; (case nn => exact hR News.nil); (case f => k_asm); (case b => first | exact told_a (by assumption) | exact told_b (by assumption) (by omega) | exact told_c (by assumption) (by omega) hp hp2 hy hy2 (by assumption) (by assumption)))
  have told0_spec : D_told0_spec Mine.main.heap_1_39 := by
    as_aux_lemma =>
      unfold D_told0_spec
      intro pp w loose mean mg mb dp un gd cn cs a ccd cl outer A₀ base h₀ L m news s Q E x tx tf lay dl fl f1 d1 f2 d2 k1 k2 k3 k4 k5 k6 k7 k8 k9 k10 k11 t1 t2 t3 t4 v2 v3 v4 v5 v8 v11 x1 p1 x2 p2
      k_fill
      intro B F X N T hk hd hS hx1 hx12 hp1 hp12 hx2 hx22 hp2 hp22 ret
      refine wpAny_call ?_
      refine' code_part (rw := []) (ro := [(lay, instObj 400 dl), (dl, dictOf [⟨PyData.keyHash w.params (Str.ofString "faces"), Value.str (Str.ofString "faces") k1, Value.ref fl⟩, ⟨PyData.keyHash w.params (Str.ofString "routes"), Value.str (Str.ofString "routes") k2, v2⟩, ⟨PyData.keyHash w.params (Str.ofString "reassembly"), Value.str (Str.ofString "reassembly") k3, v3⟩, ⟨PyData.keyHash w.params (Str.ofString "forwards"), Value.str (Str.ofString "forwards") k4, v4⟩, ⟨PyData.keyHash w.params (Str.ofString "last_ident"), Value.str (Str.ofString "last_ident") k5, v5⟩] 5), (fl, listOf #[Value.ref f1, Value.ref f2] 0), (f1, instObj 274 d1), (d1, dictOf [⟨PyData.keyHash w.params (Str.ofString "address"), Value.str (Str.ofString "address") k6, Value.int x1 t1⟩, ⟨PyData.keyHash w.params (Str.ofString "prefix"), Value.str (Str.ofString "prefix") k7, Value.int p1 t2⟩, ⟨PyData.keyHash w.params (Str.ofString "mtu"), Value.str (Str.ofString "mtu") k8, v8⟩] 3), (f2, instObj 274 d2), (d2, dictOf [⟨PyData.keyHash w.params (Str.ofString "address"), Value.str (Str.ofString "address") k9, Value.int x2 t3⟩, ⟨PyData.keyHash w.params (Str.ofString "prefix"), Value.str (Str.ofString "prefix") k10, Value.int p2 t4⟩, ⟨PyData.keyHash w.params (Str.ofString "mtu"), Value.str (Str.ofString "mtu") k11, v11⟩] 3)]) (rest := news) ?k1 ?k2 ?k3 ?k4 ?k5 ?kA ?kF ?kK ?k6 ?k7 ?k8 ?k9 ?kB ?r1 ?r2 ?r3 ?r4 ?_ ?c2 ?c3 ?c4 ?c5
      (case kA => exact rfl)
      (case kF => exact rfl)
      (case kK => exact hk)
      (case k1 => k_asm)
      (case k2 => k_asm)
      (case k3 => k_asm)
      (case k4 => k_asm)
      (case k5 => k_asm)
      (case k6 => k_is)
      (case k7 => k_is)
      (case k8 => (first | (show dp < recursionLimit; unfold recursionLimit; omega) | (show dp + _ < recursionLimit; unfold recursionLimit; omega)))
      (case k9 => first | exact BindsTo.of_eq rfl | exact binds_K (by k_in) rfl (by k_is) rfl rfl rfl)
      (case c5 => decide)
      (case kB => exact locs rfl)
      (case c2 => exact rfl)
      (case c3 => exact rfl)
      (case c4 => exact rfl)
      (case r1 => intro q hq; cases hq)
      (case r2 => exact fun q hq => hq)
      (case r3 => exact SubL.mem hS)
      (case r4 => intro q hq; cases hq)
      intro g' L' h' FG' F' N' B' X' T' hLt hst
      (try simp only [List.nil_append, List.cons_append] at N' hLt)
      (try dsimp only)
      k_steps
      all_goals (rename (News _ _ _ _ → News _ _ _ _) => hR)
      all_goals (refine' ret _ _ _ ?b ?f ?nn; (case nn => exact hR (fun q hq => (by k_asm : News _ _ _ _) q (SubL.mem (by k_subL) q hq))); (case f => k_asm); (case b => first | exact told_d (by assumption) | assumption))
  have told1_spec : D_told1_spec Mine.main.heap_1_39 := by
    as_aux_lemma =>
      unfold D_told1_spec
      intro pp w loose mean mg mb dp un gd cn cs a ccd cl outer A₀ base h₀ L m news s Q E x tx tf lay dl fl f1 d1 f2 d2 k1 k2 k3 k4 k5 k6 k7 k8 k9 k10 k11 t1 t2 t3 t4 v2 v3 v4 v5 v8 v11 x1 p1 x2 p2
      k_fill
      intro B F X N T hk hd hS hx1 hx12 hp1 hp12 hx2 hx22 hp2 hp22 ret
      refine wpAny_call ?_
      refine' code_part (rw := []) (ro := [(lay, instObj 400 dl), (dl, dictOf [⟨PyData.keyHash w.params (Str.ofString "faces"), Value.str (Str.ofString "faces") k1, Value.ref fl⟩, ⟨PyData.keyHash w.params (Str.ofString "routes"), Value.str (Str.ofString "routes") k2, v2⟩, ⟨PyData.keyHash w.params (Str.ofString "reassembly"), Value.str (Str.ofString "reassembly") k3, v3⟩, ⟨PyData.keyHash w.params (Str.ofString "forwards"), Value.str (Str.ofString "forwards") k4, v4⟩, ⟨PyData.keyHash w.params (Str.ofString "last_ident"), Value.str (Str.ofString "last_ident") k5, v5⟩] 5), (fl, listOf #[Value.ref f1, Value.ref f2] 0), (f1, instObj 274 d1), (d1, dictOf [⟨PyData.keyHash w.params (Str.ofString "address"), Value.str (Str.ofString "address") k6, Value.int x1 t1⟩, ⟨PyData.keyHash w.params (Str.ofString "prefix"), Value.str (Str.ofString "prefix") k7, Value.int p1 t2⟩, ⟨PyData.keyHash w.params (Str.ofString "mtu"), Value.str (Str.ofString "mtu") k8, v8⟩] 3), (f2, instObj 274 d2), (d2, dictOf [⟨PyData.keyHash w.params (Str.ofString "address"), Value.str (Str.ofString "address") k9, Value.int x2 t3⟩, ⟨PyData.keyHash w.params (Str.ofString "prefix"), Value.str (Str.ofString "prefix") k10, Value.int p2 t4⟩, ⟨PyData.keyHash w.params (Str.ofString "mtu"), Value.str (Str.ofString "mtu") k11, v11⟩] 3)]) (rest := news) ?k1 ?k2 ?k3 ?k4 ?k5 ?kA ?kF ?kK ?k6 ?k7 ?k8 ?k9 ?kB ?r1 ?r2 ?r3 ?r4 ?_ ?c2 ?c3 ?c4 ?c5
      (case kA => exact rfl)
      (case kF => exact rfl)
      (case kK => exact hk)
      (case k1 => k_asm)
      (case k2 => k_asm)
      (case k3 => k_asm)
      (case k4 => k_asm)
      (case k5 => k_asm)
      (case k6 => k_is)
      (case k7 => k_is)
      (case k8 => (first | (show dp < recursionLimit; unfold recursionLimit; omega) | (show dp + _ < recursionLimit; unfold recursionLimit; omega)))
      (case k9 => first | exact BindsTo.of_eq rfl | exact binds_K (by k_in) rfl (by k_is) rfl rfl rfl)
      (case c5 => decide)
      (case kB => exact locs rfl)
      (case c2 => exact rfl)
      (case c3 => exact rfl)
      (case c4 => exact rfl)
      (case r1 => intro q hq; cases hq)
      (case r2 => exact fun q hq => hq)
      (case r3 => exact SubL.mem hS)
      (case r4 => intro q hq; cases hq)
      intro g' L' h' FG' F' N' B' X' T' hLt hst
      (try simp only [List.nil_append, List.cons_append] at N' hLt)
      (try dsimp only)
      k_steps
      all_goals (rename (News _ _ _ _ → News _ _ _ _) => hR)
      all_goals (refine' ret _ _ _ ?b ?f ?nn; (case nn => exact hR (fun q hq => (by k_asm : News _ _ _ _) q (SubL.mem (by k_subL) q hq))); (case f => k_asm); (case b => first | exact told_d (by assumption) | assumption))
  have toldf_spec : D_toldf_spec Mine.main.heap_1_39 := by
    as_aux_lemma =>
      unfold D_toldf_spec
      intro pp w loose mean mg mb dp un gd cn cs a ccd cl outer A₀ base h₀ L m news s Q E x f tx tf lay dl fl f1 d1 f2 d2 k1 k2 k3 k4 k5 k6 k7 k8 k9 k10 k11 t1 t2 t3 t4 v2 v3 v4 v5 v8 v11 x1 p1 x2 p2
      intro B F X N T hk hd hS hx1 hx12 hp1 hp12 hx2 hx22 hp2 hp22 hf hf2 ret
      rcases (by omega : f = 0 ∨ f = 1) with rfl | rfl
      · exact told0_spec B F X N T hk hd hS hx1 hx12 hp1 hp12 hx2 hx22 hp2 hp22 (fun b h' tk' e F' N' => e ▸ ret h' tk' F' N')
      · exact told1_spec B F X N T hk hd hS hx1 hx12 hp1 hp12 hx2 hx22 hp2 hp22 (fun b h' tk' e F' N' => e ▸ ret h' tk' F' N')
  have forall_spec : D_forall_spec Mine.main.heap_1_39 := by
    as_aux_lemma =>
      unfold D_forall_spec
      intro pp w loose mean mg mb dp un gd cn cs a ccd cl outer A₀ base h₀ L m news s Q E x tx lay dl fl f1 d1 f2 d2 k1 k2 k3 k4 k5 k6 k7 k8 k9 k10 k11 t1 t2 t3 t4 v2 v3 v4 v5 v8 v11 x1 p1 x2 p2
      k_fill
      intro B F X N T hk hd hS hx1 hx12 hp1 hp12 hx2 hx22 hp2 hp22 ret
      refine wpAny_call ?_
      refine' code_partC (rw := []) (ro := [(lay, instObj 400 dl), (dl, dictOf [⟨PyData.keyHash w.params (Str.ofString "faces"), Value.str (Str.ofString "faces") k1, Value.ref fl⟩, ⟨PyData.keyHash w.params (Str.ofString "routes"), Value.str (Str.ofString "routes") k2, v2⟩, ⟨PyData.keyHash w.params (Str.ofString "reassembly"), Value.str (Str.ofString "reassembly") k3, v3⟩, ⟨PyData.keyHash w.params (Str.ofString "forwards"), Value.str (Str.ofString "forwards") k4, v4⟩, ⟨PyData.keyHash w.params (Str.ofString "last_ident"), Value.str (Str.ofString "last_ident") k5, v5⟩] 5), (fl, listOf #[Value.ref f1, Value.ref f2] 0), (f1, instObj 274 d1), (d1, dictOf [⟨PyData.keyHash w.params (Str.ofString "address"), Value.str (Str.ofString "address") k6, Value.int x1 t1⟩, ⟨PyData.keyHash w.params (Str.ofString "prefix"), Value.str (Str.ofString "prefix") k7, Value.int p1 t2⟩, ⟨PyData.keyHash w.params (Str.ofString "mtu"), Value.str (Str.ofString "mtu") k8, v8⟩] 3), (f2, instObj 274 d2), (d2, dictOf [⟨PyData.keyHash w.params (Str.ofString "address"), Value.str (Str.ofString "address") k9, Value.int x2 t3⟩, ⟨PyData.keyHash w.params (Str.ofString "prefix"), Value.str (Str.ofString "prefix") k10, Value.int p2 t4⟩, ⟨PyData.keyHash w.params (Str.ofString "mtu"), Value.str (Str.ofString "mtu") k11, v11⟩] 3)]) (rest := news) ?k1 ?k2 ?k3 ?k4 ?k5 ?kA ?kF ?kK ?k6 ?k7 ?k8 ?k9 ?kB ?kD ?r1 ?r2 ?r3 ?r4 ?_ ?c2 ?c3 ?c4
      (case kA => exact rfl)
      (case kF => exact rfl)
      (case kK => exact hk)
      (case k1 => k_asm)
      (case k2 => k_asm)
      (case k3 => k_asm)
      (case k4 => k_asm)
      (case k5 => k_asm)
      (case k6 => k_is)
      (case k7 => k_is)
      (case k8 => (first | (show dp < recursionLimit; unfold recursionLimit; omega) | (show dp + _ < recursionLimit; unfold recursionLimit; omega)))
      (case k9 => first | exact BindsTo.of_eq rfl | exact binds_K (by k_in) rfl (by k_is) rfl rfl rfl)
      (case kB => exact rfl)
      (case kD => decide +kernel)
      (case c2 => exact rfl)
      (case c3 => exact rfl)
      (case c4 => exact rfl)
      (case r1 => intro q hq; cases hq)
      (case r2 => exact fun q hq => hq)
      (case r3 => exact SubL.mem hS)
      (case r4 => intro q hq; cases hq)
      intro g' L' h' tk' cells' FG' F' N' Y' B' X' T' hLt hst
      (try k_lt hLt)
      k_cells Y'
      (try simp only [List.nil_append, List.cons_append] at N')
      (try dsimp only)
      k_steps
      all_goals (rename (News _ _ _ _ → News _ _ _ _) => hR)
      all_goals (refine' ret _ _ _ ?b ?f ?nn; (case nn => exact hR (fun q hq => (by k_asm : News _ _ _ _) q (SubL.mem (by k_subL) q hq))); (case f => k_asm); (case b => simp [forAll, selI]))
  have forallv_spec : D_forallv_spec Mine.main.heap_1_39 := by
    as_aux_lemma =>
      unfold D_forallv_spec
      intro pp w loose mean mg mb dp un gd cn cs a ccd cl outer A₀ base h₀ L m news s Q E x tx lay dl fl f1 d1 f2 d2 k1 k2 k3 k4 k5 k6 k7 k8 k9 k10 k11 t1 t2 t3 t4 v2 v3 v4 v5 v8 v11 x1 p1 x2 p2
      intro B F X N T hk hd hS hx1 hx12 hp1 hp12 hx2 hx22 hp2 hp22 ret
      exact forall_spec B F X N T hk hd hS hx1 hx12 hp1 hp12 hx2 hx22 hp2 hp22 (fun b h' tk' e F' N' => e ▸ ret h' tk' F' N')
  have ends_spec : D_ends_spec Mine.main.heap_1_39 := by
    as_aux_lemma =>
      unfold D_ends_spec
      intro pp w loose mean mg mb dp un gd cn cs a ccd cl outer A₀ base h₀ L m news s Q E ft y p ty tp
      k_fill
      intro B F X N T hk hd hS hp hp2 ret
      refine wpAny_call ?_
      refine' code_part (rw := []) (ro := [(ft, ({ cls := .type "tuple", data := .seq #[Value.int y ty, Value.int p tp] } : Obj))]) (rest := news) ?k1 ?k2 ?k3 ?k4 ?k5 ?kA ?kF ?kK ?k6 ?k7 ?k8 ?k9 ?kB ?r1 ?r2 ?r3 ?r4 ?_ ?c2 ?c3 ?c4 ?c5
      (case kA => exact rfl)
      (case kF => exact rfl)
      (case kK => exact hk)
      (case k1 => k_asm)
      (case k2 => k_asm)
      (case k3 => k_asm)
      (case k4 => k_asm)
      (case k5 => k_asm)
      (case k6 => k_is)
      (case k7 => k_is)
      (case k8 => (first | (show dp < recursionLimit; unfold recursionLimit; omega) | (show dp + _ < recursionLimit; unfold recursionLimit; omega)))
      (case k9 => first | exact BindsTo.of_eq rfl | exact binds_K (by k_in) rfl (by k_is) rfl rfl rfl)
      (case c5 => decide)
      (case kB => exact locs rfl)
      (case c2 => exact rfl)
      (case c3 => exact rfl)
      (case c4 => exact rfl)
      (case r1 => intro q hq; cases hq)
      (case r2 => exact fun q hq => hq)
      (case r3 => exact SubL.mem hS)
      (case r4 => intro q hq; cases hq)
      intro g' L' h' FG' F' N' B' X' T' hLt hst
      (try simp only [List.nil_append, List.cons_append] at N' hLt)
      (try dsimp only)
      k_steps
      all_goals (rename (News _ _ _ _ → News _ _ _ _) => hR)
      all_goals (refine' ret _ _ _ _ _ ?f ?nn; (case nn => exact newsc (by k_asm) (by k_mem) (hR (newsl (by k_asm) (by k_subL)))); (case f => k_asm))
  have due_spec : D_due_spec Mine.main.heap_1_39 := by
    as_aux_lemma =>
      unfold D_due_spec
      intro pp w loose mean mg mb dp un gd cn cs a ccd cl outer A₀ base h₀ L m news s Q E x x1 p1 x2 p2 tx t1 t2 t3 t4 na fa
      k_fill
      intro B F X N T hk hd hS hx1 hx12 hp1 hp12 hx2 hx22 hp2 hp22 ret
      refine wpAny_call ?_
      refine' code_partC (rw := []) (ro := [(na, ({ cls := .type "tuple", data := .seq #[Value.int x1 t1, Value.int p1 t2] } : Obj)), (fa, ({ cls := .type "tuple", data := .seq #[Value.int x2 t3, Value.int p2 t4] } : Obj))]) (rest := news) ?k1 ?k2 ?k3 ?k4 ?k5 ?kA ?kF ?kK ?k6 ?k7 ?k8 ?k9 ?kB ?kD ?r1 ?r2 ?r3 ?r4 ?_ ?c2 ?c3 ?c4
      (case kA => exact rfl)
      (case kF => exact rfl)
      (case kK => exact hk)
      (case k1 => k_asm)
      (case k2 => k_asm)
      (case k3 => k_asm)
      (case k4 => k_asm)
      (case k5 => k_asm)
      (case k6 => k_is)
      (case k7 => k_is)
      (case k8 => (first | (show dp < recursionLimit; unfold recursionLimit; omega) | (show dp + _ < recursionLimit; unfold recursionLimit; omega)))
      (case k9 => first | exact BindsTo.of_eq rfl | exact binds_K (by k_in) rfl (by k_is) rfl rfl rfl)
      (case kB => exact rfl)
      (case kD => decide +kernel)
      (case c2 => exact rfl)
      (case c3 => exact rfl)
      (case c4 => exact rfl)
      (case r1 => intro q hq; cases hq)
      (case r2 => exact fun q hq => hq)
      (case r3 => exact SubL.mem hS)
      (case r4 => intro q hq; cases hq)
      intro g' L' h' tk' cells' FG' F' N' Y' B' X' T' hLt hst
      (try k_lt hLt)
      k_cells Y'
      (try simp only [List.nil_append, List.cons_append] at N')
      (try dsimp only)
      k_steps
      all_goals (rename (News _ _ _ _ → News _ _ _ _) => hR)
      all_goals (refine' ret _ _ _ ?b ?f ?nn; (case nn => exact hR (newsl (by k_asm) (by k_subL))); (case f => k_asm); (case b => first | exact due_a (by assumption) | exact due_or (by first | exact told_e (by assumption) (by assumption) | exact told_f (by assumption) (by assumption)) (by first | exact told_e (by assumption) (by assumption) | exact told_f (by assumption) (by assumption))))
  have duev_spec : D_duev_spec Mine.main.heap_1_39 := by
    as_aux_lemma =>
      unfold D_duev_spec
      intro pp w loose mean mg mb dp un gd cn cs a ccd cl outer A₀ base h₀ L m news s Q E x x1 p1 x2 p2 tx t1 t2 t3 t4 na fa
      intro B F X N T hk hd hS hx1 hx12 hp1 hp12 hx2 hx22 hp2 hp22 ret
      exact due_spec B F X N T hk hd hS hx1 hx12 hp1 hp12 hx2 hx22 hp2 hp22 (fun b h' tk' e F' N' => e ▸ ret h' tk' F' N')
  have layer_spec : D_layer_spec Mine.main.heap_1_39 := by
    as_aux_lemma =>
      unfold D_layer_spec
      intro pp w loose mean mg mb dp un gd cn cs a ccd cl outer A₀ base h₀ L m news s Q E x1 p1 x2 p2 t1 t2 t3 t4 na fa
      k_fill
      intro B F X N T hk hd hS ret
      refine wpAny_call ?_
      refine' code_part (rw := []) (ro := [(na, ({ cls := .type "tuple", data := .seq #[Value.int x1 t1, Value.int p1 t2] } : Obj)), (fa, ({ cls := .type "tuple", data := .seq #[Value.int x2 t3, Value.int p2 t4] } : Obj))]) (rest := news) ?k1 ?k2 ?k3 ?k4 ?k5 ?kA ?kF ?kK ?k6 ?k7 ?k8 ?k9 ?kB ?r1 ?r2 ?r3 ?r4 ?_ ?c2 ?c3 ?c4 ?c5
      (case kA => exact rfl)
      (case kF => exact rfl)
      (case kK => exact hk)
      (case k1 => k_asm)
      (case k2 => k_asm)
      (case k3 => k_asm)
      (case k4 => k_asm)
      (case k5 => k_asm)
      (case k6 => k_is)
      (case k7 => k_is)
      (case k8 => (first | (show dp < recursionLimit; unfold recursionLimit; omega) | (show dp + _ < recursionLimit; unfold recursionLimit; omega)))
      (case k9 => first | exact BindsTo.of_eq rfl | exact binds_K (by k_in) rfl (by k_is) rfl rfl rfl)
      (case c5 => decide)
      (case kB => exact locs rfl)
      (case c2 => exact rfl)
      (case c3 => exact rfl)
      (case c4 => exact rfl)
      (case r1 => intro q hq; cases hq)
      (case r2 => exact fun q hq => hq)
      (case r3 => exact SubL.mem hS)
      (case r4 => intro q hq; cases hq)
      intro g' L' h' FG' F' N' B' X' T' hLt hst
      (try simp only [List.nil_append, List.cons_append] at N' hLt)
      (try dsimp only)
      k_steps
      all_goals (rename (News _ _ _ _ → News _ _ _ _) => hR)
      all_goals (refine' ret _ _ _ _ _ _ _ _ _ _ _ _ _ _ _ _ _ _ _ _ _ _ _ _ _ _ _ _  _ _ ?f ?nn; (case nn => exact newsc (by k_asm) (by k_mem) (newsc (by k_asm) (by k_mem) (newsc (by k_asm) (by k_mem) (newsc (by k_asm) (by k_mem) (newsc (by k_asm) (by k_mem) (newsc (by k_asm) (by k_mem) (newsc (by k_asm) (by k_mem) (hR (newsl (by k_asm) (by k_subL)))))))))); (case f => k_asm))
  have pool_spec : D_pool_spec Mine.main.heap_1_39 := by
    as_aux_lemma =>
      unfold D_pool_spec
      intro pp w loose mean mg mb dp un gd cn cs a ccd cl outer A₀ base h₀ L m news s Q E sl tz vs ns
      k_fill
      intro B F X N T hk hd hL hI hlen ret
      refine wpAny_call ?_
      refine' code_part (rw := []) (ro := []) (rest := news) ?k1 ?k2 ?k3 ?k4 ?k5 ?kA ?kF ?kK ?k6 ?k7 ?k8 ?k9 ?kB ?r1 ?r2 ?r3 ?r4 ?_ ?c2 ?c3 ?c4 ?c5
      (case kA => exact rfl)
      (case kF => exact rfl)
      (case kK => exact hk)
      (case k1 => k_asm)
      (case k2 => k_asm)
      (case k3 => k_asm)
      (case k4 => k_asm)
      (case k5 => k_asm)
      (case k6 => k_is)
      (case k7 => k_is)
      (case k8 => (first | (show dp < recursionLimit; unfold recursionLimit; omega) | (show dp + _ < recursionLimit; unfold recursionLimit; omega)))
      (case k9 => first | exact BindsTo.of_eq rfl | exact binds_K (by k_in) rfl (by k_is) rfl rfl rfl)
      (case c5 => decide)
      (case kB => exact locs rfl)
      (case c2 => exact rfl)
      (case c3 => exact rfl)
      (case c4 => exact rfl)
      (case r1 => intro q hq; cases hq)
      (case r2 => exact fun q hq => hq)
      (case r3 => intro q hq; cases hq)
      (case r4 => intro q hq; cases hq)
      intro g' L' h' FG' F' N' B' X' T' hLt hst
      (try simp only [List.nil_append, List.cons_append] at N' hLt)
      (try dsimp only)
      have hLg := stays_list (fun b o e => FG'.keep b o e) hL
      k_steps
      all_goals (rename (News _ _ _ _ → News _ _ _ _) => hR)
      all_goals (refine' ret _ _ _ _ _ _ _ _ ?b1 ?b2 ?b3 ?fr ?f ?nn; (case nn => exact newsc (by k_asm) (by k_mem) (hR News.nil)); (case f => k_asm); (case b1 => exact Int.mul_nonneg (gr_nonneg _) ite01); (case b2 => exact Int.fmod_nonneg_of_pos _ (by decide)); (case b3 => exact Int.fmod_lt_of_pos _ (by decide)); (case fr => exact fresh_of N hst (by with_reducible assumption) (by k_mem) (by simp)))
  w_strict (k_go0; (all_goals try k_fold); k_steps)
end Mine
theorem PySem.Challenge.cw_xw0340_02_holds : PySem.Challenge.rw_xw0340_02.Holds := by
  exact Mine.main
