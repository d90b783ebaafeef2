import PyProof.Rows.All
import Wide.All
import OpenK.AllK
import Wide.FinOn
import PySem.Challenge.RW_on0218_01
open PySem PySem.W PyProof.Rows
set_option Elab.async false
set_option rowWalk.seconds 0
namespace Mine
/-- the fragment of the heap is named to the kit's cache of twins as one that has none (its twin, 1.4 MB, would be laid down and used by nothing) -/
theorem kPass {K : Params → Frag} {as : List Addr} {P : Params} (_ : (fun _ : Params → Frag => true) K = true) (h : as = (K P).map (·.1)) : as = (K P).map (·.1) := h
theorem said_0 : True := by
  (k_with "m kr" => (refine kPass ?_ ?_; (first | (set_option maxHeartbeats 1 in k_qdec) | exact rfl); kernel_rfl!))
  trivial
section
local macro_rules | `(tactic| kernel_rfl) => `(tactic| k_extra "m kr")
set_option maxRecDepth 100000 in
set_option maxHeartbeats 8000000 in
open_top hd for PySem.Challenge.rw_on0218_01
end
set_option maxRecDepth 100000
open PySem PySem.W PySem.Spec PySem.Calls PyProof.Rows
local macro_rules | `(tactic| walk_at $s:str) => do let t := Lean.Syntax.mkStrLit ("m " ++ s.getString); `(tactic| k_extra $t)
theorem om1 {a b c : Nat} (h : a ≤ b) (h2 : b ≤ c) : a ≤ c := Nat.le_trans h h2
theorem om2 {a b c : Nat} (h : a ≤ b) (h2 : b < c) : a < c := Nat.lt_of_le_of_lt h h2
theorem om3 {a b c : Nat} (h : a < b) (h2 : b ≤ c) : a < c := Nat.lt_of_lt_of_le h h2
theorem om4 {a b : Nat} {c : Int} (h : a ≤ b) (h2 : (b : Int) < c) : (a : Int) < c := Int.lt_of_le_of_lt (Int.ofNat_le.mpr h) h2
theorem om5 {a b c : Nat} (h : a = b) (h2 : b < c) : a < c := h ▸ h2
theorem om6 {a b c : Nat} (h : a = b) (h2 : b ≤ c) : a ≤ c := h ▸ h2
theorem om7 {a b c : Nat} (h : a < b) (h2 : b ≤ c) : a ≤ c := Nat.le_of_lt (Nat.lt_of_lt_of_le h h2)
theorem om8 {a b c : Int} (h : a < b) (h2 : b ≤ c) : a < c := Int.lt_of_lt_of_le h h2
theorem om9 {a b c : Int} (h : a ≤ b) (h2 : b < c) : a < c := Int.lt_of_le_of_lt h h2
theorem om10 {a b c : Int} (h : b ≤ a) (h2 : c < b) : c < a := Int.lt_of_lt_of_le h2 h
theorem word_1 : True := by
  (k_with "m omega" => ((first | decide | (with_reducible exact Int.natCast_nonneg _) | exact om1 (by with_reducible assumption) (by decide) | exact om2 (by with_reducible assumption) (by decide) | exact om3 (by with_reducible assumption) (by decide) | exact om4 (by with_reducible assumption) (by decide) | exact om5 (by with_reducible assumption) (by decide) | exact om6 (by with_reducible assumption) (by decide) | exact om7 (by with_reducible assumption) (by decide) | exact om8 (by with_reducible assumption) (by decide) | exact om9 (by with_reducible assumption) (by decide) | exact om10 (by with_reducible assumption) (by decide) | exact om5 (by with_reducible assumption) (om2 (by with_reducible assumption) (by decide)) | exact om6 (by with_reducible assumption) (om1 (by with_reducible assumption) (by decide)) | exact Nat.le_of_lt (by with_reducible assumption) | exact Nat.succ_le_of_lt (by with_reducible assumption) | exact Int.le_of_lt (by with_reducible assumption) | exact Int.not_le.mp (by with_reducible assumption) | exact Int.not_lt.mp (by with_reducible assumption) | exact Nat.lt_of_not_le (by with_reducible assumption) | exact Nat.le_of_not_lt (by with_reducible assumption) | fail)))
  trivial
local macro_rules | `(tactic| omega) => `(tactic| k_extra "m omega")
section
noncomputable def Kept (h h' : Heap) (adr : List Addr) : Prop := ∀ b o, h.get? b = some o → b ∉ adr → h'.get? b = some o
noncomputable def NewsK (h h' : Heap) (adr : List Addr) (news' : List (Addr × Obj)) : Prop := ∀ p ∈ news', h'.get? p.1 = some p.2 ∧ (p.1 ∈ adr ∨ h.get? p.1 = none)
/-- what a call leaves -/
noncomputable def LeaveS (g : Heap) (s : Shared) (Post : Value → List (Addr × Obj) → Prop) (v : Value) (s' : Shared) : Prop :=
  ∃ L' m' news' h' tk', s' = { s with heap := h', toks := tk' } ∧ Fr g L' h' m' ∧ News g L' h' news' ∧ Post v news'
theorem leaveS_ {g : Heap} {s : Shared} {Post : Value → List (Addr × Obj) → Prop} {v : Value} {L' : Addr} {m' : Str → Option Value} {news' : List (Addr × Obj)} {h' : Heap} {tk' : Nat}
    (F : Fr g L' h' m') (N : News g L' h' news') (P : Post v news') : LeaveS g s Post v { s with heap := h', toks := tk' } :=
  ⟨L', m', news', h', tk', rfl, F, N, P⟩
/-- with part of the ledger alone -/
theorem leaveS_sub {g : Heap} {s : Shared} {Post : Value → List (Addr × Obj) → Prop} {v : Value} {L' : Addr} {m' : Str → Option Value} {news' : List (Addr × Obj)} (nx : List (Addr × Obj)) {h' : Heap} {tk' : Nat}
    (F : Fr g L' h' m') (N : News g L' h' news') (hs : ∀ p ∈ nx, p ∈ news') (P : Post v nx) : LeaveS g s Post v { s with heap := h', toks := tk' } :=
  ⟨L', m', nx, h', tk', rfl, F, fun p hp => N p (hs p hp), P⟩
noncomputable def PreAt (pre : Heap → Prop) (g : Heap) : Prop := pre g
noncomputable def SpecC (w : World) (p : Program) (loose : List Str) (mean : ExcName → Option Value) (mg mb : Str → Option Value) (f : Addr) (pre : Heap → Prop) (need : List (Addr × Obj)) (vs : List Value) (cost : Nat) (Post : Value → List (Addr × Obj) → Prop) : Prop :=
  ∀ (dp un : Nat) (gd : Option (List Code)) (cn : Str) (cs : Scope) (a : Addr) (ccd : Value) (cl : List (Str × Addr)) (outer : List Env) (A₀ : Around) (base h₀ : Heap) (L : Addr) (m : Str → Option Value) (s : Shared) (Q E : Value → Shared → Prop),
    Below A₀ base outer h₀ → Fr h₀ L s.heap m → (hd.heap_39 w.params).In h₀ → News h₀ L s.heap need → Top p loose mean mg mb h₀ → cs.kind = .function → PreAt pre (hideAll s.heap (need.map (·.1))) →
    dp + cost < recursionLimit → un + 8 * cost < cLine →
    (∀ r news' h' tk', Kept s.heap h' (need.map (·.1)) → NewsK s.heap h' (need.map (·.1)) news' → Post r news' → Q r { s with heap := h', toks := tk' }) →
    wpAny (model PySem.Challenge.rw_on0218_01.row.prog w) (ktrTop dp un gd cn cs L a ccd cl outer) (call (.ref f) vs) Q E s
section
variable {w : World} {p : Program} {loose : List Str} {mean : ExcName → Option Value} {mg mb : Str → Option Value}
theorem callS {prog : Program} {A₀ A : Around} {s : Shared} {base h₀ : Heap} {outer : List Env} {L : Addr} {m : Str → Option Value} {env : Env} {news : List (Addr × Obj)} {K : Frag} {pre : Heap → Prop}
    {R : Result → Shared → Prop} {name qual : Str} {params : Arguments} {body : List Stmt} {scope : Scope} {cl : List (Str × Addr)} {dV kV doc pm cdv ct : Value} {an : Option Addr} {f : Addr} {args : Args} {binds : List (Str × Value)} {fo : Obj}
    {Post : Value → List (Addr × Obj) → Prop}
    (B : Below A₀ base outer h₀) (F : Fr h₀ L s.heap m) (X₀ : K.In h₀) (N : News h₀ L s.heap news) (T : Top p loose mean mg mb h₀) (hA : A.frames = some (env :: outer)) (hf : env.frame = some L) (hke : env.scope.kind = .function)
    (hp : PreAt pre (hideAll s.heap (news.map (·.1))))
    (ho : s.heap.get? f = some fo) (hd : fo.data = .func (fnX name qual params body scope cl dV kV doc pm an cdv ct)) (hcd : s.heap.CodeRec cdv qual) (hroom : A.depth < recursionLimit)
    (hbind : BindsTo s (fnX name qual params body scope cl dV kV doc pm an cdv ct) args binds) (hloc : ∀ y ∈ binds, scope.names.lookup y.1 = some .local)
    (ret : ∀ r news' h' tk', Kept s.heap h' (news.map (·.1)) → NewsK s.heap h' (news.map (·.1)) news' → Post r news' → R (.ok (.ret r)) { s with heap := h', toks := tk' })
    (h : ∀ g L' h₁, Fr g L' h₁ (fun y => binds.reverse.lookup y) → News g L' h₁ news → Below A base (env :: outer) g → K.In g → Top p loose mean mg mb g → pre g →
      wpAny (model prog w) (A.deeper (envX qual scope L' f cdv cl)) (execs body (envX qual scope L' f cdv cl))
        (fun fl s' => LeaveS g s Post (match fl with | .ret v => v | _ => .none) s')
        (fun e s' => wpAny (model prog w) (A.deeper (envX qual scope L' f cdv cl)) (leaving (envX qual scope L' f cdv cl) e) (fun _ s'' => R (.error e) s'') (fun e' s'' => R (.error e') s'') s')
        { s with heap := h₁, toks := s.toks + binds.length })
    (hcell : ∀ x ∈ scope.names, x.2 ≠ .cell) (hco : scope.isCoroutine = false) (hgen : scope.isGenerator = false) (hk : scope.kind = .function) : codeAny (model prog w) A (.call (.ref f) args) R s := by
  obtain ⟨FG, BG, st, -⟩ := groundX (R := R) B F N hA hf hke
  refine codeAny_call_def (fd := fnX name qual params body scope cl dV kV doc pm an cdv ct) (body := body) (binds := binds) hroom ho hd (T.nolimit.keeps F.keep) hcd rfl hbind hcell hloc (fun h₁ hns hk₁ => ?_) hco hgen hk
  refine wpAny_mono (h _ s.heap.objs.size h₁ ⟨hns, fun b o e => hk₁ b o (of_hideAll _ e), Nat.le_of_eq (hideAll_size _ _)⟩
    (fun p hp => ⟨hk₁ _ _ (N p hp).1, Nat.ne_of_lt (Heap.lt_size (N p hp).1), hideAll_none _ (List.mem_map_of_mem hp)⟩) BG (X₀.keeps st) (T.keeps st) hp) (fun fl s' hl => ?_) fun _ _ y => y
  obtain ⟨L', m', news', h', tk', rfl, F', N', P⟩ := hl
  refine ret _ news' h' tk' (fun b o e hb => F'.keep b o (hideAll_get _ e hb)) (fun p hp => ⟨(N' p hp).1, ?_⟩) P
  by_cases hb : p.1 ∈ news.map (·.1)
  · exact .inl hb
  · refine .inr ?_
    cases q : s.heap.get? p.1 with
    | none => rfl
    | some o =>
      have h1 := (N' p hp).2.2
      rw [hideAll_get _ q hb] at h1; cases h1
/-- the def stands in the written part -/
theorem callSK {prog : Program} {A₀ A : Around} {s : Shared} {base h₀ : Heap} {outer : List Env} {L : Addr} {m : Str → Option Value} {env : Env} {news : List (Addr × Obj)} {K : Frag} {pre : Heap → Prop}
    {R : Result → Shared → Prop} {name qual : Str} {params : Arguments} {body : List Stmt} {scope : Scope} {dV kV doc pm cdv ct oc : Value} {an od : Option Addr} {osl : Array (Option Value)} {f : Addr} {args : Args} {binds : List (Str × Value)}
    {Post : Value → List (Addr × Obj) → Prop}
    (B : Below A₀ base outer h₀) (F : Fr h₀ L s.heap m) (X₀ : K.In h₀) (N : News h₀ L s.heap news) (T : Top p loose mean mg mb h₀) (hA : A.frames = some (env :: outer)) (hf : env.frame = some L) (hke : env.scope.kind = .function)
    (hp : PreAt pre (hideAll s.heap (news.map (·.1))))
    (ret : ∀ r news' h' tk', Kept s.heap h' (news.map (·.1)) → NewsK s.heap h' (news.map (·.1)) news' → Post r news' → R (.ok (.ret r)) { s with heap := h', toks := tk' })
    (ho : K.lookup f = some ⟨oc, od, .func (fnOf name qual params body scope dV kV doc pm an cdv ct), osl⟩) (hcd : codeIn K cdv qual = true) (hroom : A.depth < recursionLimit)
    (hbind : BindsTo s (fnOf name qual params body scope dV kV doc pm an cdv ct) args binds) (hloc : ∀ y ∈ binds, scope.names.lookup y.1 = some .local)
    (h : ∀ g L' h₁, Fr g L' h₁ (fun y => binds.reverse.lookup y) → News g L' h₁ news → Below A base (env :: outer) g → K.In g → Top p loose mean mg mb g → pre g →
      wpAny (model prog w) (A.deeper (envOf qual scope L' f cdv)) (execs body (envOf qual scope L' f cdv))
        (fun fl s' => LeaveS g s Post (match fl with | .ret v => v | _ => .none) s')
        (fun e s' => wpAny (model prog w) (A.deeper (envOf qual scope L' f cdv)) (leaving (envOf qual scope L' f cdv) e) (fun _ s'' => R (.error e) s'') (fun e' s'' => R (.error e') s'') s')
        { s with heap := h₁, toks := s.toks + binds.length })
    (hcell : ∀ x ∈ scope.names, x.2 ≠ .cell) (hco : scope.isCoroutine = false) (hgen : scope.isGenerator = false) (hk : scope.kind = .function) : codeAny (model prog w) A (.call (.ref f) args) R s :=
  callS (cl := []) (fo := ⟨oc, od, .func (fnOf name qual params body scope dV kV doc pm an cdv ct), osl⟩) B F X₀ N T hA hf hke hp ((X₀.keeps F.keep) _ _ ho) rfl (codeRec_of (X₀.keeps F.keep) hcd) hroom hbind hloc ret h hcell hco hgen hk
/-- the def stands in the written part and has cells -/
theorem callSC {prog : Program} {A₀ A : Around} {s : Shared} {base h₀ : Heap} {outer : List Env} {L : Addr} {m : Str → Option Value} {env : Env} {news : List (Addr × Obj)} {K : Frag} {pre : Heap → Prop}
    {R : Result → Shared → Prop} {name qual : Str} {params : Arguments} {body : List Stmt} {scope : Scope} {dV kV doc pm cdv ct oc : Value} {an od : Option Addr} {osl : Array (Option Value)} {f : Addr} {args : Args} {binds : List (Str × Value)}
    {Post : Value → List (Addr × Obj) → Prop}
    (B : Below A₀ base outer h₀) (F : Fr h₀ L s.heap m) (X₀ : K.In h₀) (N : News h₀ L s.heap news) (T : Top p loose mean mg mb h₀) (hA : A.frames = some (env :: outer)) (hf : env.frame = some L) (hke : env.scope.kind = .function)
    (hp : PreAt pre (hideAll s.heap (news.map (·.1))))
    (ret : ∀ r news' h' tk', Kept s.heap h' (news.map (·.1)) → NewsK s.heap h' (news.map (·.1)) news' → Post r news' → R (.ok (.ret r)) { s with heap := h', toks := tk' })
    (ho : K.lookup f = some ⟨oc, od, .func (fnOf name qual params body scope dV kV doc pm an cdv ct), osl⟩) (hcd : codeIn K cdv qual = true) (hroom : A.depth < recursionLimit)
    (hbind : BindsTo s (fnOf name qual params body scope dV kV doc pm an cdv ct) args binds) (hkind : (binds.all fun y => scope.names.lookup y.1 == some .local || scope.names.lookup y.1 == some .cell) = true)
    (hnd : ((cellsFrom 0 scope.names []).map (·.1)).Nodup)
    (h : ∀ g L' h₁ tk cells, Fr g L' h₁ (bindL (envOfC qual scope L' f cdv).kindOf binds fun _ => none) → News g L' h₁ (cells ++ news) →
      CellsAre (bindC (envOfC qual scope L' f cdv).kindOf binds fun _ => none) (cellsFrom (L' + 1) scope.names []) cells → Below A base (env :: outer) g → K.In g → Top p loose mean mg mb g → pre g → (∀ p ∈ news, p.1 < L') →
      wpAny (model prog w) (A.deeper (envOfC qual scope L' f cdv)) (execs body (envOfC qual scope L' f cdv))
        (fun fl s' => LeaveS g s Post (match fl with | .ret v => v | _ => .none) s')
        (fun e s' => wpAny (model prog w) (A.deeper (envOfC qual scope L' f cdv)) (leaving (envOfC qual scope L' f cdv) e) (fun _ s'' => R (.error e) s'') (fun e' s'' => R (.error e') s'') s')
        { s with heap := h₁, toks := tk })
    (hco : scope.isCoroutine = false) (hgen : scope.isGenerator = false) (hk : scope.kind = .function) : codeAny (model prog w) A (.call (.ref f) args) R s := by
  obtain ⟨FG, BG, st, -⟩ := groundX (R := R) B F N hA hf hke
  refine codeAny_call_function hroom ((X₀.keeps F.keep) _ _ ho) rfl hco hgen rfl (codeRec_of (X₀.keeps F.keep) hcd) (hbind _ _ _ _ ?_)
  refine wpAny_newFunctionEnv_cells hk (kindsX hkind _) fun env' he s' x => ?_
  subst he
  refine ⟨(T.nolimit.keeps F.keep).keeps x.toInCall.keep, codeAny_func ?_⟩
  obtain ⟨h₁, tk, rfl, _⟩ := x.done
  have hk₁ := x.toInCall.keep
  obtain ⟨cells, NC, Y⟩ := Cl.news (h₀ := s.heap) (Nat.le_refl _) fun n c hm => ⟨x.cell n c (lookup_of_mem_nodup (cellsFrom_names scope.names 0 (s.heap.objs.size + 1) [] [] rfl ▸ hnd) hm), x.above n c hm⟩
  refine wpAny_mono (h _ s.heap.objs.size h₁ tk cells ⟨x.toInCall.ns, fun b o e => hk₁ b o (of_hideAll _ e), Nat.le_of_eq (hideAll_size _ _)⟩ (fun p hp => ?_) Y BG (X₀.keeps st) (T.keeps st) hp (fun p hp => Heap.lt_size (N p hp).1)) (fun fl s' hl => ?_) fun _ _ y => y
  · rcases List.mem_append.mp hp with hp | hp
    · refine ⟨(NC p hp).1, (NC p hp).2.1, ?_⟩
      cases q : (hideAll s.heap (news.map (·.1))).get? p.1 with
      | none => rfl
      | some o => have := of_hideAll _ q; rw [(NC p hp).2.2] at this; cases this
    · exact ⟨hk₁ _ _ (N p hp).1, Nat.ne_of_lt (Heap.lt_size (N p hp).1), hideAll_none _ (List.mem_map_of_mem hp)⟩
  · obtain ⟨L', m', news', h', tk', rfl, F', N', P⟩ := hl
    refine ret _ news' h' tk' (fun b o e hb => F'.keep b o (hideAll_get _ e hb)) (fun p hp => ⟨(N' p hp).1, ?_⟩) P
    by_cases hb : p.1 ∈ news.map (·.1)
    · exact .inl hb
    · refine .inr ?_
      cases q : s.heap.get? p.1 with
      | none => rfl
      | some o =>
        have h1 := (N' p hp).2.2
        rw [hideAll_get _ q hb] at h1; cases h1
theorem specC_use {f : Addr} {pre : Heap → Prop} {need : List (Addr × Obj)} {vs : List Value} {cost : Nat} {Post : Value → List (Addr × Obj) → Prop} (C : SpecC w p loose mean mg mb f pre need vs cost Post)
    {dp un : Nat} {gd : Option (List Code)} {cn : Str} {cs : Scope} {a : Addr} {ccd : Value} {cl : List (Str × Addr)} {outer : List Env} {A₀ : Around} {base h₀ : Heap} {L : Addr} {m : Str → Option Value} {s : Shared} {Q E : Value → Shared → Prop} {news : List (Addr × Obj)} (rest : List (Addr × Obj))
    (B : Below A₀ base outer h₀) (F : Fr h₀ L s.heap m) (X : (hd.heap_39 w.params).In h₀) (N : News h₀ L s.heap news) (T : Top p loose mean mg mb h₀) (hk : cs.kind = .function)
    (hd : dp + cost < recursionLimit) (hu : un + 8 * cost < cLine) (hn : ∀ q ∈ need, q ∈ news) (hr : ∀ q ∈ rest, q ∈ news) (hne : ∀ q ∈ rest, q.1 ∉ need.map (·.1))
    (hp : ∀ g, h₀.StaysIn g → (∀ q ∈ rest, g.get? q.1 = some q.2) → pre g)
    (ret : ∀ r news' h' tk', Fr h₀ L h' m → News h₀ L h' (news' ++ rest) → (∀ q ∈ rest, ∀ q' ∈ news', @Ne Nat q.1 q'.1) → Post r news' → Q r { s with heap := h', toks := tk' }) :
    wpAny (model PySem.Challenge.rw_on0218_01.row.prog w) (ktrTop dp un gd cn cs L a ccd cl outer) (call (.ref f) vs) Q E s := by
  have nm : ∀ b o, h₀.get? b = some o → b ∉ need.map (·.1) := fun b o e q => by
    obtain ⟨p, hp, rfl⟩ := List.mem_map.mp q
    rw [(N p (hn p hp)).2.2] at e; cases e
  refine C dp un gd cn cs a ccd cl outer A₀ base h₀ L m s Q E B F X (fun q hq => N q (hn q hq)) T hk (hp _ (fun b o e => hideAll_get _ (F.keep b o e) (nm b o e)) fun q hq => hideAll_get _ (N q (hr q hq)).1 (hne q hq)) hd hu fun r news' h' tk' hk' hn' P => ?_
  have nL : L ∉ need.map (·.1) := fun q => by
    obtain ⟨p, hp, e⟩ := List.mem_map.mp q
    exact (N p (hn p hp)).2.1 e
  obtain ⟨oL, es, ep, hL, hLd, hLk, hLf⟩ := F.ns
  refine ret r news' h' tk' ⟨⟨oL, es, ep, hk' _ _ hL nL, hLd, hLk, hLf⟩, fun b o e => hk' b o (F.keep b o e) (nm b o e), F.above⟩ (fun q hq => ?_) (fun q hq q' hq' e => ?_) P
  · rcases List.mem_append.mp hq with hq | hq
    · refine ⟨(hn' q hq).1, ?_, ?_⟩
      · rcases (hn' q hq).2 with h1 | h1
        · exact fun e => nL (e ▸ h1)
        · intro e; rw [e, hL] at h1; cases h1
      · rcases (hn' q hq).2 with h1 | h1
        · obtain ⟨p, hp, e⟩ := List.mem_map.mp h1
          rw [← e]; exact (N p (hn p hp)).2.2
        · cases e : h₀.get? q.1 with
          | none => rfl
          | some o => rw [F.keep _ _ e] at h1; cases h1
    · exact ⟨hk' _ _ (N q (hr q hq)).1 (hne q hq), (N q (hr q hq)).2⟩
  · rcases (hn' q' hq').2 with h1 | h1
    · exact hne q hq (e ▸ h1)
    · rw [← e, (N q (hr q hq)).1] at h1; cases h1
/-- one entry taken out of a ledger -/
inductive Pick1 (a : Addr) (o : Obj) : List (Addr × Obj) → List (Addr × Obj) → Prop where
  | here {l} : (∀ p ∈ l, p.1 ≠ a) → Pick1 a o ((a, o) :: l) l
  | next {p l r} : p.1 ≠ a → Pick1 a o l r → Pick1 a o (p :: l) (p :: r)
theorem Pick1.mem {a o l r} (h : Pick1 a o l r) : (a, o) ∈ l ∧ (∀ q ∈ r, q ∈ l) ∧ ∀ q ∈ r, q.1 ≠ a := by
  induction h with
  | here h => exact ⟨.head _, fun q hq => .tail _ hq, h⟩
  | next h _ ih =>
    refine ⟨.tail _ ih.1, fun q hq => ?_, fun q hq => ?_⟩
    · cases hq with
      | head => exact .head _
      | tail _ hq => exact .tail _ (ih.2.1 q hq)
    · cases hq with
      | head => exact h
      | tail _ hq => exact ih.2.2 q hq
/-- a call that turns one object -/
theorem specC_use1 {f src : Addr} {so : Obj} {pre : Heap → Prop} {vs : List Value} {cost : Nat} {Post : Value → List (Addr × Obj) → Prop} (C : SpecC w p loose mean mg mb f pre [(src, so)] vs cost Post)
    {dp un : Nat} {gd : Option (List Code)} {cn : Str} {cs : Scope} {a : Addr} {ccd : Value} {cl : List (Str × Addr)} {outer : List Env} {A₀ : Around} {base h₀ : Heap} {L : Addr} {m : Str → Option Value} {hh : Heap} {sg : Array GenState} {sd : Drawn} {st : Nat} {sos : OsState} {Q E : Value → Shared → Prop} {news : List (Addr × Obj)} {rest : List (Addr × Obj)}
    (B : Below A₀ base outer h₀) (F : Fr h₀ L hh m) (X : (hd.heap_39 w.params).In h₀) (N : News h₀ L hh news) (T : Top p loose mean mg mb h₀) (hk : cs.kind = .function)
    (hd : dp + cost < recursionLimit) (hu : un + 8 * cost < cLine) (hpk : Pick1 src so news rest)
    (hp : ∀ g, h₀.StaysIn g → (∀ q ∈ rest, g.get? q.1 = some q.2) → pre g)
    (ret : ∀ r news' h' tk', Fr h₀ L h' m → News h₀ L h' (news' ++ rest) → (∀ q ∈ rest, ∀ q' ∈ news', @Ne Nat q.1 q'.1) → Post r news' → Q r ⟨h', sg, sd, tk', sos⟩) :
    wpAny (model PySem.Challenge.rw_on0218_01.row.prog w) (ktrTop dp un gd cn cs L a ccd cl outer) (call (.ref f) vs) Q E ⟨hh, sg, sd, st, sos⟩ :=
  specC_use C rest B F X N T hk hd hu (by intro q hq; rw [List.mem_singleton.mp hq]; exact hpk.mem.1) hpk.mem.2.1 (by intro q hq; simpa using hpk.mem.2.2 q hq) hp ret
/-- a call that turns nothing -/
theorem specC_use0 {f : Addr} {pre : Heap → Prop} {vs : List Value} {cost : Nat} {Post : Value → List (Addr × Obj) → Prop} (C : SpecC w p loose mean mg mb f pre [] vs cost Post)
    {dp un : Nat} {gd : Option (List Code)} {cn : Str} {cs : Scope} {a : Addr} {ccd : Value} {cl : List (Str × Addr)} {outer : List Env} {A₀ : Around} {base h₀ : Heap} {L : Addr} {m : Str → Option Value} {hh : Heap} {sg : Array GenState} {sd : Drawn} {st : Nat} {sos : OsState} {Q E : Value → Shared → Prop} {news : List (Addr × Obj)}
    (B : Below A₀ base outer h₀) (F : Fr h₀ L hh m) (X : (hd.heap_39 w.params).In h₀) (N : News h₀ L hh news) (T : Top p loose mean mg mb h₀) (hk : cs.kind = .function)
    (hd : dp + cost < recursionLimit) (hu : un + 8 * cost < cLine)
    (hp : ∀ g, h₀.StaysIn g → (∀ q ∈ news, g.get? q.1 = some q.2) → pre g)
    (ret : ∀ r news' h' tk', Fr h₀ L h' m → News h₀ L h' (news' ++ news) → (∀ q ∈ news, ∀ q' ∈ news', @Ne Nat q.1 q'.1) → Post r news' → Q r ⟨h', sg, sd, tk', sos⟩) :
    wpAny (model PySem.Challenge.rw_on0218_01.row.prog w) (ktrTop dp un gd cn cs L a ccd cl outer) (call (.ref f) vs) Q E ⟨hh, sg, sd, st, sos⟩ :=
  specC_use C news B F X N T hk hd hu (fun _ hq => nomatch hq) (fun _ hq => hq) (fun _ _ hq => nomatch hq) hp ret
end
section
variable {h₀ : Heap} {L : Addr} {m : Str → Option Value} {hh : Heap} {sg : Array GenState} {sd : Drawn} {sos : OsState} {Q : Value → Shared → Prop} {news : List (Addr × Obj)}
/-- behind a call: what its contract tells, taken apart once -/
theorem ret_list {R : List Value → Prop} (k : ∀ (l : Addr) (vs : List Value) (n : Nat) (h' : Heap) (tk' : Nat), Fr h₀ L h' m → News h₀ L h' ((l, listOf (List.toArray vs) n) :: news) → (∀ q ∈ news, @Ne Nat q.1 l) → R vs → Q (.ref l) ⟨h', sg, sd, tk', sos⟩)
    (r : Value) (news' : List (Addr × Obj)) (h' : Heap) (tk' : Nat) (F : Fr h₀ L h' m) (N : News h₀ L h' (news' ++ news)) (D : ∀ q ∈ news, ∀ q' ∈ news', @Ne Nat q.1 q'.1) (P : ∃ l' vs n, r = .ref l' ∧ news' = [(l', listOf (List.toArray vs) n)] ∧ R vs) : Q r ⟨h', sg, sd, tk', sos⟩ := by
  obtain ⟨l, vs, n, rfl, rfl, hr⟩ := P
  exact k l vs n h' tk' F N (fun q hq => D q hq _ (List.Mem.head _)) hr
theorem ret_val {v : Value} (k : ∀ (h' : Heap) (tk' : Nat), Fr h₀ L h' m → News h₀ L h' news → Q v ⟨h', sg, sd, tk', sos⟩)
    (r : Value) (news' : List (Addr × Obj)) (h' : Heap) (tk' : Nat) (F : Fr h₀ L h' m) (N : News h₀ L h' (news' ++ news)) (D : ∀ q ∈ news, ∀ q' ∈ news', @Ne Nat q.1 q'.1) (P : r = v ∧ news' = []) : Q r ⟨h', sg, sd, tk', sos⟩ := by
  obtain ⟨rfl, rfl⟩ := P
  exact k h' tk' F N
theorem ret_take {src : Addr} {A B : Int → Prop} {C : Obj → Prop} (k : ∀ (i : Int) (t : Tok) (o : Obj) (h' : Heap) (tk' : Nat), Fr h₀ L h' m → News h₀ L h' ((src, o) :: news) → A i → B i → C o → Q (.int i t) ⟨h', sg, sd, tk', sos⟩)
    (r : Value) (news' : List (Addr × Obj)) (h' : Heap) (tk' : Nat) (F : Fr h₀ L h' m) (N : News h₀ L h' (news' ++ news)) (D : ∀ q ∈ news, ∀ q' ∈ news', @Ne Nat q.1 q'.1) (P : ∃ i t o, r = .int i t ∧ A i ∧ B i ∧ news' = [(src, o)] ∧ C o) : Q r ⟨h', sg, sd, tk', sos⟩ := by
  obtain ⟨i, t, o, rfl, h0, h1, rfl, h2⟩ := P
  exact k i t o h' tk' F N h0 h1 h2
theorem ret_obj {src : Addr} {v : Value} {C : Obj → Prop} (k : ∀ (o : Obj) (h' : Heap) (tk' : Nat), Fr h₀ L h' m → News h₀ L h' ((src, o) :: news) → C o → Q v ⟨h', sg, sd, tk', sos⟩)
    (r : Value) (news' : List (Addr × Obj)) (h' : Heap) (tk' : Nat) (F : Fr h₀ L h' m) (N : News h₀ L h' (news' ++ news)) (D : ∀ q ∈ news, ∀ q' ∈ news', @Ne Nat q.1 q'.1) (P : ∃ o, r = v ∧ news' = [(src, o)] ∧ C o) : Q r ⟨h', sg, sd, tk', sos⟩ := by
  obtain ⟨o, rfl, rfl, h2⟩ := P
  exact k o h' tk' F N h2
theorem ret_two {A B C D : Nat → Prop} {V : Nat → Tok → Value} {W1 W2 : Nat → Tok → Addr × Obj} (k : ∀ (i : Nat) (t : Tok) (h' : Heap) (tk' : Nat), Fr h₀ L h' m → News h₀ L h' (W1 i t :: W2 i t :: news) → A i → B i → C i → D i → Q (V i t) ⟨h', sg, sd, tk', sos⟩)
    (r : Value) (news' : List (Addr × Obj)) (h' : Heap) (tk' : Nat) (F : Fr h₀ L h' m) (N : News h₀ L h' (news' ++ news)) (_D : ∀ q ∈ news, ∀ q' ∈ news', @Ne Nat q.1 q'.1) (P : ∃ i t, A i ∧ B i ∧ C i ∧ D i ∧ r = V i t ∧ news' = [W1 i t, W2 i t]) : Q r ⟨h', sg, sd, tk', sos⟩ := by
  obtain ⟨i, t, h1, h2, h3, h4, rfl, rfl⟩ := P
  exact k i t h' tk' F N h1 h2 h3 h4
end
/-- a call that turns two objects -/
theorem specC_use2 {w : World} {p : Program} {loose : List Str} {mean : ExcName → Option Value} {mg mb : Str → Option Value} {f a1 a2 : Addr} {o1 o2 : Obj} {pre : Heap → Prop} {vs : List Value} {cost : Nat} {Post : Value → List (Addr × Obj) → Prop} (C : SpecC w p loose mean mg mb f pre [(a1, o1), (a2, o2)] vs cost Post)
    {dp un : Nat} {gd : Option (List Code)} {cn : Str} {cs : Scope} {a : Addr} {ccd : Value} {cl : List (Str × Addr)} {outer : List Env} {A₀ : Around} {base h₀ : Heap} {L : Addr} {m : Str → Option Value} {hh : Heap} {sg : Array GenState} {sd : Drawn} {st : Nat} {sos : OsState} {Q E : Value → Shared → Prop} {news r1 rest : List (Addr × Obj)}
    (B : Below A₀ base outer h₀) (F : Fr h₀ L hh m) (X : (hd.heap_39 w.params).In h₀) (N : News h₀ L hh news) (T : Top p loose mean mg mb h₀) (hk : cs.kind = .function)
    (hd : dp + cost < recursionLimit) (hu : un + 8 * cost < cLine) (hp1 : Pick1 a1 o1 news r1) (hp2 : Pick1 a2 o2 r1 rest)
    (hp : ∀ g, h₀.StaysIn g → (∀ q ∈ rest, g.get? q.1 = some q.2) → pre g)
    (ret : ∀ r news' h' tk', Fr h₀ L h' m → News h₀ L h' (news' ++ rest) → (∀ q ∈ rest, ∀ q' ∈ news', @Ne Nat q.1 q'.1) → Post r news' → Q r ⟨h', sg, sd, tk', sos⟩) :
    wpAny (model PySem.Challenge.rw_on0218_01.row.prog w) (ktrTop dp un gd cn cs L a ccd cl outer) (call (.ref f) vs) Q E ⟨hh, sg, sd, st, sos⟩ := by
  refine specC_use C rest B F X N T hk hd hu (fun q hq => ?_) (fun q hq => hp1.mem.2.1 q (hp2.mem.2.1 q hq)) (fun q hq hm => ?_) hp ret
  · rcases List.mem_cons.mp hq with rfl | hq
    · exact hp1.mem.1
    · rw [List.mem_singleton.mp hq]; exact hp1.mem.2.1 _ hp2.mem.1
  · rcases List.mem_cons.mp hm with e | hm
    · exact hp1.mem.2.2 q (hp2.mem.2.1 q hq) e
    · exact hp2.mem.2.2 q hq (List.mem_singleton.mp hm)
noncomputable abbrev srcObj (x y : Int) (tx ty : Tok) (n : Nat) : Obj := listOf #[.int x tx, .int y ty] n
noncomputable abbrev tupObj (items : Array Value) (n : Nat) : Obj := { cls := .type "tuple", data := .seq items n }
inductive All2 {α β : Type} (R : α → β → Prop) : List α → List β → Prop where
  | nil : All2 R [] []
  | cons {a b as bs} : R a b → All2 R as bs → All2 R (a :: as) (b :: bs)
noncomputable def PairH (g : Heap) (v : Value) (s : Int × Int) : Prop := ∃ a t u, v = .ref a ∧ IsTup g a #[.int s.1 t, .int s.2 u]
noncomputable def SpansH (g : Heap) (l : Addr) (ps : List (Int × Int)) : Prop := ∃ vs, g.IsList l vs.toArray ∧ All2 (PairH g) vs ps
noncomputable def PairN (news : List (Addr × Obj)) (v : Value) (s : Int × Int) : Prop := ∃ a t u n, v = .ref a ∧ (a, tupObj #[.int s.1 t, .int s.2 u] n) ∈ news
noncomputable def SpansN (news : List (Addr × Obj)) (l : Addr) (ps : List (Int × Int)) : Prop := ∃ vs n, (l, listOf vs.toArray n) ∈ news ∧ All2 (PairN news) vs ps
noncomputable def boolsV (bs : List Bool) : Array Value := (bs.map Value.bool).toArray
noncomputable def IntsN (news : List (Addr × Obj)) (l : Addr) (ns : List Int) : Prop := ∃ vs n, (l, listOf vs.toArray n) ∈ news ∧ IntsAre vs ns
noncomputable def BoolsN (news : List (Addr × Obj)) (l : Addr) (bs : List Bool) : Prop := ∃ n, (l, listOf (boolsV bs) n) ∈ news
theorem All2.length {α β : Type} {R : α → β → Prop} {as : List α} {bs : List β} (h : All2 R as bs) : as.length = bs.length := by
  induction h with
  | nil => rfl
  | cons _ _ ih => simp [ih]
theorem All2.mono {α β : Type} {R R' : α → β → Prop} (hr : ∀ a b, R a b → R' a b) {as : List α} {bs : List β} (h : All2 R as bs) : All2 R' as bs := by
  induction h with
  | nil => exact .nil
  | cons h _ ih => exact .cons (hr _ _ h) ih
theorem All2.append {α β : Type} {R : α → β → Prop} {as as' : List α} {bs bs' : List β} (h : All2 R as bs) (h' : All2 R as' bs') : All2 R (as ++ as') (bs ++ bs') := by
  induction h with
  | nil => exact h'
  | cons h _ ih => exact .cons h ih
theorem All2.get {α β : Type} {R : α → β → Prop} {as : List α} {bs : List β} (h : All2 R as bs) : ∀ (i : Nat) (a : α), as[i]? = some a → ∃ b, bs[i]? = some b ∧ R a b := by
  induction h with
  | nil => intro i a h; simp at h
  | cons h _ ih =>
    intro i a e
    cases i with
    | zero => simp at e; subst e; exact ⟨_, by simp, h⟩
    | succ i => simpa using ih i a (by simpa using e)
theorem All2.getR {α β : Type} {R : α → β → Prop} {as : List α} {bs : List β} (h : All2 R as bs) : ∀ (i : Nat) (b : β), bs[i]? = some b → ∃ a, as[i]? = some a ∧ R a b := by
  induction h with
  | nil => intro i a h; simp at h
  | cons h _ ih =>
    intro i a e
    cases i with
    | zero => simp at e; subst e; exact ⟨_, by simp, h⟩
    | succ i => simpa using ih i a (by simpa using e)
theorem PairH.keeps {g g' : Heap} (k : g.StaysIn g') {v : Value} {s : Int × Int} (h : PairH g v s) : PairH g' v s := let ⟨a, t, u, e, x⟩ := h; ⟨a, t, u, e, x.keeps k⟩
theorem SpansH.keeps {g g' : Heap} (k : g.StaysIn g') {l : Addr} {ps} (h : SpansH g l ps) : SpansH g' l ps := let ⟨vs, x, y⟩ := h; ⟨vs, x.at fun o e => k l o e, y.mono fun _ _ => PairH.keeps k⟩
theorem SpansN.heap {g : Heap} {news : List (Addr × Obj)} (k : ∀ q ∈ news, g.get? q.1 = some q.2) {l : Addr} {ps} (h : SpansN news l ps) : SpansH g l ps :=
  let ⟨vs, n, x, y⟩ := h; ⟨vs, ⟨_, k _ x, rfl, n, rfl⟩, y.mono fun _ _ ⟨a, t, u, n, e, z⟩ => ⟨a, t, u, e, ⟨_, k _ z, rfl, n, rfl⟩⟩⟩
theorem SpansN.mono {news news' : List (Addr × Obj)} (k : ∀ q ∈ news, q ∈ news') {l : Addr} {ps} (h : SpansN news l ps) : SpansN news' l ps :=
  let ⟨vs, n, x, y⟩ := h; ⟨vs, n, k _ x, y.mono fun _ _ ⟨a, t, u, n, e, z⟩ => ⟨a, t, u, n, e, k _ z⟩⟩
theorem BoolsN.heap {g : Heap} {news : List (Addr × Obj)} (k : ∀ q ∈ news, g.get? q.1 = some q.2) {l : Addr} {bs} (h : BoolsN news l bs) : g.IsList l (boolsV bs) := let ⟨n, x⟩ := h; ⟨_, k _ x, rfl, n, rfl⟩
theorem IntsN.heap {g : Heap} {news : List (Addr × Obj)} (k : ∀ q ∈ news, g.get? q.1 = some q.2) {l : Addr} {ns} (h : IntsN news l ns) : ∃ vs, g.IsList l vs.toArray ∧ IntsAre vs ns := let ⟨vs, n, x, y⟩ := h; ⟨vs, ⟨_, k _ x, rfl, n, rfl⟩, y⟩
theorem neg1 (n : Nat) : ((-1 : Int) + (n : Int)).toNat = n - 1 := by rw [Int.add_comm]; exact Int.toNat_sub n 1
/-- a fact kept out of the arithmetic -/
structure Nx (p : Prop) : Prop where
  out : p
theorem room1 {x a c R : Nat} (h : x + a < R) (e : 1 + c ≤ a) : x + 1 + c < R := Nat.lt_of_le_of_lt (by rw [Nat.add_assoc]; exact Nat.add_le_add_left e x) h
theorem room0 {x a c R : Nat} (h : x + a < R) (e : c ≤ a) : x + c < R := Nat.lt_of_le_of_lt (Nat.add_le_add_left e x) h
theorem roomN {x a R : Nat} (h : x + a < R) : x < R := Nat.lt_of_le_of_lt (Nat.le_add_right x a) h
theorem units1 {x a c R : Nat} (h : x + a < R) (e : 3 + c ≤ a) : x + 3 + c < R := Nat.lt_of_le_of_lt (by rw [Nat.add_assoc]; exact Nat.add_le_add_left e x) h
theorem neS {a b : Nat} (h : ¬ a = b) : a ≠ b := h
theorem neT {a b : Nat} (h : ¬ a = b) : b ≠ a := fun e => h e.symm
theorem ltS {a b : Nat} (h : @LT.lt Nat _ a b) : a ≠ b := Nat.ne_of_lt h
theorem ltT {a b : Nat} (h : @LT.lt Nat _ a b) : b ≠ a := Nat.ne_of_gt h
/-- two addresses apart: by their order, else by a fact that says so -/
theorem said_2 : True := by
  (k_with "m ne_look" => (with_reducible (first | (refine neS ?_; assumption) | (refine neT ?_; assumption) | (refine ltS ?_; assumption) | (refine ltT ?_; assumption) | (rename _ ∧ _ => zqz; first | ((have zqzz : @LT.lt Nat _ _ _ := zqz.1); clear zqzz; first | exact ltS zqz.1 | exact ltT zqz.1 | exact ltS zqz.2.1 | exact ltT zqz.2.1 | exact ltS zqz.2.2.1 | exact ltT zqz.2.2.1 | exact ltS zqz.2.2.2.1 | exact ltT zqz.2.2.2.1 | exact ltS zqz.2.2.2.2.1 | exact ltT zqz.2.2.2.2.1 | exact ltS zqz.2.2.2.2.2.1 | exact ltT zqz.2.2.2.2.2.1 | exact ltS zqz.2.2.2.2.2.2.1 | exact ltT zqz.2.2.2.2.2.2.1 | exact ltS zqz.2.2.2.2.2.2.2.1 | exact ltT zqz.2.2.2.2.2.2.2.1 | exact ltS zqz.2.2.2.2.2.2.2.2.1 | exact ltT zqz.2.2.2.2.2.2.2.2.1 | exact ltS zqz.2.2.2.2.2.2.2.2.2.1 | exact ltT zqz.2.2.2.2.2.2.2.2.2.1 | exact ltS zqz.2.2.2.2.2.2.2.2.2.2.1 | exact ltT zqz.2.2.2.2.2.2.2.2.2.2.1 | exact ltS zqz.2.2.2.2.2.2.2.2.2.2.2.1 | exact ltT zqz.2.2.2.2.2.2.2.2.2.2.2.1 | exact ltS zqz.2.2.2.2.2.2.2.2.2.2.2.2.1 | exact ltT zqz.2.2.2.2.2.2.2.2.2.2.2.2.1 | exact ltS zqz.2.2.2.2.2.2.2.2.2.2.2.2.2.1 | exact ltT zqz.2.2.2.2.2.2.2.2.2.2.2.2.2.1 | exact ltS zqz.2 | exact ltT zqz.2 | exact ltS zqz.2.2 | exact ltT zqz.2.2 | exact ltS zqz.2.2.2 | exact ltT zqz.2.2.2 | exact ltS zqz.2.2.2.2 | exact ltT zqz.2.2.2.2 | exact ltS zqz.2.2.2.2.2 | exact ltT zqz.2.2.2.2.2 | exact ltS zqz.2.2.2.2.2.2 | exact ltT zqz.2.2.2.2.2.2 | exact ltS zqz.2.2.2.2.2.2.2 | exact ltT zqz.2.2.2.2.2.2.2 | exact ltS zqz.2.2.2.2.2.2.2.2 | exact ltT zqz.2.2.2.2.2.2.2.2 | exact ltS zqz.2.2.2.2.2.2.2.2.2 | exact ltT zqz.2.2.2.2.2.2.2.2.2 | exact ltS zqz.2.2.2.2.2.2.2.2.2.2 | exact ltT zqz.2.2.2.2.2.2.2.2.2.2 | exact ltS zqz.2.2.2.2.2.2.2.2.2.2.2 | exact ltT zqz.2.2.2.2.2.2.2.2.2.2.2 | exact ltS zqz.2.2.2.2.2.2.2.2.2.2.2.2 | exact ltT zqz.2.2.2.2.2.2.2.2.2.2.2.2 | exact ltS zqz.2.2.2.2.2.2.2.2.2.2.2.2.2 | exact ltT zqz.2.2.2.2.2.2.2.2.2.2.2.2.2) | exact neS zqz.1 | exact neS zqz.1.1 | exact neS zqz.1.2 | exact neS zqz.1.2.1 | exact neS zqz.1.2.2 | exact neS zqz.2.1 | exact neS zqz.2.1.1 | exact neS zqz.2.1.2 | exact neS zqz.2.1.2.1 | exact neS zqz.2.1.2.2 | exact neS zqz.2.2.1 | exact neS zqz.2.2.1.1 | exact neS zqz.2.2.1.2 | exact neS zqz.2.2.1.2.1 | exact neS zqz.2.2.1.2.2 | exact neS zqz.2.2.2.1 | exact neS zqz.2.2.2.1.1 | exact neS zqz.2.2.2.1.2 | exact neS zqz.2.2.2.1.2.1 | exact neS zqz.2.2.2.1.2.2 | exact neS zqz.2.2.2.2.1 | exact neS zqz.2.2.2.2.1.1 | exact neS zqz.2.2.2.2.1.2 | exact neS zqz.2.2.2.2.1.2.1 | exact neS zqz.2.2.2.2.1.2.2 | exact neS zqz.2.2.2.2.2.1 | exact neS zqz.2.2.2.2.2.1.1 | exact neS zqz.2.2.2.2.2.1.2 | exact neS zqz.2.2.2.2.2.1.2.1 | exact neS zqz.2.2.2.2.2.1.2.2 | exact neS zqz.2.2.2.2.2.2.1 | exact neS zqz.2.2.2.2.2.2.1.1 | exact neS zqz.2.2.2.2.2.2.1.2 | exact neS zqz.2.2.2.2.2.2.1.2.1 | exact neS zqz.2.2.2.2.2.2.1.2.2 | exact neS zqz.2.2.2.2.2.2.2.1 | exact neS zqz.2.2.2.2.2.2.2.1.1 | exact neS zqz.2.2.2.2.2.2.2.1.2 | exact neS zqz.2.2.2.2.2.2.2.1.2.1 | exact neS zqz.2.2.2.2.2.2.2.1.2.2 | exact neS zqz.2.2.2.2.2.2.2.2.1 | exact neS zqz.2.2.2.2.2.2.2.2.1.1 | exact neS zqz.2.2.2.2.2.2.2.2.1.2 | exact neS zqz.2.2.2.2.2.2.2.2.1.2.1 | exact neS zqz.2.2.2.2.2.2.2.2.1.2.2 | exact neS zqz.2 | exact neS zqz.2.2 | exact neS zqz.2.2.2 | exact neS zqz.2.2.2.2 | exact neS zqz.2.2.2.2.2 | exact neS zqz.2.2.2.2.2.2 | exact neS zqz.2.2.2.2.2.2.2 | exact neS zqz.2.2.2.2.2.2.2.2 | exact neT zqz.1 | exact neT zqz.1.1 | exact neT zqz.1.2 | exact neT zqz.1.2.1 | exact neT zqz.1.2.2 | exact neT zqz.2.1 | exact neT zqz.2.1.1 | exact neT zqz.2.1.2 | exact neT zqz.2.1.2.1 | exact neT zqz.2.1.2.2 | exact neT zqz.2.2.1 | exact neT zqz.2.2.1.1 | exact neT zqz.2.2.1.2 | exact neT zqz.2.2.1.2.1 | exact neT zqz.2.2.1.2.2 | exact neT zqz.2.2.2.1 | exact neT zqz.2.2.2.1.1 | exact neT zqz.2.2.2.1.2 | exact neT zqz.2.2.2.1.2.1 | exact neT zqz.2.2.2.1.2.2 | exact neT zqz.2.2.2.2.1 | exact neT zqz.2.2.2.2.1.1 | exact neT zqz.2.2.2.2.1.2 | exact neT zqz.2.2.2.2.1.2.1 | exact neT zqz.2.2.2.2.1.2.2 | exact neT zqz.2.2.2.2.2.1 | exact neT zqz.2.2.2.2.2.1.1 | exact neT zqz.2.2.2.2.2.1.2 | exact neT zqz.2.2.2.2.2.1.2.1 | exact neT zqz.2.2.2.2.2.1.2.2 | exact neT zqz.2.2.2.2.2.2.1 | exact neT zqz.2.2.2.2.2.2.1.1 | exact neT zqz.2.2.2.2.2.2.1.2 | exact neT zqz.2.2.2.2.2.2.1.2.1 | exact neT zqz.2.2.2.2.2.2.1.2.2 | exact neT zqz.2.2.2.2.2.2.2.1 | exact neT zqz.2.2.2.2.2.2.2.1.1 | exact neT zqz.2.2.2.2.2.2.2.1.2 | exact neT zqz.2.2.2.2.2.2.2.1.2.1 | exact neT zqz.2.2.2.2.2.2.2.1.2.2 | exact neT zqz.2.2.2.2.2.2.2.2.1 | exact neT zqz.2.2.2.2.2.2.2.2.1.1 | exact neT zqz.2.2.2.2.2.2.2.2.1.2 | exact neT zqz.2.2.2.2.2.2.2.2.1.2.1 | exact neT zqz.2.2.2.2.2.2.2.2.1.2.2 | exact neT zqz.2 | exact neT zqz.2.2 | exact neT zqz.2.2.2 | exact neT zqz.2.2.2.2 | exact neT zqz.2.2.2.2.2 | exact neT zqz.2.2.2.2.2.2 | exact neT zqz.2.2.2.2.2.2.2 | exact neT zqz.2.2.2.2.2.2.2.2 | (clear zqz; walk_at "ne_look")))))
  (k_with "m om" => (first | ((repeat (with_reducible rename _ ∧ _ => zqzz; clear zqzz)); (repeat (with_reducible rename @Ne Nat _ _ => zqzz; clear zqzz)); omega) | omega))
  trivial
theorem abs_tok {α : Type} {M : Model} {A : Around} {t : Sem α} {Q : α → Shared → Prop} {E : Value → Shared → Prop} {h : Heap} {g : Array GenState} {d : Drawn} {k : Nat} {o : OsState} (H : ∀ k, wpAny M A t Q E ⟨h, g, d, k, o⟩) : wpAny M A t Q E ⟨h, g, d, k, o⟩ := H k
/-- the frame's names by one letter -/
theorem fold_fr {h₀ h : Heap} {L : Addr} {m : Str → Option Value} {C : Prop} (F : Fr h₀ L h m) (k : let mm := m; Fr h₀ L h mm → C) : C := k F
/-- the walk's own words -/
theorem said_3 : True := by
  (k_with "m spec_enter" => ((
  w_top off
  unfold SpecC
  k_fill
  intro zqdp zqun zqgd zqcn zqcs zqa zqccd zqcl zqouter zqA₀ zqbase zqh₀ zqL zqm zqs zqQ zqE zqB zqF zqX zqN zqT zqhk zqhpre zqhd zqhu zqhret
  obtain ⟨zqsh, zqsg, zqsd, zqst, zqso⟩ := zqs
  dsimp only at zqF zqN zqhpre zqhret
  refine wpAny_call ?_
  refine' callSK ?k1.u4 ?k2.u4 ?k3.u4 ?k4.u4 ?k5.u4 ?kA.u4 ?kF.u4 ?kK.u4 ?kpre.u4 ?kret.u4 ?k6.u4 ?k7.u4 ?k8.u4 ?k9.u4 ?kB.u4 ?_ ?c2.u4 ?c3.u4 ?c4.u4 ?c5.u4
  (case kA => exact rfl); (case kF => exact rfl); (case kK => assumption); (case k1 => k_asm); (case k2 => k_asm); (case k3 => k_asm); (case k4 => k_asm); (case k5 => k_asm)
  (case kpre => exact zqhpre)
  (case kret => exact zqhret)
  (case k6 => k_is); (case k7 => k_is); (case k8 => ktr_room); (case k9 => exact BindsTo.of_eq rfl); (case kB => exact locs rfl); (case c2 => decide); (case c3 => exact rfl); (case c4 => exact rfl); (case c5 => exact rfl)
  clear zqhpre zqhret
  k_whole
  intro zqg' zqL' zqh' zqF' zqN' zqB' zqX' zqT' zqpre'
  (refine fold_fr zqF' ?_; clear zqF'; intro zqmm zqF')
  (try dsimp only); (refine abs_tok ?_; intro zqtk'); (try k_lift zqB'); (try k_fold))))
  (k_with "m spec_enterC" => ((
  w_top off
  unfold SpecC
  k_fill
  intro zqdp zqun zqgd zqcn zqcs zqa zqccd zqcl zqouter zqA₀ zqbase zqh₀ zqL zqm zqs zqQ zqE zqB zqF zqX zqN zqT zqhk zqhpre zqhd zqhu zqhret
  obtain ⟨zqsh, zqsg, zqsd, zqst, zqso⟩ := zqs
  dsimp only at zqF zqN zqhpre zqhret
  refine wpAny_call ?_
  refine' callSC ?k1.u5 ?k2.u5 ?k3.u5 ?k4.u5 ?k5.u5 ?kA.u5 ?kF.u5 ?kK.u5 ?kpre.u5 ?kret.u5 ?k6.u5 ?k7.u5 ?k8.u5 ?k9.u5 ?kB.u5 ?kD.u5 ?_ ?c3.u5 ?c4.u5 ?c5.u5
  (case kA => exact rfl); (case kF => exact rfl); (case kK => assumption); (case k1 => k_asm); (case k2 => k_asm); (case k3 => k_asm); (case k4 => k_asm); (case k5 => k_asm)
  (case kpre => exact zqhpre)
  (case kret => exact zqhret)
  (case k6 => k_is); (case k7 => k_is); (case k8 => ktr_room); (case k9 => exact BindsTo.of_eq rfl); (case kB => exact rfl); (case kD => decide +kernel); (case c3 => exact rfl); (case c4 => exact rfl); (case c5 => exact rfl)
  clear zqhpre zqhret
  k_whole
  intro zqg' zqL' zqh' zqtk' zqcells' zqF' zqN' zqY' zqB' zqX' zqT' zqpre' zql1
  (try k_lt zql1); k_cells zqY'; (try simp only [List.cons_append, List.nil_append] at zqN'); (try dsimp only); (try k_lift zqB'); (try k_fold))))
  (k_with "m spec_end" => (((try dsimp only); (try k_unfold); (try dsimp only))))
  (k_with "m pick_1" => (first | (refine' Pick1.here ?ph.u7; (case ph => k_dflt k_all)) | (refine' Pick1.next ?pn.u7 ?pt.u7; (case pn => k_ne); (case pt => walk_at "pick_1"))))
  (k_with "m use_1" => ((
  (case k1 => k_asm); (case k2 => k_asm); (case k3 => k_asm); (case k4 => k_asm); (case k5 => k_asm); (case kK => first | exact rfl | assumption)
  (case kd => ktr_room); (case ku => ktr_units); (case kp => k_dflt (walk_at "pick_1")))))
  (k_with "m use_2" => ((
  (case k1 => k_asm); (case k2 => k_asm); (case k3 => k_asm); (case k4 => k_asm); (case k5 => k_asm); (case kK => first | exact rfl | assumption)
  (case kd => ktr_room); (case ku => ktr_units); (case kp1 => k_dflt (walk_at "pick_1")); (case kp2 => k_dflt (walk_at "pick_1")))))
  (k_with "m use_0" => ((
  (case k1 => k_asm); (case k2 => k_asm); (case k3 => k_asm); (case k4 => k_asm); (case k5 => k_asm); (case kK => first | exact rfl | assumption)
  (case kd => ktr_room); (case ku => ktr_units))))
  trivial
theorem mulOk_fmod (a b : Int) : IntMulOk (Int.fmod a 2147483647) b :=
  IntMulOk.of_left (PySem.intBits_le_64 (by have := fmod_lo a (n := 2147483647) (by decide); omega) (by have := fmod_hi a (n := 2147483647) (by decide); omega))
end
theorem word_4 : True := by
  (k_with "m ktr_room" => ((k_dflt (first | exact room1 (by assumption) (by decide) | exact room0 (by assumption) (by decide) | exact roomN (by assumption)))))
  trivial
local macro_rules | `(tactic| ktr_room) => `(tactic| k_extra "m ktr_room")
theorem word_5 : True := by
  (k_with "m ktr_units" => ((k_dflt (first | exact units1 (by assumption) (by decide) | exact room0 (by assumption) (by decide)))))
  trivial
local macro_rules | `(tactic| ktr_units) => `(tactic| k_extra "m ktr_units")
theorem word_6 : True := by
  (k_with "m k_ne" => ((refine neN ?_; (try dsimp only); first | walk_at "ne_look" | omega -splitDisjunctions | omega)))
  trivial
local macro_rules | `(tactic| k_ne) => `(tactic| k_extra "m k_ne")
section
section
variable {prog : Program} {w : World} {A : Around} {E : Value → Shared → Prop} {s : Shared} {env : Env} {h₀ : Heap} {x : Str} {body : List Stmt} {Q : Flow → Shared → Prop}
/-- what holds between turns: the names, the ledger, a word -/
noncomputable def JP {σ : Type} (Led : σ → List (Addr × Obj)) (ps : σ → List (Str × Value)) (P : Nat → σ → Prop) (i : Nat) (m : Str → Option Value) (nx : List (Addr × Obj)) : Prop :=
  ∃ c : σ, nx = Led c ∧ (∀ p ∈ ps c, m p.1 = some p.2) ∧ P i c
theorem kstB_self {m₁ : Str → Option Value} {ps : List (Str × Value)} (h : ∀ p ∈ ps, m₁ p.1 = some p.2) : kstB m₁ ps = m₁ := funext fun _ => kstB_eq h fun _ => rfl
theorem rangeJ {σ : Type} {r : Addr} {a₀ b₀ : Int} {t₀ u₀ v₀ : Tok} {n : Nat} {m₀ : Str → Option Value} {news : List (Addr × Obj)} (Led : σ → List (Addr × Obj)) (ps : σ → List (Str × Value)) (P : Nat → σ → Prop) (c₀ : σ)
    (hh : A.handled = none) (hr : IsRange s.heap r a₀ b₀ 1 t₀ u₀ v₀) (hsmall : Builtin.Range.small a₀ b₀ 1 = true) (hsz : Builtin.Range.rangeSize a₀ b₀ 1 = (n : Int)) (F : Fr h₀ env.locals s.heap m₀) (N : News h₀ env.locals s.heap news)
    (hn : ∀ p ∈ Led c₀, p ∈ news) (hk : ∀ p ∈ ps c₀, m₀ p.1 = some p.2) (hp : P 0 c₀)
    (turn : ∀ (c : σ) i t (u : Str → Option Value) h tk own, i < n → OwnOff own ((Led c).map (·.1)) → P i c →
      Fr h₀ env.locals h (fun y => if y = x then some (.int (a₀ + (i : Int)) t) else kstB u (ps c) y) → News h₀ env.locals h (Led c ++ own) →
      wpAny (model prog w) A (execs body env) (InvPostG h₀ env.locals (JP Led ps P (i + 1)) own { s with heap := h, toks := tk } Q) E { s with heap := h, toks := tk })
    (done : ∀ (c : σ) (u : Str → Option Value) h tk, P n c → Fr h₀ env.locals h (kstB u (ps c)) → News h₀ env.locals h (Led c) → Q .next { s with heap := h, toks := tk }) :
    wpAny (model prog w) A (pyIter (.ref r)) (fun it s₂ => LoopAtV prog w A h₀ env x body Q E it s₂) E s := by
  refine wpAny_pyIter_range hr hsmall ?_
  have W : Walks prog w A s.heap.objs.size [s.heap.objs.size] [s.heap.objs.size] n (fun i v => i < n ∧ ∃ t, v = .int (a₀ + i * 1) t)
      (fun i h => IsRangeIter h s.heap.objs.size (a₀ + (i : Nat) * 1) ((n : Int) - (i : Nat)) 1) := (Walks.range hh _ a₀ 1 n).bound
  refine kdr_loop (fun i m nx => JP Led ps P i m nx) W (fun _ h => h) (fun _ h => h) ?_ ?_ ?_ ?_ (by show IsRangeIter _ _ _ _ _; rw [hsz]; simpa using Heap.get?_push_size _ rfl) (F.push _) (fun p hp => ⟨Heap.get?_push_of_some _ (N p (hn p hp)).1, (N p (hn p hp)).2⟩) ⟨c₀, rfl, hk, hp⟩ ?_ ?_
  · intro i h hi b hb
    rw [List.mem_singleton.mp hb]
    exact ⟨_, hi⟩
  · intro hm
    exact absurd F.ns.lt ((List.mem_singleton.mp hm) ▸ Nat.lt_irrefl _)
  · intro b hb
    rw [List.mem_singleton.mp hb]
    exact next_is_new F
  · intro p hp hI
    exact absurd (Heap.lt_size (N p (hn p hp)).1) ((List.mem_singleton.mp hI) ▸ Nat.lt_irrefl _)
  · rintro i v m₁ nx h tk own hi ⟨_, t, rfl⟩ hoff ⟨c, rfl, hk', hp'⟩ F₁ N₁
    have e1 : a₀ + (i : Int) * 1 = a₀ + (i : Int) := by omega
    rw [e1] at F₁
    have F₂ : Fr h₀ env.locals h (fun y => if y = x then some (.int (a₀ + (i : Int)) t) else kstB m₁ (ps c) y) := by rw [kstB_self hk']; exact F₁
    exact turn c i t m₁ h tk own hi hoff hp' F₂ N₁
  · rintro m₁ nx h tk ⟨c, rfl, hk', hp'⟩ F₁ N₁
    exact done c m₁ h tk hp' (by rw [kstB_self hk']; exact F₁) N₁
theorem jp_end {σ : Type} {Led : σ → List (Addr × Obj)} {ps : σ → List (Str × Value)} {P : Nat → σ → Prop} {i : Nat} (c : σ) {L : Addr} {m' : Str → Option Value} {own news' : List (Addr × Obj)} {s₁ : Shared} {h' : Heap} {tk : Nat}
    (F : Fr h₀ L h' m') (N : News h₀ L h' news') (hn : ∀ p ∈ Led c, p ∈ news') (ho : ∀ p ∈ own, p ∈ news') (ha : OwnOff own ((Led c).map (·.1))) (hk : ∀ p ∈ ps c, m' p.1 = some p.2) (hp : P i c) :
    InvEndG h₀ L (JP Led ps P i) own s₁ { s₁ with heap := h', toks := tk } := InvEndG.intro F N ⟨c, rfl, hk, hp⟩ ha hn ho
/-- a loop over a list that the frame found, any target -/
theorem listT {σ : Type} {target : Expr} {l : Addr} {vs : List Value} {m₀ : Str → Option Value} {news : List (Addr × Obj)} (Led : σ → List (Addr × Obj)) (ps : σ → List (Str × Value)) (P : Nat → σ → Prop) (c₀ : σ)
    (hh : A.handled = none) (hl : h₀.IsList l vs.toArray) (F : Fr h₀ env.locals s.heap m₀) (N : News h₀ env.locals s.heap news)
    (hn : ∀ p ∈ Led c₀, p ∈ news) (hk : ∀ p ∈ ps c₀, m₀ p.1 = some p.2) (hp : P 0 c₀)
    (turn : ∀ (c : σ) i v (u : Str → Option Value) h tk own, vs[i]? = some v → OwnOff own ((Led c).map (·.1)) → P i c →
      Fr h₀ env.locals h (kstB u (ps c)) → News h₀ env.locals h (Led c ++ own) →
      wpAny (model prog w) A (assign target env v) (fun _ s₃ => wpAny (model prog w) A (execs body env) (InvPostG h₀ env.locals (JP Led ps P (i + 1)) own { s with heap := h, toks := tk } Q) E s₃) E { s with heap := h, toks := tk })
    (done : ∀ (c : σ) (u : Str → Option Value) h tk, P vs.length c → Fr h₀ env.locals h (kstB u (ps c)) → News h₀ env.locals h (Led c) → Q .next { s with heap := h, toks := tk }) :
    wpAny (model prog w) A (pyIter (.ref l)) (fun it s₂ => TurnsAt prog w A h₀ env target body Q E it s₂) E s := by
  have hls : s.heap.IsList l vs.toArray := hl.at fun o e => F.keep l o e
  obtain ⟨ol, hol, _⟩ := id hl
  have hlt : l < h₀.objs.size := Heap.lt_size hol
  have hne : l ≠ s.heap.objs.size := Nat.ne_of_lt (Nat.lt_trans (Nat.lt_of_lt_of_le hlt F.above) F.ns.lt)
  refine wpAny_pyIter_list hls ?_
  have W := Walks.list (prog := prog) (w := w) hh s.heap.objs.size l hne vs.toArray
  rw [show vs.toArray.size = vs.length by simp] at W
  have W' := KTurns.ofWalks (target := target) W fun i v s Q E st q => letGo_listiter st.1 q
  refine ⟨s.heap.objs.size, [s.heap.objs.size, l], [s.heap.objs.size], vs.length, _, _, _, m₀, Led c₀, fun i m nx => JP Led ps P i m nx, rfl, W', ?_, ?_, ?_,
    ⟨⟨_, Heap.get?_push_size _ rfl, rfl, rfl⟩, hls.at fun o e => Heap.get?_push_of_some _ e⟩, F.push _, fun p hp => ⟨Heap.get?_push_of_some _ (N p (hn p hp)).1, (N p (hn p hp)).2⟩, ⟨c₀, rfl, hk, hp⟩, ?_, ?_⟩
  · intro hm
    rcases List.mem_cons.mp hm with e | hm
    · exact absurd F.ns.lt (e ▸ Nat.lt_irrefl _)
    · exact absurd (Nat.lt_of_lt_of_le hlt F.above) ((List.mem_singleton.mp hm) ▸ Nat.lt_irrefl _)
  · intro b hb
    rw [List.mem_singleton.mp hb]
    exact next_is_new F
  · intro p hp hI
    exact absurd (Heap.lt_size (N p (hn p hp)).1) ((List.mem_singleton.mp hI) ▸ Nat.lt_irrefl _)
  · rintro i v m₁ news₁ h₁ tk₁ own hin hP ⟨c, rfl, hk', hp'⟩ hoff hown hget hfp hst F₁ N₁
    have hsep : OwnOff own ((Led c).map (·.1)) := by
      intro p hp b hb e
      obtain ⟨q, hq, rfl⟩ := List.mem_map.mp hb
      have h1 : p.1 = s.heap.objs.size := by
        rcases List.mem_cons.mp (hown p hp) with h1 | h1
        · exact h1
        · have h2 := List.mem_singleton.mp h1
          have h3 := (N₁ p (List.mem_append.mpr (.inl hp))).2.2
          rw [h2, hol] at h3; cases h3
      exact hoff q hq (List.mem_singleton.mpr (e ▸ h1))
    have N₂ : News h₀ env.locals h₁ (Led c ++ own) := fun p hp => N₁ p ((List.mem_append.mp hp).elim (fun h => List.mem_append.mpr (.inr h)) fun h => List.mem_append.mpr (.inl h))
    have F₂ : Fr h₀ env.locals h₁ (kstB m₁ (ps c)) := by rw [kstB_self hk']; exact F₁
    have hv : vs[i]? = some v := by simpa using hP
    refine wpAny_mono (turn c i v m₁ h₁ tk₁ own hv hsep hp' F₂ N₂) (fun _ s₂ h₂ => wpAny_mono h₂ (fun f s₃ p => ?_) fun _ _ e => e) fun _ _ e => e
    have fin : InvEndG h₀ env.locals (JP Led ps P (i + 1)) own { s with heap := h₁, toks := tk₁ } s₃ → LoopStepU h₀ env.locals [s.heap.objs.size] own (fun m nx => JP Led ps P (i + 1) m nx) { s with heap := h₁, toks := tk₁ } .next s₃ := by
      rintro ⟨h', tk, m', news', nx, e, F', N', hn', ho', ha, hm⟩
      refine ⟨rfl, h', tk, m', nx, e, F', fun p hp => N' p ((List.mem_append.mp hp).elim (ho' p) (hn' p)), fun p hp hq => ?_, hm⟩
      obtain ⟨⟨oI, hoI, _⟩, _⟩ := id hst
      have h1 := hfp _ (List.mem_cons_self ..) (next_is_new F) oI hoI
      exact ha _ h1 p.1 (List.mem_map.mpr ⟨p, hp, rfl⟩) (List.mem_singleton.mp hq).symm
    cases f with
    | ret v => exact .ret p
    | brk => exact .brk p
    | next => exact .next (fin p)
    | cont => exact .cont (fin p)
  · rintro h' tk m' news' F' N' _ ⟨c, rfl, hk', hp'⟩
    exact done c m' h' tk hp' (by rw [kstB_self hk']; exact F') N'
/-- a while -/
noncomputable def WhEnd {σ : Type} (h₀ : Heap) (L : Addr) (s : Shared) (Led : σ → List (Addr × Obj)) (ps : σ → List (Str × Value)) (P : σ → Prop) (μ : σ → Nat) (c : σ) (s₂ : Shared) : Prop :=
  ∃ (c' : σ) (h' : Heap) (tk : Nat) (m' : Str → Option Value) (news' : List (Addr × Obj)), s₂ = { s with heap := h', toks := tk } ∧ Fr h₀ L h' m' ∧ News h₀ L h' news' ∧ (∀ p ∈ Led c', p ∈ news') ∧ (∀ p ∈ ps c', m' p.1 = some p.2) ∧ P c' ∧ μ c' < μ c
noncomputable def WhPost {σ : Type} (h₀ : Heap) (L : Addr) (s : Shared) (Led : σ → List (Addr × Obj)) (ps : σ → List (Str × Value)) (P : σ → Prop) (μ : σ → Nat) (Q : Flow → Shared → Prop) (c : σ) (f : Flow) (s₂ : Shared) : Prop :=
  match f with
  | .ret v => Q (.ret v) s₂
  | .brk => Q .next s₂
  | _ => WhEnd h₀ L s Led ps P μ c s₂
theorem wh_end {σ : Type} {L : Addr} {s : Shared} {Led : σ → List (Addr × Obj)} {ps : σ → List (Str × Value)} {m' : Str → Option Value} {P : σ → Prop} {μ : σ → Nat} {c : σ} {h' : Heap} {tk : Nat} {news' : List (Addr × Obj)} (c' : σ)
    (F : Fr h₀ L h' m') (N : News h₀ L h' news') (hn : ∀ p ∈ Led c', p ∈ news') (hk : ∀ p ∈ ps c', m' p.1 = some p.2) (hp : P c') (hm : μ c' < μ c) :
    WhEnd h₀ L s Led ps P μ c { s with heap := h', toks := tk } := ⟨c', h', tk, m', news', rfl, F, N, hn, hk, hp, hm⟩
theorem whileJ {σ : Type} {L : Addr} {test : Expr} {pos : Pos} {m₀ : Str → Option Value} {news : List (Addr × Obj)} (Led : σ → List (Addr × Obj)) (ps : σ → List (Str × Value)) (P : σ → Prop) (μ : σ → Nat) (c₀ : σ)
    (F : Fr h₀ L s.heap m₀) (N : News h₀ L s.heap news) (hn : ∀ p ∈ Led c₀, p ∈ news) (hk : ∀ p ∈ ps c₀, m₀ p.1 = some p.2) (hp : P c₀)
    (turn : ∀ (c : σ) (u : Str → Option Value) h tk, P c → Fr h₀ L h (kstB u (ps c)) → News h₀ L h (Led c) →
      let W := WhPost h₀ L s Led ps P μ Q c
      let R := Q
      let E' := E
      wpAny (model prog w) A (isTrue test env (eval test env)) (fun b s₂ =>
        if b = true then wpAny (model prog w) A (execs body env) W E' s₂ else R .next s₂) E' { s with heap := h, toks := tk })
    (hE : PassesOwn (model prog w) A env E) :
    wpAny (model prog w) A (exec (.While test body [] pos) env) Q E s := by
  refine While_inv2 (fun n m nx => ∃ c : σ, nx = Led c ∧ μ c = n ∧ (∀ p ∈ ps c, m p.1 = some p.2) ∧ P c) F (fun p hp => N p (hn p hp)) ⟨c₀, rfl, rfl, hk, hp⟩ ?_ hE
  rintro n m₁ nx h tk F₁ N₁ ⟨c, hnx, hsz, h1, hp'⟩
  rw [hnx] at N₁
  rw [← hsz]
  have F₂ : Fr h₀ L h (kstB m₁ (ps c)) := by rw [kstB_self h1]; exact F₁
  refine wpAny_mono (turn c m₁ h tk hp' F₂ N₁) (fun b s₂ p => ?_) fun _ _ x => x
  cases b with
  | false => simpa using p
  | true =>
    simp only [if_true] at p ⊢
    refine wpAny_mono p (fun f s₃ q => ?_) fun _ _ x => x
    cases f with
    | ret v => exact q
    | brk => exact q
    | next =>
      obtain ⟨c', h', tk', m', news', rfl, F', N', hn, hk9, hp9, hm9⟩ := q
      exact ⟨h', tk', m', Led c', μ c', rfl, F', fun p hp => N' p (hn p hp), hm9, c', rfl, rfl, hk9, hp9⟩
    | cont =>
      obtain ⟨c', h', tk', m', news', rfl, F', N', hn, hk9, hp9, hm9⟩ := q
      exact ⟨h', tk', m', Led c', μ c', rfl, F', fun p hp => N' p (hn p hp), hm9, c', rfl, rfl, hk9, hp9⟩
end
section
variable {prog : Program} {w : World} {A : Around} {E : Value → Shared → Prop} {s : Shared} {h₀ : Heap} {L : Addr} {m : Str → Option Value} {news : List (Addr × Obj)}
theorem addB {l b : Addr} {as bs : List Bool} {Q : Value → Shared → Prop} (F : Fr h₀ L s.heap m) (N : News h₀ L s.heap news) (hl : s.heap.IsList l (boolsV as)) (hb : s.heap.IsList b (boolsV bs)) (hz : as.length + bs.length < 1000)
    (h : ∀ x h', Fr h₀ L h' m → News h₀ L h' ((x, listOf (boolsV (as ++ bs)) 0) :: news) → (∀ p ∈ news, p.1 < x) → Q (.ref x) { s with heap := h' }) : wpAny (model prog w) A (binaryOp .Add (.ref l) (.ref b)) Q E s := by
  refine add_arrays F N hl hb (fun h' F' N' => h _ h' F' ?_ fun p hp => Heap.lt_size (N p hp).1) (by simp only [boolsV, List.size_toArray, List.length_map]; rw [PySem.sizeLine_eq]; omega)
  have e : (((boolsV as).toList ++ (boolsV bs).toList).toArray : Array Value) = boolsV (as ++ bs) := by simp [boolsV]
  rw [e] at N'
  exact N'
theorem fold_rep (b : Bool) : ∀ (n : Nat) (acc : List Bool), List.foldl (fun x1 x2 : Array Value => x1 ++ x2) (boolsV acc) (List.replicate n #[Value.bool b]) = boolsV (acc ++ List.replicate n b)
  | 0, acc => by simp
  | n + 1, acc => by
    rw [List.replicate_succ, List.foldl_cons]
    have e : (boolsV acc ++ #[Value.bool b] : Array Value) = boolsV (acc ++ [b]) := by simp [boolsV]
    rw [e, fold_rep b n (acc ++ [b]), List.append_assoc, List.replicate_succ]; rfl
theorem mulB {l : Addr} {b : Bool} {k : Nat} {x : Int} {u : Tok} {Q : Value → Shared → Prop} (F : Fr h₀ L s.heap m) (N : News h₀ L s.heap news) (hl : (l, listOf #[Value.bool b] k) ∈ news) (h0 : 0 ≤ x) (h1 : x ≤ 100)
    (h : ∀ y h', Fr h₀ L h' m → News h₀ L h' ((y, listOf (boolsV (List.replicate x.toNat b)) 0) :: news) → (∀ p ∈ news, p.1 < y) → Q (.ref y) { s with heap := h' }) : wpAny (model prog w) A (binaryOp .Mult (.ref l) (.int x u)) Q E s := by
  refine mul_list F N (N _ hl).1 (by omega) (by omega) (by show 1 * x.toNat ≤ 2 ^ 24; omega) fun h' F' N' => h _ h' F' ?_ fun p hp => Heap.lt_size (N p hp).1
  have e := fold_rep b x.toNat []
  simp only [List.nil_append] at e
  have e' : (if (#[Value.bool b] : Array Value).isEmpty = true then 0 else x.toNat) = x.toNat := rfl
  rw [e'] at N'
  have e2 : (boolsV [] : Array Value) = #[] := rfl
  rw [e2] at e
  rw [e] at N'
  exact N'
theorem max_min {y : Int} {n : Nat} (h : 0 ≤ y) : max 0 (min y (n : Int)) = ((min y.toNat n : Nat) : Int) := by
  obtain ⟨k, rfl⟩ := Int.eq_ofNat_of_zero_le h
  rw [Int.toNat_natCast]
  by_cases q : k ≤ n
  · rw [Nat.min_eq_left q, Int.min_eq_left (Int.ofNat_le.mpr q), Int.max_eq_right (Int.natCast_nonneg _)]
  · have q := Nat.le_of_not_le q
    rw [Nat.min_eq_right q, Int.min_eq_right (Int.ofNat_le.mpr q), Int.max_eq_right (Int.natCast_nonneg _)]
theorem sliceB {value slice : Expr} {l : Addr} {bs : List Bool} {y : Int} {ty : Tok} {Q : Value → Shared → Prop} (F : Fr h₀ L s.heap m) (N : News h₀ L s.heap news) (hl : s.heap.IsList l (boolsV bs)) (h0 : 0 ≤ y) (hz : bs.length < 1000)
    (h : ∀ D h', Fr h₀ L h' m → News h₀ L h' ((D, listOf (boolsV (bs.take y.toNat)) 0) :: news) → (∀ p ∈ news, p.1 < D) → Q (.ref D) { s with heap := h' })
    (hs : subscripted slice false (.ref l) (.ref s.heap.objs.size) = operate [.ref s.heap.objs.size, .ref l] (getItem (.ref l) (.ref s.heap.objs.size))) (ht : ∀ r, letTemporaryGo value (.ref l) r = pure ()) :
    wpAny (model prog w) A (subscriptTail value slice (.ref l) (.ref s.heap.objs.size)) Q E { s with heap := s.heap.push { cls := .type "slice", data := .fields #[.none, .int y ty, .none] } } := by
  refine kmk_slice F N hl .none (.int _ _) (fun D h' F' N' l1 => h D h' F' ?_ l1) hs ht (by simp only [boolsV, List.size_toArray, List.length_map]; rw [PySem.sizeLine_eq]; omega)
  have e : slicePick (boolsV bs) none (some y) none = boolsV (bs.take y.toNat) := by
    have e : sliceBounds none (some y) none (boolsV bs).size = (((0 : Nat) : Int), ((min y.toNat (boolsV bs).size : Nat) : Int), 1) := by
      simp only [sliceBounds, Option.getD_none, show (1 : Int) > 0 by decide, if_true, if_neg (show ¬ (y < 0) by omega)]
      congr 1
      congr 1
      exact max_min h0
    rw [kmk_pick_nat _ e]
    have e2 : (boolsV bs).size = (boolsV bs).toList.length := by simp
    rw [List.drop_zero, Nat.sub_zero, e2, kmk_take_min]
    simp [boolsV, List.map_take]
  rw [e] at N'
  exact N'
end
section
variable {prog : Program} {w : World} {A : Around} {E : Value → Shared → Prop} {s : Shared}
theorem item_bools {value slice : Expr} {l : Addr} {bs : List Bool} {k : Int} {u : Tok} {Q : Value → Shared → Prop} (hl : s.heap.IsList l (boolsV bs)) (h0 : 0 ≤ k) (hk : k < (bs.length : Int)) (hb : bs.length < 1000) (h : Q (.bool (bs.getD k.toNat false)) s)
    (hs : subscripted slice false (.ref l) (.int k u) = operate [.ref l, .int k u] (getItem (.ref l) (.int k u))) :
    wpAny (model prog w) A (subscriptTail value slice (.ref l) (.int k u)) Q E s := by
  refine tail_any hl.typeIs slot_list_getitem.lookup (wpAny_getItem_list hl h0 (by omega) ?_ h) hs
  have h1 : k.toNat < bs.length := by omega
  simp [boolsV, List.getElem?_map, List.getElem?_eq_getElem h1, List.getD_eq_getElem?_getD]
end
section
variable {prog : Program} {w : World} {A : Around} {E : Value → Shared → Prop} {s : Shared} {h₀ : Heap} {L D : Addr} {m : Str → Option Value} {news news' : List (Addr × Obj)}
theorem append_L {vs : List Value} {n : Nat} {x : Value} {Q : Value → Shared → Prop} (F : Fr h₀ L s.heap m) (N : News h₀ L s.heap news) (U : Upd D (listOf vs.toArray n) (listOf (vs ++ [x]).toArray (n + 1)) news news') (hz : vs.length ≤ 1000)
    (h : ∀ h', Fr h₀ L h' m → News h₀ L h' news' → Q .none { s with heap := h' }) : wpAny (model prog w) A (call (.builtin "list.append") [.ref D, x]) Q E s := by
  have e : (vs ++ [x]).toArray = vs.toArray.push x := by simp
  rw [e] at U
  exact append_K F N U h (by rw [List.size_toArray, PySem.sizeLine_eq]; omega)
end
theorem said_7 : True := by
  (k_with "m append_L" => ((k_here; (with_reducible show wpAny _ _ (call (Value.builtin _) [Value.ref _, _]) _ _ _); k_dflt (refine' append_L ?k1.u14 ?k2.u14 ?k3.u14 ?k4.u14 ?_; (case k1 => k_asm); (case k2 => k_asm); (case k3 => k_upd); (case k4 => first | omega | (simp only [List.length_append, List.length_cons, List.length_nil]; omega)); k_whole); intro zqh' zqF' zqN'; (try k_sweep))))
  trivial
section
variable {prog : Program} {w : World} {A : Around} {E : Value → Shared → Prop} {s : Shared}
theorem len_list {l : Addr} {vs : List Value} {Q : Value → Shared → Prop} (hl : s.heap.IsList l vs.toArray) (hb : vs.length < 1000)
    (h : Q (.int (vs.length : Nat) (s.toks + 1)) { s with toks := s.toks + 1 + 1 }) : wpAny (model prog w) A (call (.builtin "len") [.ref l]) Q E s := by
  refine Calls.call_len_list hl (by rw [List.size_toArray]; omega) ?_
  rw [List.size_toArray]; exact h
theorem item_span {g : Heap} {value slice : Expr} {l : Addr} {vs : List Value} {ps : List (Int × Int)} {k : Int} {u : Tok} {Q : Value → Shared → Prop} (hl : s.heap.IsList l vs.toArray) (hall : All2 (PairH g) vs ps) (h0 : 0 ≤ k) (hk : k < (ps.length : Int)) (hb : ps.length < 1000)
    (h : ∀ ad t1 t2, IsTup g ad #[.int (ps.getD k.toNat (0, 0)).1 t1, .int (ps.getD k.toNat (0, 0)).2 t2] → Q (.ref ad) s)
    (hs : subscripted slice false (.ref l) (.int k u) = operate [.ref l, .int k u] (getItem (.ref l) (.int k u))) :
    wpAny (model prog w) A (subscriptTail value slice (.ref l) (.int k u)) Q E s := by
  have h1 : k.toNat < ps.length := by omega
  obtain ⟨v, hv, ad, t1, t2, rfl, ht⟩ := hall.getR k.toNat (ps[k.toNat]'h1) (List.getElem?_eq_getElem h1)
  refine tail_any hl.typeIs slot_list_getitem.lookup (wpAny_getItem_list hl h0 (by omega) (by simpa using hv) (h ad t1 t2 ?_)) hs
  simpa [List.getD_eq_getElem?_getD, List.getElem?_eq_getElem h1] using ht
end
theorem fold_filter {α : Type} (p : α → Bool) (f : List α → α → List α) (hf : ∀ l k, f l k = if p k = true then l ++ [k] else l) : ∀ (ks acc : List α), List.foldl f acc ks = acc ++ ks.filter p
  | [], acc => by simp
  | k :: ks, acc => by
    rw [List.foldl_cons, hf, fold_filter p f hf ks]
    by_cases h : p k = true
    · rw [if_pos h, List.filter_cons, if_pos h, List.append_assoc]; rfl
    · rw [if_neg h, List.filter_cons, if_neg h]
theorem allLt_mem {d : Addr} {l : List (Addr × Obj)} (h : AllLt d l) : ∀ p ∈ l, p.1 ≠ d := by
  induction l with
  | nil => exact fun _ hp => nomatch hp
  | cons q l ih =>
    intro p hp
    cases hp with
    | head => exact Nat.ne_of_lt h.1
    | tail _ hp => exact ih h.2 p hp
theorem ownOff_nil {own : List (Addr × Obj)} : OwnOff own [] := fun _ _ _ h => nomatch h
theorem ownOff_cons {own : List (Addr × Obj)} {b : Addr} {adr : List Addr} (h : ∀ p ∈ own, p.1 ≠ b) (k : OwnOff own adr) : OwnOff own (b :: adr) := fun p hp c hc => by
  cases hc with
  | head => exact h p hp
  | tail _ hc => exact k p hp c hc
theorem sub_cons {news : List (Addr × Obj)} {q : Addr × Obj} {r : List (Addr × Obj)} (h : q ∈ news) (k : ∀ p ∈ r, p ∈ news) : ∀ p ∈ q :: r, p ∈ news := fun p hp => by
  cases hp with
  | head => exact h
  | tail _ hp => exact k p hp
theorem sub_nil {news : List (Addr × Obj)} : ∀ p ∈ ([] : List (Addr × Obj)), p ∈ news := fun _ h => nomatch h
theorem said_8 : True := by
  (k_with "m all_lt" => (first
  | exact allLt_mem (by assumption)
  | exact allLt_mem (And.right (by assumption))
  | exact allLt_mem (And.right (And.right (by assumption)))
  | exact allLt_mem (And.right (And.right (And.right (by assumption))))
  | exact allLt_mem (And.right (And.right (And.right (And.right (by assumption)))))
  | exact allLt_mem (And.right (And.right (And.right (And.right (And.right (by assumption))))))
  | exact allLt_mem (And.right (And.right (And.right (And.right (And.right (And.right (by assumption)))))))
  | exact allLt_mem (And.right (And.right (And.right (And.right (And.right (And.right (And.right (by assumption))))))))
  | exact allLt_mem (And.right (And.right (And.right (And.right (And.right (And.right (And.right (And.right (by assumption)))))))))))
  (k_with "m own_off1" => (first | exact ownOff_nil | assumption | (refine ownOff_cons ?_ ?_; (first | exact OwnOff.ne (by assumption) (by k_memK) | walk_at "all_lt" | fail "own_off: an address"); walk_at "own_off1")))
  (k_with "m own_off" => (((try dsimp only [List.map_cons, List.map_nil]); walk_at "own_off1")))
  (k_with "m led_in1" => (first | exact sub_nil | (refine sub_cons ?_ ?_; k_mem; walk_at "led_in1")))
  (k_with "m led_in" => (((try dsimp only); walk_at "led_in1")))
  (k_with "m own_in1" => (first | assumption | (refine List.Mem.tail _ ?_; walk_at "own_in1")))
  (k_with "m own_in" => ((intro zqp zqhp; walk_at "own_in1")))
  (k_with "m jp_end" => ((
  (case hk => kst_all); (case hn => walk_at "led_in"); (case ho => walk_at "own_in"); (case ha => walk_at "own_off"))))
  trivial
theorem nameR {h₀ h : Heap} {L : Addr} {m : Str → Option Value} (_F : Fr h₀ L h m) (x : Str) {a : Addr} (_h : m x = some (.ref a)) : ∃ b, b = a := ⟨a, rfl⟩
theorem nameI {h₀ h : Heap} {L : Addr} {m : Str → Option Value} (_F : Fr h₀ L h m) (x : Str) {i : Int} {t : Tok} (_h : m x = some (.int i t)) : ∃ b u, b = i ∧ u = t := ⟨i, t, rfl, rfl⟩
theorem nameL {h₀ h : Heap} {L : Addr} {news : List (Addr × Obj)} (_N : News h₀ L h news) (a : Addr) {vs : List Value} {n : Nat} (_h : (a, listOf vs.toArray n) ∈ news) : ∃ b k, b = vs ∧ k = n := ⟨vs, n, rfl, rfl⟩
theorem nameO {h₀ h : Heap} {L : Addr} {news : List (Addr × Obj)} (_N : News h₀ L h news) (a : Addr) {o : Obj} (_h : (a, o) ∈ news) : ∃ b, b = o := ⟨o, rfl⟩
/-- the walk stands still here -/
noncomputable def Stand (P : Prop) : Prop := P
theorem stand {P : Prop} (h : Stand P) : P := h
section
variable {prog : Program} {w : World} {A : Around} {E : Value → Shared → Prop} {s : Shared}
theorem isList_of {g : Heap} {rest : List (Addr × Obj)} {l : Addr} {arr : Array Value} {n : Nat} (hq : ∀ q ∈ rest, g.get? q.1 = some q.2) (h : (l, listOf arr n) ∈ rest) : g.IsList l arr := ⟨_, hq _ h, rfl, n, rfl⟩
theorem boolsV_size (bs : List Bool) : (boolsV bs).size = bs.length := by simp [boolsV]
theorem isList_at {g h : Heap} {l : Addr} {arr : Array Value} {L : Addr} {m : Str → Option Value} (F : Fr g L h m) (x : g.IsList l arr) : h.IsList l arr := x.at fun o e => F.keep l o e
theorem isList_keeps {g h : Heap} {l : Addr} {arr : Array Value} (k : g.StaysIn h) (x : g.IsList l arr) : h.IsList l arr := x.at fun o e => k l o e
theorem said_9 : True := by
  (k_with "m is_list" => (first | is_list | exact isList_at (by k_asm) (by assumption)))
  trivial
theorem len_bools {l : Addr} {bs : List Bool} {Q : Value → Shared → Prop} (hl : s.heap.IsList l (boolsV bs)) (hb : bs.length < 1000)
    (h : Q (.int (bs.length : Nat) (s.toks + 1)) { s with toks := s.toks + 1 + 1 }) : wpAny (model prog w) A (call (.builtin "len") [.ref l]) Q E s := by
  refine Calls.call_len_list hl (by rw [boolsV_size]; omega) ?_
  rw [boolsV_size]; exact h
end
end
section
open PySem PySem.W PySem.Spec PySem.Calls PyProof.Rows PyProof.Rows.LCg
section
variable {prog : Program} {w : World} {A : Around} {E : Value → Shared → Prop} {s : Shared} {h₀ : Heap} {L : Addr} {m : Str → Option Value} {env : Env}
/-- a list display's block over a range of any step -/
noncomputable def StepSrc (prog : Program) (w : World) (A : Around) (h₀ : Heap) (L : Addr) (m : Str → Option Value) (env : Env) (elt : Expr) (x : Str) (scope : Scope) (cl : List (Str × Addr)) (Q : Value → Shared → Prop) (c : Int) (xv : Value) (s₁ : Shared) : Prop :=
  ∃ (r : Addr) (a b : Int) (t u v : Tok) (n : Nat) (news : List (Addr × Obj)), xv = .ref r ∧ A.handled = none ∧ Fr h₀ L s₁.heap m ∧ News h₀ L s₁.heap news ∧ IsRange s₁.heap r a b c t u v ∧ Builtin.Range.small a b c = true ∧ Builtin.Range.rangeSize a b c = ((n : Nat) : Int) ∧ n ≤ sizeLine ∧
    ∀ g, CompRest prog w A h₀ L m env elt x scope cl { s₁ with heap := g } (fun _ => True) (fun i v => ∃ t, v = .int (a + (i : Int) * c) t) (FinE h₀ L m { s₁ with heap := g } Q) n 0 [] news
theorem compStep {elt iter : Expr} {x : Str} {px : Pos} {scope : Scope} {cl : List (Str × Addr)} {pos : Pos} {Q : Value → Shared → Prop} (c : Int) (_F₀ : Fr h₀ L s.heap m)
    (hclos : closureFor scope env = pure cl) (hcell : ∀ y ∈ scope.names, y.2 ≠ .cell) (hkind : scope.kind = .function)
    (hnames : ∀ y ∈ scope.names, y.2 = .local → scope.names.lookup y.1 = some .local) (hx : scope.names.lookup x = some .local)
    (h : wpAny (model prog w) A (eval iter env) (StepSrc prog w A h₀ L m env elt x scope cl Q c) E s)
    (hs : ∀ x, foldedSetIterable iter env x = pure x) :
    wpAny (model prog w) A (eval (.ListComp elt [⟨.Name x px, iter, [], 0⟩] scope pos) env) Q E s := by
  rw [eval_ListComp]
  refine wpAny_comprehension_free (use := none) rfl hs hclos hkind hnames (wpAny_mono h (fun xv s₁ h₁ => ?_) fun _ _ e => e)
  obtain ⟨r, a, b, t, u, v, n, news, rfl, hh, F, N, hr, hsm, hn, hsz, R⟩ := h₁
  have up : ∀ (o : Obj) b q, s₁.heap.get? b = some q → (s₁.heap.push o).get? b = some q := fun o b q e => Heap.get?_push_of_some _ e
  have keepIt : ∀ i (h h' : Heap) (o : Obj) (nw : List (Addr × Obj)), IsRangeIter h s₁.heap.objs.size (a + (i : Nat) * c) ((n : Int) - (i : Nat)) c → h.get? s₁.heap.objs.size = some o → h'.get? s₁.heap.objs.size = some o → (∀ b o, h₀.get? b = some o → h'.get? b = some o) → News h₀ L h' nw → True → IsRangeIter h' s₁.heap.objs.size (a + (i : Nat) * c) ((n : Int) - (i : Nat)) c := by
    intro i h h' o nw st e e' _ _ _
    have st' : h.get? s₁.heap.objs.size = some _ := st
    show h'.get? s₁.heap.objs.size = some _
    rw [e', ← e]; exact st'
  refine wpAny_pyIter_range hr hsm ?_
  refine block_U (Walks.range hh s₁.heap.objs.size a c n) hsz (fun _ _ st => ⟨_, st⟩) keepIt hcell hkind hx ?_ ?_ (F.keeps (up _)) (N.grown (up _)) (Nat.ne_of_lt F.ns.lt) (next_is_new F) (fun p hp => Nat.ne_of_lt (Heap.lt_size (N p hp).1)) trivial (R _) ?_
  · show IsRangeIter _ _ _ _ _
    rw [hn]
    simpa using Heap.get?_push_size s₁.heap rfl
  · intro b hb
    rw [List.mem_singleton.mp hb, Heap.size_push]
    exact Nat.lt_succ_self _
  · intro D C h tk m' ys news' F' N' o1 hns hC₀ hD₀ hCL hDL hCD offC fin
    refine ⟨m', hns, fun h2 hs2 => fin D h2 tk (F'.change hs2 hCL hC₀) (fun p hp => ⟨hs2.extBut _ _ ?_ (N' p hp).1, (N' p hp).2⟩) o1⟩
    cases hp with
    | head => exact Ne.symm hCD
    | tail _ hp => exact offC p hp
theorem compRest_ind {elt : Expr} {x : Str} {scope : Scope} {cl : List (Str × Addr)} {S : List (Addr × Obj) → Prop} {P : Nat → Value → Prop} {Fin : List Value → List (Addr × Obj) → Prop} {n : Nat} {ys₀ : List Value} {news₀ : List (Addr × Obj)} (J : Nat → List Value → List (Addr × Obj) → Prop)
    (h0 : J 0 ys₀ news₀)
    (turn : ∀ i ys news, i < n → J i ys news → ∀ v I oI C oC D m₂ h tk (E' : Value → Shared → Prop), P i v → NsObj oC m₂ → m₂ x = some v → Fr h₀ L h m → News h₀ L h ((I, oI) :: (C, oC) :: (D, lst ys) :: news) → Off3 I C D news → ((@Ne Nat I C) ∧ (@Ne Nat I D) ∧ (@Ne Nat C D)) →
      wpAny (model prog w) A (eval elt (compEnvC scope cl C env)) (CompEnd h₀ L m { s with heap := h, toks := tk } I oI C oC D (lst ys) S (fun y news' => J (i + 1) (ys ++ [y]) news')) E' { s with heap := h, toks := tk })
    (fin : ∀ ys news, J n ys news → Fin ys news) : CompRest prog w A h₀ L m env elt x scope cl s S P Fin n 0 ys₀ news₀ := by
  have key : ∀ k i ys news, i + k = n → J i ys news → CompRest prog w A h₀ L m env elt x scope cl s S P Fin k i ys news := by
    intro k
    induction k with
    | zero =>
      intro i ys news hi hj
      rw [Nat.add_zero] at hi
      subst hi
      exact CompRest.zero (fin ys news hj)
    | succ k ih =>
      intro i ys news hi hj
      refine CompRest.succ fun v I oI C oC D m₂ h tk E' hv hC hx F N off ne => ?_
      refine wpAny_mono (turn i ys news (by omega) hj v I oI C oC D m₂ h tk E' hv hC hx F N off ne) (fun y s₂ hq => ?_) fun _ _ e => e
      obtain ⟨h', tk', nw, e, F', N', off', hS, hn⟩ := hq
      exact ⟨h', tk', nw, e, F', N', off', hS, ih (i + 1) _ _ (by omega) hn⟩
  exact key n 0 ys₀ news₀ (by omega) h0
theorem compRest_tl {elt : Expr} {x : Str} {scope : Scope} {cl : List (Str × Addr)} {S : List (Addr × Obj) → Prop} {P : Nat → Value → Prop} {Fin : List Value → List (Addr × Obj) → Prop} {n : Nat} {base : List (Addr × Obj)} (J : Nat → List Value → List (Addr × Obj) → Prop)
    (h0 : J 0 [] [])
    (turn : ∀ i ys tl, i < n → J i ys tl → ∀ v I oI C oC D m₂ h tk (E' : Value → Shared → Prop), P i v → NsObj oC m₂ → m₂ x = some v → Fr h₀ L h m → News h₀ L h ((I, oI) :: (C, oC) :: (D, lst ys) :: (base ++ tl)) → Off3 I C D (base ++ tl) → ((@Ne Nat I C) ∧ (@Ne Nat I D) ∧ (@Ne Nat C D)) →
      wpAny (model prog w) A (eval elt (compEnvC scope cl C env)) (CompEnd h₀ L m { s with heap := h, toks := tk } I oI C oC D (lst ys) S (fun y news' => ∃ tl', news' = base ++ tl' ∧ J (i + 1) (ys ++ [y]) tl')) E' { s with heap := h, toks := tk })
    (fin : ∀ ys tl, J n ys tl → Fin ys (base ++ tl)) : CompRest prog w A h₀ L m env elt x scope cl s S P Fin n 0 [] base := by
  refine compRest_ind (fun i ys nw => ∃ tl, nw = base ++ tl ∧ J i ys tl) ⟨[], (List.append_nil _).symm, h0⟩ ?_ ?_
  · rintro i ys nw hi ⟨tl, rfl, hj⟩
    exact turn i ys tl hi hj
  · rintro ys nw ⟨tl, rfl, hj⟩
    exact fin ys tl hj
theorem mem_mid {α : Type} {p x : α} {base tl : List α} (h : p ∈ base ++ (x :: tl)) : p = x ∨ p ∈ base ++ tl := by
  rcases List.mem_append.mp h with h | h
  · exact .inr (List.mem_append.mpr (.inl h))
  · cases h with
    | head => exact .inl rfl
    | tail _ h => exact .inr (List.mem_append.mpr (.inr h))
theorem off3_mid {I C D x : Addr} {o : Obj} {base tl : List (Addr × Obj)} (off : Off3 I C D (base ++ tl)) (h1 : @LT.lt Nat _ I x) (h2 : @LT.lt Nat _ C x) (h3 : @LT.lt Nat _ D x) : Off3 I C D (base ++ ((x, o) :: tl)) :=
  Off3.of fun p hp => by
    rcases mem_mid hp with rfl | hp
    · exact ⟨Ne.symm (Nat.ne_of_lt h1), Ne.symm (Nat.ne_of_lt h2), Ne.symm (Nat.ne_of_lt h3)⟩
    · exact off.mem p hp
end
theorem said_10 : True := by
  (k_with "m sub_all1" => (first | exact sub_nil | (refine sub_cons ?_ ?_; k_mem; walk_at "sub_all1") | (intro zqp zqhp; walk_at "own_in1")))
  (k_with "m sub_all" => (((try simp only [List.cons_append, List.nil_append]); walk_at "sub_all1")))
  trivial
end
section
open PySem PySem.W PySem.Spec PySem.Calls PyProof.Rows PyProof.V PySem.SeqAt
/-- spans as data -/
noncomputable def spanD (s : Int × Int) : PyData := .tuple [.int s.1, .int s.2]
theorem reads_span {h : Heap} {v : Value} {s : Int × Int} (p : PairH h v s) : ∃ as, Reads h v (spanD s) as := by
  obtain ⟨a, t, u, rfl, o, ho, hc, n, hd⟩ := p
  exact ⟨_, reads_tuple_at ho hc hd (.cons (.int _ _) (.cons (.int _ _) .nil))⟩
theorem reads_spans {h : Heap} {vs : List Value} {ps : List (Int × Int)} (x : All2 (PairH h) vs ps) : ∃ as, ReadsAll h vs (ps.map spanD) as := by
  induction x with
  | nil => exact ⟨_, .nil⟩
  | cons hd _ ih =>
    obtain ⟨as, ha⟩ := reads_span hd
    obtain ⟨bs, hb⟩ := ih
    exact ⟨_, ReadsAll.cons ha hb⟩
theorem reads_spansL {h : Heap} {l : Addr} {ps : List (Int × Int)} (x : SpansH h l ps) : ∃ as, Reads h (.ref l) (.list (ps.map spanD)) as := by
  obtain ⟨vs, ⟨o, ho, hc, n, hd⟩, y⟩ := x
  obtain ⟨as, ha⟩ := reads_spans y
  exact ⟨_, Reads.list ho hc hd (by simpa using ha)⟩
theorem lay_spans : ∀ ps : List (Int × Int), PyData.canLayAll0 (ps.map spanD) = true
  | [] => by simp [PyData.canLayAll0]
  | s :: r => by simp [PyData.canLayAll0, PyData.canLay0, lay_spans r, spanD]
theorem depth_spans : ∀ ps : List (Int × Int), PyData.depthAll (ps.map spanD) ≤ 2
  | [] => by simp [PyData.depthAll]
  | s :: r => by
    have := depth_spans r
    simp only [List.map_cons, PyData.depthAll, PyData.depth, spanD]
    omega
theorem shaped_spans (ps : List (Int × Int)) : shaped (.list (ps.map spanD)) = true := by
  have h1 := depth_spans ps
  have h2 : PyData.depth (.list (ps.map spanD)) ≤ 64 := by simp only [PyData.depth]; omega
  show (PyData.canLay0 (.list (ps.map spanD)) && decide (PyData.depth (.list (ps.map spanD)) ≤ 64)) = true
  rw [Bool.and_eq_true]
  exact ⟨by simp only [PyData.canLay0]; exact lay_spans ps, decide_eq_true h2⟩
theorem noMix_spans : ∀ ps qs : List (Int × Int), noMixAll (ps.map spanD) (qs.map spanD) = true
  | [], [] => by simp [noMixAll]
  | [], _ :: _ => by simp [noMixAll]
  | _ :: _, [] => by simp [noMixAll]
  | _ :: r, _ :: q => by simp [noMixAll, noMix, noMix_spans r q, spanD]
theorem same_spans : ∀ ps qs : List (Int × Int), PySem.Spec.sameAll (ps.map spanD) (qs.map spanD) = decide (ps = qs)
  | [], [] => by simp [PySem.Spec.sameAll]
  | [], _ :: _ => by simp [PySem.Spec.sameAll]
  | _ :: _, [] => by simp [PySem.Spec.sameAll]
  | (a, b) :: r, (c, d) :: q => by
    simp only [List.map_cons, PySem.Spec.sameAll, same_spans r q, spanD, PySem.Spec.same]
    by_cases h : a = c <;> by_cases h' : b = d <;> simp [h, h']
theorem units_room1 {dp un : Nat} {gd : Option (List Code)} {cn : Str} {cs : Scope} {L a : Addr} {ccd : Value} {cl : List (Str × Addr)} {outer : List Env} {env : Env} {c : Nat} (hu : un + 8 * c < cLine) (hc : 9 ≤ c) : (Around.deeper (ktrTop dp un gd cn cs L a ccd cl outer) env).units + 64 < cLine := by
  show un + 3 + 64 < cLine
  omega
section
variable {prog : Program} {w : World} {A : Around} {E : Value → Shared → Prop} {s : Shared}
theorem eq_spans {a b : Addr} {ps qs : List (Int × Int)} {Q : Value → Shared → Prop} (x : SpansH s.heap a ps) (y : SpansH s.heap b qs) (hu : A.units + 64 < cLine) (h : Q (.bool (decide (ps = qs))) s) :
    wpAny (model prog w) A (compareOp .Eq (.ref a) (.ref b)) Q E s := by
  obtain ⟨_, ra⟩ := reads_spansL x
  obtain ⟨_, rb⟩ := reads_spansL y
  exact eq_dataH_same ra rb (shaped_spans ps) (shaped_spans qs) hu (by simp only [noMix]; exact noMix_spans ps qs) (by simp only [PySem.Spec.same]; rw [same_spans]; exact h)
theorem ne_spans {a b : Addr} {ps qs : List (Int × Int)} {Q : Value → Shared → Prop} (x : SpansH s.heap a ps) (y : SpansH s.heap b qs) (hu : A.units + 64 < cLine) (h : Q (.bool (!decide (ps = qs))) s) :
    wpAny (model prog w) A (compareOp .NotEq (.ref a) (.ref b)) Q E s := by
  obtain ⟨_, ra⟩ := reads_spansL x
  obtain ⟨_, rb⟩ := reads_spansL y
  exact ne_dataH_same ra rb (shaped_spans ps) (shaped_spans qs) hu (by simp only [noMix]; exact noMix_spans ps qs) (by simp only [PySem.Spec.same]; rw [same_spans]; exact h)
theorem tup_item {value slice : Expr} {t : Addr} {x y : Value} {k : Int} {u : Tok} {Q : Value → Shared → Prop} (ht : IsTup s.heap t #[x, y]) (hk : k = 0 ∨ k = 1) (h : Q (if k = 0 then x else y) s)
    (hs : subscripted slice false (.ref t) (.int k u) = operate [.ref t, .int k u] (getItem (.ref t) (.int k u))) :
    wpAny (model prog w) A (subscriptTail value slice (.ref t) (.int k u)) Q E s := by
  rcases hk with rfl | rfl
  · exact item_tupleT (l := [x, y]) ht (by decide) (by decide) (j := 0) rfl rfl h hs
  · exact item_tupleT (l := [x, y]) ht (by decide) (by decide) (j := 1) rfl rfl h hs
variable {h₀ : Heap} {L D : Addr} {m : Str → Option Value} {news news' : List (Addr × Obj)}
/-- the last of a list -/
theorem item_last {value slice : Expr} {l : Addr} {vs : List Value} {v : Value} {n : Nat} {u : Tok} {Q : Value → Shared → Prop} (N : News h₀ L s.heap news) (hl : (l, listOf (vs ++ [v]).toArray n) ∈ news) (hz : vs.length < 1000) (h : Q v s)
    (hs : subscripted slice false (.ref l) (.int (-1) u) = operate [.ref l, .int (-1) u] (getItem (.ref l) (.int (-1) u))) :
    wpAny (model prog w) A (subscriptTail value slice (.ref l) (.int (-1) u)) Q E s := by
  have hL : s.heap.IsList l (vs ++ [v]).toArray := ⟨_, (N _ hl).1, rfl, n, rfl⟩
  have hsz : (vs ++ [v]).toArray.size = vs.length + 1 := by simp
  refine tail_any hL.typeIs slot_list_getitem.lookup (wpAny_getItem_list_neg hL (by decide) (by rw [hsz]; omega) (by decide) ?_ h) hs
  rw [hsz, show ((-1 : Int) + ((vs.length + 1 : Nat) : Int)).toNat = vs.length by omega]
  simp
theorem set_last {l : Addr} {vs : List Value} {x v : Value} {n : Nat} {u : Tok} {Q : Unit → Shared → Prop} (F : Fr h₀ L s.heap m) (N : News h₀ L s.heap news) (U : Upd l (listOf (vs ++ [x]).toArray n) (listOf (vs ++ [v]).toArray n) news news')
    (h : ∀ h', Fr h₀ L h' m → News h₀ L h' news' → Q () { s with heap := h' }) : wpAny (model prog w) A (setItem (.ref l) (.int (-1) u) v) Q E s := by
  refine ki_setNeg (j := vs.length) F N (by decide) (by decide) ?_ ?_ U h
  · have hsz : (vs ++ [x]).toArray.size = vs.length + 1 := by simp
    rw [hsz, PySem.seqIndex_neg (by decide) (by omega)]
    congr 1
    omega
  · clear U
    induction vs with
    | nil => rfl
    | cons y r ih =>
      simp only [List.cons_append, List.length_cons] at ih ⊢
      rw [ki_setL]
      simp [ih]
end
end
section
variable {w : World} {p : Program} {loose : List Str} {mean : ExcName → Option Value} {mg mb : Str → Option Value}
theorem word_11 : True := by
  (k_with "m mul_fits" => (with_unfolding_all exact mulOk_fmod _ _))
  trivial
local macro_rules | `(tactic| mul_fits) => `(tactic| k_extra "m mul_fits")
/-- the drawing list after a draw -/
noncomputable def SrcIs (o : Obj) : Prop := ∃ x y tx ty n, o = srcObj x y tx ty n ∧ 0 ≤ y ∧ y < 2147483647
set_option maxHeartbeats 8000000 in
theorem take_spec0 (x y : Int) (tx ty : Tok) (n : Nat) (src : Addr) (top : Int) (tt : Tok) (h2 : 2 ≤ top) (h3 : top ≤ 5) (hy0 : 0 ≤ y) (hy : y < 2147483647) :
    SpecC w p loose mean mg mb 84 (fun _ => True) [(src, srcObj x y tx ty n)] [.ref src, .int top tt] 5
      (fun r news' => ∃ k t o, r = .int k t ∧ 0 ≤ k ∧ k < top ∧ news' = [(src, o)] ∧ SrcIs o) := by
  walk_at "spec_enter"
  k_steps
  · walk_at "spec_end"
    refine leaveS_ (by k_asm) (by k_asm) ?_
    exact ⟨_, _, _, rfl, fmod_lo _ (by omega), fmod_hi _ (by omega), rfl, _, _, _, _, _, rfl, hy0, hy⟩
  · walk_at "spec_end"
    refine leaveS_ (by k_asm) (by k_asm) ?_
    exact ⟨_, _, _, rfl, fmod_lo _ (by omega), fmod_hi _ (by omega), rfl, _, _, _, _, _, rfl, fmod_lo _ (by decide), fmod_hi _ (by decide)⟩
theorem take_spec {o : Obj} (src : Addr) (top : Int) (tt : Tok) (h2 : 2 ≤ top) (h3 : top ≤ 5) (ho : SrcIs o) :
    SpecC w p loose mean mg mb 84 (fun _ => True) [(src, o)] [.ref src, .int top tt] 5
      (fun r news' => ∃ k t o, r = .int k t ∧ 0 ≤ k ∧ k < top ∧ news' = [(src, o)] ∧ SrcIs o) := by
  obtain ⟨x, y, tx, ty, n, rfl, h0, h1⟩ := ho
  exact take_spec0 x y tx ty n src top tt h2 h3 h0 h1
end
section
variable {w : World} {p : Program} {loose : List Str} {mean : ExcName → Option Value} {mg mb : Str → Option Value}
theorem said_12 : True := by
  (k_with "m call ref" => ((
  (with_reducible show wpAny _ _ (call (Value.ref 84) _) _ _ _)
  k_dflt (refine' specC_use1 (take_spec _ _ _ ?h2.u27 ?h3.u27 ?ho.u27) ?k1.u27 ?k2.u27 ?k3.u27 ?k4.u27 ?k5.u27 ?kK.u27 ?kd.u27 ?ku.u27 ?kp.u27 ?kpre.u27 ?_)
  walk_at "use_1"
  (case h2 => decide); (case h3 => decide); (case ho => assumption); (case kpre => exact fun _ _ _ => True.intro)
  k_whole
  refine ret_take ?_
  intro zqkd zqkt zqko zqh9 zqtk9 zqF9 zqN9 zqh0 zqh1 zqhs)))
  trivial
theorem one_get (k : Int) (h0 : 0 ≤ k) (h1 : k < ((1 + 1 + 1 + 1 + 1 : Nat) : Int)) : 0 ≤ ([0, 0, 1, 2, 4] : List Int).getD k.toNat 0 ∧ ([0, 0, 1, 2, 4] : List Int).getD k.toNat 0 ≤ 4 := by
  obtain ⟨n, rfl⟩ := Int.eq_ofNat_of_zero_le h0
  exact (by decide : ∀ n : Nat, n < 5 → 0 ≤ ([0, 0, 1, 2, 4] : List Int).getD n 0 ∧ ([0, 0, 1, 2, 4] : List Int).getD n 0 ≤ 4) n (Int.ofNat_lt.mp h1)
set_option maxHeartbeats 8000000 in
theorem one_spec {o : Obj} (src tl : Addr) (vs : List Value) (hi : IntsAre vs [0, 0, 1, 2, 4]) (ho : SrcIs o) :
    SpecC w p loose mean mg mb 91 (fun g => g.IsList tl vs.toArray) [(src, o)] [.ref src, .ref tl] 8
      (fun r news' => ∃ k t o, r = .int k t ∧ 0 ≤ k ∧ k ≤ 4 ∧ news' = [(src, o)] ∧ SrcIs o) := by
  walk_at "spec_enter"
  k_steps
  refine leaveS_ (by k_asm) (by k_asm) ?_
  refine ⟨_, _, _, rfl, ?_, ?_, rfl, by assumption⟩
  · exact (one_get _ (by assumption) (by assumption)).1
  · exact (one_get _ (by assumption) (by assumption)).2
end
theorem again_13 : True := by
  k_with_none
  (k_with "m omega" => ((first | decide | (with_reducible exact Int.natCast_nonneg _) | exact om1 (by with_reducible assumption) (by decide) | exact om2 (by with_reducible assumption) (by decide) | exact om3 (by with_reducible assumption) (by decide) | exact om4 (by with_reducible assumption) (by decide) | exact om5 (by with_reducible assumption) (by decide) | exact om6 (by with_reducible assumption) (by decide) | exact om7 (by with_reducible assumption) (by decide) | exact om8 (by with_reducible assumption) (by decide) | exact om9 (by with_reducible assumption) (by decide) | exact om10 (by with_reducible assumption) (by decide) | exact om5 (by with_reducible assumption) (om2 (by with_reducible assumption) (by decide)) | exact om6 (by with_reducible assumption) (om1 (by with_reducible assumption) (by decide)) | exact Nat.le_of_lt (by with_reducible assumption) | exact Nat.succ_le_of_lt (by with_reducible assumption) | exact Int.le_of_lt (by with_reducible assumption) | exact Int.not_le.mp (by with_reducible assumption) | exact Int.not_lt.mp (by with_reducible assumption) | exact Nat.lt_of_not_le (by with_reducible assumption) | exact Nat.le_of_not_lt (by with_reducible assumption) | fail)))
  (k_with "m ne_look" => (with_reducible (first | (refine neS ?_; assumption) | (refine neT ?_; assumption) | (refine ltS ?_; assumption) | (refine ltT ?_; assumption) | (rename _ ∧ _ => zqz; first | ((have zqzz : @LT.lt Nat _ _ _ := zqz.1); clear zqzz; first | exact ltS zqz.1 | exact ltT zqz.1 | exact ltS zqz.2.1 | exact ltT zqz.2.1 | exact ltS zqz.2.2.1 | exact ltT zqz.2.2.1 | exact ltS zqz.2.2.2.1 | exact ltT zqz.2.2.2.1 | exact ltS zqz.2.2.2.2.1 | exact ltT zqz.2.2.2.2.1 | exact ltS zqz.2.2.2.2.2.1 | exact ltT zqz.2.2.2.2.2.1 | exact ltS zqz.2.2.2.2.2.2.1 | exact ltT zqz.2.2.2.2.2.2.1 | exact ltS zqz.2.2.2.2.2.2.2.1 | exact ltT zqz.2.2.2.2.2.2.2.1 | exact ltS zqz.2.2.2.2.2.2.2.2.1 | exact ltT zqz.2.2.2.2.2.2.2.2.1 | exact ltS zqz.2.2.2.2.2.2.2.2.2.1 | exact ltT zqz.2.2.2.2.2.2.2.2.2.1 | exact ltS zqz.2.2.2.2.2.2.2.2.2.2.1 | exact ltT zqz.2.2.2.2.2.2.2.2.2.2.1 | exact ltS zqz.2.2.2.2.2.2.2.2.2.2.2.1 | exact ltT zqz.2.2.2.2.2.2.2.2.2.2.2.1 | exact ltS zqz.2.2.2.2.2.2.2.2.2.2.2.2.1 | exact ltT zqz.2.2.2.2.2.2.2.2.2.2.2.2.1 | exact ltS zqz.2.2.2.2.2.2.2.2.2.2.2.2.2.1 | exact ltT zqz.2.2.2.2.2.2.2.2.2.2.2.2.2.1 | exact ltS zqz.2 | exact ltT zqz.2 | exact ltS zqz.2.2 | exact ltT zqz.2.2 | exact ltS zqz.2.2.2 | exact ltT zqz.2.2.2 | exact ltS zqz.2.2.2.2 | exact ltT zqz.2.2.2.2 | exact ltS zqz.2.2.2.2.2 | exact ltT zqz.2.2.2.2.2 | exact ltS zqz.2.2.2.2.2.2 | exact ltT zqz.2.2.2.2.2.2 | exact ltS zqz.2.2.2.2.2.2.2 | exact ltT zqz.2.2.2.2.2.2.2 | exact ltS zqz.2.2.2.2.2.2.2.2 | exact ltT zqz.2.2.2.2.2.2.2.2 | exact ltS zqz.2.2.2.2.2.2.2.2.2 | exact ltT zqz.2.2.2.2.2.2.2.2.2 | exact ltS zqz.2.2.2.2.2.2.2.2.2.2 | exact ltT zqz.2.2.2.2.2.2.2.2.2.2 | exact ltS zqz.2.2.2.2.2.2.2.2.2.2.2 | exact ltT zqz.2.2.2.2.2.2.2.2.2.2.2 | exact ltS zqz.2.2.2.2.2.2.2.2.2.2.2.2 | exact ltT zqz.2.2.2.2.2.2.2.2.2.2.2.2 | exact ltS zqz.2.2.2.2.2.2.2.2.2.2.2.2.2 | exact ltT zqz.2.2.2.2.2.2.2.2.2.2.2.2.2) | exact neS zqz.1 | exact neS zqz.1.1 | exact neS zqz.1.2 | exact neS zqz.1.2.1 | exact neS zqz.1.2.2 | exact neS zqz.2.1 | exact neS zqz.2.1.1 | exact neS zqz.2.1.2 | exact neS zqz.2.1.2.1 | exact neS zqz.2.1.2.2 | exact neS zqz.2.2.1 | exact neS zqz.2.2.1.1 | exact neS zqz.2.2.1.2 | exact neS zqz.2.2.1.2.1 | exact neS zqz.2.2.1.2.2 | exact neS zqz.2.2.2.1 | exact neS zqz.2.2.2.1.1 | exact neS zqz.2.2.2.1.2 | exact neS zqz.2.2.2.1.2.1 | exact neS zqz.2.2.2.1.2.2 | exact neS zqz.2.2.2.2.1 | exact neS zqz.2.2.2.2.1.1 | exact neS zqz.2.2.2.2.1.2 | exact neS zqz.2.2.2.2.1.2.1 | exact neS zqz.2.2.2.2.1.2.2 | exact neS zqz.2.2.2.2.2.1 | exact neS zqz.2.2.2.2.2.1.1 | exact neS zqz.2.2.2.2.2.1.2 | exact neS zqz.2.2.2.2.2.1.2.1 | exact neS zqz.2.2.2.2.2.1.2.2 | exact neS zqz.2.2.2.2.2.2.1 | exact neS zqz.2.2.2.2.2.2.1.1 | exact neS zqz.2.2.2.2.2.2.1.2 | exact neS zqz.2.2.2.2.2.2.1.2.1 | exact neS zqz.2.2.2.2.2.2.1.2.2 | exact neS zqz.2.2.2.2.2.2.2.1 | exact neS zqz.2.2.2.2.2.2.2.1.1 | exact neS zqz.2.2.2.2.2.2.2.1.2 | exact neS zqz.2.2.2.2.2.2.2.1.2.1 | exact neS zqz.2.2.2.2.2.2.2.1.2.2 | exact neS zqz.2.2.2.2.2.2.2.2.1 | exact neS zqz.2.2.2.2.2.2.2.2.1.1 | exact neS zqz.2.2.2.2.2.2.2.2.1.2 | exact neS zqz.2.2.2.2.2.2.2.2.1.2.1 | exact neS zqz.2.2.2.2.2.2.2.2.1.2.2 | exact neS zqz.2 | exact neS zqz.2.2 | exact neS zqz.2.2.2 | exact neS zqz.2.2.2.2 | exact neS zqz.2.2.2.2.2 | exact neS zqz.2.2.2.2.2.2 | exact neS zqz.2.2.2.2.2.2.2 | exact neS zqz.2.2.2.2.2.2.2.2 | exact neT zqz.1 | exact neT zqz.1.1 | exact neT zqz.1.2 | exact neT zqz.1.2.1 | exact neT zqz.1.2.2 | exact neT zqz.2.1 | exact neT zqz.2.1.1 | exact neT zqz.2.1.2 | exact neT zqz.2.1.2.1 | exact neT zqz.2.1.2.2 | exact neT zqz.2.2.1 | exact neT zqz.2.2.1.1 | exact neT zqz.2.2.1.2 | exact neT zqz.2.2.1.2.1 | exact neT zqz.2.2.1.2.2 | exact neT zqz.2.2.2.1 | exact neT zqz.2.2.2.1.1 | exact neT zqz.2.2.2.1.2 | exact neT zqz.2.2.2.1.2.1 | exact neT zqz.2.2.2.1.2.2 | exact neT zqz.2.2.2.2.1 | exact neT zqz.2.2.2.2.1.1 | exact neT zqz.2.2.2.2.1.2 | exact neT zqz.2.2.2.2.1.2.1 | exact neT zqz.2.2.2.2.1.2.2 | exact neT zqz.2.2.2.2.2.1 | exact neT zqz.2.2.2.2.2.1.1 | exact neT zqz.2.2.2.2.2.1.2 | exact neT zqz.2.2.2.2.2.1.2.1 | exact neT zqz.2.2.2.2.2.1.2.2 | exact neT zqz.2.2.2.2.2.2.1 | exact neT zqz.2.2.2.2.2.2.1.1 | exact neT zqz.2.2.2.2.2.2.1.2 | exact neT zqz.2.2.2.2.2.2.1.2.1 | exact neT zqz.2.2.2.2.2.2.1.2.2 | exact neT zqz.2.2.2.2.2.2.2.1 | exact neT zqz.2.2.2.2.2.2.2.1.1 | exact neT zqz.2.2.2.2.2.2.2.1.2 | exact neT zqz.2.2.2.2.2.2.2.1.2.1 | exact neT zqz.2.2.2.2.2.2.2.1.2.2 | exact neT zqz.2.2.2.2.2.2.2.2.1 | exact neT zqz.2.2.2.2.2.2.2.2.1.1 | exact neT zqz.2.2.2.2.2.2.2.2.1.2 | exact neT zqz.2.2.2.2.2.2.2.2.1.2.1 | exact neT zqz.2.2.2.2.2.2.2.2.1.2.2 | exact neT zqz.2 | exact neT zqz.2.2 | exact neT zqz.2.2.2 | exact neT zqz.2.2.2.2 | exact neT zqz.2.2.2.2.2 | exact neT zqz.2.2.2.2.2.2 | exact neT zqz.2.2.2.2.2.2.2 | exact neT zqz.2.2.2.2.2.2.2.2 | (clear zqz; walk_at "ne_look")))))
  (k_with "m om" => (first | ((repeat (with_reducible rename _ ∧ _ => zqzz; clear zqzz)); (repeat (with_reducible rename @Ne Nat _ _ => zqzz; clear zqzz)); omega) | omega))
  (k_with "m spec_enter" => ((
  w_top off
  unfold SpecC
  k_fill
  intro zqdp zqun zqgd zqcn zqcs zqa zqccd zqcl zqouter zqA₀ zqbase zqh₀ zqL zqm zqs zqQ zqE zqB zqF zqX zqN zqT zqhk zqhpre zqhd zqhu zqhret
  obtain ⟨zqsh, zqsg, zqsd, zqst, zqso⟩ := zqs
  dsimp only at zqF zqN zqhpre zqhret
  refine wpAny_call ?_
  refine' callSK ?k1.u4 ?k2.u4 ?k3.u4 ?k4.u4 ?k5.u4 ?kA.u4 ?kF.u4 ?kK.u4 ?kpre.u4 ?kret.u4 ?k6.u4 ?k7.u4 ?k8.u4 ?k9.u4 ?kB.u4 ?_ ?c2.u4 ?c3.u4 ?c4.u4 ?c5.u4
  (case kA => exact rfl); (case kF => exact rfl); (case kK => assumption); (case k1 => k_asm); (case k2 => k_asm); (case k3 => k_asm); (case k4 => k_asm); (case k5 => k_asm)
  (case kpre => exact zqhpre)
  (case kret => exact zqhret)
  (case k6 => k_is); (case k7 => k_is); (case k8 => ktr_room); (case k9 => exact BindsTo.of_eq rfl); (case kB => exact locs rfl); (case c2 => decide); (case c3 => exact rfl); (case c4 => exact rfl); (case c5 => exact rfl)
  clear zqhpre zqhret
  k_whole
  intro zqg' zqL' zqh' zqF' zqN' zqB' zqX' zqT' zqpre'
  (refine fold_fr zqF' ?_; clear zqF'; intro zqmm zqF')
  (try dsimp only); (refine abs_tok ?_; intro zqtk'); (try k_lift zqB'); (try k_fold))))
  (k_with "m spec_enterC" => ((
  w_top off
  unfold SpecC
  k_fill
  intro zqdp zqun zqgd zqcn zqcs zqa zqccd zqcl zqouter zqA₀ zqbase zqh₀ zqL zqm zqs zqQ zqE zqB zqF zqX zqN zqT zqhk zqhpre zqhd zqhu zqhret
  obtain ⟨zqsh, zqsg, zqsd, zqst, zqso⟩ := zqs
  dsimp only at zqF zqN zqhpre zqhret
  refine wpAny_call ?_
  refine' callSC ?k1.u5 ?k2.u5 ?k3.u5 ?k4.u5 ?k5.u5 ?kA.u5 ?kF.u5 ?kK.u5 ?kpre.u5 ?kret.u5 ?k6.u5 ?k7.u5 ?k8.u5 ?k9.u5 ?kB.u5 ?kD.u5 ?_ ?c3.u5 ?c4.u5 ?c5.u5
  (case kA => exact rfl); (case kF => exact rfl); (case kK => assumption); (case k1 => k_asm); (case k2 => k_asm); (case k3 => k_asm); (case k4 => k_asm); (case k5 => k_asm)
  (case kpre => exact zqhpre)
  (case kret => exact zqhret)
  (case k6 => k_is); (case k7 => k_is); (case k8 => ktr_room); (case k9 => exact BindsTo.of_eq rfl); (case kB => exact rfl); (case kD => decide +kernel); (case c3 => exact rfl); (case c4 => exact rfl); (case c5 => exact rfl)
  clear zqhpre zqhret
  k_whole
  intro zqg' zqL' zqh' zqtk' zqcells' zqF' zqN' zqY' zqB' zqX' zqT' zqpre' zql1
  (try k_lt zql1); k_cells zqY'; (try simp only [List.cons_append, List.nil_append] at zqN'); (try dsimp only); (try k_lift zqB'); (try k_fold))))
  (k_with "m spec_end" => (((try dsimp only); (try k_unfold); (try dsimp only))))
  (k_with "m pick_1" => (first | (refine' Pick1.here ?ph.u7; (case ph => k_dflt k_all)) | (refine' Pick1.next ?pn.u7 ?pt.u7; (case pn => k_ne); (case pt => walk_at "pick_1"))))
  (k_with "m use_1" => ((
  (case k1 => k_asm); (case k2 => k_asm); (case k3 => k_asm); (case k4 => k_asm); (case k5 => k_asm); (case kK => first | exact rfl | assumption)
  (case kd => ktr_room); (case ku => ktr_units); (case kp => k_dflt (walk_at "pick_1")))))
  (k_with "m use_2" => ((
  (case k1 => k_asm); (case k2 => k_asm); (case k3 => k_asm); (case k4 => k_asm); (case k5 => k_asm); (case kK => first | exact rfl | assumption)
  (case kd => ktr_room); (case ku => ktr_units); (case kp1 => k_dflt (walk_at "pick_1")); (case kp2 => k_dflt (walk_at "pick_1")))))
  (k_with "m use_0" => ((
  (case k1 => k_asm); (case k2 => k_asm); (case k3 => k_asm); (case k4 => k_asm); (case k5 => k_asm); (case kK => first | exact rfl | assumption)
  (case kd => ktr_room); (case ku => ktr_units))))
  (k_with "m ktr_room" => ((k_dflt (first | exact room1 (by assumption) (by decide) | exact room0 (by assumption) (by decide) | exact roomN (by assumption)))))
  (k_with "m ktr_units" => ((k_dflt (first | exact units1 (by assumption) (by decide) | exact room0 (by assumption) (by decide)))))
  (k_with "m k_ne" => ((refine neN ?_; (try dsimp only); first | walk_at "ne_look" | omega -splitDisjunctions | omega)))
  (k_with "m append_L" => ((k_here; (with_reducible show wpAny _ _ (call (Value.builtin _) [Value.ref _, _]) _ _ _); k_dflt (refine' append_L ?k1.u14 ?k2.u14 ?k3.u14 ?k4.u14 ?_; (case k1 => k_asm); (case k2 => k_asm); (case k3 => k_upd); (case k4 => first | omega | (simp only [List.length_append, List.length_cons, List.length_nil]; omega)); k_whole); intro zqh' zqF' zqN'; (try k_sweep))))
  (k_with "m all_lt" => (first
  | exact allLt_mem (by assumption)
  | exact allLt_mem (And.right (by assumption))
  | exact allLt_mem (And.right (And.right (by assumption)))
  | exact allLt_mem (And.right (And.right (And.right (by assumption))))
  | exact allLt_mem (And.right (And.right (And.right (And.right (by assumption)))))
  | exact allLt_mem (And.right (And.right (And.right (And.right (And.right (by assumption))))))
  | exact allLt_mem (And.right (And.right (And.right (And.right (And.right (And.right (by assumption)))))))
  | exact allLt_mem (And.right (And.right (And.right (And.right (And.right (And.right (And.right (by assumption))))))))
  | exact allLt_mem (And.right (And.right (And.right (And.right (And.right (And.right (And.right (And.right (by assumption)))))))))))
  (k_with "m own_off1" => (first | exact ownOff_nil | assumption | (refine ownOff_cons ?_ ?_; (first | exact OwnOff.ne (by assumption) (by k_memK) | walk_at "all_lt" | fail "own_off: an address"); walk_at "own_off1")))
  (k_with "m own_off" => (((try dsimp only [List.map_cons, List.map_nil]); walk_at "own_off1")))
  (k_with "m led_in1" => (first | exact sub_nil | (refine sub_cons ?_ ?_; k_mem; walk_at "led_in1")))
  (k_with "m led_in" => (((try dsimp only); walk_at "led_in1")))
  (k_with "m own_in1" => (first | assumption | (refine List.Mem.tail _ ?_; walk_at "own_in1")))
  (k_with "m own_in" => ((intro zqp zqhp; walk_at "own_in1")))
  (k_with "m jp_end" => ((
  (case hk => kst_all); (case hn => walk_at "led_in"); (case ho => walk_at "own_in"); (case ha => walk_at "own_off"))))
  (k_with "m is_list" => (first | is_list | exact isList_at (by k_asm) (by assumption)))
  (k_with "m sub_all1" => (first | exact sub_nil | (refine sub_cons ?_ ?_; k_mem; walk_at "sub_all1") | (intro zqp zqhp; walk_at "own_in1")))
  (k_with "m sub_all" => (((try simp only [List.cons_append, List.nil_append]); walk_at "sub_all1")))
  trivial
section
variable {w : World} {p : Program} {loose : List Str} {mean : ExcName → Option Value} {mg mb : Str → Option Value}
theorem said_14 : True := by
  (k_with "m call ref" => ((
  (with_reducible show wpAny _ _ (call (Value.ref 84) _) _ _ _)
  k_dflt (refine' specC_use1 (take_spec _ _ _ ?h2.u28 ?h3.u28 ?ho.u28) ?k1.u28 ?k2.u28 ?k3.u28 ?k4.u28 ?k5.u28 ?kK.u28 ?kd.u28 ?ku.u28 ?kp.u28 ?kpre.u28 ?_)
  walk_at "use_1"
  (case h2 => decide); (case h3 => decide); (case ho => assumption); (case kpre => exact fun _ _ _ => True.intro)
  k_whole
  refine ret_take ?_
  intro zqkd zqkt zqko zqh9 zqtk9 zqF9 zqN9 zqh0 zqh1 zqhs)))
  (k_with "m call ref" => ((
  (with_reducible show wpAny _ _ (call (Value.ref 91) _) _ _ _)
  k_dflt (refine' specC_use1 (one_spec _ _ _ ?hi.u29 ?ho.u29) ?k1.u29 ?k2.u29 ?k3.u29 ?k4.u29 ?k5.u29 ?kK.u29 ?kd.u29 ?ku.u29 ?kp.u29 ?kpre.u29 ?_)
  walk_at "use_1"
  (case kpre => (intro zqg zqst zqhq; exact isList_of zqhq (by k_mem))); (case hi => l_ints); (case ho => assumption)
  k_whole
  refine ret_take ?_
  intro zqkd zqkt zqko zqh9 zqtk9 zqF9 zqN9 zqh0 zqh1 zqhs)))
  (k_with "m exec For Name Call cons nil" => ((k_here; (rename Fr _ _ _ _ => zqlF'); (with_unfolding_all refine' For_invVF zqlF' ?k1.u30 ?k2.u30 ?_; (case k1 => exact rfl); (case k2 => exact rfl); k_whole))))
  (k_with "m pyIter ref" => ((refine stand ?_)))
  (k_with "m call builtin:len" => ((k_here; (refine' len_bools ?k1.u32 ?k2.u32 ?_; (case k1 => is_list); (case k2 => omega); k_whole))))
  (k_with "m binaryOp Mult ref int" => ((k_here; k_dflt (refine' mulB ?k1.u33 ?k2.u33 ?k3.u33 ?k4.u33 ?k5.u33 ?_; (case k1 => k_asm); (case k2 => k_asm); (case k3 => k_mem); (case k4 => omega); (case k5 => omega); k_whole); intro zqy' zqh' zqF' zqN' zql1; (try k_lt zql1); (try k_sweep))))
  (k_with "m binaryOp Add ref ref" => ((k_here; k_dflt (refine' addB ?k1.u34 ?k2.u34 ?k3.u34 ?k4.u34 ?k5.u34 ?_; (case k1 => k_asm); (case k2 => k_asm); (case k3 => is_list); (case k4 => is_list); (case k5 => (simp only [List.length_replicate]; omega)); k_whole); intro zqy' zqh' zqF' zqN' zql1; (try k_lt zql1); (try k_sweep))))
  (k_with "m subscriptTail Name Slice ref ref" => ((k_here; k_dflt (refine' sliceB ?k1.u35 ?k2.u35 ?k3.u35 ?k4.u35 ?k5.u35 ?_ ?s.u35 ?t.u35; (case k1 => k_asm); (case k2 => k_asm); (case k3 => is_list); (case k4 => omega); (case k5 => omega); (case s => with_unfolding_all rfl); (case t => intro zqr; with_unfolding_all rfl)); intro zqD' zqh' zqF' zqN' zql1; (try k_lt zql1); (try k_sweep))))
  trivial
set_option maxHeartbeats 8000000 in
theorem row_spec {o : Obj} (src : Addr) (ho : SrcIs o) :
    SpecC w p loose mean mg mb 98 (fun _ => True) [(src, o)] [.ref src] 12
      (fun r news' => ∃ l o bs n, r = .ref l ∧ bs.length = 12 ∧ news' = [(src, o), (l, listOf (boolsV bs) n)] ∧ SrcIs o) := by
  walk_at "spec_enter"
  k_steps
  unfold Stand
  rename IsRange _ _ _ _ _ _ _ _ => R8
  rename Fr _ _ _ _ => F8
  rename News _ _ _ _ => N8
  refine' rangeJ (σ := Obj × Addr × List Bool × Nat × Bool) (n := 12) (fun c => [(src, c.1), (c.2.1, listOf (boolsV c.2.2.1) c.2.2.2.1)])
    (fun c => [("found", .ref c.2.1), ("is_in", .bool c.2.2.2.2), ("source", .ref src)]) (fun i c => SrcIs c.1 ∧ (i ≤ c.2.2.1.length) ∧ c.2.2.1.length < 100 ∧ @LT.lt Nat _ src c.2.1) (_, _, [], _, _) rfl R8 (by decide) (by decide) F8 N8 ?hn ?hk ?hp ?turn ?done
  case hn => exact fun p hp => List.Mem.tail _ (by with_unfolding_all exact hp)
  case hk => kst_all
  case hp => exact ⟨by assumption, by simp, by simp, by omega⟩
  case turn =>
    intro c i t u h tk own hi hoff hP F1 N1
    obtain ⟨ko, fl, bs, n, b⟩ := c
    dsimp only at hoff hP F1 N1
    simp only [List.cons_append, List.nil_append, List.map_cons, List.map_nil] at hoff N1
    obtain ⟨hs1, hlen, hcap, hlt⟩ := hP
    clear R8 F8 N8
    try dsimp only
    simp only [kstB] at F1
    (refine fold_fr F1 ?_; clear F1; intro mm F1)
    (try (change wpAny _ _ _ _ _ _; k_fold))
    k_steps
    · rename News _ _ _ _ => N7
      refine' jp_end (_, _, _, _, _) (by k_asm) N7 ?hn ?ho ?ha ?hk ?hp
      walk_at "jp_end"
      (case hp => exact ⟨by assumption, by simp only [List.length_append, List.length_replicate]; omega, by simp only [List.length_append, List.length_replicate]; omega, by dsimp only; omega⟩)
    · rename News _ _ _ _ => N7
      refine' jp_end (_, _, _, _, _) (by k_asm) N7 ?hn ?ho ?ha ?hk ?hp
      walk_at "jp_end"
      (case hp => exact ⟨by assumption, by dsimp only; omega, by dsimp only; omega, by dsimp only; omega⟩)
  case done =>
    intro c u h tk hP F1 N1
    obtain ⟨ko, fl, bs, n, b⟩ := c
    dsimp only at hP F1 N1
    obtain ⟨hs1, hlen, hcap, hlt⟩ := hP
    clear R8 F8 N8
    try dsimp only
    simp only [kstB] at F1
    (refine fold_fr F1 ?_; clear F1; intro mm F1)
    (try (change wpAny _ _ _ _ _ _; k_fold))
    k_steps
    walk_at "spec_end"
    rename News _ _ _ _ => N7
    refine leaveS_sub [(src, ko), (_, listOf (boolsV (bs.take 12)) 0)] (by k_asm) N7 ?hs ⟨_, _, _, _, rfl, by simp only [List.length_take]; omega, rfl, hs1⟩
    walk_at "led_in"
end
theorem again_15 : True := by
  k_with_none
  (k_with "m omega" => ((first | decide | (with_reducible exact Int.natCast_nonneg _) | exact om1 (by with_reducible assumption) (by decide) | exact om2 (by with_reducible assumption) (by decide) | exact om3 (by with_reducible assumption) (by decide) | exact om4 (by with_reducible assumption) (by decide) | exact om5 (by with_reducible assumption) (by decide) | exact om6 (by with_reducible assumption) (by decide) | exact om7 (by with_reducible assumption) (by decide) | exact om8 (by with_reducible assumption) (by decide) | exact om9 (by with_reducible assumption) (by decide) | exact om10 (by with_reducible assumption) (by decide) | exact om5 (by with_reducible assumption) (om2 (by with_reducible assumption) (by decide)) | exact om6 (by with_reducible assumption) (om1 (by with_reducible assumption) (by decide)) | exact Nat.le_of_lt (by with_reducible assumption) | exact Nat.succ_le_of_lt (by with_reducible assumption) | exact Int.le_of_lt (by with_reducible assumption) | exact Int.not_le.mp (by with_reducible assumption) | exact Int.not_lt.mp (by with_reducible assumption) | exact Nat.lt_of_not_le (by with_reducible assumption) | exact Nat.le_of_not_lt (by with_reducible assumption) | fail)))
  (k_with "m ne_look" => (with_reducible (first | (refine neS ?_; assumption) | (refine neT ?_; assumption) | (refine ltS ?_; assumption) | (refine ltT ?_; assumption) | (rename _ ∧ _ => zqz; first | ((have zqzz : @LT.lt Nat _ _ _ := zqz.1); clear zqzz; first | exact ltS zqz.1 | exact ltT zqz.1 | exact ltS zqz.2.1 | exact ltT zqz.2.1 | exact ltS zqz.2.2.1 | exact ltT zqz.2.2.1 | exact ltS zqz.2.2.2.1 | exact ltT zqz.2.2.2.1 | exact ltS zqz.2.2.2.2.1 | exact ltT zqz.2.2.2.2.1 | exact ltS zqz.2.2.2.2.2.1 | exact ltT zqz.2.2.2.2.2.1 | exact ltS zqz.2.2.2.2.2.2.1 | exact ltT zqz.2.2.2.2.2.2.1 | exact ltS zqz.2.2.2.2.2.2.2.1 | exact ltT zqz.2.2.2.2.2.2.2.1 | exact ltS zqz.2.2.2.2.2.2.2.2.1 | exact ltT zqz.2.2.2.2.2.2.2.2.1 | exact ltS zqz.2.2.2.2.2.2.2.2.2.1 | exact ltT zqz.2.2.2.2.2.2.2.2.2.1 | exact ltS zqz.2.2.2.2.2.2.2.2.2.2.1 | exact ltT zqz.2.2.2.2.2.2.2.2.2.2.1 | exact ltS zqz.2.2.2.2.2.2.2.2.2.2.2.1 | exact ltT zqz.2.2.2.2.2.2.2.2.2.2.2.1 | exact ltS zqz.2.2.2.2.2.2.2.2.2.2.2.2.1 | exact ltT zqz.2.2.2.2.2.2.2.2.2.2.2.2.1 | exact ltS zqz.2.2.2.2.2.2.2.2.2.2.2.2.2.1 | exact ltT zqz.2.2.2.2.2.2.2.2.2.2.2.2.2.1 | exact ltS zqz.2 | exact ltT zqz.2 | exact ltS zqz.2.2 | exact ltT zqz.2.2 | exact ltS zqz.2.2.2 | exact ltT zqz.2.2.2 | exact ltS zqz.2.2.2.2 | exact ltT zqz.2.2.2.2 | exact ltS zqz.2.2.2.2.2 | exact ltT zqz.2.2.2.2.2 | exact ltS zqz.2.2.2.2.2.2 | exact ltT zqz.2.2.2.2.2.2 | exact ltS zqz.2.2.2.2.2.2.2 | exact ltT zqz.2.2.2.2.2.2.2 | exact ltS zqz.2.2.2.2.2.2.2.2 | exact ltT zqz.2.2.2.2.2.2.2.2 | exact ltS zqz.2.2.2.2.2.2.2.2.2 | exact ltT zqz.2.2.2.2.2.2.2.2.2 | exact ltS zqz.2.2.2.2.2.2.2.2.2.2 | exact ltT zqz.2.2.2.2.2.2.2.2.2.2 | exact ltS zqz.2.2.2.2.2.2.2.2.2.2.2 | exact ltT zqz.2.2.2.2.2.2.2.2.2.2.2 | exact ltS zqz.2.2.2.2.2.2.2.2.2.2.2.2 | exact ltT zqz.2.2.2.2.2.2.2.2.2.2.2.2 | exact ltS zqz.2.2.2.2.2.2.2.2.2.2.2.2.2 | exact ltT zqz.2.2.2.2.2.2.2.2.2.2.2.2.2) | exact neS zqz.1 | exact neS zqz.1.1 | exact neS zqz.1.2 | exact neS zqz.1.2.1 | exact neS zqz.1.2.2 | exact neS zqz.2.1 | exact neS zqz.2.1.1 | exact neS zqz.2.1.2 | exact neS zqz.2.1.2.1 | exact neS zqz.2.1.2.2 | exact neS zqz.2.2.1 | exact neS zqz.2.2.1.1 | exact neS zqz.2.2.1.2 | exact neS zqz.2.2.1.2.1 | exact neS zqz.2.2.1.2.2 | exact neS zqz.2.2.2.1 | exact neS zqz.2.2.2.1.1 | exact neS zqz.2.2.2.1.2 | exact neS zqz.2.2.2.1.2.1 | exact neS zqz.2.2.2.1.2.2 | exact neS zqz.2.2.2.2.1 | exact neS zqz.2.2.2.2.1.1 | exact neS zqz.2.2.2.2.1.2 | exact neS zqz.2.2.2.2.1.2.1 | exact neS zqz.2.2.2.2.1.2.2 | exact neS zqz.2.2.2.2.2.1 | exact neS zqz.2.2.2.2.2.1.1 | exact neS zqz.2.2.2.2.2.1.2 | exact neS zqz.2.2.2.2.2.1.2.1 | exact neS zqz.2.2.2.2.2.1.2.2 | exact neS zqz.2.2.2.2.2.2.1 | exact neS zqz.2.2.2.2.2.2.1.1 | exact neS zqz.2.2.2.2.2.2.1.2 | exact neS zqz.2.2.2.2.2.2.1.2.1 | exact neS zqz.2.2.2.2.2.2.1.2.2 | exact neS zqz.2.2.2.2.2.2.2.1 | exact neS zqz.2.2.2.2.2.2.2.1.1 | exact neS zqz.2.2.2.2.2.2.2.1.2 | exact neS zqz.2.2.2.2.2.2.2.1.2.1 | exact neS zqz.2.2.2.2.2.2.2.1.2.2 | exact neS zqz.2.2.2.2.2.2.2.2.1 | exact neS zqz.2.2.2.2.2.2.2.2.1.1 | exact neS zqz.2.2.2.2.2.2.2.2.1.2 | exact neS zqz.2.2.2.2.2.2.2.2.1.2.1 | exact neS zqz.2.2.2.2.2.2.2.2.1.2.2 | exact neS zqz.2 | exact neS zqz.2.2 | exact neS zqz.2.2.2 | exact neS zqz.2.2.2.2 | exact neS zqz.2.2.2.2.2 | exact neS zqz.2.2.2.2.2.2 | exact neS zqz.2.2.2.2.2.2.2 | exact neS zqz.2.2.2.2.2.2.2.2 | exact neT zqz.1 | exact neT zqz.1.1 | exact neT zqz.1.2 | exact neT zqz.1.2.1 | exact neT zqz.1.2.2 | exact neT zqz.2.1 | exact neT zqz.2.1.1 | exact neT zqz.2.1.2 | exact neT zqz.2.1.2.1 | exact neT zqz.2.1.2.2 | exact neT zqz.2.2.1 | exact neT zqz.2.2.1.1 | exact neT zqz.2.2.1.2 | exact neT zqz.2.2.1.2.1 | exact neT zqz.2.2.1.2.2 | exact neT zqz.2.2.2.1 | exact neT zqz.2.2.2.1.1 | exact neT zqz.2.2.2.1.2 | exact neT zqz.2.2.2.1.2.1 | exact neT zqz.2.2.2.1.2.2 | exact neT zqz.2.2.2.2.1 | exact neT zqz.2.2.2.2.1.1 | exact neT zqz.2.2.2.2.1.2 | exact neT zqz.2.2.2.2.1.2.1 | exact neT zqz.2.2.2.2.1.2.2 | exact neT zqz.2.2.2.2.2.1 | exact neT zqz.2.2.2.2.2.1.1 | exact neT zqz.2.2.2.2.2.1.2 | exact neT zqz.2.2.2.2.2.1.2.1 | exact neT zqz.2.2.2.2.2.1.2.2 | exact neT zqz.2.2.2.2.2.2.1 | exact neT zqz.2.2.2.2.2.2.1.1 | exact neT zqz.2.2.2.2.2.2.1.2 | exact neT zqz.2.2.2.2.2.2.1.2.1 | exact neT zqz.2.2.2.2.2.2.1.2.2 | exact neT zqz.2.2.2.2.2.2.2.1 | exact neT zqz.2.2.2.2.2.2.2.1.1 | exact neT zqz.2.2.2.2.2.2.2.1.2 | exact neT zqz.2.2.2.2.2.2.2.1.2.1 | exact neT zqz.2.2.2.2.2.2.2.1.2.2 | exact neT zqz.2.2.2.2.2.2.2.2.1 | exact neT zqz.2.2.2.2.2.2.2.2.1.1 | exact neT zqz.2.2.2.2.2.2.2.2.1.2 | exact neT zqz.2.2.2.2.2.2.2.2.1.2.1 | exact neT zqz.2.2.2.2.2.2.2.2.1.2.2 | exact neT zqz.2 | exact neT zqz.2.2 | exact neT zqz.2.2.2 | exact neT zqz.2.2.2.2 | exact neT zqz.2.2.2.2.2 | exact neT zqz.2.2.2.2.2.2 | exact neT zqz.2.2.2.2.2.2.2 | exact neT zqz.2.2.2.2.2.2.2.2 | (clear zqz; walk_at "ne_look")))))
  (k_with "m om" => (first | ((repeat (with_reducible rename _ ∧ _ => zqzz; clear zqzz)); (repeat (with_reducible rename @Ne Nat _ _ => zqzz; clear zqzz)); omega) | omega))
  (k_with "m spec_enter" => ((
  w_top off
  unfold SpecC
  k_fill
  intro zqdp zqun zqgd zqcn zqcs zqa zqccd zqcl zqouter zqA₀ zqbase zqh₀ zqL zqm zqs zqQ zqE zqB zqF zqX zqN zqT zqhk zqhpre zqhd zqhu zqhret
  obtain ⟨zqsh, zqsg, zqsd, zqst, zqso⟩ := zqs
  dsimp only at zqF zqN zqhpre zqhret
  refine wpAny_call ?_
  refine' callSK ?k1.u4 ?k2.u4 ?k3.u4 ?k4.u4 ?k5.u4 ?kA.u4 ?kF.u4 ?kK.u4 ?kpre.u4 ?kret.u4 ?k6.u4 ?k7.u4 ?k8.u4 ?k9.u4 ?kB.u4 ?_ ?c2.u4 ?c3.u4 ?c4.u4 ?c5.u4
  (case kA => exact rfl); (case kF => exact rfl); (case kK => assumption); (case k1 => k_asm); (case k2 => k_asm); (case k3 => k_asm); (case k4 => k_asm); (case k5 => k_asm)
  (case kpre => exact zqhpre)
  (case kret => exact zqhret)
  (case k6 => k_is); (case k7 => k_is); (case k8 => ktr_room); (case k9 => exact BindsTo.of_eq rfl); (case kB => exact locs rfl); (case c2 => decide); (case c3 => exact rfl); (case c4 => exact rfl); (case c5 => exact rfl)
  clear zqhpre zqhret
  k_whole
  intro zqg' zqL' zqh' zqF' zqN' zqB' zqX' zqT' zqpre'
  (refine fold_fr zqF' ?_; clear zqF'; intro zqmm zqF')
  (try dsimp only); (refine abs_tok ?_; intro zqtk'); (try k_lift zqB'); (try k_fold))))
  (k_with "m spec_enterC" => ((
  w_top off
  unfold SpecC
  k_fill
  intro zqdp zqun zqgd zqcn zqcs zqa zqccd zqcl zqouter zqA₀ zqbase zqh₀ zqL zqm zqs zqQ zqE zqB zqF zqX zqN zqT zqhk zqhpre zqhd zqhu zqhret
  obtain ⟨zqsh, zqsg, zqsd, zqst, zqso⟩ := zqs
  dsimp only at zqF zqN zqhpre zqhret
  refine wpAny_call ?_
  refine' callSC ?k1.u5 ?k2.u5 ?k3.u5 ?k4.u5 ?k5.u5 ?kA.u5 ?kF.u5 ?kK.u5 ?kpre.u5 ?kret.u5 ?k6.u5 ?k7.u5 ?k8.u5 ?k9.u5 ?kB.u5 ?kD.u5 ?_ ?c3.u5 ?c4.u5 ?c5.u5
  (case kA => exact rfl); (case kF => exact rfl); (case kK => assumption); (case k1 => k_asm); (case k2 => k_asm); (case k3 => k_asm); (case k4 => k_asm); (case k5 => k_asm)
  (case kpre => exact zqhpre)
  (case kret => exact zqhret)
  (case k6 => k_is); (case k7 => k_is); (case k8 => ktr_room); (case k9 => exact BindsTo.of_eq rfl); (case kB => exact rfl); (case kD => decide +kernel); (case c3 => exact rfl); (case c4 => exact rfl); (case c5 => exact rfl)
  clear zqhpre zqhret
  k_whole
  intro zqg' zqL' zqh' zqtk' zqcells' zqF' zqN' zqY' zqB' zqX' zqT' zqpre' zql1
  (try k_lt zql1); k_cells zqY'; (try simp only [List.cons_append, List.nil_append] at zqN'); (try dsimp only); (try k_lift zqB'); (try k_fold))))
  (k_with "m spec_end" => (((try dsimp only); (try k_unfold); (try dsimp only))))
  (k_with "m pick_1" => (first | (refine' Pick1.here ?ph.u7; (case ph => k_dflt k_all)) | (refine' Pick1.next ?pn.u7 ?pt.u7; (case pn => k_ne); (case pt => walk_at "pick_1"))))
  (k_with "m use_1" => ((
  (case k1 => k_asm); (case k2 => k_asm); (case k3 => k_asm); (case k4 => k_asm); (case k5 => k_asm); (case kK => first | exact rfl | assumption)
  (case kd => ktr_room); (case ku => ktr_units); (case kp => k_dflt (walk_at "pick_1")))))
  (k_with "m use_2" => ((
  (case k1 => k_asm); (case k2 => k_asm); (case k3 => k_asm); (case k4 => k_asm); (case k5 => k_asm); (case kK => first | exact rfl | assumption)
  (case kd => ktr_room); (case ku => ktr_units); (case kp1 => k_dflt (walk_at "pick_1")); (case kp2 => k_dflt (walk_at "pick_1")))))
  (k_with "m use_0" => ((
  (case k1 => k_asm); (case k2 => k_asm); (case k3 => k_asm); (case k4 => k_asm); (case k5 => k_asm); (case kK => first | exact rfl | assumption)
  (case kd => ktr_room); (case ku => ktr_units))))
  (k_with "m ktr_room" => ((k_dflt (first | exact room1 (by assumption) (by decide) | exact room0 (by assumption) (by decide) | exact roomN (by assumption)))))
  (k_with "m ktr_units" => ((k_dflt (first | exact units1 (by assumption) (by decide) | exact room0 (by assumption) (by decide)))))
  (k_with "m k_ne" => ((refine neN ?_; (try dsimp only); first | walk_at "ne_look" | omega -splitDisjunctions | omega)))
  (k_with "m append_L" => ((k_here; (with_reducible show wpAny _ _ (call (Value.builtin _) [Value.ref _, _]) _ _ _); k_dflt (refine' append_L ?k1.u14 ?k2.u14 ?k3.u14 ?k4.u14 ?_; (case k1 => k_asm); (case k2 => k_asm); (case k3 => k_upd); (case k4 => first | omega | (simp only [List.length_append, List.length_cons, List.length_nil]; omega)); k_whole); intro zqh' zqF' zqN'; (try k_sweep))))
  (k_with "m all_lt" => (first
  | exact allLt_mem (by assumption)
  | exact allLt_mem (And.right (by assumption))
  | exact allLt_mem (And.right (And.right (by assumption)))
  | exact allLt_mem (And.right (And.right (And.right (by assumption))))
  | exact allLt_mem (And.right (And.right (And.right (And.right (by assumption)))))
  | exact allLt_mem (And.right (And.right (And.right (And.right (And.right (by assumption))))))
  | exact allLt_mem (And.right (And.right (And.right (And.right (And.right (And.right (by assumption)))))))
  | exact allLt_mem (And.right (And.right (And.right (And.right (And.right (And.right (And.right (by assumption))))))))
  | exact allLt_mem (And.right (And.right (And.right (And.right (And.right (And.right (And.right (And.right (by assumption)))))))))))
  (k_with "m own_off1" => (first | exact ownOff_nil | assumption | (refine ownOff_cons ?_ ?_; (first | exact OwnOff.ne (by assumption) (by k_memK) | walk_at "all_lt" | fail "own_off: an address"); walk_at "own_off1")))
  (k_with "m own_off" => (((try dsimp only [List.map_cons, List.map_nil]); walk_at "own_off1")))
  (k_with "m led_in1" => (first | exact sub_nil | (refine sub_cons ?_ ?_; k_mem; walk_at "led_in1")))
  (k_with "m led_in" => (((try dsimp only); walk_at "led_in1")))
  (k_with "m own_in1" => (first | assumption | (refine List.Mem.tail _ ?_; walk_at "own_in1")))
  (k_with "m own_in" => ((intro zqp zqhp; walk_at "own_in1")))
  (k_with "m jp_end" => ((
  (case hk => kst_all); (case hn => walk_at "led_in"); (case ho => walk_at "own_in"); (case ha => walk_at "own_off"))))
  (k_with "m is_list" => (first | is_list | exact isList_at (by k_asm) (by assumption)))
  (k_with "m sub_all1" => (first | exact sub_nil | (refine sub_cons ?_ ?_; k_mem; walk_at "sub_all1") | (intro zqp zqhp; walk_at "own_in1")))
  (k_with "m sub_all" => (((try simp only [List.cons_append, List.nil_append]); walk_at "sub_all1")))
  trivial
section
variable {w : World} {p : Program} {loose : List Str} {mean : ExcName → Option Value} {mg mb : Str → Option Value}
set_option maxHeartbeats 8000000 in
theorem pool_spec (sl : Addr) (vs : List Value) (ns : List Int) (hI : IntsAre vs ns) (hl : ns.length ≤ 63) (k : Int) (kt : Tok) (h0 : 0 ≤ k) (h1 : k < 2) :
    SpecC w p loose mean mg mb 77 (fun g => g.IsList sl vs.toArray) [] [.ref sl, .int k kt] 5
      (fun r news' => ∃ l o, r = .ref l ∧ news' = [(l, o)] ∧ SrcIs o) := by
  walk_at "spec_enter"
  k_steps
  · walk_at "spec_end"
    refine leaveS_ (by k_asm) (by k_asm) ?_
    exact ⟨_, _, rfl, rfl, _, _, _, _, _, rfl, fmod_lo _ (by decide), fmod_hi _ (by decide)⟩
  · walk_at "spec_end"
    refine leaveS_ (by k_asm) (by k_asm) ?_
    exact ⟨_, _, rfl, rfl, _, _, _, _, _, rfl, fmod_lo _ (by decide), fmod_hi _ (by decide)⟩
end
section
variable {w : World} {p : Program} {loose : List Str} {mean : ExcName → Option Value} {mg mb : Str → Option Value}
/-- the borders in their order -/
noncomputable def flat : List (Int × Int) → List Int
  | [] => []
  | s :: r => s.1 :: s.2 :: flat r
theorem flat_append : ∀ (as bs : List (Int × Int)), flat (as ++ bs) = flat as ++ flat bs
  | [], _ => rfl
  | s :: r, bs => by simp [flat, flat_append r bs]
theorem flat_length : ∀ ps : List (Int × Int), (flat ps).length = 2 * ps.length
  | [] => rfl
  | s :: r => by simp [flat, flat_length r]; omega
theorem flat_snoc {ps : List (Int × Int)} {i : Nat} {s : Int × Int} (h : ps[i]? = some s) : flat (ps.take (i + 1)) = flat (ps.take i) ++ [s.1] ++ [s.2] := by
  rw [List.take_add_one, h, flat_append]; simp [flat]
theorem said_16 : True := by
  (k_with "m call builtin:list.append" => (walk_at "append_L"))
  (k_with "m pyIter ref" => ((refine stand ?_)))
  trivial
set_option maxHeartbeats 8000000 in
theorem borders_spec (l : Addr) (ps : List (Int × Int)) (hl : ps.length ≤ 100) :
    SpecC w p loose mean mg mb 28 (fun g => SpansH g l ps) [] [.ref l] 5
      (fun r news' => ∃ l' vs n, r = .ref l' ∧ news' = [(l', listOf (List.toArray vs) n)] ∧ IntsAre vs (flat ps)) := by
  walk_at "spec_enter"
  k_steps
  rename SpansH _ _ _ => pre8
  obtain ⟨vs, hlst, hall⟩ := pre8
  rename Fr _ _ _ _ => F8
  rename News _ _ _ _ => N8
  refine For_turns F8 ?_
  k_steps
  unfold Stand
  refine' listT (σ := List Value × List Int × Nat) (fun c => [(_, listOf c.1.toArray c.2.2)])
    (fun c => [("found", .ref _)]) (fun i c => IntsAre c.1 c.2.1 ∧ c.2.1 = flat (ps.take i)) ([], [], _) rfl hlst F8 N8 ?hn ?hk ?hp ?turn ?done
  case hk => kst_all
  case hn => exact fun p hp => by with_unfolding_all exact hp
  case hp => exact ⟨.nil, rfl⟩
  case turn =>
    intro c i v u h tk own hv hoff hP F1 N1
    obtain ⟨ws, ns, n⟩ := c
    obtain ⟨s, hs, a, t, u', rfl, htup⟩ := hall.get i v hv
    dsimp only at hoff hP F1 N1
    simp only [List.cons_append, List.nil_append, List.map_cons, List.map_nil] at hoff N1
    obtain ⟨hI, hN⟩ := hP
    clear F8 N8
    try dsimp only
    simp only [kstB] at F1
    (refine fold_fr F1 ?_; clear F1; intro mm F1)
    (try (change wpAny _ _ _ _ _ _; k_fold))
    have hL : ws.length ≤ 200 := by rw [hI.length, hN, flat_length, List.length_take]; omega
    k_steps
    rename News _ _ _ _ => N7
    refine' jp_end (_, ns ++ [s.1] ++ [s.2], _) (by k_asm) N7 ?hn ?ho ?ha ?hk ?hp
    walk_at "jp_end"
    (case hp => exact ⟨(hI.append (.cons _ _ .nil)).append (.cons _ _ .nil), by rw [flat_snoc hs, ← hN]⟩)
  case done =>
    intro c u h tk hP F1 N1
    obtain ⟨ws, ns, n⟩ := c
    dsimp only at hP F1 N1
    obtain ⟨hI, hN⟩ := hP
    clear F8 N8
    try dsimp only
    simp only [kstB] at F1
    (refine fold_fr F1 ?_; clear F1; intro mm F1)
    (try (change wpAny _ _ _ _ _ _; k_fold))
    k_steps
    walk_at "spec_end"
    rename News _ _ _ _ => N7
    refine leaveS_ (by k_asm) N7 ⟨_, _, _, rfl, rfl, ?_⟩
    rw [hall.length, List.take_length] at hN
    exact hN ▸ hI
end
theorem again_17 : True := by
  k_with_none
  (k_with "m omega" => ((first | decide | (with_reducible exact Int.natCast_nonneg _) | exact om1 (by with_reducible assumption) (by decide) | exact om2 (by with_reducible assumption) (by decide) | exact om3 (by with_reducible assumption) (by decide) | exact om4 (by with_reducible assumption) (by decide) | exact om5 (by with_reducible assumption) (by decide) | exact om6 (by with_reducible assumption) (by decide) | exact om7 (by with_reducible assumption) (by decide) | exact om8 (by with_reducible assumption) (by decide) | exact om9 (by with_reducible assumption) (by decide) | exact om10 (by with_reducible assumption) (by decide) | exact om5 (by with_reducible assumption) (om2 (by with_reducible assumption) (by decide)) | exact om6 (by with_reducible assumption) (om1 (by with_reducible assumption) (by decide)) | exact Nat.le_of_lt (by with_reducible assumption) | exact Nat.succ_le_of_lt (by with_reducible assumption) | exact Int.le_of_lt (by with_reducible assumption) | exact Int.not_le.mp (by with_reducible assumption) | exact Int.not_lt.mp (by with_reducible assumption) | exact Nat.lt_of_not_le (by with_reducible assumption) | exact Nat.le_of_not_lt (by with_reducible assumption) | fail)))
  (k_with "m ne_look" => (with_reducible (first | (refine neS ?_; assumption) | (refine neT ?_; assumption) | (refine ltS ?_; assumption) | (refine ltT ?_; assumption) | (rename _ ∧ _ => zqz; first | ((have zqzz : @LT.lt Nat _ _ _ := zqz.1); clear zqzz; first | exact ltS zqz.1 | exact ltT zqz.1 | exact ltS zqz.2.1 | exact ltT zqz.2.1 | exact ltS zqz.2.2.1 | exact ltT zqz.2.2.1 | exact ltS zqz.2.2.2.1 | exact ltT zqz.2.2.2.1 | exact ltS zqz.2.2.2.2.1 | exact ltT zqz.2.2.2.2.1 | exact ltS zqz.2.2.2.2.2.1 | exact ltT zqz.2.2.2.2.2.1 | exact ltS zqz.2.2.2.2.2.2.1 | exact ltT zqz.2.2.2.2.2.2.1 | exact ltS zqz.2.2.2.2.2.2.2.1 | exact ltT zqz.2.2.2.2.2.2.2.1 | exact ltS zqz.2.2.2.2.2.2.2.2.1 | exact ltT zqz.2.2.2.2.2.2.2.2.1 | exact ltS zqz.2.2.2.2.2.2.2.2.2.1 | exact ltT zqz.2.2.2.2.2.2.2.2.2.1 | exact ltS zqz.2.2.2.2.2.2.2.2.2.2.1 | exact ltT zqz.2.2.2.2.2.2.2.2.2.2.1 | exact ltS zqz.2.2.2.2.2.2.2.2.2.2.2.1 | exact ltT zqz.2.2.2.2.2.2.2.2.2.2.2.1 | exact ltS zqz.2.2.2.2.2.2.2.2.2.2.2.2.1 | exact ltT zqz.2.2.2.2.2.2.2.2.2.2.2.2.1 | exact ltS zqz.2.2.2.2.2.2.2.2.2.2.2.2.2.1 | exact ltT zqz.2.2.2.2.2.2.2.2.2.2.2.2.2.1 | exact ltS zqz.2 | exact ltT zqz.2 | exact ltS zqz.2.2 | exact ltT zqz.2.2 | exact ltS zqz.2.2.2 | exact ltT zqz.2.2.2 | exact ltS zqz.2.2.2.2 | exact ltT zqz.2.2.2.2 | exact ltS zqz.2.2.2.2.2 | exact ltT zqz.2.2.2.2.2 | exact ltS zqz.2.2.2.2.2.2 | exact ltT zqz.2.2.2.2.2.2 | exact ltS zqz.2.2.2.2.2.2.2 | exact ltT zqz.2.2.2.2.2.2.2 | exact ltS zqz.2.2.2.2.2.2.2.2 | exact ltT zqz.2.2.2.2.2.2.2.2 | exact ltS zqz.2.2.2.2.2.2.2.2.2 | exact ltT zqz.2.2.2.2.2.2.2.2.2 | exact ltS zqz.2.2.2.2.2.2.2.2.2.2 | exact ltT zqz.2.2.2.2.2.2.2.2.2.2 | exact ltS zqz.2.2.2.2.2.2.2.2.2.2.2 | exact ltT zqz.2.2.2.2.2.2.2.2.2.2.2 | exact ltS zqz.2.2.2.2.2.2.2.2.2.2.2.2 | exact ltT zqz.2.2.2.2.2.2.2.2.2.2.2.2 | exact ltS zqz.2.2.2.2.2.2.2.2.2.2.2.2.2 | exact ltT zqz.2.2.2.2.2.2.2.2.2.2.2.2.2) | exact neS zqz.1 | exact neS zqz.1.1 | exact neS zqz.1.2 | exact neS zqz.1.2.1 | exact neS zqz.1.2.2 | exact neS zqz.2.1 | exact neS zqz.2.1.1 | exact neS zqz.2.1.2 | exact neS zqz.2.1.2.1 | exact neS zqz.2.1.2.2 | exact neS zqz.2.2.1 | exact neS zqz.2.2.1.1 | exact neS zqz.2.2.1.2 | exact neS zqz.2.2.1.2.1 | exact neS zqz.2.2.1.2.2 | exact neS zqz.2.2.2.1 | exact neS zqz.2.2.2.1.1 | exact neS zqz.2.2.2.1.2 | exact neS zqz.2.2.2.1.2.1 | exact neS zqz.2.2.2.1.2.2 | exact neS zqz.2.2.2.2.1 | exact neS zqz.2.2.2.2.1.1 | exact neS zqz.2.2.2.2.1.2 | exact neS zqz.2.2.2.2.1.2.1 | exact neS zqz.2.2.2.2.1.2.2 | exact neS zqz.2.2.2.2.2.1 | exact neS zqz.2.2.2.2.2.1.1 | exact neS zqz.2.2.2.2.2.1.2 | exact neS zqz.2.2.2.2.2.1.2.1 | exact neS zqz.2.2.2.2.2.1.2.2 | exact neS zqz.2.2.2.2.2.2.1 | exact neS zqz.2.2.2.2.2.2.1.1 | exact neS zqz.2.2.2.2.2.2.1.2 | exact neS zqz.2.2.2.2.2.2.1.2.1 | exact neS zqz.2.2.2.2.2.2.1.2.2 | exact neS zqz.2.2.2.2.2.2.2.1 | exact neS zqz.2.2.2.2.2.2.2.1.1 | exact neS zqz.2.2.2.2.2.2.2.1.2 | exact neS zqz.2.2.2.2.2.2.2.1.2.1 | exact neS zqz.2.2.2.2.2.2.2.1.2.2 | exact neS zqz.2.2.2.2.2.2.2.2.1 | exact neS zqz.2.2.2.2.2.2.2.2.1.1 | exact neS zqz.2.2.2.2.2.2.2.2.1.2 | exact neS zqz.2.2.2.2.2.2.2.2.1.2.1 | exact neS zqz.2.2.2.2.2.2.2.2.1.2.2 | exact neS zqz.2 | exact neS zqz.2.2 | exact neS zqz.2.2.2 | exact neS zqz.2.2.2.2 | exact neS zqz.2.2.2.2.2 | exact neS zqz.2.2.2.2.2.2 | exact neS zqz.2.2.2.2.2.2.2 | exact neS zqz.2.2.2.2.2.2.2.2 | exact neT zqz.1 | exact neT zqz.1.1 | exact neT zqz.1.2 | exact neT zqz.1.2.1 | exact neT zqz.1.2.2 | exact neT zqz.2.1 | exact neT zqz.2.1.1 | exact neT zqz.2.1.2 | exact neT zqz.2.1.2.1 | exact neT zqz.2.1.2.2 | exact neT zqz.2.2.1 | exact neT zqz.2.2.1.1 | exact neT zqz.2.2.1.2 | exact neT zqz.2.2.1.2.1 | exact neT zqz.2.2.1.2.2 | exact neT zqz.2.2.2.1 | exact neT zqz.2.2.2.1.1 | exact neT zqz.2.2.2.1.2 | exact neT zqz.2.2.2.1.2.1 | exact neT zqz.2.2.2.1.2.2 | exact neT zqz.2.2.2.2.1 | exact neT zqz.2.2.2.2.1.1 | exact neT zqz.2.2.2.2.1.2 | exact neT zqz.2.2.2.2.1.2.1 | exact neT zqz.2.2.2.2.1.2.2 | exact neT zqz.2.2.2.2.2.1 | exact neT zqz.2.2.2.2.2.1.1 | exact neT zqz.2.2.2.2.2.1.2 | exact neT zqz.2.2.2.2.2.1.2.1 | exact neT zqz.2.2.2.2.2.1.2.2 | exact neT zqz.2.2.2.2.2.2.1 | exact neT zqz.2.2.2.2.2.2.1.1 | exact neT zqz.2.2.2.2.2.2.1.2 | exact neT zqz.2.2.2.2.2.2.1.2.1 | exact neT zqz.2.2.2.2.2.2.1.2.2 | exact neT zqz.2.2.2.2.2.2.2.1 | exact neT zqz.2.2.2.2.2.2.2.1.1 | exact neT zqz.2.2.2.2.2.2.2.1.2 | exact neT zqz.2.2.2.2.2.2.2.1.2.1 | exact neT zqz.2.2.2.2.2.2.2.1.2.2 | exact neT zqz.2.2.2.2.2.2.2.2.1 | exact neT zqz.2.2.2.2.2.2.2.2.1.1 | exact neT zqz.2.2.2.2.2.2.2.2.1.2 | exact neT zqz.2.2.2.2.2.2.2.2.1.2.1 | exact neT zqz.2.2.2.2.2.2.2.2.1.2.2 | exact neT zqz.2 | exact neT zqz.2.2 | exact neT zqz.2.2.2 | exact neT zqz.2.2.2.2 | exact neT zqz.2.2.2.2.2 | exact neT zqz.2.2.2.2.2.2 | exact neT zqz.2.2.2.2.2.2.2 | exact neT zqz.2.2.2.2.2.2.2.2 | (clear zqz; walk_at "ne_look")))))
  (k_with "m om" => (first | ((repeat (with_reducible rename _ ∧ _ => zqzz; clear zqzz)); (repeat (with_reducible rename @Ne Nat _ _ => zqzz; clear zqzz)); omega) | omega))
  (k_with "m spec_enter" => ((
  w_top off
  unfold SpecC
  k_fill
  intro zqdp zqun zqgd zqcn zqcs zqa zqccd zqcl zqouter zqA₀ zqbase zqh₀ zqL zqm zqs zqQ zqE zqB zqF zqX zqN zqT zqhk zqhpre zqhd zqhu zqhret
  obtain ⟨zqsh, zqsg, zqsd, zqst, zqso⟩ := zqs
  dsimp only at zqF zqN zqhpre zqhret
  refine wpAny_call ?_
  refine' callSK ?k1.u4 ?k2.u4 ?k3.u4 ?k4.u4 ?k5.u4 ?kA.u4 ?kF.u4 ?kK.u4 ?kpre.u4 ?kret.u4 ?k6.u4 ?k7.u4 ?k8.u4 ?k9.u4 ?kB.u4 ?_ ?c2.u4 ?c3.u4 ?c4.u4 ?c5.u4
  (case kA => exact rfl); (case kF => exact rfl); (case kK => assumption); (case k1 => k_asm); (case k2 => k_asm); (case k3 => k_asm); (case k4 => k_asm); (case k5 => k_asm)
  (case kpre => exact zqhpre)
  (case kret => exact zqhret)
  (case k6 => k_is); (case k7 => k_is); (case k8 => ktr_room); (case k9 => exact BindsTo.of_eq rfl); (case kB => exact locs rfl); (case c2 => decide); (case c3 => exact rfl); (case c4 => exact rfl); (case c5 => exact rfl)
  clear zqhpre zqhret
  k_whole
  intro zqg' zqL' zqh' zqF' zqN' zqB' zqX' zqT' zqpre'
  (refine fold_fr zqF' ?_; clear zqF'; intro zqmm zqF')
  (try dsimp only); (refine abs_tok ?_; intro zqtk'); (try k_lift zqB'); (try k_fold))))
  (k_with "m spec_enterC" => ((
  w_top off
  unfold SpecC
  k_fill
  intro zqdp zqun zqgd zqcn zqcs zqa zqccd zqcl zqouter zqA₀ zqbase zqh₀ zqL zqm zqs zqQ zqE zqB zqF zqX zqN zqT zqhk zqhpre zqhd zqhu zqhret
  obtain ⟨zqsh, zqsg, zqsd, zqst, zqso⟩ := zqs
  dsimp only at zqF zqN zqhpre zqhret
  refine wpAny_call ?_
  refine' callSC ?k1.u5 ?k2.u5 ?k3.u5 ?k4.u5 ?k5.u5 ?kA.u5 ?kF.u5 ?kK.u5 ?kpre.u5 ?kret.u5 ?k6.u5 ?k7.u5 ?k8.u5 ?k9.u5 ?kB.u5 ?kD.u5 ?_ ?c3.u5 ?c4.u5 ?c5.u5
  (case kA => exact rfl); (case kF => exact rfl); (case kK => assumption); (case k1 => k_asm); (case k2 => k_asm); (case k3 => k_asm); (case k4 => k_asm); (case k5 => k_asm)
  (case kpre => exact zqhpre)
  (case kret => exact zqhret)
  (case k6 => k_is); (case k7 => k_is); (case k8 => ktr_room); (case k9 => exact BindsTo.of_eq rfl); (case kB => exact rfl); (case kD => decide +kernel); (case c3 => exact rfl); (case c4 => exact rfl); (case c5 => exact rfl)
  clear zqhpre zqhret
  k_whole
  intro zqg' zqL' zqh' zqtk' zqcells' zqF' zqN' zqY' zqB' zqX' zqT' zqpre' zql1
  (try k_lt zql1); k_cells zqY'; (try simp only [List.cons_append, List.nil_append] at zqN'); (try dsimp only); (try k_lift zqB'); (try k_fold))))
  (k_with "m spec_end" => (((try dsimp only); (try k_unfold); (try dsimp only))))
  (k_with "m pick_1" => (first | (refine' Pick1.here ?ph.u7; (case ph => k_dflt k_all)) | (refine' Pick1.next ?pn.u7 ?pt.u7; (case pn => k_ne); (case pt => walk_at "pick_1"))))
  (k_with "m use_1" => ((
  (case k1 => k_asm); (case k2 => k_asm); (case k3 => k_asm); (case k4 => k_asm); (case k5 => k_asm); (case kK => first | exact rfl | assumption)
  (case kd => ktr_room); (case ku => ktr_units); (case kp => k_dflt (walk_at "pick_1")))))
  (k_with "m use_2" => ((
  (case k1 => k_asm); (case k2 => k_asm); (case k3 => k_asm); (case k4 => k_asm); (case k5 => k_asm); (case kK => first | exact rfl | assumption)
  (case kd => ktr_room); (case ku => ktr_units); (case kp1 => k_dflt (walk_at "pick_1")); (case kp2 => k_dflt (walk_at "pick_1")))))
  (k_with "m use_0" => ((
  (case k1 => k_asm); (case k2 => k_asm); (case k3 => k_asm); (case k4 => k_asm); (case k5 => k_asm); (case kK => first | exact rfl | assumption)
  (case kd => ktr_room); (case ku => ktr_units))))
  (k_with "m ktr_room" => ((k_dflt (first | exact room1 (by assumption) (by decide) | exact room0 (by assumption) (by decide) | exact roomN (by assumption)))))
  (k_with "m ktr_units" => ((k_dflt (first | exact units1 (by assumption) (by decide) | exact room0 (by assumption) (by decide)))))
  (k_with "m k_ne" => ((refine neN ?_; (try dsimp only); first | walk_at "ne_look" | omega -splitDisjunctions | omega)))
  (k_with "m append_L" => ((k_here; (with_reducible show wpAny _ _ (call (Value.builtin _) [Value.ref _, _]) _ _ _); k_dflt (refine' append_L ?k1.u14 ?k2.u14 ?k3.u14 ?k4.u14 ?_; (case k1 => k_asm); (case k2 => k_asm); (case k3 => k_upd); (case k4 => first | omega | (simp only [List.length_append, List.length_cons, List.length_nil]; omega)); k_whole); intro zqh' zqF' zqN'; (try k_sweep))))
  (k_with "m all_lt" => (first
  | exact allLt_mem (by assumption)
  | exact allLt_mem (And.right (by assumption))
  | exact allLt_mem (And.right (And.right (by assumption)))
  | exact allLt_mem (And.right (And.right (And.right (by assumption))))
  | exact allLt_mem (And.right (And.right (And.right (And.right (by assumption)))))
  | exact allLt_mem (And.right (And.right (And.right (And.right (And.right (by assumption))))))
  | exact allLt_mem (And.right (And.right (And.right (And.right (And.right (And.right (by assumption)))))))
  | exact allLt_mem (And.right (And.right (And.right (And.right (And.right (And.right (And.right (by assumption))))))))
  | exact allLt_mem (And.right (And.right (And.right (And.right (And.right (And.right (And.right (And.right (by assumption)))))))))))
  (k_with "m own_off1" => (first | exact ownOff_nil | assumption | (refine ownOff_cons ?_ ?_; (first | exact OwnOff.ne (by assumption) (by k_memK) | walk_at "all_lt" | fail "own_off: an address"); walk_at "own_off1")))
  (k_with "m own_off" => (((try dsimp only [List.map_cons, List.map_nil]); walk_at "own_off1")))
  (k_with "m led_in1" => (first | exact sub_nil | (refine sub_cons ?_ ?_; k_mem; walk_at "led_in1")))
  (k_with "m led_in" => (((try dsimp only); walk_at "led_in1")))
  (k_with "m own_in1" => (first | assumption | (refine List.Mem.tail _ ?_; walk_at "own_in1")))
  (k_with "m own_in" => ((intro zqp zqhp; walk_at "own_in1")))
  (k_with "m jp_end" => ((
  (case hk => kst_all); (case hn => walk_at "led_in"); (case ho => walk_at "own_in"); (case ha => walk_at "own_off"))))
  (k_with "m is_list" => (first | is_list | exact isList_at (by k_asm) (by assumption)))
  (k_with "m sub_all1" => (first | exact sub_nil | (refine sub_cons ?_ ?_; k_mem; walk_at "sub_all1") | (intro zqp zqhp; walk_at "own_in1")))
  (k_with "m sub_all" => (((try simp only [List.cons_append, List.nil_append]); walk_at "sub_all1")))
  trivial
section
variable {w : World} {p : Program} {loose : List Str} {mean : ExcName → Option Value} {mg mb' : Str → Option Value}
/-- a place put behind the found ones, unless it is the last -/
noncomputable def push (f : List Int) (x : Int) : List Int := if f = [] ∨ f.getD (f.length - 1) 0 ≠ x then f ++ [x] else f
/-- two rising rows put into one: the right row walked while its head is less -/
noncomputable def mbGo (a : Int) (k : List Int → List Int → List Int) : List Int → List Int → List Int
  | f, [] => k (push f a) []
  | f, b :: bs => if a ≤ b then k (push f a) (b :: bs) else mbGo a k (push f b) bs
noncomputable def mbA : List Int → List Int → List Int → List Int
  | [], f, bs => bs.foldl push f
  | a :: as, f, bs => mbGo a (mbA as) f bs
noncomputable def mb (f as bs : List Int) : List Int := mbA as f bs
theorem mb_nn (f : List Int) : mb f [] [] = f := rfl
theorem mb_ind {C : List Int → List Int → List Int → Prop} (case1 : ∀ f, C f [] []) (case2 : ∀ f a as, C (push f a) as [] → C f (a :: as) []) (case3 : ∀ f b bs, C (push f b) [] bs → C f [] (b :: bs))
    (case4 : ∀ f a as b bs, a ≤ b → C (push f a) as (b :: bs) → C f (a :: as) (b :: bs)) (case5 : ∀ f a as b bs, ¬ a ≤ b → C (push f b) (a :: as) bs → C f (a :: as) (b :: bs)) : ∀ f as bs, C f as bs := by
  intro f as
  induction as generalizing f with
  | nil =>
    intro bs
    induction bs generalizing f with
    | nil => exact case1 f
    | cons b bs ih => exact case3 f b bs (ih _)
  | cons a as iha =>
    intro bs
    induction bs generalizing f with
    | nil => exact case2 f a as (iha _ _)
    | cons b bs ih =>
      by_cases h : a ≤ b
      · exact case4 f a as b bs h (iha _ _)
      · exact case5 f a as b bs h (ih _)
noncomputable def QS (ps1 ps2 : List (Int × Int)) : List Int := Mine.mb [] (flat ps1) (flat ps2)
noncomputable def MbInv (ns as bs : List Int) (i j : Nat) : Prop := mb ns (as.drop i) (bs.drop j) = mb [] as bs
theorem len_pos_of_dec {ns : List Int} (h : decide (ns = []) = false) : 0 < ns.length := by
  cases ns with
  | nil => simp at h
  | cons _ _ => exact Nat.succ_pos _
theorem push_app {ns : List Int} {x : Int} (h : ns = [] ∨ ns.getD (ns.length - 1) 0 ≠ x) : push ns x = ns ++ [x] := if_pos h
theorem push_same {ns : List Int} {x : Int} (h : ns ≠ []) (h2 : ns.getD (ns.length - 1) 0 = x) : push ns x = ns := if_neg (by rintro (h3 | h3); exact h h3; exact h3 h2)
theorem drop_getD {as : List Int} {i : Nat} (h : i < as.length) : as.drop i = as.getD i 0 :: as.drop (i + 1) := by
  rw [List.drop_eq_getElem_cons h]; simp [List.getD_eq_getElem?_getD, List.getElem?_eq_getElem h]
theorem mb_nil_right {f as : List Int} {a : Int} : mb f (a :: as) [] = mb (push f a) as [] := rfl
theorem mb_nil_left {f bs : List Int} {b : Int} : mb f [] (b :: bs) = mb (push f b) [] bs := rfl
theorem mb_both {f as bs : List Int} {a b : Int} : mb f (a :: as) (b :: bs) = if a ≤ b then mb (push f a) as (b :: bs) else mb (push f b) (a :: as) bs := rfl
theorem mb_left {ns as bs : List Int} {i j : Nat} (h : MbInv ns as bs i j) (hi : i < as.length) (hj : j = bs.length ∨ (j < bs.length ∧ as.getD i 0 ≤ bs.getD j 0)) : MbInv (push ns (as.getD i 0)) as bs (i + 1) j := by
  unfold MbInv at h ⊢
  rw [drop_getD hi] at h
  rcases hj with rfl | ⟨hj, hle⟩
  · rw [List.drop_length] at h ⊢
    rw [mb_nil_right] at h; exact h
  · rw [drop_getD hj] at h ⊢
    rw [mb_both, if_pos hle] at h; exact h
theorem mb_right {ns as bs : List Int} {i j : Nat} (h : MbInv ns as bs i j) (hj : j < bs.length) (hi : i = as.length ∨ (i < as.length ∧ ¬ as.getD i 0 ≤ bs.getD j 0)) : MbInv (push ns (bs.getD j 0)) as bs i (j + 1) := by
  unfold MbInv at h ⊢
  rw [drop_getD hj] at h
  rcases hi with rfl | ⟨hi, hle⟩
  · rw [List.drop_length] at h ⊢
    rw [mb_nil_left] at h; exact h
  · rw [drop_getD hi] at h ⊢
    rw [mb_both, if_neg hle] at h; exact h
theorem last_idx {ns : List Int} : (-1 + (ns.length : Int)).toNat = ns.length - 1 := neg1 _
theorem push_appZ {ns : List Int} {x : Int} (h : ns.getD (-1 + (ns.length : Int)).toNat 0 ≠ x) : push ns x = ns ++ [x] := push_app (.inr (last_idx ▸ h))
theorem push_sameZ {ns : List Int} {x : Int} (h : decide (ns = []) = false) (h2 : ns.getD (-1 + (ns.length : Int)).toNat 0 = x) : push ns x = ns := push_same (of_decide_eq_false h) (last_idx ▸ h2)
theorem fin_left {ns as bs r : List Int} {i j : Nat} (h : MbInv ns as bs i j) (hr : push ns (as.getD (i : Int).toNat 0) = r) (hi : i < as.length) (hj : j = bs.length ∨ (j < bs.length ∧ as.getD (i : Int).toNat 0 ≤ bs.getD (j : Int).toNat 0)) : MbInv r as bs (i + 1) j := by
  simp only [Int.toNat_natCast] at hj hr; subst hr; exact mb_left h hi hj
theorem fin_right {ns as bs r : List Int} {i j : Nat} (h : MbInv ns as bs i j) (hr : push ns (bs.getD (j : Int).toNat 0) = r) (hj : j < bs.length) (hi : i = as.length ∨ (i < as.length ∧ ¬ as.getD (i : Int).toNat 0 ≤ bs.getD (j : Int).toNat 0)) : MbInv r as bs i (j + 1) := by
  simp only [Int.toNat_natCast] at hi hr; subst hr; exact mb_right h hj hi
theorem mb_done {ns as bs : List Int} {i j : Nat} (h : MbInv ns as bs i j) (hi : as.length ≤ i) (hj : bs.length ≤ j) : ns = mb [] as bs := by
  unfold MbInv at h
  rw [List.drop_of_length_le hi, List.drop_of_length_le hj, mb_nn] at h; exact h
theorem said_18 : True := by
  (k_with "m subscriptTail Name UnaryOp ref int" => (((with_reducible show wpAny _ _ (subscriptTail _ _ (Value.ref _) (Value.int _ _)) _ _ _); (have zqhln := len_pos_of_dec (by assumption)); (with_unfolding_all refine' item_list_ints_neg ?k1.u38 ?k2.u38 ?k3.u38 ?k4.u38 ?k5.u38 ?_; (case k1 => is_list); (case k2 => l_ints); (case k3 => omega); (case k4 => omega); (case k5 => omega); k_whole); intro _)))
  (k_with "m call builtin:list.append" => (walk_at "append_L"))
  (k_with "m push" => (first | exact push_app (.inl (of_decide_eq_true (by assumption))) | exact push_appZ (by assumption) | exact push_sameZ (by assumption) (by assumption)))
  (k_with "m exec While BoolOp cons nil" => ((refine stand ?_)))
  (k_with "m call ref" => ((
  (with_reducible show wpAny _ _ (call (Value.ref 28) _) _ _ _)
  k_dflt (refine' specC_use0 (borders_spec _ _ ?hb.u42) ?k1.u42 ?k2.u42 ?k3.u42 ?k4.u42 ?k5.u42 ?kK.u42 ?kd.u42 ?ku.u42 ?kpre.u42 ?_)
  walk_at "use_0"
  (case kpre => (intro zqg zqst zqhq; exact SpansH.keeps zqst (by assumption))); (case hb => assumption)
  k_whole
  refine ret_list ?_
  intro zql9 zqvs9 zqn9 zqh9 zqtk9 zqF9 zqN9 zqD9 zqhI9
  (try simp only [List.forall_mem_cons, List.not_mem_nil, false_implies, implies_true, and_true, ne_eq] at zqD9))))
  (k_with "m compareOp Eq ref ref" => ((k_here; (with_reducible show wpAny _ _ (compareOp CmpOp.Eq (Value.ref _) (Value.ref _)) _ _ _); (with_unfolding_all refine' eq_intsK ?k1.u43 ?k2.u43 ?k3.u43 ?k4.u43 ?k5.u43 ?_; (case k1 => is_list); (case k2 => l_ints); (case k3 => is_list); (case k4 => l_ints); (case k5 => ktr_units); k_whole))))
  trivial
theorem sub_left {n a b : Nat} (h : a + b < n) : n - (a + 1 + b) < n - (a + b) := by omega
theorem sub_right {n a b : Nat} (h : a + b < n) : n - (a + (b + 1)) < n - (a + b) := by omega
set_option maxHeartbeats 4000000 in
theorem merged_spec (l1 l2 : Addr) (ps1 ps2 : List (Int × Int)) (hl1 : ps1.length ≤ 100) (hl2 : ps2.length ≤ 100) :
    SpecC w p loose mean mg mb' 35 (fun g => SpansH g l1 ps1 ∧ SpansH g l2 ps2) [] [.ref l1, .ref l2] 12
      (fun r news' => ∃ l' vs n, r = .ref l' ∧ news' = [(l', listOf (List.toArray vs) n)] ∧ IntsAre vs (QS ps1 ps2)) := by
  walk_at "spec_enter"
  rename _ ∧ _ => pre8
  obtain ⟨pre1, pre2⟩ := pre8
  have hz1 := flat_length ps1
  have hz2 := flat_length ps2
  k_steps
  unfold Stand
  rename Fr _ _ _ _ => F8
  rename News _ _ _ _ => N8
  obtain ⟨fl, rfl⟩ := nameR F8 "found" rfl
  obtain ⟨f1, rfl⟩ := nameR F8 "first" rfl
  obtain ⟨f2, rfl⟩ := nameR F8 "second" rfl
  obtain ⟨vs1, n1, rfl, rfl⟩ := nameL N8 f1 (by k_mem)
  obtain ⟨vs2, n2, rfl, rfl⟩ := nameL N8 f2 (by k_mem)
  refine' whileJ (σ := List Value × List Int × Nat × Nat × Nat × Tok × Tok) (fun c => [(fl, listOf c.1.toArray c.2.2.1), (f1, listOf vs1.toArray n1), (f2, listOf vs2.toArray n2)])
    (fun c => [("found", .ref fl), ("at", .int c.2.2.2.1 c.2.2.2.2.2.1), ("to", .int c.2.2.2.2.1 c.2.2.2.2.2.2), ("first", .ref f1), ("second", .ref f2)])
    (fun c => IntsAre c.1 c.2.1 ∧ c.2.2.2.1 ≤ (flat ps1).length ∧ c.2.2.2.2.1 ≤ (flat ps2).length ∧ c.2.1.length ≤ c.2.2.2.1 + c.2.2.2.2.1 ∧ MbInv c.2.1 (flat ps1) (flat ps2) c.2.2.2.1 c.2.2.2.2.1)
    (fun c => (flat ps1).length + (flat ps2).length - (c.2.2.2.1 + c.2.2.2.2.1)) ([], [], _, 0, 0, _, _) F8 N8 ?hn ?hk ?hp ?turn (by passes_own)
  case hk => kst_all
  case hn => walk_at "led_in"
  case hp => exact ⟨.nil, Nat.zero_le _, Nat.zero_le _, Nat.zero_le _, by unfold MbInv; dsimp only; rw [List.drop_zero, List.drop_zero]⟩
  case turn =>
    intro c u h tk hP F1 N1 W R1 E1
    obtain ⟨vs, ns, n, a, b, ta, tb⟩ := c
    dsimp only at hP F1 N1
    obtain ⟨hI, h1, h2, h3, h4⟩ := hP
    have hvl := hI.length
    have hcap : vs.length ≤ 400 := by omega
    have hcap2 : ns.length ≤ 400 := by omega
    have hca : a ≤ 200 := by omega
    have hcb : b ≤ 200 := by omega
    clear F8 N8
    try dsimp only
    simp only [kstB] at F1
    (refine fold_fr F1 ?_; clear F1; intro mm F1)
    k_steps
    all_goals (try dsimp only [WhPost])
    all_goals rename News _ _ _ _ => N7
    all_goals first
      | (refine' wh_end (_, ns ++ [(flat ps1).getD (a : Int).toNat 0], _, a + 1, b, _, _) (by k_asm) N7 ?hn ?hk ?hp ?hm
         (case hk => kst_all)
         (case hn => walk_at "led_in")
         (case hm => dsimp only; first | exact sub_left (by omega) | exact sub_right (by omega))
         (case hp => dsimp only; exact ⟨hI.append (.cons _ _ .nil), by omega, h2, by simp only [List.length_append, List.length_cons, List.length_nil]; omega, fin_left h4 (by walk_at "push") (by omega) (by first | exact .inl (by omega) | exact .inr ⟨by omega, by assumption⟩)⟩))
      | (refine' wh_end (_, ns, _, a + 1, b, _, _) (by k_asm) N7 ?hn ?hk ?hp ?hm
         (case hk => kst_all)
         (case hn => walk_at "led_in")
         (case hm => dsimp only; first | exact sub_left (by omega) | exact sub_right (by omega))
         (case hp => dsimp only; exact ⟨hI, by omega, h2, by omega, fin_left h4 (by walk_at "push") (by omega) (by first | exact .inl (by omega) | exact .inr ⟨by omega, by assumption⟩)⟩))
      | (refine' wh_end (_, ns ++ [(flat ps2).getD (b : Int).toNat 0], _, a, b + 1, _, _) (by k_asm) N7 ?hn ?hk ?hp ?hm
         (case hk => kst_all)
         (case hn => walk_at "led_in")
         (case hm => dsimp only; first | exact sub_left (by omega) | exact sub_right (by omega))
         (case hp => dsimp only; exact ⟨hI.append (.cons _ _ .nil), h1, by omega, by simp only [List.length_append, List.length_cons, List.length_nil]; omega, fin_right h4 (by walk_at "push") (by omega) (by first | exact .inl (by omega) | exact .inr ⟨by omega, by assumption⟩)⟩))
      | (refine' wh_end (_, ns, _, a, b + 1, _, _) (by k_asm) N7 ?hn ?hk ?hp ?hm
         (case hk => kst_all)
         (case hn => walk_at "led_in")
         (case hm => dsimp only; first | exact sub_left (by omega) | exact sub_right (by omega))
         (case hp => dsimp only; exact ⟨hI, h1, by omega, by omega, fin_right h4 (by walk_at "push") (by omega) (by first | exact .inl (by omega) | exact .inr ⟨by omega, by assumption⟩)⟩))
      | (exfalso; omega)
      | (walk_at "spec_end"
         refine leaveS_sub [(fl, listOf vs.toArray n)] (by k_asm) N7 (by walk_at "led_in") ⟨_, _, _, rfl, rfl, ?_⟩
         rw [QS, ← mb_done h4 (by omega) (by omega)]; exact hI)
end
theorem again_19 : True := by
  k_with_none
  (k_with "m omega" => ((first | decide | (with_reducible exact Int.natCast_nonneg _) | exact om1 (by with_reducible assumption) (by decide) | exact om2 (by with_reducible assumption) (by decide) | exact om3 (by with_reducible assumption) (by decide) | exact om4 (by with_reducible assumption) (by decide) | exact om5 (by with_reducible assumption) (by decide) | exact om6 (by with_reducible assumption) (by decide) | exact om7 (by with_reducible assumption) (by decide) | exact om8 (by with_reducible assumption) (by decide) | exact om9 (by with_reducible assumption) (by decide) | exact om10 (by with_reducible assumption) (by decide) | exact om5 (by with_reducible assumption) (om2 (by with_reducible assumption) (by decide)) | exact om6 (by with_reducible assumption) (om1 (by with_reducible assumption) (by decide)) | exact Nat.le_of_lt (by with_reducible assumption) | exact Nat.succ_le_of_lt (by with_reducible assumption) | exact Int.le_of_lt (by with_reducible assumption) | exact Int.not_le.mp (by with_reducible assumption) | exact Int.not_lt.mp (by with_reducible assumption) | exact Nat.lt_of_not_le (by with_reducible assumption) | exact Nat.le_of_not_lt (by with_reducible assumption) | fail)))
  (k_with "m ne_look" => (with_reducible (first | (refine neS ?_; assumption) | (refine neT ?_; assumption) | (refine ltS ?_; assumption) | (refine ltT ?_; assumption) | (rename _ ∧ _ => zqz; first | ((have zqzz : @LT.lt Nat _ _ _ := zqz.1); clear zqzz; first | exact ltS zqz.1 | exact ltT zqz.1 | exact ltS zqz.2.1 | exact ltT zqz.2.1 | exact ltS zqz.2.2.1 | exact ltT zqz.2.2.1 | exact ltS zqz.2.2.2.1 | exact ltT zqz.2.2.2.1 | exact ltS zqz.2.2.2.2.1 | exact ltT zqz.2.2.2.2.1 | exact ltS zqz.2.2.2.2.2.1 | exact ltT zqz.2.2.2.2.2.1 | exact ltS zqz.2.2.2.2.2.2.1 | exact ltT zqz.2.2.2.2.2.2.1 | exact ltS zqz.2.2.2.2.2.2.2.1 | exact ltT zqz.2.2.2.2.2.2.2.1 | exact ltS zqz.2.2.2.2.2.2.2.2.1 | exact ltT zqz.2.2.2.2.2.2.2.2.1 | exact ltS zqz.2.2.2.2.2.2.2.2.2.1 | exact ltT zqz.2.2.2.2.2.2.2.2.2.1 | exact ltS zqz.2.2.2.2.2.2.2.2.2.2.1 | exact ltT zqz.2.2.2.2.2.2.2.2.2.2.1 | exact ltS zqz.2.2.2.2.2.2.2.2.2.2.2.1 | exact ltT zqz.2.2.2.2.2.2.2.2.2.2.2.1 | exact ltS zqz.2.2.2.2.2.2.2.2.2.2.2.2.1 | exact ltT zqz.2.2.2.2.2.2.2.2.2.2.2.2.1 | exact ltS zqz.2.2.2.2.2.2.2.2.2.2.2.2.2.1 | exact ltT zqz.2.2.2.2.2.2.2.2.2.2.2.2.2.1 | exact ltS zqz.2 | exact ltT zqz.2 | exact ltS zqz.2.2 | exact ltT zqz.2.2 | exact ltS zqz.2.2.2 | exact ltT zqz.2.2.2 | exact ltS zqz.2.2.2.2 | exact ltT zqz.2.2.2.2 | exact ltS zqz.2.2.2.2.2 | exact ltT zqz.2.2.2.2.2 | exact ltS zqz.2.2.2.2.2.2 | exact ltT zqz.2.2.2.2.2.2 | exact ltS zqz.2.2.2.2.2.2.2 | exact ltT zqz.2.2.2.2.2.2.2 | exact ltS zqz.2.2.2.2.2.2.2.2 | exact ltT zqz.2.2.2.2.2.2.2.2 | exact ltS zqz.2.2.2.2.2.2.2.2.2 | exact ltT zqz.2.2.2.2.2.2.2.2.2 | exact ltS zqz.2.2.2.2.2.2.2.2.2.2 | exact ltT zqz.2.2.2.2.2.2.2.2.2.2 | exact ltS zqz.2.2.2.2.2.2.2.2.2.2.2 | exact ltT zqz.2.2.2.2.2.2.2.2.2.2.2 | exact ltS zqz.2.2.2.2.2.2.2.2.2.2.2.2 | exact ltT zqz.2.2.2.2.2.2.2.2.2.2.2.2 | exact ltS zqz.2.2.2.2.2.2.2.2.2.2.2.2.2 | exact ltT zqz.2.2.2.2.2.2.2.2.2.2.2.2.2) | exact neS zqz.1 | exact neS zqz.1.1 | exact neS zqz.1.2 | exact neS zqz.1.2.1 | exact neS zqz.1.2.2 | exact neS zqz.2.1 | exact neS zqz.2.1.1 | exact neS zqz.2.1.2 | exact neS zqz.2.1.2.1 | exact neS zqz.2.1.2.2 | exact neS zqz.2.2.1 | exact neS zqz.2.2.1.1 | exact neS zqz.2.2.1.2 | exact neS zqz.2.2.1.2.1 | exact neS zqz.2.2.1.2.2 | exact neS zqz.2.2.2.1 | exact neS zqz.2.2.2.1.1 | exact neS zqz.2.2.2.1.2 | exact neS zqz.2.2.2.1.2.1 | exact neS zqz.2.2.2.1.2.2 | exact neS zqz.2.2.2.2.1 | exact neS zqz.2.2.2.2.1.1 | exact neS zqz.2.2.2.2.1.2 | exact neS zqz.2.2.2.2.1.2.1 | exact neS zqz.2.2.2.2.1.2.2 | exact neS zqz.2.2.2.2.2.1 | exact neS zqz.2.2.2.2.2.1.1 | exact neS zqz.2.2.2.2.2.1.2 | exact neS zqz.2.2.2.2.2.1.2.1 | exact neS zqz.2.2.2.2.2.1.2.2 | exact neS zqz.2.2.2.2.2.2.1 | exact neS zqz.2.2.2.2.2.2.1.1 | exact neS zqz.2.2.2.2.2.2.1.2 | exact neS zqz.2.2.2.2.2.2.1.2.1 | exact neS zqz.2.2.2.2.2.2.1.2.2 | exact neS zqz.2.2.2.2.2.2.2.1 | exact neS zqz.2.2.2.2.2.2.2.1.1 | exact neS zqz.2.2.2.2.2.2.2.1.2 | exact neS zqz.2.2.2.2.2.2.2.1.2.1 | exact neS zqz.2.2.2.2.2.2.2.1.2.2 | exact neS zqz.2.2.2.2.2.2.2.2.1 | exact neS zqz.2.2.2.2.2.2.2.2.1.1 | exact neS zqz.2.2.2.2.2.2.2.2.1.2 | exact neS zqz.2.2.2.2.2.2.2.2.1.2.1 | exact neS zqz.2.2.2.2.2.2.2.2.1.2.2 | exact neS zqz.2 | exact neS zqz.2.2 | exact neS zqz.2.2.2 | exact neS zqz.2.2.2.2 | exact neS zqz.2.2.2.2.2 | exact neS zqz.2.2.2.2.2.2 | exact neS zqz.2.2.2.2.2.2.2 | exact neS zqz.2.2.2.2.2.2.2.2 | exact neT zqz.1 | exact neT zqz.1.1 | exact neT zqz.1.2 | exact neT zqz.1.2.1 | exact neT zqz.1.2.2 | exact neT zqz.2.1 | exact neT zqz.2.1.1 | exact neT zqz.2.1.2 | exact neT zqz.2.1.2.1 | exact neT zqz.2.1.2.2 | exact neT zqz.2.2.1 | exact neT zqz.2.2.1.1 | exact neT zqz.2.2.1.2 | exact neT zqz.2.2.1.2.1 | exact neT zqz.2.2.1.2.2 | exact neT zqz.2.2.2.1 | exact neT zqz.2.2.2.1.1 | exact neT zqz.2.2.2.1.2 | exact neT zqz.2.2.2.1.2.1 | exact neT zqz.2.2.2.1.2.2 | exact neT zqz.2.2.2.2.1 | exact neT zqz.2.2.2.2.1.1 | exact neT zqz.2.2.2.2.1.2 | exact neT zqz.2.2.2.2.1.2.1 | exact neT zqz.2.2.2.2.1.2.2 | exact neT zqz.2.2.2.2.2.1 | exact neT zqz.2.2.2.2.2.1.1 | exact neT zqz.2.2.2.2.2.1.2 | exact neT zqz.2.2.2.2.2.1.2.1 | exact neT zqz.2.2.2.2.2.1.2.2 | exact neT zqz.2.2.2.2.2.2.1 | exact neT zqz.2.2.2.2.2.2.1.1 | exact neT zqz.2.2.2.2.2.2.1.2 | exact neT zqz.2.2.2.2.2.2.1.2.1 | exact neT zqz.2.2.2.2.2.2.1.2.2 | exact neT zqz.2.2.2.2.2.2.2.1 | exact neT zqz.2.2.2.2.2.2.2.1.1 | exact neT zqz.2.2.2.2.2.2.2.1.2 | exact neT zqz.2.2.2.2.2.2.2.1.2.1 | exact neT zqz.2.2.2.2.2.2.2.1.2.2 | exact neT zqz.2.2.2.2.2.2.2.2.1 | exact neT zqz.2.2.2.2.2.2.2.2.1.1 | exact neT zqz.2.2.2.2.2.2.2.2.1.2 | exact neT zqz.2.2.2.2.2.2.2.2.1.2.1 | exact neT zqz.2.2.2.2.2.2.2.2.1.2.2 | exact neT zqz.2 | exact neT zqz.2.2 | exact neT zqz.2.2.2 | exact neT zqz.2.2.2.2 | exact neT zqz.2.2.2.2.2 | exact neT zqz.2.2.2.2.2.2 | exact neT zqz.2.2.2.2.2.2.2 | exact neT zqz.2.2.2.2.2.2.2.2 | (clear zqz; walk_at "ne_look")))))
  (k_with "m om" => (first | ((repeat (with_reducible rename _ ∧ _ => zqzz; clear zqzz)); (repeat (with_reducible rename @Ne Nat _ _ => zqzz; clear zqzz)); omega) | omega))
  (k_with "m spec_enter" => ((
  w_top off
  unfold SpecC
  k_fill
  intro zqdp zqun zqgd zqcn zqcs zqa zqccd zqcl zqouter zqA₀ zqbase zqh₀ zqL zqm zqs zqQ zqE zqB zqF zqX zqN zqT zqhk zqhpre zqhd zqhu zqhret
  obtain ⟨zqsh, zqsg, zqsd, zqst, zqso⟩ := zqs
  dsimp only at zqF zqN zqhpre zqhret
  refine wpAny_call ?_
  refine' callSK ?k1.u4 ?k2.u4 ?k3.u4 ?k4.u4 ?k5.u4 ?kA.u4 ?kF.u4 ?kK.u4 ?kpre.u4 ?kret.u4 ?k6.u4 ?k7.u4 ?k8.u4 ?k9.u4 ?kB.u4 ?_ ?c2.u4 ?c3.u4 ?c4.u4 ?c5.u4
  (case kA => exact rfl); (case kF => exact rfl); (case kK => assumption); (case k1 => k_asm); (case k2 => k_asm); (case k3 => k_asm); (case k4 => k_asm); (case k5 => k_asm)
  (case kpre => exact zqhpre)
  (case kret => exact zqhret)
  (case k6 => k_is); (case k7 => k_is); (case k8 => ktr_room); (case k9 => exact BindsTo.of_eq rfl); (case kB => exact locs rfl); (case c2 => decide); (case c3 => exact rfl); (case c4 => exact rfl); (case c5 => exact rfl)
  clear zqhpre zqhret
  k_whole
  intro zqg' zqL' zqh' zqF' zqN' zqB' zqX' zqT' zqpre'
  (refine fold_fr zqF' ?_; clear zqF'; intro zqmm zqF')
  (try dsimp only); (refine abs_tok ?_; intro zqtk'); (try k_lift zqB'); (try k_fold))))
  (k_with "m spec_enterC" => ((
  w_top off
  unfold SpecC
  k_fill
  intro zqdp zqun zqgd zqcn zqcs zqa zqccd zqcl zqouter zqA₀ zqbase zqh₀ zqL zqm zqs zqQ zqE zqB zqF zqX zqN zqT zqhk zqhpre zqhd zqhu zqhret
  obtain ⟨zqsh, zqsg, zqsd, zqst, zqso⟩ := zqs
  dsimp only at zqF zqN zqhpre zqhret
  refine wpAny_call ?_
  refine' callSC ?k1.u5 ?k2.u5 ?k3.u5 ?k4.u5 ?k5.u5 ?kA.u5 ?kF.u5 ?kK.u5 ?kpre.u5 ?kret.u5 ?k6.u5 ?k7.u5 ?k8.u5 ?k9.u5 ?kB.u5 ?kD.u5 ?_ ?c3.u5 ?c4.u5 ?c5.u5
  (case kA => exact rfl); (case kF => exact rfl); (case kK => assumption); (case k1 => k_asm); (case k2 => k_asm); (case k3 => k_asm); (case k4 => k_asm); (case k5 => k_asm)
  (case kpre => exact zqhpre)
  (case kret => exact zqhret)
  (case k6 => k_is); (case k7 => k_is); (case k8 => ktr_room); (case k9 => exact BindsTo.of_eq rfl); (case kB => exact rfl); (case kD => decide +kernel); (case c3 => exact rfl); (case c4 => exact rfl); (case c5 => exact rfl)
  clear zqhpre zqhret
  k_whole
  intro zqg' zqL' zqh' zqtk' zqcells' zqF' zqN' zqY' zqB' zqX' zqT' zqpre' zql1
  (try k_lt zql1); k_cells zqY'; (try simp only [List.cons_append, List.nil_append] at zqN'); (try dsimp only); (try k_lift zqB'); (try k_fold))))
  (k_with "m spec_end" => (((try dsimp only); (try k_unfold); (try dsimp only))))
  (k_with "m pick_1" => (first | (refine' Pick1.here ?ph.u7; (case ph => k_dflt k_all)) | (refine' Pick1.next ?pn.u7 ?pt.u7; (case pn => k_ne); (case pt => walk_at "pick_1"))))
  (k_with "m use_1" => ((
  (case k1 => k_asm); (case k2 => k_asm); (case k3 => k_asm); (case k4 => k_asm); (case k5 => k_asm); (case kK => first | exact rfl | assumption)
  (case kd => ktr_room); (case ku => ktr_units); (case kp => k_dflt (walk_at "pick_1")))))
  (k_with "m use_2" => ((
  (case k1 => k_asm); (case k2 => k_asm); (case k3 => k_asm); (case k4 => k_asm); (case k5 => k_asm); (case kK => first | exact rfl | assumption)
  (case kd => ktr_room); (case ku => ktr_units); (case kp1 => k_dflt (walk_at "pick_1")); (case kp2 => k_dflt (walk_at "pick_1")))))
  (k_with "m use_0" => ((
  (case k1 => k_asm); (case k2 => k_asm); (case k3 => k_asm); (case k4 => k_asm); (case k5 => k_asm); (case kK => first | exact rfl | assumption)
  (case kd => ktr_room); (case ku => ktr_units))))
  (k_with "m ktr_room" => ((k_dflt (first | exact room1 (by assumption) (by decide) | exact room0 (by assumption) (by decide) | exact roomN (by assumption)))))
  (k_with "m ktr_units" => ((k_dflt (first | exact units1 (by assumption) (by decide) | exact room0 (by assumption) (by decide)))))
  (k_with "m k_ne" => ((refine neN ?_; (try dsimp only); first | walk_at "ne_look" | omega -splitDisjunctions | omega)))
  (k_with "m append_L" => ((k_here; (with_reducible show wpAny _ _ (call (Value.builtin _) [Value.ref _, _]) _ _ _); k_dflt (refine' append_L ?k1.u14 ?k2.u14 ?k3.u14 ?k4.u14 ?_; (case k1 => k_asm); (case k2 => k_asm); (case k3 => k_upd); (case k4 => first | omega | (simp only [List.length_append, List.length_cons, List.length_nil]; omega)); k_whole); intro zqh' zqF' zqN'; (try k_sweep))))
  (k_with "m all_lt" => (first
  | exact allLt_mem (by assumption)
  | exact allLt_mem (And.right (by assumption))
  | exact allLt_mem (And.right (And.right (by assumption)))
  | exact allLt_mem (And.right (And.right (And.right (by assumption))))
  | exact allLt_mem (And.right (And.right (And.right (And.right (by assumption)))))
  | exact allLt_mem (And.right (And.right (And.right (And.right (And.right (by assumption))))))
  | exact allLt_mem (And.right (And.right (And.right (And.right (And.right (And.right (by assumption)))))))
  | exact allLt_mem (And.right (And.right (And.right (And.right (And.right (And.right (And.right (by assumption))))))))
  | exact allLt_mem (And.right (And.right (And.right (And.right (And.right (And.right (And.right (And.right (by assumption)))))))))))
  (k_with "m own_off1" => (first | exact ownOff_nil | assumption | (refine ownOff_cons ?_ ?_; (first | exact OwnOff.ne (by assumption) (by k_memK) | walk_at "all_lt" | fail "own_off: an address"); walk_at "own_off1")))
  (k_with "m own_off" => (((try dsimp only [List.map_cons, List.map_nil]); walk_at "own_off1")))
  (k_with "m led_in1" => (first | exact sub_nil | (refine sub_cons ?_ ?_; k_mem; walk_at "led_in1")))
  (k_with "m led_in" => (((try dsimp only); walk_at "led_in1")))
  (k_with "m own_in1" => (first | assumption | (refine List.Mem.tail _ ?_; walk_at "own_in1")))
  (k_with "m own_in" => ((intro zqp zqhp; walk_at "own_in1")))
  (k_with "m jp_end" => ((
  (case hk => kst_all); (case hn => walk_at "led_in"); (case ho => walk_at "own_in"); (case ha => walk_at "own_off"))))
  (k_with "m is_list" => (first | is_list | exact isList_at (by k_asm) (by assumption)))
  (k_with "m sub_all1" => (first | exact sub_nil | (refine sub_cons ?_ ?_; k_mem; walk_at "sub_all1") | (intro zqp zqhp; walk_at "own_in1")))
  (k_with "m sub_all" => (((try simp only [List.cons_append, List.nil_append]); walk_at "sub_all1")))
  trivial
section
variable {w : World} {p : Program} {loose : List Str} {mean : ExcName → Option Value} {mg mb : Str → Option Value}
/-- is_normal, in plain words -/
noncomputable def normFrom : Option Int → List (Int × Int) → Bool
  | _, [] => true
  | none, s :: r => decide (s.1 < s.2) && normFrom (some s.2) r
  | some a, s :: r => decide (s.1 < s.2) && (decide (a < s.1) && normFrom (some s.2) r)
noncomputable def aheadV (a : Option Int) (t : Tok) : Value := match a with | none => .none | some x => .int x t
theorem drop_at {α : Type} {ps : List α} {i : Nat} {s : α} (h : ps[i]? = some s) : ps.drop i = s :: ps.drop (i + 1) := by
  obtain ⟨hi, e⟩ := List.getElem?_eq_some_iff.mp h
  rw [List.drop_eq_getElem_cons hi, e]
theorem norm_none {ps : List (Int × Int)} {i : Nat} {s : Int × Int} (h : ps[i]? = some s) : normFrom none (ps.drop i) = (decide (s.1 < s.2) && normFrom (some s.2) (ps.drop (i + 1))) := by rw [drop_at h]; rfl
theorem norm_some {ps : List (Int × Int)} {i : Nat} {s : Int × Int} {a : Int} (h : ps[i]? = some s) : normFrom (some a) (ps.drop i) = (decide (s.1 < s.2) && (decide (a < s.1) && normFrom (some s.2) (ps.drop (i + 1)))) := by rw [drop_at h]; rfl
theorem said_20 : True := by
  (k_with "m pyIter ref" => ((refine stand ?_)))
  trivial
set_option maxHeartbeats 8000000 in
theorem normal_spec (l : Addr) (ps : List (Int × Int)) (hl : ps.length ≤ 100) :
    SpecC w p loose mean mg mb 21 (fun g => SpansH g l ps) [] [.ref l] 5
      (fun r news' => r = .bool (normFrom none ps) ∧ news' = []) := by
  walk_at "spec_enter"
  k_steps
  rename SpansH _ _ _ => pre8
  obtain ⟨vs, hlst, hall⟩ := pre8
  rename Fr _ _ _ _ => F8
  rename News _ _ _ _ => N8
  refine For_turns F8 ?_
  k_steps
  unfold Stand
  refine' listT (σ := Option Int × Tok) (fun c => [])
    (fun c => [("ahead", aheadV c.1 c.2)]) (fun i c => normFrom none ps = normFrom c.1 (ps.drop i)) (none, 0) rfl hlst F8 N8 ?hn ?hk ?hp ?turn ?done
  case hk => kst_all
  case hn => exact sub_nil
  case hp => rfl
  case turn =>
    intro c i v u h tk own hv hoff hP F1 N1
    obtain ⟨a, ta⟩ := c
    obtain ⟨s, hs, ad, t, u', rfl, htup⟩ := hall.get i v hv
    dsimp only at hoff hP F1 N1
    simp only [List.cons_append, List.nil_append, List.map_cons, List.map_nil] at hoff N1
    clear F8 N8
    try dsimp only
    simp only [kstB] at F1
    (try (change wpAny _ _ _ _ _ _; k_fold))
    cases a with
    | none =>
      simp only [aheadV] at F1
      rw [norm_none hs] at hP
      k_steps
      · walk_at "spec_end"
        rename News _ _ _ _ => N7
        refine leaveS_sub [] (by k_asm) N7 sub_nil ⟨?_, rfl⟩
        rw [hP, decide_eq_false (by omega)]; rfl
      · rename News _ _ _ _ => N7
        refine' jp_end (some s.2, _) (by k_asm) N7 ?hn ?ho ?ha ?hk ?hp
        walk_at "jp_end"
        (case hp => dsimp only; rw [hP, decide_eq_true (by omega)]; rfl)
    | some a =>
      simp only [aheadV] at F1
      rw [norm_some hs] at hP
      k_steps
      · walk_at "spec_end"
        rename News _ _ _ _ => N7
        refine leaveS_sub [] (by k_asm) N7 sub_nil ⟨?_, rfl⟩
        rw [hP, decide_eq_false (by omega)]; rfl
      · walk_at "spec_end"
        rename News _ _ _ _ => N7
        refine leaveS_sub [] (by k_asm) N7 sub_nil ⟨?_, rfl⟩
        rw [hP, decide_eq_true (by omega), decide_eq_false (by omega)]; rfl
      · rename News _ _ _ _ => N7
        refine' jp_end (some s.2, _) (by k_asm) N7 ?hn ?ho ?ha ?hk ?hp
        walk_at "jp_end"
        (case hp => dsimp only; rw [hP, decide_eq_true (by omega), decide_eq_true (by omega)]; rfl)
  case done =>
    intro c u h tk hP F1 N1
    obtain ⟨a, ta⟩ := c
    dsimp only at hP F1 N1
    clear F8 N8
    try dsimp only
    simp only [kstB] at F1
    (try (change wpAny _ _ _ _ _ _; k_fold))
    k_steps
    walk_at "spec_end"
    rename News _ _ _ _ => N7
    refine leaveS_ (by k_asm) N7 ⟨?_, rfl⟩
    rw [hP, hall.length, List.drop_length]
    cases a <;> rfl
end
theorem again_21 : True := by
  k_with_none
  (k_with "m omega" => ((first | decide | (with_reducible exact Int.natCast_nonneg _) | exact om1 (by with_reducible assumption) (by decide) | exact om2 (by with_reducible assumption) (by decide) | exact om3 (by with_reducible assumption) (by decide) | exact om4 (by with_reducible assumption) (by decide) | exact om5 (by with_reducible assumption) (by decide) | exact om6 (by with_reducible assumption) (by decide) | exact om7 (by with_reducible assumption) (by decide) | exact om8 (by with_reducible assumption) (by decide) | exact om9 (by with_reducible assumption) (by decide) | exact om10 (by with_reducible assumption) (by decide) | exact om5 (by with_reducible assumption) (om2 (by with_reducible assumption) (by decide)) | exact om6 (by with_reducible assumption) (om1 (by with_reducible assumption) (by decide)) | exact Nat.le_of_lt (by with_reducible assumption) | exact Nat.succ_le_of_lt (by with_reducible assumption) | exact Int.le_of_lt (by with_reducible assumption) | exact Int.not_le.mp (by with_reducible assumption) | exact Int.not_lt.mp (by with_reducible assumption) | exact Nat.lt_of_not_le (by with_reducible assumption) | exact Nat.le_of_not_lt (by with_reducible assumption) | fail)))
  (k_with "m ne_look" => (with_reducible (first | (refine neS ?_; assumption) | (refine neT ?_; assumption) | (refine ltS ?_; assumption) | (refine ltT ?_; assumption) | (rename _ ∧ _ => zqz; first | ((have zqzz : @LT.lt Nat _ _ _ := zqz.1); clear zqzz; first | exact ltS zqz.1 | exact ltT zqz.1 | exact ltS zqz.2.1 | exact ltT zqz.2.1 | exact ltS zqz.2.2.1 | exact ltT zqz.2.2.1 | exact ltS zqz.2.2.2.1 | exact ltT zqz.2.2.2.1 | exact ltS zqz.2.2.2.2.1 | exact ltT zqz.2.2.2.2.1 | exact ltS zqz.2.2.2.2.2.1 | exact ltT zqz.2.2.2.2.2.1 | exact ltS zqz.2.2.2.2.2.2.1 | exact ltT zqz.2.2.2.2.2.2.1 | exact ltS zqz.2.2.2.2.2.2.2.1 | exact ltT zqz.2.2.2.2.2.2.2.1 | exact ltS zqz.2.2.2.2.2.2.2.2.1 | exact ltT zqz.2.2.2.2.2.2.2.2.1 | exact ltS zqz.2.2.2.2.2.2.2.2.2.1 | exact ltT zqz.2.2.2.2.2.2.2.2.2.1 | exact ltS zqz.2.2.2.2.2.2.2.2.2.2.1 | exact ltT zqz.2.2.2.2.2.2.2.2.2.2.1 | exact ltS zqz.2.2.2.2.2.2.2.2.2.2.2.1 | exact ltT zqz.2.2.2.2.2.2.2.2.2.2.2.1 | exact ltS zqz.2.2.2.2.2.2.2.2.2.2.2.2.1 | exact ltT zqz.2.2.2.2.2.2.2.2.2.2.2.2.1 | exact ltS zqz.2.2.2.2.2.2.2.2.2.2.2.2.2.1 | exact ltT zqz.2.2.2.2.2.2.2.2.2.2.2.2.2.1 | exact ltS zqz.2 | exact ltT zqz.2 | exact ltS zqz.2.2 | exact ltT zqz.2.2 | exact ltS zqz.2.2.2 | exact ltT zqz.2.2.2 | exact ltS zqz.2.2.2.2 | exact ltT zqz.2.2.2.2 | exact ltS zqz.2.2.2.2.2 | exact ltT zqz.2.2.2.2.2 | exact ltS zqz.2.2.2.2.2.2 | exact ltT zqz.2.2.2.2.2.2 | exact ltS zqz.2.2.2.2.2.2.2 | exact ltT zqz.2.2.2.2.2.2.2 | exact ltS zqz.2.2.2.2.2.2.2.2 | exact ltT zqz.2.2.2.2.2.2.2.2 | exact ltS zqz.2.2.2.2.2.2.2.2.2 | exact ltT zqz.2.2.2.2.2.2.2.2.2 | exact ltS zqz.2.2.2.2.2.2.2.2.2.2 | exact ltT zqz.2.2.2.2.2.2.2.2.2.2 | exact ltS zqz.2.2.2.2.2.2.2.2.2.2.2 | exact ltT zqz.2.2.2.2.2.2.2.2.2.2.2 | exact ltS zqz.2.2.2.2.2.2.2.2.2.2.2.2 | exact ltT zqz.2.2.2.2.2.2.2.2.2.2.2.2 | exact ltS zqz.2.2.2.2.2.2.2.2.2.2.2.2.2 | exact ltT zqz.2.2.2.2.2.2.2.2.2.2.2.2.2) | exact neS zqz.1 | exact neS zqz.1.1 | exact neS zqz.1.2 | exact neS zqz.1.2.1 | exact neS zqz.1.2.2 | exact neS zqz.2.1 | exact neS zqz.2.1.1 | exact neS zqz.2.1.2 | exact neS zqz.2.1.2.1 | exact neS zqz.2.1.2.2 | exact neS zqz.2.2.1 | exact neS zqz.2.2.1.1 | exact neS zqz.2.2.1.2 | exact neS zqz.2.2.1.2.1 | exact neS zqz.2.2.1.2.2 | exact neS zqz.2.2.2.1 | exact neS zqz.2.2.2.1.1 | exact neS zqz.2.2.2.1.2 | exact neS zqz.2.2.2.1.2.1 | exact neS zqz.2.2.2.1.2.2 | exact neS zqz.2.2.2.2.1 | exact neS zqz.2.2.2.2.1.1 | exact neS zqz.2.2.2.2.1.2 | exact neS zqz.2.2.2.2.1.2.1 | exact neS zqz.2.2.2.2.1.2.2 | exact neS zqz.2.2.2.2.2.1 | exact neS zqz.2.2.2.2.2.1.1 | exact neS zqz.2.2.2.2.2.1.2 | exact neS zqz.2.2.2.2.2.1.2.1 | exact neS zqz.2.2.2.2.2.1.2.2 | exact neS zqz.2.2.2.2.2.2.1 | exact neS zqz.2.2.2.2.2.2.1.1 | exact neS zqz.2.2.2.2.2.2.1.2 | exact neS zqz.2.2.2.2.2.2.1.2.1 | exact neS zqz.2.2.2.2.2.2.1.2.2 | exact neS zqz.2.2.2.2.2.2.2.1 | exact neS zqz.2.2.2.2.2.2.2.1.1 | exact neS zqz.2.2.2.2.2.2.2.1.2 | exact neS zqz.2.2.2.2.2.2.2.1.2.1 | exact neS zqz.2.2.2.2.2.2.2.1.2.2 | exact neS zqz.2.2.2.2.2.2.2.2.1 | exact neS zqz.2.2.2.2.2.2.2.2.1.1 | exact neS zqz.2.2.2.2.2.2.2.2.1.2 | exact neS zqz.2.2.2.2.2.2.2.2.1.2.1 | exact neS zqz.2.2.2.2.2.2.2.2.1.2.2 | exact neS zqz.2 | exact neS zqz.2.2 | exact neS zqz.2.2.2 | exact neS zqz.2.2.2.2 | exact neS zqz.2.2.2.2.2 | exact neS zqz.2.2.2.2.2.2 | exact neS zqz.2.2.2.2.2.2.2 | exact neS zqz.2.2.2.2.2.2.2.2 | exact neT zqz.1 | exact neT zqz.1.1 | exact neT zqz.1.2 | exact neT zqz.1.2.1 | exact neT zqz.1.2.2 | exact neT zqz.2.1 | exact neT zqz.2.1.1 | exact neT zqz.2.1.2 | exact neT zqz.2.1.2.1 | exact neT zqz.2.1.2.2 | exact neT zqz.2.2.1 | exact neT zqz.2.2.1.1 | exact neT zqz.2.2.1.2 | exact neT zqz.2.2.1.2.1 | exact neT zqz.2.2.1.2.2 | exact neT zqz.2.2.2.1 | exact neT zqz.2.2.2.1.1 | exact neT zqz.2.2.2.1.2 | exact neT zqz.2.2.2.1.2.1 | exact neT zqz.2.2.2.1.2.2 | exact neT zqz.2.2.2.2.1 | exact neT zqz.2.2.2.2.1.1 | exact neT zqz.2.2.2.2.1.2 | exact neT zqz.2.2.2.2.1.2.1 | exact neT zqz.2.2.2.2.1.2.2 | exact neT zqz.2.2.2.2.2.1 | exact neT zqz.2.2.2.2.2.1.1 | exact neT zqz.2.2.2.2.2.1.2 | exact neT zqz.2.2.2.2.2.1.2.1 | exact neT zqz.2.2.2.2.2.1.2.2 | exact neT zqz.2.2.2.2.2.2.1 | exact neT zqz.2.2.2.2.2.2.1.1 | exact neT zqz.2.2.2.2.2.2.1.2 | exact neT zqz.2.2.2.2.2.2.1.2.1 | exact neT zqz.2.2.2.2.2.2.1.2.2 | exact neT zqz.2.2.2.2.2.2.2.1 | exact neT zqz.2.2.2.2.2.2.2.1.1 | exact neT zqz.2.2.2.2.2.2.2.1.2 | exact neT zqz.2.2.2.2.2.2.2.1.2.1 | exact neT zqz.2.2.2.2.2.2.2.1.2.2 | exact neT zqz.2.2.2.2.2.2.2.2.1 | exact neT zqz.2.2.2.2.2.2.2.2.1.1 | exact neT zqz.2.2.2.2.2.2.2.2.1.2 | exact neT zqz.2.2.2.2.2.2.2.2.1.2.1 | exact neT zqz.2.2.2.2.2.2.2.2.1.2.2 | exact neT zqz.2 | exact neT zqz.2.2 | exact neT zqz.2.2.2 | exact neT zqz.2.2.2.2 | exact neT zqz.2.2.2.2.2 | exact neT zqz.2.2.2.2.2.2 | exact neT zqz.2.2.2.2.2.2.2 | exact neT zqz.2.2.2.2.2.2.2.2 | (clear zqz; walk_at "ne_look")))))
  (k_with "m om" => (first | ((repeat (with_reducible rename _ ∧ _ => zqzz; clear zqzz)); (repeat (with_reducible rename @Ne Nat _ _ => zqzz; clear zqzz)); omega) | omega))
  (k_with "m spec_enter" => ((
  w_top off
  unfold SpecC
  k_fill
  intro zqdp zqun zqgd zqcn zqcs zqa zqccd zqcl zqouter zqA₀ zqbase zqh₀ zqL zqm zqs zqQ zqE zqB zqF zqX zqN zqT zqhk zqhpre zqhd zqhu zqhret
  obtain ⟨zqsh, zqsg, zqsd, zqst, zqso⟩ := zqs
  dsimp only at zqF zqN zqhpre zqhret
  refine wpAny_call ?_
  refine' callSK ?k1.u4 ?k2.u4 ?k3.u4 ?k4.u4 ?k5.u4 ?kA.u4 ?kF.u4 ?kK.u4 ?kpre.u4 ?kret.u4 ?k6.u4 ?k7.u4 ?k8.u4 ?k9.u4 ?kB.u4 ?_ ?c2.u4 ?c3.u4 ?c4.u4 ?c5.u4
  (case kA => exact rfl); (case kF => exact rfl); (case kK => assumption); (case k1 => k_asm); (case k2 => k_asm); (case k3 => k_asm); (case k4 => k_asm); (case k5 => k_asm)
  (case kpre => exact zqhpre)
  (case kret => exact zqhret)
  (case k6 => k_is); (case k7 => k_is); (case k8 => ktr_room); (case k9 => exact BindsTo.of_eq rfl); (case kB => exact locs rfl); (case c2 => decide); (case c3 => exact rfl); (case c4 => exact rfl); (case c5 => exact rfl)
  clear zqhpre zqhret
  k_whole
  intro zqg' zqL' zqh' zqF' zqN' zqB' zqX' zqT' zqpre'
  (refine fold_fr zqF' ?_; clear zqF'; intro zqmm zqF')
  (try dsimp only); (refine abs_tok ?_; intro zqtk'); (try k_lift zqB'); (try k_fold))))
  (k_with "m spec_enterC" => ((
  w_top off
  unfold SpecC
  k_fill
  intro zqdp zqun zqgd zqcn zqcs zqa zqccd zqcl zqouter zqA₀ zqbase zqh₀ zqL zqm zqs zqQ zqE zqB zqF zqX zqN zqT zqhk zqhpre zqhd zqhu zqhret
  obtain ⟨zqsh, zqsg, zqsd, zqst, zqso⟩ := zqs
  dsimp only at zqF zqN zqhpre zqhret
  refine wpAny_call ?_
  refine' callSC ?k1.u5 ?k2.u5 ?k3.u5 ?k4.u5 ?k5.u5 ?kA.u5 ?kF.u5 ?kK.u5 ?kpre.u5 ?kret.u5 ?k6.u5 ?k7.u5 ?k8.u5 ?k9.u5 ?kB.u5 ?kD.u5 ?_ ?c3.u5 ?c4.u5 ?c5.u5
  (case kA => exact rfl); (case kF => exact rfl); (case kK => assumption); (case k1 => k_asm); (case k2 => k_asm); (case k3 => k_asm); (case k4 => k_asm); (case k5 => k_asm)
  (case kpre => exact zqhpre)
  (case kret => exact zqhret)
  (case k6 => k_is); (case k7 => k_is); (case k8 => ktr_room); (case k9 => exact BindsTo.of_eq rfl); (case kB => exact rfl); (case kD => decide +kernel); (case c3 => exact rfl); (case c4 => exact rfl); (case c5 => exact rfl)
  clear zqhpre zqhret
  k_whole
  intro zqg' zqL' zqh' zqtk' zqcells' zqF' zqN' zqY' zqB' zqX' zqT' zqpre' zql1
  (try k_lt zql1); k_cells zqY'; (try simp only [List.cons_append, List.nil_append] at zqN'); (try dsimp only); (try k_lift zqB'); (try k_fold))))
  (k_with "m spec_end" => (((try dsimp only); (try k_unfold); (try dsimp only))))
  (k_with "m pick_1" => (first | (refine' Pick1.here ?ph.u7; (case ph => k_dflt k_all)) | (refine' Pick1.next ?pn.u7 ?pt.u7; (case pn => k_ne); (case pt => walk_at "pick_1"))))
  (k_with "m use_1" => ((
  (case k1 => k_asm); (case k2 => k_asm); (case k3 => k_asm); (case k4 => k_asm); (case k5 => k_asm); (case kK => first | exact rfl | assumption)
  (case kd => ktr_room); (case ku => ktr_units); (case kp => k_dflt (walk_at "pick_1")))))
  (k_with "m use_2" => ((
  (case k1 => k_asm); (case k2 => k_asm); (case k3 => k_asm); (case k4 => k_asm); (case k5 => k_asm); (case kK => first | exact rfl | assumption)
  (case kd => ktr_room); (case ku => ktr_units); (case kp1 => k_dflt (walk_at "pick_1")); (case kp2 => k_dflt (walk_at "pick_1")))))
  (k_with "m use_0" => ((
  (case k1 => k_asm); (case k2 => k_asm); (case k3 => k_asm); (case k4 => k_asm); (case k5 => k_asm); (case kK => first | exact rfl | assumption)
  (case kd => ktr_room); (case ku => ktr_units))))
  (k_with "m ktr_room" => ((k_dflt (first | exact room1 (by assumption) (by decide) | exact room0 (by assumption) (by decide) | exact roomN (by assumption)))))
  (k_with "m ktr_units" => ((k_dflt (first | exact units1 (by assumption) (by decide) | exact room0 (by assumption) (by decide)))))
  (k_with "m k_ne" => ((refine neN ?_; (try dsimp only); first | walk_at "ne_look" | omega -splitDisjunctions | omega)))
  (k_with "m append_L" => ((k_here; (with_reducible show wpAny _ _ (call (Value.builtin _) [Value.ref _, _]) _ _ _); k_dflt (refine' append_L ?k1.u14 ?k2.u14 ?k3.u14 ?k4.u14 ?_; (case k1 => k_asm); (case k2 => k_asm); (case k3 => k_upd); (case k4 => first | omega | (simp only [List.length_append, List.length_cons, List.length_nil]; omega)); k_whole); intro zqh' zqF' zqN'; (try k_sweep))))
  (k_with "m all_lt" => (first
  | exact allLt_mem (by assumption)
  | exact allLt_mem (And.right (by assumption))
  | exact allLt_mem (And.right (And.right (by assumption)))
  | exact allLt_mem (And.right (And.right (And.right (by assumption))))
  | exact allLt_mem (And.right (And.right (And.right (And.right (by assumption)))))
  | exact allLt_mem (And.right (And.right (And.right (And.right (And.right (by assumption))))))
  | exact allLt_mem (And.right (And.right (And.right (And.right (And.right (And.right (by assumption)))))))
  | exact allLt_mem (And.right (And.right (And.right (And.right (And.right (And.right (And.right (by assumption))))))))
  | exact allLt_mem (And.right (And.right (And.right (And.right (And.right (And.right (And.right (And.right (by assumption)))))))))))
  (k_with "m own_off1" => (first | exact ownOff_nil | assumption | (refine ownOff_cons ?_ ?_; (first | exact OwnOff.ne (by assumption) (by k_memK) | walk_at "all_lt" | fail "own_off: an address"); walk_at "own_off1")))
  (k_with "m own_off" => (((try dsimp only [List.map_cons, List.map_nil]); walk_at "own_off1")))
  (k_with "m led_in1" => (first | exact sub_nil | (refine sub_cons ?_ ?_; k_mem; walk_at "led_in1")))
  (k_with "m led_in" => (((try dsimp only); walk_at "led_in1")))
  (k_with "m own_in1" => (first | assumption | (refine List.Mem.tail _ ?_; walk_at "own_in1")))
  (k_with "m own_in" => ((intro zqp zqhp; walk_at "own_in1")))
  (k_with "m jp_end" => ((
  (case hk => kst_all); (case hn => walk_at "led_in"); (case ho => walk_at "own_in"); (case ha => walk_at "own_off"))))
  (k_with "m is_list" => (first | is_list | exact isList_at (by k_asm) (by assumption)))
  (k_with "m sub_all1" => (first | exact sub_nil | (refine sub_cons ?_ ?_; k_mem; walk_at "sub_all1") | (intro zqp zqhp; walk_at "own_in1")))
  (k_with "m sub_all" => (((try simp only [List.cons_append, List.nil_append]); walk_at "sub_all1")))
  trivial
section
variable {w : World} {p : Program} {loose : List Str} {mean : ExcName → Option Value} {mg mb : Str → Option Value}
theorem said_22 : True := by
  (k_with "m pyIter ref" => ((refine stand ?_)))
  (k_with "m exec While BoolOp cons nil" => ((refine stand ?_)))
  (k_with "m call builtin:len" => ((k_here; k_dflt (refine' len_list ?k1.u47 ?k2.u47 ?_; (case k1 => walk_at "is_list"); (case k2 => omega); k_whole))))
  (k_with "m subscriptTail Name Attribute ref int" => ((k_here; (with_unfolding_all refine' item_span ?k1.u48 ?kb.u48 ?k2.u48 ?k3.u48 ?k4.u48 ?_ ?k6.u48; (case k1 => walk_at "is_list"); (case kb => assumption); (case k2 => omega); (case k3 => omega); (case k4 => omega); (case k6 => with_unfolding_all rfl)); intro zqad zqt1 zqt2 zqhT')))
  trivial
noncomputable abbrev walkD (w : World) (l : Addr) (av : Int) (k1 k2 : Nat) (ta : Tok) : Obj := dictOf [⟨PyData.keyHash w.params "spans", .str "spans" k1, .ref l⟩, ⟨PyData.keyHash w.params "at", .str "at" k2, .int av ta⟩] 2
set_option maxHeartbeats 8000000 in
theorem holds_spec (l x dx : Addr) (hx : @LT.lt Nat _ dx x) (ps : List (Int × Int)) (hl : ps.length ≤ 100) (a₀ : Nat) (ha : a₀ ≤ ps.length) (ta pt : Tok) (pl : Int) (k1 k2 : Nat) :
    SpecC w p loose mean mg mb 56 (fun g => SpansH g l ps) [(x, instObj 59 dx), (dx, walkD w l a₀ k1 k2 ta)] [.ref x, .int pl pt] 5
      (fun r news' => ∃ (a₁ : Nat) (t : Tok), a₀ ≤ a₁ ∧ a₁ ≤ ps.length ∧ (∀ i, a₀ ≤ i → i < a₁ → (ps.getD i (0, 0)).2 ≤ pl) ∧ (a₁ < ps.length → pl < (ps.getD a₁ (0, 0)).2) ∧
        r = .bool (decide (a₁ < ps.length) && decide ((ps.getD a₁ (0, 0)).1 ≤ pl)) ∧ news' = [(x, instObj 59 dx), (dx, walkD w l a₁ k1 k2 t)]) := by
  walk_at "spec_enter"
  k_steps
  unfold Stand
  rename SpansH _ _ _ => pre8
  obtain ⟨vs, hlst, hall⟩ := pre8
  have hvl := hall.length
  rename Fr _ _ _ _ => F8
  rename News _ _ _ _ => N8
  refine' whileJ (σ := Nat × Tok) (fun c => [(x, instObj 59 dx), (dx, walkD w l c.1 k1 k2 c.2)]) (fun c => [("self", .ref x), ("place", .int pl pt)])
    (fun c => a₀ ≤ c.1 ∧ c.1 ≤ ps.length ∧ ∀ i, a₀ ≤ i → i < c.1 → (ps.getD i (0, 0)).2 ≤ pl) (fun c => ps.length - c.1) (a₀, _) F8 N8 ?hn ?hk ?hp ?turn (by passes_own)
  case hk => kst_all
  case hn => exact fun p hp => by with_unfolding_all exact hp
  case hp => exact ⟨Nat.le_refl _, ha, fun i h1 h2 => absurd h2 (by dsimp only; omega)⟩
  case turn =>
    intro c u h tk hP F1 N1 W R1 E1
    obtain ⟨a, t⟩ := c
    dsimp only at hP F1 N1
    obtain ⟨h1, h2, h3⟩ := hP
    clear F8 N8
    try dsimp only
    simp only [kstB] at F1
    (refine fold_fr F1 ?_; clear F1; intro mm F1)
    k_steps
    · rename News _ _ _ _ => N7
      rename _ ≤ pl => hle
      rw [Int.toNat_natCast] at hle
      rw [show ((a : Int) + 1) = ((a + 1 : Nat) : Int) by omega] at N7
      dsimp only [WhPost]
      refine' wh_end (a + 1, _) (by k_asm) N7 ?hn ?hk ?hp ?hm
      (case hk => kst_all); (case hn => walk_at "led_in")
      (case hp =>
        dsimp only
        refine ⟨by omega, by omega, fun i h4 h5 => ?_⟩
        by_cases h6 : i < a
        · exact h3 i h4 h6
        · rw [show i = a by omega]; exact hle)
      (case hm => dsimp only; omega)
    · walk_at "spec_end"
      rename News _ _ _ _ => N7
      rename ¬ _ ≤ pl => hle
      rw [Int.toNat_natCast] at hle
      rw [Int.toNat_natCast]
      refine leaveS_ (by k_asm) N7 ⟨a, _, h1, h2, h3, fun _ => by omega, ?_, rfl⟩
      rw [decide_eq_true (show a < ps.length by omega)]; rfl
    · walk_at "spec_end"
      rename News _ _ _ _ => N7
      refine leaveS_ (by k_asm) N7 ⟨a, _, h1, h2, h3, fun h => absurd h (by omega), ?_, rfl⟩
      rw [decide_eq_false (show ¬ a < ps.length by omega), decide_eq_false (by omega)]; rfl
end
theorem again_23 : True := by
  k_with_none
  (k_with "m omega" => ((first | decide | (with_reducible exact Int.natCast_nonneg _) | exact om1 (by with_reducible assumption) (by decide) | exact om2 (by with_reducible assumption) (by decide) | exact om3 (by with_reducible assumption) (by decide) | exact om4 (by with_reducible assumption) (by decide) | exact om5 (by with_reducible assumption) (by decide) | exact om6 (by with_reducible assumption) (by decide) | exact om7 (by with_reducible assumption) (by decide) | exact om8 (by with_reducible assumption) (by decide) | exact om9 (by with_reducible assumption) (by decide) | exact om10 (by with_reducible assumption) (by decide) | exact om5 (by with_reducible assumption) (om2 (by with_reducible assumption) (by decide)) | exact om6 (by with_reducible assumption) (om1 (by with_reducible assumption) (by decide)) | exact Nat.le_of_lt (by with_reducible assumption) | exact Nat.succ_le_of_lt (by with_reducible assumption) | exact Int.le_of_lt (by with_reducible assumption) | exact Int.not_le.mp (by with_reducible assumption) | exact Int.not_lt.mp (by with_reducible assumption) | exact Nat.lt_of_not_le (by with_reducible assumption) | exact Nat.le_of_not_lt (by with_reducible assumption) | fail)))
  (k_with "m ne_look" => (with_reducible (first | (refine neS ?_; assumption) | (refine neT ?_; assumption) | (refine ltS ?_; assumption) | (refine ltT ?_; assumption) | (rename _ ∧ _ => zqz; first | ((have zqzz : @LT.lt Nat _ _ _ := zqz.1); clear zqzz; first | exact ltS zqz.1 | exact ltT zqz.1 | exact ltS zqz.2.1 | exact ltT zqz.2.1 | exact ltS zqz.2.2.1 | exact ltT zqz.2.2.1 | exact ltS zqz.2.2.2.1 | exact ltT zqz.2.2.2.1 | exact ltS zqz.2.2.2.2.1 | exact ltT zqz.2.2.2.2.1 | exact ltS zqz.2.2.2.2.2.1 | exact ltT zqz.2.2.2.2.2.1 | exact ltS zqz.2.2.2.2.2.2.1 | exact ltT zqz.2.2.2.2.2.2.1 | exact ltS zqz.2.2.2.2.2.2.2.1 | exact ltT zqz.2.2.2.2.2.2.2.1 | exact ltS zqz.2.2.2.2.2.2.2.2.1 | exact ltT zqz.2.2.2.2.2.2.2.2.1 | exact ltS zqz.2.2.2.2.2.2.2.2.2.1 | exact ltT zqz.2.2.2.2.2.2.2.2.2.1 | exact ltS zqz.2.2.2.2.2.2.2.2.2.2.1 | exact ltT zqz.2.2.2.2.2.2.2.2.2.2.1 | exact ltS zqz.2.2.2.2.2.2.2.2.2.2.2.1 | exact ltT zqz.2.2.2.2.2.2.2.2.2.2.2.1 | exact ltS zqz.2.2.2.2.2.2.2.2.2.2.2.2.1 | exact ltT zqz.2.2.2.2.2.2.2.2.2.2.2.2.1 | exact ltS zqz.2.2.2.2.2.2.2.2.2.2.2.2.2.1 | exact ltT zqz.2.2.2.2.2.2.2.2.2.2.2.2.2.1 | exact ltS zqz.2 | exact ltT zqz.2 | exact ltS zqz.2.2 | exact ltT zqz.2.2 | exact ltS zqz.2.2.2 | exact ltT zqz.2.2.2 | exact ltS zqz.2.2.2.2 | exact ltT zqz.2.2.2.2 | exact ltS zqz.2.2.2.2.2 | exact ltT zqz.2.2.2.2.2 | exact ltS zqz.2.2.2.2.2.2 | exact ltT zqz.2.2.2.2.2.2 | exact ltS zqz.2.2.2.2.2.2.2 | exact ltT zqz.2.2.2.2.2.2.2 | exact ltS zqz.2.2.2.2.2.2.2.2 | exact ltT zqz.2.2.2.2.2.2.2.2 | exact ltS zqz.2.2.2.2.2.2.2.2.2 | exact ltT zqz.2.2.2.2.2.2.2.2.2 | exact ltS zqz.2.2.2.2.2.2.2.2.2.2 | exact ltT zqz.2.2.2.2.2.2.2.2.2.2 | exact ltS zqz.2.2.2.2.2.2.2.2.2.2.2 | exact ltT zqz.2.2.2.2.2.2.2.2.2.2.2 | exact ltS zqz.2.2.2.2.2.2.2.2.2.2.2.2 | exact ltT zqz.2.2.2.2.2.2.2.2.2.2.2.2 | exact ltS zqz.2.2.2.2.2.2.2.2.2.2.2.2.2 | exact ltT zqz.2.2.2.2.2.2.2.2.2.2.2.2.2) | exact neS zqz.1 | exact neS zqz.1.1 | exact neS zqz.1.2 | exact neS zqz.1.2.1 | exact neS zqz.1.2.2 | exact neS zqz.2.1 | exact neS zqz.2.1.1 | exact neS zqz.2.1.2 | exact neS zqz.2.1.2.1 | exact neS zqz.2.1.2.2 | exact neS zqz.2.2.1 | exact neS zqz.2.2.1.1 | exact neS zqz.2.2.1.2 | exact neS zqz.2.2.1.2.1 | exact neS zqz.2.2.1.2.2 | exact neS zqz.2.2.2.1 | exact neS zqz.2.2.2.1.1 | exact neS zqz.2.2.2.1.2 | exact neS zqz.2.2.2.1.2.1 | exact neS zqz.2.2.2.1.2.2 | exact neS zqz.2.2.2.2.1 | exact neS zqz.2.2.2.2.1.1 | exact neS zqz.2.2.2.2.1.2 | exact neS zqz.2.2.2.2.1.2.1 | exact neS zqz.2.2.2.2.1.2.2 | exact neS zqz.2.2.2.2.2.1 | exact neS zqz.2.2.2.2.2.1.1 | exact neS zqz.2.2.2.2.2.1.2 | exact neS zqz.2.2.2.2.2.1.2.1 | exact neS zqz.2.2.2.2.2.1.2.2 | exact neS zqz.2.2.2.2.2.2.1 | exact neS zqz.2.2.2.2.2.2.1.1 | exact neS zqz.2.2.2.2.2.2.1.2 | exact neS zqz.2.2.2.2.2.2.1.2.1 | exact neS zqz.2.2.2.2.2.2.1.2.2 | exact neS zqz.2.2.2.2.2.2.2.1 | exact neS zqz.2.2.2.2.2.2.2.1.1 | exact neS zqz.2.2.2.2.2.2.2.1.2 | exact neS zqz.2.2.2.2.2.2.2.1.2.1 | exact neS zqz.2.2.2.2.2.2.2.1.2.2 | exact neS zqz.2.2.2.2.2.2.2.2.1 | exact neS zqz.2.2.2.2.2.2.2.2.1.1 | exact neS zqz.2.2.2.2.2.2.2.2.1.2 | exact neS zqz.2.2.2.2.2.2.2.2.1.2.1 | exact neS zqz.2.2.2.2.2.2.2.2.1.2.2 | exact neS zqz.2 | exact neS zqz.2.2 | exact neS zqz.2.2.2 | exact neS zqz.2.2.2.2 | exact neS zqz.2.2.2.2.2 | exact neS zqz.2.2.2.2.2.2 | exact neS zqz.2.2.2.2.2.2.2 | exact neS zqz.2.2.2.2.2.2.2.2 | exact neT zqz.1 | exact neT zqz.1.1 | exact neT zqz.1.2 | exact neT zqz.1.2.1 | exact neT zqz.1.2.2 | exact neT zqz.2.1 | exact neT zqz.2.1.1 | exact neT zqz.2.1.2 | exact neT zqz.2.1.2.1 | exact neT zqz.2.1.2.2 | exact neT zqz.2.2.1 | exact neT zqz.2.2.1.1 | exact neT zqz.2.2.1.2 | exact neT zqz.2.2.1.2.1 | exact neT zqz.2.2.1.2.2 | exact neT zqz.2.2.2.1 | exact neT zqz.2.2.2.1.1 | exact neT zqz.2.2.2.1.2 | exact neT zqz.2.2.2.1.2.1 | exact neT zqz.2.2.2.1.2.2 | exact neT zqz.2.2.2.2.1 | exact neT zqz.2.2.2.2.1.1 | exact neT zqz.2.2.2.2.1.2 | exact neT zqz.2.2.2.2.1.2.1 | exact neT zqz.2.2.2.2.1.2.2 | exact neT zqz.2.2.2.2.2.1 | exact neT zqz.2.2.2.2.2.1.1 | exact neT zqz.2.2.2.2.2.1.2 | exact neT zqz.2.2.2.2.2.1.2.1 | exact neT zqz.2.2.2.2.2.1.2.2 | exact neT zqz.2.2.2.2.2.2.1 | exact neT zqz.2.2.2.2.2.2.1.1 | exact neT zqz.2.2.2.2.2.2.1.2 | exact neT zqz.2.2.2.2.2.2.1.2.1 | exact neT zqz.2.2.2.2.2.2.1.2.2 | exact neT zqz.2.2.2.2.2.2.2.1 | exact neT zqz.2.2.2.2.2.2.2.1.1 | exact neT zqz.2.2.2.2.2.2.2.1.2 | exact neT zqz.2.2.2.2.2.2.2.1.2.1 | exact neT zqz.2.2.2.2.2.2.2.1.2.2 | exact neT zqz.2.2.2.2.2.2.2.2.1 | exact neT zqz.2.2.2.2.2.2.2.2.1.1 | exact neT zqz.2.2.2.2.2.2.2.2.1.2 | exact neT zqz.2.2.2.2.2.2.2.2.1.2.1 | exact neT zqz.2.2.2.2.2.2.2.2.1.2.2 | exact neT zqz.2 | exact neT zqz.2.2 | exact neT zqz.2.2.2 | exact neT zqz.2.2.2.2 | exact neT zqz.2.2.2.2.2 | exact neT zqz.2.2.2.2.2.2 | exact neT zqz.2.2.2.2.2.2.2 | exact neT zqz.2.2.2.2.2.2.2.2 | (clear zqz; walk_at "ne_look")))))
  (k_with "m om" => (first | ((repeat (with_reducible rename _ ∧ _ => zqzz; clear zqzz)); (repeat (with_reducible rename @Ne Nat _ _ => zqzz; clear zqzz)); omega) | omega))
  (k_with "m spec_enter" => ((
  w_top off
  unfold SpecC
  k_fill
  intro zqdp zqun zqgd zqcn zqcs zqa zqccd zqcl zqouter zqA₀ zqbase zqh₀ zqL zqm zqs zqQ zqE zqB zqF zqX zqN zqT zqhk zqhpre zqhd zqhu zqhret
  obtain ⟨zqsh, zqsg, zqsd, zqst, zqso⟩ := zqs
  dsimp only at zqF zqN zqhpre zqhret
  refine wpAny_call ?_
  refine' callSK ?k1.u4 ?k2.u4 ?k3.u4 ?k4.u4 ?k5.u4 ?kA.u4 ?kF.u4 ?kK.u4 ?kpre.u4 ?kret.u4 ?k6.u4 ?k7.u4 ?k8.u4 ?k9.u4 ?kB.u4 ?_ ?c2.u4 ?c3.u4 ?c4.u4 ?c5.u4
  (case kA => exact rfl); (case kF => exact rfl); (case kK => assumption); (case k1 => k_asm); (case k2 => k_asm); (case k3 => k_asm); (case k4 => k_asm); (case k5 => k_asm)
  (case kpre => exact zqhpre)
  (case kret => exact zqhret)
  (case k6 => k_is); (case k7 => k_is); (case k8 => ktr_room); (case k9 => exact BindsTo.of_eq rfl); (case kB => exact locs rfl); (case c2 => decide); (case c3 => exact rfl); (case c4 => exact rfl); (case c5 => exact rfl)
  clear zqhpre zqhret
  k_whole
  intro zqg' zqL' zqh' zqF' zqN' zqB' zqX' zqT' zqpre'
  (refine fold_fr zqF' ?_; clear zqF'; intro zqmm zqF')
  (try dsimp only); (refine abs_tok ?_; intro zqtk'); (try k_lift zqB'); (try k_fold))))
  (k_with "m spec_enterC" => ((
  w_top off
  unfold SpecC
  k_fill
  intro zqdp zqun zqgd zqcn zqcs zqa zqccd zqcl zqouter zqA₀ zqbase zqh₀ zqL zqm zqs zqQ zqE zqB zqF zqX zqN zqT zqhk zqhpre zqhd zqhu zqhret
  obtain ⟨zqsh, zqsg, zqsd, zqst, zqso⟩ := zqs
  dsimp only at zqF zqN zqhpre zqhret
  refine wpAny_call ?_
  refine' callSC ?k1.u5 ?k2.u5 ?k3.u5 ?k4.u5 ?k5.u5 ?kA.u5 ?kF.u5 ?kK.u5 ?kpre.u5 ?kret.u5 ?k6.u5 ?k7.u5 ?k8.u5 ?k9.u5 ?kB.u5 ?kD.u5 ?_ ?c3.u5 ?c4.u5 ?c5.u5
  (case kA => exact rfl); (case kF => exact rfl); (case kK => assumption); (case k1 => k_asm); (case k2 => k_asm); (case k3 => k_asm); (case k4 => k_asm); (case k5 => k_asm)
  (case kpre => exact zqhpre)
  (case kret => exact zqhret)
  (case k6 => k_is); (case k7 => k_is); (case k8 => ktr_room); (case k9 => exact BindsTo.of_eq rfl); (case kB => exact rfl); (case kD => decide +kernel); (case c3 => exact rfl); (case c4 => exact rfl); (case c5 => exact rfl)
  clear zqhpre zqhret
  k_whole
  intro zqg' zqL' zqh' zqtk' zqcells' zqF' zqN' zqY' zqB' zqX' zqT' zqpre' zql1
  (try k_lt zql1); k_cells zqY'; (try simp only [List.cons_append, List.nil_append] at zqN'); (try dsimp only); (try k_lift zqB'); (try k_fold))))
  (k_with "m spec_end" => (((try dsimp only); (try k_unfold); (try dsimp only))))
  (k_with "m pick_1" => (first | (refine' Pick1.here ?ph.u7; (case ph => k_dflt k_all)) | (refine' Pick1.next ?pn.u7 ?pt.u7; (case pn => k_ne); (case pt => walk_at "pick_1"))))
  (k_with "m use_1" => ((
  (case k1 => k_asm); (case k2 => k_asm); (case k3 => k_asm); (case k4 => k_asm); (case k5 => k_asm); (case kK => first | exact rfl | assumption)
  (case kd => ktr_room); (case ku => ktr_units); (case kp => k_dflt (walk_at "pick_1")))))
  (k_with "m use_2" => ((
  (case k1 => k_asm); (case k2 => k_asm); (case k3 => k_asm); (case k4 => k_asm); (case k5 => k_asm); (case kK => first | exact rfl | assumption)
  (case kd => ktr_room); (case ku => ktr_units); (case kp1 => k_dflt (walk_at "pick_1")); (case kp2 => k_dflt (walk_at "pick_1")))))
  (k_with "m use_0" => ((
  (case k1 => k_asm); (case k2 => k_asm); (case k3 => k_asm); (case k4 => k_asm); (case k5 => k_asm); (case kK => first | exact rfl | assumption)
  (case kd => ktr_room); (case ku => ktr_units))))
  (k_with "m ktr_room" => ((k_dflt (first | exact room1 (by assumption) (by decide) | exact room0 (by assumption) (by decide) | exact roomN (by assumption)))))
  (k_with "m ktr_units" => ((k_dflt (first | exact units1 (by assumption) (by decide) | exact room0 (by assumption) (by decide)))))
  (k_with "m k_ne" => ((refine neN ?_; (try dsimp only); first | walk_at "ne_look" | omega -splitDisjunctions | omega)))
  (k_with "m append_L" => ((k_here; (with_reducible show wpAny _ _ (call (Value.builtin _) [Value.ref _, _]) _ _ _); k_dflt (refine' append_L ?k1.u14 ?k2.u14 ?k3.u14 ?k4.u14 ?_; (case k1 => k_asm); (case k2 => k_asm); (case k3 => k_upd); (case k4 => first | omega | (simp only [List.length_append, List.length_cons, List.length_nil]; omega)); k_whole); intro zqh' zqF' zqN'; (try k_sweep))))
  (k_with "m all_lt" => (first
  | exact allLt_mem (by assumption)
  | exact allLt_mem (And.right (by assumption))
  | exact allLt_mem (And.right (And.right (by assumption)))
  | exact allLt_mem (And.right (And.right (And.right (by assumption))))
  | exact allLt_mem (And.right (And.right (And.right (And.right (by assumption)))))
  | exact allLt_mem (And.right (And.right (And.right (And.right (And.right (by assumption))))))
  | exact allLt_mem (And.right (And.right (And.right (And.right (And.right (And.right (by assumption)))))))
  | exact allLt_mem (And.right (And.right (And.right (And.right (And.right (And.right (And.right (by assumption))))))))
  | exact allLt_mem (And.right (And.right (And.right (And.right (And.right (And.right (And.right (And.right (by assumption)))))))))))
  (k_with "m own_off1" => (first | exact ownOff_nil | assumption | (refine ownOff_cons ?_ ?_; (first | exact OwnOff.ne (by assumption) (by k_memK) | walk_at "all_lt" | fail "own_off: an address"); walk_at "own_off1")))
  (k_with "m own_off" => (((try dsimp only [List.map_cons, List.map_nil]); walk_at "own_off1")))
  (k_with "m led_in1" => (first | exact sub_nil | (refine sub_cons ?_ ?_; k_mem; walk_at "led_in1")))
  (k_with "m led_in" => (((try dsimp only); walk_at "led_in1")))
  (k_with "m own_in1" => (first | assumption | (refine List.Mem.tail _ ?_; walk_at "own_in1")))
  (k_with "m own_in" => ((intro zqp zqhp; walk_at "own_in1")))
  (k_with "m jp_end" => ((
  (case hk => kst_all); (case hn => walk_at "led_in"); (case ho => walk_at "own_in"); (case ha => walk_at "own_off"))))
  (k_with "m is_list" => (first | is_list | exact isList_at (by k_asm) (by assumption)))
  (k_with "m sub_all1" => (first | exact sub_nil | (refine sub_cons ?_ ?_; k_mem; walk_at "sub_all1") | (intro zqp zqhp; walk_at "own_in1")))
  (k_with "m sub_all" => (((try simp only [List.cons_append, List.nil_append]); walk_at "sub_all1")))
  trivial
section
variable {w : World} {p : Program} {loose : List Str} {mean : ExcName → Option Value} {mg mb : Str → Option Value}
theorem said_24 : True := by
  (k_with "m pyIter ref" => ((refine stand ?_)))
  (k_with "m exec While Compare cons nil" => ((refine stand ?_)))
  (k_with "m exec While" => ((refine stand ?_)))
  trivial
theorem isList_b1 {h : Heap} {l : Addr} {b : Bool} (x : h.IsList l #[Value.bool b]) : h.IsList l (boolsV [b]) := x
theorem said_25 : True := by
  (k_with "m binaryOp Add ref ref" => ((k_here; k_dflt (refine' addB ?k1.u52 ?k2.u52 ?k3.u52 ?k4.u52 ?k5.u52 ?_; (case k1 => k_asm); (case k2 => k_asm); (case k3 => first | is_list | exact isList_b1 (by is_list) | exact isList_at (by k_asm) (by assumption)); (case k4 => first | is_list | exact isList_b1 (by is_list) | exact isList_at (by k_asm) (by assumption)); (case k5 => (simp only [List.length_append, List.length_cons, List.length_nil]; omega)); k_whole); intro zqy' zqh' zqF' zqN' zql1; (try k_lt zql1); (try k_sweep))))
  (k_with "m subscriptTail Name Name ref int" => ((k_here; (with_unfolding_all refine' item_bools ?k1.u53 ?k2.u53 ?k3.u53 ?k4.u53 ?_ ?k6.u53; (case k1 => is_list); (case k2 => walk_at "om"); (case k3 => (simp only [List.length_append, List.length_cons, List.length_nil]; walk_at "om")); (case k4 => (simp only [List.length_append, List.length_cons, List.length_nil]; walk_at "om")); (case k6 => with_unfolding_all rfl); k_whole))))
  (k_with "m subscriptTail Name BinOp ref int" => ((k_here; (with_unfolding_all refine' item_bools ?k1.u54 ?k2.u54 ?k3.u54 ?k4.u54 ?_ ?k6.u54; (case k1 => is_list); (case k2 => walk_at "om"); (case k3 => (simp only [List.length_append, List.length_cons, List.length_nil]; walk_at "om")); (case k4 => (simp only [List.length_append, List.length_cons, List.length_nil]; walk_at "om")); (case k6 => with_unfolding_all rfl); k_whole))))
  trivial
noncomputable def wideAt (bs : List Bool) (j : Int) : Bool := ([false] ++ bs ++ [false]).getD j.toNat false
noncomputable def turnsOf (bs : List Bool) : List Int := (rangeKs 0 13).filter fun j => wideAt bs j != wideAt bs (j + 1)
set_option maxHeartbeats 8000000 in
theorem turns_spec (l : Addr) (bs : List Bool) (hl : bs.length = 12) :
    SpecC w p loose mean mg mb 103 (fun g => g.IsList l (boolsV bs)) [] [.ref l] 5
      (fun r news' => ∃ l' vs n, r = .ref l' ∧ news' = [(l', listOf (List.toArray vs) n)] ∧ IntsAre vs (turnsOf bs)) := by
  walk_at "spec_enterC"
  k_steps
  rename IntsAre _ _ => hI8
  rename News _ _ _ _ => N7
  refine leaveS_sub [_] (by k_asm) N7 (by walk_at "led_in") ⟨_, _, _, rfl, rfl, cast (congrArg (IntsAre _) ?_) hI8⟩
  refine (fold_filter (fun j => wideAt bs j != wideAt bs (j + 1)) _ (fun l k => ?_) _ _).trans (List.nil_append _)
  unfold wideAt
  by_cases h : ([false] ++ bs ++ [false]).getD k.toNat false = ([false] ++ bs ++ [false]).getD (k + 1).toNat false
  · simp [h]
  · simp [h]
end
theorem again_26 : True := by
  k_with_none
  (k_with "m omega" => ((first | decide | (with_reducible exact Int.natCast_nonneg _) | exact om1 (by with_reducible assumption) (by decide) | exact om2 (by with_reducible assumption) (by decide) | exact om3 (by with_reducible assumption) (by decide) | exact om4 (by with_reducible assumption) (by decide) | exact om5 (by with_reducible assumption) (by decide) | exact om6 (by with_reducible assumption) (by decide) | exact om7 (by with_reducible assumption) (by decide) | exact om8 (by with_reducible assumption) (by decide) | exact om9 (by with_reducible assumption) (by decide) | exact om10 (by with_reducible assumption) (by decide) | exact om5 (by with_reducible assumption) (om2 (by with_reducible assumption) (by decide)) | exact om6 (by with_reducible assumption) (om1 (by with_reducible assumption) (by decide)) | exact Nat.le_of_lt (by with_reducible assumption) | exact Nat.succ_le_of_lt (by with_reducible assumption) | exact Int.le_of_lt (by with_reducible assumption) | exact Int.not_le.mp (by with_reducible assumption) | exact Int.not_lt.mp (by with_reducible assumption) | exact Nat.lt_of_not_le (by with_reducible assumption) | exact Nat.le_of_not_lt (by with_reducible assumption) | fail)))
  (k_with "m ne_look" => (with_reducible (first | (refine neS ?_; assumption) | (refine neT ?_; assumption) | (refine ltS ?_; assumption) | (refine ltT ?_; assumption) | (rename _ ∧ _ => zqz; first | ((have zqzz : @LT.lt Nat _ _ _ := zqz.1); clear zqzz; first | exact ltS zqz.1 | exact ltT zqz.1 | exact ltS zqz.2.1 | exact ltT zqz.2.1 | exact ltS zqz.2.2.1 | exact ltT zqz.2.2.1 | exact ltS zqz.2.2.2.1 | exact ltT zqz.2.2.2.1 | exact ltS zqz.2.2.2.2.1 | exact ltT zqz.2.2.2.2.1 | exact ltS zqz.2.2.2.2.2.1 | exact ltT zqz.2.2.2.2.2.1 | exact ltS zqz.2.2.2.2.2.2.1 | exact ltT zqz.2.2.2.2.2.2.1 | exact ltS zqz.2.2.2.2.2.2.2.1 | exact ltT zqz.2.2.2.2.2.2.2.1 | exact ltS zqz.2.2.2.2.2.2.2.2.1 | exact ltT zqz.2.2.2.2.2.2.2.2.1 | exact ltS zqz.2.2.2.2.2.2.2.2.2.1 | exact ltT zqz.2.2.2.2.2.2.2.2.2.1 | exact ltS zqz.2.2.2.2.2.2.2.2.2.2.1 | exact ltT zqz.2.2.2.2.2.2.2.2.2.2.1 | exact ltS zqz.2.2.2.2.2.2.2.2.2.2.2.1 | exact ltT zqz.2.2.2.2.2.2.2.2.2.2.2.1 | exact ltS zqz.2.2.2.2.2.2.2.2.2.2.2.2.1 | exact ltT zqz.2.2.2.2.2.2.2.2.2.2.2.2.1 | exact ltS zqz.2.2.2.2.2.2.2.2.2.2.2.2.2.1 | exact ltT zqz.2.2.2.2.2.2.2.2.2.2.2.2.2.1 | exact ltS zqz.2 | exact ltT zqz.2 | exact ltS zqz.2.2 | exact ltT zqz.2.2 | exact ltS zqz.2.2.2 | exact ltT zqz.2.2.2 | exact ltS zqz.2.2.2.2 | exact ltT zqz.2.2.2.2 | exact ltS zqz.2.2.2.2.2 | exact ltT zqz.2.2.2.2.2 | exact ltS zqz.2.2.2.2.2.2 | exact ltT zqz.2.2.2.2.2.2 | exact ltS zqz.2.2.2.2.2.2.2 | exact ltT zqz.2.2.2.2.2.2.2 | exact ltS zqz.2.2.2.2.2.2.2.2 | exact ltT zqz.2.2.2.2.2.2.2.2 | exact ltS zqz.2.2.2.2.2.2.2.2.2 | exact ltT zqz.2.2.2.2.2.2.2.2.2 | exact ltS zqz.2.2.2.2.2.2.2.2.2.2 | exact ltT zqz.2.2.2.2.2.2.2.2.2.2 | exact ltS zqz.2.2.2.2.2.2.2.2.2.2.2 | exact ltT zqz.2.2.2.2.2.2.2.2.2.2.2 | exact ltS zqz.2.2.2.2.2.2.2.2.2.2.2.2 | exact ltT zqz.2.2.2.2.2.2.2.2.2.2.2.2 | exact ltS zqz.2.2.2.2.2.2.2.2.2.2.2.2.2 | exact ltT zqz.2.2.2.2.2.2.2.2.2.2.2.2.2) | exact neS zqz.1 | exact neS zqz.1.1 | exact neS zqz.1.2 | exact neS zqz.1.2.1 | exact neS zqz.1.2.2 | exact neS zqz.2.1 | exact neS zqz.2.1.1 | exact neS zqz.2.1.2 | exact neS zqz.2.1.2.1 | exact neS zqz.2.1.2.2 | exact neS zqz.2.2.1 | exact neS zqz.2.2.1.1 | exact neS zqz.2.2.1.2 | exact neS zqz.2.2.1.2.1 | exact neS zqz.2.2.1.2.2 | exact neS zqz.2.2.2.1 | exact neS zqz.2.2.2.1.1 | exact neS zqz.2.2.2.1.2 | exact neS zqz.2.2.2.1.2.1 | exact neS zqz.2.2.2.1.2.2 | exact neS zqz.2.2.2.2.1 | exact neS zqz.2.2.2.2.1.1 | exact neS zqz.2.2.2.2.1.2 | exact neS zqz.2.2.2.2.1.2.1 | exact neS zqz.2.2.2.2.1.2.2 | exact neS zqz.2.2.2.2.2.1 | exact neS zqz.2.2.2.2.2.1.1 | exact neS zqz.2.2.2.2.2.1.2 | exact neS zqz.2.2.2.2.2.1.2.1 | exact neS zqz.2.2.2.2.2.1.2.2 | exact neS zqz.2.2.2.2.2.2.1 | exact neS zqz.2.2.2.2.2.2.1.1 | exact neS zqz.2.2.2.2.2.2.1.2 | exact neS zqz.2.2.2.2.2.2.1.2.1 | exact neS zqz.2.2.2.2.2.2.1.2.2 | exact neS zqz.2.2.2.2.2.2.2.1 | exact neS zqz.2.2.2.2.2.2.2.1.1 | exact neS zqz.2.2.2.2.2.2.2.1.2 | exact neS zqz.2.2.2.2.2.2.2.1.2.1 | exact neS zqz.2.2.2.2.2.2.2.1.2.2 | exact neS zqz.2.2.2.2.2.2.2.2.1 | exact neS zqz.2.2.2.2.2.2.2.2.1.1 | exact neS zqz.2.2.2.2.2.2.2.2.1.2 | exact neS zqz.2.2.2.2.2.2.2.2.1.2.1 | exact neS zqz.2.2.2.2.2.2.2.2.1.2.2 | exact neS zqz.2 | exact neS zqz.2.2 | exact neS zqz.2.2.2 | exact neS zqz.2.2.2.2 | exact neS zqz.2.2.2.2.2 | exact neS zqz.2.2.2.2.2.2 | exact neS zqz.2.2.2.2.2.2.2 | exact neS zqz.2.2.2.2.2.2.2.2 | exact neT zqz.1 | exact neT zqz.1.1 | exact neT zqz.1.2 | exact neT zqz.1.2.1 | exact neT zqz.1.2.2 | exact neT zqz.2.1 | exact neT zqz.2.1.1 | exact neT zqz.2.1.2 | exact neT zqz.2.1.2.1 | exact neT zqz.2.1.2.2 | exact neT zqz.2.2.1 | exact neT zqz.2.2.1.1 | exact neT zqz.2.2.1.2 | exact neT zqz.2.2.1.2.1 | exact neT zqz.2.2.1.2.2 | exact neT zqz.2.2.2.1 | exact neT zqz.2.2.2.1.1 | exact neT zqz.2.2.2.1.2 | exact neT zqz.2.2.2.1.2.1 | exact neT zqz.2.2.2.1.2.2 | exact neT zqz.2.2.2.2.1 | exact neT zqz.2.2.2.2.1.1 | exact neT zqz.2.2.2.2.1.2 | exact neT zqz.2.2.2.2.1.2.1 | exact neT zqz.2.2.2.2.1.2.2 | exact neT zqz.2.2.2.2.2.1 | exact neT zqz.2.2.2.2.2.1.1 | exact neT zqz.2.2.2.2.2.1.2 | exact neT zqz.2.2.2.2.2.1.2.1 | exact neT zqz.2.2.2.2.2.1.2.2 | exact neT zqz.2.2.2.2.2.2.1 | exact neT zqz.2.2.2.2.2.2.1.1 | exact neT zqz.2.2.2.2.2.2.1.2 | exact neT zqz.2.2.2.2.2.2.1.2.1 | exact neT zqz.2.2.2.2.2.2.1.2.2 | exact neT zqz.2.2.2.2.2.2.2.1 | exact neT zqz.2.2.2.2.2.2.2.1.1 | exact neT zqz.2.2.2.2.2.2.2.1.2 | exact neT zqz.2.2.2.2.2.2.2.1.2.1 | exact neT zqz.2.2.2.2.2.2.2.1.2.2 | exact neT zqz.2.2.2.2.2.2.2.2.1 | exact neT zqz.2.2.2.2.2.2.2.2.1.1 | exact neT zqz.2.2.2.2.2.2.2.2.1.2 | exact neT zqz.2.2.2.2.2.2.2.2.1.2.1 | exact neT zqz.2.2.2.2.2.2.2.2.1.2.2 | exact neT zqz.2 | exact neT zqz.2.2 | exact neT zqz.2.2.2 | exact neT zqz.2.2.2.2 | exact neT zqz.2.2.2.2.2 | exact neT zqz.2.2.2.2.2.2 | exact neT zqz.2.2.2.2.2.2.2 | exact neT zqz.2.2.2.2.2.2.2.2 | (clear zqz; walk_at "ne_look")))))
  (k_with "m om" => (first | ((repeat (with_reducible rename _ ∧ _ => zqzz; clear zqzz)); (repeat (with_reducible rename @Ne Nat _ _ => zqzz; clear zqzz)); omega) | omega))
  (k_with "m spec_enter" => ((
  w_top off
  unfold SpecC
  k_fill
  intro zqdp zqun zqgd zqcn zqcs zqa zqccd zqcl zqouter zqA₀ zqbase zqh₀ zqL zqm zqs zqQ zqE zqB zqF zqX zqN zqT zqhk zqhpre zqhd zqhu zqhret
  obtain ⟨zqsh, zqsg, zqsd, zqst, zqso⟩ := zqs
  dsimp only at zqF zqN zqhpre zqhret
  refine wpAny_call ?_
  refine' callSK ?k1.u4 ?k2.u4 ?k3.u4 ?k4.u4 ?k5.u4 ?kA.u4 ?kF.u4 ?kK.u4 ?kpre.u4 ?kret.u4 ?k6.u4 ?k7.u4 ?k8.u4 ?k9.u4 ?kB.u4 ?_ ?c2.u4 ?c3.u4 ?c4.u4 ?c5.u4
  (case kA => exact rfl); (case kF => exact rfl); (case kK => assumption); (case k1 => k_asm); (case k2 => k_asm); (case k3 => k_asm); (case k4 => k_asm); (case k5 => k_asm)
  (case kpre => exact zqhpre)
  (case kret => exact zqhret)
  (case k6 => k_is); (case k7 => k_is); (case k8 => ktr_room); (case k9 => exact BindsTo.of_eq rfl); (case kB => exact locs rfl); (case c2 => decide); (case c3 => exact rfl); (case c4 => exact rfl); (case c5 => exact rfl)
  clear zqhpre zqhret
  k_whole
  intro zqg' zqL' zqh' zqF' zqN' zqB' zqX' zqT' zqpre'
  (refine fold_fr zqF' ?_; clear zqF'; intro zqmm zqF')
  (try dsimp only); (refine abs_tok ?_; intro zqtk'); (try k_lift zqB'); (try k_fold))))
  (k_with "m spec_enterC" => ((
  w_top off
  unfold SpecC
  k_fill
  intro zqdp zqun zqgd zqcn zqcs zqa zqccd zqcl zqouter zqA₀ zqbase zqh₀ zqL zqm zqs zqQ zqE zqB zqF zqX zqN zqT zqhk zqhpre zqhd zqhu zqhret
  obtain ⟨zqsh, zqsg, zqsd, zqst, zqso⟩ := zqs
  dsimp only at zqF zqN zqhpre zqhret
  refine wpAny_call ?_
  refine' callSC ?k1.u5 ?k2.u5 ?k3.u5 ?k4.u5 ?k5.u5 ?kA.u5 ?kF.u5 ?kK.u5 ?kpre.u5 ?kret.u5 ?k6.u5 ?k7.u5 ?k8.u5 ?k9.u5 ?kB.u5 ?kD.u5 ?_ ?c3.u5 ?c4.u5 ?c5.u5
  (case kA => exact rfl); (case kF => exact rfl); (case kK => assumption); (case k1 => k_asm); (case k2 => k_asm); (case k3 => k_asm); (case k4 => k_asm); (case k5 => k_asm)
  (case kpre => exact zqhpre)
  (case kret => exact zqhret)
  (case k6 => k_is); (case k7 => k_is); (case k8 => ktr_room); (case k9 => exact BindsTo.of_eq rfl); (case kB => exact rfl); (case kD => decide +kernel); (case c3 => exact rfl); (case c4 => exact rfl); (case c5 => exact rfl)
  clear zqhpre zqhret
  k_whole
  intro zqg' zqL' zqh' zqtk' zqcells' zqF' zqN' zqY' zqB' zqX' zqT' zqpre' zql1
  (try k_lt zql1); k_cells zqY'; (try simp only [List.cons_append, List.nil_append] at zqN'); (try dsimp only); (try k_lift zqB'); (try k_fold))))
  (k_with "m spec_end" => (((try dsimp only); (try k_unfold); (try dsimp only))))
  (k_with "m pick_1" => (first | (refine' Pick1.here ?ph.u7; (case ph => k_dflt k_all)) | (refine' Pick1.next ?pn.u7 ?pt.u7; (case pn => k_ne); (case pt => walk_at "pick_1"))))
  (k_with "m use_1" => ((
  (case k1 => k_asm); (case k2 => k_asm); (case k3 => k_asm); (case k4 => k_asm); (case k5 => k_asm); (case kK => first | exact rfl | assumption)
  (case kd => ktr_room); (case ku => ktr_units); (case kp => k_dflt (walk_at "pick_1")))))
  (k_with "m use_2" => ((
  (case k1 => k_asm); (case k2 => k_asm); (case k3 => k_asm); (case k4 => k_asm); (case k5 => k_asm); (case kK => first | exact rfl | assumption)
  (case kd => ktr_room); (case ku => ktr_units); (case kp1 => k_dflt (walk_at "pick_1")); (case kp2 => k_dflt (walk_at "pick_1")))))
  (k_with "m use_0" => ((
  (case k1 => k_asm); (case k2 => k_asm); (case k3 => k_asm); (case k4 => k_asm); (case k5 => k_asm); (case kK => first | exact rfl | assumption)
  (case kd => ktr_room); (case ku => ktr_units))))
  (k_with "m ktr_room" => ((k_dflt (first | exact room1 (by assumption) (by decide) | exact room0 (by assumption) (by decide) | exact roomN (by assumption)))))
  (k_with "m ktr_units" => ((k_dflt (first | exact units1 (by assumption) (by decide) | exact room0 (by assumption) (by decide)))))
  (k_with "m k_ne" => ((refine neN ?_; (try dsimp only); first | walk_at "ne_look" | omega -splitDisjunctions | omega)))
  (k_with "m append_L" => ((k_here; (with_reducible show wpAny _ _ (call (Value.builtin _) [Value.ref _, _]) _ _ _); k_dflt (refine' append_L ?k1.u14 ?k2.u14 ?k3.u14 ?k4.u14 ?_; (case k1 => k_asm); (case k2 => k_asm); (case k3 => k_upd); (case k4 => first | omega | (simp only [List.length_append, List.length_cons, List.length_nil]; omega)); k_whole); intro zqh' zqF' zqN'; (try k_sweep))))
  (k_with "m all_lt" => (first
  | exact allLt_mem (by assumption)
  | exact allLt_mem (And.right (by assumption))
  | exact allLt_mem (And.right (And.right (by assumption)))
  | exact allLt_mem (And.right (And.right (And.right (by assumption))))
  | exact allLt_mem (And.right (And.right (And.right (And.right (by assumption)))))
  | exact allLt_mem (And.right (And.right (And.right (And.right (And.right (by assumption))))))
  | exact allLt_mem (And.right (And.right (And.right (And.right (And.right (And.right (by assumption)))))))
  | exact allLt_mem (And.right (And.right (And.right (And.right (And.right (And.right (And.right (by assumption))))))))
  | exact allLt_mem (And.right (And.right (And.right (And.right (And.right (And.right (And.right (And.right (by assumption)))))))))))
  (k_with "m own_off1" => (first | exact ownOff_nil | assumption | (refine ownOff_cons ?_ ?_; (first | exact OwnOff.ne (by assumption) (by k_memK) | walk_at "all_lt" | fail "own_off: an address"); walk_at "own_off1")))
  (k_with "m own_off" => (((try dsimp only [List.map_cons, List.map_nil]); walk_at "own_off1")))
  (k_with "m led_in1" => (first | exact sub_nil | (refine sub_cons ?_ ?_; k_mem; walk_at "led_in1")))
  (k_with "m led_in" => (((try dsimp only); walk_at "led_in1")))
  (k_with "m own_in1" => (first | assumption | (refine List.Mem.tail _ ?_; walk_at "own_in1")))
  (k_with "m own_in" => ((intro zqp zqhp; walk_at "own_in1")))
  (k_with "m jp_end" => ((
  (case hk => kst_all); (case hn => walk_at "led_in"); (case ho => walk_at "own_in"); (case ha => walk_at "own_off"))))
  (k_with "m is_list" => (first | is_list | exact isList_at (by k_asm) (by assumption)))
  (k_with "m sub_all1" => (first | exact sub_nil | (refine sub_cons ?_ ?_; k_mem; walk_at "sub_all1") | (intro zqp zqhp; walk_at "own_in1")))
  (k_with "m sub_all" => (((try simp only [List.cons_append, List.nil_append]); walk_at "sub_all1")))
  trivial
section
variable {w : World} {p : Program} {loose : List Str} {mean : ExcName → Option Value} {mg mb : Str → Option Value}
open PyProof.Rows.LCg
noncomputable def pairsOf (ts : List Int) : List (Int × Int) := (List.range (ts.length / 2)).map fun i => (ts.getD (2 * i) 0, ts.getD (2 * i + 1) 0)
theorem pairs_take {ts : List Int} {i : Nat} (h : i < ts.length / 2) : (pairsOf ts).take (i + 1) = (pairsOf ts).take i ++ [(ts.getD (2 * i) 0, ts.getD (2 * i + 1) 0)] := by
  have e : (pairsOf ts)[i]? = some (ts.getD (2 * i) 0, ts.getD (2 * i + 1) 0) := by simp [pairsOf, h]
  rw [List.take_add_one, e]; rfl
theorem said_27 : True := by
  (k_with "m eval ListComp" => ((refine stand ?_)))
  (k_with "m call ref" => ((
  (with_reducible show wpAny _ _ (call (Value.ref 103) _) _ _ _)
  k_dflt (refine' specC_use0 (turns_spec _ _ ?hb.u56) ?k1.u56 ?k2.u56 ?k3.u56 ?k4.u56 ?k5.u56 ?kK.u56 ?kd.u56 ?ku.u56 ?kpre.u56 ?_)
  walk_at "use_0"
  (case kpre => (intro zqg zqst zqhq; exact isList_keeps zqst (by assumption))); (case hb => assumption)
  k_whole
  refine ret_list ?_
  intro zql9 zqvs9 zqn9 zqh9 zqtk9 zqF9 zqN9 zqD9 zqhI9
  (try simp only [List.forall_mem_cons, List.not_mem_nil, false_implies, implies_true, and_true, ne_eq] at zqD9))))
  trivial
set_option maxHeartbeats 8000000 in
theorem pairs_spec (l : Addr) (bs : List Bool) (hl : bs.length = 12) (q : Nat) (hq : (turnsOf bs).length = 2 * q) (hq2 : q ≤ 20) :
    SpecC w p loose mean mg mb 108 (fun g => g.IsList l (boolsV bs)) [] [.ref l] 8
      (fun r news' => ∃ l', r = .ref l' ∧ SpansN news' l' (pairsOf (turnsOf bs))) := by
  walk_at "spec_enterC"
  k_steps
  unfold Stand
  rename Fr _ _ _ _ => F8
  rename News _ _ _ _ => N8
  try simp only [List.cons_append, List.nil_append] at N8
  refine' compStep 2 F8 ?kclos ?kcell ?kkind ?knames ?kx ?_ (by intro _; rfl)
  (case kclos => with_unfolding_all rfl)
  (case kcell => decide)
  (case kkind => rfl)
  (case knames => decide)
  (case kx => rfl)
  k_steps
  rename IsRange _ _ _ _ _ _ _ _ => R8
  rename Fr _ _ _ _ => F7
  rename News _ _ _ _ => N7
  rw [hq] at R8
  refine ⟨_, _, _, _, _, _, q, _, rfl, rfl, F7, N7, R8, (by decide +kernel : ∀ q : Nat, q < 21 → Builtin.Range.small 0 ((2 * q : Nat) : Int) 2 = true) q (by omega), (by decide +kernel : ∀ q : Nat, q < 21 → Builtin.Range.rangeSize 0 ((2 * q : Nat) : Int) 2 = ((q : Nat) : Int)) q (by omega), by rw [PySem.sizeLine_eq]; omega, fun g => ?_⟩
  refine' compRest_tl (fun i ys tl => All2 (PairN tl) ys ((pairsOf (turnsOf bs)).take i)) ?hz ?turn ?fin
  case hz => exact .nil
  case turn =>
    intro i ys tl hi hall v I oI C oC D m₂ h tk E' hv hC hx F N off ne
    obtain ⟨t, rfl⟩ := hv
    clear F7 N7
    simp only [List.cons_append, List.nil_append] at N
    k_steps
    rename News _ _ _ _ => N6
    rw [show (0 + (i : Int) * 2).toNat = 2 * i by omega, show (0 + (i : Int) * 2 + 1).toNat = 2 * i + 1 by omega] at N6
    refine' CompEnd.intro (by k_asm) N6 _ ?sub (off3_mid off ?x1 ?x2 ?x3) trivial ⟨(_, _) :: tl, rfl, ?_⟩
    (case sub => walk_at "sub_all")
    (case x1 => omega)
    (case x2 => omega)
    (case x3 => omega)
    rw [pairs_take (by omega)]
    exact (hall.mono fun _ _ ⟨a, t, u, n, e, z⟩ => ⟨a, t, u, n, e, List.Mem.tail _ z⟩).append (.cons ⟨_, _, _, _, rfl, List.Mem.head _⟩ .nil)
  case fin =>
    intro ys tl hall D h tk F1 N1 o1
    refine leaveS_ F1 N1 ⟨_, rfl, ys, _, List.Mem.head _, ?_⟩
    rw [List.take_of_length_le (by simp [pairsOf]; omega)] at hall
    exact hall.mono fun _ _ ⟨a, t, u, n, e, z⟩ => ⟨a, t, u, n, e, List.Mem.tail _ (List.mem_append.mpr (.inr z))⟩
end
theorem again_28 : True := by
  k_with_none
  (k_with "m omega" => ((first | decide | (with_reducible exact Int.natCast_nonneg _) | exact om1 (by with_reducible assumption) (by decide) | exact om2 (by with_reducible assumption) (by decide) | exact om3 (by with_reducible assumption) (by decide) | exact om4 (by with_reducible assumption) (by decide) | exact om5 (by with_reducible assumption) (by decide) | exact om6 (by with_reducible assumption) (by decide) | exact om7 (by with_reducible assumption) (by decide) | exact om8 (by with_reducible assumption) (by decide) | exact om9 (by with_reducible assumption) (by decide) | exact om10 (by with_reducible assumption) (by decide) | exact om5 (by with_reducible assumption) (om2 (by with_reducible assumption) (by decide)) | exact om6 (by with_reducible assumption) (om1 (by with_reducible assumption) (by decide)) | exact Nat.le_of_lt (by with_reducible assumption) | exact Nat.succ_le_of_lt (by with_reducible assumption) | exact Int.le_of_lt (by with_reducible assumption) | exact Int.not_le.mp (by with_reducible assumption) | exact Int.not_lt.mp (by with_reducible assumption) | exact Nat.lt_of_not_le (by with_reducible assumption) | exact Nat.le_of_not_lt (by with_reducible assumption) | fail)))
  (k_with "m ne_look" => (with_reducible (first | (refine neS ?_; assumption) | (refine neT ?_; assumption) | (refine ltS ?_; assumption) | (refine ltT ?_; assumption) | (rename _ ∧ _ => zqz; first | ((have zqzz : @LT.lt Nat _ _ _ := zqz.1); clear zqzz; first | exact ltS zqz.1 | exact ltT zqz.1 | exact ltS zqz.2.1 | exact ltT zqz.2.1 | exact ltS zqz.2.2.1 | exact ltT zqz.2.2.1 | exact ltS zqz.2.2.2.1 | exact ltT zqz.2.2.2.1 | exact ltS zqz.2.2.2.2.1 | exact ltT zqz.2.2.2.2.1 | exact ltS zqz.2.2.2.2.2.1 | exact ltT zqz.2.2.2.2.2.1 | exact ltS zqz.2.2.2.2.2.2.1 | exact ltT zqz.2.2.2.2.2.2.1 | exact ltS zqz.2.2.2.2.2.2.2.1 | exact ltT zqz.2.2.2.2.2.2.2.1 | exact ltS zqz.2.2.2.2.2.2.2.2.1 | exact ltT zqz.2.2.2.2.2.2.2.2.1 | exact ltS zqz.2.2.2.2.2.2.2.2.2.1 | exact ltT zqz.2.2.2.2.2.2.2.2.2.1 | exact ltS zqz.2.2.2.2.2.2.2.2.2.2.1 | exact ltT zqz.2.2.2.2.2.2.2.2.2.2.1 | exact ltS zqz.2.2.2.2.2.2.2.2.2.2.2.1 | exact ltT zqz.2.2.2.2.2.2.2.2.2.2.2.1 | exact ltS zqz.2.2.2.2.2.2.2.2.2.2.2.2.1 | exact ltT zqz.2.2.2.2.2.2.2.2.2.2.2.2.1 | exact ltS zqz.2.2.2.2.2.2.2.2.2.2.2.2.2.1 | exact ltT zqz.2.2.2.2.2.2.2.2.2.2.2.2.2.1 | exact ltS zqz.2 | exact ltT zqz.2 | exact ltS zqz.2.2 | exact ltT zqz.2.2 | exact ltS zqz.2.2.2 | exact ltT zqz.2.2.2 | exact ltS zqz.2.2.2.2 | exact ltT zqz.2.2.2.2 | exact ltS zqz.2.2.2.2.2 | exact ltT zqz.2.2.2.2.2 | exact ltS zqz.2.2.2.2.2.2 | exact ltT zqz.2.2.2.2.2.2 | exact ltS zqz.2.2.2.2.2.2.2 | exact ltT zqz.2.2.2.2.2.2.2 | exact ltS zqz.2.2.2.2.2.2.2.2 | exact ltT zqz.2.2.2.2.2.2.2.2 | exact ltS zqz.2.2.2.2.2.2.2.2.2 | exact ltT zqz.2.2.2.2.2.2.2.2.2 | exact ltS zqz.2.2.2.2.2.2.2.2.2.2 | exact ltT zqz.2.2.2.2.2.2.2.2.2.2 | exact ltS zqz.2.2.2.2.2.2.2.2.2.2.2 | exact ltT zqz.2.2.2.2.2.2.2.2.2.2.2 | exact ltS zqz.2.2.2.2.2.2.2.2.2.2.2.2 | exact ltT zqz.2.2.2.2.2.2.2.2.2.2.2.2 | exact ltS zqz.2.2.2.2.2.2.2.2.2.2.2.2.2 | exact ltT zqz.2.2.2.2.2.2.2.2.2.2.2.2.2) | exact neS zqz.1 | exact neS zqz.1.1 | exact neS zqz.1.2 | exact neS zqz.1.2.1 | exact neS zqz.1.2.2 | exact neS zqz.2.1 | exact neS zqz.2.1.1 | exact neS zqz.2.1.2 | exact neS zqz.2.1.2.1 | exact neS zqz.2.1.2.2 | exact neS zqz.2.2.1 | exact neS zqz.2.2.1.1 | exact neS zqz.2.2.1.2 | exact neS zqz.2.2.1.2.1 | exact neS zqz.2.2.1.2.2 | exact neS zqz.2.2.2.1 | exact neS zqz.2.2.2.1.1 | exact neS zqz.2.2.2.1.2 | exact neS zqz.2.2.2.1.2.1 | exact neS zqz.2.2.2.1.2.2 | exact neS zqz.2.2.2.2.1 | exact neS zqz.2.2.2.2.1.1 | exact neS zqz.2.2.2.2.1.2 | exact neS zqz.2.2.2.2.1.2.1 | exact neS zqz.2.2.2.2.1.2.2 | exact neS zqz.2.2.2.2.2.1 | exact neS zqz.2.2.2.2.2.1.1 | exact neS zqz.2.2.2.2.2.1.2 | exact neS zqz.2.2.2.2.2.1.2.1 | exact neS zqz.2.2.2.2.2.1.2.2 | exact neS zqz.2.2.2.2.2.2.1 | exact neS zqz.2.2.2.2.2.2.1.1 | exact neS zqz.2.2.2.2.2.2.1.2 | exact neS zqz.2.2.2.2.2.2.1.2.1 | exact neS zqz.2.2.2.2.2.2.1.2.2 | exact neS zqz.2.2.2.2.2.2.2.1 | exact neS zqz.2.2.2.2.2.2.2.1.1 | exact neS zqz.2.2.2.2.2.2.2.1.2 | exact neS zqz.2.2.2.2.2.2.2.1.2.1 | exact neS zqz.2.2.2.2.2.2.2.1.2.2 | exact neS zqz.2.2.2.2.2.2.2.2.1 | exact neS zqz.2.2.2.2.2.2.2.2.1.1 | exact neS zqz.2.2.2.2.2.2.2.2.1.2 | exact neS zqz.2.2.2.2.2.2.2.2.1.2.1 | exact neS zqz.2.2.2.2.2.2.2.2.1.2.2 | exact neS zqz.2 | exact neS zqz.2.2 | exact neS zqz.2.2.2 | exact neS zqz.2.2.2.2 | exact neS zqz.2.2.2.2.2 | exact neS zqz.2.2.2.2.2.2 | exact neS zqz.2.2.2.2.2.2.2 | exact neS zqz.2.2.2.2.2.2.2.2 | exact neT zqz.1 | exact neT zqz.1.1 | exact neT zqz.1.2 | exact neT zqz.1.2.1 | exact neT zqz.1.2.2 | exact neT zqz.2.1 | exact neT zqz.2.1.1 | exact neT zqz.2.1.2 | exact neT zqz.2.1.2.1 | exact neT zqz.2.1.2.2 | exact neT zqz.2.2.1 | exact neT zqz.2.2.1.1 | exact neT zqz.2.2.1.2 | exact neT zqz.2.2.1.2.1 | exact neT zqz.2.2.1.2.2 | exact neT zqz.2.2.2.1 | exact neT zqz.2.2.2.1.1 | exact neT zqz.2.2.2.1.2 | exact neT zqz.2.2.2.1.2.1 | exact neT zqz.2.2.2.1.2.2 | exact neT zqz.2.2.2.2.1 | exact neT zqz.2.2.2.2.1.1 | exact neT zqz.2.2.2.2.1.2 | exact neT zqz.2.2.2.2.1.2.1 | exact neT zqz.2.2.2.2.1.2.2 | exact neT zqz.2.2.2.2.2.1 | exact neT zqz.2.2.2.2.2.1.1 | exact neT zqz.2.2.2.2.2.1.2 | exact neT zqz.2.2.2.2.2.1.2.1 | exact neT zqz.2.2.2.2.2.1.2.2 | exact neT zqz.2.2.2.2.2.2.1 | exact neT zqz.2.2.2.2.2.2.1.1 | exact neT zqz.2.2.2.2.2.2.1.2 | exact neT zqz.2.2.2.2.2.2.1.2.1 | exact neT zqz.2.2.2.2.2.2.1.2.2 | exact neT zqz.2.2.2.2.2.2.2.1 | exact neT zqz.2.2.2.2.2.2.2.1.1 | exact neT zqz.2.2.2.2.2.2.2.1.2 | exact neT zqz.2.2.2.2.2.2.2.1.2.1 | exact neT zqz.2.2.2.2.2.2.2.1.2.2 | exact neT zqz.2.2.2.2.2.2.2.2.1 | exact neT zqz.2.2.2.2.2.2.2.2.1.1 | exact neT zqz.2.2.2.2.2.2.2.2.1.2 | exact neT zqz.2.2.2.2.2.2.2.2.1.2.1 | exact neT zqz.2.2.2.2.2.2.2.2.1.2.2 | exact neT zqz.2 | exact neT zqz.2.2 | exact neT zqz.2.2.2 | exact neT zqz.2.2.2.2 | exact neT zqz.2.2.2.2.2 | exact neT zqz.2.2.2.2.2.2 | exact neT zqz.2.2.2.2.2.2.2 | exact neT zqz.2.2.2.2.2.2.2.2 | (clear zqz; walk_at "ne_look")))))
  (k_with "m om" => (first | ((repeat (with_reducible rename _ ∧ _ => zqzz; clear zqzz)); (repeat (with_reducible rename @Ne Nat _ _ => zqzz; clear zqzz)); omega) | omega))
  (k_with "m spec_enter" => ((
  w_top off
  unfold SpecC
  k_fill
  intro zqdp zqun zqgd zqcn zqcs zqa zqccd zqcl zqouter zqA₀ zqbase zqh₀ zqL zqm zqs zqQ zqE zqB zqF zqX zqN zqT zqhk zqhpre zqhd zqhu zqhret
  obtain ⟨zqsh, zqsg, zqsd, zqst, zqso⟩ := zqs
  dsimp only at zqF zqN zqhpre zqhret
  refine wpAny_call ?_
  refine' callSK ?k1.u4 ?k2.u4 ?k3.u4 ?k4.u4 ?k5.u4 ?kA.u4 ?kF.u4 ?kK.u4 ?kpre.u4 ?kret.u4 ?k6.u4 ?k7.u4 ?k8.u4 ?k9.u4 ?kB.u4 ?_ ?c2.u4 ?c3.u4 ?c4.u4 ?c5.u4
  (case kA => exact rfl); (case kF => exact rfl); (case kK => assumption); (case k1 => k_asm); (case k2 => k_asm); (case k3 => k_asm); (case k4 => k_asm); (case k5 => k_asm)
  (case kpre => exact zqhpre)
  (case kret => exact zqhret)
  (case k6 => k_is); (case k7 => k_is); (case k8 => ktr_room); (case k9 => exact BindsTo.of_eq rfl); (case kB => exact locs rfl); (case c2 => decide); (case c3 => exact rfl); (case c4 => exact rfl); (case c5 => exact rfl)
  clear zqhpre zqhret
  k_whole
  intro zqg' zqL' zqh' zqF' zqN' zqB' zqX' zqT' zqpre'
  (refine fold_fr zqF' ?_; clear zqF'; intro zqmm zqF')
  (try dsimp only); (refine abs_tok ?_; intro zqtk'); (try k_lift zqB'); (try k_fold))))
  (k_with "m spec_enterC" => ((
  w_top off
  unfold SpecC
  k_fill
  intro zqdp zqun zqgd zqcn zqcs zqa zqccd zqcl zqouter zqA₀ zqbase zqh₀ zqL zqm zqs zqQ zqE zqB zqF zqX zqN zqT zqhk zqhpre zqhd zqhu zqhret
  obtain ⟨zqsh, zqsg, zqsd, zqst, zqso⟩ := zqs
  dsimp only at zqF zqN zqhpre zqhret
  refine wpAny_call ?_
  refine' callSC ?k1.u5 ?k2.u5 ?k3.u5 ?k4.u5 ?k5.u5 ?kA.u5 ?kF.u5 ?kK.u5 ?kpre.u5 ?kret.u5 ?k6.u5 ?k7.u5 ?k8.u5 ?k9.u5 ?kB.u5 ?kD.u5 ?_ ?c3.u5 ?c4.u5 ?c5.u5
  (case kA => exact rfl); (case kF => exact rfl); (case kK => assumption); (case k1 => k_asm); (case k2 => k_asm); (case k3 => k_asm); (case k4 => k_asm); (case k5 => k_asm)
  (case kpre => exact zqhpre)
  (case kret => exact zqhret)
  (case k6 => k_is); (case k7 => k_is); (case k8 => ktr_room); (case k9 => exact BindsTo.of_eq rfl); (case kB => exact rfl); (case kD => decide +kernel); (case c3 => exact rfl); (case c4 => exact rfl); (case c5 => exact rfl)
  clear zqhpre zqhret
  k_whole
  intro zqg' zqL' zqh' zqtk' zqcells' zqF' zqN' zqY' zqB' zqX' zqT' zqpre' zql1
  (try k_lt zql1); k_cells zqY'; (try simp only [List.cons_append, List.nil_append] at zqN'); (try dsimp only); (try k_lift zqB'); (try k_fold))))
  (k_with "m spec_end" => (((try dsimp only); (try k_unfold); (try dsimp only))))
  (k_with "m pick_1" => (first | (refine' Pick1.here ?ph.u7; (case ph => k_dflt k_all)) | (refine' Pick1.next ?pn.u7 ?pt.u7; (case pn => k_ne); (case pt => walk_at "pick_1"))))
  (k_with "m use_1" => ((
  (case k1 => k_asm); (case k2 => k_asm); (case k3 => k_asm); (case k4 => k_asm); (case k5 => k_asm); (case kK => first | exact rfl | assumption)
  (case kd => ktr_room); (case ku => ktr_units); (case kp => k_dflt (walk_at "pick_1")))))
  (k_with "m use_2" => ((
  (case k1 => k_asm); (case k2 => k_asm); (case k3 => k_asm); (case k4 => k_asm); (case k5 => k_asm); (case kK => first | exact rfl | assumption)
  (case kd => ktr_room); (case ku => ktr_units); (case kp1 => k_dflt (walk_at "pick_1")); (case kp2 => k_dflt (walk_at "pick_1")))))
  (k_with "m use_0" => ((
  (case k1 => k_asm); (case k2 => k_asm); (case k3 => k_asm); (case k4 => k_asm); (case k5 => k_asm); (case kK => first | exact rfl | assumption)
  (case kd => ktr_room); (case ku => ktr_units))))
  (k_with "m ktr_room" => ((k_dflt (first | exact room1 (by assumption) (by decide) | exact room0 (by assumption) (by decide) | exact roomN (by assumption)))))
  (k_with "m ktr_units" => ((k_dflt (first | exact units1 (by assumption) (by decide) | exact room0 (by assumption) (by decide)))))
  (k_with "m k_ne" => ((refine neN ?_; (try dsimp only); first | walk_at "ne_look" | omega -splitDisjunctions | omega)))
  (k_with "m append_L" => ((k_here; (with_reducible show wpAny _ _ (call (Value.builtin _) [Value.ref _, _]) _ _ _); k_dflt (refine' append_L ?k1.u14 ?k2.u14 ?k3.u14 ?k4.u14 ?_; (case k1 => k_asm); (case k2 => k_asm); (case k3 => k_upd); (case k4 => first | omega | (simp only [List.length_append, List.length_cons, List.length_nil]; omega)); k_whole); intro zqh' zqF' zqN'; (try k_sweep))))
  (k_with "m all_lt" => (first
  | exact allLt_mem (by assumption)
  | exact allLt_mem (And.right (by assumption))
  | exact allLt_mem (And.right (And.right (by assumption)))
  | exact allLt_mem (And.right (And.right (And.right (by assumption))))
  | exact allLt_mem (And.right (And.right (And.right (And.right (by assumption)))))
  | exact allLt_mem (And.right (And.right (And.right (And.right (And.right (by assumption))))))
  | exact allLt_mem (And.right (And.right (And.right (And.right (And.right (And.right (by assumption)))))))
  | exact allLt_mem (And.right (And.right (And.right (And.right (And.right (And.right (And.right (by assumption))))))))
  | exact allLt_mem (And.right (And.right (And.right (And.right (And.right (And.right (And.right (And.right (by assumption)))))))))))
  (k_with "m own_off1" => (first | exact ownOff_nil | assumption | (refine ownOff_cons ?_ ?_; (first | exact OwnOff.ne (by assumption) (by k_memK) | walk_at "all_lt" | fail "own_off: an address"); walk_at "own_off1")))
  (k_with "m own_off" => (((try dsimp only [List.map_cons, List.map_nil]); walk_at "own_off1")))
  (k_with "m led_in1" => (first | exact sub_nil | (refine sub_cons ?_ ?_; k_mem; walk_at "led_in1")))
  (k_with "m led_in" => (((try dsimp only); walk_at "led_in1")))
  (k_with "m own_in1" => (first | assumption | (refine List.Mem.tail _ ?_; walk_at "own_in1")))
  (k_with "m own_in" => ((intro zqp zqhp; walk_at "own_in1")))
  (k_with "m jp_end" => ((
  (case hk => kst_all); (case hn => walk_at "led_in"); (case ho => walk_at "own_in"); (case ha => walk_at "own_off"))))
  (k_with "m is_list" => (first | is_list | exact isList_at (by k_asm) (by assumption)))
  (k_with "m sub_all1" => (first | exact sub_nil | (refine sub_cons ?_ ?_; k_mem; walk_at "sub_all1") | (intro zqp zqhp; walk_at "own_in1")))
  (k_with "m sub_all" => (((try simp only [List.cons_append, List.nil_append]); walk_at "sub_all1")))
  trivial
section
/-- a place lies within one of the spans -/
noncomputable def memS (ps : List (Int × Int)) (q : Int) : Bool := ps.any fun s => decide (s.1 ≤ q) && decide (q < s.2)
theorem push_len (f : List Int) (x : Int) : (push f x).length ≤ f.length + 1 := by
  unfold push; split <;> simp
theorem mb_length : ∀ (f as bs : List Int), (mb f as bs).length ≤ f.length + as.length + bs.length := by
  intro f as bs
  induction f, as, bs using mb_ind with
  | case1 f => rw [mb_nn]; simp
  | case2 f a as ih => rw [mb_nil_right]; have := push_len f a; simp only [List.length_cons, List.length_nil] at ih ⊢; omega
  | case3 f b bs ih => rw [mb_nil_left]; have := push_len f b; simp only [List.length_cons, List.length_nil] at ih ⊢; omega
  | case4 f a as b bs h ih => rw [mb_both, if_pos h]; have := push_len f a; simp only [List.length_cons] at ih ⊢; omega
  | case5 f a as b bs h ih => rw [mb_both, if_neg h]; have := push_len f b; simp only [List.length_cons] at ih ⊢; omega
theorem mb_len (ps1 ps2 : List (Int × Int)) : (QS ps1 ps2).length ≤ 2 * ps1.length + 2 * ps2.length := by
  have := mb_length [] (flat ps1) (flat ps2)
  have h1 := flat_length ps1
  have h2 := flat_length ps2
  simp only [List.length_nil] at this
  unfold QS; omega
theorem push_mem {f : List Int} {x z : Int} : z ∈ push f x ↔ z ∈ f ∨ z = x := by
  unfold push
  split
  · simp
  · rename_i h
    rw [not_or] at h
    obtain ⟨h1, h2⟩ := h
    have h3 : f.getD (f.length - 1) 0 = x := Classical.byContradiction h2
    have h4 : 0 < f.length := List.length_pos_iff.mpr h1
    have h5 : x ∈ f := by
      rw [← h3, List.getD_eq_getElem?_getD, List.getElem?_eq_getElem (by omega)]
      exact List.getElem_mem _
    constructor
    · exact .inl
    · rintro (h | rfl)
      · exact h
      · exact h5
theorem le_last : ∀ {f : List Int}, f.Pairwise (· < ·) → ∀ y ∈ f, y ≤ f.getD (f.length - 1) 0
  | [], _, _, h => nomatch h
  | [a], _, y, h => by rw [List.mem_singleton.mp h]; simp
  | a :: b :: r, hp, y, h => by
    have h1 := le_last (List.Pairwise.of_cons hp)
    have e : (a :: b :: r).getD ((a :: b :: r).length - 1) 0 = (b :: r).getD ((b :: r).length - 1) 0 := by simp
    rw [e]
    rcases List.mem_cons.mp h with rfl | h
    · have h2 := List.rel_of_pairwise_cons hp (List.mem_cons_self (a := b) (l := r))
      have h3 := h1 b (List.mem_cons_self ..)
      omega
    · exact h1 y h
theorem push_sorted {f : List Int} {x : Int} (hf : f.Pairwise (· < ·)) (hx : ∀ y ∈ f, y ≤ x) : (push f x).Pairwise (· < ·) := by
  unfold push
  split
  · rename_i h
    rw [List.pairwise_append]
    refine ⟨hf, List.pairwise_singleton _ _, fun y hy z hz => ?_⟩
    rw [List.mem_singleton.mp hz]
    rcases h with rfl | h
    · nomatch hy
    · have h1 := le_last hf y hy
      have h4 : 0 < f.length := List.length_pos_of_mem hy
      have h2 : f.getD (f.length - 1) 0 ∈ f := by
        rw [List.getD_eq_getElem?_getD, List.getElem?_eq_getElem (by omega)]
        exact List.getElem_mem _
      have h3 := hx _ h2
      omega
  · exact hf
theorem mb_sorted : ∀ (f as bs : List Int), f.Pairwise (· < ·) → (∀ y ∈ f, ∀ x ∈ as, y ≤ x) → (∀ y ∈ f, ∀ x ∈ bs, y ≤ x) → as.Pairwise (· ≤ ·) → bs.Pairwise (· ≤ ·) →
    (mb f as bs).Pairwise (· < ·) ∧ ∀ z, z ∈ mb f as bs ↔ z ∈ f ∨ z ∈ as ∨ z ∈ bs := by
  intro f as bs
  have step : ∀ {f as : List Int} {a : Int}, (∀ y ∈ f, ∀ x ∈ a :: as, y ≤ x) → (a :: as).Pairwise (· ≤ ·) → ∀ y ∈ push f a, ∀ x ∈ as, y ≤ x := fun h1 h2 y hy x hx => by
    rcases push_mem.mp hy with hy | rfl
    · exact h1 y hy x (List.mem_cons_of_mem _ hx)
    · exact List.rel_of_pairwise_cons h2 hx
  induction f, as, bs using mb_ind with
  | case1 f => intro h _ _ _ _; rw [mb_nn]; exact ⟨h, fun z => by simp⟩
  | case2 f a as ih =>
    intro h1 h2 _ h4 _
    rw [mb_nil_right]
    obtain ⟨i1, i2⟩ := ih (push_sorted h1 fun y hy => h2 y hy a (List.mem_cons_self ..)) (step h2 h4) (fun _ _ _ h => nomatch h) (List.Pairwise.of_cons h4) .nil
    refine ⟨i1, fun z => ?_⟩
    rw [i2, push_mem]; simp only [List.mem_cons, List.not_mem_nil, or_false]
    exact ⟨fun h => by rcases h with (h | h) | h <;> simp [h], fun h => by rcases h with h | h | h <;> simp [h]⟩
  | case3 f b bs ih =>
    intro h1 _ h2 _ h4
    rw [mb_nil_left]
    obtain ⟨i1, i2⟩ := ih (push_sorted h1 fun y hy => h2 y hy b (List.mem_cons_self ..)) (fun _ _ _ h => nomatch h) (step h2 h4) .nil (List.Pairwise.of_cons h4)
    refine ⟨i1, fun z => ?_⟩
    rw [i2, push_mem]; simp only [List.mem_cons, List.not_mem_nil, false_or]
    exact ⟨fun h => by rcases h with (h | h) | h <;> simp [h], fun h => by rcases h with h | h | h <;> simp [h]⟩
  | case4 f a as b bs hab ih =>
    intro h1 h2 h3 h4 h5
    rw [mb_both, if_pos hab]
    obtain ⟨i1, i2⟩ := ih (push_sorted h1 fun y hy => h2 y hy a (List.mem_cons_self ..)) (step h2 h4) (fun y hy x hx => by
      rcases push_mem.mp hy with hy | rfl
      · exact h3 y hy x hx
      · rcases List.mem_cons.mp hx with rfl | hx
        · exact hab
        · exact Int.le_trans hab (List.rel_of_pairwise_cons h5 hx)) (List.Pairwise.of_cons h4) h5
    refine ⟨i1, fun z => ?_⟩
    rw [i2, push_mem]; simp only [List.mem_cons]
    exact ⟨fun h => by rcases h with (h | h) | h | h | h <;> simp [h], fun h => by rcases h with h | (h | h) | h | h <;> simp [h]⟩
  | case5 f a as b bs hab ih =>
    intro h1 h2 h3 h4 h5
    rw [mb_both, if_neg hab]
    obtain ⟨i1, i2⟩ := ih (push_sorted h1 fun y hy => h3 y hy b (List.mem_cons_self ..)) (fun y hy x hx => by
      rcases push_mem.mp hy with hy | rfl
      · exact h2 y hy x hx
      · have hab' : y ≤ a := by omega
        rcases List.mem_cons.mp hx with rfl | hx
        · exact hab'
        · exact Int.le_trans hab' (List.rel_of_pairwise_cons h4 hx)) (step h3 h5) h4 (List.Pairwise.of_cons h5)
    refine ⟨i1, fun z => ?_⟩
    rw [i2, push_mem]; simp only [List.mem_cons]
    exact ⟨fun h => by rcases h with (h | h) | (h | h) | h <;> simp [h], fun h => by rcases h with h | (h | h) | h | h <;> simp [h]⟩
/-- all places of a normal list lie behind the one ahead -/
theorem norm_gt : ∀ (r : List (Int × Int)) (a : Int), normFrom (some a) r = true → ∀ t ∈ r, a < t.1 ∧ t.1 < t.2
  | [], _, _, _, h => nomatch h
  | s :: r, a, h, t, ht => by
    simp only [normFrom, Bool.and_eq_true, decide_eq_true_eq] at h
    obtain ⟨h1, h2, h3⟩ := h
    rcases List.mem_cons.mp ht with rfl | ht
    · exact ⟨h2, h1⟩
    · obtain ⟨h4, h5⟩ := norm_gt r s.2 h3 t ht
      exact ⟨by omega, h5⟩
theorem norm_cons {o : Option Int} {s : Int × Int} {r : List (Int × Int)} (h : normFrom o (s :: r) = true) : s.1 < s.2 ∧ normFrom (some s.2) r = true := by
  cases o <;> simp only [normFrom, Bool.and_eq_true, decide_eq_true_eq] at h
  · exact h
  · exact ⟨h.1, h.2.2⟩
theorem mem_flat : ∀ {ps : List (Int × Int)} {x : Int}, x ∈ flat ps → ∃ s ∈ ps, x = s.1 ∨ x = s.2
  | s :: r, x, h => by
    simp only [flat, List.mem_cons] at h
    rcases h with h | h | h
    · exact ⟨s, List.mem_cons_self .., .inl h⟩
    · exact ⟨s, List.mem_cons_self .., .inr h⟩
    · obtain ⟨t, ht, e⟩ := mem_flat h
      exact ⟨t, List.mem_cons_of_mem _ ht, e⟩
theorem flat_mem : ∀ {ps : List (Int × Int)} {s : Int × Int}, s ∈ ps → s.1 ∈ flat ps ∧ s.2 ∈ flat ps
  | t :: r, s, h => by
    rcases List.mem_cons.mp h with rfl | h
    · simp [flat]
    · have := flat_mem h
      simp [flat, this]
theorem flat_sorted : ∀ (ps : List (Int × Int)) (o : Option Int), normFrom o ps = true → (flat ps).Pairwise (· < ·)
  | [], _, _ => .nil
  | s :: r, o, h => by
    obtain ⟨h1, h2⟩ := norm_cons h
    have h3 := flat_sorted r _ h2
    have h4 := norm_gt r _ h2
    have h5 : ∀ x ∈ flat r, s.2 < x := fun x hx => by
      obtain ⟨t, ht, e⟩ := mem_flat hx
      obtain ⟨h6, h7⟩ := h4 t ht
      rcases e with rfl | rfl <;> omega
    refine .cons (fun x hx => ?_) (.cons h5 h3)
    rcases List.mem_cons.mp hx with rfl | hx
    · exact h1
    · have := h5 x hx; omega
theorem qs_facts {ps1 ps2 : List (Int × Int)} (h1 : normFrom none ps1 = true) (h2 : normFrom none ps2 = true) : (QS ps1 ps2).Pairwise (· < ·) ∧ ∀ z, z ∈ QS ps1 ps2 ↔ z ∈ flat ps1 ∨ z ∈ flat ps2 := by
  obtain ⟨i1, i2⟩ := mb_sorted [] (flat ps1) (flat ps2) .nil (fun _ h => nomatch h) (fun _ h => nomatch h) ((flat_sorted _ _ h1).imp fun h => Int.le_of_lt h) ((flat_sorted _ _ h2).imp fun h => Int.le_of_lt h)
  exact ⟨i1, fun z => (i2 z).trans ⟨fun h => by rcases h with h | h | h; (exact nomatch h); (exact .inl h); (exact .inr h), .inr⟩⟩
theorem sorted_lt {l : List Int} (h : l.Pairwise (· < ·)) {i j : Nat} (hij : i < j) (hj : j < l.length) : l.getD i 0 < l.getD j 0 := by
  simp only [List.getD_eq_getElem?_getD, List.getElem?_eq_getElem hj, List.getElem?_eq_getElem (Nat.lt_trans hij hj), Option.getD_some]
  exact List.pairwise_iff_getElem.mp h i j _ _ hij
theorem mb_mono (ps1 ps2 : List (Int × Int)) (h1 : normFrom none ps1 = true) (h2 : normFrom none ps2 = true) (i : Nat) (hi : i + 1 < (QS ps1 ps2).length) :
    (QS ps1 ps2).getD i 0 ≤ (QS ps1 ps2).getD (i + 1) 0 := Int.le_of_lt (sorted_lt (qs_facts h1 h2).1 (Nat.lt_succ_self _) hi)
theorem memS_cons (s : Int × Int) (r : List (Int × Int)) (q : Int) : memS (s :: r) q = ((decide (s.1 ≤ q) && decide (q < s.2)) || memS r q) := rfl
theorem memS_low {r : List (Int × Int)} {a q : Int} (h : normFrom (some a) r = true) (hq : q ≤ a) : memS r q = false := by
  rw [memS, List.any_eq_false]
  intro t ht
  have := (norm_gt r a h t ht).1
  simp only [Bool.and_eq_true, decide_eq_true_eq, not_and]
  omega
theorem holds_gen : ∀ (ps : List (Int × Int)) (o : Option Int), normFrom o ps = true → ∀ (a : Nat) (pl : Int), a ≤ ps.length → (∀ i, i < a → (ps.getD i (0, 0)).2 ≤ pl) → (a < ps.length → pl < (ps.getD a (0, 0)).2) →
    (decide (a < ps.length) && decide ((ps.getD a (0, 0)).1 ≤ pl)) = memS ps pl
  | [], _, _, a, pl, h2, _, _ => by
    simp only [List.length_nil, Nat.le_zero] at h2; subst h2; rfl
  | s :: r, o, hn, 0, pl, _, _, h4 => by
    obtain ⟨h5, h6⟩ := norm_cons hn
    have h7 : pl < s.2 := h4 (Nat.succ_pos _)
    rw [memS_cons, memS_low h6 (by omega)]
    simp [h7]
  | s :: r, o, hn, a + 1, pl, h2, h3, h4 => by
    obtain ⟨h5, h6⟩ := norm_cons hn
    have h7 : s.2 ≤ pl := h3 0 (Nat.succ_pos _)
    have ih := holds_gen r _ h6 a pl (by simpa using h2) (fun i hi => by simpa using h3 (i + 1) (by omega)) (fun h => by simpa using h4 (by simpa using h))
    rw [memS_cons, ← ih, decide_eq_false (show ¬ pl < s.2 by omega)]
    simp
theorem holds_val {ps : List (Int × Int)} (hn : normFrom none ps = true) {a : Nat} {pl : Int} (h2 : a ≤ ps.length) (h3 : ∀ i, i < a → (ps.getD i (0, 0)).2 ≤ pl) (h4 : a < ps.length → pl < (ps.getD a (0, 0)).2) :
    (decide (a < ps.length) && decide ((ps.getD a (0, 0)).1 ≤ pl)) = memS ps pl := holds_gen ps none hn a pl h2 h3 h4
end
section
noncomputable def rowAt (bs : List Bool) (q : Int) : Bool := decide (0 ≤ q) && (decide (q < 12) && bs.getD q.toNat false)
structure RowOk (bs : List Bool) : Prop where
  len : ∃ q, (turnsOf bs).length = 2 * q ∧ q ≤ 7
  normal : normFrom none (pairsOf (turnsOf bs)) = true
  mem : ∀ q, memS (pairsOf (turnsOf bs)) q = rowAt bs q
  flat : flat (pairsOf (turnsOf bs)) = turnsOf bs
  cap : (pairsOf (turnsOf bs)).length ≤ 7
/-- the turns, one place behind the other -/
noncomputable def tn (k : Int) (prev : Bool) : List Bool → List Int
  | [] => if (prev != false) = true then [k] else []
  | b :: bs => if (prev != b) = true then k :: tn (k + 1) b bs else tn (k + 1) b bs
theorem cons_of {n : Nat} {bs : List Bool} (h : bs.length = n + 1) : ∃ b r, bs = b :: r ∧ r.length = n := by
  cases bs with
  | nil => exact nomatch h
  | cons b r => exact ⟨b, r, rfl, Nat.succ.inj h⟩
theorem turns_tn (bs : List Bool) (h : bs.length = 12) : turnsOf bs = tn 0 false bs := by
  obtain ⟨b0, r0, rfl, h0⟩ := cons_of h
  obtain ⟨b1, r1, rfl, h1⟩ := cons_of h0
  obtain ⟨b2, r2, rfl, h2⟩ := cons_of h1
  obtain ⟨b3, r3, rfl, h3⟩ := cons_of h2
  obtain ⟨b4, r4, rfl, h4⟩ := cons_of h3
  obtain ⟨b5, r5, rfl, h5⟩ := cons_of h4
  obtain ⟨b6, r6, rfl, h6⟩ := cons_of h5
  obtain ⟨b7, r7, rfl, h7⟩ := cons_of h6
  obtain ⟨b8, r8, rfl, h8⟩ := cons_of h7
  obtain ⟨b9, r9, rfl, h9⟩ := cons_of h8
  obtain ⟨b10, r10, rfl, h10⟩ := cons_of h9
  obtain ⟨b11, r11, rfl, h11⟩ := cons_of h10
  obtain rfl := List.length_eq_zero_iff.mp h11
  have e : PySem.W.rangeKs 0 13 = [0, 1, 2, 3, 4, 5, 6, 7, 8, 9, 10, 11, 12] := by decide +kernel
  unfold turnsOf
  rw [e]
  simp only [List.filter_cons, List.filter_nil]
  rfl
/-- pairs, two by two -/
noncomputable def pr : List Int → List (Int × Int)
  | a :: b :: r => (a, b) :: pr r
  | _ => []
theorem pairs_pr : ∀ ts : List Int, pairsOf ts = pr ts
  | [] => rfl
  | [a] => by simp [pairsOf, pr]
  | a :: b :: r => by
    rw [pr, ← pairs_pr r, pairsOf, pairsOf]
    have e : (a :: b :: r).length / 2 = r.length / 2 + 1 := Nat.add_div_right (z := 2) r.length (by decide)
    rw [e, List.range_succ_eq_map, List.map_cons, List.map_map]
    congr 1
theorem flat_pr : ∀ (ts : List Int) (q : Nat), ts.length = 2 * q → flat (pr ts) = ts ∧ (pr ts).length = q
  | [], q, h => ⟨rfl, by simp only [List.length_nil] at h; simp only [pr, List.length_nil]; omega⟩
  | [a], q, h => by simp only [List.length_cons, List.length_nil] at h; omega
  | a :: b :: r, q, h => by
    simp only [List.length_cons] at h
    obtain ⟨h1, h2⟩ := flat_pr r (q - 1) (by omega)
    simp only [pr, flat, h1, List.length_cons, h2, true_and]
    omega
theorem norm_pr : ∀ (ts : List Int) (o : Option Int), ts.Pairwise (· < ·) → (∀ a, o = some a → ∀ t ∈ ts, a < t) → normFrom o (pr ts) = true
  | [], o, _, _ => by cases o <;> rfl
  | [a], o, _, _ => by cases o <;> rfl
  | a :: b :: r, o, hp, ho => by
    have h1 : a < b := List.rel_of_pairwise_cons hp (List.mem_cons_self ..)
    have h2 := norm_pr r (some b) (List.Pairwise.of_cons (List.Pairwise.of_cons hp)) fun c hc t ht => by
      cases hc
      exact List.rel_of_pairwise_cons (List.Pairwise.of_cons hp) ht
    cases o with
    | none => simp only [pr, normFrom, Bool.and_eq_true, decide_eq_true_eq]; exact ⟨h1, h2⟩
    | some c => simp only [pr, normFrom, Bool.and_eq_true, decide_eq_true_eq]; exact ⟨h1, ho c rfl a (List.mem_cons_self ..), h2⟩
/-- whether an odd number of the places lie at or ahead of q -/
noncomputable def par (q : Int) : List Int → Bool
  | [] => false
  | t :: r => xor (decide (t ≤ q)) (par q r)
theorem par_high {q : Int} : ∀ {ts : List Int}, (∀ t ∈ ts, q < t) → par q ts = false
  | [], _ => rfl
  | t :: r, h => by
    have h1 := h t (List.mem_cons_self ..)
    rw [par, par_high fun x hx => h x (List.mem_cons_of_mem _ hx), decide_eq_false (by omega)]; rfl
theorem mem_pr (q : Int) : ∀ (ts : List Int), ts.Pairwise (· < ·) → (∃ k, ts.length = 2 * k) → memS (pr ts) q = par q ts
  | [], _, _ => rfl
  | [a], _, h => by obtain ⟨k, h⟩ := h; simp only [List.length_cons, List.length_nil] at h; omega
  | a :: b :: r, hp, h => by
    have h1 : a < b := List.rel_of_pairwise_cons hp (List.mem_cons_self ..)
    have h2 := mem_pr q r (List.Pairwise.of_cons (List.Pairwise.of_cons hp)) (by obtain ⟨k, h⟩ := h; simp only [List.length_cons] at h; exact ⟨k - 1, by omega⟩)
    rw [pr, memS_cons, h2, par, par]
    dsimp only
    by_cases h3 : b ≤ q
    · rw [decide_eq_true h3, decide_eq_true (show a ≤ q by omega), decide_eq_false (show ¬ q < b by omega)]
      cases par q r <;> rfl
    · rw [decide_eq_false h3, decide_eq_true (show q < b by omega), par_high fun t ht => by
        have := List.rel_of_pairwise_cons (List.Pairwise.of_cons hp) ht
        omega]
      cases decide (a ≤ q) <;> rfl
theorem tn_ge : ∀ (bs : List Bool) (k : Int) (prev : Bool), ∀ t ∈ tn k prev bs, k ≤ t
  | [], k, prev, t, h => by
    unfold tn at h
    split at h
    · rw [List.mem_singleton.mp h]; exact Int.le_refl _
    · nomatch h
  | b :: bs, k, prev, t, h => by
    unfold tn at h
    split at h
    · rcases List.mem_cons.mp h with rfl | h
      · exact Int.le_refl _
      · have := tn_ge bs (k + 1) b t h; omega
    · have := tn_ge bs (k + 1) b t h; omega
theorem tn_sorted : ∀ (bs : List Bool) (k : Int) (prev : Bool), (tn k prev bs).Pairwise (· < ·)
  | [], k, prev => by unfold tn; split <;> simp
  | b :: bs, k, prev => by
    unfold tn
    split
    · exact .cons (fun t ht => by have := tn_ge bs (k + 1) b t ht; omega) (tn_sorted bs (k + 1) b)
    · exact tn_sorted bs (k + 1) b
theorem tn_len : ∀ (bs : List Bool) (k : Int) (prev : Bool), (tn k prev bs).length ≤ bs.length + 1 ∧ ((tn k prev bs).length % 2 = if prev = true then 1 else 0)
  | [], k, prev => by cases prev <;> simp [tn]
  | b :: bs, k, prev => by
    obtain ⟨h1, h2⟩ := tn_len bs (k + 1) b
    unfold tn
    split
    · rename_i h
      refine ⟨by simp only [List.length_cons]; omega, ?_⟩
      cases prev <;> cases b <;> simp at h <;> simp only [List.length_cons] at h2 ⊢ <;> simp at h2 ⊢ <;> omega
    · rename_i h
      refine ⟨by simp only [List.length_cons]; omega, ?_⟩
      cases prev <;> cases b <;> simp at h <;> simpa using h2
theorem tn_par (q : Int) : ∀ (bs : List Bool) (k : Int) (prev : Bool), k ≤ q → par q (tn k prev bs) = xor prev (bs.getD (q - k).toNat false)
  | [], k, prev, h => by
    unfold tn
    cases prev
    · rfl
    · simp [par, h]
  | b :: bs, k, prev, h => by
    have h1 : par q (tn (k + 1) b bs) = if k = q then false else xor b (bs.getD (q - (k + 1)).toNat false) := by
      by_cases h2 : k = q
      · rw [if_pos h2]
        exact par_high fun t ht => by have := tn_ge bs (k + 1) b t ht; omega
      · rw [if_neg h2]
        exact tn_par q bs (k + 1) b (by omega)
    have h3 : (b :: bs).getD (q - k).toNat false = if k = q then b else bs.getD (q - (k + 1)).toNat false := by
      by_cases h2 : k = q
      · rw [if_pos h2, show (q - k).toNat = 0 by omega]; rfl
      · rw [if_neg h2, show (q - k).toNat = (q - (k + 1)).toNat + 1 by omega]; rfl
    rw [h3]
    unfold tn
    split
    · rename_i h4
      rw [par, h1, decide_eq_true h]
      by_cases h2 : k = q
      · rw [if_pos h2, if_pos h2]; cases prev <;> cases b <;> simp at h4 ⊢
      · rw [if_neg h2, if_neg h2]; cases prev <;> cases b <;> simp at h4 ⊢
    · rename_i h4
      rw [h1]
      by_cases h2 : k = q
      · rw [if_pos h2, if_pos h2]; cases prev <;> cases b <;> simp at h4 ⊢
      · rw [if_neg h2, if_neg h2]; cases prev <;> cases b <;> simp at h4 ⊢
theorem row_ok (bs : List Bool) (h : bs.length = 12) : RowOk bs := by
  have e := turns_tn bs h
  have e2 := pairs_pr (tn 0 false bs)
  obtain ⟨h1, h2⟩ := tn_len bs 0 false
  simp only [Bool.false_eq_true, if_false] at h2
  have h3 : (tn 0 false bs).length = 2 * ((tn 0 false bs).length / 2) := by omega
  obtain ⟨h4, h5⟩ := flat_pr _ _ h3
  have hs := tn_sorted bs 0 false
  refine ⟨⟨(tn 0 false bs).length / 2, by rw [e]; exact h3, by omega⟩, by rw [e, e2]; exact norm_pr _ none hs (fun _ h => nomatch h), fun q => ?_, by rw [e, e2]; exact h4, by rw [e, e2]; omega⟩
  rw [e, e2, mem_pr q _ hs ⟨_, h3⟩]
  unfold rowAt
  by_cases hq : 0 ≤ q
  · rw [tn_par q bs 0 false hq, decide_eq_true hq, Int.sub_zero]
    by_cases hq2 : q < 12
    · rw [decide_eq_true hq2]; simp
    · rw [decide_eq_false hq2, List.getD_eq_getElem?_getD, List.getElem?_eq_none (by omega)]; rfl
  · rw [decide_eq_false hq, par_high fun t ht => by have := tn_ge bs 0 false t ht; omega]; rfl
end
section
variable {w : World} {p : Program} {loose : List Str} {mean : ExcName → Option Value} {mg mb : Str → Option Value}
/-- what a pair of truths asks, told by a def -/
structure KeepsFn (w : World) (p : Program) (loose : List Str) (mean : ExcName → Option Value) (mg mb : Str → Option Value) (fk : Addr) (preK : Heap → Prop) (kf : Bool → Bool → Bool) : Prop where
  mono : ∀ g g' : Heap, g.StaysIn g' → preK g → preK g'
  fn : ∀ g : Heap, preK g → ∃ o fd, g.get? fk = some o ∧ o.data = .func fd
  spec : ∀ a b, SpecC w p loose mean mg mb fk preK [] [.bool a, .bool b] 10 (fun r news' => r = .bool (kf a b) ∧ news' = [])
section
variable {M : Model} {A : Around} {E : Value → Shared → Prop} {s : Shared} {env : Env} {pos : Pos} {first : List Value} {Q : Value → Shared → Prop}
theorem callWith_keeps {fk : Addr} {preK : Heap → Prop} {kf : Bool → Bool → Bool} {e : Expr} {rest : List Expr} (hK : KeepsFn w p loose mean mg mb fk preK kf) (h : wpAny M A (spliced (backTo pos (starEach (e :: rest) env))) (fun vs s₁ => preK s₁.heap ∧ wpAny M A (call (.ref fk) (first ++ vs)) Q E s₁) E s)
    (he : starEach (e :: rest) env = (false, eval e env) :: starEach rest env) (hplain : (backTo pos (starEach rest env)).any (·.1) = false) :
    wpAny M A (callWith pos (.ref fk) first (backTo pos (starEach (e :: rest) env)) []) Q E s := by
  rw [he] at h ⊢
  refine callWith_of (P := preK) (by show ((false || (backTo pos (starEach rest env)).any (·.1)) || false) = false; rw [hplain]; rfl) (fun h hp => ?_) (evalArgs_plain h)
  obtain ⟨⟨oc, od, dt, sl⟩, fd, ho, hd⟩ := hK.fn h hp
  dsimp only at hd
  subst hd
  exact ⟨.frame, .inl rfl, (Looks.ld (part := none) ho).andThen .now⟩
end
/-- the spans put together so far -/
noncomputable def putStep (ps : List (Int × Int)) (b e : Int) (k : Bool) : List (Int × Int) :=
  if k then (if ps ≠ [] ∧ (ps.getD (ps.length - 1) (0, 0)).2 = b then ps.take (ps.length - 1) ++ [((ps.getD (ps.length - 1) (0, 0)).1, e)] else ps ++ [(b, e)]) else ps
noncomputable def putFold (qs : List Int) (kk : Int → Bool) : Nat → List (Int × Int)
  | 0 => []
  | i + 1 => putStep (putFold qs kk i) (qs.getD i 0) (qs.getD (i + 1) 0) (kk (qs.getD i 0))
theorem spansH_of {h₀ h : Heap} {L : Addr} {news tl : List (Addr × Obj)} {fl : Addr} {vs : List Value} {ps : List (Int × Int)} {n : Nat} (N : News h₀ L h news) (hm : (fl, listOf vs.toArray n) ∈ news) (hall : All2 (PairN tl) vs ps) (hsub : ∀ p ∈ tl, p ∈ news) : SpansH h fl ps :=
  ⟨vs, ⟨_, (N _ hm).1, rfl, n, rfl⟩, hall.mono fun _ _ ⟨a, t, u, n, e, z⟩ => ⟨a, t, u, e, ⟨_, (N _ (hsub _ z)).1, rfl, n, rfl⟩⟩⟩
theorem spansH_nil {h₀ h : Heap} {L : Addr} {news : List (Addr × Obj)} {e : Addr} {n : Nat} (N : News h₀ L h news) (hm : (e, listOf #[] n) ∈ news) : SpansH h e [] := ⟨[], ⟨_, (N _ hm).1, rfl, n, rfl⟩, .nil⟩
theorem isTup_of {h₀ h : Heap} {L : Addr} {news : List (Addr × Obj)} {e : Addr} {items : Array Value} {n : Nat} (N : News h₀ L h news) (hm : (e, tupObj items n) ∈ news) : IsTup h e items := ⟨_, (N _ hm).1, rfl, n, rfl⟩
theorem isTup_mem {h₀ h : Heap} {L : Addr} {news rest : List (Addr × Obj)} {e : Addr} {items : Array Value} {n : Nat} (N : News h₀ L h news) (hm : (e, tupObj items n) ∈ rest) (hs : ∀ p ∈ rest, p ∈ news) : IsTup h e items := ⟨_, (N _ (hs _ hm)).1, rfl, n, rfl⟩
theorem off_nil {adr : List Addr} : OwnOff ([] : List (Addr × Obj)) adr := fun _ h => nomatch h
theorem off_cons {x : Addr} {o : Obj} {tl : List (Addr × Obj)} {adr : List Addr} (h : ∀ b ∈ adr, x ≠ b) (k : OwnOff tl adr) : OwnOff ((x, o) :: tl) adr := fun p hp b hb => by
  cases hp with
  | head => exact h b hb
  | tail _ hp => exact k p hp b hb
theorem said_29 : True := by
  (k_with "m call builtin:list.append" => (walk_at "append_L"))
  (k_with "m exec For Name Call cons nil" => ((k_here; (rename Fr _ _ _ _ => zqlF'); (with_unfolding_all refine' For_invVF zqlF' ?k1.u58 ?k2.u58 ?_; (case k1 => exact rfl); (case k2 => exact rfl); k_whole))))
  (k_with "m pyIter ref" => ((refine stand ?_)))
  (k_with "m callWith ref" => ((k_here; (refine callWith_keeps (by assumption) ?_ rfl rfl))))
  (k_with "m And" => ((refine And.intro (KeepsFn.mono (by assumption) _ _ (Fr.keep (by k_asm)) (by assumption)) ?_)))
  trivial
local macro_rules | `(tactic| k_room) => `(tactic| ktr_room)
theorem said_30 : True := by
  (k_with "m compareOp NotEq ref ref" => ((refine stand ?_)))
  (k_with "m compareOp NotEq ref ref" => ((k_here; k_dflt (refine' ne_spans ?a.u63 ?b.u63 ?c.u63 ?_; (case c => exact units_room1 (by with_reducible assumption) (by decide)); (case b => exact (spansH_nil (by k_asm) (by k_mem))); (case a => (refine' spansH_of ?a1.u63 ?a2.u63 ?a3.u63 ?a4.u63; (case a1 => k_asm); (case a2 => k_mem); (case a3 => with_reducible assumption); (case a4 => walk_at "own_in")))))))
  (k_with "m subscriptTail Name UnaryOp ref int" => ((k_here; (with_unfolding_all refine' item_last ?k1.u64 ?k2.u64 ?k3.u64 ?_ ?k6.u64; (case k1 => k_asm); (case k2 => k_mem); (case k3 => omega); (case k6 => with_unfolding_all rfl)))))
  (k_with "m subscriptTail Name Constant ref int" => ((k_here; (with_unfolding_all refine' tup_item ?k1.u65 ?k2.u65 ?_ ?k6.u65; (case k1 => exact isTup_mem (by k_asm) (by with_reducible assumption) (by walk_at "own_in")); (case k2 => first | exact .inl rfl | exact .inr rfl); (case k6 => with_unfolding_all rfl)); (try simp only [Int.reduceEq, if_true, if_false, reduceIte]))))
  (k_with "m setItem ref int" => ((k_here; k_dflt (refine' set_last ?k1.u66 ?k2.u66 ?k3.u66 ?_; (case k1 => k_asm); (case k2 => k_asm); (case k3 => k_upd)); intro zqh' zqF' zqN'; (try k_sweep))))
  (k_with "m call ref" => ((
  first | (with_reducible show wpAny _ _ (call (Value.ref 35) _) _ _ _) | (with_reducible show wpAny _ _ (call (Value.ref 56) _) _ _ _) | (with_reducible show wpAny _ _ (call (Value.ref _) [Value.bool _, Value.bool _]) _ _ _)
  refine stand ?_)))
  (k_with "m call ref" => ((
  (with_reducible show wpAny _ _ (call (Value.ref 35) _) _ _ _)
  k_dflt (refine' specC_use0 (merged_spec _ _ _ _ ?h1.u68 ?h2.u68) ?k1.u68 ?k2.u68 ?k3.u68 ?k4.u68 ?k5.u68 ?kK.u68 ?kd.u68 ?ku.u68 ?kpre.u68 ?_)
  walk_at "use_0"
  (case kpre => (intro zqg zqst zqhq; exact ⟨SpansH.keeps zqst (by assumption), SpansH.keeps zqst (by assumption)⟩)); (case h1 => assumption); (case h2 => assumption)
  k_whole
  refine ret_list ?_
  intro zql9 zqvs9 zqn9 zqh9 zqtk9 zqF9 zqN9 zqD9 zqhI9
  (try simp only [List.forall_mem_cons, List.not_mem_nil, false_implies, implies_true, and_true, ne_eq] at zqD9))))
  (k_with "m call ref" => ((
  (with_reducible show wpAny _ _ (call (Value.ref 56) _) _ _ _)
  k_dflt (refine' specC_use2 (holds_spec _ _ _ ?hx.u69 _ ?hl.u69 _ ?ha.u69 _ _ _ _ _) ?k1.u69 ?k2.u69 ?k3.u69 ?k4.u69 ?k5.u69 ?kK.u69 ?kd.u69 ?ku.u69 ?kp1.u69 ?kp2.u69 ?kpre.u69 ?_)
  walk_at "use_2"
  (case kpre => (intro zqg zqst zqhq; exact SpansH.keeps zqst (by assumption))); (case hx => assumption); (case hl => assumption); (case ha => assumption)
  k_whole
  refine ret_two ?_
  intro zqa9 zqt9 zqh9 zqtk9 zqF9 zqN9 zqha1 zqha2 zqha3 zqha4
  replace zqha4 := Nx.mk zqha4)))
  (k_with "m call ref" => ((
  (with_reducible show wpAny _ _ (call (Value.ref _) [Value.bool _, Value.bool _]) _ _ _)
  k_dflt (refine' specC_use0 (KeepsFn.spec (by assumption) _ _) ?k1.u70 ?k2.u70 ?k3.u70 ?k4.u70 ?k5.u70 ?kK.u70 ?kd.u70 ?ku.u70 ?kpre.u70 ?_)
  walk_at "use_0"
  (case kpre => (intro zqg zqst zqhq; exact KeepsFn.mono (by assumption) _ _ zqst (by assumption)))
  k_whole
  refine ret_val ?_
  intro zqh9 zqtk9 zqF9 zqN9)))
  trivial
theorem nameD {h₀ h : Heap} {L : Addr} {news : List (Addr × Obj)} (_N : News h₀ L h news) (x : Addr) {d : Addr} (_h : (x, instObj 59 d) ∈ news) : ∃ b, b = d := ⟨d, rfl⟩
theorem range_size {n : Nat} : Builtin.Range.rangeSize 0 ((n : Int) - 1) 1 = ((n - 1 : Nat) : Int) := by
  unfold Builtin.Range.rangeSize
  split
  · split
    · simp only [Int.sub_zero, Int.ediv_one]; omega
    · omega
  · rename_i h; exact absurd (by decide) h
theorem All2.snoc {α β : Type} {R : α → β → Prop} {as : List α} {a : α} {bs : List β} (h : All2 R (as ++ [a]) bs) : ∃ cs b, bs = cs ++ [b] ∧ All2 R as cs ∧ R a b := by
  induction as generalizing bs with
  | nil =>
    cases h with
    | cons h r => cases r; exact ⟨[], _, rfl, .nil, h⟩
  | cons x as ih =>
    cases h with
    | cons h r =>
      obtain ⟨cs, b, rfl, h1, h2⟩ := ih r
      exact ⟨_ :: cs, b, rfl, .cons h h1, h2⟩
theorem put_e {ps : List (Int × Int)} {a₀ a₁ : Nat} {pl : Int} (hn : normFrom none ps = true) (hB : ∀ j, j < a₀ → (ps.getD j (0, 0)).2 ≤ pl) (h4 : a₁ < ps.length → pl < (ps.getD a₁ (0, 0)).2) (h2 : a₁ ≤ ps.length) (h3 : ∀ i, a₀ ≤ i → i < a₁ → (ps.getD i (0, 0)).2 ≤ pl) :
    (decide (a₁ < ps.length) && decide ((ps.getD a₁ (0, 0)).1 ≤ pl)) = memS ps pl ∧ ∀ j, j < a₁ → (ps.getD j (0, 0)).2 ≤ pl := by
  have h : ∀ j, j < a₁ → (ps.getD j (0, 0)).2 ≤ pl := fun j hj => by
    by_cases h : j < a₀
    · exact hB j h
    · exact h3 j (by omega) hj
  exact ⟨holds_val hn h2 h h4, h⟩
theorem off_ins {own : List (Addr × Obj)} {a b c d e f x : Addr} {r : List Addr} (h : OwnOff own (a :: b :: c :: d :: e :: f :: r)) (hx : ∀ p ∈ own, p.1 ≠ x) : OwnOff own (a :: b :: c :: d :: e :: f :: x :: r) := fun p hp q hq => by
  have hq' : q = x ∨ q ∈ a :: b :: c :: d :: e :: f :: r := by
    simp only [List.mem_cons] at hq ⊢
    rcases hq with h | h | h | h | h | h | h | h <;> simp [h]
  rcases hq' with rfl | hq'
  · exact hx p hp
  · exact h p hp q hq'
theorem nil_or_snoc {α : Type} (l : List α) : l = [] ∨ ∃ r x, l = r ++ [x] := by
  rcases List.eq_nil_or_concat l with h | ⟨r, x, h⟩
  · exact .inl h
  · exact .inr ⟨r, x, by simpa using h⟩
theorem put_keep {qs : List Int} {kk : Int → Bool} {i : Nat} {ps : List (Int × Int)} (h : ps = putFold qs kk i) (hk : kk (qs.getD i 0) = false) : ps = putFold qs kk (i + 1) := by
  rw [putFold, ← h, hk]; rfl
theorem put_new {qs : List Int} {kk : Int → Bool} {i : Nat} {ps : List (Int × Int)} (h : ps = putFold qs kk i) (hk : kk (qs.getD i 0) = true) (hl : ps = [] ∨ ∃ qs' s, ps = qs' ++ [s] ∧ s.2 ≠ qs.getD i 0) : ps ++ [(qs.getD i 0, qs.getD (i + 1) 0)] = putFold qs kk (i + 1) := by
  rw [putFold, ← h, hk, putStep, if_pos rfl, if_neg]
  rintro ⟨h1, h2⟩
  rcases hl with rfl | ⟨qs', s, rfl, h3⟩
  · exact h1 rfl
  · exact h3 (by simpa using h2)
theorem put_more {qs : List Int} {kk : Int → Bool} {i : Nat} {ps : List (Int × Int)} {s : Int × Int} (h : ps ++ [s] = putFold qs kk i) (hk : kk (qs.getD i 0) = true) (hl : s.2 = qs.getD i 0) : ps ++ [(s.1, qs.getD (i + 1) 0)] = putFold qs kk (i + 1) := by
  rw [putFold, ← h, hk, putStep, if_pos rfl, if_pos]
  · simp
  · exact ⟨by simp, by simpa using hl⟩
theorem subT {tl rest news : List (Addr × Obj)} (h : ∀ p ∈ tl, p ∈ rest) (k : ∀ p ∈ rest, p ∈ news) : ∀ p ∈ tl, p ∈ news := fun p hp => k p (h p hp)
theorem off6 {x a b c d e f : Addr} (h : (@Ne Nat x a) ∧ (@Ne Nat x b) ∧ (@Ne Nat x c) ∧ (@Ne Nat x d) ∧ (@Ne Nat x e) ∧ (@Ne Nat x f)) : ∀ y ∈ [a, b, c, d, e, f], x ≠ y := by
  simpa only [List.forall_mem_cons, List.not_mem_nil, false_implies, implies_true, and_true] using h
theorem said_31 : True := by
  (k_with "m off6" => (exact off6 ⟨by k_ne, by k_ne, by k_ne, by k_ne, by k_ne, by k_ne⟩))
  (k_with "m put_sub" => (first | (refine sub_cons ?_ ?_; k_mem; walk_at "put_sub") | (refine subT (by with_reducible assumption) ?_; walk_at "own_in")))
  trivial
noncomputable abbrev KK (ps1 ps2 : List (Int × Int)) (kf : Bool → Bool → Bool) : Int → Bool := fun q => kf (memS ps1 q) (memS ps2 q)
structure PutSt where
  vs : List Value
  ps : List (Int × Int)
  n : Nat
  a1 : Nat
  a2 : Nat
  t1 : Tok
  t2 : Tok
  k11 : Nat
  k12 : Nat
  k21 : Nat
  k22 : Nat
  tl : List (Addr × Obj)
set_option maxHeartbeats 8000000 in
theorem put_spec (l1 l2 fk : Addr) (ps1 ps2 : List (Int × Int)) (hl1 : ps1.length ≤ 100) (hl2 : ps2.length ≤ 100) (preK : Heap → Prop) (kf : Bool → Bool → Bool) (hK : KeepsFn w p loose mean mg mb fk preK kf) (hn1 : normFrom none ps1 = true) (hn2 : normFrom none ps2 = true) :
    SpecC w p loose mean mg mb 70 (fun g => SpansH g l1 ps1 ∧ SpansH g l2 ps2 ∧ preK g) [] [.ref l1, .ref l2, .ref fk] 30
      (fun r news' => ∃ l', r = .ref l' ∧ SpansN news' l' (putFold (QS ps1 ps2) (KK ps1 ps2 kf) ((QS ps1 ps2).length - 1))) := by
  walk_at "spec_enter"
  rename _ ∧ _ => pre8
  obtain ⟨pre1, pre2, pre3⟩ := pre8
  have hqz := mb_len ps1 ps2
  have hmono := mb_mono ps1 ps2 hn1 hn2
  k_steps
  unfold Stand
  rename IsRange _ _ _ _ _ _ _ _ => R8
  rename Fr _ _ _ _ => F8
  rename News _ _ _ _ => N8
  obtain ⟨fl, rfl⟩ := nameR F8 "found" rfl
  obtain ⟨x1, rfl⟩ := nameR F8 "first" rfl
  obtain ⟨x2, rfl⟩ := nameR F8 "second" rfl
  obtain ⟨pl, rfl⟩ := nameR F8 "places" rfl
  obtain ⟨d1, rfl⟩ := nameD N8 x1 (by k_mem)
  obtain ⟨d2, rfl⟩ := nameD N8 x2 (by k_mem)
  obtain ⟨vp, np, rfl, rfl⟩ := nameL N8 pl (by k_mem)
  have hpl : IntsAre vp (QS ps1 ps2) := by assumption
  refine' rangeJ (σ := PutSt) (n := (QS ps1 ps2).length - 1) (fun c => (fl, listOf c.vs.toArray c.n) :: (x1, instObj 59 d1) :: (d1, walkD w l1 c.a1 c.k11 c.k12 c.t1) :: (x2, instObj 59 d2) :: (d2, walkD w l2 c.a2 c.k21 c.k22 c.t2) :: (pl, listOf vp.toArray np) :: c.tl)
    (fun _ => [("found", .ref fl), ("first", .ref x1), ("second", .ref x2), ("places", .ref pl), ("keeps", .ref fk)])
    (fun i c => All2 (PairN c.tl) c.vs c.ps ∧ c.ps = putFold (QS ps1 ps2) (KK ps1 ps2 kf) i ∧ c.a1 ≤ ps1.length ∧ c.a2 ≤ ps2.length ∧ (∀ j, j < c.a1 → (ps1.getD j (0, 0)).2 ≤ (QS ps1 ps2).getD i 0) ∧ (∀ j, j < c.a2 → (ps2.getD j (0, 0)).2 ≤ (QS ps1 ps2).getD i 0) ∧ OwnOff c.tl [fl, x1, d1, x2, d2, pl] ∧ c.vs.length ≤ i)
    ⟨[], [], _, 0, 0, _, _, _, _, _, _, []⟩ rfl R8 (small_one (by decide) (by decide) (by omega) (by omega)) range_size F8 N8 ?hn ?hk ?hp ?turn ?done
  case hk => kst_all
  case hn => walk_at "led_in"
  case hp => exact ⟨.nil, rfl, Nat.zero_le _, Nat.zero_le _, fun j h => absurd h (Nat.not_lt_zero _), fun j h => absurd h (Nat.not_lt_zero _), off_nil, Nat.zero_le _⟩
  case turn =>
    intro c i t u h tk own hi hoff hP F1 N1
    obtain ⟨vs, ps, n, a1, a2, t1, t2, k11, k12, k21, k22, tl⟩ := c
    dsimp only at hoff hP F1 N1
    obtain ⟨hall, hps, hA1, hA2, hB1, hB2, hofft, hlen⟩ := hP
    simp only [List.cons_append, List.nil_append, List.map_cons, List.map_nil] at hoff N1
    obtain ⟨rest, hrest⟩ : ∃ r, r = tl ++ own := ⟨_, rfl⟩
    rw [← hrest] at N1
    have hT : ∀ p ∈ tl, p ∈ rest := fun p hp => hrest ▸ List.mem_append.mpr (.inl hp)
    have hO : ∀ p ∈ own, p ∈ rest := fun p hp => hrest ▸ List.mem_append.mpr (.inr hp)
    have hallR : All2 (PairN rest) vs ps := hall.mono fun _ _ ⟨a, t, u, n, e, z⟩ => ⟨a, t, u, n, e, hT _ z⟩
    have hoffR : OwnOff rest [fl, x1, d1, x2, d2, pl] := fun p hp b hb => by
      rcases List.mem_append.mp (hrest ▸ hp) with hp | hp
      · exact hofft p hp b hb
      · exact hoff p hp b (by simp only [List.mem_cons, List.not_mem_nil, or_false] at hb ⊢; rcases hb with h | h | h | h | h | h <;> simp [h])
    have hx1 : @LT.lt Nat _ d1 x1 := by omega
    have hx2 : @LT.lt Nat _ d2 x2 := by omega
    have hi2 := hmono i (by omega)
    clear F8 N8 R8
    try dsimp only
    simp only [kstB, Int.zero_add] at F1
    (refine fold_fr F1 ?_; clear F1; intro mm F1)
    (try (change wpAny _ _ _ _ _ _; k_fold))
    have hi9 : i + 1 < (QS ps1 ps2).length := by omega
    have hi4 : i ≤ 400 := by omega
    have hv4 : vs.length ≤ 400 := by omega
    replace hi := Nx.mk hi
    k_steps
    · exact hK.mono _ _ (Fr.keep (by k_asm)) pre3
    · rename decide (ps = []) = true => hx
      replace hx := of_decide_eq_true hx
      subst hx
      cases hall
      rename News _ _ _ _ => N7
      obtain ⟨e1, hC1⟩ := put_e (pl := (QS ps1 ps2).getD i 0) hn1 hB1 (Nx.out (by assumption)) (by assumption) (by assumption)
      obtain ⟨e2, hC2⟩ := put_e (pl := (QS ps1 ps2).getD i 0) hn2 hB2 (Nx.out (by assumption)) (by assumption) (by assumption)
      rename kf _ _ = true => hk
      have hk : kf (memS ps1 ((QS ps1 ps2).getD i 0)) (memS ps2 ((QS ps1 ps2).getD i 0)) = true := by rw [← e1, ← e2]; exact hk
      refine' jp_end ⟨[] ++ [.ref _], [] ++ [((QS ps1 ps2).getD i 0, (QS ps1 ps2).getD (i + 1) 0)], _, _, _, _, _, _, _, _, _, (_, tupObj #[_, _] _) :: tl⟩ (by k_asm) N7 ?hn ?ho ?ha ?hk ?hp
      (case hk => kst_all)
      (case hn => dsimp only; walk_at "put_sub")
      (case ho => walk_at "put_sub")
      (case ha => dsimp only [List.map_cons]; exact off_ins hoff fun p hp => (by walk_at "all_lt" : ∀ p ∈ rest, p.1 ≠ _) p (hO p hp))
      (case hp => dsimp only; exact ⟨.cons ⟨_, _, _, _, rfl, List.Mem.head _⟩ .nil, put_new hps hk (.inl rfl), by assumption, by assumption, fun j hj => Int.le_trans (hC1 j hj) hi2, fun j hj => Int.le_trans (hC2 j hj) hi2, off_cons (by walk_at "off6") hofft, by simp only [List.length_append, List.length_cons, List.length_nil]; omega⟩)
    · rename decide (ps = []) = false => hx
      rcases nil_or_snoc vs with rfl | ⟨ws, v, rfl⟩
      · cases hall
        exact absurd hx (by simp)
      obtain ⟨ps', s, rfl, hall', ad, ta, tb, nn, rfl, hmem⟩ := hall.snoc
      have hmemR := hT _ hmem
      simp only [List.length_append, List.length_cons, List.length_nil] at hlen hv4
      k_steps
      · rename News _ _ _ _ => N7
        obtain ⟨e1, hC1⟩ := put_e (pl := (QS ps1 ps2).getD i 0) hn1 hB1 (Nx.out (by assumption)) (by assumption) (by assumption)
        obtain ⟨e2, hC2⟩ := put_e (pl := (QS ps1 ps2).getD i 0) hn2 hB2 (Nx.out (by assumption)) (by assumption) (by assumption)
        rename kf _ _ = true => hk
        have hk : kf (memS ps1 ((QS ps1 ps2).getD i 0)) (memS ps2 ((QS ps1 ps2).getD i 0)) = true := by rw [← e1, ← e2]; exact hk
        rename s.2 = _ => hse
        refine' jp_end ⟨ws ++ [.ref _], ps' ++ [(s.1, (QS ps1 ps2).getD (i + 1) 0)], _, _, _, _, _, _, _, _, _, (_, tupObj #[_, _] _) :: tl⟩ (by k_asm) N7 ?hn ?ho ?ha ?hk ?hp
        (case hk => kst_all)
        (case hn => dsimp only; walk_at "put_sub")
        (case ho => walk_at "put_sub")
        (case ha => dsimp only [List.map_cons]; exact off_ins hoff fun p hp => (by walk_at "all_lt" : ∀ p ∈ rest, p.1 ≠ _) p (hO p hp))
        (case hp => dsimp only; exact ⟨(hall'.mono fun _ _ ⟨a, t, u, n, e, z⟩ => ⟨a, t, u, n, e, List.Mem.tail _ z⟩).append (.cons ⟨_, _, _, _, rfl, List.Mem.head _⟩ .nil), put_more hps hk hse, by assumption, by assumption, fun j hj => Int.le_trans (hC1 j hj) hi2, fun j hj => Int.le_trans (hC2 j hj) hi2, off_cons (by walk_at "off6") hofft, by simp only [List.length_append, List.length_cons, List.length_nil]; omega⟩)
      · rename News _ _ _ _ => N7
        obtain ⟨e1, hC1⟩ := put_e (pl := (QS ps1 ps2).getD i 0) hn1 hB1 (Nx.out (by assumption)) (by assumption) (by assumption)
        obtain ⟨e2, hC2⟩ := put_e (pl := (QS ps1 ps2).getD i 0) hn2 hB2 (Nx.out (by assumption)) (by assumption) (by assumption)
        rename kf _ _ = true => hk
        have hk : kf (memS ps1 ((QS ps1 ps2).getD i 0)) (memS ps2 ((QS ps1 ps2).getD i 0)) = true := by rw [← e1, ← e2]; exact hk
        rename ¬ s.2 = _ => hse
        refine' jp_end ⟨(ws ++ [.ref ad]) ++ [.ref _], (ps' ++ [s]) ++ [((QS ps1 ps2).getD i 0, (QS ps1 ps2).getD (i + 1) 0)], _, _, _, _, _, _, _, _, _, (_, tupObj #[_, _] _) :: tl⟩ (by k_asm) N7 ?hn ?ho ?ha ?hk ?hp
        (case hk => kst_all)
        (case hn => dsimp only; walk_at "put_sub")
        (case ho => walk_at "put_sub")
        (case ha => dsimp only [List.map_cons]; exact off_ins hoff fun p hp => (by walk_at "all_lt" : ∀ p ∈ rest, p.1 ≠ _) p (hO p hp))
        (case hp => dsimp only; exact ⟨(hall.mono fun _ _ ⟨a, t, u, n, e, z⟩ => ⟨a, t, u, n, e, List.Mem.tail _ z⟩).append (.cons ⟨_, _, _, _, rfl, List.Mem.head _⟩ .nil), put_new hps hk (.inr ⟨ps', s, rfl, hse⟩), by assumption, by assumption, fun j hj => Int.le_trans (hC1 j hj) hi2, fun j hj => Int.le_trans (hC2 j hj) hi2, off_cons (by walk_at "off6") hofft, by simp only [List.length_append, List.length_cons, List.length_nil]; omega⟩)
    · rename News _ _ _ _ => N7
      obtain ⟨e1, hC1⟩ := put_e (pl := (QS ps1 ps2).getD i 0) hn1 hB1 (Nx.out (by assumption)) (by assumption) (by assumption)
      obtain ⟨e2, hC2⟩ := put_e (pl := (QS ps1 ps2).getD i 0) hn2 hB2 (Nx.out (by assumption)) (by assumption) (by assumption)
      rename kf _ _ = false => hk
      have hk : kf (memS ps1 ((QS ps1 ps2).getD i 0)) (memS ps2 ((QS ps1 ps2).getD i 0)) = false := by rw [← e1, ← e2]; exact hk
      refine' jp_end ⟨vs, ps, _, _, _, _, _, _, _, _, _, tl⟩ (by k_asm) N7 ?hn ?ho ?ha ?hk ?hp
      (case hk => kst_all)
      (case hn => dsimp only; walk_at "put_sub")
      (case ho => walk_at "put_sub")
      (case ha => dsimp only [List.map_cons]; exact hoff)
      (case hp => dsimp only; exact ⟨hall, put_keep hps hk, by assumption, by assumption, fun j hj => Int.le_trans (hC1 j hj) hi2, fun j hj => Int.le_trans (hC2 j hj) hi2, hofft, by omega⟩)
  case done =>
    intro c u h tk hP F1 N1
    obtain ⟨vs, ps, n, a1, a2, t1, t2, k11, k12, k21, k22, tl⟩ := c
    dsimp only at hP F1 N1
    obtain ⟨hall, hps, -⟩ := hP
    clear F8 N8 R8
    try dsimp only
    simp only [kstB] at F1
    (refine fold_fr F1 ?_; clear F1; intro mm F1)
    (try (change wpAny _ _ _ _ _ _; k_fold))
    k_steps
    walk_at "spec_end"
    rename News _ _ _ _ => N7
    refine leaveS_ (by k_asm) N7 ⟨_, rfl, vs, n, by k_mem, ?_⟩
    rw [← hps]
    exact hall.mono fun _ _ ⟨a, t, u, n, e, z⟩ => ⟨a, t, u, n, e, by walk_at "own_in1"⟩
end
theorem again_32 : True := by
  k_with_none
  (k_with "m omega" => ((first | decide | (with_reducible exact Int.natCast_nonneg _) | exact om1 (by with_reducible assumption) (by decide) | exact om2 (by with_reducible assumption) (by decide) | exact om3 (by with_reducible assumption) (by decide) | exact om4 (by with_reducible assumption) (by decide) | exact om5 (by with_reducible assumption) (by decide) | exact om6 (by with_reducible assumption) (by decide) | exact om7 (by with_reducible assumption) (by decide) | exact om8 (by with_reducible assumption) (by decide) | exact om9 (by with_reducible assumption) (by decide) | exact om10 (by with_reducible assumption) (by decide) | exact om5 (by with_reducible assumption) (om2 (by with_reducible assumption) (by decide)) | exact om6 (by with_reducible assumption) (om1 (by with_reducible assumption) (by decide)) | exact Nat.le_of_lt (by with_reducible assumption) | exact Nat.succ_le_of_lt (by with_reducible assumption) | exact Int.le_of_lt (by with_reducible assumption) | exact Int.not_le.mp (by with_reducible assumption) | exact Int.not_lt.mp (by with_reducible assumption) | exact Nat.lt_of_not_le (by with_reducible assumption) | exact Nat.le_of_not_lt (by with_reducible assumption) | fail)))
  (k_with "m ne_look" => (with_reducible (first | (refine neS ?_; assumption) | (refine neT ?_; assumption) | (refine ltS ?_; assumption) | (refine ltT ?_; assumption) | (rename _ ∧ _ => zqz; first | ((have zqzz : @LT.lt Nat _ _ _ := zqz.1); clear zqzz; first | exact ltS zqz.1 | exact ltT zqz.1 | exact ltS zqz.2.1 | exact ltT zqz.2.1 | exact ltS zqz.2.2.1 | exact ltT zqz.2.2.1 | exact ltS zqz.2.2.2.1 | exact ltT zqz.2.2.2.1 | exact ltS zqz.2.2.2.2.1 | exact ltT zqz.2.2.2.2.1 | exact ltS zqz.2.2.2.2.2.1 | exact ltT zqz.2.2.2.2.2.1 | exact ltS zqz.2.2.2.2.2.2.1 | exact ltT zqz.2.2.2.2.2.2.1 | exact ltS zqz.2.2.2.2.2.2.2.1 | exact ltT zqz.2.2.2.2.2.2.2.1 | exact ltS zqz.2.2.2.2.2.2.2.2.1 | exact ltT zqz.2.2.2.2.2.2.2.2.1 | exact ltS zqz.2.2.2.2.2.2.2.2.2.1 | exact ltT zqz.2.2.2.2.2.2.2.2.2.1 | exact ltS zqz.2.2.2.2.2.2.2.2.2.2.1 | exact ltT zqz.2.2.2.2.2.2.2.2.2.2.1 | exact ltS zqz.2.2.2.2.2.2.2.2.2.2.2.1 | exact ltT zqz.2.2.2.2.2.2.2.2.2.2.2.1 | exact ltS zqz.2.2.2.2.2.2.2.2.2.2.2.2.1 | exact ltT zqz.2.2.2.2.2.2.2.2.2.2.2.2.1 | exact ltS zqz.2.2.2.2.2.2.2.2.2.2.2.2.2.1 | exact ltT zqz.2.2.2.2.2.2.2.2.2.2.2.2.2.1 | exact ltS zqz.2 | exact ltT zqz.2 | exact ltS zqz.2.2 | exact ltT zqz.2.2 | exact ltS zqz.2.2.2 | exact ltT zqz.2.2.2 | exact ltS zqz.2.2.2.2 | exact ltT zqz.2.2.2.2 | exact ltS zqz.2.2.2.2.2 | exact ltT zqz.2.2.2.2.2 | exact ltS zqz.2.2.2.2.2.2 | exact ltT zqz.2.2.2.2.2.2 | exact ltS zqz.2.2.2.2.2.2.2 | exact ltT zqz.2.2.2.2.2.2.2 | exact ltS zqz.2.2.2.2.2.2.2.2 | exact ltT zqz.2.2.2.2.2.2.2.2 | exact ltS zqz.2.2.2.2.2.2.2.2.2 | exact ltT zqz.2.2.2.2.2.2.2.2.2 | exact ltS zqz.2.2.2.2.2.2.2.2.2.2 | exact ltT zqz.2.2.2.2.2.2.2.2.2.2 | exact ltS zqz.2.2.2.2.2.2.2.2.2.2.2 | exact ltT zqz.2.2.2.2.2.2.2.2.2.2.2 | exact ltS zqz.2.2.2.2.2.2.2.2.2.2.2.2 | exact ltT zqz.2.2.2.2.2.2.2.2.2.2.2.2 | exact ltS zqz.2.2.2.2.2.2.2.2.2.2.2.2.2 | exact ltT zqz.2.2.2.2.2.2.2.2.2.2.2.2.2) | exact neS zqz.1 | exact neS zqz.1.1 | exact neS zqz.1.2 | exact neS zqz.1.2.1 | exact neS zqz.1.2.2 | exact neS zqz.2.1 | exact neS zqz.2.1.1 | exact neS zqz.2.1.2 | exact neS zqz.2.1.2.1 | exact neS zqz.2.1.2.2 | exact neS zqz.2.2.1 | exact neS zqz.2.2.1.1 | exact neS zqz.2.2.1.2 | exact neS zqz.2.2.1.2.1 | exact neS zqz.2.2.1.2.2 | exact neS zqz.2.2.2.1 | exact neS zqz.2.2.2.1.1 | exact neS zqz.2.2.2.1.2 | exact neS zqz.2.2.2.1.2.1 | exact neS zqz.2.2.2.1.2.2 | exact neS zqz.2.2.2.2.1 | exact neS zqz.2.2.2.2.1.1 | exact neS zqz.2.2.2.2.1.2 | exact neS zqz.2.2.2.2.1.2.1 | exact neS zqz.2.2.2.2.1.2.2 | exact neS zqz.2.2.2.2.2.1 | exact neS zqz.2.2.2.2.2.1.1 | exact neS zqz.2.2.2.2.2.1.2 | exact neS zqz.2.2.2.2.2.1.2.1 | exact neS zqz.2.2.2.2.2.1.2.2 | exact neS zqz.2.2.2.2.2.2.1 | exact neS zqz.2.2.2.2.2.2.1.1 | exact neS zqz.2.2.2.2.2.2.1.2 | exact neS zqz.2.2.2.2.2.2.1.2.1 | exact neS zqz.2.2.2.2.2.2.1.2.2 | exact neS zqz.2.2.2.2.2.2.2.1 | exact neS zqz.2.2.2.2.2.2.2.1.1 | exact neS zqz.2.2.2.2.2.2.2.1.2 | exact neS zqz.2.2.2.2.2.2.2.1.2.1 | exact neS zqz.2.2.2.2.2.2.2.1.2.2 | exact neS zqz.2.2.2.2.2.2.2.2.1 | exact neS zqz.2.2.2.2.2.2.2.2.1.1 | exact neS zqz.2.2.2.2.2.2.2.2.1.2 | exact neS zqz.2.2.2.2.2.2.2.2.1.2.1 | exact neS zqz.2.2.2.2.2.2.2.2.1.2.2 | exact neS zqz.2 | exact neS zqz.2.2 | exact neS zqz.2.2.2 | exact neS zqz.2.2.2.2 | exact neS zqz.2.2.2.2.2 | exact neS zqz.2.2.2.2.2.2 | exact neS zqz.2.2.2.2.2.2.2 | exact neS zqz.2.2.2.2.2.2.2.2 | exact neT zqz.1 | exact neT zqz.1.1 | exact neT zqz.1.2 | exact neT zqz.1.2.1 | exact neT zqz.1.2.2 | exact neT zqz.2.1 | exact neT zqz.2.1.1 | exact neT zqz.2.1.2 | exact neT zqz.2.1.2.1 | exact neT zqz.2.1.2.2 | exact neT zqz.2.2.1 | exact neT zqz.2.2.1.1 | exact neT zqz.2.2.1.2 | exact neT zqz.2.2.1.2.1 | exact neT zqz.2.2.1.2.2 | exact neT zqz.2.2.2.1 | exact neT zqz.2.2.2.1.1 | exact neT zqz.2.2.2.1.2 | exact neT zqz.2.2.2.1.2.1 | exact neT zqz.2.2.2.1.2.2 | exact neT zqz.2.2.2.2.1 | exact neT zqz.2.2.2.2.1.1 | exact neT zqz.2.2.2.2.1.2 | exact neT zqz.2.2.2.2.1.2.1 | exact neT zqz.2.2.2.2.1.2.2 | exact neT zqz.2.2.2.2.2.1 | exact neT zqz.2.2.2.2.2.1.1 | exact neT zqz.2.2.2.2.2.1.2 | exact neT zqz.2.2.2.2.2.1.2.1 | exact neT zqz.2.2.2.2.2.1.2.2 | exact neT zqz.2.2.2.2.2.2.1 | exact neT zqz.2.2.2.2.2.2.1.1 | exact neT zqz.2.2.2.2.2.2.1.2 | exact neT zqz.2.2.2.2.2.2.1.2.1 | exact neT zqz.2.2.2.2.2.2.1.2.2 | exact neT zqz.2.2.2.2.2.2.2.1 | exact neT zqz.2.2.2.2.2.2.2.1.1 | exact neT zqz.2.2.2.2.2.2.2.1.2 | exact neT zqz.2.2.2.2.2.2.2.1.2.1 | exact neT zqz.2.2.2.2.2.2.2.1.2.2 | exact neT zqz.2.2.2.2.2.2.2.2.1 | exact neT zqz.2.2.2.2.2.2.2.2.1.1 | exact neT zqz.2.2.2.2.2.2.2.2.1.2 | exact neT zqz.2.2.2.2.2.2.2.2.1.2.1 | exact neT zqz.2.2.2.2.2.2.2.2.1.2.2 | exact neT zqz.2 | exact neT zqz.2.2 | exact neT zqz.2.2.2 | exact neT zqz.2.2.2.2 | exact neT zqz.2.2.2.2.2 | exact neT zqz.2.2.2.2.2.2 | exact neT zqz.2.2.2.2.2.2.2 | exact neT zqz.2.2.2.2.2.2.2.2 | (clear zqz; walk_at "ne_look")))))
  (k_with "m om" => (first | ((repeat (with_reducible rename _ ∧ _ => zqzz; clear zqzz)); (repeat (with_reducible rename @Ne Nat _ _ => zqzz; clear zqzz)); omega) | omega))
  (k_with "m spec_enter" => ((
  w_top off
  unfold SpecC
  k_fill
  intro zqdp zqun zqgd zqcn zqcs zqa zqccd zqcl zqouter zqA₀ zqbase zqh₀ zqL zqm zqs zqQ zqE zqB zqF zqX zqN zqT zqhk zqhpre zqhd zqhu zqhret
  obtain ⟨zqsh, zqsg, zqsd, zqst, zqso⟩ := zqs
  dsimp only at zqF zqN zqhpre zqhret
  refine wpAny_call ?_
  refine' callSK ?k1.u4 ?k2.u4 ?k3.u4 ?k4.u4 ?k5.u4 ?kA.u4 ?kF.u4 ?kK.u4 ?kpre.u4 ?kret.u4 ?k6.u4 ?k7.u4 ?k8.u4 ?k9.u4 ?kB.u4 ?_ ?c2.u4 ?c3.u4 ?c4.u4 ?c5.u4
  (case kA => exact rfl); (case kF => exact rfl); (case kK => assumption); (case k1 => k_asm); (case k2 => k_asm); (case k3 => k_asm); (case k4 => k_asm); (case k5 => k_asm)
  (case kpre => exact zqhpre)
  (case kret => exact zqhret)
  (case k6 => k_is); (case k7 => k_is); (case k8 => ktr_room); (case k9 => exact BindsTo.of_eq rfl); (case kB => exact locs rfl); (case c2 => decide); (case c3 => exact rfl); (case c4 => exact rfl); (case c5 => exact rfl)
  clear zqhpre zqhret
  k_whole
  intro zqg' zqL' zqh' zqF' zqN' zqB' zqX' zqT' zqpre'
  (refine fold_fr zqF' ?_; clear zqF'; intro zqmm zqF')
  (try dsimp only); (refine abs_tok ?_; intro zqtk'); (try k_lift zqB'); (try k_fold))))
  (k_with "m spec_enterC" => ((
  w_top off
  unfold SpecC
  k_fill
  intro zqdp zqun zqgd zqcn zqcs zqa zqccd zqcl zqouter zqA₀ zqbase zqh₀ zqL zqm zqs zqQ zqE zqB zqF zqX zqN zqT zqhk zqhpre zqhd zqhu zqhret
  obtain ⟨zqsh, zqsg, zqsd, zqst, zqso⟩ := zqs
  dsimp only at zqF zqN zqhpre zqhret
  refine wpAny_call ?_
  refine' callSC ?k1.u5 ?k2.u5 ?k3.u5 ?k4.u5 ?k5.u5 ?kA.u5 ?kF.u5 ?kK.u5 ?kpre.u5 ?kret.u5 ?k6.u5 ?k7.u5 ?k8.u5 ?k9.u5 ?kB.u5 ?kD.u5 ?_ ?c3.u5 ?c4.u5 ?c5.u5
  (case kA => exact rfl); (case kF => exact rfl); (case kK => assumption); (case k1 => k_asm); (case k2 => k_asm); (case k3 => k_asm); (case k4 => k_asm); (case k5 => k_asm)
  (case kpre => exact zqhpre)
  (case kret => exact zqhret)
  (case k6 => k_is); (case k7 => k_is); (case k8 => ktr_room); (case k9 => exact BindsTo.of_eq rfl); (case kB => exact rfl); (case kD => decide +kernel); (case c3 => exact rfl); (case c4 => exact rfl); (case c5 => exact rfl)
  clear zqhpre zqhret
  k_whole
  intro zqg' zqL' zqh' zqtk' zqcells' zqF' zqN' zqY' zqB' zqX' zqT' zqpre' zql1
  (try k_lt zql1); k_cells zqY'; (try simp only [List.cons_append, List.nil_append] at zqN'); (try dsimp only); (try k_lift zqB'); (try k_fold))))
  (k_with "m spec_end" => (((try dsimp only); (try k_unfold); (try dsimp only))))
  (k_with "m pick_1" => (first | (refine' Pick1.here ?ph.u7; (case ph => k_dflt k_all)) | (refine' Pick1.next ?pn.u7 ?pt.u7; (case pn => k_ne); (case pt => walk_at "pick_1"))))
  (k_with "m use_1" => ((
  (case k1 => k_asm); (case k2 => k_asm); (case k3 => k_asm); (case k4 => k_asm); (case k5 => k_asm); (case kK => first | exact rfl | assumption)
  (case kd => ktr_room); (case ku => ktr_units); (case kp => k_dflt (walk_at "pick_1")))))
  (k_with "m use_2" => ((
  (case k1 => k_asm); (case k2 => k_asm); (case k3 => k_asm); (case k4 => k_asm); (case k5 => k_asm); (case kK => first | exact rfl | assumption)
  (case kd => ktr_room); (case ku => ktr_units); (case kp1 => k_dflt (walk_at "pick_1")); (case kp2 => k_dflt (walk_at "pick_1")))))
  (k_with "m use_0" => ((
  (case k1 => k_asm); (case k2 => k_asm); (case k3 => k_asm); (case k4 => k_asm); (case k5 => k_asm); (case kK => first | exact rfl | assumption)
  (case kd => ktr_room); (case ku => ktr_units))))
  (k_with "m ktr_room" => ((k_dflt (first | exact room1 (by assumption) (by decide) | exact room0 (by assumption) (by decide) | exact roomN (by assumption)))))
  (k_with "m ktr_units" => ((k_dflt (first | exact units1 (by assumption) (by decide) | exact room0 (by assumption) (by decide)))))
  (k_with "m k_ne" => ((refine neN ?_; (try dsimp only); first | walk_at "ne_look" | omega -splitDisjunctions | omega)))
  (k_with "m append_L" => ((k_here; (with_reducible show wpAny _ _ (call (Value.builtin _) [Value.ref _, _]) _ _ _); k_dflt (refine' append_L ?k1.u14 ?k2.u14 ?k3.u14 ?k4.u14 ?_; (case k1 => k_asm); (case k2 => k_asm); (case k3 => k_upd); (case k4 => first | omega | (simp only [List.length_append, List.length_cons, List.length_nil]; omega)); k_whole); intro zqh' zqF' zqN'; (try k_sweep))))
  (k_with "m all_lt" => (first
  | exact allLt_mem (by assumption)
  | exact allLt_mem (And.right (by assumption))
  | exact allLt_mem (And.right (And.right (by assumption)))
  | exact allLt_mem (And.right (And.right (And.right (by assumption))))
  | exact allLt_mem (And.right (And.right (And.right (And.right (by assumption)))))
  | exact allLt_mem (And.right (And.right (And.right (And.right (And.right (by assumption))))))
  | exact allLt_mem (And.right (And.right (And.right (And.right (And.right (And.right (by assumption)))))))
  | exact allLt_mem (And.right (And.right (And.right (And.right (And.right (And.right (And.right (by assumption))))))))
  | exact allLt_mem (And.right (And.right (And.right (And.right (And.right (And.right (And.right (And.right (by assumption)))))))))))
  (k_with "m own_off1" => (first | exact ownOff_nil | assumption | (refine ownOff_cons ?_ ?_; (first | exact OwnOff.ne (by assumption) (by k_memK) | walk_at "all_lt" | fail "own_off: an address"); walk_at "own_off1")))
  (k_with "m own_off" => (((try dsimp only [List.map_cons, List.map_nil]); walk_at "own_off1")))
  (k_with "m led_in1" => (first | exact sub_nil | (refine sub_cons ?_ ?_; k_mem; walk_at "led_in1")))
  (k_with "m led_in" => (((try dsimp only); walk_at "led_in1")))
  (k_with "m own_in1" => (first | assumption | (refine List.Mem.tail _ ?_; walk_at "own_in1")))
  (k_with "m own_in" => ((intro zqp zqhp; walk_at "own_in1")))
  (k_with "m jp_end" => ((
  (case hk => kst_all); (case hn => walk_at "led_in"); (case ho => walk_at "own_in"); (case ha => walk_at "own_off"))))
  (k_with "m is_list" => (first | is_list | exact isList_at (by k_asm) (by assumption)))
  (k_with "m sub_all1" => (first | exact sub_nil | (refine sub_cons ?_ ?_; k_mem; walk_at "sub_all1") | (intro zqp zqhp; walk_at "own_in1")))
  (k_with "m sub_all" => (((try simp only [List.cons_append, List.nil_append]); walk_at "sub_all1")))
  trivial
section
variable {w : World} {p : Program} {loose : List Str} {mean : ExcName → Option Value} {mg mb : Str → Option Value}
theorem said_33 : True := by
  (k_with "m pyIter ref" => ((refine stand ?_)))
  (k_with "m exec For Name Call cons nil" => ((k_here; (rename Fr _ _ _ _ => zqlF'); (with_unfolding_all refine' For_invVF zqlF' ?k1.u74 ?k2.u74 ?_; (case k1 => exact rfl); (case k2 => exact rfl); k_whole))))
  trivial
local macro_rules | `(tactic| k_room) => `(tactic| ktr_room)
theorem said_34 : True := by
  (k_with "m subscriptTail Name Name ref int" => ((k_here; (with_unfolding_all refine' item_bools ?k1.u75 ?k2.u75 ?k3.u75 ?k4.u75 ?_ ?k6.u75; (case k1 => walk_at "is_list"); (case k2 => omega); (case k3 => omega); (case k4 => omega); (case k6 => with_unfolding_all rfl); k_whole))))
  (k_with "m And" => ((refine And.intro (isList_at (by k_asm) (by assumption)) ?_)))
  (k_with "m call ref" => ((
  first | (with_reducible show wpAny _ _ (call (Value.ref 84) _) _ _ _) | (with_reducible show wpAny _ _ (call (Value.ref 56) _) _ _ _) | (with_reducible show wpAny _ _ (call (Value.ref 108) _) _ _ _)
  refine stand ?_)))
  (k_with "m call ref" => ((
  (with_reducible show wpAny _ _ (call (Value.ref 84) _) _ _ _)
  k_dflt (refine' specC_use1 (take_spec _ _ _ ?h2.u78 ?h3.u78 ?ho.u78) ?k1.u78 ?k2.u78 ?k3.u78 ?k4.u78 ?k5.u78 ?kK.u78 ?kd.u78 ?ku.u78 ?kp.u78 ?kpre.u78 ?_)
  k_dflt (walk_at "use_1")
  (case h2 => decide); (case h3 => decide); (case ho => assumption); (case kpre => exact fun _ _ _ => True.intro)
  k_whole
  refine ret_take ?_
  intro zqkd zqkt zqko zqh9 zqtk9 zqF9 zqN9 zqh0 zqh1 zqhs)))
  (k_with "m call ref" => ((
  (with_reducible show wpAny _ _ (call (Value.ref 56) _) _ _ _)
  k_dflt (refine' specC_use2 (holds_spec _ _ _ ?hx.u79 _ ?hl.u79 _ ?ha.u79 _ _ _ _ _) ?k1.u79 ?k2.u79 ?k3.u79 ?k4.u79 ?k5.u79 ?kK.u79 ?kd.u79 ?ku.u79 ?kp1.u79 ?kp2.u79 ?kpre.u79 ?_)
  k_dflt (walk_at "use_2")
  (case kpre => k_dflt (intro zqg zqst zqhq; refine SpansN.heap ?_ (by assumption); intro zqq zqhm; exact zqhq zqq (by walk_at "own_in1"))); (case hx => assumption); (case hl => assumption); (case ha => assumption)
  k_whole
  refine ret_two ?_
  intro zqa9 zqt9 zqh9 zqtk9 zqF9 zqN9 zqha1 zqha2 zqha3 zqha4)))
  (k_with "m call ref" => ((
  (with_reducible show wpAny _ _ (call (Value.ref 108) _) _ _ _)
  k_dflt (refine' specC_use0 (pairs_spec _ _ ?hb.u80 _ ?hq.u80 ?hq2.u80) ?k1.u80 ?k2.u80 ?k3.u80 ?k4.u80 ?k5.u80 ?kK.u80 ?kd.u80 ?ku.u80 ?kpre.u80 ?_)
  k_dflt (walk_at "use_0")
  (case kpre => (intro zqg zqst zqhq; exact isList_keeps zqst (by assumption))); (case hb => assumption); (case hq => assumption); (case hq2 => assumption)
  k_whole
  intro zqr9 zqnw9 zqh9 zqtk9 zqF9 zqN9 zqD9 zqP9
  obtain ⟨zql9, zqer, zqhS9⟩ := zqP9
  subst zqer
  (try simp only [List.forall_mem_cons, List.not_mem_nil, false_implies, implies_true, and_true, ne_eq] at zqD9)
  (try simp only [List.cons_append, List.nil_append] at zqN9))))
  trivial
theorem nameS {nw : List (Addr × Obj)} {lp : Addr} {ps : List (Int × Int)} (_h : SpansN nw lp ps) : ∃ a b, a = nw ∧ b = lp := ⟨_, _, rfl, rfl⟩
theorem off_nw {nw : List (Addr × Obj)} {a b c : Addr} (h1 : ∀ p ∈ nw, p.1 ≠ a) (h2 : ∀ p ∈ nw, p.1 ≠ b) (h3 : ∀ p ∈ nw, p.1 ≠ c) : OwnOff nw [a, b, c] :=
  ownOff_cons h1 (ownOff_cons h2 (ownOff_cons h3 ownOff_nil))
theorem rngN {h : Heap} {r : Addr} {b : Int} {t u v : Tok} (R : IsRange h r 0 b 1 t u v) (hb : b = 0 ∨ b = 1 ∨ b = 2) : ∃ n : Nat, n ≤ 2 ∧ IsRange h r 0 (n : Int) 1 t u v := by
  rcases hb with rfl | rfl | rfl
  · exact ⟨0, by decide, R⟩
  · exact ⟨1, by decide, R⟩
  · exact ⟨2, by decide, R⟩
theorem small3 (n : Nat) (h : n ≤ 2) : Builtin.Range.small 0 (n : Int) 1 = true := (by decide +kernel : ∀ q : Nat, q < 3 → Builtin.Range.small 0 (q : Int) 1 = true) n (by omega)
theorem size3 (n : Nat) (h : n ≤ 2) : Builtin.Range.rangeSize 0 (n : Int) 1 = (n : Int) := (by decide +kernel : ∀ q : Nat, q < 3 → Builtin.Range.rangeSize 0 (q : Int) 1 = (q : Int)) n (by omega)
theorem nameSrc {o : Obj} (_h : SrcIs o) : ∃ b, b = o := ⟨_, rfl⟩
theorem nameA {a n : Nat} (_h : a ≤ n) : ∃ b, b = a := ⟨_, rfl⟩
theorem nameW {h₀ h : Heap} {L x1 d1 lp : Addr} {i : Obj} {a : Int} {k1 k2 : Nat} {t : Tok} {rest : List (Addr × Obj)} (_h : News h₀ L h ((x1, i) :: (d1, walkD w lp a k1 k2 t) :: rest)) : ∃ b, b = t := ⟨_, rfl⟩
theorem wr_a {bs : List Bool} {q : Int} (h0 : 0 ≤ q) (h1 : q < 12) : rowAt bs q = bs.getD q.toNat false := by
  unfold rowAt; rw [decide_eq_true h0, decide_eq_true h1]; rfl
theorem wr_b {bs : List Bool} {q : Int} (h1 : ¬ q < 12) : rowAt bs q = decide (q < 12) := by
  unfold rowAt; rw [decide_eq_false h1]; cases decide (0 ≤ q) <;> rfl
theorem wr_c {bs : List Bool} {q : Int} (h1 : ¬ 0 ≤ q) : rowAt bs q = decide (0 ≤ q) := by
  unfold rowAt; rw [decide_eq_false h1]; rfl
structure WrSt where
  o : Obj
  a : Nat
  t : Tok
  k1 : Nat
  k2 : Nat
theorem said_35 : True := by
  (k_with "m wr_sub" => ((refine sub_cons ?_ ?_; (exact List.Mem.head _); refine sub_cons ?_ ?_; (exact List.Mem.tail _ (List.Mem.head _)); refine sub_cons ?_ ?_; (exact List.Mem.tail _ (List.Mem.tail _ (List.mem_append.mpr (.inr (List.Mem.head _))))); (exact fun zqp zqhp => List.Mem.tail _ (List.Mem.tail _ (List.mem_append.mpr (.inl zqhp)))))))
  trivial
set_option maxHeartbeats 8000000 in
theorem walk_right_spec (src l : Addr) (bs : List Bool) (hl : bs.length = 12) {o : Obj} (ho : SrcIs o) :
    SpecC w p loose mean mg mb 115 (fun g => g.IsList l (boolsV bs)) [(src, o)] [.ref src, .ref l] 15
      (fun r news' => ∃ o', r = .bool true ∧ news' = [(src, o')] ∧ SrcIs o') := by
  walk_at "spec_enter"
  have hR := row_ok bs hl
  obtain ⟨q, hq, hq7⟩ := hR.len
  have hq20 : q ≤ 20 := by omega
  have hcap : (pairsOf (turnsOf bs)).length ≤ 100 := Nat.le_trans hR.cap (by decide)
  k_steps
  unfold Stand
  rename IsRange _ _ _ _ _ _ _ _ => R8
  rename Fr _ _ _ _ => F8
  rename News _ _ _ _ => N8
  obtain ⟨x1, rfl⟩ := nameR F8 "walk" rfl
  obtain ⟨d1, rfl⟩ := nameD N8 x1 (by k_mem)
  rename SpansN _ _ _ => hS
  obtain ⟨nw, lp, rfl, rfl⟩ := nameS hS
  have hl1 : ∀ p ∈ nw ++ [(src, o)], p.1 < d1 := by assumption
  have hsd : @LT.lt Nat _ src d1 := hl1 (src, o) (by simp)
  have hD : ∀ p ∈ nw, ¬ (@Eq Nat src p.1) := by assumption
  have hO1 : OwnOff nw [x1, d1, src] := by
    refine off_nw ?_ ?_ ?_
    · exact fun p hp => Nat.ne_of_lt (Nat.lt_trans (hl1 p (List.mem_append.mpr (.inl hp))) (by assumption))
    · exact fun p hp => Nat.ne_of_lt (hl1 p (List.mem_append.mpr (.inl hp)))
    · exact fun p hp => fun e => hD p hp e.symm
  refine' rangeJ (σ := WrSt) (n := 15) (fun c => (x1, instObj 59 d1) :: (d1, walkD w lp c.a c.k1 c.k2 c.t) :: (src, c.o) :: nw)
    (fun _ => [("walk", .ref x1), ("source", .ref src), ("row", .ref l)])
    (fun i c => SrcIs c.o ∧ c.a ≤ (pairsOf (turnsOf bs)).length ∧ ∀ j, j < c.a → ((pairsOf (turnsOf bs)).getD j (0, 0)).2 ≤ -1 + (i : Int))
    ⟨o, 0, _, _, _⟩ rfl R8 (by decide) (by decide) F8 N8 ?hn ?hk ?hp ?turn ?done
  case hk => kst_all
  case hn =>
    dsimp only
    refine sub_cons ?_ ?_
    k_mem
    refine sub_cons ?_ ?_
    k_mem
    exact (sub_cons (List.Mem.tail _ (List.Mem.tail _ (List.mem_append.mpr (.inr (List.Mem.head _))))) fun p hp => List.Mem.tail _ (List.Mem.tail _ (List.mem_append.mpr (.inl hp))))
  case hp => exact ⟨ho, Nat.zero_le _, fun j h => absurd h (Nat.not_lt_zero _)⟩
  case turn =>
    intro c i t u h tk own hi hoff hP F1 N1
    obtain ⟨so, a1, t1, k1, k2⟩ := c
    dsimp only at hoff hP F1 N1
    obtain ⟨hs1, hA1, hB1⟩ := hP
    simp only [List.cons_append, List.nil_append, List.map_cons, List.map_nil] at hoff N1
    obtain ⟨rest, hrest⟩ : ∃ r, r = nw ++ own := ⟨_, rfl⟩
    rw [← hrest] at N1
    have hT : ∀ p ∈ nw, p ∈ rest := fun p hp => hrest ▸ List.mem_append.mpr (.inl hp)
    have hO : ∀ p ∈ own, p ∈ rest := fun p hp => hrest ▸ List.mem_append.mpr (.inr hp)
    have hSR : SpansN rest lp (pairsOf (turnsOf bs)) := hS.mono hT
    have hoffR : OwnOff rest [x1, d1, src] := fun p hp b hb => by
      rcases List.mem_append.mp (hrest ▸ hp) with hp | hp
      · exact hO1 p hp b hb
      · exact hoff p hp b (by simp only [List.mem_cons, List.not_mem_nil, or_false] at hb ⊢; rcases hb with h | h | h <;> simp [h])
    have hx1 : @LT.lt Nat _ d1 x1 := by omega
    clear F8 N8 R8 hl1 hO1 hS
    try dsimp only
    simp only [kstB] at F1
    (refine fold_fr F1 ?_; clear F1; intro mm F1)
    (try (change wpAny _ _ _ _ _ _; k_fold))
    k_steps
    all_goals (
      unfold Stand
      rename IsRange _ _ _ _ _ _ _ _ => R8
      rename Fr _ _ _ _ => F8
      rename News _ _ _ _ => N8
      rename SrcIs _ => hs2
      obtain ⟨n, hn2, R9⟩ := rngN R8 (by decide)
      clear R8
      obtain ⟨so2, rfl⟩ := nameSrc hs2
      refine rangeJ (σ := Nat × Tok) (n := n) (fun c => (src, so2) :: (x1, instObj 59 d1) :: (d1, walkD w lp c.1 k1 k2 c.2) :: rest)
        (fun _ => [("walk", .ref x1), ("source", .ref src), ("row", .ref l), ("place", .int (-1 + (i : Int)) t)])
        (fun _ c => c.1 ≤ (pairsOf (turnsOf bs)).length ∧ ∀ j, j < c.1 → ((pairsOf (turnsOf bs)).getD j (0, 0)).2 ≤ -1 + (i : Int))
        (a1, t1) rfl R9 (small3 _ hn2) (size3 _ hn2) F8 N8 ?_ ?_ ?_ ?_ ?_
      · exact fun p hp => by with_unfolding_all exact hp
      · kst_all
      · exact ⟨hA1, hB1⟩
      · intro c j tj u h tk own2 hj hoff2 hP F1 N1
        obtain ⟨a2, t2⟩ := c
        dsimp only at hoff2 hP F1 N1
        obtain ⟨hA2, hB2⟩ := hP
        simp only [List.cons_append, List.nil_append, List.map_cons, List.map_nil] at hoff2 N1
        obtain ⟨rest2, hrest2⟩ : ∃ r, r = rest ++ own2 := ⟨_, rfl⟩
        rw [← hrest2] at N1
        have hT2 : ∀ p ∈ rest, p ∈ rest2 := fun p hp => hrest2 ▸ List.mem_append.mpr (.inl hp)
        have hO2 : ∀ p ∈ own2, p ∈ rest2 := fun p hp => hrest2 ▸ List.mem_append.mpr (.inr hp)
        have hSR2 : SpansN rest2 lp (pairsOf (turnsOf bs)) := hSR.mono hT2
        have hoffR2 : OwnOff rest2 [x1, d1, src] := fun p hp b hb => by
          rcases List.mem_append.mp (hrest2 ▸ hp) with hp | hp
          · exact hoffR p hp b hb
          · exact hoff2 p hp b (by simp only [List.mem_cons, List.not_mem_nil, or_false] at hb ⊢; rcases hb with h | h | h <;> simp [h])
        clear F8 N8 R9 hSR hoffR
        try dsimp only
        simp only [kstB] at F1
        (refine fold_fr F1 ?_; clear F1; intro mm F1)
        (try (change wpAny _ _ _ _ _ _; k_fold))
        k_steps
        all_goals (
          rename News _ _ _ _ => N7
          rename _ ≤ (pairsOf (turnsOf bs)).length => hA9
          obtain ⟨a9, rfl⟩ := nameA hA9
          obtain ⟨t9, rfl⟩ := nameW N7
          obtain ⟨e1, hC1⟩ := put_e hR.normal hB2 (by assumption) hA9 (by assumption)
          rename (_ != _) = _ => hne
          rw [e1, hR.mem] at hne)
        all_goals first
          | (exfalso; rw [wr_a (by assumption) (by assumption)] at hne; simp at hne; done)
          | (exfalso; rw [wr_b (by assumption)] at hne; simp at hne; done)
          | (exfalso; rw [wr_c (by assumption)] at hne; simp at hne; done)
          | (refine jp_end (a9, t9) (by k_asm) N7 ?_ ?_ ?_ ?_ ?_
             · dsimp only; exact sub_cons (by k_mem) (sub_cons (by k_mem) (sub_cons (by k_mem) fun p hp => by have := hT2 p hp; walk_at "own_in1"))
             · intro p hp; have := hO2 p hp; walk_at "own_in1"
             · dsimp only [List.map_cons]; exact hoff2
             · kst_all
             · exact ⟨hA9, hC1⟩)
      · intro c u h tk hP F1 N1
        obtain ⟨a2, t2⟩ := c
        dsimp only at hP F1 N1
        clear F8 N8 R9
        try dsimp only
        simp only [kstB] at F1
        (refine fold_fr F1 ?_; clear F1; intro mm F1)
        (try (change wpAny _ _ _ _ _ _; k_fold))
        k_steps
        rename News _ _ _ _ => N7
        refine jp_end ⟨so2, a2, t2, k1, k2⟩ (by k_asm) N7 ?_ ?_ ?_ ?_ ?_
        · dsimp only; exact sub_cons (by k_mem) (sub_cons (by k_mem) (sub_cons (by k_mem) fun p hp => by have := hT p hp; walk_at "own_in1"))
        · intro p hp; have := hO p hp; walk_at "own_in1"
        · dsimp only [List.map_cons]; exact hoff
        · kst_all
        · dsimp only; exact ⟨by assumption, hP.1, fun j hj => Int.le_trans (hP.2 j hj) (by omega)⟩)
  case done =>
    intro c u h tk hP F1 N1
    obtain ⟨so, a1, t1, k1, k2⟩ := c
    dsimp only at hP F1 N1
    clear F8 N8 R8
    try dsimp only
    simp only [kstB] at F1
    (refine fold_fr F1 ?_; clear F1; intro mm F1)
    (try (change wpAny _ _ _ _ _ _; k_fold))
    k_steps
    walk_at "spec_end"
    rename News _ _ _ _ => N7
    exact leaveS_sub [(src, so)] (by k_asm) N7 (by walk_at "led_in") ⟨so, rfl, rfl, hP.1⟩
end
theorem again_36 : True := by
  k_with_none
  (k_with "m omega" => ((first | decide | (with_reducible exact Int.natCast_nonneg _) | exact om1 (by with_reducible assumption) (by decide) | exact om2 (by with_reducible assumption) (by decide) | exact om3 (by with_reducible assumption) (by decide) | exact om4 (by with_reducible assumption) (by decide) | exact om5 (by with_reducible assumption) (by decide) | exact om6 (by with_reducible assumption) (by decide) | exact om7 (by with_reducible assumption) (by decide) | exact om8 (by with_reducible assumption) (by decide) | exact om9 (by with_reducible assumption) (by decide) | exact om10 (by with_reducible assumption) (by decide) | exact om5 (by with_reducible assumption) (om2 (by with_reducible assumption) (by decide)) | exact om6 (by with_reducible assumption) (om1 (by with_reducible assumption) (by decide)) | exact Nat.le_of_lt (by with_reducible assumption) | exact Nat.succ_le_of_lt (by with_reducible assumption) | exact Int.le_of_lt (by with_reducible assumption) | exact Int.not_le.mp (by with_reducible assumption) | exact Int.not_lt.mp (by with_reducible assumption) | exact Nat.lt_of_not_le (by with_reducible assumption) | exact Nat.le_of_not_lt (by with_reducible assumption) | fail)))
  (k_with "m ne_look" => (with_reducible (first | (refine neS ?_; assumption) | (refine neT ?_; assumption) | (refine ltS ?_; assumption) | (refine ltT ?_; assumption) | (rename _ ∧ _ => zqz; first | ((have zqzz : @LT.lt Nat _ _ _ := zqz.1); clear zqzz; first | exact ltS zqz.1 | exact ltT zqz.1 | exact ltS zqz.2.1 | exact ltT zqz.2.1 | exact ltS zqz.2.2.1 | exact ltT zqz.2.2.1 | exact ltS zqz.2.2.2.1 | exact ltT zqz.2.2.2.1 | exact ltS zqz.2.2.2.2.1 | exact ltT zqz.2.2.2.2.1 | exact ltS zqz.2.2.2.2.2.1 | exact ltT zqz.2.2.2.2.2.1 | exact ltS zqz.2.2.2.2.2.2.1 | exact ltT zqz.2.2.2.2.2.2.1 | exact ltS zqz.2.2.2.2.2.2.2.1 | exact ltT zqz.2.2.2.2.2.2.2.1 | exact ltS zqz.2.2.2.2.2.2.2.2.1 | exact ltT zqz.2.2.2.2.2.2.2.2.1 | exact ltS zqz.2.2.2.2.2.2.2.2.2.1 | exact ltT zqz.2.2.2.2.2.2.2.2.2.1 | exact ltS zqz.2.2.2.2.2.2.2.2.2.2.1 | exact ltT zqz.2.2.2.2.2.2.2.2.2.2.1 | exact ltS zqz.2.2.2.2.2.2.2.2.2.2.2.1 | exact ltT zqz.2.2.2.2.2.2.2.2.2.2.2.1 | exact ltS zqz.2.2.2.2.2.2.2.2.2.2.2.2.1 | exact ltT zqz.2.2.2.2.2.2.2.2.2.2.2.2.1 | exact ltS zqz.2.2.2.2.2.2.2.2.2.2.2.2.2.1 | exact ltT zqz.2.2.2.2.2.2.2.2.2.2.2.2.2.1 | exact ltS zqz.2 | exact ltT zqz.2 | exact ltS zqz.2.2 | exact ltT zqz.2.2 | exact ltS zqz.2.2.2 | exact ltT zqz.2.2.2 | exact ltS zqz.2.2.2.2 | exact ltT zqz.2.2.2.2 | exact ltS zqz.2.2.2.2.2 | exact ltT zqz.2.2.2.2.2 | exact ltS zqz.2.2.2.2.2.2 | exact ltT zqz.2.2.2.2.2.2 | exact ltS zqz.2.2.2.2.2.2.2 | exact ltT zqz.2.2.2.2.2.2.2 | exact ltS zqz.2.2.2.2.2.2.2.2 | exact ltT zqz.2.2.2.2.2.2.2.2 | exact ltS zqz.2.2.2.2.2.2.2.2.2 | exact ltT zqz.2.2.2.2.2.2.2.2.2 | exact ltS zqz.2.2.2.2.2.2.2.2.2.2 | exact ltT zqz.2.2.2.2.2.2.2.2.2.2 | exact ltS zqz.2.2.2.2.2.2.2.2.2.2.2 | exact ltT zqz.2.2.2.2.2.2.2.2.2.2.2 | exact ltS zqz.2.2.2.2.2.2.2.2.2.2.2.2 | exact ltT zqz.2.2.2.2.2.2.2.2.2.2.2.2 | exact ltS zqz.2.2.2.2.2.2.2.2.2.2.2.2.2 | exact ltT zqz.2.2.2.2.2.2.2.2.2.2.2.2.2) | exact neS zqz.1 | exact neS zqz.1.1 | exact neS zqz.1.2 | exact neS zqz.1.2.1 | exact neS zqz.1.2.2 | exact neS zqz.2.1 | exact neS zqz.2.1.1 | exact neS zqz.2.1.2 | exact neS zqz.2.1.2.1 | exact neS zqz.2.1.2.2 | exact neS zqz.2.2.1 | exact neS zqz.2.2.1.1 | exact neS zqz.2.2.1.2 | exact neS zqz.2.2.1.2.1 | exact neS zqz.2.2.1.2.2 | exact neS zqz.2.2.2.1 | exact neS zqz.2.2.2.1.1 | exact neS zqz.2.2.2.1.2 | exact neS zqz.2.2.2.1.2.1 | exact neS zqz.2.2.2.1.2.2 | exact neS zqz.2.2.2.2.1 | exact neS zqz.2.2.2.2.1.1 | exact neS zqz.2.2.2.2.1.2 | exact neS zqz.2.2.2.2.1.2.1 | exact neS zqz.2.2.2.2.1.2.2 | exact neS zqz.2.2.2.2.2.1 | exact neS zqz.2.2.2.2.2.1.1 | exact neS zqz.2.2.2.2.2.1.2 | exact neS zqz.2.2.2.2.2.1.2.1 | exact neS zqz.2.2.2.2.2.1.2.2 | exact neS zqz.2.2.2.2.2.2.1 | exact neS zqz.2.2.2.2.2.2.1.1 | exact neS zqz.2.2.2.2.2.2.1.2 | exact neS zqz.2.2.2.2.2.2.1.2.1 | exact neS zqz.2.2.2.2.2.2.1.2.2 | exact neS zqz.2.2.2.2.2.2.2.1 | exact neS zqz.2.2.2.2.2.2.2.1.1 | exact neS zqz.2.2.2.2.2.2.2.1.2 | exact neS zqz.2.2.2.2.2.2.2.1.2.1 | exact neS zqz.2.2.2.2.2.2.2.1.2.2 | exact neS zqz.2.2.2.2.2.2.2.2.1 | exact neS zqz.2.2.2.2.2.2.2.2.1.1 | exact neS zqz.2.2.2.2.2.2.2.2.1.2 | exact neS zqz.2.2.2.2.2.2.2.2.1.2.1 | exact neS zqz.2.2.2.2.2.2.2.2.1.2.2 | exact neS zqz.2 | exact neS zqz.2.2 | exact neS zqz.2.2.2 | exact neS zqz.2.2.2.2 | exact neS zqz.2.2.2.2.2 | exact neS zqz.2.2.2.2.2.2 | exact neS zqz.2.2.2.2.2.2.2 | exact neS zqz.2.2.2.2.2.2.2.2 | exact neT zqz.1 | exact neT zqz.1.1 | exact neT zqz.1.2 | exact neT zqz.1.2.1 | exact neT zqz.1.2.2 | exact neT zqz.2.1 | exact neT zqz.2.1.1 | exact neT zqz.2.1.2 | exact neT zqz.2.1.2.1 | exact neT zqz.2.1.2.2 | exact neT zqz.2.2.1 | exact neT zqz.2.2.1.1 | exact neT zqz.2.2.1.2 | exact neT zqz.2.2.1.2.1 | exact neT zqz.2.2.1.2.2 | exact neT zqz.2.2.2.1 | exact neT zqz.2.2.2.1.1 | exact neT zqz.2.2.2.1.2 | exact neT zqz.2.2.2.1.2.1 | exact neT zqz.2.2.2.1.2.2 | exact neT zqz.2.2.2.2.1 | exact neT zqz.2.2.2.2.1.1 | exact neT zqz.2.2.2.2.1.2 | exact neT zqz.2.2.2.2.1.2.1 | exact neT zqz.2.2.2.2.1.2.2 | exact neT zqz.2.2.2.2.2.1 | exact neT zqz.2.2.2.2.2.1.1 | exact neT zqz.2.2.2.2.2.1.2 | exact neT zqz.2.2.2.2.2.1.2.1 | exact neT zqz.2.2.2.2.2.1.2.2 | exact neT zqz.2.2.2.2.2.2.1 | exact neT zqz.2.2.2.2.2.2.1.1 | exact neT zqz.2.2.2.2.2.2.1.2 | exact neT zqz.2.2.2.2.2.2.1.2.1 | exact neT zqz.2.2.2.2.2.2.1.2.2 | exact neT zqz.2.2.2.2.2.2.2.1 | exact neT zqz.2.2.2.2.2.2.2.1.1 | exact neT zqz.2.2.2.2.2.2.2.1.2 | exact neT zqz.2.2.2.2.2.2.2.1.2.1 | exact neT zqz.2.2.2.2.2.2.2.1.2.2 | exact neT zqz.2.2.2.2.2.2.2.2.1 | exact neT zqz.2.2.2.2.2.2.2.2.1.1 | exact neT zqz.2.2.2.2.2.2.2.2.1.2 | exact neT zqz.2.2.2.2.2.2.2.2.1.2.1 | exact neT zqz.2.2.2.2.2.2.2.2.1.2.2 | exact neT zqz.2 | exact neT zqz.2.2 | exact neT zqz.2.2.2 | exact neT zqz.2.2.2.2 | exact neT zqz.2.2.2.2.2 | exact neT zqz.2.2.2.2.2.2 | exact neT zqz.2.2.2.2.2.2.2 | exact neT zqz.2.2.2.2.2.2.2.2 | (clear zqz; walk_at "ne_look")))))
  (k_with "m om" => (first | ((repeat (with_reducible rename _ ∧ _ => zqzz; clear zqzz)); (repeat (with_reducible rename @Ne Nat _ _ => zqzz; clear zqzz)); omega) | omega))
  (k_with "m spec_enter" => ((
  w_top off
  unfold SpecC
  k_fill
  intro zqdp zqun zqgd zqcn zqcs zqa zqccd zqcl zqouter zqA₀ zqbase zqh₀ zqL zqm zqs zqQ zqE zqB zqF zqX zqN zqT zqhk zqhpre zqhd zqhu zqhret
  obtain ⟨zqsh, zqsg, zqsd, zqst, zqso⟩ := zqs
  dsimp only at zqF zqN zqhpre zqhret
  refine wpAny_call ?_
  refine' callSK ?k1.u4 ?k2.u4 ?k3.u4 ?k4.u4 ?k5.u4 ?kA.u4 ?kF.u4 ?kK.u4 ?kpre.u4 ?kret.u4 ?k6.u4 ?k7.u4 ?k8.u4 ?k9.u4 ?kB.u4 ?_ ?c2.u4 ?c3.u4 ?c4.u4 ?c5.u4
  (case kA => exact rfl); (case kF => exact rfl); (case kK => assumption); (case k1 => k_asm); (case k2 => k_asm); (case k3 => k_asm); (case k4 => k_asm); (case k5 => k_asm)
  (case kpre => exact zqhpre)
  (case kret => exact zqhret)
  (case k6 => k_is); (case k7 => k_is); (case k8 => ktr_room); (case k9 => exact BindsTo.of_eq rfl); (case kB => exact locs rfl); (case c2 => decide); (case c3 => exact rfl); (case c4 => exact rfl); (case c5 => exact rfl)
  clear zqhpre zqhret
  k_whole
  intro zqg' zqL' zqh' zqF' zqN' zqB' zqX' zqT' zqpre'
  (refine fold_fr zqF' ?_; clear zqF'; intro zqmm zqF')
  (try dsimp only); (refine abs_tok ?_; intro zqtk'); (try k_lift zqB'); (try k_fold))))
  (k_with "m spec_enterC" => ((
  w_top off
  unfold SpecC
  k_fill
  intro zqdp zqun zqgd zqcn zqcs zqa zqccd zqcl zqouter zqA₀ zqbase zqh₀ zqL zqm zqs zqQ zqE zqB zqF zqX zqN zqT zqhk zqhpre zqhd zqhu zqhret
  obtain ⟨zqsh, zqsg, zqsd, zqst, zqso⟩ := zqs
  dsimp only at zqF zqN zqhpre zqhret
  refine wpAny_call ?_
  refine' callSC ?k1.u5 ?k2.u5 ?k3.u5 ?k4.u5 ?k5.u5 ?kA.u5 ?kF.u5 ?kK.u5 ?kpre.u5 ?kret.u5 ?k6.u5 ?k7.u5 ?k8.u5 ?k9.u5 ?kB.u5 ?kD.u5 ?_ ?c3.u5 ?c4.u5 ?c5.u5
  (case kA => exact rfl); (case kF => exact rfl); (case kK => assumption); (case k1 => k_asm); (case k2 => k_asm); (case k3 => k_asm); (case k4 => k_asm); (case k5 => k_asm)
  (case kpre => exact zqhpre)
  (case kret => exact zqhret)
  (case k6 => k_is); (case k7 => k_is); (case k8 => ktr_room); (case k9 => exact BindsTo.of_eq rfl); (case kB => exact rfl); (case kD => decide +kernel); (case c3 => exact rfl); (case c4 => exact rfl); (case c5 => exact rfl)
  clear zqhpre zqhret
  k_whole
  intro zqg' zqL' zqh' zqtk' zqcells' zqF' zqN' zqY' zqB' zqX' zqT' zqpre' zql1
  (try k_lt zql1); k_cells zqY'; (try simp only [List.cons_append, List.nil_append] at zqN'); (try dsimp only); (try k_lift zqB'); (try k_fold))))
  (k_with "m spec_end" => (((try dsimp only); (try k_unfold); (try dsimp only))))
  (k_with "m pick_1" => (first | (refine' Pick1.here ?ph.u7; (case ph => k_dflt k_all)) | (refine' Pick1.next ?pn.u7 ?pt.u7; (case pn => k_ne); (case pt => walk_at "pick_1"))))
  (k_with "m use_1" => ((
  (case k1 => k_asm); (case k2 => k_asm); (case k3 => k_asm); (case k4 => k_asm); (case k5 => k_asm); (case kK => first | exact rfl | assumption)
  (case kd => ktr_room); (case ku => ktr_units); (case kp => k_dflt (walk_at "pick_1")))))
  (k_with "m use_2" => ((
  (case k1 => k_asm); (case k2 => k_asm); (case k3 => k_asm); (case k4 => k_asm); (case k5 => k_asm); (case kK => first | exact rfl | assumption)
  (case kd => ktr_room); (case ku => ktr_units); (case kp1 => k_dflt (walk_at "pick_1")); (case kp2 => k_dflt (walk_at "pick_1")))))
  (k_with "m use_0" => ((
  (case k1 => k_asm); (case k2 => k_asm); (case k3 => k_asm); (case k4 => k_asm); (case k5 => k_asm); (case kK => first | exact rfl | assumption)
  (case kd => ktr_room); (case ku => ktr_units))))
  (k_with "m ktr_room" => ((k_dflt (first | exact room1 (by assumption) (by decide) | exact room0 (by assumption) (by decide) | exact roomN (by assumption)))))
  (k_with "m ktr_units" => ((k_dflt (first | exact units1 (by assumption) (by decide) | exact room0 (by assumption) (by decide)))))
  (k_with "m k_ne" => ((refine neN ?_; (try dsimp only); first | walk_at "ne_look" | omega -splitDisjunctions | omega)))
  (k_with "m append_L" => ((k_here; (with_reducible show wpAny _ _ (call (Value.builtin _) [Value.ref _, _]) _ _ _); k_dflt (refine' append_L ?k1.u14 ?k2.u14 ?k3.u14 ?k4.u14 ?_; (case k1 => k_asm); (case k2 => k_asm); (case k3 => k_upd); (case k4 => first | omega | (simp only [List.length_append, List.length_cons, List.length_nil]; omega)); k_whole); intro zqh' zqF' zqN'; (try k_sweep))))
  (k_with "m all_lt" => (first
  | exact allLt_mem (by assumption)
  | exact allLt_mem (And.right (by assumption))
  | exact allLt_mem (And.right (And.right (by assumption)))
  | exact allLt_mem (And.right (And.right (And.right (by assumption))))
  | exact allLt_mem (And.right (And.right (And.right (And.right (by assumption)))))
  | exact allLt_mem (And.right (And.right (And.right (And.right (And.right (by assumption))))))
  | exact allLt_mem (And.right (And.right (And.right (And.right (And.right (And.right (by assumption)))))))
  | exact allLt_mem (And.right (And.right (And.right (And.right (And.right (And.right (And.right (by assumption))))))))
  | exact allLt_mem (And.right (And.right (And.right (And.right (And.right (And.right (And.right (And.right (by assumption)))))))))))
  (k_with "m own_off1" => (first | exact ownOff_nil | assumption | (refine ownOff_cons ?_ ?_; (first | exact OwnOff.ne (by assumption) (by k_memK) | walk_at "all_lt" | fail "own_off: an address"); walk_at "own_off1")))
  (k_with "m own_off" => (((try dsimp only [List.map_cons, List.map_nil]); walk_at "own_off1")))
  (k_with "m led_in1" => (first | exact sub_nil | (refine sub_cons ?_ ?_; k_mem; walk_at "led_in1")))
  (k_with "m led_in" => (((try dsimp only); walk_at "led_in1")))
  (k_with "m own_in1" => (first | assumption | (refine List.Mem.tail _ ?_; walk_at "own_in1")))
  (k_with "m own_in" => ((intro zqp zqhp; walk_at "own_in1")))
  (k_with "m jp_end" => ((
  (case hk => kst_all); (case hn => walk_at "led_in"); (case ho => walk_at "own_in"); (case ha => walk_at "own_off"))))
  (k_with "m is_list" => (first | is_list | exact isList_at (by k_asm) (by assumption)))
  (k_with "m sub_all1" => (first | exact sub_nil | (refine sub_cons ?_ ?_; k_mem; walk_at "sub_all1") | (intro zqp zqhp; walk_at "own_in1")))
  (k_with "m sub_all" => (((try simp only [List.cons_append, List.nil_append]); walk_at "sub_all1")))
  trivial
section
variable {w : World} {p : Program} {loose : List Str} {mean : ExcName → Option Value} {mg mb : Str → Option Value}
section
variable {prog : Program} {A : Around} {E : Value → Shared → Prop} {s : Shared} {h₀ : Heap} {L : Addr} {m : Str → Option Value} {news : List (Addr × Obj)}
theorem addV {l b : Addr} {vs ws : List Value} {Q : Value → Shared → Prop} (F : Fr h₀ L s.heap m) (N : News h₀ L s.heap news) (hl : s.heap.IsList l vs.toArray) (hb : s.heap.IsList b ws.toArray) (hz : vs.length + ws.length < 1000)
    (h : ∀ x h', Fr h₀ L h' m → News h₀ L h' ((x, listOf (vs ++ ws).toArray 0) :: news) → (∀ p ∈ news, p.1 < x) → Q (.ref x) { s with heap := h' }) : wpAny (model prog w) A (binaryOp .Add (.ref l) (.ref b)) Q E s := by
  refine add_arrays F N hl hb (fun h' F' N' => h _ h' F' ?_ fun p hp => Heap.lt_size (N p hp).1) (by simp only [List.size_toArray]; rw [PySem.sizeLine_eq]; omega)
  exact N'
theorem item_span_neg {g : Heap} {value slice : Expr} {l : Addr} {vs : List Value} {ps : List (Int × Int)} {u : Tok} {Q : Value → Shared → Prop} (hl : s.heap.IsList l vs.toArray) (hall : All2 (PairH g) vs ps) (h0 : 0 < ps.length) (hb : ps.length < 1000)
    (h : ∀ ad t1 t2, vs.getD (ps.length - 1) .none = .ref ad → IsTup g ad #[.int (ps.getD (ps.length - 1) (0, 0)).1 t1, .int (ps.getD (ps.length - 1) (0, 0)).2 t2] → Q (.ref ad) s)
    (hs : subscripted slice false (.ref l) (.int (-1) u) = operate [.ref l, .int (-1) u] (getItem (.ref l) (.int (-1) u))) :
    wpAny (model prog w) A (subscriptTail value slice (.ref l) (.int (-1) u)) Q E s := by
  have h1 : ps.length - 1 < ps.length := by omega
  have hvl := hall.length
  obtain ⟨v, hv, ad, t1, t2, rfl, ht⟩ := hall.getR (ps.length - 1) (ps[ps.length - 1]'h1) (List.getElem?_eq_getElem h1)
  have hsz : vs.toArray.size = ps.length := by simp [hvl]
  refine tail_any hl.typeIs slot_list_getitem.lookup (wpAny_getItem_list_neg hl (by decide) (by rw [hsz]; omega) (by decide) ?_ (h ad t1 t2 ?_ ?_)) hs
  · rw [hsz, neg1]; simpa using hv
  · simp [List.getD_eq_getElem?_getD, hv]
  · simpa [List.getD_eq_getElem?_getD, List.getElem?_eq_getElem h1] using ht
theorem item_span0 {g : Heap} {value slice : Expr} {l : Addr} {vs : List Value} {ps : List (Int × Int)} {u : Tok} {Q : Value → Shared → Prop} (hl : s.heap.IsList l vs.toArray) (hall : All2 (PairH g) vs ps) (h0 : 0 < ps.length) (hb : ps.length < 1000)
    (h : ∀ ad t1 t2, IsTup g ad #[.int (ps.getD 0 (0, 0)).1 t1, .int (ps.getD 0 (0, 0)).2 t2] → PairH g (.ref ad) (ps.getD 0 (0, 0)) → Q (.ref ad) s)
    (hs : subscripted slice false (.ref l) (.int 0 u) = operate [.ref l, .int 0 u] (getItem (.ref l) (.int 0 u))) :
    wpAny (model prog w) A (subscriptTail value slice (.ref l) (.int 0 u)) Q E s := by
  refine item_span hl hall (by omega) (by omega) (by omega) (fun ad t1 t2 ht => h ad t1 t2 (by simpa using ht) ⟨ad, t1, t2, rfl, by simpa using ht⟩) hs
end
theorem norm_lt : ∀ (r : List (Int × Int)) (a : Int), normFrom (some a) r = true → ∀ t ∈ r, a < t.2
  | [], _, _, _, h => nomatch h
  | s :: r, a, h, t, ht => by
    simp only [normFrom, Bool.and_eq_true, decide_eq_true_eq] at h
    obtain ⟨h1, h2, h3⟩ := h
    rcases List.mem_cons.mp ht with rfl | ht
    · omega
    · have := norm_lt r s.2 h3 t ht; omega
theorem norm_last : ∀ (ps : List (Int × Int)) (a : Option Int) (s : Int × Int), normFrom a (ps ++ [s]) = true → s.1 < s.2 ∧ ∀ t, ps.getLast? = some t → t.2 < s.1
  | [], none, s, h => by
    simp only [List.nil_append, normFrom, Bool.and_eq_true, decide_eq_true_eq] at h
    exact ⟨h.1, fun t ht => by simp at ht⟩
  | [], some a, s, h => by
    simp only [List.nil_append, normFrom, Bool.and_eq_true, decide_eq_true_eq] at h
    exact ⟨h.1, fun t ht => by simp at ht⟩
  | x :: r, a, s, h => by
    have h' : normFrom (some x.2) (r ++ [s]) = true := by
      cases a <;> simp only [List.cons_append, normFrom, Bool.and_eq_true, decide_eq_true_eq] at h
      · exact h.2
      · exact h.2.2
    obtain ⟨h1, h2⟩ := norm_last r (some x.2) s h'
    refine ⟨h1, fun t ht => ?_⟩
    cases r with
    | nil =>
      simp only [List.getLast?_singleton, Option.some.injEq] at ht
      subst ht
      simp only [List.nil_append, normFrom, Bool.and_eq_true, decide_eq_true_eq] at h'
      exact h'.2.1
    | cons y q => exact h2 t (by simpa [List.getLast?_cons_cons] using ht)
theorem bad_of {ps : List (Int × Int)} {s : Int × Int} (h : s.2 ≤ s.1) : normFrom none (ps ++ [s]) = false := by
  cases q : normFrom none (ps ++ [s]) with
  | false => rfl
  | true => have := (norm_last _ _ _ q).1; omega
theorem last_getD {ps : List (Int × Int)} (h : 0 < ps.length) : ps.getLast? = some (ps.getD (ps.length - 1) (0, 0)) := by
  rw [List.getLast?_eq_getElem?, List.getD_eq_getElem?_getD, List.getElem?_eq_getElem (by omega)]; rfl
theorem bad3 {ps : List (Int × Int)} (h : 0 < ps.length) (b : Int) : normFrom none (ps ++ [((ps.getD (ps.length - 1) (0, 0)).2, b)]) = false := by
  cases q : normFrom none (ps ++ [((ps.getD (ps.length - 1) (0, 0)).2, b)]) with
  | false => rfl
  | true => have := (norm_last _ _ _ q).2 _ (last_getD h); omega
theorem bad4 {ps : List (Int × Int)} (h : 0 < ps.length) (a : Int) : normFrom none ((a, (ps.getD 0 (0, 0)).1) :: ps) = false := by
  cases ps with
  | nil => simp at h
  | cons s r => simp [normFrom]
theorem bad5 {ps : List (Int × Int)} (h : 0 < ps.length) (hn : normFrom none ps = true) : normFrom none (ps ++ [ps.getD 0 (0, 0)]) = false := by
  cases q : normFrom none (ps ++ [ps.getD 0 (0, 0)]) with
  | false => rfl
  | true =>
    have h1 := (norm_last _ _ _ q).2 _ (last_getD h)
    cases ps with
    | nil => simp at h
    | cons s r =>
      have h2 : s.1 < s.2 ∧ normFrom (some s.2) r = true := by simpa only [normFrom, Bool.and_eq_true, decide_eq_true_eq] using hn
      have h3 : (s :: r).getD ((s :: r).length - 1) (0, 0) ∈ s :: r := by
        rw [List.getD_eq_getElem?_getD, List.getElem?_eq_getElem (by simp)]; exact List.getElem_mem _
      simp only [List.getD_cons_zero] at h1
      rcases List.mem_cons.mp h3 with e | h3
      · rw [e] at h1; omega
      · have := norm_lt r s.2 h2.2 _ h3; omega
theorem normal_specB (l : Addr) (ps : List (Int × Int)) (b : Bool) (hl : ps.length ≤ 100) (hb : normFrom none ps = b) :
    SpecC w p loose mean mg mb 21 (fun g => SpansH g l ps) [] [.ref l] 5 (fun r news' => r = .bool b ∧ news' = []) := by
  subst hb; exact normal_spec l ps hl
theorem spansA {g g' : Heap} {rest : List (Addr × Obj)} {vs : List Value} {ps : List (Int × Int)} {t l : Addr} {a b : Int} {u v : Tok} {n k : Nat} (x : All2 (PairH g) vs ps) (st : g.StaysIn g') (hq : ∀ q ∈ rest, g'.get? q.1 = some q.2) (hl : (l, listOf (List.toArray (vs ++ [Value.ref t])) k) ∈ rest) (h : (t, tupObj #[.int a u, .int b v] n) ∈ rest) :
    SpansH g' l (ps ++ [(a, b)]) := ⟨_, isList_of hq hl, (x.mono fun _ _ => PairH.keeps st).append (.cons ⟨t, u, v, rfl, ⟨_, hq _ h, rfl, n, rfl⟩⟩ .nil)⟩
theorem spansB {g g' : Heap} {rest : List (Addr × Obj)} {vs : List Value} {ps : List (Int × Int)} {t l : Addr} {a b : Int} {u v : Tok} {n k : Nat} (x : All2 (PairH g) vs ps) (st : g.StaysIn g') (hq : ∀ q ∈ rest, g'.get? q.1 = some q.2) (hl : (l, listOf (List.toArray ([Value.ref t] ++ vs)) k) ∈ rest) (h : (t, tupObj #[.int a u, .int b v] n) ∈ rest) :
    SpansH g' l ((a, b) :: ps) := ⟨_, isList_of hq hl, .cons ⟨t, u, v, rfl, ⟨_, hq _ h, rfl, n, rfl⟩⟩ (x.mono fun _ _ => PairH.keeps st)⟩
theorem spansC {g g' : Heap} {rest : List (Addr × Obj)} {vs : List Value} {ps : List (Int × Int)} {t : Value} {l : Addr} {s : Int × Int} {k : Nat} (x : All2 (PairH g) vs ps) (st : g.StaysIn g') (hq : ∀ q ∈ rest, g'.get? q.1 = some q.2) (hl : (l, listOf (List.toArray (vs ++ [t])) k) ∈ rest) (h : PairH g t s) :
    SpansH g' l (ps ++ [s]) := ⟨_, isList_of hq hl, (x.mono fun _ _ => PairH.keeps st).append (.cons (h.keeps st) .nil)⟩
theorem pos_of_dec {ps : List (Int × Int)} (h : decide (ps = []) = false) : 0 < ps.length := by
  cases ps with
  | nil => simp at h
  | cons _ _ => exact Nat.succ_pos _
theorem said_37 : True := by
  (k_with "m call ref" => ((
  first | (with_reducible show wpAny _ _ (call (Value.ref 21) _) _ _ _)
  refine stand ?_)))
  (k_with "m call ref" => ((
  (with_reducible show wpAny _ _ (call (Value.ref 21) _) _ _ _)
  k_dflt (refine' specC_use0 (normal_specB _ _ false ?hl.u83 ?hb.u83) ?k1.u83 ?k2.u83 ?k3.u83 ?k4.u83 ?k5.u83 ?kK.u83 ?kd.u83 ?ku.u83 ?kpre.u83 ?_)
  k_dflt (walk_at "use_0")
  (case kpre => k_dflt (intro zqg zqst zqhq; first | (refine' spansA ?q1.u83 zqst zqhq ?q2.u83 ?q3.u83; (case q1 => with_reducible assumption); (case q2 => k_mem); (case q3 => k_mem)) | (refine' spansB ?q1.u83 zqst zqhq ?q2.u83 ?q3.u83; (case q1 => with_reducible assumption); (case q2 => k_mem); (case q3 => k_mem)) | (refine' spansC ?q1.u83 zqst zqhq ?q2.u83 ?q3.u83; (case q1 => with_reducible assumption); (case q2 => k_mem); (case q3 => with_reducible assumption)))); (case hb => first | with_reducible assumption | exact bad_of (by decide) | exact bad3 (by assumption) _ | exact bad4 (by assumption) _ | exact bad5 (by assumption) (by assumption)); (case hl => first | assumption | (simp only [List.length_append, List.length_cons, List.length_nil]; omega))
  k_whole
  refine ret_val ?_
  intro zqh9 zqtk9 zqF9 zqN9)))
  (k_with "m call ref" => ((
  (with_reducible show wpAny _ _ (call (Value.ref 21) _) _ _ _)
  k_dflt (refine' specC_use0 (normal_specB _ _ true ?hl.u84 ?hb.u84) ?k1.u84 ?k2.u84 ?k3.u84 ?k4.u84 ?k5.u84 ?kK.u84 ?kd.u84 ?ku.u84 ?kpre.u84 ?_)
  k_dflt (walk_at "use_0")
  (case kpre => k_dflt (intro zqg zqst zqhq; exact SpansH.keeps zqst (by with_reducible assumption))); (case hb => with_reducible assumption); (case hl => first | assumption | (simp only [List.length_append, List.length_cons, List.length_nil]; omega))
  k_whole
  refine ret_val ?_
  intro zqh9 zqtk9 zqF9 zqN9)))
  (k_with "m compareOp NotEq ref ref" => ((refine stand ?_)))
  (k_with "m compareOp NotEq ref ref" => ((k_here; k_dflt (refine' ne_spans ?a.u86 ?b.u86 ?c.u86 ?_; (case c => exact units_room1 (by with_reducible assumption) (by decide)); (case b => exact (spansH_nil (by k_asm) (by k_mem))); (case a => (exact SpansH.keeps (Fr.keep (by k_asm)) (by with_reducible assumption)))))))
  (k_with "m binaryOp Add ref ref" => ((k_here; k_dflt (refine' addV ?k1.u87 ?k2.u87 ?k3.u87 ?k4.u87 ?k5.u87 ?_; (case k1 => k_asm); (case k2 => k_asm); (case k3 => walk_at "is_list"); (case k4 => walk_at "is_list"); (case k5 => (simp only [List.length_append, List.length_cons, List.length_nil]; omega)); k_whole); intro zqy' zqh' zqF' zqN' zql1; (try k_lt zql1); (try k_sweep))))
  (k_with "m subscriptTail Name UnaryOp ref int" => (((with_reducible show wpAny _ _ (subscriptTail _ _ (Value.ref _) (Value.int _ _)) _ _ _); (have zqhpos := pos_of_dec (by assumption)); (refine' item_span_neg (isList_at ?kF.u88 ?kL.u88) ?kb.u88 ?k2.u88 ?k4.u88 ?_ ?k6.u88; (case kL => with_reducible assumption); (case kF => k_asm); (case kb => with_reducible assumption); (case k2 => omega); (case k4 => omega); (case k6 => with_unfolding_all rfl)); intro zqad zqt1 zqt2 zqhV' zqhT')))
  (k_with "m subscriptTail Name Constant ref int" => (((with_reducible show wpAny _ _ (subscriptTail _ _ (Value.ref _) (Value.int 0 _)) _ _ _); (have zqhpos := pos_of_dec (by assumption)); (refine' item_span0 (isList_at ?kF.u89 ?kL.u89) ?kb.u89 ?k2.u89 ?k4.u89 ?_ ?k6.u89; (case kL => with_reducible assumption); (case kF => k_asm); (case kb => with_reducible assumption); (case k2 => omega); (case k4 => omega); (case k6 => with_unfolding_all rfl)); intro zqad zqt1 zqt2 zqhT' zqhP')))
  (k_with "m CompSrcT" => ((k_here; k_dflt (refine LCt.CompSrcT.ledger (by rfl) (by k_asm) (by k_asm) (by k_mem) (by first | size_fits | exact Nat.le_of_ble_eq_true rfl) ?_; intro zqg'; first | lct_lit | (with_unfolding_all show LCt.CompRestT _ _ _ _ _ _ _ _ _ _ _ _ _ _ _ _ 5 _ _ _)))))
  trivial
theorem compEnd_same {h₀ : Heap} {L I C D : Addr} {m : Str → Option Value} {s₁ : Shared} {oI oC oD : Obj} {S : List (Addr × Obj) → Prop} {rest : Value → List (Addr × Obj) → Prop} {y : Value} {h' : Heap} {tk : Nat} {news' : List (Addr × Obj)}
    (F : Fr h₀ L h' m) (N : News h₀ L h' ((I, oI) :: (C, oC) :: (D, oD) :: news')) (off : LCg.Off3 I C D news') (hS : S news') (r : rest y news') :
    LCg.CompEnd h₀ L m s₁ I oI C oC D oD S rest y { s₁ with heap := h', toks := tk } := LCg.CompEnd.intro F N news' (fun _ hp => hp) off hS r
theorem said_38 : True := by
  (k_with "m CompEnd" => ((k_here; (refine' compEnd_same ?k1.u91 ?k2.u91 ?k4.u91 ?k5.u91 ?_; (case k1 => k_asm); (case k2 => assumption); (case k4 => (simp only [LCg.Off3, and_true]; assumption)); (case k5 => lcg_src)))))
  trivial
set_option maxHeartbeats 8000000 in
theorem nright_spec (l : Addr) (ps : List (Int × Int)) (hl : ps.length ≤ 20) (hn : normFrom none ps = true) :
    SpecC w p loose mean mg mb 120 (fun g => SpansH g l ps) [] [.ref l] 15
      (fun r news' => r = .bool true ∧ news' = []) := by
  walk_at "spec_enter"
  rename SpansH _ _ _ => pre8
  obtain ⟨vs, hlst, hall⟩ := id pre8
  have hvl := hall.length
  have hl100 : ps.length ≤ 100 := by omega
  have hb5 : 0 < ps.length → normFrom none (ps ++ [ps.getD 0 (0, 0)]) = false := fun h => bad5 h hn
  k_steps
  all_goals (
    rename News _ _ _ _ => N7
    exact leaveS_sub [] (by k_asm) N7 sub_nil ⟨rfl, rfl⟩)
end
theorem again_39 : True := by
  k_with_none
  (k_with "m omega" => ((first | decide | (with_reducible exact Int.natCast_nonneg _) | exact om1 (by with_reducible assumption) (by decide) | exact om2 (by with_reducible assumption) (by decide) | exact om3 (by with_reducible assumption) (by decide) | exact om4 (by with_reducible assumption) (by decide) | exact om5 (by with_reducible assumption) (by decide) | exact om6 (by with_reducible assumption) (by decide) | exact om7 (by with_reducible assumption) (by decide) | exact om8 (by with_reducible assumption) (by decide) | exact om9 (by with_reducible assumption) (by decide) | exact om10 (by with_reducible assumption) (by decide) | exact om5 (by with_reducible assumption) (om2 (by with_reducible assumption) (by decide)) | exact om6 (by with_reducible assumption) (om1 (by with_reducible assumption) (by decide)) | exact Nat.le_of_lt (by with_reducible assumption) | exact Nat.succ_le_of_lt (by with_reducible assumption) | exact Int.le_of_lt (by with_reducible assumption) | exact Int.not_le.mp (by with_reducible assumption) | exact Int.not_lt.mp (by with_reducible assumption) | exact Nat.lt_of_not_le (by with_reducible assumption) | exact Nat.le_of_not_lt (by with_reducible assumption) | fail)))
  (k_with "m ne_look" => (with_reducible (first | (refine neS ?_; assumption) | (refine neT ?_; assumption) | (refine ltS ?_; assumption) | (refine ltT ?_; assumption) | (rename _ ∧ _ => zqz; first | ((have zqzz : @LT.lt Nat _ _ _ := zqz.1); clear zqzz; first | exact ltS zqz.1 | exact ltT zqz.1 | exact ltS zqz.2.1 | exact ltT zqz.2.1 | exact ltS zqz.2.2.1 | exact ltT zqz.2.2.1 | exact ltS zqz.2.2.2.1 | exact ltT zqz.2.2.2.1 | exact ltS zqz.2.2.2.2.1 | exact ltT zqz.2.2.2.2.1 | exact ltS zqz.2.2.2.2.2.1 | exact ltT zqz.2.2.2.2.2.1 | exact ltS zqz.2.2.2.2.2.2.1 | exact ltT zqz.2.2.2.2.2.2.1 | exact ltS zqz.2.2.2.2.2.2.2.1 | exact ltT zqz.2.2.2.2.2.2.2.1 | exact ltS zqz.2.2.2.2.2.2.2.2.1 | exact ltT zqz.2.2.2.2.2.2.2.2.1 | exact ltS zqz.2.2.2.2.2.2.2.2.2.1 | exact ltT zqz.2.2.2.2.2.2.2.2.2.1 | exact ltS zqz.2.2.2.2.2.2.2.2.2.2.1 | exact ltT zqz.2.2.2.2.2.2.2.2.2.2.1 | exact ltS zqz.2.2.2.2.2.2.2.2.2.2.2.1 | exact ltT zqz.2.2.2.2.2.2.2.2.2.2.2.1 | exact ltS zqz.2.2.2.2.2.2.2.2.2.2.2.2.1 | exact ltT zqz.2.2.2.2.2.2.2.2.2.2.2.2.1 | exact ltS zqz.2.2.2.2.2.2.2.2.2.2.2.2.2.1 | exact ltT zqz.2.2.2.2.2.2.2.2.2.2.2.2.2.1 | exact ltS zqz.2 | exact ltT zqz.2 | exact ltS zqz.2.2 | exact ltT zqz.2.2 | exact ltS zqz.2.2.2 | exact ltT zqz.2.2.2 | exact ltS zqz.2.2.2.2 | exact ltT zqz.2.2.2.2 | exact ltS zqz.2.2.2.2.2 | exact ltT zqz.2.2.2.2.2 | exact ltS zqz.2.2.2.2.2.2 | exact ltT zqz.2.2.2.2.2.2 | exact ltS zqz.2.2.2.2.2.2.2 | exact ltT zqz.2.2.2.2.2.2.2 | exact ltS zqz.2.2.2.2.2.2.2.2 | exact ltT zqz.2.2.2.2.2.2.2.2 | exact ltS zqz.2.2.2.2.2.2.2.2.2 | exact ltT zqz.2.2.2.2.2.2.2.2.2 | exact ltS zqz.2.2.2.2.2.2.2.2.2.2 | exact ltT zqz.2.2.2.2.2.2.2.2.2.2 | exact ltS zqz.2.2.2.2.2.2.2.2.2.2.2 | exact ltT zqz.2.2.2.2.2.2.2.2.2.2.2 | exact ltS zqz.2.2.2.2.2.2.2.2.2.2.2.2 | exact ltT zqz.2.2.2.2.2.2.2.2.2.2.2.2 | exact ltS zqz.2.2.2.2.2.2.2.2.2.2.2.2.2 | exact ltT zqz.2.2.2.2.2.2.2.2.2.2.2.2.2) | exact neS zqz.1 | exact neS zqz.1.1 | exact neS zqz.1.2 | exact neS zqz.1.2.1 | exact neS zqz.1.2.2 | exact neS zqz.2.1 | exact neS zqz.2.1.1 | exact neS zqz.2.1.2 | exact neS zqz.2.1.2.1 | exact neS zqz.2.1.2.2 | exact neS zqz.2.2.1 | exact neS zqz.2.2.1.1 | exact neS zqz.2.2.1.2 | exact neS zqz.2.2.1.2.1 | exact neS zqz.2.2.1.2.2 | exact neS zqz.2.2.2.1 | exact neS zqz.2.2.2.1.1 | exact neS zqz.2.2.2.1.2 | exact neS zqz.2.2.2.1.2.1 | exact neS zqz.2.2.2.1.2.2 | exact neS zqz.2.2.2.2.1 | exact neS zqz.2.2.2.2.1.1 | exact neS zqz.2.2.2.2.1.2 | exact neS zqz.2.2.2.2.1.2.1 | exact neS zqz.2.2.2.2.1.2.2 | exact neS zqz.2.2.2.2.2.1 | exact neS zqz.2.2.2.2.2.1.1 | exact neS zqz.2.2.2.2.2.1.2 | exact neS zqz.2.2.2.2.2.1.2.1 | exact neS zqz.2.2.2.2.2.1.2.2 | exact neS zqz.2.2.2.2.2.2.1 | exact neS zqz.2.2.2.2.2.2.1.1 | exact neS zqz.2.2.2.2.2.2.1.2 | exact neS zqz.2.2.2.2.2.2.1.2.1 | exact neS zqz.2.2.2.2.2.2.1.2.2 | exact neS zqz.2.2.2.2.2.2.2.1 | exact neS zqz.2.2.2.2.2.2.2.1.1 | exact neS zqz.2.2.2.2.2.2.2.1.2 | exact neS zqz.2.2.2.2.2.2.2.1.2.1 | exact neS zqz.2.2.2.2.2.2.2.1.2.2 | exact neS zqz.2.2.2.2.2.2.2.2.1 | exact neS zqz.2.2.2.2.2.2.2.2.1.1 | exact neS zqz.2.2.2.2.2.2.2.2.1.2 | exact neS zqz.2.2.2.2.2.2.2.2.1.2.1 | exact neS zqz.2.2.2.2.2.2.2.2.1.2.2 | exact neS zqz.2 | exact neS zqz.2.2 | exact neS zqz.2.2.2 | exact neS zqz.2.2.2.2 | exact neS zqz.2.2.2.2.2 | exact neS zqz.2.2.2.2.2.2 | exact neS zqz.2.2.2.2.2.2.2 | exact neS zqz.2.2.2.2.2.2.2.2 | exact neT zqz.1 | exact neT zqz.1.1 | exact neT zqz.1.2 | exact neT zqz.1.2.1 | exact neT zqz.1.2.2 | exact neT zqz.2.1 | exact neT zqz.2.1.1 | exact neT zqz.2.1.2 | exact neT zqz.2.1.2.1 | exact neT zqz.2.1.2.2 | exact neT zqz.2.2.1 | exact neT zqz.2.2.1.1 | exact neT zqz.2.2.1.2 | exact neT zqz.2.2.1.2.1 | exact neT zqz.2.2.1.2.2 | exact neT zqz.2.2.2.1 | exact neT zqz.2.2.2.1.1 | exact neT zqz.2.2.2.1.2 | exact neT zqz.2.2.2.1.2.1 | exact neT zqz.2.2.2.1.2.2 | exact neT zqz.2.2.2.2.1 | exact neT zqz.2.2.2.2.1.1 | exact neT zqz.2.2.2.2.1.2 | exact neT zqz.2.2.2.2.1.2.1 | exact neT zqz.2.2.2.2.1.2.2 | exact neT zqz.2.2.2.2.2.1 | exact neT zqz.2.2.2.2.2.1.1 | exact neT zqz.2.2.2.2.2.1.2 | exact neT zqz.2.2.2.2.2.1.2.1 | exact neT zqz.2.2.2.2.2.1.2.2 | exact neT zqz.2.2.2.2.2.2.1 | exact neT zqz.2.2.2.2.2.2.1.1 | exact neT zqz.2.2.2.2.2.2.1.2 | exact neT zqz.2.2.2.2.2.2.1.2.1 | exact neT zqz.2.2.2.2.2.2.1.2.2 | exact neT zqz.2.2.2.2.2.2.2.1 | exact neT zqz.2.2.2.2.2.2.2.1.1 | exact neT zqz.2.2.2.2.2.2.2.1.2 | exact neT zqz.2.2.2.2.2.2.2.1.2.1 | exact neT zqz.2.2.2.2.2.2.2.1.2.2 | exact neT zqz.2.2.2.2.2.2.2.2.1 | exact neT zqz.2.2.2.2.2.2.2.2.1.1 | exact neT zqz.2.2.2.2.2.2.2.2.1.2 | exact neT zqz.2.2.2.2.2.2.2.2.1.2.1 | exact neT zqz.2.2.2.2.2.2.2.2.1.2.2 | exact neT zqz.2 | exact neT zqz.2.2 | exact neT zqz.2.2.2 | exact neT zqz.2.2.2.2 | exact neT zqz.2.2.2.2.2 | exact neT zqz.2.2.2.2.2.2 | exact neT zqz.2.2.2.2.2.2.2 | exact neT zqz.2.2.2.2.2.2.2.2 | (clear zqz; walk_at "ne_look")))))
  (k_with "m om" => (first | ((repeat (with_reducible rename _ ∧ _ => zqzz; clear zqzz)); (repeat (with_reducible rename @Ne Nat _ _ => zqzz; clear zqzz)); omega) | omega))
  (k_with "m spec_enter" => ((
  w_top off
  unfold SpecC
  k_fill
  intro zqdp zqun zqgd zqcn zqcs zqa zqccd zqcl zqouter zqA₀ zqbase zqh₀ zqL zqm zqs zqQ zqE zqB zqF zqX zqN zqT zqhk zqhpre zqhd zqhu zqhret
  obtain ⟨zqsh, zqsg, zqsd, zqst, zqso⟩ := zqs
  dsimp only at zqF zqN zqhpre zqhret
  refine wpAny_call ?_
  refine' callSK ?k1.u4 ?k2.u4 ?k3.u4 ?k4.u4 ?k5.u4 ?kA.u4 ?kF.u4 ?kK.u4 ?kpre.u4 ?kret.u4 ?k6.u4 ?k7.u4 ?k8.u4 ?k9.u4 ?kB.u4 ?_ ?c2.u4 ?c3.u4 ?c4.u4 ?c5.u4
  (case kA => exact rfl); (case kF => exact rfl); (case kK => assumption); (case k1 => k_asm); (case k2 => k_asm); (case k3 => k_asm); (case k4 => k_asm); (case k5 => k_asm)
  (case kpre => exact zqhpre)
  (case kret => exact zqhret)
  (case k6 => k_is); (case k7 => k_is); (case k8 => ktr_room); (case k9 => exact BindsTo.of_eq rfl); (case kB => exact locs rfl); (case c2 => decide); (case c3 => exact rfl); (case c4 => exact rfl); (case c5 => exact rfl)
  clear zqhpre zqhret
  k_whole
  intro zqg' zqL' zqh' zqF' zqN' zqB' zqX' zqT' zqpre'
  (refine fold_fr zqF' ?_; clear zqF'; intro zqmm zqF')
  (try dsimp only); (refine abs_tok ?_; intro zqtk'); (try k_lift zqB'); (try k_fold))))
  (k_with "m spec_enterC" => ((
  w_top off
  unfold SpecC
  k_fill
  intro zqdp zqun zqgd zqcn zqcs zqa zqccd zqcl zqouter zqA₀ zqbase zqh₀ zqL zqm zqs zqQ zqE zqB zqF zqX zqN zqT zqhk zqhpre zqhd zqhu zqhret
  obtain ⟨zqsh, zqsg, zqsd, zqst, zqso⟩ := zqs
  dsimp only at zqF zqN zqhpre zqhret
  refine wpAny_call ?_
  refine' callSC ?k1.u5 ?k2.u5 ?k3.u5 ?k4.u5 ?k5.u5 ?kA.u5 ?kF.u5 ?kK.u5 ?kpre.u5 ?kret.u5 ?k6.u5 ?k7.u5 ?k8.u5 ?k9.u5 ?kB.u5 ?kD.u5 ?_ ?c3.u5 ?c4.u5 ?c5.u5
  (case kA => exact rfl); (case kF => exact rfl); (case kK => assumption); (case k1 => k_asm); (case k2 => k_asm); (case k3 => k_asm); (case k4 => k_asm); (case k5 => k_asm)
  (case kpre => exact zqhpre)
  (case kret => exact zqhret)
  (case k6 => k_is); (case k7 => k_is); (case k8 => ktr_room); (case k9 => exact BindsTo.of_eq rfl); (case kB => exact rfl); (case kD => decide +kernel); (case c3 => exact rfl); (case c4 => exact rfl); (case c5 => exact rfl)
  clear zqhpre zqhret
  k_whole
  intro zqg' zqL' zqh' zqtk' zqcells' zqF' zqN' zqY' zqB' zqX' zqT' zqpre' zql1
  (try k_lt zql1); k_cells zqY'; (try simp only [List.cons_append, List.nil_append] at zqN'); (try dsimp only); (try k_lift zqB'); (try k_fold))))
  (k_with "m spec_end" => (((try dsimp only); (try k_unfold); (try dsimp only))))
  (k_with "m pick_1" => (first | (refine' Pick1.here ?ph.u7; (case ph => k_dflt k_all)) | (refine' Pick1.next ?pn.u7 ?pt.u7; (case pn => k_ne); (case pt => walk_at "pick_1"))))
  (k_with "m use_1" => ((
  (case k1 => k_asm); (case k2 => k_asm); (case k3 => k_asm); (case k4 => k_asm); (case k5 => k_asm); (case kK => first | exact rfl | assumption)
  (case kd => ktr_room); (case ku => ktr_units); (case kp => k_dflt (walk_at "pick_1")))))
  (k_with "m use_2" => ((
  (case k1 => k_asm); (case k2 => k_asm); (case k3 => k_asm); (case k4 => k_asm); (case k5 => k_asm); (case kK => first | exact rfl | assumption)
  (case kd => ktr_room); (case ku => ktr_units); (case kp1 => k_dflt (walk_at "pick_1")); (case kp2 => k_dflt (walk_at "pick_1")))))
  (k_with "m use_0" => ((
  (case k1 => k_asm); (case k2 => k_asm); (case k3 => k_asm); (case k4 => k_asm); (case k5 => k_asm); (case kK => first | exact rfl | assumption)
  (case kd => ktr_room); (case ku => ktr_units))))
  (k_with "m ktr_room" => ((k_dflt (first | exact room1 (by assumption) (by decide) | exact room0 (by assumption) (by decide) | exact roomN (by assumption)))))
  (k_with "m ktr_units" => ((k_dflt (first | exact units1 (by assumption) (by decide) | exact room0 (by assumption) (by decide)))))
  (k_with "m k_ne" => ((refine neN ?_; (try dsimp only); first | walk_at "ne_look" | omega -splitDisjunctions | omega)))
  (k_with "m append_L" => ((k_here; (with_reducible show wpAny _ _ (call (Value.builtin _) [Value.ref _, _]) _ _ _); k_dflt (refine' append_L ?k1.u14 ?k2.u14 ?k3.u14 ?k4.u14 ?_; (case k1 => k_asm); (case k2 => k_asm); (case k3 => k_upd); (case k4 => first | omega | (simp only [List.length_append, List.length_cons, List.length_nil]; omega)); k_whole); intro zqh' zqF' zqN'; (try k_sweep))))
  (k_with "m all_lt" => (first
  | exact allLt_mem (by assumption)
  | exact allLt_mem (And.right (by assumption))
  | exact allLt_mem (And.right (And.right (by assumption)))
  | exact allLt_mem (And.right (And.right (And.right (by assumption))))
  | exact allLt_mem (And.right (And.right (And.right (And.right (by assumption)))))
  | exact allLt_mem (And.right (And.right (And.right (And.right (And.right (by assumption))))))
  | exact allLt_mem (And.right (And.right (And.right (And.right (And.right (And.right (by assumption)))))))
  | exact allLt_mem (And.right (And.right (And.right (And.right (And.right (And.right (And.right (by assumption))))))))
  | exact allLt_mem (And.right (And.right (And.right (And.right (And.right (And.right (And.right (And.right (by assumption)))))))))))
  (k_with "m own_off1" => (first | exact ownOff_nil | assumption | (refine ownOff_cons ?_ ?_; (first | exact OwnOff.ne (by assumption) (by k_memK) | walk_at "all_lt" | fail "own_off: an address"); walk_at "own_off1")))
  (k_with "m own_off" => (((try dsimp only [List.map_cons, List.map_nil]); walk_at "own_off1")))
  (k_with "m led_in1" => (first | exact sub_nil | (refine sub_cons ?_ ?_; k_mem; walk_at "led_in1")))
  (k_with "m led_in" => (((try dsimp only); walk_at "led_in1")))
  (k_with "m own_in1" => (first | assumption | (refine List.Mem.tail _ ?_; walk_at "own_in1")))
  (k_with "m own_in" => ((intro zqp zqhp; walk_at "own_in1")))
  (k_with "m jp_end" => ((
  (case hk => kst_all); (case hn => walk_at "led_in"); (case ho => walk_at "own_in"); (case ha => walk_at "own_off"))))
  (k_with "m is_list" => (first | is_list | exact isList_at (by k_asm) (by assumption)))
  (k_with "m sub_all1" => (first | exact sub_nil | (refine sub_cons ?_ ?_; k_mem; walk_at "sub_all1") | (intro zqp zqhp; walk_at "own_in1")))
  (k_with "m sub_all" => (((try simp only [List.cons_append, List.nil_append]); walk_at "sub_all1")))
  trivial
section
theorem getD_mem {l : List Int} {i : Nat} (h : i < l.length) : l.getD i 0 ∈ l := by
  rw [List.getD_eq_getElem?_getD, List.getElem?_eq_getElem h]; exact List.getElem_mem _
theorem norm_snoc : ∀ (ps : List (Int × Int)) (o : Option Int) (s : Int × Int), normFrom o ps = true → s.1 < s.2 → (∀ a, o = some a → a < s.1) → (∀ t ∈ ps, t.2 < s.1) → normFrom o (ps ++ [s]) = true
  | [], none, s, _, h, _, _ => by simp [normFrom, h]
  | [], some a, s, _, h, ha, _ => by simp [normFrom, h, ha a rfl]
  | x :: r, o, s, hn, h, ha, ht => by
    obtain ⟨h1, h2⟩ := norm_cons hn
    have ih := norm_snoc r (some x.2) s h2 h (fun a e => by cases e; exact ht x (List.mem_cons_self ..)) fun t h => ht t (List.mem_cons_of_mem _ h)
    cases o with
    | none => simp only [List.cons_append, normFrom, Bool.and_eq_true, decide_eq_true_eq]; exact ⟨h1, ih⟩
    | some a =>
      simp only [normFrom, Bool.and_eq_true, decide_eq_true_eq] at hn
      simp only [List.cons_append, normFrom, Bool.and_eq_true, decide_eq_true_eq]; exact ⟨h1, hn.2.1, ih⟩
theorem memS_append (ps qs : List (Int × Int)) (q : Int) : memS (ps ++ qs) q = (memS ps q || memS qs q) := by simp [memS]
theorem norm_replace : ∀ (ps : List (Int × Int)) (o : Option Int) (s : Int × Int) (e : Int), normFrom o (ps ++ [s]) = true → s.2 < e → normFrom o (ps ++ [(s.1, e)]) = true
  | [], none, s, e, h, he => by
    simp only [List.nil_append, normFrom, Bool.and_eq_true, decide_eq_true_eq, and_true] at h ⊢; omega
  | [], some a, s, e, h, he => by
    simp only [List.nil_append, normFrom, Bool.and_eq_true, decide_eq_true_eq, and_true] at h ⊢; omega
  | x :: r, o, s, e, h, he => by
    have h2 := norm_replace r (some x.2) s e (norm_cons h).2 he
    cases o <;> simp only [List.cons_append, normFrom, Bool.and_eq_true, decide_eq_true_eq] at h ⊢
    · exact ⟨h.1, h2⟩
    · exact ⟨h.1, h.2.1, h2⟩
theorem norm_end : ∀ (ps : List (Int × Int)) (o : Option Int) (s : Int × Int), normFrom o (ps ++ [s]) = true → s.1 < s.2 ∧ ∀ t ∈ ps, t.2 < s.1
  | [], o, s, h => ⟨(norm_cons h).1, fun _ h => nomatch h⟩
  | x :: r, o, s, h => by
    obtain ⟨h1, h2⟩ := norm_cons h
    obtain ⟨h3, h4⟩ := norm_end r _ s h2
    refine ⟨h3, fun t ht => ?_⟩
    rcases List.mem_cons.mp ht with rfl | ht
    · exact (norm_gt (r ++ [s]) t.2 h2 s (by simp)).1
    · exact h4 t ht
theorem putStep_cases (ps : List (Int × Int)) (b e : Int) : (∃ r s, ps = r ++ [s] ∧ s.2 = b ∧ putStep ps b e true = r ++ [(s.1, e)]) ∨ ((∀ r s, ps = r ++ [s] → s.2 ≠ b) ∧ putStep ps b e true = ps ++ [(b, e)]) := by
  rcases nil_or_snoc ps with rfl | ⟨r, s, rfl⟩
  · refine .inr ⟨fun r s h => ?_, ?_⟩
    · cases r <;> simp at h
    · simp [putStep]
  · by_cases h : s.2 = b
    · refine .inl ⟨r, s, rfl, h, ?_⟩
      simp [putStep, h]
    · refine .inr ⟨fun r' s' h' => ?_, ?_⟩
      · have := List.append_inj' h' rfl
        obtain ⟨_, h2⟩ := this
        cases h2; exact h
      · simp [putStep, h]
/-- what the loop of put_together has told after i turns -/
theorem put_inv {qs : List Int} {kk g : Int → Bool} (hs : qs.Pairwise (· < ·)) (hg : ∀ i q, i + 1 < qs.length → qs.getD i 0 ≤ q → q < qs.getD (i + 1) 0 → g q = kk (qs.getD i 0)) :
    ∀ i, i < qs.length → normFrom none (putFold qs kk i) = true ∧ (∀ t ∈ putFold qs kk i, t.2 ≤ qs.getD i 0) ∧ ∀ q, memS (putFold qs kk i) q = (decide (qs.getD 0 0 ≤ q) && (decide (q < qs.getD i 0) && g q)) := by
  intro i
  induction i with
  | zero =>
    intro _
    refine ⟨rfl, fun t h => (by simp [putFold] at h), fun q => ?_⟩
    by_cases h : qs.getD 0 0 ≤ q
    · rw [decide_eq_false (show ¬ q < qs.getD 0 0 by omega), Bool.false_and, Bool.and_false]; rfl
    · rw [decide_eq_false h]; rfl
  | succ i ih =>
    intro hi
    obtain ⟨h1, h2, h3⟩ := ih (by omega)
    have hlt : qs.getD i 0 < qs.getD (i + 1) 0 := sorted_lt hs (Nat.lt_succ_self i) hi
    have h0 : qs.getD 0 0 ≤ qs.getD i 0 := by
      cases i with
      | zero => exact Int.le_refl _
      | succ i => exact Int.le_of_lt (sorted_lt hs (Nat.succ_pos i) (by omega))
    have key : ∀ q, (decide (qs.getD 0 0 ≤ q) && (decide (q < qs.getD (i + 1) 0) && g q)) = ((decide (qs.getD 0 0 ≤ q) && (decide (q < qs.getD i 0) && g q)) || (decide (qs.getD i 0 ≤ q) && (decide (q < qs.getD (i + 1) 0) && kk (qs.getD i 0)))) := by
      intro q
      by_cases c1 : q < qs.getD i 0
      · rw [decide_eq_true c1, decide_eq_true (show q < qs.getD (i + 1) 0 by omega), decide_eq_false (show ¬ qs.getD i 0 ≤ q by omega)]; simp
      · by_cases c2 : q < qs.getD (i + 1) 0
        · rw [decide_eq_false c1, decide_eq_true c2, decide_eq_true (show qs.getD i 0 ≤ q by omega), decide_eq_true (show qs.getD 0 0 ≤ q by omega), hg i q hi (by omega) c2]; simp
        · rw [decide_eq_false c1, decide_eq_false c2]; simp
    rw [putFold]
    cases hk : kk (qs.getD i 0) with
    | false =>
      refine ⟨h1, fun t ht => Int.le_trans (h2 t ht) (Int.le_of_lt hlt), fun q => ?_⟩
      show memS (putFold qs kk i) q = _
      rw [key q, h3 q, hk]; simp
    | true =>
      rcases putStep_cases (putFold qs kk i) (qs.getD i 0) (qs.getD (i + 1) 0) with ⟨r, s, e1, e2, e3⟩ | ⟨e2, e3⟩
      · rw [e3]
        rw [e1] at h1 h2 h3
        refine ⟨norm_replace _ _ _ _ h1 (by omega), fun t ht => ?_, fun q => ?_⟩
        · rcases List.mem_append.mp ht with ht | ht
          · exact Int.le_trans (h2 t (List.mem_append.mpr (.inl ht))) (Int.le_of_lt hlt)
          · rw [List.mem_singleton.mp ht]; exact Int.le_refl _
        · rw [key q, ← h3 q, memS_append, memS_append, hk]
          have h4 := (norm_end _ _ _ h1).1
          have e4 : memS [(s.1, qs.getD (i + 1) 0)] q = (memS [s] q || (decide (qs.getD i 0 ≤ q) && (decide (q < qs.getD (i + 1) 0) && true))) := by
            rw [memS_cons, memS_cons, ← e2]
            show (_ || false) = ((_ || false) || _)
            dsimp only
            by_cases c1 : s.1 ≤ q
            · by_cases c2 : q < s.2
              · rw [decide_eq_true c1, decide_eq_true c2, decide_eq_true (show q < qs.getD (i + 1) 0 by omega)]; simp
              · rw [decide_eq_true c1, decide_eq_false c2, decide_eq_true (show s.2 ≤ q by omega)]; simp
            · rw [decide_eq_false c1, decide_eq_false (show ¬ s.2 ≤ q by omega)]; simp
          rw [e4, Bool.or_assoc]
      · rw [e3]
        have h5 : ∀ t ∈ putFold qs kk i, t.2 < qs.getD i 0 := by
          intro t ht
          rcases nil_or_snoc (putFold qs kk i) with e | ⟨r, s, e⟩
          · rw [e] at ht; nomatch ht
          · have h6 := e2 r s e
            have h7 := h2 s (by rw [e]; simp)
            rw [e] at ht h1
            obtain ⟨h8, h9⟩ := norm_end _ _ _ h1
            rcases List.mem_append.mp ht with ht | ht
            · have := h9 t ht; omega
            · rw [List.mem_singleton.mp ht]; omega
        refine ⟨norm_snoc _ _ _ h1 hlt (fun _ h => nomatch h) h5, fun t ht => ?_, fun q => ?_⟩
        · rcases List.mem_append.mp ht with ht | ht
          · exact Int.le_trans (h2 t ht) (Int.le_of_lt hlt)
          · rw [List.mem_singleton.mp ht]; exact Int.le_refl _
        · rw [key q, ← h3 q, memS_append, hk]
          congr 1
          simp [memS]
/-- a list of spans in order is what it holds -/
theorem norm_unique : ∀ (ps ps' : List (Int × Int)) (o o' : Option Int), normFrom o ps = true → normFrom o' ps' = true → (∀ q, memS ps q = memS ps' q) → ps = ps'
  | [], [], _, _, _, _, _ => rfl
  | [], s :: r, _, _, _, h, e => by
    have h1 := (norm_cons h).1
    have h2 := e s.1
    rw [memS_cons, decide_eq_true (Int.le_refl _), decide_eq_true h1] at h2
    simp [memS] at h2
  | s :: r, [], _, _, h, _, e => by
    have h1 := (norm_cons h).1
    have h2 := e s.1
    rw [memS_cons, decide_eq_true (Int.le_refl _), decide_eq_true h1] at h2
    simp [memS] at h2
  | s :: r, s' :: r', _, _, h, h', e => by
    obtain ⟨h1, h2⟩ := norm_cons h
    obtain ⟨h1', h2'⟩ := norm_cons h'
    have a1 : ¬ s.1 < s'.1 := fun hlt => by
      have := e s.1
      rw [memS_cons, memS_cons, decide_eq_true (Int.le_refl _), decide_eq_true h1, decide_eq_false (show ¬ s'.1 ≤ s.1 by omega), memS_low h2' (by omega)] at this
      simp at this
    have a2 : ¬ s'.1 < s.1 := fun hlt => by
      have := e s'.1
      rw [memS_cons, memS_cons, decide_eq_true (show s'.1 ≤ s'.1 from Int.le_refl _), decide_eq_true h1', decide_eq_false (show ¬ s.1 ≤ s'.1 by omega), memS_low h2 (by omega)] at this
      simp at this
    have b1 : ¬ s.2 < s'.2 := fun hlt => by
      have := e s.2
      rw [memS_cons, memS_cons, decide_eq_false (show ¬ s.2 < s.2 by omega), memS_low h2 (Int.le_refl _), decide_eq_true (show s'.1 ≤ s.2 by omega), decide_eq_true hlt] at this
      simp at this
    have b2 : ¬ s'.2 < s.2 := fun hlt => by
      have := e s'.2
      rw [memS_cons, memS_cons, decide_eq_false (show ¬ s'.2 < s'.2 by omega), memS_low h2' (Int.le_refl _), decide_eq_true (show s.1 ≤ s'.2 by omega), decide_eq_true hlt] at this
      simp at this
    have es : s = s' := Prod.ext (by omega) (by omega)
    subst es
    rw [norm_unique r r' _ _ h2 h2' fun q => ?_]
    have := e q
    rw [memS_cons, memS_cons] at this
    by_cases c : q < s.2
    · rw [memS_low h2 (by omega), memS_low h2' (by omega)]
    · rw [decide_eq_false c] at this; simpa using this
theorem memS_between {ps : List (Int × Int)} {a q b : Int} (h : ∀ x ∈ flat ps, x ≤ a ∨ b ≤ x) (h1 : a ≤ q) (h2 : q < b) : memS ps q = memS ps a := by
  rw [Bool.eq_iff_iff]
  simp only [memS, List.any_eq_true, Bool.and_eq_true, decide_eq_true_eq]
  constructor <;> rintro ⟨s, hs, c1, c2⟩ <;> refine ⟨s, hs, ?_⟩ <;> have e1 := h _ (flat_mem hs).1 <;> have e2 := h _ (flat_mem hs).2 <;> omega
theorem memS_out {ps : List (Int × Int)} {q : Int} (h : (∀ x ∈ flat ps, q < x) ∨ ∀ x ∈ flat ps, x ≤ q) : memS ps q = false := by
  rw [memS, List.any_eq_false]
  intro s hs
  simp only [Bool.and_eq_true, decide_eq_true_eq, not_and]
  rcases h with h | h
  · have := h _ (flat_mem hs).1; omega
  · have := h _ (flat_mem hs).2; omega
theorem getD_le {l : List Int} (hs : l.Pairwise (· < ·)) {x : Int} (hx : x ∈ l) (i : Nat) (hi : i + 1 < l.length) : x ≤ l.getD i 0 ∨ l.getD (i + 1) 0 ≤ x := by
  obtain ⟨j, hj, rfl⟩ := List.mem_iff_getElem.mp hx
  have e : l[j] = l.getD j 0 := by rw [List.getD_eq_getElem?_getD, List.getElem?_eq_getElem hj]; rfl
  rw [e]
  by_cases h : j ≤ i
  · rcases Nat.lt_or_eq_of_le h with h | rfl
    · exact .inl (Int.le_of_lt (sorted_lt hs h (by omega)))
    · exact .inl (Int.le_refl _)
  · rcases Nat.lt_or_eq_of_le (show i + 1 ≤ j by omega) with h | rfl
    · exact .inr (Int.le_of_lt (sorted_lt hs h hj))
    · exact .inr (Int.le_refl _)
theorem getD_ends {l : List Int} (hs : l.Pairwise (· < ·)) {x : Int} (hx : x ∈ l) : l.getD 0 0 ≤ x ∧ x ≤ l.getD (l.length - 1) 0 := by
  obtain ⟨j, hj, rfl⟩ := List.mem_iff_getElem.mp hx
  have e : l[j] = l.getD j 0 := by rw [List.getD_eq_getElem?_getD, List.getElem?_eq_getElem hj]; rfl
  rw [e]
  constructor
  · cases j with
    | zero => exact Int.le_refl _
    | succ j => exact Int.le_of_lt (sorted_lt hs (Nat.succ_pos j) hj)
  · rcases Nat.lt_or_eq_of_le (show j ≤ l.length - 1 by omega) with h | h
    · exact Int.le_of_lt (sorted_lt hs h (by omega))
    · rw [← h]; exact Int.le_refl _
/-- put_together tells the spans of just the columns that the truths ask for -/
theorem put_mem {ps1 ps2 : List (Int × Int)} (h1 : normFrom none ps1 = true) (h2 : normFrom none ps2 = true) {kf : Bool → Bool → Bool} (hf : kf false false = false) :
    normFrom none (putFold (QS ps1 ps2) (KK ps1 ps2 kf) ((QS ps1 ps2).length - 1)) = true ∧ ∀ q, memS (putFold (QS ps1 ps2) (KK ps1 ps2 kf) ((QS ps1 ps2).length - 1)) q = kf (memS ps1 q) (memS ps2 q) := by
  obtain ⟨hs, hm⟩ := qs_facts h1 h2
  by_cases hl : (QS ps1 ps2).length = 0
  · have he : QS ps1 ps2 = [] := List.eq_nil_of_length_eq_zero hl
    rw [hl]
    refine ⟨rfl, fun q => ?_⟩
    rw [memS_out (ps := ps1) (.inl fun x hx => nomatch he ▸ (hm x).mpr (.inl hx)), memS_out (ps := ps2) (.inl fun x hx => nomatch he ▸ (hm x).mpr (.inr hx)), hf]; rfl
  · obtain ⟨i1, -, i3⟩ := put_inv (kk := KK ps1 ps2 kf) (g := fun q => kf (memS ps1 q) (memS ps2 q)) hs (fun i q hi c1 c2 => by
      dsimp only [KK]
      rw [memS_between (ps := ps1) (fun x hx => getD_le hs ((hm x).mpr (.inl hx)) i hi) c1 c2, memS_between (ps := ps2) (fun x hx => getD_le hs ((hm x).mpr (.inr hx)) i hi) c1 c2]) ((QS ps1 ps2).length - 1) (by omega)
    refine ⟨i1, fun q => ?_⟩
    rw [i3 q]
    by_cases c1 : (QS ps1 ps2).getD 0 0 ≤ q
    · by_cases c2 : q < (QS ps1 ps2).getD ((QS ps1 ps2).length - 1) 0
      · rw [decide_eq_true c1, decide_eq_true c2]; rfl
      · rw [decide_eq_false c2, memS_out (ps := ps1) (.inr fun x hx => by have := (getD_ends hs ((hm x).mpr (.inl hx))).2; omega), memS_out (ps := ps2) (.inr fun x hx => by have := (getD_ends hs ((hm x).mpr (.inr hx))).2; omega), hf]; simp
    · rw [decide_eq_false c1, memS_out (ps := ps1) (.inl fun x hx => by have := (getD_ends hs ((hm x).mpr (.inl hx))).1; omega), memS_out (ps := ps2) (.inl fun x hx => by have := (getD_ends hs ((hm x).mpr (.inr hx))).1; omega), hf]; simp
/-- the row that a table makes of two -/
noncomputable def rowK (kf : Bool → Bool → Bool) (as bs : List Bool) : List Bool := (List.range 12).map fun j => kf (as.getD j false) (bs.getD j false)
theorem rowK_len (kf : Bool → Bool → Bool) (as bs : List Bool) : (rowK kf as bs).length = 12 := by simp [rowK]
theorem rowK_at {kf : Bool → Bool → Bool} (hf : kf false false = false) (as bs : List Bool) (q : Int) : rowAt (rowK kf as bs) q = kf (rowAt as q) (rowAt bs q) := by
  unfold rowAt
  by_cases h : 0 ≤ q
  · by_cases h2 : q < 12
    · rw [decide_eq_true h, decide_eq_true h2]
      have h3 : q.toNat < 12 := by omega
      simp only [Bool.true_and, rowK, List.getD_eq_getElem?_getD, List.getElem?_map, List.getElem?_range h3, Option.map_some, Option.getD_some]
    · rw [decide_eq_false h2]; simp [hf]
  · rw [decide_eq_false h]; simp [hf]
/-- the law's due spans are told -/
theorem put_due {as bs : List Bool} (ha : as.length = 12) (hb : bs.length = 12) {kf : Bool → Bool → Bool} (hf : kf false false = false) :
    putFold (QS (pairsOf (turnsOf as)) (pairsOf (turnsOf bs))) (KK (pairsOf (turnsOf as)) (pairsOf (turnsOf bs)) kf) ((QS (pairsOf (turnsOf as)) (pairsOf (turnsOf bs))).length - 1) = pairsOf (turnsOf (rowK kf as bs)) := by
  have ra := row_ok as ha
  have rb := row_ok bs hb
  have rc := row_ok _ (rowK_len kf as bs)
  obtain ⟨i1, i2⟩ := put_mem ra.normal rb.normal hf
  refine norm_unique _ _ none none i1 rc.normal fun q => ?_
  rw [i2 q, rc.mem, ra.mem, rb.mem, rowK_at hf]
/-- all that begin and end -/
theorem put_whole (qs : List Int) : ∀ i, putFold qs (fun _ => true) i = if i = 0 then [] else [(qs.getD 0 0, qs.getD i 0)]
  | 0 => rfl
  | i + 1 => by
    rw [putFold, put_whole qs i, if_neg (Nat.succ_ne_zero i)]
    by_cases h : i = 0
    · subst h; rfl
    · rw [if_neg h]; simp [putStep]
end
section
open PySem
/-- the binary search finds the place -/
theorem below_go (xs : Array Nat) (hs : xs.toList.Pairwise (· < ·)) (j : Nat) : ∀ (fuel lo hi : Nat), hi - lo ≤ fuel → lo ≤ hi → hi ≤ xs.size → (∀ i (h : i < xs.size), i < lo → xs[i] < j) → (∀ i (h : i < xs.size), hi ≤ i → j ≤ xs[i]) →
    SetTable.below.go xs j fuel lo hi ≤ xs.size ∧ (∀ i (h : i < xs.size), i < SetTable.below.go xs j fuel lo hi → xs[i] < j) ∧ (∀ i (h : i < xs.size), SetTable.below.go xs j fuel lo hi ≤ i → j ≤ xs[i]) := by
  have mono : ∀ a b (ha : a < xs.size) (hb : b < xs.size), a < b → xs[a] < xs[b] := fun a b ha hb hab => by
    have := List.pairwise_iff_getElem.mp hs a b (by simpa using ha) (by simpa using hb) hab
    simpa using this
  intro fuel
  induction fuel with
  | zero =>
    intro lo hi h1 h2 h3 h4 h5
    have e : hi = lo := by omega
    subst e
    exact ⟨h3, h4, h5⟩
  | succ fuel ih =>
    intro lo hi h1 h2 h3 h4 h5
    unfold SetTable.below.go
    by_cases hlt : lo < hi
    · rw [if_pos hlt]
      have hm : (lo + hi) / 2 < xs.size := by omega
      dsimp only
      have eg : xs.getD ((lo + hi) / 2) j = xs[(lo + hi) / 2] := by simp [Array.getD, hm]
      rw [eg]
      by_cases hc : xs[(lo + hi) / 2] < j
      · rw [if_pos hc]
        refine ih _ _ (by omega) (by omega) h3 (fun i h hii => ?_) h5
        by_cases he : i = (lo + hi) / 2
        · subst he; exact hc
        · have := mono i ((lo + hi) / 2) h hm (by omega)
          omega
      · rw [if_neg hc]
        refine ih _ _ (by omega) (by omega) (by omega) h4 (fun i h hii => ?_)
        by_cases he : i = (lo + hi) / 2
        · subst he; omega
        · have := mono ((lo + hi) / 2) i hm h (by omega)
          omega
    · rw [if_neg hlt]
      have e : hi = lo := by omega
      subst e
      exact ⟨h3, h4, h5⟩
theorem below_spec (xs : Array Nat) (hs : xs.toList.Pairwise (· < ·)) (j : Nat) :
    SetTable.below xs j ≤ xs.size ∧ (∀ i (h : i < xs.size), i < SetTable.below xs j → xs[i] < j) ∧ (∀ i (h : i < xs.size), SetTable.below xs j ≤ i → j ≤ xs[i]) := by
  unfold SetTable.below
  exact below_go xs hs j xs.size 0 xs.size (by omega) (by omega) (Nat.le_refl _) (fun _ _ h => absurd h (Nat.not_lt_zero _)) (fun i h h' => absurd h (by omega))
theorem below_at {xs : Array Nat} (hs : xs.toList.Pairwise (· < ·)) {j p : Nat} (hp : p ≤ xs.size) (h1 : ∀ i (h : i < xs.size), i < p → xs[i] < j) (h2 : ∀ i (h : i < xs.size), p ≤ i → j ≤ xs[i]) : SetTable.below xs j = p := by
  obtain ⟨a, b, c⟩ := below_spec xs hs j
  rcases Nat.lt_trichotomy (SetTable.below xs j) p with h | h | h
  · have x := c _ (by omega) (Nat.le_refl _)
    have y := h1 _ (by omega) h
    omega
  · exact h
  · have x := b p (by omega) h
    have y := h2 p (by omega) (Nat.le_refl _)
    omega
theorem insert_sorted {xs : Array Nat} (hs : xs.toList.Pairwise (· < ·)) {j : Nat} (hj : j ∉ xs.toList) : (SetTable.insertAt xs (SetTable.below xs j) j).toList.Pairwise (· < ·) := by
  obtain ⟨a, b, c⟩ := below_spec xs hs j
  rw [SetTable.toList_insertAt]
  have h1 : ∀ x ∈ xs.toList.take (SetTable.below xs j), x < j := fun x hx => by
    obtain ⟨i, hi, rfl⟩ := List.mem_iff_getElem.mp hx
    rw [List.length_take, Array.length_toList] at hi
    have := b i (by omega) (by omega)
    simpa using this
  have h2 : ∀ x ∈ xs.toList.drop (SetTable.below xs j), j < x := fun x hx => by
    obtain ⟨i, hi, rfl⟩ := List.mem_iff_getElem.mp hx
    rw [List.length_drop, Array.length_toList] at hi
    have h3 := c (SetTable.below xs j + i) (by omega) (Nat.le_add_right _ _)
    have h4 : (xs.toList.drop (SetTable.below xs j))[i] = xs[SetTable.below xs j + i]'(by omega) := by simp
    rw [h4]
    have h5 : xs[SetTable.below xs j + i]'(by omega) ∈ xs.toList := by simp
    have h6 : xs[SetTable.below xs j + i]'(by omega) ≠ j := fun e => hj (e ▸ h5)
    omega
  rw [List.pairwise_append]
  refine ⟨hs.sublist (List.take_sublist _ _), .cons h2 (hs.sublist (List.drop_sublist _ _)), fun x hx y hy => ?_⟩
  rcases List.mem_cons.mp hy with rfl | hy
  · exact h1 x hx
  · have := h1 x hx; have := h2 y hy; omega
/-- what a slot holds -/
theorem slot_free {t : SetTable} (hd : t.dummies = #[]) {j : Nat} (hj : j ∉ t.place.toList) : t.slot j = .empty := by
  unfold SetTable.slot
  dsimp only
  rw [if_neg, hd]
  · rfl
  · intro h
    have h1 : t.place[SetTable.below t.place j]? = some j := by simpa using h
    exact hj (by rw [← Array.getElem?_toList] at h1; exact List.mem_of_getElem? h1)
theorem below_mem {xs : Array Nat} (hs : xs.toList.Pairwise (· < ·)) {i : Nat} (hi : i < xs.size) : SetTable.below xs xs[i] = i := by
  have mono : ∀ a b (ha : a < xs.size) (hb : b < xs.size), a < b → xs[a] < xs[b] := fun a b ha hb hab => by
    have := List.pairwise_iff_getElem.mp hs a b (by simpa using ha) (by simpa using hb) hab
    simpa using this
  refine below_at hs (Nat.le_of_lt hi) (fun k h hk => mono k i h hi hk) (fun k h hk => ?_)
  rcases Nat.lt_or_eq_of_le hk with hk | rfl
  · exact Nat.le_of_lt (mono i k hi h hk)
  · exact Nat.le_refl _
theorem slot_live {t : SetTable} (hs : t.place.toList.Pairwise (· < ·)) {j : Nat} (hj : j ∈ t.place.toList) : ∃ i, t.slot j = .live i := by
  obtain ⟨i, hi, rfl⟩ := List.mem_iff_getElem.mp hj
  rw [Array.length_toList] at hi
  refine ⟨i, ?_⟩
  unfold SetTable.slot
  dsimp only
  have e : t.place.toList[i] = t.place[i] := by simp
  rw [e, below_mem hs hi, if_pos]
  simp [hi]
/-- the walk over the slots of a small table -/
noncomputable def seek (used : Nat → Bool) : Nat → Nat → Option Nat
  | 0, _ => none
  | n + 1, j => if used j = true then seek used n ((j * 5 + 1) % 8) else some j
theorem seek_some (used : Nat → Bool) : ∀ n j k, seek used n j = some k → used k = false ∧ (j < 8 → k < 8)
  | 0, _, _, h => nomatch h
  | n + 1, j, k, h => by
    unfold seek at h
    by_cases hu : used j = true
    · rw [if_pos hu] at h
      obtain ⟨h1, h2⟩ := seek_some used n _ k h
      exact ⟨h1, fun _ => h2 (Nat.mod_lt _ (by decide))⟩
    · rw [if_neg hu] at h
      cases h
      exact ⟨by simpa using hu, fun h => h⟩
theorem seek_none (used : Nat → Bool) : ∀ n j, seek used n j = none → ∀ k, k < n → used (Nat.rec j (fun _ x => (x * 5 + 1) % 8) k) = true
  | 0, _, _, _, h => absurd h (Nat.not_lt_zero _)
  | n + 1, j, h, k, hk => by
    unfold seek at h
    by_cases hu : used j = true
    · rw [if_pos hu] at h
      cases k with
      | zero => exact hu
      | succ k =>
        have h1 := seek_none used n _ h k (by omega)
        have e : ∀ k, (Nat.rec ((j * 5 + 1) % 8) (fun _ x => (x * 5 + 1) % 8) k : Nat) = (Nat.rec j (fun _ x => (x * 5 + 1) % 8) (k + 1) : Nat) := by
          intro k
          induction k with
          | zero => rfl
          | succ k ih => show (_ * 5 + 1) % 8 = (_ * 5 + 1) % 8; rw [ih]
        rw [e] at h1; exact h1
    · rw [if_neg hu] at h; cases h
theorem seek_all : ∀ j, j < 8 → ∀ k, k < 8 → ∃ i, i < 8 ∧ (Nat.rec j (fun _ x => (x * 5 + 1) % 8) i : Nat) = k := by
  decide +kernel
theorem seek_free {used : Nat → Bool} {j : Nat} (hj : j < 8) {k : Nat} (hk : k < 8) (hu : used k = false) (m : Nat) : ∃ f, seek used (m + 8) j = some f ∧ used f = false ∧ f < 8 := by
  cases h : seek used (m + 8) j with
  | some f =>
    obtain ⟨h1, h2⟩ := seek_some used _ _ _ h
    exact ⟨f, rfl, h1, h2 hj⟩
  | none =>
    obtain ⟨i, hi, e⟩ := seek_all j hj k hk
    have := seek_none used _ _ h i (by omega)
    rw [e, hu] at this; cases this
theorem probe_go {t : SetTable} (hm : t.mask = 7) (hd : t.dummies = #[]) (hs : t.place.toList.Pairwise (· < ·)) {h : Int} {hashAt : Nat → Int} (hh : ∀ i, (hashAt i == h) = false) :
    ∀ (fuel : Nat) (p : SetTable.Probe), p.more = 0 → p.i = p.j → p.dummy = none → p.perturb < 32 →
      SetTable.probe.go t hashAt h fuel p = (seek (fun j => decide (j ∈ t.place.toList)) fuel p.j).map fun j => .empty j none
  | 0, _, _, _, _, _ => rfl
  | fuel + 1, p, h1, h2, h3, h4 => by
    unfold SetTable.probe.go seek
    by_cases hj : p.j ∈ t.place.toList
    · obtain ⟨i, hi⟩ := slot_live hs hj
      rw [hi]
      dsimp only
      rw [hh i, if_pos (decide_eq_true hj)]
      simp only [Bool.false_eq_true, if_false]
      have ea : t.advance p = { j := (p.j * 5 + 1) % 8, more := 0, i := (p.j * 5 + 1) % 8, perturb := 0, dummy := none } := by
        unfold SetTable.advance
        rw [h1, if_neg (by decide), hm, h2, h3]
        have e0 : p.perturb / 32 = 0 := Nat.div_eq_of_lt h4
        simp only [SetTable.leap, e0, Nat.add_zero]
        have : ¬ ((p.j * 5 + 1) % 8 + 9 ≤ 7) := by omega
        simp only [SetTable.runEnd, if_neg this, Nat.sub_self]
      rw [ea]
      exact probe_go hm hd hs hh fuel _ rfl rfl rfl (by show (0 : Nat) < 32; decide)
    · rw [slot_free hd hj, if_neg (by simpa using hj)]
      simp [h3]
theorem bits_small {h : Int} (h0 : 0 ≤ h) (h1 : h ≤ 12) : SetTable.bits h = h.toNat := by
  unfold SetTable.bits
  rw [Int.emod_eq_of_lt h0 (by omega)]
theorem freeSlot7 {t : SetTable} (hm : t.mask = 7) (hd : t.dummies = #[]) (hs : t.place.toList.Pairwise (· < ·)) (hz : t.place.size ≤ 4) {h : Int} (h0 : 0 ≤ h) (h1 : h ≤ 12) :
    ∃ f, t.freeSlot h = some (f, false) ∧ f ∉ t.place.toList ∧ f < 8 := by
  have hex : ∃ k, k < 8 ∧ k ∉ t.place.toList := by
    refine Classical.byContradiction fun hc => ?_
    have hsub : List.range 8 ⊆ t.place.toList := fun k hk => Classical.byContradiction fun hn => hc ⟨k, List.mem_range.mp hk, hn⟩
    have := List.Nodup.length_le_of_subset (List.nodup_range (n := 8)) hsub
    rw [List.length_range, Array.length_toList] at this
    omega
  obtain ⟨k, hk, hkn⟩ := hex
  have hb := bits_small h0 h1
  obtain ⟨f, e1, e2, e3⟩ := seek_free (used := fun j => decide (j ∈ t.place.toList)) (j := h.toNat % 8) (Nat.mod_lt _ (by decide)) hk (decide_eq_false hkn) 212
  refine ⟨f, ?_, of_decide_eq_false e2, e3⟩
  have hstart : t.probeStart h = { j := h.toNat % 8, more := 0, i := h.toNat % 8, perturb := h.toNat, dummy := none } := by
    unfold SetTable.probeStart
    rw [hb, hm]
    have : ¬ (h.toNat % 8 + 9 ≤ 7) := by omega
    simp only [SetTable.runEnd, if_neg this, Nat.sub_self]
  unfold SetTable.freeSlot SetTable.probe
  rw [hstart, hm, probe_go hm hd hs (fun _ => by simp; omega) _ _ rfl rfl rfl (by dsimp only; omega)]
  show (match (seek _ (212 + 8) (h.toNat % 8)).map (fun j => SetTable.Met.empty j none) with | some (.empty j dummy) => some (dummy.getD j, dummy.isSome) | _ => none) = _
  rw [e1]; rfl
theorem freeSlot31 {t : SetTable} (hm : t.mask = 31) (hd : t.dummies = #[]) {h : Int} (h0 : 0 ≤ h) (h1 : h ≤ 12) (hn : h.toNat ∉ t.place.toList) : t.freeSlot h = some (h.toNat, false) := by
  have hb := bits_small h0 h1
  unfold SetTable.freeSlot SetTable.probe
  have e : (t.probeStart h).j = h.toNat ∧ (t.probeStart h).dummy = none := by
    unfold SetTable.probeStart
    rw [hb, hm]
    exact ⟨Nat.mod_eq_of_lt (by omega), rfl⟩
  rw [hm]
  show (match SetTable.probe.go t _ h (459 + 1) (t.probeStart h) with | some (.empty j dummy) => some (dummy.getD j, dummy.isSome) | _ => none) = _
  unfold SetTable.probe.go
  rw [e.1, slot_free hd hn]
  dsimp only
  rw [e.2]; rfl
end
section
open PySem
/-- where a number stands -/
noncomputable def posOf (l : List Int) (j : Nat) : Option Nat := l.findIdx? fun h => h == (j : Int)
theorem posOf_snoc (l : List Int) (h : Int) (j : Nat) (hn : h ∉ l) : posOf (l ++ [h]) j = if h = (j : Int) then some l.length else posOf l j := by
  unfold posOf
  rw [List.findIdx?_append]
  by_cases e : h = (j : Int)
  · subst e
    rw [if_pos rfl]
    have : List.findIdx? (fun h => h == (j : Int)) l = none := List.findIdx?_eq_none_iff.mpr fun x hx => by
      have : x ≠ (j : Int) := fun e => hn (e ▸ hx)
      simpa using this
    rw [this]
    simp [List.findIdx?_cons]
  · rw [if_neg e]
    have : List.findIdx? (fun h => h == (j : Int)) [h] = none := List.findIdx?_eq_none_iff.mpr fun x hx => by
      rw [List.mem_singleton.mp hx]; simpa using e
    rw [this]; simp
theorem posOf_some {l : List Int} {j k : Nat} (h : posOf l j = some k) : l[k]? = some (j : Int) := by
  unfold posOf at h
  obtain ⟨hk, e, -⟩ := List.findIdx?_eq_some_iff_getElem.mp h
  rw [List.getElem?_eq_getElem hk]
  simpa using e
theorem posOf_mem {l : List Int} {j : Nat} (h : (j : Int) ∈ l) : ∃ k, posOf l j = some k := by
  cases e : posOf l j with
  | some k => exact ⟨k, rfl⟩
  | none =>
    unfold posOf at e
    have := List.findIdx?_eq_none_iff.mp e _ h
    simp at this
theorem posOf_at {l : List Int} (hn : l.Nodup) {k : Nat} {j : Nat} (h : l[k]? = some (j : Int)) : posOf l j = some k := by
  obtain ⟨k', e⟩ := posOf_mem (List.mem_of_getElem? h)
  have h1 := posOf_some e
  obtain ⟨hk, e1⟩ := List.getElem?_eq_some_iff.mp h
  obtain ⟨hk', e2⟩ := List.getElem?_eq_some_iff.mp h1
  have := (List.getElem_inj (h₀ := hk) (h₁ := hk') hn).mp (e1.trans e2.symm)
  rw [e, this]
theorem layFold {st : Option (Array (Option Nat) × Nat) → Int → Option (Array (Option Nat) × Nat)}
    (hst : ∀ owner k h, owner.size = 32 → 0 ≤ h → h ≤ 12 → owner[h.toNat]? = some none → st (some (owner, k)) h = some (owner.setIfInBounds h.toNat (some k), k + 1)) :
    ∀ (hs pre : List Int) (owner : Array (Option Nat)), owner.size = 32 → (∀ j, j < 32 → owner[j]? = some (posOf pre j)) → (∀ h ∈ hs, 0 ≤ h ∧ h ≤ 12) → (pre ++ hs).Nodup →
      ∃ owner', hs.foldl st (some (owner, pre.length)) = some (owner', (pre ++ hs).length) ∧ owner'.size = 32 ∧ ∀ j, j < 32 → owner'[j]? = some (posOf (pre ++ hs) j)
  | [], pre, owner, h1, h2, _, _ => ⟨owner, by simp, h1, by simpa using h2⟩
  | h :: hs, pre, owner, h1, h2, h3, h4 => by
    obtain ⟨a, b⟩ := h3 h (List.mem_cons_self ..)
    have hn : h ∉ pre := fun hm => by
      rw [List.nodup_append] at h4
      exact h4.2.2 h hm h (List.mem_cons_self ..) rfl
    have hp : posOf pre h.toNat = none := by
      cases e : posOf pre h.toNat with
      | none => rfl
      | some k =>
        have := posOf_some e
        rw [Int.toNat_of_nonneg a] at this
        exact absurd (List.mem_of_getElem? this) hn
    have hlt : h.toNat < 32 := by omega
    rw [List.foldl_cons, hst owner pre.length h h1 a b (by rw [h2 _ hlt, hp])]
    have := layFold hst hs (pre ++ [h]) (owner.setIfInBounds h.toNat (some pre.length)) (by simpa using h1) (fun j hj => ?_) (fun x hx => h3 x (List.mem_cons_of_mem _ hx)) (by simpa using h4)
    · simpa using this
    · rw [posOf_snoc _ _ _ hn]
      by_cases e : h = (j : Int)
      · subst e
        rw [if_pos rfl]
        simp [h1, hj]
      · rw [if_neg e, Array.getElem?_setIfInBounds_ne (by omega)]
        exact h2 j hj
theorem free_head {owner : Array (Option Nat)} {h : Int} (_hz : owner.size = 32) (h0 : 0 ≤ h) (h1 : h ≤ 12) (hf : owner[h.toNat]? = some none) :
    SetTable.layClean.free 31 owner (SetTable.turns 31) (SetTable.bits h % (31 + 1)) (SetTable.bits h) = some h.toNat := by
  rw [bits_small h0 h1, Nat.mod_eq_of_lt (by omega)]
  show SetTable.layClean.free 31 owner (45 + 1) h.toNat h.toNat = _
  unfold SetTable.layClean.free
  have e1 : SetTable.runEnd 31 h.toNat = h.toNat + 9 := if_pos (by omega)
  have e2 : h.toNat + 9 + 1 - h.toNat = 9 + 1 := by omega
  rw [e1, e2, List.range_succ_eq_map, List.find?_cons_of_pos]
  · rfl
  · have : owner.getD (h.toNat + 0) (some 0) = none := by
      rw [Nat.add_zero, Array.getD_eq_getD_getElem?, hf]; rfl
    simp only [this]; rfl
theorem fm_congr {α β : Type} {f g : α → Option β} : ∀ l : List α, (∀ x ∈ l, f x = g x) → l.filterMap f = l.filterMap g
  | [], _ => rfl
  | a :: r, h => by
    rw [List.filterMap_cons, List.filterMap_cons, h a (List.mem_cons_self ..), fm_congr r fun x hx => h x (List.mem_cons_of_mem _ hx)]
theorem layClean_ok {hs : List Int} (h1 : ∀ h ∈ hs, 0 ≤ h ∧ h ≤ 12) (h2 : hs.Nodup) : ∃ owner, SetTable.layClean 31 hs.toArray = some owner ∧ owner.size = 32 ∧ ∀ j, j < 32 → owner[j]? = some (posOf hs j) := by
  unfold SetTable.layClean
  rw [List.foldl_toArray]
  have := layFold (st := fun acc h => do
    let (owner, k) ← acc
    let j ← SetTable.layClean.free 31 owner (SetTable.turns 31) (SetTable.bits h % (31 + 1)) (SetTable.bits h)
    pure (owner.setIfInBounds j (some k), k + 1)) (fun owner k h hz a b hf => by
      show (SetTable.layClean.free 31 owner (SetTable.turns 31) (SetTable.bits h % (31 + 1)) (SetTable.bits h) >>= _) = _
      rw [free_head hz a b hf]; rfl) hs [] (Array.replicate (31 + 1) none) (by simp) (fun j hj => by simp [hj, posOf]) h1 (by simpa using h2)
  obtain ⟨owner, e1, e2, e3⟩ := this
  refine ⟨owner, ?_, e2, by simpa using e3⟩
  simp only [List.nil_append, List.length_nil] at e1
  rw [e1]; rfl
/-- the new table of thirty-two slots -/
theorem laid_ok {hs : List Int} (h1 : ∀ h ∈ hs, 0 ≤ h ∧ h ≤ 12) (h2 : hs.Nodup) (f m : Nat) (led plain : Bool) :
    SetTable.laid 31 f m led plain hs.toArray = some ({ mask := 31, place := ((List.range 32).filter fun j => (posOf hs j).isSome).toArray, dummies := #[], finger := f, led := led, moves := m, plain := plain }, ((List.range 32).filterMap (posOf hs)).toArray) := by
  obtain ⟨owner, e1, e2, e3⟩ := layClean_ok h1 h2
  unfold SetTable.laid
  rw [e1]
  have e4 : ((List.range (31 + 1)).filterMap fun j => (owner.getD j none).map (j, ·)) = (List.range 32).filterMap fun j => (posOf hs j).map (j, ·) := by
    refine fm_congr _ fun j hj => ?_
    rw [Array.getD_eq_getD_getElem?, e3 j (List.mem_range.mp hj)]; rfl
  show some (_, _) = _
  rw [e4]
  have e5 : ∀ l : List Nat, ((l.filterMap fun j => (posOf hs j).map (j, ·)).map (·.1)) = l.filter fun j => (posOf hs j).isSome := by
    intro l
    induction l with
    | nil => rfl
    | cons j r ih =>
      cases e : posOf hs j with
      | none => simp [e, ih]
      | some k => simp [e, ih]
  have e6 : ∀ l : List Nat, ((l.filterMap fun j => (posOf hs j).map (j, ·)).map (·.2)) = l.filterMap (posOf hs) := by
    intro l
    induction l with
    | nil => rfl
    | cons j r ih =>
      cases e : posOf hs j with
      | none => simp [e, ih]
      | some k => simp [e, ih]
  rw [e5, e6]
theorem order_perm {hs : List Int} (h1 : ∀ h ∈ hs, 0 ≤ h ∧ h ≤ 12) (h2 : hs.Nodup) : ((List.range 32).filterMap (posOf hs)).Perm (List.range hs.length) := by
  refine (List.perm_ext_iff_of_nodup ?_ List.nodup_range).mpr fun k => ?_
  · rw [List.Nodup, List.pairwise_filterMap]
    refine List.pairwise_lt_range.imp fun {a b} hab k hk k' hk' e => ?_
    subst e
    have x := posOf_some hk
    have y := posOf_some hk'
    rw [x] at y
    cases y
    omega
  · rw [List.mem_filterMap, List.mem_range]
    constructor
    · rintro ⟨j, _, e⟩
      exact (List.getElem?_eq_some_iff.mp (posOf_some e)).1
    · intro hk
      obtain ⟨a, b⟩ := h1 _ (List.getElem_mem hk)
      refine ⟨(hs[k]).toNat, List.mem_range.mpr (by omega), posOf_at h2 ?_⟩
      rw [List.getElem?_eq_getElem hk, Int.toNat_of_nonneg a]
end
section
open PySem
/-- a table of small numbers in good order -/
structure GoodT (es : List (Int × Value)) (t : SetTable) : Prop where
  vals : ∀ e ∈ es, 0 ≤ e.1 ∧ e.1 ≤ 12
  nodup : (es.map (·.1)).Nodup
  rise : t.place.toList.Pairwise (· < ·)
  size : t.place.size = es.length
  dum : t.dummies = #[]
  plain : t.plain = true
  ph : (t.mask = 7 ∧ es.length ≤ 4) ∨ (t.mask = 31 ∧ t.place.toList = es.map fun e => e.1.toNat)
theorem goodT_new (led : Bool) : GoodT [] (SetTable.fresh 0 0 led) :=
  ⟨(fun _ h => nomatch h), .nil, .nil, rfl, rfl, rfl, .inl ⟨rfl, Nat.zero_le _⟩⟩
theorem small_len {l : List Int} (h : ∀ x ∈ l, 0 ≤ x ∧ x ≤ 12) (hn : l.Nodup) : l.length ≤ 13 := by
  have hsub : l ⊆ (List.range 13).map fun (n : Nat) => (n : Int) := fun x hx => by
    obtain ⟨a, b⟩ := h x hx
    rw [List.mem_map]
    exact ⟨x.toNat, List.mem_range.mpr (by omega), by omega⟩
  have := List.Nodup.length_le_of_subset hn hsub
  rwa [List.length_map, List.length_range] at this
theorem GoodT.len {es : List (Int × Value)} {t : SetTable} (G : GoodT es t) : es.length ≤ 13 := by
  have := small_len (l := es.map (·.1)) (fun x hx => by obtain ⟨e, he, rfl⟩ := List.mem_map.mp hx; exact G.vals e he) G.nodup
  rwa [List.length_map] at this
theorem layNew_eq {t : SetTable} {es : Array (Int × Value)} {h : Int} {x : Value} {f : Nat} (hf : t.freeSlot h = some (f, false)) (hd : t.dummies = #[]) (hz : t.place.size = es.size) (hm : t.place.size + 1 ≤ t.mask) :
    layNew t es h x = (SetTable.insertAt es (SetTable.below t.place f) (h, x), { t with place := SetTable.insertAt t.place (SetTable.below t.place f) f }, false, false) := by
  have e1 : t.put f = ({ t with place := SetTable.insertAt t.place (SetTable.below t.place f) f }, SetTable.below t.place f) := by
    obtain ⟨mask, place, dummies, finger, led, moves, plain⟩ := t
    dsimp only at hd
    subst hd
    rfl
  have z1 : (SetTable.insertAt t.place (SetTable.below t.place f) f).size = t.place.size + 1 := by
    have := (SetTable.insertAt_perm t.place (SetTable.below t.place f) f).length_eq
    simpa using this
  have z2 : (SetTable.insertAt es (SetTable.below t.place f) (h, x)).size = es.size + 1 := by
    have := (SetTable.insertAt_perm es (SetTable.below t.place f) (h, x)).length_eq
    simpa using this
  have e2 : ({ t with place := SetTable.insertAt t.place (SetTable.below t.place f) f } : SetTable).fits (SetTable.insertAt es (SetTable.below t.place f) (h, x)).size = true := by
    unfold SetTable.fits SetTable.fill
    dsimp only
    rw [z1, z2, hd, hz]
    simp only [Array.size_empty, Nat.add_zero, beq_self_eq_true, Bool.true_and, decide_eq_true_eq]
    omega
  unfold layNew
  rw [hf]
  dsimp only
  rw [e1]
  dsimp only
  unfold SetTable.orStandIn
  rw [if_pos e2, e2]; rfl
theorem relay_ok {t : SetTable} {es : Array (Int × Value)} (h1 : ∀ e ∈ es.toList, 0 ≤ e.1 ∧ e.1 ≤ 12) (h2 : (es.toList.map (·.1)).Nodup) (h5 : es.size = 5) (hp : t.plain = true) :
    ∃ es2 t2, relayAll t es (SetTable.grown es.size) = (es2, t2, false) ∧ t2.led = t.led ∧ es2.toList.Perm es.toList ∧ GoodT es2.toList t2 := by
  have hv : ∀ x ∈ es.toList.map (·.1), 0 ≤ x ∧ x ≤ 12 := fun x hx => by obtain ⟨e, he, rfl⟩ := List.mem_map.mp hx; exact h1 e he
  have hl := laid_ok hv h2 t.finger (t.movedTo 31) t.led t.plain
  have ho := order_perm hv h2
  have hlen : (es.toList.map (·.1)).length = 5 := by simp [h5]
  have er : t.relaid (es.map (·.1)) (SetTable.grown es.size) = some ({ mask := 31, place := ((List.range 32).filter fun j => (posOf (es.toList.map (·.1)) j).isSome).toArray, dummies := #[], finger := t.finger, led := t.led, moves := t.movedTo 31, plain := t.plain }, ((List.range 32).filterMap (posOf (es.toList.map (·.1)))).toArray) := by
    rw [h5]
    have e0 : SetTable.sizeAbove (SetTable.grown 5) - 1 = 31 := by decide
    unfold SetTable.relaid
    rw [e0]
    have e1 : es.map (·.1) = (es.toList.map (·.1)).toArray := by
      apply Array.toList_inj.mp; simp
    rw [e1]; exact hl
  have ec : coversAll ((List.range 32).filterMap (posOf (es.toList.map (·.1)))).toArray es.size = true := by
    unfold coversAll
    rw [List.isPerm_iff]
    rw [hlen] at ho
    rw [h5]; exact ho
  have ep : ∀ l : List Nat, ((l.filterMap (posOf (es.toList.map (·.1)))).filterMap (es[·]?)).map (fun e => e.1.toNat) = l.filter fun j => (posOf (es.toList.map (·.1)) j).isSome := by
    intro l
    induction l with
    | nil => rfl
    | cons j r ih =>
      cases e : posOf (es.toList.map (·.1)) j with
      | none => simp [e, ih]
      | some k =>
        have hk := posOf_some e
        rw [List.getElem?_map] at hk
        cases ek : es.toList[k]? with
        | none => rw [ek] at hk; cases hk
        | some en =>
          rw [ek] at hk
          have e3 : en.1 = (j : Int) := by simpa using hk
          have e4 : es[k]? = some en := by rw [← Array.getElem?_toList]; exact ek
          simp [e, e4, e3, ih]
  have epl := ep (List.range 32)
  have hz1 : ((List.range 32).filter fun j => (posOf (es.toList.map (·.1)) j).isSome).length = 5 := by
    have e1 : ((List.range 32).filterMap (posOf (es.toList.map (·.1)))).length = 5 := by rw [ho.length_eq, List.length_range, hlen]
    have e2 : ∀ l : List Nat, (l.filter fun j => (posOf (es.toList.map (·.1)) j).isSome).length = (l.filterMap (posOf (es.toList.map (·.1)))).length := by
      intro l
      induction l with
      | nil => rfl
      | cons j r ih => cases e : posOf (es.toList.map (·.1)) j <;> simp [e, ih]
    rw [e2, e1]
  have hz2 : ((List.range 32).filterMap (posOf (es.toList.map (·.1)))).toArray.filterMap (es[·]?) = (((List.range 32).filterMap (posOf (es.toList.map (·.1)))).filterMap (es[·]?)).toArray := by
    apply Array.toList_inj.mp; simp
  have hz3 : (((List.range 32).filterMap (posOf (es.toList.map (·.1)))).filterMap (es[·]?)).length = 5 := by
    rw [← List.length_map (f := fun e : Int × Value => e.1.toNat), epl, hz1]
  have hpm := relayAll_perm t es (SetTable.grown es.size)
  have key : relayAll t es (SetTable.grown es.size) = ((((List.range 32).filterMap (posOf (es.toList.map (·.1)))).filterMap (es[·]?)).toArray, { mask := 31, place := ((List.range 32).filter fun j => (posOf (es.toList.map (·.1)) j).isSome).toArray, dummies := #[], finger := t.finger, led := t.led, moves := t.movedTo 31, plain := t.plain }, false) := by
    unfold relayAll
    rw [er]
    dsimp only
    rw [hz2, if_pos]
    rw [ec]
    unfold SetTable.fits SetTable.fill
    simp [hz1, hz3]
  rw [key] at hpm
  refine ⟨_, _, key, rfl, hpm, ?_⟩
  refine ⟨fun e he => h1 e (hpm.mem_iff.mp he), (hpm.map _).nodup_iff.mpr h2, ?_, ?_, rfl, hp, .inr ⟨rfl, ?_⟩⟩
  · exact List.Pairwise.sublist List.filter_sublist List.pairwise_lt_range
  · simp only [List.size_toArray, hz1, hz3]
  · exact epl.symm
theorem addT {es : Array (Int × Value)} {t : SetTable} (G : GoodT es.toList t) {h : Int} (x : Value) (h0 : 0 ≤ h) (h1 : h ≤ 12) (hn : h ∉ es.toList.map (·.1)) :
    ∃ es1 t1, layNew t es h x = (es1, t1, false, false) ∧ t1.led = t.led ∧ t1.plain = true ∧ es1.toList.Perm (es.toList ++ [(h, x)]) ∧
      ((t1.tooFull = false ∧ GoodT es1.toList t1) ∨ (t1.tooFull = true ∧ ∃ es2 t2, relayAll t1 es1 (SetTable.grown es1.size) = (es2, t2, false) ∧ t2.led = t.led ∧ es2.toList.Perm es1.toList ∧ GoodT es2.toList t2)) := by
  have hz : t.place.size = es.size := by rw [G.size]; simp
  have hlen : es.size ≤ 13 := by have := G.len; simpa using this
  have go : ∀ f, t.freeSlot h = some (f, false) → f ∉ t.place.toList → t.place.size + 1 ≤ t.mask → ∃ es1 t1, es1 = SetTable.insertAt es (SetTable.below t.place f) (h, x) ∧ t1 = { t with place := SetTable.insertAt t.place (SetTable.below t.place f) f } ∧ layNew t es h x = (es1, t1, false, false) ∧ es1.toList.Perm (es.toList ++ [(h, x)]) ∧
      (∀ e ∈ es1.toList, 0 ≤ e.1 ∧ e.1 ≤ 12) ∧ (es1.toList.map (·.1)).Nodup ∧ t1.place.toList.Pairwise (· < ·) ∧ t1.place.size = es.size + 1 ∧ es1.size = es.size + 1 := by
    intro f hf hfn hm
    have hp : (SetTable.insertAt es (SetTable.below t.place f) (h, x)).toList.Perm (es.toList ++ [(h, x)]) := by simpa using SetTable.insertAt_perm es (SetTable.below t.place f) (h, x)
    refine ⟨_, _, rfl, rfl, layNew_eq hf G.dum hz hm, hp, fun e he => ?_, ?_, insert_sorted G.rise hfn, ?_, ?_⟩
    · rcases List.mem_append.mp (hp.mem_iff.mp he) with he | he
      · exact G.vals e he
      · rw [List.mem_singleton.mp he]; exact ⟨h0, h1⟩
    · refine (hp.map _).nodup_iff.mpr ?_
      rw [List.map_append, List.nodup_append]
      refine ⟨G.nodup, by simp, fun a ha b hb => ?_⟩
      simp only [List.map_cons, List.map_nil, List.mem_singleton] at hb
      subst hb
      exact fun e => hn (e ▸ ha)
    · have := (SetTable.insertAt_perm t.place (SetTable.below t.place f) f).length_eq
      simp only [Array.length_toList, Array.size_push] at this
      dsimp only
      omega
    · have := hp.length_eq
      simpa using this
  rcases G.ph with ⟨hm, h4⟩ | ⟨hm, hpl⟩
  · have h4' : es.size ≤ 4 := by simpa using h4
    obtain ⟨f, hf, hfn, -⟩ := freeSlot7 hm G.dum G.rise (by omega) h0 h1
    obtain ⟨es1, t1, -, rfl, e1, e2, e3, e4, e5, e6, e7⟩ := go f hf hfn (by omega)
    refine ⟨es1, _, e1, rfl, G.plain, e2, ?_⟩
    dsimp only at e5 e6
    by_cases hc : es.size = 4
    · refine .inr ⟨?_, relay_ok e3 e4 (by omega) G.plain⟩
      unfold SetTable.tooFull SetTable.fill
      dsimp only
      rw [e6, hm, G.dum, hc]; rfl
    · refine .inl ⟨?_, e3, e4, e5, by dsimp only; rw [e6]; simp [e7], G.dum, G.plain, .inl ⟨hm, by simp [e7]; omega⟩⟩
      unfold SetTable.tooFull SetTable.fill
      dsimp only
      rw [e6, hm, G.dum]
      simp only [Array.size_empty, Nat.add_zero, decide_eq_false_iff_not]
      omega
  · have hfn : h.toNat ∉ t.place.toList := by
      rw [hpl, List.mem_map]
      rintro ⟨e, he, e1⟩
      have := G.vals e he
      have e2 : e.1 = h := by omega
      exact hn (List.mem_map.mpr ⟨e, he, e2⟩)
    obtain ⟨es1, t1, rfl, rfl, e1, e2, e3, e4, e5, e6, e7⟩ := go h.toNat (freeSlot31 hm G.dum h0 h1 hfn) hfn (by omega)
    refine ⟨_, _, e1, rfl, G.plain, e2, .inl ⟨?_, e3, e4, e5, by dsimp only at e6 ⊢; rw [e6]; simp [e7], G.dum, G.plain, .inr ⟨hm, ?_⟩⟩⟩
    · unfold SetTable.tooFull SetTable.fill
      dsimp only at e6 ⊢
      rw [e6, hm, G.dum]
      simp only [Array.size_empty, Nat.add_zero, decide_eq_false_iff_not]
      have := small_len (fun x hx => by obtain ⟨e, he, rfl⟩ := List.mem_map.mp hx; exact e3 e he) e4
      rw [List.length_map, Array.length_toList, e7] at this
      omega
    · dsimp only
      rw [SetTable.toList_insertAt, SetTable.toList_insertAt, hpl]
      simp [List.map_take, List.map_drop]
end
section
theorem hashInt_small {k : Int} (h0 : 0 ≤ k) (h1 : k ≤ 12) : hashInt k = k := by
  have : ∀ n : Nat, n < 13 → hashInt (n : Int) = (n : Int) := by decide +kernel
  have h := this k.toNat (by omega)
  rwa [Int.toNat_of_nonneg h0] at h
/-- a set of small numbers, as an object -/
noncomputable def SetIs (w : World) (o : Obj) (S : Int → Prop) : Prop :=
  ∃ es ep t, o = { cls := .type "set", dict := none, data := .set es ep t, slots := #[] } ∧ GoodT es.toList t ∧ t.led = (!(w.params.followText "set-order")) ∧ (∀ e ∈ es.toList, ∃ u, e.2 = .int e.1 u) ∧ ∀ z, S z ↔ ∃ e ∈ es.toList, e.1 = z
theorem GoodT.fits {es : Array (Int × Value)} {t : SetTable} (G : GoodT es.toList t) : t.fits es.size = true := by
  unfold SetTable.fits SetTable.fill
  have h1 := G.size
  have h2 := G.len
  rw [Array.length_toList] at h1 h2
  rw [G.dum, h1]
  rcases G.ph with ⟨hm, h4⟩ | ⟨hm, -⟩
  · rw [Array.length_toList] at h4
    simp [hm]; omega
  · simp [hm]; omega
theorem GoodT.bound {es : Array (Int × Value)} {t : SetTable} (G : GoodT es.toList t) : es.size < scanBound := by
  have h2 := G.len
  rw [Array.length_toList] at h2
  unfold scanBound; omega
section
variable {prog : Program} {w : World} {A : Around} {E : Value → Shared → Prop} {s : Shared}
theorem elems_ok {es : List (Int × Value)} {t : SetTable} (G : GoodT es t) (hi : ∀ e ∈ es, ∃ u, e.2 = .int e.1 u) : ElemsOf (intKind prog w) es := fun e he => by
  obtain ⟨u, hu⟩ := hi e he
  obtain ⟨h0, h1⟩ := G.vals e he
  refine ⟨⟨e.1, ?_, (hashInt_small h0 h1).symm⟩, ?_⟩
  · rw [hu]; simp [intKind, Value.isInt]
  · rw [hu]; rfl
theorem add_good {a : Addr} {o : Obj} {S : Int → Prop} {k : Int} {tk : Tok} {Q : Bool → Shared → Prop} (ho : s.heap.get? a = some o) (hS : SetIs w o S) (h0 : 0 ≤ k) (h1 : k ≤ 12)
    (h : ∀ b h' o', Heap.SameBut a s.heap h' → h'.get? a = some o' → SetIs w o' (fun z => S z ∨ z = k) → Q b { s with heap := h' }) :
    wpAny (model prog w) A (setAddHashed a (.int k tk) (hashInt k)) Q E s := by
  obtain ⟨es, ep, t, rfl, G, hl, hi, hm⟩ := hS
  have hel := elems_ok (prog := prog) (w := w) G hi
  have hf := G.fits
  have hkey : (intKind prog w).is k (.int k tk) = true := by simp [intKind, Value.isInt]
  unfold setAddHashed setAddHashedIn
  refine wpAny_holding (wpAny_bind (wpAny_setState_of ho rfl hf ?_))
  dsimp only
  rw [byScan_of (knd := intKind prog w) rfl G.bound hel]
  simp only [↓reduceIte]
  unfold setAddByScan
  refine wpAny_bind ?_
  refine wpAny_bind (wpAny_rule ?_)
  refine wpAny_bind (wpAny_setScan_of (knd := intKind prog w) (k := k) hkey ho rfl hf hel ?_)
  cases hr : List.findIdx? (fun e => (intKind prog w).is k e.2) es.toList with
  | some j =>
    dsimp only
    obtain ⟨hj, hpj, _⟩ := List.findIdx?_eq_some_iff_getElem.mp hr
    refine wpAny_pure (wpAny_pure ?_)
    have e : s = { s with heap := s.heap } := by cases s; rfl
    have hmem : es.toList[j] ∈ es.toList := List.getElem_mem hj
    have hk : es.toList[j].1 = k := by
      obtain ⟨u, hu⟩ := hi _ hmem
      rw [hu] at hpj
      simpa [intKind, Value.isInt] using hpj
    rw [e]
    refine h _ s.heap _ (Heap.SameBut.refl a s.heap) ho ⟨es, ep, t, rfl, G, hl, hi, fun z => ?_⟩
    show (S z ∨ z = k) ↔ _
    rw [hm]
    exact ⟨fun h => h.elim id fun e => ⟨_, hmem, by rw [hk, e]⟩, .inl⟩
  | none =>
    dsimp only
    have hn : k ∉ es.toList.map (·.1) := fun hmem => by
      obtain ⟨e, he, hk⟩ := List.mem_map.mp hmem
      obtain ⟨u, hu⟩ := hi e he
      have h2 := List.findIdx?_eq_none_iff.mp hr e he
      rw [hu, ← hk] at h2
      simp [intKind, Value.isInt] at h2
    obtain ⟨es1, t1, el, hl1, hp1, hperm, hcase⟩ := addT G (.int k tk) h0 h1 hn
    have hi1 : ∀ e ∈ es1.toList, ∃ u, e.2 = .int e.1 u := fun e he => by
      rcases List.mem_append.mp (hperm.mem_iff.mp he) with he | he
      · exact hi e he
      · rw [List.mem_singleton.mp he]; exact ⟨tk, rfl⟩
    have hm1 : ∀ z, (S z ∨ z = k) ↔ ∃ e ∈ es1.toList, e.1 = z := fun z => by
      rw [hm]
      constructor
      · rintro (⟨e, he, rfl⟩ | rfl)
        · exact ⟨e, hperm.mem_iff.mpr (List.mem_append_left _ he), rfl⟩
        · exact ⟨_, hperm.mem_iff.mpr (List.mem_append_right _ (List.mem_singleton.mpr rfl)), rfl⟩
      · rintro ⟨e, he, rfl⟩
        rcases List.mem_append.mp (hperm.mem_iff.mp he) with he | he
        · exact .inl ⟨e, he, rfl⟩
        · rw [List.mem_singleton.mp he]; exact .inr rfl
    rw [hashInt_small h0 h1, el]
    dsimp only
    have hz1 : es1.size ≤ 14 := by
      have e1 := hperm.length_eq
      have e2 := G.len
      simp only [List.length_append, List.length_cons, List.length_nil, Array.length_toList] at e1 e2
      omega
    refine wpAny_bind (wpAny_pure ?_)
    rw [hp1]
    simp only [↓reduceIte]
    rw [hashByValue_scannable 8 (show (Value.int k tk).scannable = true from rfl)]
    refine wpAny_bind (wpAny_pure ?_)
    rw [show (plainKind (Value.int k tk)) = true from rfl]
    simp only [↓reduceIte]
    refine wpAny_bind (wpAny_storeSet_of ho rfl ?_ (by rw [sizeLine_eq]; omega))
    have ho1 : (s.heap.update a (Obj.putSet es1 t1)).get? a = some { cls := .type "set", dict := none, data := .set es1 (ep + 1) t1, slots := #[] } := Heap.get?_update_self (Obj.putSet es1 t1) ho rfl
    have hsb1 := Heap.SameBut.update s.heap a (Obj.putSet es1 t1)
    rcases hcase with ⟨hnf, G1⟩ | ⟨hft, es2, t2, er, hl2, hp2, G2⟩
    · rw [hnf]
      simp only [Bool.not_false, Bool.and_false, Bool.false_eq_true, ↓reduceIte]
      exact wpAny_pure (wpAny_pure (h _ _ _ hsb1 ho1 ⟨es1, ep + 1, t1, rfl, G1, hl1.trans hl, hi1, hm1⟩))
    · rw [hft]
      simp only [Bool.not_false, Bool.and_self, ↓reduceIte]
      rw [er]
      dsimp only
      refine wpAny_bind (wpAny_pure ?_)
      have hz2 : es2.size ≤ 14 := by
        have e1 := hp2.length_eq
        simp only [Array.length_toList] at e1
        omega
      refine wpAny_bind (wpAny_storeSet_of ho1 rfl ?_ (by rw [sizeLine_eq]; omega))
      have ho2 : ((s.heap.update a (Obj.putSet es1 t1)).update a (Obj.putSet es2 t2)).get? a = some { cls := .type "set", dict := none, data := .set es2 (ep + 1 + 1) t2, slots := #[] } := Heap.get?_update_self (Obj.putSet es2 t2) ho1 rfl
      refine wpAny_pure (wpAny_pure (h _ _ _ (hsb1.trans (Heap.SameBut.update _ a _)) ho2 ⟨es2, ep + 1 + 1, t2, rfl, G2, hl2.trans hl, fun e he => hi1 e (hp2.mem_iff.mp he), fun z => ?_⟩))
      show (S z ∨ z = k) ↔ _
      rw [hm1]
      exact ⟨fun ⟨e, he, q⟩ => ⟨e, hp2.mem_iff.mpr he, q⟩, fun ⟨e, he, q⟩ => ⟨e, hp2.mem_iff.mp he, q⟩⟩
theorem setIs_congr {o : Obj} {S S' : Int → Prop} (h : SetIs w o S) (e : ∀ z, S z ↔ S' z) : SetIs w o S' :=
  let ⟨es, ep, t, h1, h2, h3, h4, h5⟩ := h
  ⟨es, ep, t, h1, h2, h3, h4, fun z => (e z).symm.trans (h5 z)⟩
theorem update_loop {A : Around} {R : Result → Shared → Prop} {I : Addr} {fp wr : List Addr} {G : Array GenState → Array GenState → Prop} {n : Nat} {P : Nat → Value → Prop} {St : Nat → Shared → Prop}
    (W : WalksS prog w A.in1 I fp wr G n P St) (a : Addr) (haf : a ∉ fp) {ns : List Int} (hval : ∀ i v, P i v → ∃ t, v = .int (ns.getD i 0) t) (hn : n = ns.length) (hs : ∀ x ∈ ns, 0 ≤ x ∧ x ≤ 12) :
    ∀ (k i : Nat) (s : Shared), n - i = k → i ≤ n → St i s → (∃ o, s.heap.get? a = some o ∧ SetIs w o (· ∈ ns.take i)) →
      (∀ s', Moved (a :: wr) G s s' → (∃ o, s'.heap.get? a = some o ∧ SetIs w o (· ∈ ns)) → R (.ok (.ret .none)) s') →
      codeAny (model prog w) A (.builtin "set.update.loop" ⟨[.ref a, .ref I], []⟩) R s := by
  have hSw : a ∉ wr := fun h => haf (W.sub _ h)
  have hsub : ∀ b ∈ wr, b ∈ a :: wr := fun b hb => List.mem_cons_of_mem _ hb
  intro k
  induction k with
  | zero =>
    intro i s hk hi hst hS hR
    have hin : i = n := by omega
    subst hin
    refine codeAny_builtin F.entry_set_update_loop ?_
    rw [Around.under_plainId F.plain_set_update_loop _]
    show wpAny _ A.in1 (pyNext (.ref I) >>= _) _ _ s
    refine wpAny_bind (W.done s _ _ hst fun s' hm => ?_)
    show wpAny _ A.in1 (ret Value.none) _ _ s'
    obtain ⟨o, ho, hso⟩ := hS
    refine wpAny_pure (hR s' (hm.mono hsub) ⟨o, hm.heap a _ hSw ho, ?_⟩)
    rw [hn, List.take_length] at hso
    exact hso
  | succ k ih =>
    intro i s hk hi hst hS hR
    have hlt : i < n := by omega
    refine codeAny_builtin F.entry_set_update_loop ?_
    rw [Around.under_plainId F.plain_set_update_loop _]
    show wpAny _ A.in1 (pyNext (.ref I) >>= _) _ _ s
    refine wpAny_bind (W.item i s _ _ hlt hst fun v s' hP hst' hm => ?_)
    obtain ⟨t, rfl⟩ := hval i v hP
    obtain ⟨o, ho, hso⟩ := hS
    have ho' := hm.heap a _ hSw ho
    have hlt' : i < ns.length := by omega
    have hg : ns.getD i 0 = ns[i] := by rw [List.getD_eq_getElem?_getD, List.getElem?_eq_getElem hlt']; rfl
    obtain ⟨b0, b1⟩ := hs (ns.getD i 0) (by rw [hg]; exact List.getElem_mem hlt')
    show wpAny _ A.in1 (holding [Value.int (ns.getD i 0) t] (setAdd a (.int (ns.getD i 0) t)) >>= _) _ _ s'
    refine wpAny_bind (wpAny_holding ?_)
    unfold setAdd
    refine wpAny_holding ?_
    refine wpAny_bind ((intKind prog w).pyHash (k := ns.getD i 0) (intKind_is _ _ _ _) ?_)
    refine add_good (s := { s' with toks := s'.toks + 1 }) ho' hso b0 b1 fun b h' o' hsb ho2 hs2 => ?_
    have hs3 : SetIs w o' (· ∈ ns.take (i + 1)) := setIs_congr hs2 fun z => by
      show (z ∈ ns.take i ∨ z = ns.getD i 0) ↔ z ∈ ns.take (i + 1)
      rw [List.take_add_one, List.getElem?_eq_getElem hlt', hg]
      simp only [Option.toList_some, List.mem_append, List.mem_singleton]
    refine wpAny_pure ⟨plainId_quiet F.plain_set_update_loop _, ih (i + 1) _ (by omega) hlt (W.frame _ s' _ _ hst' (Nat.le_succ _) fun b hb o e => ?_) ⟨o', ho2, hs3⟩ fun s'' hm'' hS'' => ?_⟩
    · rw [hsb.2 b (fun h : b = a => haf (by rw [← h]; exact hb))]; exact e
    · refine hR s'' (Moved.trans W.gtrans ((hm.mono hsub).then_heap (Nat.le_succ _) fun b o hb e => ?_) hm'') hS''
      rw [hsb.2 b (fun h : b = a => hb (by rw [h]; exact List.mem_cons_self))]; exact e
theorem code_set_new (a : Value) {Q₁ : Value → Shared → Prop}
    (h : Q₁ (.ref s.heap.objs.size) { s with heap := s.heap.push { cls := .type "set", dict := none, data := .set #[] 0 (.fresh 0 0 (!(w.params.followText "set-order"))) } }) :
    codeAny (model prog w) A (.call (.builtin "set.__new__") ⟨[.type "set", a], []⟩) (wants Q₁ E) s := by
  refine codeAny_of_tree ?_
  show wpAny _ A.in1 (do checkBuiltinCall "set.__new__" ⟨[.type "set", a], []⟩; again (.builtin "set.__new__" ⟨[.type "set", a], []⟩)) _ _ s
  refine wpAny_bind (wpAny_of_eq (F.newCall_set_1 a) (wpAny_pure ⟨plainId_quiet F.plain_set_new _, codeAny_builtin F.entry_set_new ?_⟩))
  rw [Around.under_plainId F.plain_set_new _]
  unfold Builtin.«set.__new__» Builtin.Frozenset.newClass
  have hsub := sub_set_self
  obtain ⟨hp, g, d, tk, os⟩ := s
  dsimp only
  wp_walk
  refine wpAny_askSetting (wpAny_pure ?_)
  dsimp only
  simp only [newObj]
  refine wpAny_bind (wpAny_alloc (wpAny_pure ?_))
  exact wpAny_pure h
set_option maxHeartbeats 3200000 in
theorem call_set_ints {l : Addr} {items : Array Value} {ns : List Int} {Q : Value → Shared → Prop}
    (hh : A.handled = none) (hl : s.heap.IsList l items) (hi : PyProof.Rows.IntsAre items.toList ns) (hs : ∀ x ∈ ns, 0 ≤ x ∧ x ≤ 12)
    (h : ∀ (h' : Heap) (tk : Nat) o, h'.get? s.heap.objs.size = some o → SetIs w o (· ∈ ns) →
      (∀ b o, b < s.heap.objs.size → s.heap.get? b = some o → h'.get? b = some o) → Q (.ref s.heap.objs.size) { s with heap := h', toks := tk }) :
    wpAny (model prog w) A (call (.type "set") [.ref l]) Q E s := by
  obtain ⟨c, tl, hmro⟩ := F.called_set.mro
  have hmade := F.called_set.made
  have hsub := F.called_set.sub
  refine wpAny_call (codeAny_of_tree ?_)
  show wpAny _ _ (callAny (.type "set") _) _ _ _
  refine wpAny_pure ⟨Code.quiet_builtin _ (by decide +kernel), codeAny_builtin F.entry_type_call ?_⟩
  rw [Around.under_plain (weight_type_call_type "set" [.ref l] []) rfl]
  have h1 := F.called_set.notType
  have h2 := F.called_set.canCreate
  have hct := F.typeCall_set_1 (.ref l)
  repeat (any_goals (first | assumption | wp_step))
  refine codeAny_mono (code_set_new (.ref l) (E := E) (Q₁ := fun obj s₁ => obj = .ref s.heap.objs.size ∧ s₁ = { s with heap := s.heap.push { cls := .type "set", dict := none, data := .set #[] 0 (.fresh 0 0 (!(w.params.followText "set-order"))) } }) ⟨rfl, rfl⟩) fun r s₁ hr => ?_
  cases r with
  | error e => exact hr
  | ok fl =>
    cases fl with
    | ret obj =>
      obtain ⟨rfl, rfl⟩ := hr
      generalize hled : (!(w.params.followText "set-order")) = led at *
      have hS : (s.heap.push { cls := .type "set", dict := none, data := .set #[] 0 (.fresh 0 0 led) }).get? s.heap.objs.size = some { cls := .type "set", dict := none, data := .set #[] 0 (.fresh 0 0 led) } := Heap.get?_push_size _ rfl
      have hT : Shared.TypeIs { s with heap := s.heap.push { cls := .type "set", dict := none, data := .set #[] 0 (.fresh 0 0 led) } } (.ref s.heap.objs.size) "set" := ⟨_, hS, rfl⟩
      have hli := F.called_set.init.lookup
      have hbi := F.called_set.init.bind (.ref s.heap.objs.size)
      repeat (any_goals (first | assumption | wp_step))
      refine codeAny_mono (codeAny_call_builtin (R := wants (fun r s₂ => r = .none ∧ ∃ h' tk, s₂ = { s with heap := h', toks := tk } ∧
          (∃ o, h'.get? s.heap.objs.size = some o ∧ SetIs w o (· ∈ ns)) ∧
          (∀ b o, b < s.heap.objs.size → s.heap.get? b = some o → h'.get? b = some o)) E) F.called_set.init.plain F.entry_set_init (check_set_init_1 hT ?_)) fun r₂ s₂ hr₂ => ?_
      · obtain ⟨ol, hol, hcl, nl, hdl⟩ := hl
        obtain ⟨ocls, odict, odata, oslots⟩ := ol
        simp only at hcl hdl
        subst hcl; subst hdl
        have hol' : (s.heap.push { cls := .type "set", dict := none, data := .set #[] 0 (.fresh 0 0 led) }).get? l = some { cls := .type "list", dict := odict, data := .seq items nl, slots := oslots } := Heap.get?_push_of_some _ hol
        have hsls := F.sub_list_set
        have hslf := F.sub_list_frozenset
        have hne : (Value.type "list" == Value.type "dict") = false := by decide
        have hl1 : (s.heap.push { cls := .type "set", dict := none, data := .set #[] 0 (.fresh 0 0 led) }).IsList l items := ⟨_, hol', rfl, nl, rfl⟩
        unfold Builtin.«set.__init__» noKeywords Builtin.Frozenset.updateFrom
        generalize hPI : pyIter = PI
        wp_walk
        subst hPI
        refine wpAny_pyIter_list hl1 ?_
        refine wpAny_bind (wpAny_runValue ?_)
        have hlS : l < s.heap.objs.size := Heap.lt_size hol
        have hh3 : A.in1.in1.in1.handled = none := by simp [hh]
        have hneI : l ≠ (s.heap.push { cls := .type "set", dict := none, data := .set #[] 0 (.fresh 0 0 led) }).objs.size := by
          rw [Heap.size_push]; exact Nat.ne_of_lt (Nat.lt_succ_of_lt hlS)
        have hSf : s.heap.objs.size ∉ [(s.heap.push { cls := .type "set", dict := none, data := .set #[] 0 (.fresh 0 0 led) }).objs.size, l] := by
          rw [Heap.size_push]; simp only [List.mem_cons, List.mem_singleton, List.not_mem_nil, or_false, not_or]
          exact ⟨Nat.ne_of_lt (Nat.lt_succ_self _), Nat.ne_of_gt hlS⟩
        have hval : ∀ (i : Nat) (v : Value), items[i]? = some v → ∃ t, v = .int (ns.getD i 0) t := fun i v hv =>
          PyProof.Rows.IntsAre.int_at hi i v (by rw [Array.getElem?_toList]; exact hv)
        have hlen : items.size = ns.length := by rw [← IntsAre.length hi, Array.length_toList]
        refine update_loop ((Walks.list hh3 _ l hneI items).toS) s.heap.objs.size hSf hval hlen hs (items.size - 0) 0 _ (by omega) (Nat.zero_le _)
          ⟨⟨_, Heap.get?_push_size _ rfl, rfl, rfl⟩, (hl1.push _)⟩ ?hS0 ?hR
        case hS0 =>
          have hget : ((s.heap.push { cls := .type "set", dict := none, data := .set #[] 0 (.fresh 0 0 led) }).push { cls := .type "list_iterator", data := .fields #[.ref l, .int 0 0] }).get? s.heap.objs.size
              = some { cls := .type "set", dict := none, data := .set #[] 0 (.fresh 0 0 led) } := Heap.get?_push_of_some _ hS
          exact ⟨_, hget, #[], 0, _, rfl, goodT_new led, hled.symm, (fun _ h => nomatch h), fun z => ⟨(fun h => (by simp at h)), fun ⟨_, h, _⟩ => nomatch h⟩⟩
        case hR =>
          intro s' hm hS'
          obtain ⟨h', g', d', tk', os'⟩ := s'
          have eg : g' = s.gens := hm.gens
          have ed : d' = s.drawn := hm.drawn
          have eo : os' = s.os := hm.os
          subst eg; subst ed; subst eo
          show wpAny _ _ _ _ _ _
          refine wpAny_pure ?_
          show wpAny _ _ (ret Value.none) _ _ _
          refine wpAny_pure ⟨rfl, h', tk', rfl, hS', fun b o hb e => ?_⟩
          have hb1 : b ≠ s.heap.objs.size := Nat.ne_of_lt hb
          have hb2 : b ≠ (s.heap.push { cls := .type "set", dict := none, data := .set #[] 0 (.fresh 0 0 led) }).objs.size := by
            rw [Heap.size_push]; exact Nat.ne_of_lt (Nat.lt_succ_of_lt hb)
          exact hm.heap b o (by simp only [List.mem_cons, List.mem_singleton, List.not_mem_nil, or_false, not_or]; exact ⟨hb1, hb2⟩) (Heap.get?_push_of_some _ (Heap.get?_push_of_some _ e))
      · cases r₂ with
        | error e => exact hr₂
        | ok fl₂ =>
          cases fl₂ with
          | ret r =>
            obtain ⟨rfl, h', tk, rfl, ⟨o, ho, hS'⟩, hk'⟩ := hr₂
            repeat (any_goals (first | assumption | wp_step))
            exact h _ _ _ ho hS' hk'
          | _ => exact hr₂.elim
    | _ => exact hr.elim
noncomputable def SetG (w : World) (o : Obj) (ns : List Int) : Prop := SetIs w o (· ∈ ns)
theorem set_new_K {h₀ : Heap} {L : Addr} {m : Str → Option Value} {news : List (Addr × Obj)} {Q : Value → Shared → Prop} {l : Addr} {vs : List Value} {ns : List Int} (F : Fr h₀ L s.heap m) (N : News h₀ L s.heap news) (hh : A.handled = none) (hl : s.heap.IsList l vs.toArray) (hi : IntsAre vs ns) (hs : ∀ x ∈ ns, 0 ≤ x ∧ x ≤ 12)
    (h : ∀ S h' tk o, Fr h₀ L h' m → News h₀ L h' ((S, o) :: news) → (∀ p ∈ news, p.1 < S) → SetG w o ns → Q (.ref S) { s with heap := h', toks := tk }) :
    wpAny (model prog w) A (call (.type "set") [.ref l]) Q E s := by
  refine call_set_ints hh hl (by simpa using hi) hs fun h' tk o ho hS hk => ?_
  obtain ⟨oL, _, _, hL, _⟩ := F.ns
  have hLlt : L < s.heap.objs.size := Heap.lt_size hL
  refine h _ h' tk o ⟨F.ns.at' fun o' e => hk L o' hLlt e, fun b o' e => hk b o' (Heap.lt_size (F.keep b o' e)) (F.keep b o' e), F.above⟩ (fun p hp => ?_) (fun p hp => Heap.lt_size (N p hp).1) hS
  rcases List.mem_cons.mp hp with rfl | hp
  · refine ⟨ho, Nat.ne_of_gt hLlt, ?_⟩
    cases hq : h₀.get? s.heap.objs.size with
    | none => rfl
    | some o' => exact absurd (Heap.lt_size (F.keep _ _ hq)) (Nat.lt_irrefl _)
  · exact ⟨hk _ _ (Heap.lt_size (N p hp).1) (N p hp).1, (N p hp).2.1, (N p hp).2.2⟩
end
end
section
theorem erase_perm {α : Type} : ∀ (l : List α) (i : Nat) (h : i < l.length), ([l[i]] ++ l.eraseIdx i).Perm l
  | x :: l, 0, _ => .refl _
  | x :: l, i + 1, h => by
    have ih := erase_perm l i (by simpa using h)
    simp only [List.getElem_cons_succ, List.eraseIdx_cons_succ, List.cons_append, List.nil_append] at ih ⊢
    exact (List.Perm.swap _ _ _).trans (ih.cons x)
theorem pick_perm {α : Type} (next : Nat → Nat) : ∀ (left : List α) (fuel k : Nat) (out : Array α), fuel = left.length → (pickOrder.go next fuel k left out).toList.Perm (out.toList ++ left)
  | left, 0, k, out, h => by
    have : left = [] := List.eq_nil_of_length_eq_zero h.symm
    subst this
    simp [pickOrder.go]
  | left, fuel + 1, k, out, h => by
    unfold pickOrder.go
    have hlt : next k % left.length < left.length := Nat.mod_lt _ (by omega)
    rw [List.getElem?_eq_getElem hlt]
    dsimp only
    have hl : fuel = (left.eraseIdx (next k % left.length)).length := by rw [List.length_eraseIdx, if_pos hlt]; omega
    refine (pick_perm next (left.eraseIdx (next k % left.length)) fuel (k + 1) (out.push (left[next k % left.length])) hl).trans ?_
    rw [Array.toList_push, List.append_assoc]
    refine List.Perm.append_left _ ?_
    exact erase_perm left _ hlt
theorem pickOrder_perm {α : Type} (next : Nat → Nat) (xs : Array α) : (pickOrder next xs).toList.Perm xs.toList := by
  unfold pickOrder
  simpa using pick_perm next xs.toList xs.size 0 #[] (by simp)
theorem slot_it_next : Slot "set_iterator" "__next__" "set_iterator.__next__" :=
  .of (owner := "set_iterator") (n := "__next__") (by rw [typeLookup_type, builtinLookup_eq_fast]; kernel_rfl) (by decide +kernel) (by decide +kernel) (by decide +kernel)
    (by first | exact .inl (by decide +kernel) | exact .inr (by decide +kernel)) (by rw [isSubtype_type]; kernel_rfl)
theorem slot_it_iter : Slot "set_iterator" "__iter__" "set_iterator.__iter__" :=
  .of (owner := "set_iterator") (n := "__iter__") (by rw [typeLookup_type, builtinLookup_eq_fast]; kernel_rfl) (by decide +kernel) (by decide +kernel) (by decide +kernel)
    (by first | exact .inl (by decide +kernel) | exact .inr (by decide +kernel)) (by rw [isSubtype_type]; kernel_rfl)
theorem entry_it_next : entryFor table "set_iterator.__next__" = some Builtin.«set_iterator.__next__» := entryFor_of_tree (by kernel_rfl)
theorem entry_it_iter : entryFor table "set_iterator.__iter__" = some Builtin.«dict_keyiterator.__iter__» := entryFor_alias (id' := "dict_keyiterator.__iter__") (by kernel_rfl) rfl (by decide +kernel) (by kernel_rfl)
theorem entry_set_iter : entryFor table "set.__iter__" = some Builtin.«frozenset.__iter__» := entryFor_alias (id' := "frozenset.__iter__") (by kernel_rfl) rfl (by decide +kernel) (by kernel_rfl)
theorem owner_it : Manifest.owners.lookup (String.ofList ['r', 'o', 't', 'a', 'r', 'e', 't', 'i', '_', 't', 'e', 's'].reverse) = some Manifest.sig_set_iterator := by kernel_rfl
theorem args_it_next (a : Value) : argsOk "set_iterator.__next__" ⟨[a], []⟩ := by
  unfold argsOk; rw [signature?_of (id := "set_iterator.__next__") (n := ['_', '_', 't', 'x', 'e', 'n', '_', '_']) (o := ['r', 'o', 't', 'a', 'r', 'e', 't', 'i', '_', 't', 'e', 's']) (by kernel_rfl) owner_it]; kernel_rfl
theorem args_it_iter (a : Value) : argsOk "set_iterator.__iter__" ⟨[a], []⟩ := by
  unfold argsOk; rw [signature?_of (id := "set_iterator.__iter__") (n := ['_', '_', 'r', 'e', 't', 'i', '_', '_']) (o := ['r', 'o', 't', 'a', 'r', 'e', 't', 'i', '_', 't', 'e', 's']) (by kernel_rfl) owner_it]; kernel_rfl
/-- where the walk over a table stands -/
noncomputable def slotAt (place : Array Nat) : Nat → Nat
  | 0 => 0
  | i + 1 => place.getD i 0 + 1
theorem below_slot {place : Array Nat} (hs : place.toList.Pairwise (· < ·)) {i : Nat} (hi : i ≤ place.size) : SetTable.below place (slotAt place i) = i := by
  have mono : ∀ a b (ha : a < place.size) (hb : b < place.size), a < b → place[a] < place[b] := fun a b ha hb hab => by
    have := List.pairwise_iff_getElem.mp hs a b (by simpa using ha) (by simpa using hb) hab
    simpa using this
  refine below_at hs hi (fun k hk hki => ?_) (fun k hk hik => ?_)
  · cases i with
    | zero => exact absurd hki (Nat.not_lt_zero _)
    | succ i =>
      have hi' : i < place.size := hi
      have e : place.getD i 0 = place[i] := by simp [Array.getD, hi']
      show place[k] < place.getD i 0 + 1
      rw [e]
      rcases Nat.lt_or_eq_of_le (Nat.le_of_lt_succ hki) with h | rfl
      · have := mono k i hk hi' h; omega
      · omega
  · cases i with
    | zero => exact Nat.zero_le _
    | succ i =>
      have hi' : i < place.size := hi
      have e : place.getD i 0 = place[i] := by simp [Array.getD, hi']
      show place.getD i 0 + 1 ≤ place[k]
      rw [e]
      have := mono i k hi' hk hik; omega
/-- in which order a set gives its parts -/
noncomputable def ordOf (w : World) (a : Addr) (es : Array (Int × Value)) (ep : Nat) : Array (Int × Value) := if w.params.followText "set-order" = true then pickOrder (w.params.setOrder a ep) es else es
theorem ordOf_perm (w : World) (a : Addr) (es : Array (Int × Value)) (ep : Nat) : (ordOf w a es ep).toList.Perm es.toList := by
  unfold ordOf
  split
  · exact pickOrder_perm _ _
  · exact .refl _
theorem ordOf_size (w : World) (a : Addr) (es : Array (Int × Value)) (ep : Nat) : (ordOf w a es ep).size = es.size := by simpa using (ordOf_perm w a es ep).length_eq
noncomputable def slotIn (w : World) (t : SetTable) (i : Nat) : Nat := if w.params.followText "set-order" = true then 0 else slotAt t.place i
noncomputable def SetObj (es : Array (Int × Value)) (ep : Nat) (t : SetTable) : Obj := { cls := .type "set", dict := none, data := .set es ep t, slots := #[] }
noncomputable def IterAt (w : World) (h : Heap) (I a : Addr) (es : Array (Int × Value)) (ep : Nat) (t : SetTable) (i : Nat) : Prop :=
  ∃ o, h.get? I = some o ∧ o.cls = .type "set_iterator" ∧ o.data = .fields #[.int (slotIn w t i) 0, .int i 0, .ref a, .int es.size 0, .int ep 0]
theorem IterAt.typeIs {w : World} {s : Shared} {I a : Addr} {es : Array (Int × Value)} {ep : Nat} {t : SetTable} {i : Nat} (x : IterAt w s.heap I a es ep t i) : s.TypeIs (.ref I) "set_iterator" := let ⟨o, ho, hc, _⟩ := x; ⟨o, ho, hc⟩
section
variable {prog : Program} {w : World} {A : Around} {E : Value → Shared → Prop} {s : Shared} {a I : Addr} {es : Array (Int × Value)} {ep : Nat} {t : SetTable}
theorem iter_set {Q : Value → Shared → Prop} (ho : s.heap.get? a = some (SetObj es ep t)) (G : GoodT es.toList t)
    (hQ : Q (.ref s.heap.objs.size) { s with heap := s.heap.push { cls := .type "set_iterator", data := .fields #[.int 0 0, .int 0 0, .ref a, .int es.size 0, .int ep 0] } }) :
    wpAny (model prog w) A (pyIter (.ref a)) Q E s := by
  have hT : s.TypeIs (.ref a) "set" := ⟨_, ho, rfl⟩
  refine wpAny_pyIter_slot hT F.slot_set_iter (wpAny_call_entry F.slot_set_iter hT entry_set_iter ?_ (F.args_set_iter_1 _))
  unfold Builtin.«frozenset.__iter__»
  refine wpAny_bind (wpAny_pure ?_)
  refine wpAny_bind ?_
  unfold Builtin.Frozenset.sizeOf
  refine wpAny_bind (wpAny_setEntries_of ho rfl G.fits ?_)
  refine wpAny_pure ?_
  refine wpAny_bind ?_
  unfold setDrawn
  refine wpAny_bind (wpAny_setState_of ho rfl G.fits ?_)
  dsimp only
  refine wpAny_bind ?_
  unfold setsByText
  refine wpAny_bind (wpAny_askSetting (wpAny_pure ?_))
  refine wpAny_pure ?_
  refine wpAny_ite_split (fun hab => ?_) (fun _ => ?_)
  · exfalso
    change (!(w.params.followText "set-order") && (!t.plain && decide (es.size > 1))) = true at hab
    rw [G.plain] at hab
    simp at hab
  refine wpAny_bind (wpAny_pure ?_)
  refine wpAny_bind (wpAny_setEpoch_of ho rfl G.fits ?_)
  refine wpAny_bind (wpAny_newObj_type (wpAny_pure ⟨_, rfl, "set_iterator", _, ⟨_, Heap.get?_push_size _ rfl, rfl⟩, slot_it_next.lookup, ?_⟩))
  exact hQ
theorem iter_self {i : Nat} {Q : Value → Shared → Prop} (hit : IterAt w s.heap I a es ep t i) (h : Q (.ref I) s) : wpAny (model prog w) A (pyIter (.ref I)) Q E s := by
  refine wpAny_pyIter_slot hit.typeIs slot_it_iter (wpAny_call_entry slot_it_iter hit.typeIs entry_it_iter ?_ (args_it_iter _))
  show wpAny _ _ (ret (.ref I)) _ _ s
  exact wpAny_pure ⟨_, rfl, "set_iterator", _, hit.typeIs, slot_it_next.lookup, h⟩
/-- what the set gives behind the place i -/
theorem set_next {i : Nat} {Q : Option (Value × Nat) → Shared → Prop} (ho : s.heap.get? a = some (SetObj es ep t)) (G : GoodT es.toList t) (hl : t.led = (!(w.params.followText "set-order"))) (hi : i ≤ es.size)
    (h : Q ((ordOf w a es ep)[i]?.map fun e => (e.2, slotIn w t (i + 1))) s) : wpAny (model prog w) A (setNext a (slotIn w t i) i ep) Q E s := by
  unfold setNext
  refine wpAny_bind (wpAny_setState_of ho rfl G.fits ?_)
  dsimp only
  unfold setsByText
  refine wpAny_bind (wpAny_bind (wpAny_askSetting (wpAny_pure ?_)))
  have hsz : t.place.size = es.size := by rw [G.size]; simp
  cases hb : w.params.followText "set-order" with
  | true =>
    have e0 : slotIn w t i = 0 ∧ slotIn w t (i + 1) = 0 ∧ ordOf w a es ep = pickOrder (w.params.setOrder a ep) es := by simp [slotIn, ordOf, hb]
    rw [e0.1]
    rw [e0.2.1, e0.2.2] at h
    refine wpAny_ite_split (fun _ => ?_) (fun hab => absurd hb hab)
    refine wpAny_ite_split (fun hab => absurd hab (by simp)) (fun _ => ?_)
    refine wpAny_bind ?_
    unfold setWalk
    refine wpAny_bind (wpAny_setState_of ho rfl G.fits ?_)
    dsimp only
    unfold setsByText
    refine wpAny_bind (wpAny_bind (wpAny_askSetting (wpAny_pure ?_)))
    refine wpAny_ite_split (fun _ => ?_) (fun hab => absurd hb hab)
    refine wpAny_bind (wpAny_askSetting (wpAny_pure ?_))
    exact wpAny_pure h
  | false =>
    have e0 : slotIn w t i = slotAt t.place i ∧ slotIn w t (i + 1) = slotAt t.place (i + 1) ∧ ordOf w a es ep = es := by simp [slotIn, ordOf, hb]
    rw [e0.1]
    rw [e0.2.1, e0.2.2] at h
    refine wpAny_ite_split (fun hab => absurd (hb.symm.trans hab) Bool.false_ne_true) (fun _ => ?_)
    refine wpAny_ite_split (fun hab => ?_) (fun _ => ?_)
    · exfalso
      change (!t.plain && decide (es.size > 1)) = true at hab
      rw [G.plain] at hab
      simp at hab
    have hled : t.led = true := by rw [hl, hb]; rfl
    refine wpAny_bind (wpAny_of_eq (a := ()) (show (if (!t.led && !es.isEmpty) = true then unsupported _ else pure ()) = pure () from by rw [hled]; rfl) ?_)
    rw [below_slot G.rise (by omega)]
    refine wpAny_pure ?_
    by_cases hlt : i < es.size
    · have hlt' : i < t.place.size := by omega
      rw [Array.getElem?_eq_getElem hlt] at h ⊢
      rw [Array.getElem?_eq_getElem hlt']
      have e1 : slotAt t.place (i + 1) = t.place[i] + 1 := by simp [slotAt, Array.getD, hlt']
      rw [e1] at h
      exact h
    · rw [Array.getElem?_eq_none (by omega)] at h ⊢
      exact h
theorem next_item {i : Nat} {Q : Option Value → Shared → Prop} (hit : IterAt w s.heap I a es ep t i) (ho : s.heap.get? a = some (SetObj es ep t)) (G : GoodT es.toList t) (hl : t.led = (!(w.params.followText "set-order"))) (hi : i < es.size)
    (hQ : ∀ h' e, (ordOf w a es ep)[i]? = some e → IterAt w h' I a es ep t (i + 1) → Heap.SameBut I s.heap h' → Q (some e.2) { s with heap := h' }) :
    wpAny (model prog w) A (pyNext (.ref I)) Q E s := by
  obtain ⟨o, hoI, hc, hd⟩ := id hit
  unfold pyNext
  refine wpAny_bind (wpAny_attempt (wpAny_callSpecial?_slot (name := Str.ofString "__next__") hit.typeIs slot_it_next
    (wpAny_call_entry slot_it_next hit.typeIs entry_it_next ?_ (args_it_next _))))
  refine wpAny_bind (wpAny_pure ?_)
  refine wpAny_bind (wpAny_fieldsOf hoI hd ?_)
  dsimp only
  refine wpAny_bind (wpAny_setEntries_of ho rfl G.fits ?_)
  refine wpAny_ite_split (fun hab => absurd hab (by simp)) (fun _ => ?_)
  simp only [Int.toNat_natCast]
  refine wpAny_bind (set_next ho G hl (Nat.le_of_lt hi) ?_)
  have hi' : i < (ordOf w a es ep).size := by rw [ordOf_size]; exact hi
  rw [Array.getElem?_eq_getElem hi']
  show wpAny _ _ (setField (.ref I) 0 (rawInt ((slotIn w t (i + 1) : Nat) : Int)) >>= _) _ _ s
  refine wpAny_bind (wpAny_setField hoI hd (by simp) ?_)
  have ho1 := Heap.get?_update_self (Obj.mapFields (·.setIfInBounds 0 (rawInt ((slotIn w t (i + 1) : Nat) : Int)))) hoI (Obj.isFreed_of_fields (Obj.data_mapFields hd _))
  have hd1 := Obj.data_mapFields hd (·.setIfInBounds 0 (rawInt ((slotIn w t (i + 1) : Nat) : Int)))
  refine wpAny_bind (wpAny_setField ho1 hd1 (by simp) ?_)
  refine wpAny_pure ⟨_, rfl, wpAny_pure (hQ _ _ (Array.getElem?_eq_getElem hi') ⟨_, Heap.get?_update_self _ ho1 (Obj.isFreed_of_fields (Obj.data_mapFields hd1 _)), ?_, ?_⟩ ((Heap.SameBut.update ..).trans (Heap.SameBut.update ..)))⟩
  · exact (Obj.cls_mapFields ..).trans ((Obj.cls_mapFields ..).trans hc)
  · rw [Obj.data_mapFields hd1]; simp [rawInt]
theorem next_end {Q : Option Value → Shared → Prop} (hh : A.handled = none) (hit : IterAt w s.heap I a es ep t es.size) (ho : s.heap.get? a = some (SetObj es ep t)) (G : GoodT es.toList t) (hl : t.led = (!(w.params.followText "set-order")))
    (hQ : ∀ h', Heap.ExtBut I s.heap h' → Q none { s with heap := h' }) : wpAny (model prog w) A (pyNext (.ref I)) Q E s := by
  obtain ⟨o, hoI, hc, hd⟩ := id hit
  unfold pyNext
  refine wpAny_bind (wpAny_attempt (wpAny_callSpecial?_slot (name := Str.ofString "__next__") hit.typeIs slot_it_next
    (wpAny_call_entry slot_it_next hit.typeIs entry_it_next ?_ (args_it_next _))))
  refine wpAny_bind (wpAny_pure ?_)
  refine wpAny_bind (wpAny_fieldsOf hoI hd ?_)
  dsimp only
  refine wpAny_bind (wpAny_setEntries_of ho rfl G.fits ?_)
  refine wpAny_ite_split (fun hab => absurd hab (by simp)) (fun _ => ?_)
  simp only [Int.toNat_natCast]
  refine wpAny_bind (set_next ho G hl (Nat.le_refl _) ?_)
  rw [Array.getElem?_eq_none (by rw [ordOf_size]; exact Nat.le_refl _)]
  show wpAny _ _ (setField (.ref I) 2 .none >>= _) _ _ s
  refine wpAny_bind (wpAny_setField hoI hd (by simp) ?_)
  show wpAny _ _ (newExc (.type "StopIteration") [] >>= _) _ _ _
  refine wpAny_bind ?_
  simp only [newExc, newTuple]
  refine wpAny_bind (wpAny_newObj_type ?_ (by size_fits))
  refine wpAny_bind (m := firstArgMember _ _) (wpAny_of_eq (a := Value.none) (by first | rfl | (simp only [firstArgMember]; rfl)) ?_)
  refine wpAny_newObj_type ?_ (by size_fits)
  simp only [raiseNew]
  refine wpAny_bind (wpAny_handled ?_)
  rw [show A.in1.handled = none from hh]
  refine wpAny_bind (wpAny_pure (wpAny_throw ?_))
  refine wpAny_bind (wpAny_isInstance (T := "StopIteration") (b := true) ⟨_, Heap.get?_push_size _ rfl, rfl⟩ isSubtype_stop ?_)
  exact wpAny_pure (hQ _ (((Heap.SameBut.update ..).extBut.push _).push _))
end
end
section
section
variable {prog : Program} {w : World} {A : Around} {E : Value → Shared → Prop} {s : Shared}
theorem walks_set (hh : A.handled = none) (I a : Addr) (hne : a ≠ I) {es : Array (Int × Value)} {ep : Nat} {t : SetTable} (G : GoodT es.toList t) (hl : t.led = (!(w.params.followText "set-order"))) :
    Walks prog w A I [I, a] [I] es.size (fun i v => ∃ e, (ordOf w a es ep)[i]? = some e ∧ v = e.2) (fun i h => IterAt w h I a es ep t i ∧ h.get? a = some (SetObj es ep t)) where
  sub := fun b hb => by simp at hb; simp [hb]
  frame := fun _ _ _ st hk => ⟨let ⟨o, ho, r⟩ := st.1; ⟨o, hk I (by simp) o ho, r⟩, hk a (by simp) _ st.2⟩
  item := fun i s Q E hi st hQ => by
    refine next_item st.1 st.2 G hl hi fun h' e he hit' hs' => ?_
    exact hQ e.2 h' s.toks ⟨e, he, rfl⟩ ⟨hit', hs'.extBut _ _ hne st.2⟩ fun b o hb e => hs'.extBut b o (fun h => hb (by simp [h])) e
  done := fun s Q E st hQ => next_end hh st.1 st.2 G hl fun h' he' => hQ h' s.toks fun b o hb e => he' b o (fun h => hb (by simp [h])) e
  self := fun _ _ _ _ st hQ => iter_self st.1 hQ
theorem hint_set {r : Addr} {Q : Bool → Shared → Prop} (hT : s.TypeIs (.ref r) "set") (h : Q false s) : wpAny (model prog w) A (Builtin.List.listLengthHint (.ref r)) Q E s := by
  unfold Builtin.List.listLengthHint
  refine wpAny_bind (wpAny_specialOf hT PySem.F.slot_set_len.lookup ?_)
  generalize hid : ("set.__len__" : String) = id0
  wp_delta
  rw [show splitId id0 = some ("set", "__len__") from by subst hid; decide +kernel]
  subst hid
  refine wpAny_bind (wpAny_isInstance (T := "set") (b := true) hT (by rw [isSubtype_type]; kernel_rfl) ?_)
  refine wpAny_ite_split (fun hab => absurd hab (by decide)) (fun _ => ?_)
  refine wpAny_ite_split (fun _ => ?_) (fun hab => absurd (by decide +kernel) hab)
  refine wpAny_bind (wpAny_typeOf hT ?_)
  exact wpAny_pure h
theorem src_set (a : Addr) {es : Array (Int × Value)} {ep : Nat} {t : SetTable} (G : GoodT es.toList t) (hl : t.led = (!(w.params.followText "set-order"))) :
    KdlSrc prog w "set" a a es.size (fun i v => ∃ e, (ordOf w a es ep)[i]? = some e ∧ v = e.2) (fun h => h.get? a = some (SetObj es ep t)) where
  type := fun _ hm => ⟨_, hm, rfl⟩
  there := fun _ hm => ⟨Heap.lt_size hm, Heap.lt_size hm⟩
  keep := fun _ _ hm hk => hk a (.inl rfl) _ hm
  notList := by decide
  notTuple := by decide
  hint := fun _ _ _ _ hm hq => hint_set ⟨_, hm, rfl⟩ hq
  iter := fun _ _ hh hm => ⟨_, _, (fun _ _ hq => iter_set hm G hq), walks_set hh _ a (Nat.ne_of_lt (Heap.lt_size hm)) G hl, ⟨⟨_, Heap.get?_push_size _ rfl, rfl, by simp [slotIn, slotAt]⟩, Heap.get?_push_of_some _ hm⟩⟩
theorem sort_new {h₀ : Heap} {L D : Addr} {m : Str → Option Value} {news : List (Addr × Obj)} {vs : List Value} {ns : List Int} {c : Nat} {Q : Value → Shared → Prop} (F : Fr h₀ L s.heap m) (N : News h₀ L s.heap ((D, listOf vs.toArray c) :: news)) (l1 : ∀ q ∈ news, q.1 < D) (hI : IntsAre vs ns) (h64 : vs.length < 64)
    (h : ∀ vs' ns' c' h', Fr h₀ L h' m → News h₀ L h' ((D, listOf vs'.toArray c') :: news) → IntsAre vs' ns' → ns'.Perm ns → ns'.Pairwise (· ≤ ·) → Q .none { s with heap := h' }) :
    wpAny (model prog w) A (call (.builtin "list.sort") [.ref D]) Q E s := by
  have z := N _ (List.Mem.head _)
  have ho : s.heap.get? D = some (seqObj "list" vs.toArray c) := z.1
  refine wpAny_call_entry PyProof.Rows.slot_list_sort ⟨_, z.1, rfl⟩ PyProof.Rows.entry_list_sort (list_sort_tree ho hI h64 fun out ns' a1 a2 a3 => ⟨.none, rfl, ?_⟩) (PyProof.Rows.args_list_sort _)
  have old : ∀ b o, b ≠ D → s.heap.get? b = some o → (sortedHeap s.heap D vs out).get? b = some o := fun b o hb e => (sortedHeap_old hb (Heap.lt_size e)).trans e
  obtain ⟨e, he⟩ := sortedHeap_at (out := out) ho
  obtain ⟨oL, x1, x2, hL, x3⟩ := F.ns
  refine h out.toList ns' e _ ⟨⟨oL, x1, x2, old _ _ (Ne.symm z.2.1) hL, x3⟩, fun b o eb => old b o (fun hb => ?_) (F.keep b o eb), F.above⟩ (fun p hp => ?_) a1 a2 a3
  · have := z.2.2
    dsimp only at this
    rw [← hb, eb] at this
    cases this
  · rcases List.mem_cons.mp hp with rfl | hp
    · exact ⟨he, z.2⟩
    · have zp := N p (List.mem_cons_of_mem _ hp)
      exact ⟨old _ _ (Nat.ne_of_lt (l1 p hp)) zp.1, zp.2⟩
theorem intsAre_of : ∀ (vs : List Value) (es : List (Int × Value)), vs.length = es.length → (∀ (j : Nat) (v : Value), vs[j]? = some v → ∃ e, es[j]? = some e ∧ v = e.2) → (∀ e ∈ es, ∃ u, e.2 = .int e.1 u) → IntsAre vs (es.map (·.1))
  | [], [], _, _, _ => .nil
  | v :: vs, e :: es, hl, h, hi => by
    obtain ⟨e', he, hv⟩ := h 0 v rfl
    simp only [List.getElem?_cons_zero, Option.some.injEq] at he
    subst he
    obtain ⟨u, hu⟩ := hi e (List.mem_cons_self ..)
    rw [hv, hu]
    exact .cons _ _ (intsAre_of vs es (by simpa using hl) (fun j v hj => by simpa using h (j + 1) v (by simpa using hj)) fun e he => hi e (List.mem_cons_of_mem _ he))
  | [], _ :: _, hl, _, _ => by simp at hl
  | _ :: _, [], hl, _, _ => by simp at hl
theorem sorted_set_K {h₀ : Heap} {L : Addr} {m : Str → Option Value} {news : List (Addr × Obj)} {Q : Value → Shared → Prop} {S : Addr} {o : Obj} {ns : List Int} (F : Fr h₀ L s.heap m) (N : News h₀ L s.heap news) (hh : A.handled = none) (hm : (S, o) ∈ news) (hG : SetG w o ns)
    (h : ∀ D vs' ns' c h' tk, Fr h₀ L h' m → News h₀ L h' ((D, listOf vs'.toArray c) :: news) → (∀ q ∈ news, q.1 < D) → IntsAre vs' ns' → ns'.Pairwise (· < ·) → (∀ z, z ∈ ns' ↔ z ∈ ns) → Q (.ref D) { s with heap := h', toks := tk }) :
    wpAny (model prog w) A (call (.builtin "sorted") [.ref S]) Q E s := by
  obtain ⟨es, ep, t, rfl, G, hl, hi, hmem⟩ := hG
  have hlen := G.len
  rw [Array.length_toList] at hlen
  refine kdu_sorted (src_set S G hl) hh F N (N _ hm).1 (by rw [sizeLine_eq]; omega) fun D h' tk vs F' N' l1 hvl hP => ?_
  have hp := ordOf_perm w S es ep
  have hI : IntsAre vs ((ordOf w S es ep).toList.map (·.1)) := intsAre_of vs _ (by rw [hvl, Array.length_toList, ordOf_size]) (fun j v hj => by
    obtain ⟨e, he, hv⟩ := hP j v hj
    exact ⟨e, by rw [Array.getElem?_toList]; exact he, hv⟩) fun e he => hi e (hp.mem_iff.mp he)
  refine sort_new F' N' l1 hI (by omega) fun vs' ns' c' h2 F2 N2 i1 i2 i3 => ?_
  have i4 : ns'.Perm (es.toList.map (·.1)) := i2.trans (hp.map _)
  have hnd : ns'.Nodup := i4.nodup_iff.mpr G.nodup
  refine h D vs' ns' c' h2 tk F2 N2 l1 i1 ?_ fun z => ?_
  · exact List.Pairwise.imp (fun h => by omega) (List.pairwise_and_iff.mpr ⟨i3, hnd⟩)
  · rw [i4.mem_iff]
    refine Iff.trans ?_ (hmem z).symm
    simp
end
end
section
/-- spans that a tail of the ledger bears -/
noncomputable def SpanAll (rest : List (Addr × Obj)) (sp : List (Addr × List (Int × Int))) : Prop := ∀ q ∈ sp, SpansN rest q.1 q.2
noncomputable def SubT (own rest : List (Addr × Obj)) : Prop := ∀ p ∈ own, p ∈ rest
theorem split_cons {α : Type} {x : α} {l f r : List α} (h : l = f ++ r) : x :: l = (x :: f) ++ r := by rw [h]; rfl
theorem split_nil {α : Type} {l : List α} : l = [] ++ l := rfl
theorem spanAll_nil {rest : List (Addr × Obj)} : SpanAll rest [] := fun _ h => nomatch h
theorem spanAll_heap {rest : List (Addr × Obj)} {sp : List (Addr × List (Int × Int))} {g : Heap} {l : Addr} {ps : List (Int × Int)} (S : SpanAll rest sp) (hm : (l, ps) ∈ sp) (hq : ∀ q ∈ rest, g.get? q.1 = some q.2) : SpansH g l ps := (S _ hm).heap hq
theorem spanAll_at {rest news : List (Addr × Obj)} {sp : List (Addr × List (Int × Int))} {h₀ h : Heap} {L l : Addr} {ps : List (Int × Int)} (S : SpanAll rest sp) (N : News h₀ L h news) (hm : (l, ps) ∈ sp) (hq : ∀ q ∈ rest, q ∈ news) : SpansH h l ps := (S _ hm).heap fun q h => (N q (hq q h)).1
theorem adr_cons {l : List (Addr × Obj)} {b : Addr} {o : Obj} {r : List Addr} (h : (b, o) ∈ l) (k : ∀ c ∈ r, ∃ o, (c, o) ∈ l) : ∀ c ∈ b :: r, ∃ o, (c, o) ∈ l := fun c hc => by
  cases hc with
  | head => exact ⟨o, h⟩
  | tail _ hc => exact k c hc
theorem adr_nil {l : List (Addr × Obj)} : ∀ c ∈ ([] : List Addr), ∃ o, (c, o) ∈ l := fun _ h => nomatch h
/-- what a call has made goes to the tail of the ledger -/
theorem tail_news {P : Prop} {h₀ h : Heap} {L l9 : Addr} {nw l front rest own : List (Addr × Obj)} {adr : List Addr} {ps9 : List (Int × Int)} {sp : List (Addr × List (Int × Int))}
    (N : News h₀ L h (nw ++ l)) (e : l = front ++ rest) (D : ∀ q ∈ l, ∀ q' ∈ nw, @Ne Nat q.1 q'.1) (S : SpanAll rest sp) (O : SubT own rest) (OF : OwnOff rest adr) (ha : ∀ b ∈ adr, ∃ o, (b, o) ∈ l) (S9 : SpansN nw l9 ps9)
    (k : ∀ r, News h₀ L h (front ++ r) → SpanAll r ((l9, ps9) :: sp) → SubT own r → OwnOff r adr → P) : P := by
  subst e
  refine k (rest ++ nw) (fun p hp => N p ?_) (fun q hq => ?_) (fun p hp => List.mem_append.mpr (.inl (O p hp))) (fun p hp b hb => ?_)
  · simp only [List.mem_append] at hp ⊢
    rcases hp with h | h | h
    · exact .inr (.inl h)
    · exact .inr (.inr h)
    · exact .inl h
  · cases hq with
    | head => exact S9.mono fun q h => List.mem_append.mpr (.inr h)
    | tail _ hq => exact (S q hq).mono fun q h => List.mem_append.mpr (.inl h)
  · rcases List.mem_append.mp hp with hp | hp
    · exact OF p hp b hb
    · obtain ⟨o, ho⟩ := ha b hb
      exact fun e => D _ ho p hp e.symm
theorem ret_tail {h₀ : Heap} {L : Addr} {m : Str → Option Value} {sg : Array GenState} {sd : Drawn} {sos : OsState} {Q : Value → Shared → Prop} {l front rest own : List (Addr × Obj)} {adr : List Addr} {ps9 : List (Int × Int)} {sp : List (Addr × List (Int × Int))}
    (e : l = front ++ rest) (S : SpanAll rest sp) (O : SubT own rest) (OF : OwnOff rest adr) (ha : ∀ b ∈ adr, ∃ o, (b, o) ∈ l)
    (k : ∀ (l9 : Addr) (h' : Heap) (tk' : Nat), Fr h₀ L h' m → ∀ r, News h₀ L h' (front ++ r) → SpanAll r ((l9, ps9) :: sp) → SubT own r → OwnOff r adr → Q (.ref l9) ⟨h', sg, sd, tk', sos⟩)
    (r : Value) (news' : List (Addr × Obj)) (h' : Heap) (tk' : Nat) (F : Fr h₀ L h' m) (N : News h₀ L h' (news' ++ l)) (D : ∀ q ∈ l, ∀ q' ∈ news', @Ne Nat q.1 q'.1) (P : ∃ l', r = .ref l' ∧ SpansN news' l' ps9) : Q r ⟨h', sg, sd, tk', sos⟩ := by
  obtain ⟨l9, rfl, hS⟩ := P
  exact tail_news N e D S O OF ha hS (k l9 h' tk' F)
theorem off_more {own news : List (Addr × Obj)} {adr : List Addr} {l9 : Addr} {o9 : Obj} (O : OwnOff own adr) (D : ∀ q ∈ news, ∀ q' ∈ [(l9, o9)], @Ne Nat q.1 q'.1) (hs : ∀ p ∈ own, p ∈ news) : OwnOff own (l9 :: adr) := fun p hp b hb => by
  cases hb with
  | head => exact D p (hs p hp) _ (List.Mem.head _)
  | tail _ hb => exact O p hp b hb
theorem src_ne {h₀ h : Heap} {L src l : Addr} {o : Obj} {bs : List Bool} {n : Nat} {r : List (Addr × Obj)} (N : News h₀ L h ((src, o) :: (l, listOf (boolsV bs) n) :: r)) (hs : SrcIs o) (hb : bs.length = 12) : @Ne Nat src l := by
  intro e
  obtain ⟨x, y, tx, ty, k, rfl, -⟩ := hs
  have h1 := (N _ (List.Mem.head _)).1
  have h2 := (N _ (List.Mem.tail _ (List.Mem.head _))).1
  dsimp only at h1 h2
  rw [e, h2] at h1
  have h3 : (boolsV bs).size = 2 := by
    simp only [srcObj, W.listOf, Option.some.injEq, Obj.mk.injEq, Data.seq.injEq, true_and] at h1
    rw [h1.1.1]; rfl
  rw [boolsV_size, hb] at h3
  cases h3
/-- names for what stands when the rows are made -/
theorem nameRows {h₀ h : Heap} {L D src l1 l2 c1 c2 c3 c4 c5 : Addr} {t o o1 o2 o3 o4 o5 : Obj} {bs1 bs2 : List Bool} {n1 n2 : Nat} {r : List (Addr × Obj)}
    (_N : News h₀ L h ((D, t) :: (src, o) :: (l2, listOf (boolsV bs2) n2) :: (l1, listOf (boolsV bs1) n1) :: (c5, o5) :: (c4, o4) :: (c3, o3) :: (c2, o2) :: (c1, o1) :: r)) :
    ∃ src' o' l1' bs1' n1' l2' bs2' n2' o1' o2' o3', src' = src ∧ o' = o ∧ l1' = l1 ∧ bs1' = bs1 ∧ n1' = n1 ∧ l2' = l2 ∧ bs2' = bs2 ∧ n2' = n2 ∧ o1' = o1 ∧ o2' = o2 ∧ o3' = o3 :=
  ⟨_, _, _, _, _, _, _, _, _, _, _, rfl, rfl, rfl, rfl, rfl, rfl, rfl, rfl, rfl, rfl, rfl⟩
theorem qs_eq {bs1 bs2 : List Bool} {ns' : List Int} (R1 : RowOk bs1) (R2 : RowOk bs2) (hs : ns'.Pairwise (· < ·)) (hm : ∀ z, z ∈ ns' ↔ z ∈ turnsOf bs1 ++ turnsOf bs2) : QS (pairsOf (turnsOf bs1)) (pairsOf (turnsOf bs2)) = ns' := by
  obtain ⟨h1, h2⟩ := qs_facts R1.normal R2.normal
  rw [R1.flat, R2.flat] at h2
  have nd : ∀ {l : List Int}, l.Pairwise (· < ·) → l.Nodup := fun h => h.imp fun h => Int.ne_of_lt h
  have hp : (QS (pairsOf (turnsOf bs1)) (pairsOf (turnsOf bs2))).Perm ns' := (List.perm_ext_iff_of_nodup (nd h1) (nd hs)).mpr fun z => by rw [h2, hm, List.mem_append]
  exact hp.eq_of_pairwise (fun a b _ _ h h' => absurd (Int.lt_trans h h') (Int.lt_irrefl _)) h1 hs
theorem tn_le : ∀ (bs : List Bool) (k : Int) (prev : Bool), ∀ t ∈ tn k prev bs, t ≤ k + bs.length
  | [], k, prev, t, h => by
    unfold tn at h
    split at h
    · rw [List.mem_singleton.mp h]; simp
    · nomatch h
  | b :: bs, k, prev, t, h => by
    have ih := tn_le bs (k + 1) b
    simp only [List.length_cons]
    unfold tn at h
    split at h
    · rcases List.mem_cons.mp h with rfl | h
      · omega
      · have := ih t h; omega
    · have := ih t h; omega
theorem turns_bounds {bs1 bs2 : List Bool} (h1 : bs1.length = 12) (h2 : bs2.length = 12) : ∀ x ∈ turnsOf bs1 ++ turnsOf bs2, 0 ≤ x ∧ x ≤ 12 := fun x hx => by
  rcases List.mem_append.mp hx with hx | hx
  · rw [turns_tn _ h1] at hx
    have a := tn_ge _ _ _ x hx
    have b := tn_le _ _ _ x hx
    omega
  · rw [turns_tn _ h2] at hx
    have a := tn_ge _ _ _ x hx
    have b := tn_le _ _ _ x hx
    omega
section
variable {prog : Program} {w : World} {A : Around} {E : Value → Shared → Prop} {s : Shared} {h₀ : Heap} {L : Addr} {m : Str → Option Value} {news : List (Addr × Obj)} {Q : Value → Shared → Prop}
theorem list_ints {b : Addr} {vs : List Value} {ns : List Int} {n : Nat} (F : Fr h₀ L s.heap m) (N : News h₀ L s.heap news) (hb : (b, listOf vs.toArray n) ∈ news) (hI : IntsAre vs ns) (hz : ns.length < 1000)
    (h : ∀ D c h', Fr h₀ L h' m → News h₀ L h' ((D, listOf vs.toArray c) :: news) → (∀ q ∈ news, q.1 < D) → Q (.ref D) { s with heap := h' }) : wpAny (model prog w) A (call (.type "list") [.ref b]) Q E s :=
  list_copyK F N (N.isList hb) h (by rw [List.size_toArray, hI.length, PySem.sizeLine_eq]; omega)
theorem ne_ints_same {a b : Addr} {vs us : List Value} {ns ms : List Int} (hl : s.heap.IsList a vs.toArray) (hi : IntsAre vs ns) (hl' : s.heap.IsList b us.toArray) (hi' : IntsAre us ms) (hu : A.units + 64 < cLine) (e : ns = ms)
    (h : Q (.bool false) s) : wpAny (model prog w) A (compareOp .NotEq (.ref a) (.ref b)) Q E s :=
  ne_intsK hl hi hl' hi' hu (by subst e; simpa using h)
theorem ne_spans_same {a b : Addr} {ps qs : List (Int × Int)} (x : SpansH s.heap a ps) (y : SpansH s.heap b qs) (hu : A.units + 64 < cLine) (e : ps = qs) (h : Q (.bool false) s) :
    wpAny (model prog w) A (compareOp .NotEq (.ref a) (.ref b)) Q E s :=
  ne_spans x y hu (by subst e; simpa using h)
end
theorem ne_src1 {l : List (Addr × Obj)} {src l9 : Addr} {o : Obj} (_hs : SrcIs o) (D : ∀ q ∈ l, @Ne Nat q.1 l9) (hm : (src, o) ∈ l) : @Ne Nat src l9 := D _ hm
theorem ne_src {l : List (Addr × Obj)} {src l9 : Addr} {o o9 : Obj} (_hs : SrcIs o) (D : ∀ q ∈ l, ∀ q' ∈ [(l9, o9)], @Ne Nat q.1 q'.1) (hm : (src, o) ∈ l) : @Ne Nat src l9 := D _ hm _ (List.Mem.head _)
theorem sub4 {h₀ h : Heap} {L : Addr} {a b c d : Addr × Obj} {l R : List (Addr × Obj)} (N : News h₀ L h l) (ha : a ∈ l) (hb : b ∈ l) (hc : c ∈ l) (hd : d ∈ l) (hR : ∀ p ∈ R, p ∈ l) : News h₀ L h (a :: b :: c :: d :: R) := fun p hp => N p (by
  simp only [List.mem_cons] at hp
  rcases hp with rfl | rfl | rfl | rfl | hp
  · exact ha
  · exact hb
  · exact hc
  · exact hd
  · exact hR p hp)
theorem subT_at {K R : List (Addr × Obj)} {p : Addr × Obj} (T : SubT K R) (h : p ∈ K) : p ∈ R := T p h
/-- what changes no more goes to the tail -/
theorem stage1 {h₀ h : Heap} {L D src l1 l2 c1 c2 c3 c4 c5 : Addr} {t so x1 x2 o1 o2 o3 o4 o5 tb : Obj} {own : List (Addr × Obj)}
    (N : News h₀ L h ((D, t) :: (src, so) :: (l2, x2) :: (l1, x1) :: (c5, o5) :: (c4, o4) :: (c3, o3) :: (c2, o2) :: (c1, o1) :: (122, tb) :: own)) (OF : OwnOff own [src, c5, c4, c3, c2, c1, 122])
    (a2 : (@Ne Nat l2 src) ∧ (@Ne Nat l2 c5) ∧ (@Ne Nat l2 c4) ∧ (@Ne Nat l2 122)) (a1 : (@Ne Nat l1 src) ∧ (@Ne Nat l1 c5) ∧ (@Ne Nat l1 c4) ∧ (@Ne Nat l1 122))
    (a3 : (@Ne Nat c3 src) ∧ (@Ne Nat c3 c5) ∧ (@Ne Nat c3 c4) ∧ (@Ne Nat c3 122)) (a4 : (@Ne Nat c2 src) ∧ (@Ne Nat c2 c5) ∧ (@Ne Nat c2 c4) ∧ (@Ne Nat c2 122)) (a5 : (@Ne Nat c1 src) ∧ (@Ne Nat c1 c5) ∧ (@Ne Nat c1 c4) ∧ (@Ne Nat c1 122)) :
    ∃ R, News h₀ L h ((src, so) :: (c5, o5) :: (c4, o4) :: (122, tb) :: R) ∧ SubT ((l2, x2) :: (l1, x1) :: (c3, o3) :: (c2, o2) :: (c1, o1) :: own) R ∧ OwnOff R [src, c5, c4, 122] := by
  refine ⟨(l2, x2) :: (l1, x1) :: (c3, o3) :: (c2, o2) :: (c1, o1) :: own, fun p hp => N p ?_, fun p hp => hp, ?_⟩
  · simp only [List.mem_cons] at hp ⊢
    rcases hp with h | h | h | h | h | h | h | h | h | h <;> simp [h]
  · have go : ∀ {x : Addr} {o : Obj} {r : List (Addr × Obj)}, (@Ne Nat x src) ∧ (@Ne Nat x c5) ∧ (@Ne Nat x c4) ∧ (@Ne Nat x 122) → OwnOff r [src, c5, c4, 122] → OwnOff ((x, o) :: r) [src, c5, c4, 122] := fun ha hr p hp b hb => by
      cases hp with
      | head =>
        simp only [List.mem_cons, List.not_mem_nil, or_false] at hb
        rcases hb with rfl | rfl | rfl | rfl
        · exact ha.1
        · exact ha.2.1
        · exact ha.2.2.1
        · exact ha.2.2.2
      | tail _ hp => exact hr p hp b hb
    refine go a2 (go a1 (go a3 (go a4 (go a5 fun p hp b hb => OF p hp b ?_))))
    simp only [List.mem_cons, List.not_mem_nil, or_false] at hb ⊢
    rcases hb with h | h | h | h <;> simp [h]
theorem srcApart {h₀ h : Heap} {L D src c4 c5 : Addr} {l : List (Addr × Obj)} {t so x1 x2 o4 o5 : Obj} {l1 l2 : Addr} (_N : News h₀ L h ((D, t) :: (src, so) :: (l2, x2) :: (l1, x1) :: (c5, o5) :: (c4, o4) :: l)) (h1 : @Ne Nat src c5) (h2 : @Ne Nat src c4) (h3 : @Ne Nat src 122) : (@Ne Nat src c5) ∧ (@Ne Nat src c4) ∧ (@Ne Nat src 122) := ⟨h1, h2, h3⟩
theorem nameOff {R : List (Addr × Obj)} {adr : List Addr} (_O : OwnOff R adr) : ∃ R', R' = R := ⟨_, rfl⟩
theorem nameSr {h₀ h : Heap} {L src : Addr} {o : Obj} {r : List (Addr × Obj)} (_N : News h₀ L h ((src, o) :: r)) : ∃ b, b = o := ⟨_, rfl⟩
/-- the ledger's head parts: the source, the rows, the cells -/
theorem nameCells {h₀ h : Heap} {L c1 c2 c3 c4 c5 : Addr} {q l2 l1 : Addr × Obj} {o1 o2 o3 o4 o5 : Obj} {r : List (Addr × Obj)} (_N : News h₀ L h (q :: l2 :: l1 :: (c5, o5) :: (c4, o4) :: (c3, o3) :: (c2, o2) :: (c1, o1) :: r)) :
    ∃ a1 a2 a3 a4 a5 : Addr, a1 = c1 ∧ a2 = c2 ∧ a3 = c3 ∧ a4 = c4 ∧ a5 = c5 := ⟨_, _, _, _, _, rfl, rfl, rfl, rfl, rfl⟩
theorem nameTl {h₀ h : Heap} {L : Addr} {q : Addr × Obj} {r : List (Addr × Obj)} (_N : News h₀ L h (q :: r)) : ∃ r', r' = r := ⟨_, rfl⟩
theorem said_40 : True := by
  (k_with "m tail" => (first | (apply split_cons; walk_at "tail") | exact split_nil))
  (k_with "m adr_in" => (first | exact adr_nil | (refine' adr_cons ?ha.u93 ?hb.u93; (case ha => k_mem); (case hb => walk_at "adr_in"))))
  trivial
end
section
/-- a name that a lambda keeps -/
theorem nameX_G {M : Model} {A : Around} {E : Value → Shared → Prop} {s : Shared} {h₀ : Heap} {L a c : Addr} {m : Str → Option Value} {cn : Str} {cs : Scope} {ccd : Value} {cl : List (Str × Addr)} {x : Str} {pos : Pos} {v : Value} {o : Obj} {Q : Value → Shared → Prop}
    (F : Fr h₀ L s.heap m) (hc : cl.lookup x = some c) (hg : h₀.get? c = some o) (hd : o.data = .cell (some v)) (h : Q v s)
    (hk : cs.kind = .function) (hx : (envX cn cs L a ccd cl).kindOf x = some .free) (hb : (x == ("__debug__" : Str)) = false) (hn : (x == ("__classdict__" : Str)) = false) :
    wpAny M A (eval (.Name x pos) (envX cn cs L a ccd cl)) Q E s := wpAny_Name (wpAny_loadName_free hk hx hc ⟨o, F.keep _ _ hg, hd⟩ h hn) hb
section
variable {w : World} {p : Program} {loose : List Str} {mean : ExcName → Option Value} {mg mb : Str → Option Value}
/-- a call of a lambda -/
theorem callSE {prog : Program} {A₀ A : Around} {s : Shared} {base h₀ : Heap} {outer : List Env} {L : Addr} {m : Str → Option Value} {env : Env} {news : List (Addr × Obj)} {K : Frag} {pre : Heap → Prop}
    {R : Result → Shared → Prop} {name qual : Str} {params : Arguments} {body : Expr} {scope : Scope} {cl : List (Str × Addr)} {pm ctv : Value} {c' f : Addr} {args : Args} {binds : List (Str × Value)}
    {Post : Value → List (Addr × Obj) → Prop}
    (B : Below A₀ base outer h₀) (F : Fr h₀ L s.heap m) (X₀ : K.In h₀) (N : News h₀ L s.heap news) (T : Top p loose mean mg mb h₀) (hA : A.frames = some (env :: outer)) (hf : env.frame = some L) (hke : env.scope.kind = .function)
    (hp : PreAt pre (hideAll s.heap (news.map (·.1))))
    (ho : s.heap.get? f = some (kla_obj name qual params body scope cl pm c' ctv)) (hcd : s.heap.CodeRec (.ref c') qual) (hroom : A.depth < recursionLimit)
    (hbind : bindArgs (kla_fn name qual params body scope cl pm (.ref c') ctv) args = pure binds) (hloc : ∀ y ∈ binds, scope.names.lookup y.1 = some .local)
    (ret : ∀ r news' h' tk', Kept s.heap h' (news.map (·.1)) → NewsK s.heap h' (news.map (·.1)) news' → Post r news' → R (.ok (.ret r)) { s with heap := h', toks := tk' })
    (h : ∀ g L' h₁, Fr g L' h₁ (fun y => binds.reverse.lookup y) → News g L' h₁ news → Below A base (env :: outer) g → K.In g → Top p loose mean mg mb g → pre g →
      wpAny (model prog w) (A.deeper (envX qual scope L' f (.ref c') cl)) (eval body (envX qual scope L' f (.ref c') cl))
        (fun v s' => LeaveS g s Post v s')
        (fun e s' => wpAny (model prog w) (A.deeper (envX qual scope L' f (.ref c') cl)) (leaving (envX qual scope L' f (.ref c') cl) e) (fun _ s'' => R (.error e) s'') (fun e' s'' => R (.error e') s'') s')
        { s with heap := h₁, toks := s.toks + binds.length })
    (hco : scope.isCoroutine = false) (hgen : scope.isGenerator = false) (hk : scope.kind = .function)
    (hcell : ∀ x ∈ scope.names, x.2 ≠ .cell) : codeAny (model prog w) A (.call (.ref f) args) R s := by
  obtain ⟨FG, BG, st, -⟩ := groundX (R := R) B F N hA hf hke
  refine kla_callFunE hroom ho rfl hco hgen rfl hcd ?_
  rw [hbind]
  refine wpAny_pure (wpAny_newFunctionEnv hcell hloc (fun h₁ hns hsb => ⟨((T.nolimit).keeps F.keep).fresh _ hsb, ?_⟩) hk)
  show codeAny _ _ (.expr body (envX qual scope s.heap.objs.size f (.ref c') cl)) _ _
  have hk₁ : ∀ b o, s.heap.get? b = some o → h₁.get? b = some o := fun b o e => hsb.extBut b o (Nat.ne_of_lt (Heap.lt_size e)) (Heap.get?_push_of_some _ e)
  refine kla_codeExpr (wpAny_mono (h _ s.heap.objs.size h₁ ⟨hns, fun b o e => hk₁ b o (of_hideAll _ e), Nat.le_of_eq (hideAll_size _ _)⟩
    (fun p hp => ⟨hk₁ _ _ (N p hp).1, Nat.ne_of_lt (Heap.lt_size (N p hp).1), hideAll_none _ (List.mem_map_of_mem hp)⟩) BG (X₀.keeps st) (T.keeps st) hp) (fun v s' hl => ?_) fun _ _ y => y)
  obtain ⟨L', m', news', h', tk', rfl, F', N', P⟩ := hl
  refine ret _ news' h' tk' (fun b o e hb => F'.keep b o (hideAll_get _ e hb)) (fun p hp => ⟨(N' p hp).1, ?_⟩) P
  by_cases hb : p.1 ∈ news.map (·.1)
  · exact .inl hb
  · refine .inr ?_
    cases q : s.heap.get? p.1 with
    | none => rfl
    | some o =>
      have h1 := (N' p hp).2.2
      rw [hideAll_get _ q hb] at h1; cases h1
end
/-- what stands in the table of code for a place -/
noncomputable def CodeAtP (pos : Pos) (q : Str) (tb : Array Value) (R : List (Addr × Obj)) (c' : Addr) : Prop := codeAmong pos tb.toList = some (.ref c') ∧ ∃ oc vs t, (c', oc) ∈ R ∧ oc.data = .fields vs ∧ vs[1]? = some (.str q t)
noncomputable def CodeOk (pos : Pos) (q : Str) (tb : Array Value) (R : List (Addr × Obj)) : Prop := codeAmong pos tb.toList = none ∨ ∃ c', CodeAtP pos q tb R c'
theorem CodeAtP.mono {pos : Pos} {q : Str} {tb : Array Value} {R R' : List (Addr × Obj)} {c' : Addr} (h : CodeAtP pos q tb R c') (hs : ∀ p ∈ R, p ∈ R') : CodeAtP pos q tb R' c' :=
  let ⟨h1, oc, vs, t, h2, h3⟩ := h
  ⟨h1, oc, vs, t, hs _ h2, h3⟩
theorem CodeOk.mono {pos : Pos} {q : Str} {tb : Array Value} {R R' : List (Addr × Obj)} (h : CodeOk pos q tb R) (hs : ∀ p ∈ R, p ∈ R') : CodeOk pos q tb R' := h.imp id fun ⟨c', h⟩ => ⟨c', h.mono hs⟩
theorem among_other {pos pos2 : Pos} {c : Value} (hne : pos.line ≠ pos2.line ∨ pos.col ≠ pos2.col) : ∀ l : List Value, TriplesOk l → codeAmong pos2 (l ++ [rawInt pos.line, rawInt pos.col, c]) = codeAmong pos2 l := by
  intro l h
  fun_induction TriplesOk l with
  | case1 =>
    simp only [List.nil_append, codeAmong, rawInt]
    rw [if_neg]
    intro hc
    simp only [Bool.and_eq_true, beq_iff_eq] at hc
    omega
  | case2 a t b u x rest ih =>
    simp only [List.cons_append, codeAmong]
    rw [ih h]
  | case3 l h1 h2 => exact h.elim
theorem off_grow {R : List (Addr × Obj)} {adr : List Addr} {c' : Addr} {oc : Obj} (O : OwnOff R adr) (h : ∀ b ∈ adr, @LT.lt Nat _ b c') : OwnOff ((c', oc) :: R) adr := fun p hp b hb => by
  cases hp with
  | head => exact Nat.ne_of_gt (h b hb)
  | tail _ hp => exact O p hp b hb
/-- where the law's lambdas stand in the text -/
noncomputable abbrev lp1 : Pos := ⟨107, 16, 107, 77⟩
noncomputable abbrev lp2 : Pos := ⟨114, 36, 114, 64⟩
noncomputable abbrev lp3 : Pos := ⟨116, 34, 116, 75⟩
noncomputable abbrev lamQ : Str := (Str.ofString "law" ++ ".<locals>.") ++ "<lambda>"
/-- the table of code and what it points to -/
structure TabI (tb : Array Value) (cds : List (Addr × Obj)) (adr : List Addr) : Prop where
  tri : TriplesOk tb.toList
  ok1 : CodeOk lp1 lamQ tb cds
  ok2 : CodeOk lp2 lamQ tb cds
  ok3 : CodeOk lp3 lamQ tb cds
  off : OwnOff cds adr
theorem tabI_nil {adr : List Addr} : TabI #[] [] adr := ⟨trivial, .inl rfl, .inl rfl, .inl rfl, fun _ h => nomatch h⟩
structure OwnI (own cds ownx : List (Addr × Obj)) (adr : List Addr) : Prop where
  cells : OwnOff own adr
  off : OwnOff own (cds.map (·.1))
  c : ∀ p ∈ cds, p ∈ ownx
  w : ∀ p ∈ own, p ∈ ownx
theorem ownx_of {own cds ownx : List (Addr × Obj)} {adr adr2 : List Addr} (e : ownx = cds ++ own) (O : OwnOff own adr2) (h1 : ∀ b ∈ adr, b ∈ adr2) (h2 : ∀ b ∈ cds.map (·.1), b ∈ adr2) (O2 : OwnOff cds adr) : OwnI own cds ownx adr ∧ OwnOff ownx adr := by
  subst e
  refine ⟨⟨fun p hp b hb => O p hp b (h1 b hb), fun p hp b hb => O p hp b (h2 b hb), fun p hp => List.mem_append.mpr (.inl hp), fun p hp => List.mem_append.mpr (.inr hp)⟩, fun p hp b hb => ?_⟩
  rcases List.mem_append.mp hp with hp | hp
  · exact O2 p hp b hb
  · exact O p hp b (h1 b hb)
section
variable {M : Model} {A : Around} {E : Value → Shared → Prop} {s : Shared} {h₀ : Heap} {L a c P : Addr} {m mg mb : Str → Option Value} {cn : Str} {cs : Scope} {ccd : Value} {cl : List (Str × Addr)} {front R cds : List (Addr × Obj)}
  {p : Program} {loose : List Str} {mean : ExcName → Option Value} {params : Arguments} {body : Expr} {scope : Scope} {ps : Array Value} {pos : Pos} {clos : List (Str × Addr)}
/-- a lambda made, its code known or not -/
theorem lam_any {Q : Value → Shared → Prop} (hd : defaultsOf params (envX cn cs L a ccd cl) = ([], [])) (F : Fr h₀ L s.heap m) (N : News h₀ L s.heap ((P, tabObj ps) :: (front ++ R))) (T : Top p loose mean mg mb h₀) (C : CodeHd h₀ c P) (hcd : ccd = .ref c) (hP : ∀ q ∈ front ++ R, q.1 ≠ P)
    (hs : ∀ q ∈ cds, q ∈ R) (ht : TriplesOk ps.toList) (hok : CodeOk pos ((envX cn cs L a ccd cl).qual ++ "<lambda>") ps cds)
    (hcl : closureFor scope (envX cn cs L a ccd cl) = pure clos)
    (h : ∀ f c' ctv h' tk ps' R' cds', Fr h₀ L h' m →
      News h₀ L h' ((f, kla_obj "<lambda>" ((envX cn cs L a ccd cl).qual ++ "<lambda>") params body scope clos ((mg "__name__").getD .none) c' ctv) :: (P, tabObj ps') :: (front ++ R')) →
      SubT R R' → (∀ q ∈ cds', q ∈ R') → TriplesOk ps'.toList → CodeAtP pos ((envX cn cs L a ccd cl).qual ++ "<lambda>") ps' cds' c' →
      (∀ (pos2 : Pos) (q2 : Str), pos.line ≠ pos2.line ∨ pos.col ≠ pos2.col → CodeOk pos2 q2 ps cds → CodeOk pos2 q2 ps' cds') →
      (∀ adr, (∀ b ∈ adr, ∃ o, (b, o) ∈ (P, tabObj ps) :: (front ++ R)) → (OwnOff R adr → OwnOff R' adr) ∧ (OwnOff cds adr → OwnOff cds' adr)) →
      (∀ O : List (Addr × Obj), (∀ q ∈ O, q ∈ R) → OwnOff O (cds.map (·.1)) → OwnOff O (cds'.map (·.1))) →
      (∀ q ∈ (P, tabObj ps') :: (front ++ R'), q.1 < f) → Q (.ref f) { s with heap := h', toks := tk }) :
    wpAny M A (eval (.Lambda params body scope pos) (envX cn cs L a ccd cl)) Q E s := by
  refine kla_eval hd ?_
  rcases hok with hn | ⟨c', hc', hrest⟩
  · refine kla_nest F N T C hcd (.head hP) ht hn hcl fun f c' oc vs t ctv h' tk F' N' d1 d2 l1 l2 => ?_
    have hps : (ps ++ #[rawInt pos.line, rawInt pos.col, Value.ref c']).toList = ps.toList ++ [rawInt pos.line, rawInt pos.col, .ref c'] := by simp
    refine h f c' ctv h' tk _ ((c', oc) :: R) ((c', oc) :: cds) F' (fun q hq => N' q ?_) (fun q hq => List.mem_cons_of_mem _ hq) (fun q hq => ?_) (by rw [hps]; exact TriplesOk_snoc _ _ _ _ ht) ⟨by rw [hps]; exact codeAmong_snoc _ ht hn, oc, vs, t, List.mem_cons_self .., d1, d2⟩ (fun pos2 q2 hne hok2 => ?_)
      (fun adr ha => ⟨fun O => off_grow O fun b hb => ?_, fun O => off_grow O fun b hb => ?_⟩) (fun O hO hoff q hq b hb => ?_) (fun q hq => ?_)
    · simp only [List.mem_cons, List.mem_append] at hq ⊢
      rcases hq with h | h | h | h | h <;> simp [h]
    · rcases List.mem_cons.mp hq with rfl | hq
      · exact List.mem_cons_self ..
      · exact List.mem_cons_of_mem _ (hs q hq)
    · rcases hok2 with h2 | ⟨c2, h2, h3⟩
      · exact .inl (by rw [hps, among_other hne _ ht]; exact h2)
      · obtain ⟨oc2, vs2, t2, m2, r2⟩ := h3
        exact .inr ⟨c2, by rw [hps, among_other hne _ ht]; exact h2, oc2, vs2, t2, List.mem_cons_of_mem _ m2, r2⟩
    · obtain ⟨o, ho⟩ := ha b hb
      exact l1 _ ho
    · obtain ⟨o, ho⟩ := ha b hb
      exact l1 _ ho
    · rcases List.mem_cons.mp hb with rfl | hb
      · exact Nat.ne_of_lt (l1 q (List.mem_cons_of_mem _ (List.mem_append.mpr (.inr (hO q hq)))))
      · exact hoff q hq b hb
    · simp only [List.mem_cons, List.mem_append] at hq
      have hlt : ∀ b o, (b, o) ∈ (P, tabObj ps) :: (front ++ R) → @LT.lt Nat _ b f := fun b o hm => Nat.lt_trans (l1 _ hm) l2
      rcases hq with h | h | h | h
      · rw [h]; exact hlt P _ (List.mem_cons_self ..)
      · exact hlt q.1 q.2 (List.mem_cons_of_mem _ (List.mem_append.mpr (.inl h)))
      · rw [h]; exact l2
      · exact hlt q.1 q.2 (List.mem_cons_of_mem _ (List.mem_append.mpr (.inr h)))
  · refine kla_hit F N T C hcd (List.mem_cons_self ..) ht hc' hcl fun f ctv h' tk F' N' l1 => ?_
    exact h f c' ctv h' tk ps R cds F' N' (fun q hq => hq) hs ht ⟨hc', hrest⟩ (fun _ _ _ h => h) (fun _ _ => ⟨fun O => O, fun O => O⟩) (fun _ _ O => O) l1
end
end
section
theorem turns_sorted {bs : List Bool} (h : bs.length = 12) : (turnsOf bs).Pairwise (· < ·) := by
  rw [turns_tn bs h]; exact tn_sorted _ _ _
theorem two_of {bs : List Bool} (h : bs.length = 12) (hne : turnsOf bs ≠ []) : ∃ x ∈ turnsOf bs, ∃ y ∈ turnsOf bs, x < y := by
  obtain ⟨q, hq, -⟩ := (row_ok bs h).len
  have hs := turns_sorted h
  cases e : turnsOf bs with
  | nil => exact absurd e hne
  | cons a r =>
    cases r with
    | nil => rw [e] at hq; simp at hq; omega
    | cons b r =>
      rw [e] at hs
      exact ⟨a, by simp, b, by simp, List.rel_of_pairwise_cons hs (by simp)⟩
theorem first_le {l : List Int} (hs : l.Pairwise (· ≤ ·)) {x : Int} (hx : x ∈ l) : l.getD 0 0 ≤ x := by
  cases l with
  | nil => nomatch hx
  | cons a r =>
    rcases List.mem_cons.mp hx with rfl | hx
    · exact Int.le_refl _
    · exact List.rel_of_pairwise_cons hs hx
theorem le_last' : ∀ {l : List Int}, l.Pairwise (· ≤ ·) → ∀ {x : Int}, x ∈ l → x ≤ l.getD (l.length - 1) 0
  | [a], _, x, hx => by rw [List.mem_singleton.mp hx]; exact Int.le_refl _
  | a :: b :: r, hs, x, hx => by
    have e : (a :: b :: r).getD ((a :: b :: r).length - 1) 0 = (b :: r).getD ((b :: r).length - 1) 0 := by simp
    rw [e]
    rcases List.mem_cons.mp hx with rfl | hx
    · exact Int.le_trans (List.rel_of_pairwise_cons hs (List.mem_cons_self ..)) (le_last' (List.Pairwise.of_cons hs) (List.mem_cons_self ..))
    · exact le_last' (List.Pairwise.of_cons hs) hx
theorem whole_eq {bs1 bs2 : List Bool} (h1 : bs1.length = 12) (h2 : bs2.length = 12) {ns : List Int} (p : ns.Perm (turnsOf bs1 ++ turnsOf bs2)) (o : ns.Pairwise (· ≤ ·)) :
    putFold (QS (pairsOf (turnsOf bs1)) (pairsOf (turnsOf bs2))) (KK (pairsOf (turnsOf bs1)) (pairsOf (turnsOf bs2)) (fun _ _ => true)) ((QS (pairsOf (turnsOf bs1)) (pairsOf (turnsOf bs2))).length - 1) = if ns = [] then [] else [(ns.getD 0 0, ns.getD (ns.length - 1) 0)] := by
  have r1 := row_ok bs1 h1
  have r2 := row_ok bs2 h2
  obtain ⟨hs, hm⟩ := qs_facts r1.normal r2.normal
  rw [r1.flat, r2.flat] at hm
  have hm2 : ∀ z, z ∈ QS (pairsOf (turnsOf bs1)) (pairsOf (turnsOf bs2)) ↔ z ∈ ns := fun z => by rw [hm, p.mem_iff, List.mem_append]
  show putFold _ (fun _ => true) _ = _
  rw [put_whole]
  generalize QS (pairsOf (turnsOf bs1)) (pairsOf (turnsOf bs2)) = qs at hs hm hm2 ⊢
  by_cases hn : ns = []
  · rw [if_pos hn]
    have hq : qs = [] := List.eq_nil_iff_forall_not_mem.mpr fun z hz => by rw [hm2, hn] at hz; nomatch hz
    rw [hq]; rfl
  · rw [if_neg hn]
    have hxy : ∃ x ∈ qs, ∃ y ∈ qs, x < y := by
      have hne : turnsOf bs1 ≠ [] ∨ turnsOf bs2 ≠ [] := by
        by_cases e : turnsOf bs1 = []
        · refine .inr fun e2 => hn ?_
          rw [e, e2] at p
          exact List.Perm.eq_nil p
        · exact .inl e
      rcases hne with hne | hne
      · obtain ⟨x, hx, y, hy, hlt⟩ := two_of h1 hne
        exact ⟨x, (hm x).mpr (.inl hx), y, (hm y).mpr (.inl hy), hlt⟩
      · obtain ⟨x, hx, y, hy, hlt⟩ := two_of h2 hne
        exact ⟨x, (hm x).mpr (.inr hx), y, (hm y).mpr (.inr hy), hlt⟩
    obtain ⟨x, hx, y, hy, hlt⟩ := hxy
    have hl : qs.length - 1 ≠ 0 := by
      intro e
      have h3 := getD_ends hs hx
      have h4 := getD_ends hs hy
      rw [e] at h3 h4
      omega
    rw [if_neg hl]
    have hq0 : qs.getD 0 0 ∈ qs := getD_mem (by omega)
    have hqn : qs.getD (qs.length - 1) 0 ∈ qs := getD_mem (by omega)
    have hnl : 0 < ns.length := List.length_pos_iff.mpr hn
    have hn0 : ns.getD 0 0 ∈ ns := getD_mem hnl
    have hnn : ns.getD (ns.length - 1) 0 ∈ ns := getD_mem (by omega)
    have a1 := first_le o ((hm2 _).mp hq0)
    have a2 := (getD_ends hs ((hm2 _).mpr hn0)).1
    have a3 := le_last' o ((hm2 _).mp hqn)
    have a4 := (getD_ends hs ((hm2 _).mpr hnn)).2
    rw [show qs.getD 0 0 = ns.getD 0 0 by omega, show qs.getD (qs.length - 1) 0 = ns.getD (ns.length - 1) 0 by omega]
/-- what the choice of the whole hands on -/
noncomputable def JoinW (g : Heap) (L : Addr) (m : Str → Option Value) (s : Shared) (tb : Obj) (K : List (Addr × Obj)) (sp : List (Addr × List (Int × Int))) (whole : List (Int × Int)) (v : Value) (s' : Shared) : Prop :=
  ∃ wl h' tk R', v = .ref wl ∧ s' = { s with heap := h', toks := tk } ∧ Fr g L h' m ∧ News g L h' ((122, tb) :: R') ∧ SubT K R' ∧ OwnOff R' [122] ∧ SpanAll R' ((wl, whole) :: sp)
end
section
theorem flat_nil : flat [] = [] := rfl
theorem flat_cons (s : Int × Int) (r : List (Int × Int)) : flat (s :: r) = s.1 :: s.2 :: flat r := rfl
theorem qs_one : QS [] [(0, 2)] = [0, 2] := by
  simp [QS, flat_nil, flat_cons, mb_nil_left, mb_nn, push]
theorem qs_two : QS [(0, 2), (4, 6)] [(1, 2), (6, 8)] = [0, 1, 2, 4, 6, 8] := by
  simp [QS, flat_nil, flat_cons, mb_nil_left, mb_nil_right, mb_both, mb_nn, push]
theorem put_one : putFold (QS [] [(0, 2)]) (KK [] [(0, 2)] (fun a b => a || b)) ((QS [] [(0, 2)]).length - 1) = [(0, 2)] := by
  rw [qs_one]
  simp [putFold, putStep, KK, memS]
theorem spansH_one {h₀ h : Heap} {L l b : Addr} {news : List (Addr × Obj)} {n n2 : Nat} {i j : Int} {t1 t2 : Tok} (N : News h₀ L h news) (hm : (l, listOf #[.ref b] n) ∈ news) (hm2 : (b, tupObj #[.int i t1, .int j t2] n2) ∈ news) : SpansH h l [(i, j)] :=
  ⟨[.ref b], ⟨_, (N _ hm).1, rfl, n, rfl⟩, .cons ⟨b, t1, t2, rfl, ⟨_, (N _ hm2).1, rfl, n2, rfl⟩⟩ .nil⟩
theorem spansQ_nil {g : Heap} {l : Addr} {news : List (Addr × Obj)} {n : Nat} (hq : ∀ q ∈ news, g.get? q.1 = some q.2) (hm : (l, listOf #[] n) ∈ news) : SpansH g l [] := ⟨[], ⟨_, hq _ hm, rfl, n, rfl⟩, .nil⟩
theorem spansQ_one {g : Heap} {l b : Addr} {news : List (Addr × Obj)} {n n2 : Nat} {i j : Int} {t1 t2 : Tok} (hq : ∀ q ∈ news, g.get? q.1 = some q.2) (hm : (l, listOf #[.ref b] n) ∈ news) (hm2 : (b, tupObj #[.int i t1, .int j t2] n2) ∈ news) : SpansH g l [(i, j)] :=
  ⟨[.ref b], ⟨_, hq _ hm, rfl, n, rfl⟩, .cons ⟨b, t1, t2, rfl, ⟨_, hq _ hm2, rfl, n2, rfl⟩⟩ .nil⟩
theorem spansQ_two {g : Heap} {l b c : Addr} {news : List (Addr × Obj)} {n n2 n3 : Nat} {i j i2 j2 : Int} {t1 t2 t3 t4 : Tok} (hq : ∀ q ∈ news, g.get? q.1 = some q.2) (hm : (l, listOf #[.ref b, .ref c] n) ∈ news) (hm2 : (b, tupObj #[.int i t1, .int j t2] n2) ∈ news) (hm3 : (c, tupObj #[.int i2 t3, .int j2 t4] n3) ∈ news) : SpansH g l [(i, j), (i2, j2)] :=
  ⟨[.ref b, .ref c], ⟨_, hq _ hm, rfl, n, rfl⟩, .cons ⟨b, t1, t2, rfl, ⟨_, hq _ hm2, rfl, n2, rfl⟩⟩ (.cons ⟨c, t3, t4, rfl, ⟨_, hq _ hm3, rfl, n3, rfl⟩⟩ .nil)⟩
theorem spansN_one {l b : Addr} {news : List (Addr × Obj)} {n n2 : Nat} {i j : Int} {t1 t2 : Tok} (hm : (l, listOf #[.ref b] n) ∈ news) (hm2 : (b, tupObj #[.int i t1, .int j t2] n2) ∈ news) : SpansN news l [(i, j)] :=
  ⟨[.ref b], n, hm, .cons ⟨b, t1, t2, n2, rfl, hm2⟩ .nil⟩
theorem stage3 {h₀ h : Heap} {L a b c : Addr} {x y z tb : Obj} {cds : List (Addr × Obj)} {adr : List Addr} (N : News h₀ L h ((a, x) :: (b, y) :: (c, z) :: (122, tb) :: cds)) (ha : @LT.lt Nat _ 122 a) (hb : @LT.lt Nat _ 122 b) (hc : @LT.lt Nat _ 122 c) (O : OwnOff cds adr) (h122 : (122 : Addr) ∈ adr) :
    ∃ R, News h₀ L h ((122, tb) :: R) ∧ SubT ((a, x) :: (b, y) :: (c, z) :: cds) R ∧ OwnOff R [122] := by
  refine ⟨(a, x) :: (b, y) :: (c, z) :: cds, fun q hq => N q ?_, fun q hq => hq, fun q hq d hd => ?_⟩
  · simp only [List.mem_cons] at hq ⊢
    rcases hq with h | h | h | h | h <;> simp [h]
  · rw [List.mem_singleton.mp hd]
    simp only [List.mem_cons] at hq
    rcases hq with h | h | h | h
    · rw [h]; exact Nat.ne_of_gt ha
    · rw [h]; exact Nat.ne_of_gt hb
    · rw [h]; exact Nat.ne_of_gt hc
    · exact O q h 122 h122
end
structure Hid (P : Prop) : Prop where
  out : P
/-- a stage of the walk: what is left to show, and that it is enough -/
structure Cut (G : Prop) where
  P : Prop
  f : Hid P → G
structure Cut2 (G : Prop) where
  P : Prop
  Q : Prop
  f : Hid P → Hid Q → G
/-- (so that the whole proof is laid down as one) -/
theorem wrapCut {A B : Prop} (h : A → B) : A → B := h
theorem said_41 : True := by
  (k_with "m pyIter ref" => ((refine stand ?_)))
  (k_with "m exec For Name Call cons nil" => ((k_here; (rename Fr _ _ _ _ => zqlF'); (with_unfolding_all refine' For_invVF zqlF' ?k1.u95 ?k2.u95 ?_; (case k1 => exact rfl); (case k2 => exact rfl); k_whole))))
  trivial
local macro_rules | `(tactic| k_room) => `(tactic| ktr_room)
theorem said_42 : True := by
  (k_with "m call ref" => ((
  first | (with_reducible show wpAny _ _ (call (Value.ref 77) _) _ _ _) | (with_reducible show wpAny _ _ (call (Value.ref 98) _) _ _ _) | (with_reducible show wpAny _ _ (call (Value.ref 108) _) _ _ _) | (with_reducible show wpAny _ _ (call (Value.ref 28) _) _ _ _) | (with_reducible show wpAny _ _ (call (Value.ref 103) _) _ _ _) | (with_reducible show wpAny _ _ (call (Value.ref 115) _) _ _ _) | (with_reducible show wpAny _ _ (call (Value.ref 35) _) _ _ _) | (with_reducible show wpAny _ _ (call (Value.ref 84) _) _ _ _) | (with_reducible show wpAny _ _ (call (Value.ref 70) _) _ _ _) | (with_reducible show wpAny _ _ (call (Value.ref 120) _) _ _ _)
  refine stand ?_)))
  (k_with "m call ref" => ((
  (with_reducible show wpAny _ _ (call (Value.ref 77) _) _ _ _)
  (k_dflt (refine' specC_use0 (pool_spec _ _ _ ?hI.u97 ?hl.u97 _ _ ?h0.u97 ?h1.u97) ?k1.u97 ?k2.u97 ?k3.u97 ?k4.u97 ?k5.u97 ?kK.u97 ?kd.u97 ?ku.u97 ?kpre.u97 ?_))
  (k_dflt (walk_at "use_0"))
  ((case kpre => k_dflt (intro zqg zqst zqhq; exact isList_keeps zqst (by assumption))); (case hI => assumption); (case hl => omega); (case h0 => omega); (case h1 => omega))
  k_whole
  intro zqr9 zqnw9 zqh9 zqtk9 zqF9 zqN9 zqD9 zqP9
  obtain ⟨zql9, zqo9, zqer, zqen, zqhs9⟩ := zqP9
  subst zqer zqen
  (rename OwnOff _ _ => zqO0); (k_dflt (have zqO9 := off_more zqO0 zqD9 (by walk_at "own_in"))); (clear zqO0)
  (try simp only [List.forall_mem_cons, List.not_mem_nil, false_implies, implies_true, and_true, ne_eq] at zqD9)
  (try simp only [List.cons_append, List.nil_append] at zqN9))))
  (k_with "m call ref" => ((
  (with_reducible show wpAny _ _ (call (Value.ref 98) _) _ _ _)
  k_dflt (refine' specC_use1 (row_spec _ ?ho.u98) ?k1.u98 ?k2.u98 ?k3.u98 ?k4.u98 ?k5.u98 ?kK.u98 ?kd.u98 ?ku.u98 ?kp.u98 ?kpre.u98 ?_)
  k_dflt (walk_at "use_1")
  (case kpre => k_dflt (exact fun _ _ _ => True.intro)); (case ho => assumption);
  k_whole
  intro zqr9 zqnw9 zqh9 zqtk9 zqF9 zqN9 zqD9 zqP9
  obtain ⟨zql9, zqo9, zqbs9, zqn9, zqer, zqhb9, zqen, zqhs9⟩ := zqP9
  subst zqer zqen
  (try simp only [List.forall_mem_cons, List.not_mem_nil, false_implies, implies_true, and_true, ne_eq] at zqD9)
  (try simp only [List.cons_append, List.nil_append] at zqN9)
  (have zqne9 := src_ne zqN9 zqhs9 zqhb9))))
  (k_with "m call ref" => ((
  (with_reducible show wpAny _ _ (call (Value.ref 84) _) _ _ _)
  k_dflt (refine' specC_use1 (take_spec _ _ _ ?h2.u99 ?h3.u99 ?ho.u99) ?k1.u99 ?k2.u99 ?k3.u99 ?k4.u99 ?k5.u99 ?kK.u99 ?kd.u99 ?ku.u99 ?kp.u99 ?kpre.u99 ?_)
  k_dflt (walk_at "use_1")
  (case kpre => k_dflt (exact fun _ _ _ => True.intro)); (case h2 => decide); (case h3 => decide); (case ho => assumption);
  k_whole
  refine ret_take ?_
  intro zqkd zqkt zqko zqh9 zqtk9 zqF9 zqN9 zqh0 zqh1 zqhs)))
  (k_with "m call ref" => ((
  (with_reducible show wpAny _ _ (call (Value.ref 108) _) _ _ _)
  (with_reducible rename SpanAll _ _ => zqS9)
  k_dflt (refine' specC_use0 (pairs_spec _ _ ?hb.u100 _ ?hq.u100 ?hq2.u100) ?k1.u100 ?k2.u100 ?k3.u100 ?k4.u100 ?k5.u100 ?kK.u100 ?kd.u100 ?ku.u100 ?kpre.u100 ?_)
  k_dflt (walk_at "use_0")
  (case kpre => k_dflt (intro zqg zqst zqhq; refine' isList_of zqhq ?mm.u100; (case mm => k_mem))); (case hb => assumption); (case hq => assumption); (case hq2 => assumption);
  k_whole
  (rename SpanAll _ _ => zqS0; rename OwnOff _ _ => zqF0; rename SubT _ _ => zqT0; k_dflt (refine ret_tail (by walk_at "tail") zqS0 zqT0 zqF0 (by walk_at "adr_in") ?_); clear zqS0 zqF0 zqT0; intro zql9 zqh9 zqtk9 zqF9 zqq9 zqN9 zqS9 zqO9 zqG9)
  (simp only [List.cons_append, List.nil_append] at zqN9))))
  (k_with "m call ref" => ((
  (with_reducible show wpAny _ _ (call (Value.ref 28) _) _ _ _)
  k_dflt (refine' specC_use0 (borders_spec _ _ ?hb.u101) ?k1.u101 ?k2.u101 ?k3.u101 ?k4.u101 ?k5.u101 ?kK.u101 ?kd.u101 ?ku.u101 ?kpre.u101 ?_)
  k_dflt (walk_at "use_0")
  (case kpre => k_dflt (intro zqg zqst zqhq; refine' spanAll_heap ?sa.u101 ?sb.u101 ?sc.u101; (case sa => with_reducible assumption); (case sb => k_mem); (case sc => (intro zqq zqhm; refine zqhq zqq ?_; walk_at "own_in1")))); (case hb => assumption);
  k_whole
  refine ret_list ?_
  intro zql9 zqvs9 zqn9 zqh9 zqtk9 zqF9 zqN9 zqD9 zqhI9
  (k_dflt (have zqne9 := ne_src1 (by assumption) zqD9 (by k_mem))); clear zqD9)))
  (k_with "m call ref" => ((
  (with_reducible show wpAny _ _ (call (Value.ref 103) _) _ _ _)
  k_dflt (refine' specC_use0 (turns_spec _ _ ?hb.u102) ?k1.u102 ?k2.u102 ?k3.u102 ?k4.u102 ?k5.u102 ?kK.u102 ?kd.u102 ?ku.u102 ?kpre.u102 ?_)
  k_dflt (walk_at "use_0")
  (case kpre => k_dflt (intro zqg zqst zqhq; refine' isList_of zqhq ?mm.u102; (case mm => k_mem))); (case hb => assumption);
  k_whole
  refine ret_list ?_
  intro zql9 zqvs9 zqn9 zqh9 zqtk9 zqF9 zqN9 zqD9 zqhI9
  (k_dflt (have zqne9 := ne_src1 (by assumption) zqD9 (by k_mem))); clear zqD9)))
  (k_with "m call ref" => ((
  (with_reducible show wpAny _ _ (call (Value.ref 115) _) _ _ _)
  k_dflt (refine' specC_use1 (walk_right_spec _ _ _ ?hb.u103 ?ho.u103) ?k1.u103 ?k2.u103 ?k3.u103 ?k4.u103 ?k5.u103 ?kK.u103 ?kd.u103 ?ku.u103 ?kp.u103 ?kpre.u103 ?_)
  k_dflt (walk_at "use_1")
  (case kpre => k_dflt (intro zqg zqst zqhq; refine' isList_of zqhq ?mm.u103; (case mm => k_mem))); (case hb => assumption); (case ho => assumption);
  k_whole
  refine ret_obj ?_
  intro zqo9 zqh9 zqtk9 zqF9 zqN9 zqhs9)))
  (k_with "m call ref" => ((
  (with_reducible show wpAny _ _ (call (Value.ref 35) _) _ _ _)
  k_dflt (refine' specC_use0 (merged_spec _ _ _ _ ?h1.u104 ?h2.u104) ?k1.u104 ?k2.u104 ?k3.u104 ?k4.u104 ?k5.u104 ?kK.u104 ?kd.u104 ?ku.u104 ?kpre.u104 ?_)
  k_dflt (walk_at "use_0")
  (case kpre => k_dflt (intro zqg zqst zqhq; refine' And.intro ?pa.u104 ?pb.u104; (case pa => (refine' spanAll_heap ?sa.u104 ?sb.u104 ?sc.u104; (case sa => with_reducible assumption); (case sb => k_mem); (case sc => (intro zqq zqhm; refine zqhq zqq ?_; walk_at "own_in1")))); (case pb => (refine' spanAll_heap ?sa.u104 ?sb.u104 ?sc.u104; (case sa => with_reducible assumption); (case sb => k_mem); (case sc => (intro zqq zqhm; refine zqhq zqq ?_; walk_at "own_in1")))))); (case h1 => assumption); (case h2 => assumption);
  k_whole
  refine ret_list ?_
  intro zql9 zqvs9 zqn9 zqh9 zqtk9 zqF9 zqN9 zqD9 zqhI9
  (k_dflt (have zqne9 := ne_src1 (by assumption) zqD9 (by k_mem))); clear zqD9)))
  (k_with "m call ref" => ((
  (with_reducible show wpAny _ _ (call (Value.ref 120) _) _ _ _)
  k_dflt (refine' specC_use0 (nright_spec _ _ ?h1.u105 ?h2.u105) ?k1.u105 ?k2.u105 ?k3.u105 ?k4.u105 ?k5.u105 ?kK.u105 ?kd.u105 ?ku.u105 ?kpre.u105 ?_)
  k_dflt (walk_at "use_0")
  (case kpre => k_dflt (intro zqg zqst zqhq; refine' spanAll_heap ?sa.u105 ?sb.u105 ?sc.u105; (case sa => with_reducible assumption); (case sb => k_mem); (case sc => (intro zqq zqhm; refine zqhq zqq ?_; walk_at "own_in1")))); (case h1 => assumption); (case h2 => assumption);
  k_whole
  refine ret_val ?_
  intro zqh9 zqtk9 zqF9 zqN9)))
  (k_with "m call type:list" => ((k_here; (with_reducible show wpAny _ _ (call (Value.type "list") [Value.ref _]) _ _ _); k_dflt (refine' list_ints ?F.u106 ?N.u106 ?b.u106 ?e.u106 ?z.u106 ?_; (case F => k_asm); (case N => k_asm); (case b => k_mem); (case e => l_ints); (case z => omega)); intro zqD' zqc' zqh' zqF' zqN' zql1; (try k_lt zql1); (try k_sweep))))
  (k_with "m compareOp NotEq ref ref" => ((refine stand ?_)))
  (k_with "m compareOp NotEq ref ref" => ((k_here; (with_reducible show wpAny _ _ (compareOp CmpOp.NotEq (Value.ref _) (Value.ref _)) _ _ _); (with_unfolding_all refine' ne_ints_same ?k1.u108 ?k2.u108 ?k3.u108 ?k4.u108 ?k5.u108 ?k6.u108 ?_; (case k1 => is_list); (case k2 => l_ints); (case k3 => is_list); (case k4 => l_ints); (case k5 => ktr_units); (case k6 => first | with_reducible assumption | exact qs_eq (by with_reducible assumption) (by with_reducible assumption) (by with_reducible assumption) (by with_reducible assumption)); k_whole))))
  (k_with "m call type:set cons nil" => ((refine stand ?_)))
  (k_with "m call type:set cons nil" => ((k_here; (with_reducible show wpAny _ _ (call (Value.type "set") [Value.ref _]) _ _ _); k_dflt (refine' set_new_K ?F.u110 ?N.u110 ?hh.u110 ?k1.u110 ?k2.u110 ?k4.u110 ?_; (case F => k_asm); (case N => k_asm); (case hh => exact rfl); (case k1 => is_list); (case k2 => l_ints); (case k4 => assumption)); intro zqD' zqh' zqtk' zqo' zqF' zqN' zql1 zqhG'; (try k_lt zql1); (try k_sweep))))
  (k_with "m call builtin:sorted" => ((k_here; (with_reducible show wpAny _ _ (call (Value.builtin "sorted") [Value.ref _]) _ _ _); k_dflt (refine' sorted_set_K ?F.u111 ?N.u111 ?hh.u111 ?k1.u111 ?k2.u111 ?_; (case F => k_asm); (case N => k_asm); (case hh => exact rfl); (case k1 => k_mem); (case k2 => assumption)); intro zqD' zqv' zqn' zqc' zqh' zqtk' zqF' zqN' zql1 zqi' zqo' zqe'; (try k_lt zql1); (try k_sweep))))
  (k_with "m exec Assign cons ListComp" => ((refine stand ?_)))
  (k_with "m eval ListComp" => ((refine stand ?_)))
  (k_with "m binaryOp Add ref ref" => ((k_here; k_dflt (refine' addB ?k1.u114 ?k2.u114 ?k3.u114 ?k4.u114 ?k5.u114 ?_; (case k1 => k_asm); (case k2 => k_asm); (case k3 => exact isList_b1 (by is_list)); (case k4 => is_list); (case k5 => (simp only [List.length_append, List.length_cons, List.length_nil]; omega)); k_whole); intro zqy' zqh' zqF' zqN' zql1; (try k_lt zql1); (try k_sweep))))
  trivial
theorem word_43 : True := by
  (k_with "m k_mem" => ((first | (refine' subT_at ?tt.u115 ?hh.u115; (case tt => with_reducible assumption); (case hh => k_mem)) | fail "subT: none")))
  trivial
local macro_rules | `(tactic| k_mem) => `(tactic| k_extra "m k_mem")
theorem said_44 : True := by
  (k_with "m eval Name" => (((with_reducible show wpAny _ _ (eval (Expr.Name _ _) (envOfC _ _ _ _ _)) _ _ _); first
  | (refine' nameX_K ?F.u116 ?X.u116 ?T.u116 ?e.u116 ?_ ?a.u116 ?b.u116; (case F => k_asm); (case X => k_asm); (case T => k_asm); (case a => rfl); (case b => rfl); (case e => k_is); k_whole)
  | (refine' nameX_L ?F.u116 ?v.u116 ?_ ?a.u116 ?b.u116; (case F => k_asm); (case a => rfl); (case b => rfl); (case v => rfl); k_whole)
  | (refine' nameX_C ?N.u116 ?c.u116 ?m.u116 ?d.u116 ?_ ?a.u116 ?b.u116; (case a => rfl); (case b => rfl); (case N => k_asm); (case c => rfl); (case m => k_mem); (case d => k_asm); k_whole))))
  (k_with "m callWith ref" => (((with_reducible show wpAny _ _ (callWith _ (Value.ref _) _ _ []) _ _ _); k_dflt (first
  | refine' callWith_K ?k1.u117 ?k2.u117 ?_; (case k1 => k_asm); (case k2 => k_is); k_whole
  | refine' callWith_K0 ?k1.u117 ?k2.u117 ?_; (case k1 => k_in); (case k2 => k_is); k_whole))))
  (k_with "m assign Tuple" => (((with_reducible show wpAny _ _ (assign (Expr.Tuple _ _ _) _ (Value.ref _)) _ _ _); k_dflt (refine' unpackN_ ?F.u118 ?N.u118 ?T.u118 ?k1.u118 ?k2.u118 ?k3.u118 ?_; (case F => k_asm); (case N => k_asm); (case T => (refine' News.isTup ?na.u118 ?nb.u118; (case na => k_asm); (case nb => k_mem))); (case k1 => exact rfl); (case k2 => exact rfl); (case k3 => exact rfl); k_whole); intro zqh' zqF' zqN'; (try k_sweep))))
  trivial
theorem abs_turn {M : Model} {A : Around} {t : Sem Flow} {s s₁ : Shared} {h₀ : Heap} {L : Addr} {I : (Str → Option Value) → List (Addr × Obj) → Prop} {own : List (Addr × Obj)} {Q₀ : Flow → Shared → Prop} {E₀ : Value → Shared → Prop}
    (h : ∀ Q E, wpAny M A t (InvPostG h₀ L I own s₁ Q) E s) : wpAny M A t (InvPostG h₀ L I own s₁ Q₀) E₀ s := h Q₀ E₀
structure LawSt where
  o1 : Obj
  o2 : Obj
  o3 : Obj
  o4 : Obj
  o5 : Obj
  d1 : Option Value
  d2 : Option Value
  d3 : Option Value
  d4 : Option Value
  d5 : Option Value
  tb : Array Value
  cds : List (Addr × Obj)
theorem rngL {h : Heap} {r : Addr} {b : Int} {t u v : Tok} (R : IsRange h r 0 b 1 t u v) (hb : b = 1 ∨ b = 2) : ∃ n : Nat, n ≤ 2 ∧ IsRange h r 0 (n : Int) 1 t u v := by
  rcases hb with rfl | rfl
  · exact ⟨1, by decide, R⟩
  · exact ⟨2, by decide, R⟩
theorem nameLam {h₀ h : Heap} {L y l2 D src c5 c4 : Addr} {x1 x2 x3 so o5 o4 tb : Obj} {R : List (Addr × Obj)} (_N : News h₀ L h ((y, x1) :: (l2, x2) :: (D, x3) :: (src, so) :: (c5, o5) :: (c4, o4) :: (122, tb) :: R)) : ∃ y' o5', y' = y ∧ o5' = o5 := ⟨_, _, rfl, rfl⟩
theorem nameHd {h₀ h : Heap} {L a : Addr} {o : Obj} {r : List (Addr × Obj)} (_N : News h₀ L h ((a, o) :: r)) : ∃ b, b = o := ⟨_, rfl⟩
theorem spanAll_mono {r r' : List (Addr × Obj)} {sp : List (Addr × List (Int × Int))} (S : SpanAll r sp) (h : ∀ q ∈ r, q ∈ r') : SpanAll r' sp := fun q hq => (S q hq).mono h
noncomputable def kfOf (tbs : List Bool) (a b : Bool) : Bool := tbs.getD ((if a then 1 else 0) + 2 * (if b then 1 else 0)) false
theorem ix_bounds (a b : Bool) : 0 ≤ ((if a = true then 1 else 0) + 2 * (if b = true then 1 else 0) : Int) ∧ ((if a = true then 1 else 0) + 2 * (if b = true then 1 else 0) : Int) < 4 := by cases a <;> cases b <;> decide
theorem kfOf_ix (tbs : List Bool) (a b : Bool) : tbs.getD ((if a = true then 1 else 0) + 2 * (if b = true then 1 else 0) : Int).toNat false = kfOf tbs a b := by cases a <;> cases b <;> rfl
theorem nameCell {h₀ h : Heap} {L f tl src c5 c4 : Addr} {fo tb x so o5 o4 : Obj} {R : List (Addr × Obj)} (_N : News h₀ L h ((f, fo) :: (122, tb) :: (tl, x) :: (src, so) :: (c5, o5) :: (c4, o4) :: R)) : ∃ b, b = o4 := ⟨_, rfl⟩
structure PreR (R : List (Addr × Obj)) (preK : Heap → Prop) : Prop where
  of : ∀ h' : Heap, (∀ q ∈ R, h'.get? q.1 = some q.2) → preK h'
theorem preR_at {h₀ h : Heap} {L : Addr} {R news : List (Addr × Obj)} {preK : Heap → Prop} (P : PreR R preK) (N : News h₀ L h news) (hs : ∀ q ∈ R, q ∈ news) : preK h := P.of h fun q hq => (N q (hs q hq)).1
theorem absK {W : World} {p : Program} {loose : List Str} {mean : ExcName → Option Value} {mg mb : Str → Option Value} {f : Addr} {pk : Heap → Prop} {kf : Bool → Bool → Bool} {K R : List (Addr × Obj)} (_T : SubT K R) (hK : KeepsFn W p loose mean mg mb f pk kf) (h : ∀ h' : Heap, (∀ q ∈ K, h'.get? q.1 = some q.2) → pk h') :
    ∃ preK : Heap → Prop, KeepsFn W p loose mean mg mb f preK kf ∧ PreR K preK := ⟨pk, hK, ⟨h⟩⟩
theorem subT_end {l front own cds R : List (Addr × Obj)} (T : SubT l R) (e : l = front ++ own) (h : ∀ q ∈ cds, q ∈ R) : ∃ Kx, (∀ q ∈ cds, q ∈ Kx) ∧ (∀ q ∈ own, q ∈ Kx) ∧ SubT (front ++ Kx) R := by
  subst e
  refine ⟨cds ++ own, fun q hq => List.mem_append.mpr (.inl hq), fun q hq => List.mem_append.mpr (.inr hq), fun q hq => ?_⟩
  simp only [List.mem_append] at hq
  rcases hq with hq | hq | hq
  · exact T q (List.mem_append.mpr (.inl hq))
  · exact h q hq
  · exact T q (List.mem_append.mpr (.inr hq))
theorem stage2 {h₀ h : Heap} {L f tl src c5 c4 : Addr} {fo tb x so o5 o4 : Obj} {R K : List (Addr × Obj)} {sp : List (Addr × List (Int × Int))} (N : News h₀ L h ((f, fo) :: (122, tb) :: (tl, x) :: (src, so) :: (c5, o5) :: (c4, o4) :: R)) (T : SubT K R) (O : OwnOff R [src, c5, c4, 122]) (S : SpanAll R sp)
    (a1 : @Ne Nat f 122) (a2 : @Ne Nat tl 122) (a3 : @Ne Nat src 122) (a4 : @Ne Nat c5 122) (a5 : @Ne Nat c4 122) :
    ∃ R', News h₀ L h ((122, tb) :: R') ∧ SubT ((f, fo) :: (tl, x) :: (src, so) :: (c5, o5) :: (c4, o4) :: K) R' ∧ OwnOff R' [122] ∧ SpanAll R' sp ∧ (∀ q ∈ R, q ∈ R') := by
  refine ⟨(f, fo) :: (tl, x) :: (src, so) :: (c5, o5) :: (c4, o4) :: R, fun p hp => N p ?_, fun p hp => ?_, fun p hp b hb => ?_, spanAll_mono S fun q hq => ?_, fun q hq => ?_⟩
  · simp only [List.mem_cons] at hp ⊢
    rcases hp with h | h | h | h | h | h | h <;> simp [h]
  · simp only [List.mem_cons] at hp ⊢
    rcases hp with h | h | h | h | h | h
    · simp [h]
    · simp [h]
    · simp [h]
    · simp [h]
    · simp [h]
    · exact .inr (.inr (.inr (.inr (.inr (T p h)))))
  · rw [List.mem_singleton.mp hb]
    simp only [List.mem_cons] at hp
    rcases hp with h | h | h | h | h | h
    · rw [h]; exact a1
    · rw [h]; exact a2
    · rw [h]; exact a3
    · rw [h]; exact a4
    · rw [h]; exact a5
    · exact O p h 122 (by simp)
  · exact List.mem_cons_of_mem _ (List.mem_cons_of_mem _ (List.mem_cons_of_mem _ (List.mem_cons_of_mem _ (List.mem_cons_of_mem _ hq))))
  · exact List.mem_cons_of_mem _ (List.mem_cons_of_mem _ (List.mem_cons_of_mem _ (List.mem_cons_of_mem _ (List.mem_cons_of_mem _ hq))))
theorem rowK_take {kf : Bool → Bool → Bool} {as bs : List Bool} {i : Nat} (h : i < 12) : (rowK kf as bs).take (i + 1) = (rowK kf as bs).take i ++ [kf (as.getD i false) (bs.getD i false)] := by
  have e : (rowK kf as bs)[i]? = some (kf (as.getD i false) (bs.getD i false)) := by simp [rowK, h]
  rw [List.take_add_one, e]; rfl
theorem isList_mem {h₀ h : Heap} {L l : Addr} {news : List (Addr × Obj)} {arr : Array Value} {n : Nat} (N : News h₀ L h news) (hm : (l, listOf arr n) ∈ news) : h.IsList l arr := ⟨_, (N _ hm).1, rfl, n, rfl⟩
theorem nameSort {h₀ h : Heap} {L a : Addr} {vs : List Value} {ns ms : List Int} {c : Nat} {r : List (Addr × Obj)} (_N : News h₀ L h ((a, listOf vs.toArray c) :: r)) (_p : ns.Perm ms) : ∃ a' vs' ns' c', a' = a ∧ vs' = vs ∧ ns' = ns ∧ c' = c := ⟨_, _, _, _, rfl, rfl, rfl, rfl⟩
theorem join_at {M : Model} {A : Around} {t : Sem Value} {s : Shared} {g : Heap} {L : Addr} {m : Str → Option Value} {K R : List (Addr × Obj)} {sp : List (Addr × List (Int × Int))} {Q E : Value → Shared → Prop} (tb : Obj) (whole : List (Int × Int)) (_F : Fr g L s.heap m) (_T : SubT K R) (_S : SpanAll R sp)
    (h1 : wpAny M A t (JoinW g L m s tb K sp whole) E s) (h2 : ∀ v s', JoinW g L m s tb K sp whole v s' → Q v s') : wpAny M A t Q E s := wpAny_mono h1 h2 fun _ _ e => e
theorem join_nil {g h' : Heap} {L a b c : Addr} {m : Str → Option Value} {s : Shared} {tb x y : Obj} {K R : List (Addr × Obj)} {sp : List (Addr × List (Int × Int))} {n tk : Nat} (F : Fr g L h' m) (N : News g L h' ((a, listOf #[] n) :: (b, x) :: (122, tb) :: (c, y) :: R)) (T : SubT K R) (O : OwnOff R [122]) (S : SpanAll R sp) (ha : @LT.lt Nat _ 122 a) :
    JoinW g L m s tb K sp [] (.ref a) { s with heap := h', toks := tk } := by
  refine ⟨a, h', tk, (a, listOf #[] n) :: R, rfl, rfl, F, fun q hq => N q ?_, fun q hq => List.mem_cons_of_mem _ (T q hq), fun q hq b hb => ?_, fun q hq => ?_⟩
  · simp only [List.mem_cons] at hq ⊢
    rcases hq with h | h | h <;> simp [h]
  · rcases List.mem_cons.mp hq with rfl | hq
    · rw [List.mem_singleton.mp hb]; exact Nat.ne_of_gt ha
    · exact O q hq b hb
  · rcases List.mem_cons.mp hq with rfl | hq
    · exact ⟨[], n, List.mem_cons_self .., .nil⟩
    · exact (S q hq).mono fun q hq => List.mem_cons_of_mem _ hq
theorem join_one {g h' : Heap} {L a b c e : Addr} {m : Str → Option Value} {s : Shared} {tb x y : Obj} {K R : List (Addr × Obj)} {sp : List (Addr × List (Int × Int))} {n n2 tk : Nat} {i j i' j' : Int} {t1 t2 : Tok} (F : Fr g L h' m) (N : News g L h' ((a, listOf #[.ref b] n) :: (b, tupObj #[.int i t1, .int j t2] n2) :: (e, x) :: (122, tb) :: (c, y) :: R)) (T : SubT K R) (O : OwnOff R [122]) (S : SpanAll R sp) (ha : @LT.lt Nat _ 122 a) (hb : @LT.lt Nat _ 122 b) (hi : i = i') (hj : j = j') :
    JoinW g L m s tb K sp [(i', j')] (.ref a) { s with heap := h', toks := tk } := by
  subst hi hj
  refine ⟨a, h', tk, (a, listOf #[.ref b] n) :: (b, tupObj #[.int i t1, .int j t2] n2) :: R, rfl, rfl, F, fun q hq => N q ?_, fun q hq => List.mem_cons_of_mem _ (List.mem_cons_of_mem _ (T q hq)), fun q hq d hd => ?_, fun q hq => ?_⟩
  · simp only [List.mem_cons] at hq ⊢
    rcases hq with h | h | h | h <;> simp [h]
  · rcases List.mem_cons.mp hq with rfl | hq
    · rw [List.mem_singleton.mp hd]; exact Nat.ne_of_gt ha
    · rcases List.mem_cons.mp hq with rfl | hq
      · rw [List.mem_singleton.mp hd]; exact Nat.ne_of_gt hb
      · exact O q hq d hd
  · rcases List.mem_cons.mp hq with rfl | hq
    · exact ⟨[.ref b], n, List.mem_cons_self .., .cons ⟨b, t1, t2, n2, rfl, List.mem_cons_of_mem _ (List.mem_cons_self ..)⟩ .nil⟩
    · exact (S q hq).mono fun q hq => List.mem_cons_of_mem _ (List.mem_cons_of_mem _ hq)
section
variable {prog : Program} {w : World} {A : Around} {E : Value → Shared → Prop} {s : Shared}
theorem ne_ints_nil {a b : Addr} {vs : List Value} {ns : List Int} {n : Nat} {Q : Value → Shared → Prop} (c : Bool) (hl : s.heap.IsList a vs.toArray) (hi : IntsAre vs ns) (hl' : s.heap.get? b = some (listOf #[] n)) (hu : A.units + 64 < cLine) (e : decide (ns = []) = !c)
    (h : Q (.bool c) s) : wpAny (model prog w) A (compareOp .NotEq (.ref a) (.ref b)) Q E s := by
  refine ne_intsK (us := []) (ms := []) hl hi ⟨_, hl', rfl, n, rfl⟩ .nil hu ?_
  rw [e, Bool.not_not]; exact h
end
theorem name3 {h₀ h : Heap} {L a b c : Addr} {x y z tb : Obj} {cds : List (Addr × Obj)} (_N : News h₀ L h ((a, x) :: (b, y) :: (c, z) :: (122, tb) :: cds)) : ∃ a' b' c', a' = a ∧ b' = b ∧ c' = c := ⟨_, _, _, rfl, rfl, rfl⟩
section
variable {prog : Program} {w : World} {A : Around} {E : Value → Shared → Prop} {s : Shared}
theorem ne_lit2 {a b : Addr} {vs : List Value} {ns : List Int} {n k : Nat} {x y : Int} {t1 t2 : Tok} {Q : Value → Shared → Prop} (ha : s.heap.get? a = some (listOf vs.toArray k)) (hi : IntsAre vs ns) (hb : s.heap.get? b = some (listOf #[.int x t1, .int y t2] n)) (hu : A.units + 64 < cLine) (e : ns = [x, y])
    (h : Q (.bool false) s) : wpAny (model prog w) A (compareOp .NotEq (.ref a) (.ref b)) Q E s :=
  ne_ints_same (vs := vs) (us := [.int x t1, .int y t2]) (ms := [x, y]) ⟨_, ha, rfl, k, rfl⟩ hi ⟨_, hb, rfl, n, rfl⟩ (.cons _ _ (.cons _ _ .nil)) hu e h
theorem eq_lit6 {a b : Addr} {vs : List Value} {ns : List Int} {n k : Nat} {x1 x2 x3 x4 x5 x6 : Int} {t1 t2 t3 t4 t5 t6 : Tok} {Q : Value → Shared → Prop} (ha : s.heap.get? a = some (listOf vs.toArray k)) (hi : IntsAre vs ns) (hb : s.heap.get? b = some (listOf #[.int x1 t1, .int x2 t2, .int x3 t3, .int x4 t4, .int x5 t5, .int x6 t6] n)) (hu : A.units + 64 < cLine) (e : ns = [x1, x2, x3, x4, x5, x6])
    (h : Q (.bool true) s) : wpAny (model prog w) A (compareOp .Eq (.ref a) (.ref b)) Q E s := by
  refine eq_intsK (us := [.int x1 t1, .int x2 t2, .int x3 t3, .int x4 t4, .int x5 t5, .int x6 t6]) (ms := [x1, x2, x3, x4, x5, x6]) ⟨_, ha, rfl, k, rfl⟩ hi ⟨_, hb, rfl, n, rfl⟩ (.cons _ _ (.cons _ _ (.cons _ _ (.cons _ _ (.cons _ _ (.cons _ _ .nil)))))) hu ?_
  rw [decide_eq_true e]; exact h
theorem ne_one {h₀ : Heap} {L a b c : Addr} {news R : List (Addr × Obj)} {sp : List (Addr × List (Int × Int))} {ps : List (Int × Int)} {n n2 : Nat} {i j : Int} {t1 t2 : Tok} {Q : Value → Shared → Prop} (S : SpanAll R sp) (N : News h₀ L s.heap news) (hm : (a, ps) ∈ sp) (hs : ∀ q ∈ R, q ∈ news) (hb : (b, listOf #[.ref c] n) ∈ news) (hc : (c, tupObj #[.int i t1, .int j t2] n2) ∈ news) (hu : A.units + 64 < cLine) (e : ps = [(i, j)])
    (h : Q (.bool false) s) : wpAny (model prog w) A (compareOp .NotEq (.ref a) (.ref b)) Q E s :=
  ne_spans_same (spanAll_at S N hm hs) (spansH_one N hb hc) hu e h
end
set_option maxHeartbeats 16000000 in
noncomputable def law_a : Cut2 PySem.Challenge.rw_on0218_01.Holds := by
  apply Cut2.mk
  case f =>
    refine wrapCut ?_
    intro cutP cutQ
    refine hd ?_
    k_go0
    k_steps
    unfold Stand
    rename IsRange _ _ _ _ _ _ _ _ => R8
    rename Fr _ _ _ _ => F8
    rename News _ _ _ _ => N8
    obtain ⟨n, hn2, R9⟩ := rngL R8 (by split <;> split <;> omega)
    clear R8
    rename IntsAre _ _ => hI
    obtain ⟨sl, rfl⟩ := nameR F8 "script" rfl
    have hsl := ‹Heap.IsList _ sl _›
    rename Shared => S1
    refine' rangeJ (σ := LawSt) (n := n) (fun c => (S1.heap.objs.size + 1 + 1 + 1 + 1 + 1, c.o5) :: (S1.heap.objs.size + 1 + 1 + 1 + 1, c.o4) :: (S1.heap.objs.size + 1 + 1 + 1, c.o3) :: (S1.heap.objs.size + 1 + 1, c.o2) :: (S1.heap.objs.size + 1, c.o1) :: (122, tabObj c.tb) :: c.cds)
      (fun _ => [("script", .ref sl)])
      (fun _ c => (c.o1.data = .cell c.d1 ∧ c.o2.data = .cell c.d2 ∧ c.o3.data = .cell c.d3 ∧ c.o4.data = .cell c.d4 ∧ c.o5.data = .cell c.d5) ∧
        TabI c.tb c.cds [S1.heap.objs.size + 1 + 1 + 1 + 1 + 1, S1.heap.objs.size + 1 + 1 + 1 + 1, S1.heap.objs.size + 1 + 1 + 1, S1.heap.objs.size + 1 + 1, S1.heap.objs.size + 1, 122])
      ⟨_, _, _, _, _, _, _, _, _, _, #[], []⟩ rfl R9 (small3 _ hn2) (size3 _ hn2) F8 N8 ?hn ?hk ?hp ?turn ?done
    case hn => exact fun p hp => by with_unfolding_all exact hp
    case hk => kst_all
    case hp => exact ⟨⟨by with_reducible assumption, by with_reducible assumption, by with_reducible assumption, by with_reducible assumption, by with_reducible assumption⟩, tabI_nil⟩
    case done =>
      (repeat revert ‹_›); intro cutP cutQ wq_0 wq_1 S1 wq_3 wq_4 wq_5 wq_6 wq_7 wq_8 wq_9 wq_10 wq_11 wq_12 hT8 wq_14 wq_15 wq_16 wq_17 wq_18 wq_19 hT9 wq_21 wq_22 wq_23 wq_24 wq_25 wq_26 wq_27 wq_28 wq_29 wq_30 wq_31 wq_32 hI wq_34 wq_35 wq_36 wq_37 wq_38 wq_39 wq_40 wq_41 wq_42 wq_43 wq_44 wq_45 wq_46 wq_47 codeHd wq_49 wq_50 wq_51 wq_52 wq_53 wq_54 wq_55 wq_56 wq_57 wq_58 wq_59 N8 wq_61 n hn2 R9 sl wq_66 wq_67 wq_68 wq_69 wq_70 wq_71 wq_72 wq_73 wq_74 wq_75 lifted wq_77 wq_78 F8 hsl c u h tk hP F1 N1; clear wq_5 wq_6 wq_8 wq_11 hT8 wq_14 wq_15 wq_16 wq_17 wq_18 wq_19 hT9 wq_21 wq_23 wq_24 wq_25 wq_26 wq_27 wq_28 wq_29 wq_31 wq_32 wq_34 wq_35 wq_36 wq_37 wq_38 wq_39 wq_49 wq_50 wq_51 wq_54 wq_61 hn2 wq_66 wq_67 wq_68 wq_69 wq_70 wq_71 wq_72 wq_73 wq_74 wq_75 lifted wq_77 wq_78; (repeat revert ‹_›); intro cutP cutQ; exact cutP.out
    case turn =>
      intro c i t u h tk own hi hoff hP F1 N1
      obtain ⟨o1, o2, o3, o4, o5, d1, d2, d3, d4, d5, tb, cds⟩ := c
      dsimp only at hoff hP F1 N1
      obtain ⟨⟨e1, e2, e3, e4, e5⟩, hTab⟩ := hP
      simp only [List.cons_append, List.nil_append, List.map_cons, List.map_nil] at hoff N1
      (try (rename LooseAre .. => zz; clear zz))
      (try (rename Flt.MathXP .. => zz; clear zz))
      (try (rename Tables .. => zz; clear zz))
      (try (rename TopE .. => zz; clear zz))
      (try (rename TopW .. => zz; clear zz))
      (try (rename TabsAt .. => zz; clear zz))
      (try (rename Heap.CodeRec .. => zz; clear zz))
      (try (rename Shape.has _ _ = true => zz; clear zz))
      (try (rename ReadsAll .. => zz; clear zz))
      (try (rename ReadsAllW .. => zz; clear zz))
      (try (rename Dflts .. => zz; clear zz))
      (try (rename Well .. => zz; clear zz))
      (try (rename Reads .. => zz; clear zz))
      (try (rename CellsAre .. => zz; clear zz))
      (try (rename Ground .. => zz; clear zz))
      (try (rename _ ∧ _ => zz; clear zz))
      repeat (rename Obj.data _ = Data.cell (bindC _ _ _ _) => zz; clear zz)
      clear F8 N8 R9
      try dsimp only
      simp only [kstB] at F1
      refine abs_turn ?_
      intro Q0 E0
      rename_i W S0 mg mb fa ob pm doc ho hgn T0 ns hlay0 hLy hr hl2 wa wb vs wc hc1 hc2 hh1 tk1 ob1 ob2 ob3 ob4 ob5 X T B l0 ha tka hb tkb Nx hc tkc t1 u1 v1 av hLs Fa Fb
      clear Fa Fb zqlF' hLs av Nx ho hgn hT8 T0 hlay0 hLy hr hl2 hc2 lifted
      obtain ⟨p, loose, mean, T9⟩ : ∃ p loose mean, Top p loose mean mg mb _ := ⟨_, _, _, T⟩
      clear T
      generalize ghostOf S1.heap [(124, 122)] = g, S1.heap.objs.size = L, S1.gens = sgens, S1.drawn = sdrawn, S1.os = sos at *
      change Fr g L h _ at F1
      change News g L h _ at N1
      obtain ⟨ownx, hownx⟩ : ∃ r, r = cds ++ own := ⟨_, rfl⟩
      rw [← hownx] at N1
      obtain ⟨hOwn, hox⟩ := ownx_of (adr := [L + 1 + 1 + 1 + 1 + 1, L + 1 + 1 + 1 + 1, L + 1 + 1 + 1, L + 1 + 1, L + 1, 122]) hownx hoff (fun b hb => by
        simp only [List.mem_cons, List.not_mem_nil, or_false] at hb ⊢
        rcases hb with h | h | h | h | h | h <;> simp [h]) (fun b hb => by
        simp only [List.mem_cons]
        exact .inr (.inr (.inr (.inr (.inr (.inr hb)))))) hTab.off
      clear hoff hownx
      change CodeHd g 124 122 at codeHd
      change wpAny _ _ _ _ _ _
      k_fold
      (repeat revert ‹_›); intro cutP cutQ W S0 S1 mg mb fa ob pm doc ns wa wb vs wc hI hc1 hh1 tk1 ob1 ob2 ob3 ob4 ob5 ha tka hb tkb hc tkc t1 u1 v1 n hn2 sl i t u h tk own hi o1 o2 o3 o4 o5 d1 d2 d3 d4 d5 tb cds e1 e2 e3 e4 e5 Q0 E0 p loose mean g L sgens sdrawn sos X B l0 hsl hTab T9 F1 ownx N1 hOwn hox codeHd qk ek; clear S0 S1 ob pm doc wa wb wc hh1 tk1 ob1 ob2 ob3 ob4 ob5 ha tka hb tkb hc tkc t1 u1 v1; (repeat revert ‹_›); intro cutP cutQ; exact cutQ.out
set_option maxHeartbeats 16000000 in
noncomputable def law_c : Cut law_a.Q := by
  apply Cut.mk
  case f =>
    refine wrapCut ?_
    intro cutP
    intro W mg mb fa ns vs hI hc1 n hn2 sl i t u h tk own hi o1 o2 o3 o4 o5 d1 d2 d3 d4 d5 tb cds e1 e2 e3 e4 e5 Q0 E0 p loose mean g L sgens sdrawn sos X B l0 hsl hTab T9 F1 ownx N1 hOwn hox codeHd qk ek
    k_fill
    w_top off
    (rename Fr _ _ _ _ => zF; refine fold_fr zF ?_; clear zF; intro mmc F1)
    (walk1; try dsimp only)
    (walk1; try dsimp only)
    (walk1; try dsimp only)
    (walk1; try dsimp only)
    (walk1; try dsimp only)
    (walk1; try dsimp only)
    (walk1; try dsimp only)
    (walk1; try dsimp only)
    (walk1; try dsimp only)
    (walk1; try dsimp only)
    (walk1; try dsimp only)
    (walk1; try dsimp only)
    (walk1; try dsimp only)
    (walk1; try dsimp only)
    (walk1; try dsimp only)
    (walk1; try dsimp only)
    (walk1; try dsimp only)
    (walk1; try dsimp only)
    (walk1; try dsimp only)
    (walk1; try dsimp only)
    (walk1; try dsimp only)
    (walk1; try dsimp only)
    (walk1; try dsimp only)
    (walk1; try dsimp only)
    (walk1; try dsimp only)
    (walk1; try dsimp only)
    (walk1; try dsimp only)
    (walk1; try dsimp only)
    (walk1; try dsimp only)
    (walk1; try dsimp only)
    (walk1; try dsimp only)
    (walk1; try dsimp only)
    (walk1; try dsimp only)
    (walk1; try dsimp only)
    (walk1; try dsimp only)
    (walk1; try dsimp only)
    (rename Fr _ _ _ _ => zF; refine fold_fr zF ?_; clear zF; intro mmd zF9)
    (k_steps)
    unfold Stand
    (rename Fr _ _ _ _ => zF; refine fold_fr zF ?_; clear zF; intro mme zF9)
    rename News _ _ _ _ => N7
    obtain ⟨src, so, l1, bs1, n1, l2, bs2, n2, p1, p2, p3, rfl, rfl, rfl, rfl, rfl, rfl, rfl, rfl, rfl, rfl, rfl⟩ := nameRows N7
    have hb1 : bs1.length = 12 := by assumption
    have hb2 : bs2.length = 12 := by assumption
    have R1 := row_ok bs1 hb1
    have R2 := row_ok bs2 hb2
    obtain ⟨q1, hq1, hq17⟩ := R1.len
    obtain ⟨q2, hq2, hq27⟩ := R2.len
    have hq120 : q1 ≤ 20 := by omega
    have hq220 : q2 ≤ 20 := by omega
    have hz1 : (pairsOf (turnsOf bs1)).length ≤ 100 := Nat.le_trans R1.cap (by decide)
    have hz2 : (pairsOf (turnsOf bs2)).length ≤ 100 := Nat.le_trans R2.cap (by decide)
    have hn1 := R1.normal
    have hn2 := R2.normal
    have hf1 := R1.flat
    have hf2 := R2.flat
    have hfl1 : (flat (pairsOf (turnsOf bs1))).length = 2 * q1 := by rw [hf1]; exact hq1
    have hfl2 : (flat (pairsOf (turnsOf bs2))).length = 2 * q2 := by rw [hf2]; exact hq2
    have hc1 := R1.cap
    have hc2 := R2.cap
    have hqz := mb_len (pairsOf (turnsOf bs1)) (pairsOf (turnsOf bs2))
    have hb12 := turns_bounds hb1 hb2
    rename OwnOff ownx _ => O7
    (obtain ⟨R, N6, T6, O6⟩ := stage1 N7 O7 (by (repeat' (refine And.intro ?_ ?_)) <;> k_ne) (by (repeat' (refine And.intro ?_ ?_)) <;> k_ne) (by (repeat' (refine And.intro ?_ ?_)) <;> k_ne) (by (repeat' (refine And.intro ?_ ?_)) <;> k_ne) (by (repeat' (refine And.intro ?_ ?_)) <;> k_ne))
    have z1 := srcApart N7 (by (repeat' (refine And.intro ?_ ?_)) <;> k_ne) (by (repeat' (refine And.intro ?_ ?_)) <;> k_ne) (by (repeat' (refine And.intro ?_ ?_)) <;> k_ne)
    have S6 : SpanAll R [] := spanAll_nil
    clear N7 O7
    obtain ⟨zz1, zz2, zz3⟩ := z1
    repeat (rename _ ∧ _ => zz; clear zz)
    (rename Fr _ _ _ _ => zF; refine fold_fr zF ?_; clear zF; intro mmf zF9)
    k_steps
    unfold Stand
    rename News _ _ _ _ => N7
    rename Fr _ _ _ _ => F7
    rename SrcIs _ => hsrc
    rename SpanAll _ _ => S6
    rename SubT _ _ => T6
    rename OwnOff _ _ => O6
    obtain ⟨R2, rfl⟩ := nameOff O6
    have N6 := sub4 (a := (src, _)) (b := (_, o5)) (c := (_, o4)) (d := (122, tabObj tb)) N7 (by k_mem) (by k_mem) (by k_mem) (by k_mem) (R := R2) (by intro p hp; walk_at "own_in1")
    clear N7
    obtain ⟨R6, hR6⟩ := nameTl N6
    repeat (rename _ < _ ∧ _ => zz; clear zz)
    repeat (rename IntsAre _ (turnsOf _) => zz; clear zz)
    have zz4 := And.intro zz1 (And.intro zz2 zz3)
    clear zz1 zz2 zz3
    repeat (rename @Ne Nat src _ => zz; clear zz)
    obtain ⟨zz1, zz2, zz3⟩ := zz4
    (repeat revert ‹_›); intro cutP W mg mb fa ns vs hI wc_15 n wc_33 sl i t u h wc_39 own hi o1 o2 o3 o4 o5 d1 d2 d3 d4 d5 tb cds e1 e2 e3 e4 e5 Q0 E0 p loose mean g L sgens sdrawn sos X B l0 hsl hTab T9 ownx hOwn codeHd qk ek mmc wg_81 wg_82 wg_83 wg_84 wg_85 wg_86 wg_87 wg_88 wg_89 wg_90 wg_91 wg_92 wg_93 mmd wg_95 wg_96 wg_97 wg_98 mme src so l1 bs1 n1 l2 bs2 n2 p1 p2 p3 wg_111 wg_112 wg_113 wg_114 wg_115 wg_116 hb1 hb2 R1 wg_120 q1 hq1 hq17 q2 hq2 hq27 hq120 hq220 hz1 hz2 hn1 hn2 hf1 hf2 hfl1 hfl2 hc1 hc2 hqz hb12 R mmf wg_143 wg_144 wg_145 wg_146 wg_147 wg_148 wg_149 wg_150 wg_151 wg_152 wg_153 wg_154 tk wg_156 wg_157 wg_158 wg_159 wg_160 wg_161 wg_162 wg_163 wg_164 wg_165 wg_166 wg_167 wg_168 wg_169 wg_170 wg_171 wg_172 hsrc wg_174 wg_175 wg_176 wg_177 wg_178 wg_179 wg_180 wg_181 wg_182 wg_183 wg_184 wg_185 wg_186 wg_187 wg_188 wg_189 wg_190 wg_191 wg_192 wg_193 wg_194 wg_195 wg_196 wg_197 wg_198 wg_199 wg_200 wg_201 wg_202 wg_203 wg_204 F7 wg_206 wg_207 wg_208 R2 S6 T6 O6 N6 R6 hR6 zz1 zz2 zz3; clear vs hI wc_15 wc_33 o3 d3 e3 hsl wg_81 wg_82 wg_83 wg_84 wg_85 wg_86 wg_87 wg_88 wg_89 wg_90 wg_91 wg_92 wg_93 wg_95 wg_96 wg_97 wg_98 so wg_111 R1 wg_120 hq120 hq220 hf1 hf2 hfl1 hfl2 hc2 hqz hb12 R wg_144 wg_145 wg_146 wg_148 wg_149 wg_150 wg_151 wg_152 wg_153 wg_154 tk wg_156 wg_157 wg_158 wg_159 wg_160 wg_161 wg_162 wg_163 wg_164 wg_165 wg_166 wg_167 wg_168 wg_169 wg_171 wg_172 wg_174 wg_175 wg_176 wg_177 wg_178 wg_179 wg_180 wg_181 wg_182 wg_183 wg_184 wg_185 wg_186 wg_187 wg_188 wg_189 wg_190 wg_191 wg_192 wg_193 wg_194 wg_195 wg_196 wg_197 wg_198 wg_199 wg_202 wg_207 wg_208; (repeat revert ‹_›); intro cutP; exact cutP.out
set_option maxHeartbeats 16000000 in
noncomputable def law_g : Cut law_c.P := by
  apply Cut.mk
  case f =>
    refine wrapCut ?_
    intro cutP
    intro W mg mb fa ns n sl i t u h wc_39 own hi o1 o2 o4 o5 d1 d2 d4 d5 tb cds e1 e2 e4 e5 Q0 E0 p loose mean g L sgens sdrawn sos X B l0 hTab T9 ownx hOwn codeHd qk ek mmc mmd mme src l1 bs1 n1 l2 bs2 n2 p1 p2 p3 wg_112 wg_113 wg_114 wg_115 wg_116 hb1 hb2 q1 hq1 hq17 q2 hq2 hq27 hz1 hz2 hn1 hn2 hc1 mmf wg_143 wg_147 wg_170 hsrc wg_200 wg_201 wg_203 wg_204 F7 wg_206 R2 S6 T6 O6 N6 R6 hR6 zz1 zz2 zz3
    k_fill
    w_top off
    (rename Fr _ _ _ _ => zF; refine fold_fr zF ?_; clear zF; intro mmg F7)
    refine wpAny_Assign_Name ?_
    refine' compStep 1 F7 ?kclos ?kcell ?kkind ?knames ?kx ?_ (by intro _; rfl)
    (case kclos => with_unfolding_all rfl)
    (case kcell => decide)
    (case kkind => rfl)
    (case knames => decide)
    (case kx => rfl)
    k_steps
    rename IsRange _ _ _ _ _ _ _ _ => R7
    rename Fr _ _ _ _ => F7
    rename News _ _ _ _ => N7
    rw [← hR6] at N7
    refine ⟨_, _, _, _, _, _, 3, _, rfl, rfl, F7, N7, R7, by decide, by decide, by rw [PySem.sizeLine_eq]; omega, fun g8 => ?_⟩
    refine' compRest_ind (fun i ys nw => ∃ so' bs, nw = (src, so') :: R6 ∧ SrcIs so' ∧ ys = List.map Value.bool bs ∧ bs.length = i) ?hz ?turn ?fin
    case hz => exact ⟨_, [], rfl, hsrc, rfl, rfl⟩
    case turn =>
      intro i' ys nw hi' hJ v I oI C oC D m₂ h tk E' hv hC hx F N off ne
      obtain ⟨so', bs3, rfl, hs', rfl, hbl⟩ := hJ
      obtain ⟨t', rfl⟩ := hv
      have off' := off
      rw [hR6] at N off'
      simp only [LCg.Off3] at off'
      clear F7 N7 ne
      obtain ⟨oa, -⟩ := off'
      k_steps
      (rename Fr _ _ _ _ => F9)
      (rename News _ _ _ _ => N9)
      obtain ⟨so3, rfl⟩ := nameSr N9
      refine' LCg.CompEnd.intro F9 N9 ((src, so3) :: R6) ?sub off trivial ⟨_, bs3 ++ [_], rfl, ?hsk, ?le, ?ll⟩
      (case hsk => with_reducible assumption)
      (case le => rw [List.map_append]; rfl)
      (case ll => rw [List.length_append, hbl]; rfl)
      (case sub =>
        rw [hR6]
        intro p hp
        simp only [List.mem_cons] at hp ⊢
        rcases hp with h | h | h | h | h | h | h | h <;> simp [h])
    case fin =>
      intro ys nw hJ D h tk F8 N8 o1
      obtain ⟨so', bs3, rfl, hs3, rfl, hbl⟩ := hJ
      rw [hR6] at N8 o1
      clear F7 N7 R7
      (try dsimp only)
      rename ∀ (b : Addr) (o : Obj), _ → _ => zz
      clear zz
      simp only [LCg.Off1] at o1
      (rename Fr _ _ _ _ => zF; refine fold_fr zF ?_; clear zF; intro mmh F8)
      obtain ⟨od1, od2, od3, od4, -⟩ := o1
      change News g L h ((D, listOf (boolsV bs3) _) :: _) at N8
      k_steps
      rename News _ _ _ _ => N7
      rename Fr _ _ _ _ => F7
      (rename Fr _ _ _ _ => zF; refine fold_fr zF ?_; clear zF; intro mmi F7)
      obtain ⟨tl, oT, rfl, rfl⟩ := nameLam N7
      have hlt : @LT.lt Nat _ 122 tl := by omega
      have hfr : ∀ q ∈ [(tl, listOf (boolsV ([false] ++ bs3)) 0), (src, so'), (L + 1 + 1 + 1 + 1 + 1, oT), (L + 1 + 1 + 1 + 1, o4)] ++ R2, q.1 ≠ 122 := fun q hq => by
        rcases List.mem_append.mp hq with hq | hq
        · simp only [List.mem_cons, List.not_mem_nil, or_false] at hq
          rcases hq with rfl | rfl | rfl | rfl
          · exact Nat.ne_of_gt hlt
          · exact zz3
          · exact Nat.ne_of_gt (Nat.lt_of_lt_of_le l0 (by omega))
          · exact Nat.ne_of_gt (Nat.lt_of_lt_of_le l0 (by omega))
        · exact O6 q hq 122 (by simp)
      have N8 : News g L _ ((122, tabObj tb) :: ([(tl, listOf (boolsV ([false] ++ bs3)) 0), (src, so'), (L + 1 + 1 + 1 + 1 + 1, oT), (L + 1 + 1 + 1 + 1, o4)] ++ R2)) := fun q hq => N7 q (by
        simp only [List.mem_cons, List.mem_append, List.not_mem_nil, or_false] at hq ⊢
        rcases hq with h | (h | h | h | h) | h <;> simp [h])
      clear N7
      refine lam_any (by rfl) F7 N8 T9 codeHd rfl hfr (fun q hq => T6 q (by simp [hOwn.c q hq])) hTab.tri hTab.ok1 (by rfl) ?_
      intro f c' ctv h1 tk1 tb1 R3 cds1 F8 N9 sR hC1 t1 a1 k1 ofs1 ow1 l1
      simp only [List.cons_append, List.nil_append] at N8 N9 l1
      have S7 := spanAll_mono S6 sR
      have T7 : SubT _ R3 := fun p hp => sR p (T6 p hp)
      (have O7 := (ofs1 [src, L + 1 + 1 + 1 + 1 + 1, L + 1 + 1 + 1 + 1, 122] (by simp only [List.cons_append, List.nil_append]; walk_at "adr_in")).1 O6)
      (have O8 := (ofs1 [L + 1 + 1 + 1 + 1 + 1, L + 1 + 1 + 1 + 1, L + 1 + 1 + 1, L + 1 + 1, L + 1, 122] (by simp only [List.cons_append, List.nil_append]; walk_at "adr_in")).2 hTab.off)
      have hOw := ow1 own (fun q hq => T6 q (by simp [hOwn.w q hq])) hOwn.off
      have hT1 : TabI tb1 cds1 _ := ⟨t1, .inr ⟨c', a1⟩, k1 lp2 lamQ (.inl (by decide)) hTab.ok2, k1 lp3 lamQ (.inl (by decide)) hTab.ok3, O8⟩
      have hlf : (@LT.lt Nat _ tl f) ∧ (@LT.lt Nat _ src f) := ⟨l1 _ (List.Mem.tail _ (List.Mem.head _)), l1 _ (List.Mem.tail _ (List.Mem.tail _ (List.Mem.head _)))⟩
      obtain ⟨-, oc, vs1, tt1, hoc, hod, hov⟩ := a1
      have hoc3 := hC1 _ hoc
      obtain ⟨fo, hfo⟩ := nameHd N9
      rw [← hfo] at N9
      clear N8 S6 T6 O6 hTab ofs1 ow1 k1 l1 t1 O8 sR
      (repeat revert ‹_›); intro cutP W mg mb fa ns n sl i t u wc_38 wc_39 own hi o1 o2 o4 o5 d1 d2 d4 d5 tb cds e1 e2 e4 e5 Q0 E0 p loose mean g L sgens sdrawn sos X B l0 T9 ownx hOwn codeHd qk ek mmc mmd mme src l1 bs1 n1 l2 bs2 n2 p1 p2 p3 wg_112 wg_113 wg_114 wg_115 wg_116 hb1 hb2 q1 hq1 hq17 q2 hq2 hq27 hz1 hz2 hn1 hn2 hc1 mmf wg_143 wg_147 wg_170 hsrc wg_200 wg_201 wg_203 wg_204 wg_206 R2 R6 hR6 zz1 zz2 zz3 mmg wj_214 wj_215 wj_216 wj_217 wj_218 g8 D h wj_222 so' bs3 hs3 hbl mmh od1 od2 od3 od4 wj_232 wj_233 wj_234 wj_235 wj_236 wj_237 wj_238 wj_239 wj_240 tk mmi F7 tl oT wj_246 wj_247 hlt hfr f c' ctv h1 tk1 tb1 R3 cds1 F8 hC1 S7 T7 O7 hOw hT1 hlf oc vs1 tt1 hoc hod hov hoc3 fo N9 hfo; clear d5 e5 wg_170 hsrc wg_203 wg_204 zz1 wj_214 wj_215 wj_216 wj_217 wj_218 g8 h wj_222 od1 od2 od3 od4 wj_232 wj_233 wj_234 wj_235 wj_237 wj_238 wj_239; (repeat revert ‹_›); intro cutP; exact cutP.out
set_option maxHeartbeats 16000000 in
noncomputable def law_j : Cut law_g.P := by
  apply Cut.mk
  case f =>
    refine wrapCut ?_
    intro cutP
    intro W mg mb fa ns n sl i t u wc_38 wc_39 own hi o1 o2 o4 o5 d1 d2 d4 tb cds e1 e2 e4 Q0 E0 p loose mean g L sgens sdrawn sos X B l0 T9 ownx hOwn codeHd qk ek mmc mmd mme src l1 bs1 n1 l2 bs2 n2 p1 p2 p3 wg_112 wg_113 wg_114 wg_115 wg_116 hb1 hb2 q1 hq1 hq17 q2 hq2 hq27 hz1 hz2 hn1 hn2 hc1 mmf wg_143 wg_147 wg_200 wg_201 wg_206 R2 R6 hR6 zz2 zz3 mmg D so' bs3 hs3 hbl mmh wj_236 wj_240 tk mmi F7 tl oT wj_246 wj_247 hlt hfr f c' ctv h1 tk1 tb1 R3 cds1 F8 hC1 S7 T7 O7 hOw hT1 hlf oc vs1 tt1 hoc hod hov hoc3 fo N9 hfo
    k_fill
    w_top off
    (k_with "m eval Name" => (((with_reducible show wpAny _ _ (eval (Expr.Name _ _) (envX _ _ _ _ _ _)) _ _ _); k_dflt (refine' nameX_G ?F.u119 ?c.u119 ?g.u119 ?d.u119 ?_ ?a.u119 ?b.u119 ?e1.u119 ?e2.u119; (case F => k_asm); (case a => rfl); (case b => rfl); (case c => rfl); (case g => with_reducible assumption); (case d => with_reducible assumption); (case e1 => decide); (case e2 => decide); k_whole))))
    (k_with "m subscriptTail" => ((k_here; (with_reducible show wpAny _ _ (subscriptTail _ _ (Value.ref _) (Value.int _ _)) _ _ _); (with_unfolding_all refine' item_bools ?k1.u120 ?k2.u120 ?k3.u120 ?k4.u120 ?_ ?k6.u120; (case k1 => exact isList_at (by k_asm) (by with_reducible assumption)); (case k2 => exact (ix_bounds _ _).1); (case k3 => refine Int.lt_of_lt_of_le (ix_bounds _ _).2 ?_; simp only [List.length_cons]; omega); (case k4 => simp only [List.length_cons]; omega); (case k6 => with_unfolding_all rfl); k_whole))))
    (rename Fr _ _ _ _ => zF; refine fold_fr zF ?_; clear zF; intro mmj F8)
    have hK : KeepsFn W p loose mean mg mb f (fun g' => g'.get? f = some fo ∧ g'.CodeRec (.ref c') lamQ ∧ g'.get? (L + 1 + 1 + 1 + 1 + 1) = some oT ∧ g'.IsList tl (boolsV (false :: bs3))) (kfOf (false :: bs3)) := by
      refine ⟨fun g1 g2 st h => ⟨st _ _ h.1, h.2.1.keeps st, st _ _ h.2.2.1, isList_keeps st h.2.2.2⟩, fun g1 h => ⟨fo, _, h.1, by rw [hfo]⟩, fun a b => ?_⟩
      clear F8 S7 T7 O7 hOw hT1 N9 hfr T9 codeHd X B hOwn
      intro dp un gd cn cs a9 ccd cl outer A₀ base h₀ L9 m9 s9 Q9 E9 B9 F9 X9 N9 T9 hk9 hpre hd9 hu9 hret9
      have hp1 : s9.heap.get? f = some fo := of_hideAll _ hpre.1
      have hp2 : s9.heap.CodeRec (.ref c') lamQ := hpre.2.1.keeps fun _ _ e => of_hideAll _ e
      subst hfo
      refine wpAny_call ?_
      refine' callSE (binds := [(Str.ofString "is_in", .bool a), (Str.ofString "is_there", .bool b)]) B9 F9 X9 N9 T9 rfl rfl hk9 hpre hp1 hp2 ?k8 ?k9 ?kB hret9 ?_ ?c3 ?c4 ?c5 ?c6
      (case k8 => ktr_room)
      (case k9 => exact rfl)
      (case kB => intro y hy; simp only [List.mem_cons, List.not_mem_nil, or_false] at hy; rcases hy with rfl | rfl <;> rfl)
      (case c3 => exact rfl)
      (case c4 => exact rfl)
      (case c5 => exact rfl)
      (case c6 => decide)
      clear hpre hret9 hp1 hp2 F9 N9
      k_whole
      intro g' L' h' F' N' B' X' T' pre'
      obtain ⟨pr1, pr2, pr3, pr4⟩ := pre'
      (try dsimp only); (try k_lift B'); (try k_fold)
      k_steps
      rw [kfOf_ix]
      exact leaveS_sub [] F' N' sub_nil ⟨rfl, rfl⟩
    k_with_none
    (k_with "m omega" => ((first | decide | (with_reducible exact Int.natCast_nonneg _) | exact om1 (by with_reducible assumption) (by decide) | exact om2 (by with_reducible assumption) (by decide) | exact om3 (by with_reducible assumption) (by decide) | exact om4 (by with_reducible assumption) (by decide) | exact om5 (by with_reducible assumption) (by decide) | exact om6 (by with_reducible assumption) (by decide) | exact om7 (by with_reducible assumption) (by decide) | exact om8 (by with_reducible assumption) (by decide) | exact om9 (by with_reducible assumption) (by decide) | exact om10 (by with_reducible assumption) (by decide) | exact om5 (by with_reducible assumption) (om2 (by with_reducible assumption) (by decide)) | exact om6 (by with_reducible assumption) (om1 (by with_reducible assumption) (by decide)) | exact Nat.le_of_lt (by with_reducible assumption) | exact Nat.succ_le_of_lt (by with_reducible assumption) | exact Int.le_of_lt (by with_reducible assumption) | exact Int.not_le.mp (by with_reducible assumption) | exact Int.not_lt.mp (by with_reducible assumption) | exact Nat.lt_of_not_le (by with_reducible assumption) | exact Nat.le_of_not_lt (by with_reducible assumption) | fail)))
    (k_with "m ne_look" => (with_reducible (first | (refine neS ?_; assumption) | (refine neT ?_; assumption) | (refine ltS ?_; assumption) | (refine ltT ?_; assumption) | (rename _ ∧ _ => zqz; first | ((have zqzz : @LT.lt Nat _ _ _ := zqz.1); clear zqzz; first | exact ltS zqz.1 | exact ltT zqz.1 | exact ltS zqz.2.1 | exact ltT zqz.2.1 | exact ltS zqz.2.2.1 | exact ltT zqz.2.2.1 | exact ltS zqz.2.2.2.1 | exact ltT zqz.2.2.2.1 | exact ltS zqz.2.2.2.2.1 | exact ltT zqz.2.2.2.2.1 | exact ltS zqz.2.2.2.2.2.1 | exact ltT zqz.2.2.2.2.2.1 | exact ltS zqz.2.2.2.2.2.2.1 | exact ltT zqz.2.2.2.2.2.2.1 | exact ltS zqz.2.2.2.2.2.2.2.1 | exact ltT zqz.2.2.2.2.2.2.2.1 | exact ltS zqz.2.2.2.2.2.2.2.2.1 | exact ltT zqz.2.2.2.2.2.2.2.2.1 | exact ltS zqz.2.2.2.2.2.2.2.2.2.1 | exact ltT zqz.2.2.2.2.2.2.2.2.2.1 | exact ltS zqz.2.2.2.2.2.2.2.2.2.2.1 | exact ltT zqz.2.2.2.2.2.2.2.2.2.2.1 | exact ltS zqz.2.2.2.2.2.2.2.2.2.2.2.1 | exact ltT zqz.2.2.2.2.2.2.2.2.2.2.2.1 | exact ltS zqz.2.2.2.2.2.2.2.2.2.2.2.2.1 | exact ltT zqz.2.2.2.2.2.2.2.2.2.2.2.2.1 | exact ltS zqz.2.2.2.2.2.2.2.2.2.2.2.2.2.1 | exact ltT zqz.2.2.2.2.2.2.2.2.2.2.2.2.2.1 | exact ltS zqz.2 | exact ltT zqz.2 | exact ltS zqz.2.2 | exact ltT zqz.2.2 | exact ltS zqz.2.2.2 | exact ltT zqz.2.2.2 | exact ltS zqz.2.2.2.2 | exact ltT zqz.2.2.2.2 | exact ltS zqz.2.2.2.2.2 | exact ltT zqz.2.2.2.2.2 | exact ltS zqz.2.2.2.2.2.2 | exact ltT zqz.2.2.2.2.2.2 | exact ltS zqz.2.2.2.2.2.2.2 | exact ltT zqz.2.2.2.2.2.2.2 | exact ltS zqz.2.2.2.2.2.2.2.2 | exact ltT zqz.2.2.2.2.2.2.2.2 | exact ltS zqz.2.2.2.2.2.2.2.2.2 | exact ltT zqz.2.2.2.2.2.2.2.2.2 | exact ltS zqz.2.2.2.2.2.2.2.2.2.2 | exact ltT zqz.2.2.2.2.2.2.2.2.2.2 | exact ltS zqz.2.2.2.2.2.2.2.2.2.2.2 | exact ltT zqz.2.2.2.2.2.2.2.2.2.2.2 | exact ltS zqz.2.2.2.2.2.2.2.2.2.2.2.2 | exact ltT zqz.2.2.2.2.2.2.2.2.2.2.2.2 | exact ltS zqz.2.2.2.2.2.2.2.2.2.2.2.2.2 | exact ltT zqz.2.2.2.2.2.2.2.2.2.2.2.2.2) | exact neS zqz.1 | exact neS zqz.1.1 | exact neS zqz.1.2 | exact neS zqz.1.2.1 | exact neS zqz.1.2.2 | exact neS zqz.2.1 | exact neS zqz.2.1.1 | exact neS zqz.2.1.2 | exact neS zqz.2.1.2.1 | exact neS zqz.2.1.2.2 | exact neS zqz.2.2.1 | exact neS zqz.2.2.1.1 | exact neS zqz.2.2.1.2 | exact neS zqz.2.2.1.2.1 | exact neS zqz.2.2.1.2.2 | exact neS zqz.2.2.2.1 | exact neS zqz.2.2.2.1.1 | exact neS zqz.2.2.2.1.2 | exact neS zqz.2.2.2.1.2.1 | exact neS zqz.2.2.2.1.2.2 | exact neS zqz.2.2.2.2.1 | exact neS zqz.2.2.2.2.1.1 | exact neS zqz.2.2.2.2.1.2 | exact neS zqz.2.2.2.2.1.2.1 | exact neS zqz.2.2.2.2.1.2.2 | exact neS zqz.2.2.2.2.2.1 | exact neS zqz.2.2.2.2.2.1.1 | exact neS zqz.2.2.2.2.2.1.2 | exact neS zqz.2.2.2.2.2.1.2.1 | exact neS zqz.2.2.2.2.2.1.2.2 | exact neS zqz.2.2.2.2.2.2.1 | exact neS zqz.2.2.2.2.2.2.1.1 | exact neS zqz.2.2.2.2.2.2.1.2 | exact neS zqz.2.2.2.2.2.2.1.2.1 | exact neS zqz.2.2.2.2.2.2.1.2.2 | exact neS zqz.2.2.2.2.2.2.2.1 | exact neS zqz.2.2.2.2.2.2.2.1.1 | exact neS zqz.2.2.2.2.2.2.2.1.2 | exact neS zqz.2.2.2.2.2.2.2.1.2.1 | exact neS zqz.2.2.2.2.2.2.2.1.2.2 | exact neS zqz.2.2.2.2.2.2.2.2.1 | exact neS zqz.2.2.2.2.2.2.2.2.1.1 | exact neS zqz.2.2.2.2.2.2.2.2.1.2 | exact neS zqz.2.2.2.2.2.2.2.2.1.2.1 | exact neS zqz.2.2.2.2.2.2.2.2.1.2.2 | exact neS zqz.2 | exact neS zqz.2.2 | exact neS zqz.2.2.2 | exact neS zqz.2.2.2.2 | exact neS zqz.2.2.2.2.2 | exact neS zqz.2.2.2.2.2.2 | exact neS zqz.2.2.2.2.2.2.2 | exact neS zqz.2.2.2.2.2.2.2.2 | exact neT zqz.1 | exact neT zqz.1.1 | exact neT zqz.1.2 | exact neT zqz.1.2.1 | exact neT zqz.1.2.2 | exact neT zqz.2.1 | exact neT zqz.2.1.1 | exact neT zqz.2.1.2 | exact neT zqz.2.1.2.1 | exact neT zqz.2.1.2.2 | exact neT zqz.2.2.1 | exact neT zqz.2.2.1.1 | exact neT zqz.2.2.1.2 | exact neT zqz.2.2.1.2.1 | exact neT zqz.2.2.1.2.2 | exact neT zqz.2.2.2.1 | exact neT zqz.2.2.2.1.1 | exact neT zqz.2.2.2.1.2 | exact neT zqz.2.2.2.1.2.1 | exact neT zqz.2.2.2.1.2.2 | exact neT zqz.2.2.2.2.1 | exact neT zqz.2.2.2.2.1.1 | exact neT zqz.2.2.2.2.1.2 | exact neT zqz.2.2.2.2.1.2.1 | exact neT zqz.2.2.2.2.1.2.2 | exact neT zqz.2.2.2.2.2.1 | exact neT zqz.2.2.2.2.2.1.1 | exact neT zqz.2.2.2.2.2.1.2 | exact neT zqz.2.2.2.2.2.1.2.1 | exact neT zqz.2.2.2.2.2.1.2.2 | exact neT zqz.2.2.2.2.2.2.1 | exact neT zqz.2.2.2.2.2.2.1.1 | exact neT zqz.2.2.2.2.2.2.1.2 | exact neT zqz.2.2.2.2.2.2.1.2.1 | exact neT zqz.2.2.2.2.2.2.1.2.2 | exact neT zqz.2.2.2.2.2.2.2.1 | exact neT zqz.2.2.2.2.2.2.2.1.1 | exact neT zqz.2.2.2.2.2.2.2.1.2 | exact neT zqz.2.2.2.2.2.2.2.1.2.1 | exact neT zqz.2.2.2.2.2.2.2.1.2.2 | exact neT zqz.2.2.2.2.2.2.2.2.1 | exact neT zqz.2.2.2.2.2.2.2.2.1.1 | exact neT zqz.2.2.2.2.2.2.2.2.1.2 | exact neT zqz.2.2.2.2.2.2.2.2.1.2.1 | exact neT zqz.2.2.2.2.2.2.2.2.1.2.2 | exact neT zqz.2 | exact neT zqz.2.2 | exact neT zqz.2.2.2 | exact neT zqz.2.2.2.2 | exact neT zqz.2.2.2.2.2 | exact neT zqz.2.2.2.2.2.2 | exact neT zqz.2.2.2.2.2.2.2 | exact neT zqz.2.2.2.2.2.2.2.2 | (clear zqz; walk_at "ne_look")))))
    (k_with "m om" => (first | ((repeat (with_reducible rename _ ∧ _ => zqzz; clear zqzz)); (repeat (with_reducible rename @Ne Nat _ _ => zqzz; clear zqzz)); omega) | omega))
    (k_with "m spec_enter" => ((
      unfold SpecC
      k_fill
      intro zqdp zqun zqgd zqcn zqcs zqa zqccd zqcl zqouter zqA₀ zqbase zqh₀ zqL zqm zqs zqQ zqE zqB zqF zqX zqN zqT zqhk zqhpre zqhd zqhu zqhret
      obtain ⟨zqsh, zqsg, zqsd, zqst, zqso⟩ := zqs
      dsimp only at zqF zqN zqhpre zqhret
      refine wpAny_call ?_
      refine' callSK ?k1.u4 ?k2.u4 ?k3.u4 ?k4.u4 ?k5.u4 ?kA.u4 ?kF.u4 ?kK.u4 ?kpre.u4 ?kret.u4 ?k6.u4 ?k7.u4 ?k8.u4 ?k9.u4 ?kB.u4 ?_ ?c2.u4 ?c3.u4 ?c4.u4 ?c5.u4
      (case kA => exact rfl); (case kF => exact rfl); (case kK => assumption); (case k1 => k_asm); (case k2 => k_asm); (case k3 => k_asm); (case k4 => k_asm); (case k5 => k_asm)
      (case kpre => exact zqhpre)
      (case kret => exact zqhret)
      (case k6 => k_is); (case k7 => k_is); (case k8 => ktr_room); (case k9 => exact BindsTo.of_eq rfl); (case kB => exact locs rfl); (case c2 => decide); (case c3 => exact rfl); (case c4 => exact rfl); (case c5 => exact rfl)
      clear zqhpre zqhret
      k_whole
      intro zqg' zqL' zqh' zqF' zqN' zqB' zqX' zqT' zqpre'
      (refine fold_fr zqF' ?_; clear zqF'; intro zqmm zqF')
      (try dsimp only); (refine abs_tok ?_; intro zqtk'); (try k_lift zqB'); (try k_fold))))
    (k_with "m spec_enterC" => ((
      unfold SpecC
      k_fill
      intro zqdp zqun zqgd zqcn zqcs zqa zqccd zqcl zqouter zqA₀ zqbase zqh₀ zqL zqm zqs zqQ zqE zqB zqF zqX zqN zqT zqhk zqhpre zqhd zqhu zqhret
      obtain ⟨zqsh, zqsg, zqsd, zqst, zqso⟩ := zqs
      dsimp only at zqF zqN zqhpre zqhret
      refine wpAny_call ?_
      refine' callSC ?k1.u5 ?k2.u5 ?k3.u5 ?k4.u5 ?k5.u5 ?kA.u5 ?kF.u5 ?kK.u5 ?kpre.u5 ?kret.u5 ?k6.u5 ?k7.u5 ?k8.u5 ?k9.u5 ?kB.u5 ?kD.u5 ?_ ?c3.u5 ?c4.u5 ?c5.u5
      (case kA => exact rfl); (case kF => exact rfl); (case kK => assumption); (case k1 => k_asm); (case k2 => k_asm); (case k3 => k_asm); (case k4 => k_asm); (case k5 => k_asm)
      (case kpre => exact zqhpre)
      (case kret => exact zqhret)
      (case k6 => k_is); (case k7 => k_is); (case k8 => ktr_room); (case k9 => exact BindsTo.of_eq rfl); (case kB => exact rfl); (case kD => decide +kernel); (case c3 => exact rfl); (case c4 => exact rfl); (case c5 => exact rfl)
      clear zqhpre zqhret
      k_whole
      intro zqg' zqL' zqh' zqtk' zqcells' zqF' zqN' zqY' zqB' zqX' zqT' zqpre' zql1
      (try k_lt zql1); k_cells zqY'; (try simp only [List.cons_append, List.nil_append] at zqN'); (try dsimp only); (try k_lift zqB'); (try k_fold))))
    (k_with "m spec_end" => (((try dsimp only); (try k_unfold); (try dsimp only))))
    (k_with "m pick_1" => (first | (refine' Pick1.here ?ph.u7; (case ph => k_dflt k_all)) | (refine' Pick1.next ?pn.u7 ?pt.u7; (case pn => k_ne); (case pt => walk_at "pick_1"))))
    (k_with "m use_1" => ((
      (case k1 => k_asm); (case k2 => k_asm); (case k3 => k_asm); (case k4 => k_asm); (case k5 => k_asm); (case kK => first | exact rfl | assumption)
      (case kd => ktr_room); (case ku => ktr_units); (case kp => k_dflt (walk_at "pick_1")))))
    (k_with "m use_2" => ((
      (case k1 => k_asm); (case k2 => k_asm); (case k3 => k_asm); (case k4 => k_asm); (case k5 => k_asm); (case kK => first | exact rfl | assumption)
      (case kd => ktr_room); (case ku => ktr_units); (case kp1 => k_dflt (walk_at "pick_1")); (case kp2 => k_dflt (walk_at "pick_1")))))
    (k_with "m use_0" => ((
      (case k1 => k_asm); (case k2 => k_asm); (case k3 => k_asm); (case k4 => k_asm); (case k5 => k_asm); (case kK => first | exact rfl | assumption)
      (case kd => ktr_room); (case ku => ktr_units))))
    (k_with "m ktr_room" => ((k_dflt (first | exact room1 (by assumption) (by decide) | exact room0 (by assumption) (by decide) | exact roomN (by assumption)))))
    (k_with "m ktr_units" => ((k_dflt (first | exact units1 (by assumption) (by decide) | exact room0 (by assumption) (by decide)))))
    (k_with "m k_ne" => ((refine neN ?_; (try dsimp only); first | walk_at "ne_look" | omega -splitDisjunctions | omega)))
    (k_with "m append_L" => ((k_here; (with_reducible show wpAny _ _ (call (Value.builtin _) [Value.ref _, _]) _ _ _); k_dflt (refine' append_L ?k1.u14 ?k2.u14 ?k3.u14 ?k4.u14 ?_; (case k1 => k_asm); (case k2 => k_asm); (case k3 => k_upd); (case k4 => first | omega | (simp only [List.length_append, List.length_cons, List.length_nil]; omega)); k_whole); intro zqh' zqF' zqN'; (try k_sweep))))
    (k_with "m all_lt" => (first
      | exact allLt_mem (by assumption)
      | exact allLt_mem (And.right (by assumption))
      | exact allLt_mem (And.right (And.right (by assumption)))
      | exact allLt_mem (And.right (And.right (And.right (by assumption))))
      | exact allLt_mem (And.right (And.right (And.right (And.right (by assumption)))))
      | exact allLt_mem (And.right (And.right (And.right (And.right (And.right (by assumption))))))
      | exact allLt_mem (And.right (And.right (And.right (And.right (And.right (And.right (by assumption)))))))
      | exact allLt_mem (And.right (And.right (And.right (And.right (And.right (And.right (And.right (by assumption))))))))
      | exact allLt_mem (And.right (And.right (And.right (And.right (And.right (And.right (And.right (And.right (by assumption)))))))))))
    (k_with "m own_off1" => (first | exact ownOff_nil | assumption | (refine ownOff_cons ?_ ?_; (first | exact OwnOff.ne (by assumption) (by k_memK) | walk_at "all_lt" | fail "own_off: an address"); walk_at "own_off1")))
    (k_with "m own_off" => (((try dsimp only [List.map_cons, List.map_nil]); walk_at "own_off1")))
    (k_with "m led_in1" => (first | exact sub_nil | (refine sub_cons ?_ ?_; k_mem; walk_at "led_in1")))
    (k_with "m led_in" => (((try dsimp only); walk_at "led_in1")))
    (k_with "m own_in1" => (first | assumption | (refine List.Mem.tail _ ?_; walk_at "own_in1")))
    (k_with "m own_in" => ((intro zqp zqhp; walk_at "own_in1")))
    (k_with "m jp_end" => ((
      (case hk => kst_all); (case hn => walk_at "led_in"); (case ho => walk_at "own_in"); (case ha => walk_at "own_off"))))
    (k_with "m is_list" => (first | is_list | exact isList_at (by k_asm) (by assumption)))
    (k_with "m sub_all1" => (first | exact sub_nil | (refine sub_cons ?_ ?_; k_mem; walk_at "sub_all1") | (intro zqp zqhp; walk_at "own_in1")))
    (k_with "m sub_all" => (((try simp only [List.cons_append, List.nil_append]); walk_at "sub_all1")))
    (k_with "m tail" => (first | (apply split_cons; walk_at "tail") | exact split_nil))
    (k_with "m adr_in" => (first | exact adr_nil | (refine' adr_cons ?ha.u93 ?hb.u93; (case ha => k_mem); (case hb => walk_at "adr_in"))))
    (k_with "m pyIter ref" => ((refine stand ?_)))
    (k_with "m exec For Name Call cons nil" => ((k_here; (rename Fr _ _ _ _ => zqlF'); (with_unfolding_all refine' For_invVF zqlF' ?k1.u95 ?k2.u95 ?_; (case k1 => exact rfl); (case k2 => exact rfl); k_whole))))
    (k_with "m call ref" => ((
      first | (with_reducible show wpAny _ _ (call (Value.ref 77) _) _ _ _) | (with_reducible show wpAny _ _ (call (Value.ref 98) _) _ _ _) | (with_reducible show wpAny _ _ (call (Value.ref 108) _) _ _ _) | (with_reducible show wpAny _ _ (call (Value.ref 28) _) _ _ _) | (with_reducible show wpAny _ _ (call (Value.ref 103) _) _ _ _) | (with_reducible show wpAny _ _ (call (Value.ref 115) _) _ _ _) | (with_reducible show wpAny _ _ (call (Value.ref 35) _) _ _ _) | (with_reducible show wpAny _ _ (call (Value.ref 84) _) _ _ _) | (with_reducible show wpAny _ _ (call (Value.ref 70) _) _ _ _) | (with_reducible show wpAny _ _ (call (Value.ref 120) _) _ _ _)
      refine stand ?_)))
    (k_with "m call ref" => ((
      (with_reducible show wpAny _ _ (call (Value.ref 77) _) _ _ _)
      (k_dflt (refine' specC_use0 (pool_spec _ _ _ ?hI.u97 ?hl.u97 _ _ ?h0.u97 ?h1.u97) ?k1.u97 ?k2.u97 ?k3.u97 ?k4.u97 ?k5.u97 ?kK.u97 ?kd.u97 ?ku.u97 ?kpre.u97 ?_))
      (k_dflt (walk_at "use_0"))
      ((case kpre => k_dflt (intro zqg zqst zqhq; exact isList_keeps zqst (by assumption))); (case hI => assumption); (case hl => omega); (case h0 => omega); (case h1 => omega))
      k_whole
      intro zqr9 zqnw9 zqh9 zqtk9 zqF9 zqN9 zqD9 zqP9
      obtain ⟨zql9, zqo9, zqer, zqen, zqhs9⟩ := zqP9
      subst zqer zqen
      (rename OwnOff _ _ => zqO0); (k_dflt (have zqO9 := off_more zqO0 zqD9 (by walk_at "own_in"))); (clear zqO0)
      (try simp only [List.forall_mem_cons, List.not_mem_nil, false_implies, implies_true, and_true, ne_eq] at zqD9)
      (try simp only [List.cons_append, List.nil_append] at zqN9))))
    (k_with "m call ref" => ((
      (with_reducible show wpAny _ _ (call (Value.ref 98) _) _ _ _)
      k_dflt (refine' specC_use1 (row_spec _ ?ho.u98) ?k1.u98 ?k2.u98 ?k3.u98 ?k4.u98 ?k5.u98 ?kK.u98 ?kd.u98 ?ku.u98 ?kp.u98 ?kpre.u98 ?_)
      k_dflt (walk_at "use_1")
      (case kpre => k_dflt (exact fun _ _ _ => True.intro)); (case ho => assumption);
      k_whole
      intro zqr9 zqnw9 zqh9 zqtk9 zqF9 zqN9 zqD9 zqP9
      obtain ⟨zql9, zqo9, zqbs9, zqn9, zqer, zqhb9, zqen, zqhs9⟩ := zqP9
      subst zqer zqen
      (try simp only [List.forall_mem_cons, List.not_mem_nil, false_implies, implies_true, and_true, ne_eq] at zqD9)
      (try simp only [List.cons_append, List.nil_append] at zqN9)
      (have zqne9 := src_ne zqN9 zqhs9 zqhb9))))
    (k_with "m call ref" => ((
      (with_reducible show wpAny _ _ (call (Value.ref 84) _) _ _ _)
      k_dflt (refine' specC_use1 (take_spec _ _ _ ?h2.u99 ?h3.u99 ?ho.u99) ?k1.u99 ?k2.u99 ?k3.u99 ?k4.u99 ?k5.u99 ?kK.u99 ?kd.u99 ?ku.u99 ?kp.u99 ?kpre.u99 ?_)
      k_dflt (walk_at "use_1")
      (case kpre => k_dflt (exact fun _ _ _ => True.intro)); (case h2 => decide); (case h3 => decide); (case ho => assumption);
      k_whole
      refine ret_take ?_
      intro zqkd zqkt zqko zqh9 zqtk9 zqF9 zqN9 zqh0 zqh1 zqhs)))
    (k_with "m call ref" => ((
      (with_reducible show wpAny _ _ (call (Value.ref 108) _) _ _ _)
      (with_reducible rename SpanAll _ _ => zqS9)
      k_dflt (refine' specC_use0 (pairs_spec _ _ ?hb.u100 _ ?hq.u100 ?hq2.u100) ?k1.u100 ?k2.u100 ?k3.u100 ?k4.u100 ?k5.u100 ?kK.u100 ?kd.u100 ?ku.u100 ?kpre.u100 ?_)
      k_dflt (walk_at "use_0")
      (case kpre => k_dflt (intro zqg zqst zqhq; refine' isList_of zqhq ?mm.u100; (case mm => k_mem))); (case hb => assumption); (case hq => assumption); (case hq2 => assumption);
      k_whole
      (rename SpanAll _ _ => zqS0; rename OwnOff _ _ => zqF0; rename SubT _ _ => zqT0; k_dflt (refine ret_tail (by walk_at "tail") zqS0 zqT0 zqF0 (by walk_at "adr_in") ?_); clear zqS0 zqF0 zqT0; intro zql9 zqh9 zqtk9 zqF9 zqq9 zqN9 zqS9 zqO9 zqG9)
      (simp only [List.cons_append, List.nil_append] at zqN9))))
    (k_with "m call ref" => ((
      (with_reducible show wpAny _ _ (call (Value.ref 28) _) _ _ _)
      k_dflt (refine' specC_use0 (borders_spec _ _ ?hb.u101) ?k1.u101 ?k2.u101 ?k3.u101 ?k4.u101 ?k5.u101 ?kK.u101 ?kd.u101 ?ku.u101 ?kpre.u101 ?_)
      k_dflt (walk_at "use_0")
      (case kpre => k_dflt (intro zqg zqst zqhq; refine' spanAll_heap ?sa.u101 ?sb.u101 ?sc.u101; (case sa => with_reducible assumption); (case sb => k_mem); (case sc => (intro zqq zqhm; refine zqhq zqq ?_; walk_at "own_in1")))); (case hb => assumption);
      k_whole
      refine ret_list ?_
      intro zql9 zqvs9 zqn9 zqh9 zqtk9 zqF9 zqN9 zqD9 zqhI9
      (k_dflt (have zqne9 := ne_src1 (by assumption) zqD9 (by k_mem))); clear zqD9)))
    (k_with "m call ref" => ((
      (with_reducible show wpAny _ _ (call (Value.ref 103) _) _ _ _)
      k_dflt (refine' specC_use0 (turns_spec _ _ ?hb.u102) ?k1.u102 ?k2.u102 ?k3.u102 ?k4.u102 ?k5.u102 ?kK.u102 ?kd.u102 ?ku.u102 ?kpre.u102 ?_)
      k_dflt (walk_at "use_0")
      (case kpre => k_dflt (intro zqg zqst zqhq; refine' isList_of zqhq ?mm.u102; (case mm => k_mem))); (case hb => assumption);
      k_whole
      refine ret_list ?_
      intro zql9 zqvs9 zqn9 zqh9 zqtk9 zqF9 zqN9 zqD9 zqhI9
      (k_dflt (have zqne9 := ne_src1 (by assumption) zqD9 (by k_mem))); clear zqD9)))
    (k_with "m call ref" => ((
      (with_reducible show wpAny _ _ (call (Value.ref 115) _) _ _ _)
      k_dflt (refine' specC_use1 (walk_right_spec _ _ _ ?hb.u103 ?ho.u103) ?k1.u103 ?k2.u103 ?k3.u103 ?k4.u103 ?k5.u103 ?kK.u103 ?kd.u103 ?ku.u103 ?kp.u103 ?kpre.u103 ?_)
      k_dflt (walk_at "use_1")
      (case kpre => k_dflt (intro zqg zqst zqhq; refine' isList_of zqhq ?mm.u103; (case mm => k_mem))); (case hb => assumption); (case ho => assumption);
      k_whole
      refine ret_obj ?_
      intro zqo9 zqh9 zqtk9 zqF9 zqN9 zqhs9)))
    (k_with "m call ref" => ((
      (with_reducible show wpAny _ _ (call (Value.ref 35) _) _ _ _)
      k_dflt (refine' specC_use0 (merged_spec _ _ _ _ ?h1.u104 ?h2.u104) ?k1.u104 ?k2.u104 ?k3.u104 ?k4.u104 ?k5.u104 ?kK.u104 ?kd.u104 ?ku.u104 ?kpre.u104 ?_)
      k_dflt (walk_at "use_0")
      (case kpre => k_dflt (intro zqg zqst zqhq; refine' And.intro ?pa.u104 ?pb.u104; (case pa => (refine' spanAll_heap ?sa.u104 ?sb.u104 ?sc.u104; (case sa => with_reducible assumption); (case sb => k_mem); (case sc => (intro zqq zqhm; refine zqhq zqq ?_; walk_at "own_in1")))); (case pb => (refine' spanAll_heap ?sa.u104 ?sb.u104 ?sc.u104; (case sa => with_reducible assumption); (case sb => k_mem); (case sc => (intro zqq zqhm; refine zqhq zqq ?_; walk_at "own_in1")))))); (case h1 => assumption); (case h2 => assumption);
      k_whole
      refine ret_list ?_
      intro zql9 zqvs9 zqn9 zqh9 zqtk9 zqF9 zqN9 zqD9 zqhI9
      (k_dflt (have zqne9 := ne_src1 (by assumption) zqD9 (by k_mem))); clear zqD9)))
    (k_with "m call ref" => ((
      (with_reducible show wpAny _ _ (call (Value.ref 120) _) _ _ _)
      k_dflt (refine' specC_use0 (nright_spec _ _ ?h1.u105 ?h2.u105) ?k1.u105 ?k2.u105 ?k3.u105 ?k4.u105 ?k5.u105 ?kK.u105 ?kd.u105 ?ku.u105 ?kpre.u105 ?_)
      k_dflt (walk_at "use_0")
      (case kpre => k_dflt (intro zqg zqst zqhq; refine' spanAll_heap ?sa.u105 ?sb.u105 ?sc.u105; (case sa => with_reducible assumption); (case sb => k_mem); (case sc => (intro zqq zqhm; refine zqhq zqq ?_; walk_at "own_in1")))); (case h1 => assumption); (case h2 => assumption);
      k_whole
      refine ret_val ?_
      intro zqh9 zqtk9 zqF9 zqN9)))
    (k_with "m call type:list" => ((k_here; (with_reducible show wpAny _ _ (call (Value.type "list") [Value.ref _]) _ _ _); k_dflt (refine' list_ints ?F.u106 ?N.u106 ?b.u106 ?e.u106 ?z.u106 ?_; (case F => k_asm); (case N => k_asm); (case b => k_mem); (case e => l_ints); (case z => omega)); intro zqD' zqc' zqh' zqF' zqN' zql1; (try k_lt zql1); (try k_sweep))))
    (k_with "m compareOp NotEq ref ref" => ((refine stand ?_)))
    (k_with "m compareOp NotEq ref ref" => ((k_here; (with_reducible show wpAny _ _ (compareOp CmpOp.NotEq (Value.ref _) (Value.ref _)) _ _ _); (with_unfolding_all refine' ne_ints_same ?k1.u108 ?k2.u108 ?k3.u108 ?k4.u108 ?k5.u108 ?k6.u108 ?_; (case k1 => is_list); (case k2 => l_ints); (case k3 => is_list); (case k4 => l_ints); (case k5 => ktr_units); (case k6 => first | with_reducible assumption | exact qs_eq (by with_reducible assumption) (by with_reducible assumption) (by with_reducible assumption) (by with_reducible assumption)); k_whole))))
    (k_with "m call type:set cons nil" => ((refine stand ?_)))
    (k_with "m call type:set cons nil" => ((k_here; (with_reducible show wpAny _ _ (call (Value.type "set") [Value.ref _]) _ _ _); k_dflt (refine' set_new_K ?F.u110 ?N.u110 ?hh.u110 ?k1.u110 ?k2.u110 ?k4.u110 ?_; (case F => k_asm); (case N => k_asm); (case hh => exact rfl); (case k1 => is_list); (case k2 => l_ints); (case k4 => assumption)); intro zqD' zqh' zqtk' zqo' zqF' zqN' zql1 zqhG'; (try k_lt zql1); (try k_sweep))))
    (k_with "m call builtin:sorted" => ((k_here; (with_reducible show wpAny _ _ (call (Value.builtin "sorted") [Value.ref _]) _ _ _); k_dflt (refine' sorted_set_K ?F.u111 ?N.u111 ?hh.u111 ?k1.u111 ?k2.u111 ?_; (case F => k_asm); (case N => k_asm); (case hh => exact rfl); (case k1 => k_mem); (case k2 => assumption)); intro zqD' zqv' zqn' zqc' zqh' zqtk' zqF' zqN' zql1 zqi' zqo' zqe'; (try k_lt zql1); (try k_sweep))))
    (k_with "m exec Assign cons ListComp" => ((refine stand ?_)))
    (k_with "m eval ListComp" => ((refine stand ?_)))
    (k_with "m binaryOp Add ref ref" => ((k_here; k_dflt (refine' addB ?k1.u114 ?k2.u114 ?k3.u114 ?k4.u114 ?k5.u114 ?_; (case k1 => k_asm); (case k2 => k_asm); (case k3 => exact isList_b1 (by is_list)); (case k4 => is_list); (case k5 => (simp only [List.length_append, List.length_cons, List.length_nil]; omega)); k_whole); intro zqy' zqh' zqF' zqN' zql1; (try k_lt zql1); (try k_sweep))))
    (k_with "m k_mem" => ((first | (refine' subT_at ?tt.u115 ?hh.u115; (case tt => with_reducible assumption); (case hh => k_mem)) | fail "subT: none")))
    (k_with "m eval Name" => (((with_reducible show wpAny _ _ (eval (Expr.Name _ _) (envOfC _ _ _ _ _)) _ _ _); first
      | (refine' nameX_K ?F.u116 ?X.u116 ?T.u116 ?e.u116 ?_ ?a.u116 ?b.u116; (case F => k_asm); (case X => k_asm); (case T => k_asm); (case a => rfl); (case b => rfl); (case e => k_is); k_whole)
      | (refine' nameX_L ?F.u116 ?v.u116 ?_ ?a.u116 ?b.u116; (case F => k_asm); (case a => rfl); (case b => rfl); (case v => rfl); k_whole)
      | (refine' nameX_C ?N.u116 ?c.u116 ?m.u116 ?d.u116 ?_ ?a.u116 ?b.u116; (case a => rfl); (case b => rfl); (case N => k_asm); (case c => rfl); (case m => k_mem); (case d => k_asm); k_whole))))
    (k_with "m callWith ref" => (((with_reducible show wpAny _ _ (callWith _ (Value.ref _) _ _ []) _ _ _); k_dflt (first
      | refine' callWith_K ?k1.u117 ?k2.u117 ?_; (case k1 => k_asm); (case k2 => k_is); k_whole
      | refine' callWith_K0 ?k1.u117 ?k2.u117 ?_; (case k1 => k_in); (case k2 => k_is); k_whole))))
    (k_with "m assign Tuple" => (((with_reducible show wpAny _ _ (assign (Expr.Tuple _ _ _) _ (Value.ref _)) _ _ _); k_dflt (refine' unpackN_ ?F.u118 ?N.u118 ?T.u118 ?k1.u118 ?k2.u118 ?k3.u118 ?_; (case F => k_asm); (case N => k_asm); (case T => (refine' News.isTup ?na.u118 ?nb.u118; (case na => k_asm); (case nb => k_mem))); (case k1 => exact rfl); (case k2 => exact rfl); (case k3 => exact rfl); k_whole); intro zqh' zqF' zqN'; (try k_sweep))))
    (rename Fr _ _ _ _ => zF; refine fold_fr zF ?_; clear zF; intro mmk F8)
    clear hfo hfr
    k_steps
    unfold Stand
    rename News _ _ _ _ => N7
    rename Fr _ _ _ _ => F7
    obtain ⟨oK, rfl⟩ := nameCell N7
    (obtain ⟨R4, N8, T8, O8, S8, hR4⟩ := stage2 N7 T7 O7 S7 (Nat.ne_of_gt (Nat.lt_trans hlt hlf.1)) (Nat.ne_of_gt hlt) zz3 (by omega) (by omega))
    obtain ⟨Kx, hx1, hx2, T8⟩ := subT_end (own := ownx) (cds := cds1) T8 (by walk_at "tail") (fun q hq => hR4 q (hC1 q hq))
    simp only [List.cons_append, List.nil_append] at T8
    obtain ⟨preK, hKK, hpre⟩ := absK T8 hK (fun h' hq => ⟨hq _ (List.Mem.head _), ⟨c', oc, vs1, tt1, rfl, hq (c', oc) (by (iterate 10 (refine List.Mem.tail _ ?_)); exact hx1 _ hoc), hod, hov⟩, hq _ (List.Mem.tail _ (List.Mem.tail _ (List.Mem.tail _ (List.Mem.head _)))), ⟨_, hq _ (List.Mem.tail _ (List.Mem.head _)), rfl, 0, rfl⟩⟩)
    clear hK N7 T7 O7 S7 hod hov hoc hoc3 hR4 hC1
    have RK := row_ok _ (rowK_len (kfOf (false :: bs3)) bs1 bs2)
    (repeat revert ‹_›); intro cutP W mg mb fa ns n sl i t u wc_38 wc_39 own hi o1 o2 o4 o5 d1 d2 d4 tb cds e1 e2 e4 Q0 E0 p loose mean g L sgens sdrawn sos X B l0 T9 ownx hOwn codeHd qk ek mmc mmd mme src l1 bs1 n1 l2 bs2 n2 p1 p2 p3 wg_112 wg_113 wg_114 wg_115 wg_116 hb1 hb2 q1 hq1 hq17 q2 hq2 hq27 hz1 hz2 hn1 hn2 hc1 mmf wg_143 wg_147 wg_200 wg_201 wg_206 R2 R6 hR6 zz2 zz3 mmg D so' bs3 hs3 hbl mmh wj_236 wj_240 tk mmi tl oT wj_246 wj_247 hlt f c' ctv h1 tk1 tb1 R3 cds1 hOw hT1 hlf oc vs1 tt1 fo mmj mmk wl_265 F7 oK wl_268 R4 N8 wl_271 O8 S8 Kx hx1 hx2 T8 preK hKK hpre RK; clear o1 o2 d1 d2 d4 e1 e2 e4 l0 zz2 zz3 hbl wj_240 tk wj_246 hlt c' ctv h1 R3 hlf oc vs1 tt1 wl_271; (repeat revert ‹_›); intro cutP; exact cutP.out
set_option maxHeartbeats 16000000 in
noncomputable def law_l : Cut law_j.P := by
  apply Cut.mk
  case f =>
    refine wrapCut ?_
    intro cutP
    intro W mg mb fa ns n sl i t u wc_38 wc_39 own hi o4 o5 tb cds Q0 E0 p loose mean g L sgens sdrawn sos X B T9 ownx hOwn codeHd qk ek mmc mmd mme src l1 bs1 n1 l2 bs2 n2 p1 p2 p3 wg_112 wg_113 wg_114 wg_115 wg_116 hb1 hb2 q1 hq1 hq17 q2 hq2 hq27 hz1 hz2 hn1 hn2 hc1 mmf wg_143 wg_147 wg_200 wg_201 wg_206 R2 R6 hR6 mmg D so' bs3 hs3 mmh wj_236 mmi tl oT wj_247 f tk1 tb1 cds1 hOw hT1 fo mmj mmk wl_265 F7 oK wl_268 R4 N8 O8 S8 Kx hx1 hx2 T8 preK hKK hpre RK
    k_fill
    w_top off
    (k_with "m subscriptTail Name Name ref int" => ((k_here; (with_unfolding_all refine' item_bools ?k1.u121 ?k2.u121 ?k3.u121 ?k4.u121 ?_ ?k6.u121; (case k1 => k_dflt (refine' isList_mem ?na.u121 ?nb.u121; (case na => k_asm); (case nb => k_mem))); (case k2 => omega); (case k3 => omega); (case k4 => omega); (case k6 => with_unfolding_all rfl); k_whole))))
    (k_with "m callWith ref" => (((with_reducible show wpAny _ _ (callWith _ (Value.ref _) _ _ []) _ _ _); k_dflt (first | (refine' callWith_K ?k1.u122 ?k2.u122 ?_; (case k1 => k_asm); (case k2 => k_is); k_whole) | (refine callWith_keeps (by with_reducible assumption) ?_ rfl rfl)))))
    (k_with "m And" => ((k_dflt (refine' And.intro ?ka.u123 ?_; (case ka => (refine' preR_at ?kp.u123 ?kn.u123 ?ks.u123; (case kp => with_reducible assumption); (case kn => k_asm); (case ks => (intro zqq zqhm; (with_reducible rename SubT _ _ => zqTT); replace zqhm := zqTT zqq zqhm; walk_at "own_in1"))))); (try dsimp only [List.nil_append, List.cons_append]))))
    (k_with "m call ref" => ((
      (with_reducible show wpAny _ _ (call (Value.ref _) [Value.bool _, Value.bool _]) _ _ _)
      k_dflt (refine' specC_use0 (KeepsFn.spec (by with_reducible assumption) _ _) ?k1.u124 ?k2.u124 ?k3.u124 ?k4.u124 ?k5.u124 ?kK.u124 ?kd.u124 ?ku.u124 ?kpre.u124 ?_)
      k_dflt (walk_at "use_0")
      (case kpre => k_dflt (intro zqg zqst zqhq; refine' PreR.of ?kp.u124 zqg ?ks.u124; (case kp => with_reducible assumption); (case ks => (intro zqq zqhm; refine zqhq zqq ?_; (with_reducible rename SubT _ _ => zqTT); replace zqhm := zqTT zqq zqhm; walk_at "own_in1"))))
      k_whole
      refine ret_val ?_
      intro zqh9 zqtk9 zqF9 zqN9)))
    (rename Fr _ _ _ _ => zF; refine fold_fr zF ?_; clear zF; intro mml F7)
    obtain ⟨R6, hR6⟩ := nameTl N8
    refine' compStep 1 F7 ?kclos ?kcell ?kkind ?knames ?kx ?_ (by intro _; rfl)
    (case kclos => with_unfolding_all rfl)
    (case kcell => decide)
    (case kkind => rfl)
    (case knames => decide)
    (case kx => rfl)
    k_steps
    rename IsRange _ _ _ _ _ _ _ _ => R7
    rename Fr _ _ _ _ => F7
    rename News _ _ _ _ => N7
    refine ⟨_, _, _, _, _, _, 12, _, rfl, rfl, F7, N7, R7, by decide, by decide, by rw [PySem.sizeLine_eq]; omega, fun g8 => ?_⟩
    refine' compRest_ind (fun i ys nw => nw = (122, tabObj tb1) :: R4 ∧ ys = List.map Value.bool ((rowK (kfOf (false :: bs3)) bs1 bs2).take i)) ?hz ?turn ?fin
    case hz => exact ⟨rfl, rfl⟩
    case turn =>
      intro i' ys nw hi' hJ v I oI C oC D m₂ h tk E' hv hC hx F N off ne
      obtain ⟨rfl, rfl⟩ := hJ
      obtain ⟨t', rfl⟩ := hv
      clear F7 N7 ne
      k_steps
      (rename Fr _ _ _ _ => F9)
      (rename News _ _ _ _ => N9)
      refine' LCg.CompEnd.intro F9 N9 ((122, tabObj tb1) :: R4) (fun _ hp => hp) off trivial ⟨rfl, ?le⟩
      (case le =>
        rw [rowK_take hi', List.map_append]
        have e : (0 + (i' : Int) * 1).toNat = i' := by omega
        rw [e]; rfl)
    case fin =>
      intro ys nw hJ D h tk F8 N9 o1
      obtain ⟨rfl, rfl⟩ := hJ
      clear F7 N7 R7
      (try dsimp only)
      (k_with "m call ref" => ((
        (with_reducible show wpAny _ _ (call (Value.ref 70) _) _ _ _)
        (with_reducible rename SpanAll _ _ => zqS9)
        k_dflt (refine' specC_use0 (put_spec _ _ _ _ _ ?h1.u125 ?h2.u125 _ _ ?hK.u125 ?n1.u125 ?n2.u125) ?k1.u125 ?k2.u125 ?k3.u125 ?k4.u125 ?k5.u125 ?kK.u125 ?kd.u125 ?ku.u125 ?kpre.u125 ?_)
        (case hK => with_reducible assumption)
        k_dflt (walk_at "use_0")
        (case kpre => k_dflt (intro zqg zqst zqhq; refine' And.intro ?pa.u125 ?pb.u125; (case pa => (refine' spanAll_heap ?sa.u125 ?sb.u125 ?sc.u125; (case sa => with_reducible assumption); (case sb => k_mem); (case sc => (intro zqq zqhm; refine zqhq zqq ?_; walk_at "own_in1")))); (case pb => (refine' And.intro ?pc.u125 ?pd.u125; (case pc => (refine' spanAll_heap ?sa.u125 ?sb.u125 ?sc.u125; (case sa => with_reducible assumption); (case sb => k_mem); (case sc => (intro zqq zqhm; refine zqhq zqq ?_; walk_at "own_in1")))); (case pd => (refine' PreR.of ?kp.u125 zqg ?ks.u125; (case kp => with_reducible assumption); (case ks => (intro zqq zqhm; refine zqhq zqq ?_; (with_reducible rename SubT _ _ => zqTT); replace zqhm := zqTT zqq zqhm; walk_at "own_in1"))))))))
        (case h1 => assumption); (case h2 => assumption); (case n1 => assumption); (case n2 => assumption)
        k_whole
        (rename SpanAll _ _ => zqS0; rename OwnOff _ _ => zqF0; rename SubT _ _ => zqT0; k_dflt (refine ret_tail (by walk_at "tail") zqS0 zqT0 zqF0 (by walk_at "adr_in") ?_); clear zqS0 zqF0 zqT0; intro zql9 zqh9 zqtk9 zqF9 zqq9 zqN9 zqS9 zqO9 zqG9)
        (simp only [List.cons_append, List.nil_append] at zqN9))))
      (k_with "m compareOp NotEq ref ref" => ((k_here; (with_reducible show wpAny _ _ (compareOp CmpOp.NotEq (Value.ref _) (Value.ref _)) _ _ _); k_dflt (refine' ne_spans_same (spanAll_at ?sa.u126 ?sn.u126 ?sb.u126 ?sc.u126) (spanAll_at ?ta.u126 ?tn.u126 ?tb.u126 ?tc.u126) ?u.u126 ?e.u126 ?_; (case sa => with_reducible assumption); (case sn => k_asm); (case sb => k_mem); (case sc => (intro zqq zqhm; walk_at "own_in1")); (case ta => with_reducible assumption); (case tn => k_asm); (case tb => k_mem); (case tc => (intro zqq zqhm; walk_at "own_in1")); (case u => ktr_units); (case e => with_reducible assumption); k_whole))))
      (k_with "m eval IfExp" => ((refine stand ?_)))
      (rename Fr _ _ _ _ => zF; refine fold_fr zF ?_; clear zF; intro mmm F8)
      (rename ∀ (b : Addr) (o : Obj), _ → _ => zz; clear zz)
      clear hR6 o1
      rw [List.take_of_length_le (by rw [rowK_len]; exact Nat.le_refl _)] at N9
      change News g L h ((D, listOf (boolsV (rowK (kfOf (false :: bs3)) bs1 bs2)) _) :: _) at N9
      have hbK := rowK_len (kfOf (false :: bs3)) bs1 bs2
      obtain ⟨qK, hqK, hqK7⟩ := RK.len
      have hqK20 : qK ≤ 20 := by omega
      have hdue := put_due hb1 hb2 (kf := kfOf (false :: bs3)) rfl
      have hp20 : (putFold (QS (pairsOf (turnsOf bs1)) (pairsOf (turnsOf bs2))) (KK (pairsOf (turnsOf bs1)) (pairsOf (turnsOf bs2)) (kfOf (false :: bs3))) ((QS (pairsOf (turnsOf bs1)) (pairsOf (turnsOf bs2))).length - 1)).length ≤ 20 := by rw [hdue]; exact Nat.le_trans RK.cap (by decide)
      have hpn : normFrom none (putFold (QS (pairsOf (turnsOf bs1)) (pairsOf (turnsOf bs2))) (KK (pairsOf (turnsOf bs1)) (pairsOf (turnsOf bs2)) (kfOf (false :: bs3))) ((QS (pairsOf (turnsOf bs1)) (pairsOf (turnsOf bs2))).length - 1)) = true := by rw [hdue]; exact RK.normal
      have h120 : (pairsOf (turnsOf bs1)).length ≤ 20 := by omega
      k_steps
      unfold Stand
      rename Fr _ _ _ _ => F7
      rename News _ _ _ _ => N7
      rename SpanAll _ _ => S7
      rename SubT _ _ => T7
      rename OwnOff _ _ => O7
      obtain ⟨pl, vp, np, cp, rfl, rfl, rfl, rfl⟩ := nameSort N7 (by with_reducible assumption)
      obtain ⟨R5, rfl⟩ := nameOff O7
      have N8 : News g L _ ((122, tabObj tb1) :: (pl, listOf vp.toArray cp) :: R5) := fun q hq => N7 q (by
        simp only [List.mem_cons] at hq ⊢
        rcases hq with h | h | h <;> simp [h])
      have hlp : @LT.lt Nat _ 122 pl := by omega
      rename List.Perm np _ => hpp
      have hw0 := whole_eq hb1 hb2 hpp (by with_reducible assumption)
      have hIp : IntsAre vp np := by with_reducible assumption
      have hnp : np.length < 1000 := by
        rw [hpp.length_eq, List.length_append]; omega
      clear N7
      repeat (rename _ < _ ∧ _ => zz; clear zz)
      clear h120 hp20 hpn hdue
      (repeat revert ‹_›); intro cutP W mg mb fa ns n sl i t u wc_38 wc_39 own hi o4 o5 tb cds Q0 E0 p loose mean g L sgens sdrawn sos X B T9 ownx hOwn codeHd qk ek mmc mmd mme src l1 bs1 n1 l2 bs2 n2 p1 p2 p3 wg_112 wg_113 wg_114 wg_115 wg_116 hb1 hb2 q1 hq1 hq17 q2 hq2 hq27 hz1 hz2 hn1 hn2 hc1 mmf wg_143 wg_147 wg_200 wg_201 wg_206 R2 wg_214 hR6 mmg wj_220 so' bs3 hs3 mmh wj_236 mmi tl oT wj_247 f tk1 tb1 cds1 hOw hT1 fo mmj mmk wl_265 oK wl_268 R4 Kx hx1 hx2 preK hKK hpre RK mml R6 wn_276 wn_277 wn_278 wn_279 wn_280 g8 D h wn_284 mmm hbK qK hqK hqK7 hqK20 wn_291 wn_292 wn_293 wn_294 wn_295 wn_296 wn_297 wn_298 wn_299 wn_300 wn_301 wn_302 wn_303 wn_304 wn_305 wn_306 wn_307 wn_308 wn_309 wn_310 wn_311 wn_312 wn_313 wn_314 wn_315 wn_316 wn_317 wn_318 wn_319 wn_320 wn_321 wn_322 wn_323 wn_324 wn_325 tk pl vp np cp F7 wn_332 wn_333 wn_334 wn_335 hpp wn_337 R5 S7 T7 O7 N8 hlp hw0 hIp hnp; clear o4 o5 tb wg_112 wg_113 hb1 hb2 hq1 hq17 hq2 hq27 hc1 wg_200 wg_201 wg_206 R2 wg_214 hR6 wj_220 hs3 wj_236 tk1 wl_265 RK R6 wn_276 wn_277 wn_278 wn_279 wn_280 g8 D h wn_284 hbK hqK hqK7 hqK20 wn_292 wn_293 wn_294 wn_295 wn_296 wn_298 wn_299 wn_300 wn_301 wn_302 wn_303 wn_304 wn_305 wn_306 wn_307 wn_308 wn_309 wn_310 wn_311 wn_312 wn_313 wn_314 wn_315 wn_316 wn_317 wn_318 wn_319 wn_320 wn_321 wn_322 wn_323 wn_324 wn_333 wn_334 wn_335 hlp; (repeat revert ‹_›); intro cutP; exact cutP.out
set_option maxHeartbeats 16000000 in
theorem law_n : law_l.P := by
    intro W mg mb fa ns n sl i t u wc_38 wc_39 own hi cds Q0 E0 p loose mean g L sgens sdrawn sos X B T9 ownx hOwn codeHd qk ek mmc mmd mme src l1 bs1 n1 l2 bs2 n2 p1 p2 p3 wg_114 wg_115 wg_116 q1 q2 hz1 hz2 hn1 hn2 mmf wg_143 wg_147 mmg so' bs3 mmh mmi tl oT wj_247 f tb1 cds1 hOw hT1 fo mmj mmk oK wl_268 R4 Kx hx1 hx2 preK hKK hpre mml mmm qK wn_291 wn_297 wn_325 tk pl vp np cp F7 wn_332 hpp wn_337 R5 S7 T7 O7 N8 hw0 hIp hnp
    k_fill
    w_top off
    (k_with "m compareOp NotEq ref ref" => ((k_here; (with_reducible show wpAny _ _ (compareOp CmpOp.NotEq (Value.ref _) (Value.ref _)) _ _ _); k_dflt (refine' ne_ints_nil ?c.u128 ?k1.u128 ?k2.u128 ?k3.u128 ?k4.u128 ?k5.u128 ?_; (case k1 => (refine' isList_mem ?na.u128 ?nb.u128; (case na => k_asm); (case nb => k_mem))); (case k2 => with_reducible assumption); (case k3 => (refine' News.get ?ma.u128 ?mb.u128; (case ma => k_asm); (case mb => exact List.Mem.head _))); (case k4 => ktr_units); (case k5 => with_reducible assumption); k_whole))))
    (k_with "m eval IfExp" => (((with_reducible show wpAny _ _ _ (JoinW _ _ _ _ _ _ _ _) _ _); with_reducible refine IfExp_ ?_)))
    (rename Fr _ _ _ _ => zF; refine fold_fr zF ?_; clear zF; intro mmn F7)
    refine join_at (tabObj tb1) (if np = [] then [] else [(np.getD 0 0, np.getD (np.length - 1) 0)]) F7 T7 S7 ?_ ?_
    · by_cases hnil : np = []
      · rw [if_pos hnil]
        have hdn : decide (np = []) = !false := decide_eq_true hnil
        clear hpp
        k_steps
        rename Fr _ _ _ _ => F9
        rename News _ _ _ _ => N9
        exact join_nil F9 N9 T7 O7 S7 (by omega)
      · rw [if_neg hnil]
        have hdn : decide (np = []) = !true := decide_eq_false hnil
        have hpos : 0 < np.length := List.length_pos_iff.mpr hnil
        clear hpp
        k_steps
        unfold Stand
        first
          | (refine' ne_ints_nil ?c ?k1 ?k2 ?k3 ?k4 ?k5 ?_
             (case k1 => (refine' isList_mem ?na ?nb; (case na => k_asm); (case nb => k_mem)))
             (case k2 => with_reducible assumption)
             (case k3 => (refine' News.get ?ma ?mb; (case ma => k_asm); (case mb => exact List.Mem.head _)))
             (case k4 => ktr_units)
             (case k5 => with_reducible assumption))
          | fail "places"
        k_whole
        k_steps
        rename Fr _ _ _ _ => F9
        rename News _ _ _ _ => N9
        exact join_one F9 N9 T7 O7 S7 (by omega) (by omega) rfl (by rw [neg1])
    · clear N8 F7 S7 T7 O7 hIp hpp
      intro v s' hJ
      obtain ⟨wl, h8, tk8, R6, rfl, rfl, F8, N8, T8, O8, S8⟩ := hJ
      rw [← hw0] at S8
      clear hw0
      (rename Fr _ _ _ _ => zF; refine fold_fr zF ?_; clear zF; intro mmo F8)
      k_steps
      rename Fr _ _ _ _ => F7
      rename News _ _ _ _ => N7
      have hC1 : ∀ q ∈ cds1, q ∈ R6 := fun q hq => T8 q (by (iterate 10 (refine List.Mem.tail _ ?_)); exact hx1 q hq)
      refine lam_any (front := []) (by rfl) F7 N7 T9 codeHd rfl (fun q hq => O8 q hq 122 (by simp)) hC1 hT1.tri hT1.ok2 (by rfl) ?_
      intro f2 c2 ctv2 h2 tk2 tb2 R7 cds2 F9 N9 sR hD2 t2 a2 k2 ofs2 ow2 l2
      simp only [List.nil_append] at N9 l2
      obtain ⟨fo2, hfo2⟩ := nameHd N9
      rw [← hfo2] at N9
      have hlf2 : @LT.lt Nat _ 122 f2 := l2 _ (List.Mem.head _)
      have hOD := (ofs2 [L + 1 + 1 + 1 + 1 + 1, L + 1 + 1 + 1 + 1, L + 1 + 1 + 1, L + 1 + 1, L + 1, 122] (by simp only [List.nil_append]; walk_at "adr_in")).2 hT1.off
      have hO7 := (ofs2 [122] (by simp only [List.nil_append]; walk_at "adr_in")).1 O8
      have hOw2 := ow2 own (fun q hq => T8 q (by (iterate 10 (refine List.Mem.tail _ ?_)); exact hx2 q (hOwn.w q hq))) hOw
      have hT2 : TabI tb2 cds2 _ := ⟨t2, k2 lp1 lamQ (.inl (by decide)) hT1.ok1, .inr ⟨c2, a2⟩, k2 lp3 lamQ (.inl (by decide)) hT1.ok3, hOD⟩
      obtain ⟨-, oc2, vs2, tt2, hoc2, hod2, hov2⟩ := a2
      obtain ⟨R8, hR8⟩ : ∃ r, r = (f2, fo2) :: R7 := ⟨_, rfl⟩
      have N8 : News g L _ ((122, tabObj tb2) :: R8) := fun q hq => N9 q (by
        rw [hR8] at hq
        simp only [List.mem_cons] at hq ⊢
        rcases hq with h | h | h <;> simp [h])
      have sR8 : ∀ q ∈ R7, q ∈ R8 := fun q hq => hR8 ▸ List.mem_cons_of_mem _ hq
      have S9 := spanAll_mono S8 (fun q hq => sR8 q (sR q hq))
      have T6 : SubT ((f2, fo2) :: _) R8 := fun q hq => by
        rcases List.mem_cons.mp hq with rfl | hq
        · exact hR8 ▸ List.mem_cons_self ..
        · exact sR8 q (sR q (T8 q hq))
      have O9 : OwnOff R8 [122] := fun q hq b hb => by
        rw [hR8] at hq
        rcases List.mem_cons.mp hq with rfl | hq
        · rw [List.mem_singleton.mp hb]; exact Nat.ne_of_gt hlf2
        · exact hO7 q hq b hb
      obtain ⟨Kx2, hy1, hy2, T7⟩ := subT_end (own := Kx) (cds := cds2) T6 (by walk_at "tail") (fun q hq => sR8 q (hD2 q hq))
      simp only [List.cons_append, List.nil_append] at T7
      clear N7 N9 F7 S8 T8 T6 O8 hC1 ofs2 ow2 l2 t2 k2 hD2 hO7 sR sR8 hOD hT1 hOw hx1 hR8
      (k_with "m compareOp NotEq ref ref" => ((k_here; (with_reducible show wpAny _ _ (compareOp CmpOp.NotEq (Value.ref _) (Value.ref _)) _ _ _); k_dflt (refine' ne_spans_same (spanAll_at ?sa.u130 ?sn.u130 ?sb.u130 ?sc.u130) (spanAll_at ?ta.u130 ?tn.u130 ?tb.u130 ?tc.u130) ?u.u130 ?e.u130 ?_; (case sa => with_reducible assumption); (case sn => k_asm); (case sb => k_mem); (case sc => (intro zqq zqhm; walk_at "own_in1")); (case ta => with_reducible assumption); (case tn => k_asm); (case tb => k_mem); (case tc => (intro zqq zqhm; walk_at "own_in1")); (case u => ktr_units); (case e => with_reducible rfl); k_whole))))
      (rename Fr _ _ _ _ => zF; refine fold_fr zF ?_; clear zF; intro mmp F9)
      have hK : KeepsFn W p loose mean mg mb f2 (fun g' => g'.get? f2 = some fo2 ∧ g'.CodeRec (.ref c2) lamQ) (fun _ _ => true) := by
        refine ⟨fun g1 g2 st h => ⟨st _ _ h.1, h.2.keeps st⟩, fun g1 h => ⟨fo2, _, h.1, by rw [hfo2]⟩, fun a b => ?_⟩
        clear F9 S9 T7 O9 hOw2 hT2 N8 T9 codeHd X B hOwn hKK hpre
        intro dp un gd cn cs a9 ccd cl outer A₀ base h₀ L9 m9 s9 Q9 E9 B9 F9 X9 N9 T9 hk9 hpre hd9 hu9 hret9
        have hp1 : s9.heap.get? f2 = some fo2 := of_hideAll _ hpre.1
        have hp2 : s9.heap.CodeRec (.ref c2) lamQ := hpre.2.keeps fun _ _ e => of_hideAll _ e
        subst hfo2
        refine wpAny_call ?_
        refine' callSE (binds := [(Str.ofString "is_in", .bool a), (Str.ofString "is_there", .bool b)]) B9 F9 X9 N9 T9 rfl rfl hk9 hpre hp1 hp2 ?k8 ?k9 ?kB hret9 ?_ ?c3 ?c4 ?c5 ?c6
        (case k8 => ktr_room)
        (case k9 => exact rfl)
        (case kB => intro y hy; simp only [List.mem_cons, List.not_mem_nil, or_false] at hy; rcases hy with rfl | rfl <;> rfl)
        (case c3 => exact rfl)
        (case c4 => exact rfl)
        (case c5 => exact rfl)
        (case c6 => decide)
        clear hpre hret9 hp1 hp2 F9 N9
        k_whole
        intro g' L' h' F' N' B' X' T' pre'
        obtain ⟨pr1, pr2⟩ := pre'
        (try dsimp only); (try k_lift B'); (try k_fold)
        k_steps
        exact leaveS_sub [] F' N' sub_nil ⟨rfl, rfl⟩
      obtain ⟨preK2, hKK2, hpre2⟩ := absK T7 hK (fun h' hq => ⟨hq _ (List.Mem.head _), ⟨c2, oc2, vs2, tt2, rfl, hq (c2, oc2) (by (iterate 11 (refine List.Mem.tail _ ?_)); exact hy1 _ hoc2), hod2, hov2⟩⟩)
      clear hK hKK hpre hoc2 hod2 hov2 hfo2
      k_steps
      rename Fr _ _ _ _ => F7
      rename News _ _ _ _ => N7
      rename SubT _ _ => T6
      have hcd : ∀ q ∈ cds2, q ∈ (122, tabObj tb2) :: _ := fun q hq => List.Mem.tail _ (T6 q (by (iterate 11 (refine List.Mem.tail _ ?_)); exact hy1 q hq))
      have how : ∀ q ∈ own, q ∈ (122, tabObj tb2) :: _ := fun q hq => List.Mem.tail _ (T6 q (by (iterate 11 (refine List.Mem.tail _ ?_)); exact hy2 q (hx2 q (hOwn.w q hq))))
      refine' jp_end ⟨p1, p2, p3, oK, oT, _, _, _, _, _, tb2, cds2⟩ F7 N7 ?hn how ?ha ?hk ?hp
      (case hk => kst_all)
      (case hn =>
        dsimp only
        refine sub_cons (by k_mem) (sub_cons (by k_mem) (sub_cons (by k_mem) (sub_cons (by k_mem) (sub_cons (by k_mem) (sub_cons (by k_mem) hcd))))))
      (case ha =>
        intro q hq b hb
        simp only [List.map_cons, List.mem_cons] at hb
        rcases hb with h | h | h | h | h | h | h
        · exact hOwn.cells q hq b (by simp [h])
        · exact hOwn.cells q hq b (by simp [h])
        · exact hOwn.cells q hq b (by simp [h])
        · exact hOwn.cells q hq b (by simp [h])
        · exact hOwn.cells q hq b (by simp [h])
        · exact hOwn.cells q hq b (by simp [h])
        · exact hOw2 q hq b h)
      (case hp => exact ⟨⟨by with_reducible assumption, by with_reducible assumption, by with_reducible assumption, by with_reducible assumption, by with_reducible assumption⟩, hT2⟩)
set_option maxHeartbeats 16000000 in
theorem law_q : law_a.P := by
    intro wq_0 wq_1 S1 wq_3 wq_4 wq_7 wq_9 wq_10 wq_12 wq_22 wq_30 hI wq_40 wq_41 wq_42 wq_43 wq_44 wq_45 wq_46 wq_47 codeHd wq_52 wq_53 wq_55 wq_56 wq_57 wq_58 wq_59 N8 n R9 sl F8 hsl c u h tk hP F1 N1
    k_fill
    w_top off
    clear F8 N8 R9
    (try (rename LooseAre .. => zz; clear zz))
    (try (rename Flt.MathXP .. => zz; clear zz))
    (try (rename Tables .. => zz; clear zz))
    (try (rename TopE .. => zz; clear zz))
    (try (rename TopW .. => zz; clear zz))
    (try (rename TabsAt .. => zz; clear zz))
    (try (rename Heap.CodeRec .. => zz; clear zz))
    (try (rename Shape.has _ _ = true => zz; clear zz))
    (try (rename ReadsAll .. => zz; clear zz))
    (try (rename ReadsAllW .. => zz; clear zz))
    (try (rename Dflts .. => zz; clear zz))
    (try (rename Well .. => zz; clear zz))
    (try (rename Reads .. => zz; clear zz))
    (try (rename CellsAre .. => zz; clear zz))
    (try (rename Ground .. => zz; clear zz))
    obtain ⟨o1, o2, o3, o4, o5, d1, d2, d3, d4, d5, tb, cds⟩ := c
    dsimp only at hP F1 N1
    obtain ⟨-, hTab⟩ := hP
    simp only [kstB] at F1
    repeat (rename Fr _ _ _ (bindL _ _ _) => zz; clear zz)
    repeat (rename Obj.data _ = Data.cell _ => zz; clear zz)
    (try (rename CellsAre .. => zz; clear zz))
    repeat (rename News _ _ _ [_, _, _, _, _, _] => zz; clear zz)
    (try dsimp only)
    have N2 : News _ _ _ ((122, tabObj tb) :: cds) := fun q hq => N1 q (by
      simp only [List.mem_cons] at hq ⊢
      rcases hq with h | h <;> simp [h])
    clear N1
    change CodeHd _ 124 122 at codeHd
    k_steps
    rename Fr _ _ _ _ => F7
    rename News _ _ _ _ => N7
    obtain ⟨y2, yt, y0, rfl, rfl, rfl⟩ := name3 N7
    obtain ⟨R, N8, T8, O8⟩ := stage3 N7 (by omega) (by omega) (by omega) hTab.off (by simp)
    repeat (rename _ < _ ∧ _ => zz; clear zz)
    clear N7
    refine lam_any (front := []) (by rfl) F7 N8 (by with_reducible assumption) codeHd rfl (fun q hq => O8 q hq 122 (by simp)) (fun q hq => T8 q (by (iterate 3 (refine List.Mem.tail _ ?_)); exact hq)) hTab.tri hTab.ok3 (by rfl) ?_
    intro f3 c3 ctv3 h3 tk3 tb3 R3 cds3 F9 N9 sR hD3 t3 a3 k3 ofs3 ow3 l3
    simp only [List.nil_append] at N9 l3
    obtain ⟨fo3, hfo3⟩ := nameHd N9
    rw [← hfo3] at N9
    have hlf3 : @LT.lt Nat _ 122 f3 := l3 _ (List.Mem.head _)
    have hO7 := (ofs3 [122] (by simp only [List.nil_append]; walk_at "adr_in")).1 O8
    obtain ⟨-, oc3, vs3, tt3, hoc3, hod3, hov3⟩ := a3
    obtain ⟨R8, hR8⟩ : ∃ r, r = (f3, fo3) :: R3 := ⟨_, rfl⟩
    have N8' : News _ _ _ ((122, tabObj tb3) :: R8) := fun q hq => N9 q (by
      rw [hR8] at hq
      simp only [List.mem_cons] at hq ⊢
      rcases hq with h | h | h <;> simp [h])
    have sR8 : ∀ q ∈ R3, q ∈ R8 := fun q hq => hR8 ▸ List.mem_cons_of_mem _ hq
    have T6 : SubT ((f3, fo3) :: _) R8 := fun q hq => by
      rcases List.mem_cons.mp hq with rfl | hq
      · exact hR8 ▸ List.mem_cons_self ..
      · exact sR8 q (sR q (T8 q hq))
    have O9 : OwnOff R8 [122] := fun q hq b hb => by
      rw [hR8] at hq
      rcases List.mem_cons.mp hq with rfl | hq
      · rw [List.mem_singleton.mp hb]; exact Nat.ne_of_gt hlf3
      · exact hO7 q hq b hb
    obtain ⟨Kx3, hy1, hy2, T7⟩ := subT_end (own := cds) (cds := cds3) T6 (by walk_at "tail") (fun q hq => sR8 q (hD3 q hq))
    simp only [List.cons_append, List.nil_append] at T7
    have S9 : SpanAll R8 [(y0, []), (y2, [(0, 2)])] := fun q hq => by
      simp only [List.mem_cons, List.not_mem_nil, or_false] at hq
      rcases hq with rfl | rfl
      · exact ⟨[], 0, T7 _ (List.Mem.tail _ (List.Mem.tail _ (List.Mem.tail _ (List.Mem.head _)))), .nil⟩
      · exact spansN_one (T7 _ (List.Mem.tail _ (List.Mem.head _))) (T7 _ (List.Mem.tail _ (List.Mem.tail _ (List.Mem.head _))))
    clear N8 N9 F7 T8 T6 O8 ofs3 ow3 l3 t3 k3 hD3 hO7 sR sR8 hR8
    (k_with "m call ref" => ((
      (with_reducible show wpAny _ _ (call (Value.ref 35) _) _ _ _)
      (with_reducible rename QS [] _ = _ => zqhq1)
      k_dflt (refine' specC_use0 (merged_spec _ _ _ _ ?h1.u131 ?h2.u131) ?k1.u131 ?k2.u131 ?k3.u131 ?k4.u131 ?k5.u131 ?kK.u131 ?kd.u131 ?ku.u131 ?kpre.u131 ?_)
      k_dflt (walk_at "use_0")
      (case kpre => k_dflt (intro zqg zqst zqhq; refine' And.intro ?pa.u131 ?pb.u131; (case pa => first | (refine' spansQ_nil zqhq ?sm.u131; (case sm => k_mem)) | (refine' spansQ_two zqhq ?sm.u131 ?sn.u131 ?so.u131; (case sm => k_mem); (case sn => k_mem); (case so => k_mem))); (case pb => first | (refine' spansQ_two zqhq ?tm.u131 ?tn.u131 ?to.u131; (case tm => k_mem); (case tn => k_mem); (case to => k_mem)) | (refine' spansQ_one zqhq ?tm.u131 ?tn.u131; (case tm => k_mem); (case tn => k_mem)))))
      (case h1 => decide); (case h2 => decide);
      k_whole
      refine ret_list ?_
      intro zql9 zqvs9 zqn9 zqh9 zqtk9 zqF9 zqN9 zqD9 zqhI9
      clear zqD9)))
    (k_with "m compareOp NotEq ref ref" => ((k_here; (with_reducible rename QS [] _ = _ => zqhq1); (with_reducible show wpAny _ _ (compareOp CmpOp.NotEq (Value.ref _) (Value.ref _)) _ _ _); k_dflt (first
      | (refine' ne_one ?sa.u132 ?sn.u132 ?sb.u132 ?sc.u132 ?sd.u132 ?se.u132 ?u.u132 ?e.u132 ?_; (case sa => with_reducible assumption); (case sn => k_asm); (case sb => k_mem); (case sc => (intro zqq zqhm; walk_at "own_in1")); (case sd => k_mem); (case se => k_mem); (case u => ktr_units); (case e => with_reducible assumption))
      | (refine' ne_lit2 ?sa.u132 ?si.u132 ?sb.u132 ?u.u132 ?e.u132 ?_; (case sa => (refine' News.get ?na.u132 ?nb.u132; (case na => k_asm); (case nb => k_mem))); (case sb => (refine' News.get ?ma.u132 ?mb.u132; (case ma => k_asm); (case mb => k_mem))); (case si => with_reducible assumption); (case u => ktr_units); (case e => with_reducible assumption))); k_whole)))
    (k_with "m compareOp Eq ref ref" => ((k_here; (with_reducible rename QS [] _ = _ => zqhq1); (with_reducible show wpAny _ _ (compareOp CmpOp.Eq (Value.ref _) (Value.ref _)) _ _ _); k_dflt
      (refine' eq_lit6 ?sa.u133 ?si.u133 ?sb.u133 ?u.u133 ?e.u133 ?_; (case sa => (refine' News.get ?na.u133 ?nb.u133; (case na => k_asm); (case nb => k_mem))); (case sb => (refine' News.get ?ma.u133 ?mb.u133; (case ma => k_asm); (case mb => k_mem))); (case si => with_reducible assumption); (case u => ktr_units); (case e => with_reducible assumption)); k_whole)))
    (rename Fr _ _ _ _ => zF; refine fold_fr zF ?_; clear zF; intro mmr F9)
    rename World => W
    obtain ⟨p, loose, mean, mgx, mbx, T9⟩ : ∃ p loose mean mgx mbx, Top p loose mean mgx mbx (ghostOf S1.heap [(124, 122)]) := ⟨_, _, _, _, _, by with_reducible assumption⟩
    have hK : KeepsFn W p loose mean mgx mbx f3 (fun g' => g'.get? f3 = some fo3 ∧ g'.CodeRec (.ref c3) lamQ) (fun a b => a || b) := by
      refine ⟨fun g1 g2 st h => ⟨st _ _ h.1, h.2.keeps st⟩, fun g1 h => ⟨fo3, _, h.1, by rw [hfo3]⟩, fun a b => ?_⟩
      repeat (rename News _ _ _ _ => zz; clear zz)
      repeat (rename Fr _ _ _ _ => zz; clear zz)
      repeat (rename Top _ _ _ _ _ _ => zz; clear zz)
      repeat (rename Frag.In _ _ => zz; clear zz)
      repeat (rename Below _ _ _ _ => zz; clear zz)
      clear codeHd
      intro dp un gd cn cs a9 ccd cl outer A₀ base h₀ L9 m9 s9 Q9 E9 B9 F9 X9 N9 T9 hk9 hpre hd9 hu9 hret9
      have hp1 : s9.heap.get? f3 = some fo3 := of_hideAll _ hpre.1
      have hp2 : s9.heap.CodeRec (.ref c3) lamQ := hpre.2.keeps fun _ _ e => of_hideAll _ e
      subst hfo3
      refine wpAny_call ?_
      refine' callSE (binds := [(Str.ofString "is_in", .bool a), (Str.ofString "is_there", .bool b)]) B9 F9 X9 N9 T9 rfl rfl hk9 hpre hp1 hp2 ?k8 ?k9 ?kB hret9 ?_ ?c3 ?c4 ?c5 ?c6
      (case k8 => ktr_room)
      (case k9 => exact rfl)
      (case kB => intro y hy; simp only [List.mem_cons, List.not_mem_nil, or_false] at hy; rcases hy with rfl | rfl <;> rfl)
      (case c3 => exact rfl)
      (case c4 => exact rfl)
      (case c5 => exact rfl)
      (case c6 => decide)
      clear hpre hret9 hp1 hp2 F9 N9
      k_whole
      intro g' L' h' F' N' B' X' T' pre'
      obtain ⟨pr1, pr2⟩ := pre'
      (try dsimp only); (try k_lift B'); (try k_fold)
      (cases a <;> cases b <;> k_steps)
      all_goals exact leaveS_sub [] F' N' sub_nil ⟨rfl, rfl⟩
    obtain ⟨preK2, hKK2, hpre2⟩ := absK T7 hK (fun h' hq => ⟨hq _ (List.Mem.head _), ⟨c3, oc3, vs3, tt3, rfl, hq (c3, oc3) (by (iterate 4 (refine List.Mem.tail _ ?_)); exact hy1 _ hoc3), hod3, hov3⟩⟩)
    clear hK hoc3 hod3 hov3 hfo3
    have hz0 : ([] : List (Int × Int)).length ≤ 100 := by decide
    have hz2 : [((0 : Int), (2 : Int))].length ≤ 100 := by decide
    have hn0 : normFrom none [] = true := rfl
    have hn2' : normFrom none [((0 : Int), (2 : Int))] = true := by decide
    have hq1 := qs_one
    have hq2 := qs_two
    have hq3 := put_one
    (rename Fr _ _ _ _ => zF; refine fold_fr zF ?_; clear zF; intro mms F9)
    k_steps
theorem law_holds : PySem.Challenge.rw_on0218_01.Holds := law_a.f ⟨law_q⟩ ⟨law_c.f ⟨law_g.f ⟨law_j.f ⟨law_l.f ⟨law_n⟩⟩⟩⟩⟩
end Mine
set_option maxRecDepth 100000 in
theorem PySem.Challenge.cw_on0218_01_holds : PySem.Challenge.rw_on0218_01.Holds := by
  exact Mine.law_holds
