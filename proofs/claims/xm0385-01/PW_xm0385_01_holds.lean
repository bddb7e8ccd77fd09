import PyProof.Rows.All
import Wide.All
import OpenK.AllK
import Wide.FinOn
import PySem.Challenge.RW_xm0385_01
open PySem PySem.W PyProof.Rows PySem.Calls PySem.Spec
set_option Elab.async false
set_option maxRecDepth 100000
set_option maxHeartbeats 8000000
set_option rowWalk.seconds 0
namespace Mine
section
set_option hygiene false in
local macro_rules | `(tactic| first | refine $t:term | fail $_:str) => `(tactic| (refine $t:term; (case hl => intro w; (try delta openEnds fencedOpening topFrom); (try rewrite [PySem.W.Fast.te14082659384304107361]); (try rewrite [PySem.W.Fast.te10274390034422433532]); (try rewrite [PySem.W.Fast.te14289696077712309145]); (try rewrite [PySem.W.Fast.te5923862056798008813]); (try rewrite [PySem.W.Fast.te1435165496053646825]); (try rewrite [PySem.W.Fast.te14364793385576792824]); kernel_rfl!)))
open_top hd for PySem.Challenge.rw_xm0385_01
end
/-- what a call of a def gives back: r, and the ledger new behind it -/
def Calls (w : World) (loose : List Str) (mean : ExcName → Option Value) (mg mb : Str → Option Value) (dep : Nat) (f : Addr) (args : List Value) (news : List (Addr × Obj)) (Out : Value → List (Addr × Obj) → Prop) : Prop :=
  ∀ (dp un : Nat) (gd : Option (List Code)) (cn : Str) (cs : Scope) (a : Addr) (ccd : Value) (cl : List (Str × Addr)) (outer : List Env) (A₀ : Around) (base h₀ : Heap) (L : Addr) (m : Str → Option Value) (s : Shared) (Q E : Value → Shared → Prop),
    Below A₀ base outer h₀ → Fr h₀ L s.heap m → (hd.heap_39 w.params).In h₀ → News h₀ L s.heap news → Top hd.view_39 loose mean mg mb h₀ → cs.kind = .function →
    dp + dep < recursionLimit → un + 8 * dep < cLine →
    (∀ r new h' tk', Fr h₀ L h' m → News h₀ L h' new → Out r new → Q r { s with heap := h', toks := tk' }) →
    wpAny (model PySem.Challenge.rw_xm0385_01.row.prog w) (ktrTop dp un gd cn cs L a ccd cl outer) (call (.ref f) args) Q E s
theorem Calls.use {w : World} {loose : List Str} {mean : ExcName → Option Value} {mg mb : Str → Option Value} {dep : Nat} {f : Addr} {args : List Value} {news : List (Addr × Obj)} {Out : Value → List (Addr × Obj) → Prop}
    {dp un : Nat} {gd : Option (List Code)} {cn : Str} {cs : Scope} {a : Addr} {ccd : Value} {cl : List (Str × Addr)} {outer : List Env} {A₀ : Around} {base h₀ : Heap} {L : Addr} {m : Str → Option Value} {s : Shared} {Q E : Value → Shared → Prop}
    (B : Below A₀ base outer h₀) (F : Fr h₀ L s.heap m) (X : (hd.heap_39 w.params).In h₀) (N : News h₀ L s.heap news) (T : Top hd.view_39 loose mean mg mb h₀) (hk : cs.kind = .function)
    (C : Calls w loose mean mg mb dep f args news Out) (hd : dp + dep < recursionLimit) (hu : un + 8 * dep < cLine)
    (ret : ∀ r new h' tk', Fr h₀ L h' m → News h₀ L h' new → Out r new → Q r { s with heap := h', toks := tk' }) :
    wpAny (model PySem.Challenge.rw_xm0385_01.row.prog w) (ktrTop dp un gd cn cs L a ccd cl outer) (call (.ref f) args) Q E s :=
  C _ _ _ _ _ _ _ _ _ _ _ _ _ _ _ _ _ B F X N T hk hd hu ret

/-- what stands in the caller's ledger beside the seen part V is kept -/
def Kept (h₀ : Heap) (L : Addr) (V news : List (Addr × Obj)) (h : Heap) : Prop := ∀ p ∈ news, (∀ q ∈ V, p.1 ≠ q.1) → h.get? p.1 = some p.2 ∧ p.1 ≠ L ∧ h₀.get? p.1 = none
theorem Kept.all {h₀ g h' : Heap} {L : Addr} {V news new' : List (Addr × Obj)} (K : Kept h₀ L V news h') (N : News h₀ L g news) (hV : ∀ q ∈ V, q ∈ news) (N' : News h₀ L h' new') (hs : ∀ q ∈ V, q ∈ new') : News h₀ L h' news := by
  intro p hp
  by_cases e : ∃ q ∈ V, p.1 = q.1
  · obtain ⟨q, hq, e⟩ := e
    have e1 := (N p hp).1
    have e2 := (N q (hV q hq)).1
    rw [e] at e1
    have e3 : p = q := Prod.ext e (Option.some.inj (e1.symm.trans e2))
    rw [e3]; exact N' q (hs q hq)
  · exact K p hp fun q hq e' => e ⟨q, hq, e'⟩
theorem Kept.cons {h₀ g h' : Heap} {L : Addr} {V news new' : List (Addr × Obj)} {q : Addr × Obj} (K : Kept h₀ L V news h') (N : News h₀ L g news) (hV : ∀ q ∈ V, q ∈ news) (N' : News h₀ L h' new') (hs : ∀ q ∈ V, q ∈ new') (hq : q ∈ new') : News h₀ L h' (q :: news) := by
  intro p hp
  rcases List.mem_cons.mp hp with rfl | hp
  · exact N' _ hq
  · exact K.all N hV N' hs p hp
theorem Kept.cons2 {h₀ g h' : Heap} {L : Addr} {V news new' : List (Addr × Obj)} {q q2 : Addr × Obj} (K : Kept h₀ L V news h') (N : News h₀ L g news) (hV : ∀ q ∈ V, q ∈ news) (N' : News h₀ L h' new') (hs : ∀ q ∈ V, q ∈ new') (hq : q ∈ new') (hq2 : q2 ∈ new') : News h₀ L h' (q :: q2 :: news) := by
  intro p hp
  rcases List.mem_cons.mp hp with rfl | hp
  · exact N' _ hq
  · exact K.cons N hV N' hs hq2 p hp
theorem Kept.cons3 {h₀ g h' : Heap} {L : Addr} {V news new' : List (Addr × Obj)} {q q2 q3 : Addr × Obj} (K : Kept h₀ L V news h') (N : News h₀ L g news) (hV : ∀ q ∈ V, q ∈ news) (N' : News h₀ L h' new') (hs : ∀ q ∈ V, q ∈ new') (hq : q ∈ new') (hq2 : q2 ∈ new') (hq3 : q3 ∈ new') : News h₀ L h' (q :: q2 :: q3 :: news) := by
  intro p hp
  rcases List.mem_cons.mp hp with rfl | hp
  · exact N' _ hq
  · exact K.cons2 N hV N' hs hq2 hq3 p hp
/-- one object of the seen part has changed -/
theorem Kept.upd {h₀ g₁ h' : Heap} {L d : Addr} {o o' : Obj} {V news new' : List (Addr × Obj)} {g : Obj → List (Addr × Obj)} (K : Kept h₀ L ((d, o) :: V) news h') (N : News h₀ L g₁ news) (hV : ∀ q ∈ (d, o) :: V, q ∈ news) (U : UpdF d o news g) (N' : News h₀ L h' new') (hd : (d, o') ∈ new') (hs : ∀ q ∈ V, q ∈ new') :
    News h₀ L h' (g o') := by
  obtain ⟨own, rest, e, hg, h1, h2⟩ := U.split
  rw [hg]
  have key : ∀ p ∈ news, p.1 ≠ d → h'.get? p.1 = some p.2 ∧ p.1 ≠ L ∧ h₀.get? p.1 = none := by
    intro p hp hn
    by_cases e : ∃ q ∈ V, p.1 = q.1
    · obtain ⟨q, hq, e⟩ := e
      have e1 := (N p hp).1
      have e2 := (N q (hV q (.tail _ hq))).1
      rw [e] at e1
      have e3 : p = q := Prod.ext e (Option.some.inj (e1.symm.trans e2))
      rw [e3]; exact N' q (hs q hq)
    · refine K p hp fun q hq e' => ?_
      rcases List.mem_cons.mp hq with rfl | hq
      · exact hn e'
      · exact e ⟨q, hq, e'⟩
  intro p hp
  rcases List.mem_append.mp hp with hp | hp
  · exact key p (by rw [e]; exact List.mem_append_left _ hp) (h1 p hp)
  · rcases List.mem_cons.mp hp with rfl | hp
    · exact N' _ hd
    · exact key p (by rw [e]; exact List.mem_append_right _ (.tail _ hp)) (h2 p hp)
theorem Kept.updCons {h₀ g₁ h' : Heap} {L d : Addr} {o o' : Obj} {V news new' : List (Addr × Obj)} {q : Addr × Obj} {g : Obj → List (Addr × Obj)} (K : Kept h₀ L ((d, o) :: V) news h') (N : News h₀ L g₁ news) (hV : ∀ q ∈ (d, o) :: V, q ∈ news) (U : UpdF d o news g) (N' : News h₀ L h' new') (hq : q ∈ new') (hd : (d, o') ∈ new') (hs : ∀ q ∈ V, q ∈ new') :
    News h₀ L h' (q :: g o') := by
  intro p hp
  rcases List.mem_cons.mp hp with rfl | hp
  · exact N' _ hq
  · exact K.upd N hV U N' hd hs p hp
/-- the same, by membership -/
theorem Kept.head {h₀ h' : Heap} {L : Addr} {V rest new' : List (Addr × Obj)} {q q' : Addr × Obj} (K : Kept h₀ L V (q :: rest) h') (hn : ∀ p ∈ rest, ∀ v ∈ V, p.1 ≠ v.1) (N' : News h₀ L h' new') (hs : q' ∈ new') : News h₀ L h' (q' :: rest) := by
  intro p hp
  rcases List.mem_cons.mp hp with rfl | hp
  · exact N' _ hs
  · exact K p (.tail _ hp) (hn p hp)

section
variable {prog : Program} {w : World} {A₀ A : Around} {s : Shared} {base h₀ : Heap} {L : Addr} {m mg mb : Str → Option Value} {K : Frag} {p : Program} {loose : List Str} {mean : ExcName → Option Value}
/-- a call of a def that sees the part V of the ledger -/
theorem code_see {env : Env} {outer : List Env} {R : Result → Shared → Prop} {name qual : Str} {params : Arguments} {body : List Stmt} {scope : Scope} {dV kV doc pm cdv ct oc : Value} {an od : Option Addr} {osl : Array (Option Value)} {f : Addr} {args : Args} {binds : List (Str × Value)} (V : List (Addr × Obj)) {news : List (Addr × Obj)}
    (hV : ∀ q ∈ V, q ∈ news)
    (B : Below A₀ base outer h₀) (F : Fr h₀ L s.heap m) (X₀ : K.In h₀) (N : News h₀ L s.heap news) (T : Top p loose mean mg mb h₀) (hA : A.frames = some (env :: outer)) (hf : env.frame = some L) (hke : env.scope.kind = .function)
    (ho : K.lookup f = some ⟨oc, od, .func (fnOf name qual params body scope dV kV doc pm an cdv ct), osl⟩) (hcd : codeIn K cdv qual = true) (hroom : A.depth < recursionLimit)
    (hbind : BindsTo s (fnOf name qual params body scope dV kV doc pm an cdv ct) args binds) (hloc : ∀ y ∈ binds, scope.names.lookup y.1 = some .local)
    (h : ∀ g L' h₁, Fr h₀ L g m → Fr g L' h₁ (fun y => binds.reverse.lookup y) → News g L' h₁ V → Below A base (env :: outer) g → K.In g → Top p loose mean mg mb g →
      wpAny (model prog w) (A.deeper (envOf qual scope L' f cdv)) (execs body (envOf qual scope L' f cdv))
        (fun fl s' => LeaveK h₀ L m g (fun r s'' => Kept h₀ L V news s''.heap → R r s'') (match fl with | .ret v => v | _ => .none) s')
        (fun e s' => wpAny (model prog w) (A.deeper (envOf qual scope L' f cdv)) (leaving (envOf qual scope L' f cdv) e) (fun _ s'' => R (.error e) s'') (fun e' s'' => R (.error e') s'') s')
        { s with heap := h₁, toks := s.toks + binds.length })
    (hco : scope.isCoroutine = false) (hgen : scope.isGenerator = false) (hk : scope.kind = .function)
    (hcell : ∀ x ∈ scope.names, x.2 ≠ .cell) : codeAny (model prog w) A (.call (.ref f) args) R s := by
  have NV : News h₀ L s.heap V := fun q hq => N q (hV q hq)
  obtain ⟨FG, BG, st, lv⟩ := groundX (R := fun r s'' => Kept h₀ L V news s''.heap → R r s'') B F NV hA hf hke
  have kept : ∀ h', (∀ b o, (hideAll s.heap (V.map (·.1))).get? b = some o → h'.get? b = some o) → Kept h₀ L V news h' := fun h' hk' q hq hn =>
    ⟨hk' _ _ (hideAll_get _ (N q hq).1 fun hm => by obtain ⟨v, hv, e⟩ := List.mem_map.mp hm; exact hn v hv e.symm), (N q hq).2⟩
  refine codeAny_call_def (fd := fnX name qual params body scope [] dV kV doc pm an cdv ct) (body := body) (binds := binds) hroom ((X₀.keeps F.keep) _ _ ho) rfl (T.nolimit.keeps F.keep) (codeRec_of (X₀.keeps F.keep) hcd) rfl hbind hcell hloc (fun h₁ hns hk₁ => ?_) hco hgen hk
  refine wpAny_mono (h _ s.heap.objs.size h₁ FG ⟨hns, fun b o e => hk₁ b o (of_hideAll _ e), Nat.le_of_eq (hideAll_size _ _)⟩
    (fun p hp => ⟨hk₁ _ _ (NV p hp).1, Nat.ne_of_lt (Heap.lt_size (NV p hp).1), hideAll_none _ (List.mem_map_of_mem hp)⟩) BG (X₀.keeps st) (T.keeps st)) (fun fl s' hl => ?_) fun _ _ y => y
  refine lv _ _ hl ?_
  obtain ⟨L', m', news', F', N', k⟩ := hl
  exact kept _ F'.keep
end

section
variable {prog : Program} {w : World} {A₀ A : Around} {s : Shared} {base h₀ : Heap} {L : Addr} {m mg mb : Str → Option Value} {K : Frag} {p : Program} {loose : List Str} {mean : ExcName → Option Value}
/-- the same for a def whose locals are captured -/
theorem code_seeC {env : Env} {outer : List Env} {R : Result → Shared → Prop} {name qual : Str} {params : Arguments} {body : List Stmt} {scope : Scope} {dV kV doc pm cdv ct oc : Value} {an od : Option Addr} {osl : Array (Option Value)} {f : Addr} {args : Args} {binds : List (Str × Value)} (V : List (Addr × Obj)) {news : List (Addr × Obj)}
    (hV : ∀ q ∈ V, q ∈ news)
    (B : Below A₀ base outer h₀) (F : Fr h₀ L s.heap m) (X₀ : K.In h₀) (N : News h₀ L s.heap news) (T : Top p loose mean mg mb h₀) (hA : A.frames = some (env :: outer)) (hf : env.frame = some L) (hke : env.scope.kind = .function)
    (ho : K.lookup f = some ⟨oc, od, .func (fnOf name qual params body scope dV kV doc pm an cdv ct), osl⟩) (hcd : codeIn K cdv qual = true) (hroom : A.depth < recursionLimit)
    (hbind : BindsTo s (fnOf name qual params body scope dV kV doc pm an cdv ct) args binds)
    (hkind : (binds.all fun y => scope.names.lookup y.1 == some .local || scope.names.lookup y.1 == some .cell) = true) (hnd : ((cellsFrom 0 scope.names []).map (·.1)).Nodup)
    (h : ∀ g L' h₁ tk cells, Fr h₀ L g m → Fr g L' h₁ (bindL (envOfC qual scope L' f cdv).kindOf binds fun _ => none) → News g L' h₁ (cells ++ V) →
      CellsAre (bindC (envOfC qual scope L' f cdv).kindOf binds fun _ => none) (cellsFrom (L' + 1) scope.names []) cells → Below A base (env :: outer) g → K.In g → Top p loose mean mg mb g → (∀ p ∈ V, p.1 < L') →
      wpAny (model prog w) (A.deeper (envOfC qual scope L' f cdv)) (execs body (envOfC qual scope L' f cdv))
        (fun fl s' => LeaveK h₀ L m g (fun r s'' => Kept h₀ L V news s''.heap → R r s'') (match fl with | .ret v => v | _ => .none) s')
        (fun e s' => wpAny (model prog w) (A.deeper (envOfC qual scope L' f cdv)) (leaving (envOfC qual scope L' f cdv) e) (fun _ s'' => R (.error e) s'') (fun e' s'' => R (.error e') s'') s')
        { s with heap := h₁, toks := tk })
    (hco : scope.isCoroutine = false) (hgen : scope.isGenerator = false) (hk : scope.kind = .function) : codeAny (model prog w) A (.call (.ref f) args) R s := by
  have NV : News h₀ L s.heap V := fun q hq => N q (hV q hq)
  obtain ⟨FG, BG, st, lv⟩ := groundX (R := fun r s'' => Kept h₀ L V news s''.heap → R r s'') B F NV hA hf hke
  have kept : ∀ h', (∀ b o, (hideAll s.heap (V.map (·.1))).get? b = some o → h'.get? b = some o) → Kept h₀ L V news h' := fun h' hk' q hq hn =>
    ⟨hk' _ _ (hideAll_get _ (N q hq).1 fun hm => by obtain ⟨v, hv, e⟩ := List.mem_map.mp hm; exact hn v hv e.symm), (N q hq).2⟩
  refine codeAny_call_function hroom ((X₀.keeps F.keep) _ _ ho) rfl hco hgen rfl (codeRec_of (X₀.keeps F.keep) hcd) (hbind _ _ _ _ ?_)
  refine wpAny_newFunctionEnv_cells hk (kindsX hkind _) fun env' he s' x => ?_
  subst he
  refine ⟨((T.nolimit.keeps F.keep)).keeps x.toInCall.keep, codeAny_func ?_⟩
  obtain ⟨h₁, tk, rfl, _⟩ := x.done
  have hk₁ := x.toInCall.keep
  obtain ⟨cells, NC, Y⟩ := Cl.news (h₀ := s.heap) (Nat.le_refl _) fun n c hm => ⟨x.cell n c (lookup_of_mem_nodup (cellsFrom_names scope.names 0 (s.heap.objs.size + 1) [] [] rfl ▸ hnd) hm), x.above n c hm⟩
  refine wpAny_mono (h _ s.heap.objs.size h₁ tk cells FG ⟨x.toInCall.ns, fun b o e => hk₁ b o (of_hideAll _ e), Nat.le_of_eq (hideAll_size _ _)⟩ (fun p hp => ?_) Y BG (X₀.keeps st) (T.keeps st) (fun p hp => Heap.lt_size (NV p hp).1)) (fun fl s' hl => ?_) fun _ _ y => y
  · rcases List.mem_append.mp hp with hp | hp
    · refine ⟨(NC p hp).1, (NC p hp).2.1, ?_⟩
      cases q : (hideAll s.heap (V.map (·.1))).get? p.1 with
      | none => rfl
      | some o => have := of_hideAll _ q; rw [(NC p hp).2.2] at this; cases this
    · exact ⟨hk₁ _ _ (NV p hp).1, Nat.ne_of_lt (Heap.lt_size (NV p hp).1), hideAll_none _ (List.mem_map_of_mem hp)⟩
  · refine lv _ _ hl ?_
    obtain ⟨L', m', news', F', N', k⟩ := hl
    exact kept _ F'.keep
end

/-- an int comes back, nothing is made -/
inductive OutI (news : List (Addr × Obj)) (P : Int → Prop) : Value → List (Addr × Obj) → Prop where
  | mk (i : Int) (t : Tok) (p : P i) : OutI news P (.int i t) news
/-- a bool comes back, nothing is made -/
inductive OutB (news : List (Addr × Obj)) (P : Bool → Prop) : Value → List (Addr × Obj) → Prop where
  | mk (i : Bool) (p : P i) : OutB news P (.bool i) news
/-- an int comes back, one list of ints has changed -/
inductive OutM (g : Obj → List (Addr × Obj)) (P : Int → List Int → Prop) : Value → List (Addr × Obj) → Prop where
  | mk (i : Int) (t : Tok) (vs : List Value) (ns : List Int) (c : Nat) (hi : IntsAre vs ns) (p : P i ns) : OutM g P (.int i t) (g (listOf vs.toArray c))
/-- a new list of ints comes back, one list of ints has changed -/
inductive OutML (g : Obj → List (Addr × Obj)) (P : List Int → List Int → Prop) : Value → List (Addr × Obj) → Prop where
  | mk (l : Addr) (vs2 : List Value) (ns2 : List Int) (c2 : Nat) (vs : List Value) (ns : List Int) (c : Nat) (hi2 : IntsAre vs2 ns2) (hi : IntsAre vs ns) (p : P ns2 ns) : OutML g P (.ref l) ((l, listOf vs2.toArray c2) :: g (listOf vs.toArray c))
/-- a new list of ints comes back -/
inductive OutL (news : List (Addr × Obj)) (P : List Int → Prop) : Value → List (Addr × Obj) → Prop where
  | mk (l : Addr) (vs : List Value) (ns : List Int) (c : Nat) (hi : IntsAre vs ns) (p : P ns) : OutL news P (.ref l) ((l, listOf vs.toArray c) :: news)
/-- a new pair comes back: a new list of ints and an int -/
inductive OutT (news : List (Addr × Obj)) (P : Int → Prop) : Value → List (Addr × Obj) → Prop where
  | mk (a l : Addr) (vs : List Value) (ns : List Int) (c c' : Nat) (i : Int) (t : Tok) (hi : IntsAre vs ns) (p : P i) :
    OutT news P (.ref a) ((a, { cls := .type "tuple", data := .seq #[.ref l, .int i t] c' }) :: (l, listOf vs.toArray c) :: news)
/-- a new pair comes back: two new lists of ints -/
inductive OutTL (news : List (Addr × Obj)) (P : List Int → Prop) : Value → List (Addr × Obj) → Prop where
  | mk (a l l2 : Addr) (vs vs2 : List Value) (ns ns2 : List Int) (c c2 c' : Nat) (hi : IntsAre vs ns) (hi2 : IntsAre vs2 ns2) (p : P ns2) :
    OutTL news P (.ref a) ((a, { cls := .type "tuple", data := .seq #[.ref l, .ref l2] c' }) :: (l, listOf vs.toArray c) :: (l2, listOf vs2.toArray c2) :: news)

theorem Calls.monoB {w : World} {loose : List Str} {mean : ExcName → Option Value} {mg mb : Str → Option Value} {dep : Nat} {f : Addr} {args : List Value} {news : List (Addr × Obj)} {P P' : Bool → Prop} (C : Calls w loose mean mg mb dep f args news (OutB news P)) (h : ∀ i, P i → P' i) : Calls w loose mean mg mb dep f args news (OutB news P') :=
  fun dp un gd cn cs a ccd cl outer A₀ base h₀ L m s Q E B F X N T hk hd hu ret => C dp un gd cn cs a ccd cl outer A₀ base h₀ L m s Q E B F X N T hk hd hu fun r new h' tk' F' N' O => by
    cases O with | mk i p => exact ret _ _ h' tk' F' N' (.mk i (h i p))
/-- the same, with more room -/
theorem Calls.deeper {w : World} {loose : List Str} {mean : ExcName → Option Value} {mg mb : Str → Option Value} {dep dep' : Nat} {f : Addr} {args : List Value} {news : List (Addr × Obj)} {Out : Value → List (Addr × Obj) → Prop} (C : Calls w loose mean mg mb dep f args news Out) (h : dep ≤ dep') : Calls w loose mean mg mb dep' f args news Out :=
  fun dp un gd cn cs a ccd cl outer A₀ base h₀ L m s Q E B F X N T hk hd hu ret => C dp un gd cn cs a ccd cl outer A₀ base h₀ L m s Q E B F X N T hk (by omega) (by omega) ret
theorem Calls.monoI {w : World} {loose : List Str} {mean : ExcName → Option Value} {mg mb : Str → Option Value} {dep : Nat} {f : Addr} {args : List Value} {news : List (Addr × Obj)} {P P' : Int → Prop} (C : Calls w loose mean mg mb dep f args news (OutI news P)) (h : ∀ i, P i → P' i) : Calls w loose mean mg mb dep f args news (OutI news P') :=
  fun dp un gd cn cs a ccd cl outer A₀ base h₀ L m s Q E B F X N T hk hd hu ret => C dp un gd cn cs a ccd cl outer A₀ base h₀ L m s Q E B F X N T hk hd hu fun r new h' tk' F' N' O => by
    cases O with | mk i t p => exact ret _ _ h' tk' F' N' (.mk i t (h i p))
section
variable {w : World} {loose : List Str} {mean : ExcName → Option Value} {mg mb : Str → Option Value} {dep : Nat} {f : Addr} {args : List Value} {news : List (Addr × Obj)}
    {dp un : Nat} {gd : Option (List Code)} {cn : Str} {cs : Scope} {a : Addr} {ccd : Value} {cl : List (Str × Addr)} {outer : List Env} {A₀ : Around} {base h₀ : Heap} {L : Addr} {m : Str → Option Value} {s : Shared} {Q E : Value → Shared → Prop}
theorem Calls.useI {P : Int → Prop} (B : Below A₀ base outer h₀) (F : Fr h₀ L s.heap m) (X : (hd.heap_39 w.params).In h₀) (N : News h₀ L s.heap news) (T : Top hd.view_39 loose mean mg mb h₀) (hk : cs.kind = .function)
    (C : Calls w loose mean mg mb dep f args news (OutI news P)) (hd : dp + dep < recursionLimit) (hu : un + 8 * dep < cLine)
    (ret : ∀ i t h' tk', Fr h₀ L h' m → News h₀ L h' news → P i → Q (.int i t) { s with heap := h', toks := tk' }) :
    wpAny (model PySem.Challenge.rw_xm0385_01.row.prog w) (ktrTop dp un gd cn cs L a ccd cl outer) (call (.ref f) args) Q E s :=
  C.use B F X N T hk hd hu fun r new h' tk' F' N' O => by cases O with | mk i t p => exact ret i t h' tk' F' N' p
theorem Calls.useB {P : Bool → Prop} (B : Below A₀ base outer h₀) (F : Fr h₀ L s.heap m) (X : (hd.heap_39 w.params).In h₀) (N : News h₀ L s.heap news) (T : Top hd.view_39 loose mean mg mb h₀) (hk : cs.kind = .function)
    (C : Calls w loose mean mg mb dep f args news (OutB news P)) (hd : dp + dep < recursionLimit) (hu : un + 8 * dep < cLine)
    (ret : ∀ i h' tk', Fr h₀ L h' m → News h₀ L h' news → P i → Q (.bool i) { s with heap := h', toks := tk' }) :
    wpAny (model PySem.Challenge.rw_xm0385_01.row.prog w) (ktrTop dp un gd cn cs L a ccd cl outer) (call (.ref f) args) Q E s :=
  C.use B F X N T hk hd hu fun r new h' tk' F' N' O => by cases O with | mk i p => exact ret i h' tk' F' N' p
theorem Calls.useL {P : List Int → Prop} (B : Below A₀ base outer h₀) (F : Fr h₀ L s.heap m) (X : (hd.heap_39 w.params).In h₀) (N : News h₀ L s.heap news) (T : Top hd.view_39 loose mean mg mb h₀) (hk : cs.kind = .function)
    (C : Calls w loose mean mg mb dep f args news (OutL news P)) (hd : dp + dep < recursionLimit) (hu : un + 8 * dep < cLine)
    (ret : ∀ l vs ns c h' tk', Fr h₀ L h' m → News h₀ L h' ((l, listOf vs.toArray c) :: news) → IntsAre vs ns → P ns → Q (.ref l) { s with heap := h', toks := tk' }) :
    wpAny (model PySem.Challenge.rw_xm0385_01.row.prog w) (ktrTop dp un gd cn cs L a ccd cl outer) (call (.ref f) args) Q E s :=
  C.use B F X N T hk hd hu fun r new h' tk' F' N' O => by cases O with | mk l vs ns c hi p => exact ret l vs ns c h' tk' F' N' hi p
theorem Calls.useM {g : Obj → List (Addr × Obj)} {P : Int → List Int → Prop} (B : Below A₀ base outer h₀) (F : Fr h₀ L s.heap m) (X : (hd.heap_39 w.params).In h₀) (N : News h₀ L s.heap news) (T : Top hd.view_39 loose mean mg mb h₀) (hk : cs.kind = .function)
    (C : Calls w loose mean mg mb dep f args news (OutM g P)) (hd : dp + dep < recursionLimit) (hu : un + 8 * dep < cLine)
    (ret : ∀ i t vs ns c h' tk', Fr h₀ L h' m → News h₀ L h' (g (listOf vs.toArray c)) → IntsAre vs ns → P i ns → Q (.int i t) { s with heap := h', toks := tk' }) :
    wpAny (model PySem.Challenge.rw_xm0385_01.row.prog w) (ktrTop dp un gd cn cs L a ccd cl outer) (call (.ref f) args) Q E s :=
  C.use B F X N T hk hd hu fun r new h' tk' F' N' O => by cases O with | mk i t vs ns c hi p => exact ret i t vs ns c h' tk' F' N' hi p
theorem Calls.useML {g : Obj → List (Addr × Obj)} {P : List Int → List Int → Prop} (B : Below A₀ base outer h₀) (F : Fr h₀ L s.heap m) (X : (hd.heap_39 w.params).In h₀) (N : News h₀ L s.heap news) (T : Top hd.view_39 loose mean mg mb h₀) (hk : cs.kind = .function)
    (C : Calls w loose mean mg mb dep f args news (OutML g P)) (hd : dp + dep < recursionLimit) (hu : un + 8 * dep < cLine)
    (ret : ∀ l vs2 ns2 c2 vs ns c h' tk', Fr h₀ L h' m → News h₀ L h' ((l, listOf vs2.toArray c2) :: g (listOf vs.toArray c)) → IntsAre vs2 ns2 → IntsAre vs ns → P ns2 ns → Q (.ref l) { s with heap := h', toks := tk' }) :
    wpAny (model PySem.Challenge.rw_xm0385_01.row.prog w) (ktrTop dp un gd cn cs L a ccd cl outer) (call (.ref f) args) Q E s :=
  C.use B F X N T hk hd hu fun r new h' tk' F' N' O => by cases O with | mk l vs2 ns2 c2 vs ns c hi2 hi p => exact ret l vs2 ns2 c2 vs ns c h' tk' F' N' hi2 hi p
theorem Calls.useT {P : Int → Prop} (B : Below A₀ base outer h₀) (F : Fr h₀ L s.heap m) (X : (hd.heap_39 w.params).In h₀) (N : News h₀ L s.heap news) (T : Top hd.view_39 loose mean mg mb h₀) (hk : cs.kind = .function)
    (C : Calls w loose mean mg mb dep f args news (OutT news P)) (hd : dp + dep < recursionLimit) (hu : un + 8 * dep < cLine)
    (ret : ∀ a l vs ns c c' i t h' tk', Fr h₀ L h' m → News h₀ L h' ((a, ({ cls := .type "tuple", data := .seq #[.ref l, .int i t] c' } : Obj)) :: (l, listOf vs.toArray c) :: news) → IntsAre vs ns → P i → Q (.ref a) { s with heap := h', toks := tk' }) :
    wpAny (model PySem.Challenge.rw_xm0385_01.row.prog w) (ktrTop dp un gd cn cs L a ccd cl outer) (call (.ref f) args) Q E s :=
  C.use B F X N T hk hd hu fun r new h' tk' F' N' O => by cases O with | mk a l vs ns c c' i t hi p => exact ret a l vs ns c c' i t h' tk' F' N' hi p
theorem Calls.useTL {P : List Int → Prop} (B : Below A₀ base outer h₀) (F : Fr h₀ L s.heap m) (X : (hd.heap_39 w.params).In h₀) (N : News h₀ L s.heap news) (T : Top hd.view_39 loose mean mg mb h₀) (hk : cs.kind = .function)
    (C : Calls w loose mean mg mb dep f args news (OutTL news P)) (hd : dp + dep < recursionLimit) (hu : un + 8 * dep < cLine)
    (ret : ∀ a l l2 vs vs2 ns ns2 c c2 c' h' tk', Fr h₀ L h' m → News h₀ L h' ((a, ({ cls := .type "tuple", data := .seq #[.ref l, .ref l2] c' } : Obj)) :: (l, listOf vs.toArray c) :: (l2, listOf vs2.toArray c2) :: news) → IntsAre vs ns → IntsAre vs2 ns2 → P ns2 → Q (.ref a) { s with heap := h', toks := tk' }) :
    wpAny (model PySem.Challenge.rw_xm0385_01.row.prog w) (ktrTop dp un gd cn cs L a ccd cl outer) (call (.ref f) args) Q E s :=
  C.use B F X N T hk hd hu fun r new h' tk' F' N' O => by cases O with | mk a l l2 vs vs2 ns ns2 c c2 c' hi hi2 p => exact ret a l l2 vs vs2 ns ns2 c c2 c' h' tk' F' N' hi hi2 p
end
/-- the number that limbs of base B say -/
def val (B : Int) : List Int → Int
  | [] => 0
  | l :: t => l + B * val B t
/-- the limbs of base 2 ^ b of the number x, none of them a leading nought -/
def Rep (b : Int) (ns : List Int) (x : Int) : Prop :=
  (∀ l ∈ ns, 0 ≤ l ∧ l < 2 ^ b.toNat) ∧ (ns = [] ∨ ns.getD (ns.length - 1) 0 ≠ 0) ∧ val (2 ^ b.toNat) ns = x
/-- x is what an IfExp gave; hidden from the arithmetic -/
def IfIs (C : Prop) [Decidable C] (X Y x : Int) : Prop := x = if C then X else Y
/-- a test came out c0, and only the count of tokens moved -/
def MeetB (c0 : Bool) (s : Shared) (c : Bool) (s' : Shared) : Prop := c = c0 ∧ ∃ tk, s' = { s with toks := tk }
/-- an int X came out, and only the count of tokens moved -/
def MeetI (X : Int) (s : Shared) (v : Value) (s' : Shared) : Prop := ∃ t tk, v = .int X t ∧ s' = { s with toks := tk }
theorem MeetB.mk {c0 : Bool} {s : Shared} {tk : Nat} : MeetB c0 s c0 { s with toks := tk } := ⟨rfl, tk, rfl⟩
theorem MeetI.mk {X : Int} {t : Tok} {s : Shared} {tk : Nat} : MeetI X s (.int X t) { s with toks := tk } := ⟨t, tk, rfl, rfl⟩
section
variable {M : Model} {A : Around} {E : Value → Shared → Prop} {s : Shared} {env : Env}
theorem ifexp_int {test body orelse : PySem.Expr} {pos : Pos} {c0 : Bool} {X Y : Int} {Q : Value → Shared → Prop}
    (ht : wpAny M A (isTrue test env (eval test env)) (MeetB c0 s) E s)
    (hb : ∀ tk, c0 = true → wpAny M A (eval body env) (MeetI X s) E { s with toks := tk })
    (ho : ∀ tk, c0 = false → wpAny M A (eval orelse env) (MeetI Y s) E { s with toks := tk })
    (k : ∀ t tk, Q (.int (if c0 = true then X else Y) t) { s with toks := tk }) :
    wpAny M A (eval (.IfExp test body orelse pos) env) Q E s := by
  refine IfExp_ (wpAny_mono ht (fun c s₂ h₂ => ?_) fun _ _ x => x)
  obtain ⟨rfl, tk, rfl⟩ := h₂
  cases c with
  | true =>
    simp only [if_true]
    refine wpAny_mono (hb tk rfl) (fun v s₃ h₃ => ?_) fun _ _ x => x
    obtain ⟨t, tk', rfl, rfl⟩ := h₃
    have := k t tk'
    simp only [if_true] at this
    exact this
  | false =>
    simp only [Bool.false_eq_true, if_false]
    refine wpAny_mono (ho tk rfl) (fun v s₃ h₃ => ?_) fun _ _ x => x
    obtain ⟨t, tk', rfl, rfl⟩ := h₃
    have := k t tk'
    simp only [Bool.false_eq_true, if_false] at this
    exact this
theorem ifexp_dec {test body orelse : PySem.Expr} {pos : Pos} {C : Prop} {inst : Decidable C} {X Y : Int} {Q : Value → Shared → Prop}
    (ht : wpAny M A (isTrue test env (eval test env)) (MeetB (decide C) s) E s)
    (hb : ∀ tk, C → wpAny M A (eval body env) (MeetI X s) E { s with toks := tk })
    (ho : ∀ tk, ¬ C → wpAny M A (eval orelse env) (MeetI Y s) E { s with toks := tk })
    (k : ∀ t tk, Q (.int (if C then X else Y) t) { s with toks := tk }) :
    wpAny M A (eval (.IfExp test body orelse pos) env) Q E s := by
  refine ifexp_int ht (fun tk h => hb tk (of_decide_eq_true h)) (fun tk h => ho tk (of_decide_eq_false h)) fun t tk => ?_
  have e : (if decide C = true then X else Y) = if C then X else Y := by
    by_cases h : C
    · simp [h]
    · simp [h]
  rw [e]
  exact k t tk
theorem ifexp_eq {test body orelse : PySem.Expr} {pos : Pos} {C : Prop} {inst : Decidable C} {X Y : Int} {Q : Value → Shared → Prop}
    (ht : wpAny M A (isTrue test env (eval test env)) (MeetB (decide C) s) E s)
    (hb : ∀ tk, C → wpAny M A (eval body env) (MeetI X s) E { s with toks := tk })
    (ho : ∀ tk, ¬ C → wpAny M A (eval orelse env) (MeetI Y s) E { s with toks := tk })
    (k : ∀ x t tk, IfIs C X Y x → Q (.int x t) { s with toks := tk }) :
    wpAny M A (eval (.IfExp test body orelse pos) env) Q E s := ifexp_dec ht hb ho fun t tk => k _ t tk rfl
theorem ifexp_eqB {test body orelse : PySem.Expr} {pos : Pos} {c0 : Bool} {X Y : Int} {Q : Value → Shared → Prop}
    (ht : wpAny M A (isTrue test env (eval test env)) (MeetB c0 s) E s)
    (hb : ∀ tk, c0 = true → wpAny M A (eval body env) (MeetI X s) E { s with toks := tk })
    (ho : ∀ tk, c0 = false → wpAny M A (eval orelse env) (MeetI Y s) E { s with toks := tk })
    (k : ∀ x t tk, IfIs (c0 = true) X Y x → Q (.int x t) { s with toks := tk }) :
    wpAny M A (eval (.IfExp test body orelse pos) env) Q E s := ifexp_int ht hb ho fun t tk => k _ t tk rfl
theorem and_meet {e₁ e₂ : PySem.Expr} {pos : Pos} {whole : Sem Value} {c1 c2 : Bool} {Q : Bool → Shared → Prop}
    (h1 : wpAny M A (isTrue e₁ env (eval e₁ env)) (MeetB c1 s) E s)
    (h2 : ∀ tk, wpAny M A (isTrue e₂ env (eval e₂ env)) (MeetB c2 s) E { s with toks := tk })
    (k : ∀ tk, Q (c1 && c2) { s with toks := tk }) :
    wpAny M A (isTrue (.BoolOp .And [e₁, e₂] pos) env whole) Q E s := by
  refine isTrue_and (wpAny_mono h1 (fun c s₂ h₂ => ?_) fun _ _ x => x)
  obtain ⟨rfl, tk, rfl⟩ := h₂
  cases c with
  | false => exact k tk
  | true =>
    simp only [if_true]
    refine isTrue_and (wpAny_mono (h2 tk) (fun c s₃ h₃ => ?_) fun _ _ x => x)
    obtain ⟨rfl, tk', rfl⟩ := h₃
    have := k tk'
    simp only [Bool.true_and] at this
    cases c with
    | false => exact this
    | true => exact isTrue_and_nil this
end
/-- a test came out c0 behind calls: the heap moved, frame and ledger stand -/
def MeetF (h₀ : Heap) (L : Addr) (m : Str → Option Value) (V : List (Addr × Obj)) (c0 : Bool) (s : Shared) (c : Bool) (s' : Shared) : Prop :=
  c = c0 ∧ ∃ h tk, s' = { s with heap := h, toks := tk } ∧ Fr h₀ L h m ∧ News h₀ L h V
theorem MeetF.mk {h₀ : Heap} {L : Addr} {m : Str → Option Value} {V : List (Addr × Obj)} {c0 : Bool} {s : Shared} {h : Heap} {tk : Nat} (F : Fr h₀ L h m) (N : News h₀ L h V) : MeetF h₀ L m V c0 s c0 { s with heap := h, toks := tk } := ⟨rfl, h, tk, rfl, F, N⟩
theorem MeetF.of {h₀ : Heap} {L : Addr} {m : Str → Option Value} {V : List (Addr × Obj)} {c c0 : Bool} {s : Shared} {h : Heap} {tk : Nat} (e : c = c0) (F : Fr h₀ L h m) (N : News h₀ L h V) : MeetF h₀ L m V c0 s c { s with heap := h, toks := tk } := ⟨e, h, tk, rfl, F, N⟩
section
variable {M : Model} {A : Around} {E : Value → Shared → Prop} {s : Shared} {env : Env} {h₀ : Heap} {L : Addr} {m : Str → Option Value} {V : List (Addr × Obj)}
theorem and_meetF {e₁ e₂ : PySem.Expr} {pos : Pos} {whole : Sem Value} {c1 c2 : Bool} {Q : Bool → Shared → Prop}
    (F : Fr h₀ L s.heap m) (N : News h₀ L s.heap V)
    (h1 : wpAny M A (isTrue e₁ env (eval e₁ env)) (MeetF h₀ L m V c1 s) E s)
    (h2 : ∀ h tk, Fr h₀ L h m → News h₀ L h V → wpAny M A (isTrue e₂ env (eval e₂ env)) (MeetF h₀ L m V c2 s) E { s with heap := h, toks := tk })
    (k : ∀ h tk, Fr h₀ L h m → News h₀ L h V → Q (c1 && c2) { s with heap := h, toks := tk }) :
    wpAny M A (isTrue (.BoolOp .And [e₁, e₂] pos) env whole) Q E s := by
  refine isTrue_and (wpAny_mono h1 (fun c s₂ h₂ => ?_) fun _ _ x => x)
  obtain ⟨rfl, h, tk, rfl, F', N'⟩ := h₂
  cases c with
  | false => exact k h tk F' N'
  | true =>
    simp only [if_true]
    refine isTrue_and (wpAny_mono (h2 h tk F' N') (fun c s₃ h₃ => ?_) fun _ _ x => x)
    obtain ⟨rfl, h', tk', rfl, F2, N2⟩ := h₃
    have := k h' tk' F2 N2
    simp only [Bool.true_and] at this
    cases c with
    | false => exact this
    | true => exact isTrue_and_nil this
theorem and_falseF {e₁ e₂ : PySem.Expr} {pos : Pos} {whole : Sem Value} {c1 : Bool} {Q : Bool → Shared → Prop}
    (F : Fr h₀ L s.heap m) (N : News h₀ L s.heap V)
    (h1 : wpAny M A (isTrue e₁ env (eval e₁ env)) (MeetF h₀ L m V c1 s) E s)
    (h2 : ∀ h tk, Fr h₀ L h m → News h₀ L h V → wpAny M A (isTrue e₂ env (eval e₂ env)) (MeetF h₀ L m V false s) E { s with heap := h, toks := tk })
    (k : ∀ h tk, Fr h₀ L h m → News h₀ L h V → Q false { s with heap := h, toks := tk }) :
    wpAny M A (isTrue (.BoolOp .And [e₁, e₂] pos) env whole) Q E s :=
  and_meetF F N h1 h2 fun h tk F' N' => by rw [Bool.and_false]; exact k h tk F' N'
end
local macro_rules | `(tactic| omega) => `(tactic| ((fail_if_success (fail_if_success (omega +splitMinMax))); first | lia | omega +splitMinMax))
/-- every limb lies in its base -/
def InB (B : Int) (ns : List Int) : Prop := ∀ l ∈ ns, 0 ≤ l ∧ l < B
theorem InB.tail {B l : Int} {t : List Int} (h : InB B (l :: t)) : InB B t := fun x hx => h x (.tail _ hx)
theorem InB.head {B l : Int} {t : List Int} (h : InB B (l :: t)) : 0 ≤ l ∧ l < B := h l (.head _)
theorem InB.getD {B : Int} {ns : List Int} (h : InB B ns) (hB : 0 < B) (i : Nat) : 0 ≤ ns.getD i 0 ∧ ns.getD i 0 < B := by
  rw [List.getD_eq_getElem?_getD]
  cases e : ns[i]? with
  | none => exact ⟨by simp, by simpa using hB⟩
  | some x => exact h x (List.mem_of_getElem? e)
theorem mul_le' {a b c : Int} (hc : 0 ≤ c) (h : a ≤ b) : c * a ≤ c * b := Int.mul_le_mul_of_nonneg_left h hc
theorem val_nonneg {B : Int} (hB : 0 < B) : ∀ {ns : List Int}, InB B ns → 0 ≤ val B ns
  | [], _ => Int.le_refl _
  | l :: t, h => by
    have h1 := val_nonneg hB h.tail
    have h2 := Int.mul_nonneg (Int.le_of_lt hB) h1
    have h3 := h.head
    show 0 ≤ l + B * val B t
    omega
theorem val_lt {B : Int} (hB : 0 < B) : ∀ {ns : List Int}, InB B ns → val B ns < B ^ ns.length
  | [], _ => by simp [val]
  | l :: t, h => by
    have h1 := val_lt hB h.tail
    have h3 := h.head
    have h2 := mul_le' (Int.le_of_lt hB) (show val B t + 1 ≤ B ^ t.length by omega)
    rw [Int.mul_add, Int.mul_one] at h2
    show l + B * val B t < B ^ (t.length + 1)
    rw [Int.pow_succ, Int.mul_comm (B ^ t.length) B]
    omega
theorem val_append {B : Int} : ∀ (xs ys : List Int), val B (xs ++ ys) = val B xs + B ^ xs.length * val B ys
  | [], ys => by simp [val]
  | l :: t, ys => by
    show l + B * val B (t ++ ys) = l + B * val B t + B ^ (t.length + 1) * val B ys
    rw [val_append t ys, Int.mul_add, Int.pow_succ, Int.mul_comm (B ^ t.length) B, Int.mul_assoc]
    omega
theorem val_zero {B : Int} : ∀ {ns : List Int}, (∀ i : Nat, ns.getD i 0 = 0) → val B ns = 0
  | [], _ => rfl
  | l :: t, h => by
    have h0 : l = 0 := h 0
    have h1 : val B t = 0 := val_zero fun i => h (i + 1)
    show l + B * val B t = 0
    rw [h0, h1]; omega
theorem val_take {B : Int} : ∀ {ns : List Int} {e : Nat}, (∀ i : Nat, e ≤ i → ns.getD i 0 = 0) → val B (ns.take e) = val B ns
  | [], e, _ => by cases e <;> rfl
  | l :: t, 0, h => (val_zero (ns := l :: t) fun i => h i (Nat.zero_le _)).symm
  | l :: t, e + 1, h => by
    show l + B * val B (t.take e) = l + B * val B t
    rw [val_take fun i hi => h (i + 1) (Nat.succ_le_succ hi)]
theorem val_ge {B : Int} (hB : 1 ≤ B) : ∀ {ns : List Int}, InB B ns → ns.length ≠ 0 → ns.getD (ns.length - 1) 0 ≠ 0 → B ^ (ns.length - 1) ≤ val B ns
  | [], _, h, _ => absurd rfl h
  | [l], hi, _, h => by
    have h1 := hi.head
    have h2 : l ≠ 0 := h
    simp only [val, List.length_cons, List.length_nil, Nat.zero_add, Nat.sub_self, Int.pow_zero, Int.mul_zero]
    omega
  | l :: m :: t, hi, _, h => by
    have h1 := val_ge hB hi.tail (by simp) h
    have h3 := hi.head
    have h2 := mul_le' (show (0 : Int) ≤ B by omega) h1
    show B ^ ((m :: t).length - 1 + 1) ≤ l + B * val B (m :: t)
    rw [Int.pow_succ, Int.mul_comm (B ^ _) B]
    omega
theorem pow_mono {B : Int} (hB : 1 ≤ B) {i j : Nat} (h : i ≤ j) : B ^ i ≤ B ^ j := by
  obtain ⟨k, rfl⟩ := Nat.exists_eq_add_of_le h
  clear h
  induction k with
  | zero => exact Int.le_refl _
  | succ k ih =>
    rw [← Nat.add_assoc, Int.pow_succ]
    have h1 : (0 : Int) ≤ B ^ (i + k) := Int.pow_nonneg (by omega)
    have h2 := mul_le' h1 hB
    omega
theorem pow_left {a b : Int} (ha : 0 ≤ a) (h : a ≤ b) (n : Nat) : a ^ n ≤ b ^ n := by
  induction n with
  | zero => simp
  | succ n ih =>
    rw [Int.pow_succ, Int.pow_succ]
    exact Int.mul_le_mul ih h ha (Int.pow_nonneg (by omega))
theorem base_ge {b : Int} (hb : 3 ≤ b) : (8 : Int) ≤ 2 ^ b.toNat := by
  have := pow_mono (B := 2) (by decide) (show 3 ≤ b.toNat by omega)
  exact this
theorem base_le {b : Int} (hb : b ≤ 8) : (2 : Int) ^ b.toNat ≤ 256 := by
  have := pow_mono (B := 2) (by decide) (show b.toNat ≤ 8 by omega)
  exact this
theorem base_even {b : Int} (hb : 3 ≤ b) : ∃ k : Int, (2 : Int) ^ b.toNat = 2 * k := by
  refine ⟨2 ^ (b.toNat - 1), ?_⟩
  have e : b.toNat = (b.toNat - 1) + 1 := by omega
  rw [e, Int.pow_succ, Int.mul_comm]; simp
theorem Rep.inB {b x : Int} {ns : List Int} (h : Rep b ns x) : InB (2 ^ b.toNat) ns := h.1
theorem Rep.val {b x : Int} {ns : List Int} (h : Rep b ns x) : Mine.val (2 ^ b.toNat) ns = x := h.2.2
theorem Rep.nonneg {b x : Int} {ns : List Int} (h : Rep b ns x) : 0 ≤ x := by rw [← h.val]; exact val_nonneg (kbt_pos _) h.inB
theorem Rep.top {b x : Int} {ns : List Int} (h : Rep b ns x) (hn : ns.length ≠ 0) : ns.getD (ns.length - 1) 0 ≠ 0 := by
  rcases h.2.1 with e | e
  · rw [e] at hn; exact absurd rfl hn
  · exact e
theorem Rep.ge {b x : Int} {ns : List Int} (h : Rep b ns x) (hn : ns.length ≠ 0) : (2 ^ b.toNat) ^ (ns.length - 1) ≤ x := by
  rw [← h.val]
  exact val_ge (by have := kbt_pos b.toNat; omega) h.inB hn (h.top hn)
theorem Rep.zero {b x : Int} {ns : List Int} (h : Rep b ns x) : ns.length = 0 ↔ x = 0 := by
  constructor
  · intro e
    have e1 : ns = [] := List.eq_nil_of_length_eq_zero e
    have := h.val
    rw [e1] at this
    exact this.symm
  · intro e
    refine Classical.byContradiction fun hn => ?_
    have h1 := h.ge hn
    have h2 : (0 : Int) < (2 ^ b.toNat) ^ (ns.length - 1) := Int.pow_pos (kbt_pos _)
    omega
theorem Rep.len {b x : Int} {ns : List Int} (h : Rep b ns x) (hb : 3 ≤ b) (hx : x < 4096) : ns.length ≤ 4 := by
  refine Classical.byContradiction fun hn => ?_
  have h1 := h.ge (by omega)
  have h2 : (8 : Int) ^ 4 ≤ 8 ^ (ns.length - 1) := pow_mono (by decide) (by omega)
  have h3 : (8 : Int) ^ (ns.length - 1) ≤ (2 ^ b.toNat) ^ (ns.length - 1) := pow_left (by decide) (base_ge hb) _
  have h4 : (8 : Int) ^ 4 = 4096 := by decide
  omega
theorem Rep.nil {b : Int} : Rep b [] 0 := ⟨fun _ h => (nomatch h), .inl rfl, rfl⟩
theorem Rep.one {b : Int} (hb : 3 ≤ b) : Rep b [1] 1 := by
  have := base_ge hb
  refine ⟨fun l hl => ?_, .inr (by decide), by show (1 : Int) + _ * 0 = 1; omega⟩
  rw [List.mem_singleton.mp hl]; omega
theorem Rep.single {b x : Int} (h0 : 0 < x) (hx : x < 2 ^ b.toNat) : Rep b [x] x := by
  refine ⟨fun l hl => ?_, .inr ?_, by show x + _ * 0 = x; omega⟩
  · rw [List.mem_singleton.mp hl]; omega
  · show x ≠ 0; omega
/-- a limb list is known by its number -/
theorem val_head_mod {B l : Int} {t : List Int} (h : 0 ≤ l ∧ l < B) : (val B (l :: t)) % B = l := by
  show (l + B * val B t) % B = l
  rw [Int.add_mul_emod_self_left, Int.emod_eq_of_lt h.1 h.2]
theorem val_head_div {B l : Int} {t : List Int} (hB : 0 < B) (h : 0 ≤ l ∧ l < B) : (val B (l :: t)) / B = val B t := by
  show (l + B * val B t) / B = val B t
  rw [Int.add_mul_ediv_left _ _ (by omega), Int.ediv_eq_zero_of_lt h.1 h.2]; omega
theorem val_even {b : Int} (hb : 3 ≤ b) (ns : List Int) : (val (2 ^ b.toNat) ns) % 2 = ns.getD 0 0 % 2 := by
  cases ns with
  | nil => rfl
  | cons l t =>
    obtain ⟨k, hk⟩ := base_even hb
    show (l + 2 ^ b.toNat * val (2 ^ b.toNat) t) % 2 = l % 2
    rw [hk, Int.mul_assoc]
    omega
theorem val_cmp {B : Int} (hB : 0 < B) : ∀ {xs ys : List Int} {i : Nat}, InB B xs → InB B ys → xs.length = ys.length → i < xs.length → (∀ j : Nat, i < j → xs.getD j 0 = ys.getD j 0) → xs.getD i 0 < ys.getD i 0 → val B xs < val B ys
  | [], _, _, _, _, _, hi, _, _ => absurd hi (Nat.not_lt_zero _)
  | x :: s, [], _, _, _, hl, _, _, _ => by cases hl
  | x :: s, y :: t, 0, hx, hy, hl, _, h, hlt => by
    have e : val B s = val B t := by
      have e1 : s = t := by
        apply List.ext_getElem (by simpa using hl)
        intro n h1 h2
        have := h (n + 1) (Nat.succ_pos _)
        simpa [List.getD_eq_getElem?_getD, h1, h2] using this
      rw [e1]
    have h3 : x < y := hlt
    show x + B * val B s < y + B * val B t
    rw [e]; omega
  | x :: s, y :: t, i + 1, hx, hy, hl, hi, h, hlt => by
    have ih := val_cmp hB (i := i) hx.tail hy.tail (by simpa using hl) (by simpa using hi) (fun j hj => h (j + 1) (Nat.succ_lt_succ hj)) hlt
    have h1 := mul_le' (Int.le_of_lt hB) (show val B s + 1 ≤ val B t by omega)
    rw [Int.mul_add, Int.mul_one] at h1
    have h2 := hx.head
    have h3 := hy.head
    show x + B * val B s < y + B * val B t
    omega
theorem list_eq {xs ys : List Int} (hl : xs.length = ys.length) (h : ∀ j : Nat, j < xs.length → xs.getD j 0 = ys.getD j 0) : xs = ys := by
  apply List.ext_getElem hl
  intro n h1 h2
  have := h n h1
  simpa [List.getD_eq_getElem?_getD, h1, h2] using this
theorem Rep.lt_len {b x y : Int} {xs ys : List Int} (hx : Rep b xs x) (hy : Rep b ys y) (h : xs.length < ys.length) : x < y := by
  have h1 := val_lt (kbt_pos _) hx.inB
  rw [hx.val] at h1
  have h2 := hy.ge (by omega)
  have h3 := pow_mono (B := 2 ^ b.toNat) (by have := kbt_pos b.toNat; omega) (show xs.length ≤ ys.length - 1 by omega)
  omega
theorem and_apart : ∀ (k : Nat) (a c : Int), 0 ≤ c → c < 2 ^ k → Builtin.bitAnd (a * 2 ^ k) c = 0
  | 0, a, c, h0, h1 => by
    have hc : c = 2 ^ 0 - 1 := by
      have : (2 : Int) ^ 0 = 1 := by decide
      omega
    rw [hc, kbt_mask]
    have : (2 : Int) ^ 0 = 1 := by decide
    rw [this]; omega
  | k + 1, a, c, h0, h1 => by
    have e1 : (2 : Int) ^ (k + 1) = 2 * 2 ^ k := by rw [Int.pow_succ, Int.mul_comm]
    have e2 : a * 2 ^ (k + 1) = 2 * (a * 2 ^ k) := by rw [e1, Int.mul_left_comm]
    rw [kbt_halves, e2]
    have e3 : 2 * (a * 2 ^ k) / 2 = a * 2 ^ k := by omega
    rw [e3, and_apart k a (c / 2) (by omega) (by omega), if_neg (by omega)]
    rfl
theorem or_high {a c : Int} {k : Nat} (h0 : 0 ≤ c) (h1 : c < 2 ^ k) : Builtin.bitOr (a * 2 ^ k) c = a * 2 ^ k + c := by
  rw [bitOr_and, and_apart k a c h0 h1]; omega
theorem or_low {a c : Int} {k : Nat} (h0 : 0 ≤ c) (h1 : c < 2 ^ k) : Builtin.bitOr c (a * 2 ^ k) = c + a * 2 ^ k := by
  rw [bitOr_comm, or_high h0 h1]; omega
theorem mem_small {B k : Int} {ns : List Int} (h : InB B ns) (hB : B ≤ 256) (hm : k ∈ ns) : k.natAbs < 2 ^ 64 := by
  have := h k hm
  omega
theorem getD_small {B : Int} {ns : List Int} (h : InB B ns) (hB0 : 8 ≤ B) (hB : B ≤ 256) (i : Nat) : (ns.getD i 0).natAbs < 2 ^ 64 := by
  have := h.getD (by omega) i
  omega
theorem drop_getD {ns : List Int} {j : Nat} (h : j < ns.length) : ns.drop j = ns.getD j 0 :: ns.drop (j + 1) := by
  rw [List.drop_eq_getElem_cons h, List.getD_eq_getElem?_getD, List.getElem?_eq_getElem h]; rfl
theorem fmod_pos {a y : Int} (h : 0 < y) : a.fmod y = a % y := Int.fmod_eq_emod_of_nonneg _ (Int.le_of_lt h)
theorem fdiv_pos {a y : Int} (h : 0 < y) : a.fdiv y = a / y := Int.fdiv_eq_ediv_of_nonneg _ (Int.le_of_lt h)

theorem dl_start {ns : List Int} {y B : Int} (hy : 0 < y) : (List.replicate ((ns.length : Int)).toNat [(0 : Int)]).flatten.length = ns.length ∧ (0 : Int) ≤ 0 ∧ 0 < y ∧ 0 = val B (ns.drop (ns.length - ([] : List Int).length)) % y := by
  refine ⟨by simp, by omega, hy, ?_⟩
  simp [val]
theorem dl_turn {ns found pre : List Int} {y b rest k : Int} (hB : InB (2 ^ b.toNat) ns) (hy : 0 < y) (h1 : found.length = ns.length) (h4 : rest = val (2 ^ b.toNat) (ns.drop (ns.length - pre.length)) % y)
    (hk : k = ns.length - 1 - pre.length) (hl : pre.length < (ns.length - 1 - -1 : Int).toNat) {z : Int} :
    (found.set k.toNat z).length = ns.length ∧ 0 ≤ (Builtin.bitOr (rest * 2 ^ b.toNat) (ns.getD k.toNat 0)).fmod y ∧ (Builtin.bitOr (rest * 2 ^ b.toNat) (ns.getD k.toNat 0)).fmod y < y ∧
      (Builtin.bitOr (rest * 2 ^ b.toNat) (ns.getD k.toNat 0)).fmod y = val (2 ^ b.toNat) (ns.drop (ns.length - (pre ++ [k]).length)) % y := by
  have hd := hB.getD (kbt_pos _) k.toNat
  rw [or_high hd.1 hd.2, fmod_pos hy]
  refine ⟨by rw [List.length_set]; exact h1, Int.emod_nonneg _ (by omega), Int.emod_lt_of_pos _ hy, ?_⟩
  have e1 : ns.length - (pre ++ [k]).length = k.toNat := by simp only [List.length_append, List.length_cons, List.length_nil]; omega
  have e2 : ns.length - pre.length = k.toNat + 1 := by omega
  rw [e1, drop_getD (show k.toNat < ns.length by omega)]
  rw [e2] at h4
  simp only [val]
  generalize val (2 ^ b.toNat) (ns.drop (k.toNat + 1)) = V at h4 ⊢
  generalize ns.getD k.toNat 0 = d
  generalize (2 : Int) ^ b.toNat = B
  have e3 := Int.emod_add_mul_ediv V y
  have e4 : d + B * V = (rest * B + d) + y * (B * (V / y)) := by
    have : B * V = rest * B + y * (B * (V / y)) := by
      conv => lhs; rw [← e3]
      rw [← h4, Int.mul_add, Int.mul_comm B rest, Int.mul_left_comm B y]
    omega
  rw [e4, Int.add_mul_emod_self_left]
theorem dl_end {ns : List Int} {y b x rest : Int} (hr : Rep b ns x) (h4 : rest = val (2 ^ b.toNat) (ns.drop (ns.length - (downKs (ns.length - 1) (ns.length - 1 - -1 : Int).toNat).length)) % y) : rest = x % y := by
  rw [h4, downKs_length]
  have e : ns.length - (ns.length - 1 - -1 : Int).toNat = 0 := by omega
  rw [e, List.drop_zero, hr.val]

theorem sl_start {b n n' : Int} {m : Int} (e1 : m = 0) (hn : 0 ≤ n') : (List.replicate m.toNat [(0 : Int)]).flatten.length = ([] : List Int).length ∧ (0 : Int) ≤ 0 ∧ 0 < (2 : Int) ^ n.toNat ∧ InB (2 ^ b.toNat) (List.replicate m.toNat [(0 : Int)]).flatten ∧
    val (2 ^ b.toNat) (List.replicate m.toNat [(0 : Int)]).flatten + (2 ^ b.toNat) ^ ([] : List Int).length * 0 = val (2 ^ b.toNat) [] * 2 ^ n.toNat := by
  subst e1
  refine ⟨rfl, by omega, kbt_pos _, fun l hl => (nomatch hl), ?_⟩
  simp [val]
theorem sl_turn {found pre : List Int} {b n n' c k : Int} (e2 : n' = n) (hk : 0 ≤ k ∧ k < 2 ^ b.toNat) (h1 : found.length = pre.length) (h2 : 0 ≤ c) (h3 : c < 2 ^ n.toNat) (h4 : InB (2 ^ b.toNat) found)
    (h5 : val (2 ^ b.toNat) found + (2 ^ b.toNat) ^ pre.length * c = val (2 ^ b.toNat) pre * 2 ^ n.toNat) :
    (found ++ [Builtin.bitAnd (Builtin.bitOr c (k * 2 ^ n'.toNat)) (1 * 2 ^ b.toNat - 1)]).length = (pre ++ [k]).length ∧ 0 ≤ (Builtin.bitOr c (k * 2 ^ n'.toNat)).fdiv (2 ^ b.toNat) ∧ (Builtin.bitOr c (k * 2 ^ n'.toNat)).fdiv (2 ^ b.toNat) < 2 ^ n.toNat ∧
      InB (2 ^ b.toNat) (found ++ [Builtin.bitAnd (Builtin.bitOr c (k * 2 ^ n'.toNat)) (1 * 2 ^ b.toNat - 1)]) ∧
      val (2 ^ b.toNat) (found ++ [Builtin.bitAnd (Builtin.bitOr c (k * 2 ^ n'.toNat)) (1 * 2 ^ b.toNat - 1)]) + (2 ^ b.toNat) ^ (pre ++ [k]).length * (Builtin.bitOr c (k * 2 ^ n'.toNat)).fdiv (2 ^ b.toNat) = val (2 ^ b.toNat) (pre ++ [k]) * 2 ^ n.toNat := by
  subst e2
  rw [or_low h2 h3, Int.one_mul, kbt_mask, fdiv_pos (kbt_pos _)]
  have hB := kbt_pos b.toNat
  have hN := kbt_pos n'.toNat
  generalize hBe : (2 : Int) ^ b.toNat = B at *
  generalize hNe : (2 : Int) ^ n'.toNat = N at *
  have hC0 : 0 ≤ c + k * N := by have := Int.mul_nonneg hk.1 (Int.le_of_lt hN); omega
  have hC1 : c + k * N < N * B := by
    have := mul_le' (Int.le_of_lt hN) (show k + 1 ≤ B by omega)
    rw [Int.mul_add, Int.mul_one, Int.mul_comm N k] at this
    omega
  generalize hC : c + k * N = C at *
  have hm0 := Int.emod_nonneg C (show B ≠ 0 by omega)
  have hm1 := Int.emod_lt_of_pos C hB
  refine ⟨by simp [h1], Int.ediv_nonneg hC0 (by omega), Int.ediv_lt_of_lt_mul hB hC1, ?_, ?_⟩
  · intro l hl
    rcases List.mem_append.mp hl with hl | hl
    · exact h4 l hl
    · rw [List.mem_singleton.mp hl]; exact ⟨hm0, hm1⟩
  · rw [val_append, val_append, h1]
    simp only [val, List.length_append, List.length_cons, List.length_nil, Int.mul_zero, Int.add_zero, Nat.zero_add]
    have e3 := Int.emod_add_mul_ediv C B
    rw [Int.pow_succ]
    generalize B ^ pre.length = P at *
    have e5 : P * (C % B) + P * B * (C / B) = P * C := by
      conv => rhs; rw [← e3]
      rw [Int.mul_add, Int.mul_assoc]
    have e6 : P * C = P * c + P * k * N := by rw [← hC, Int.mul_add, Int.mul_assoc]
    rw [Int.add_mul]
    omega
theorem sl_grown {found ns : List Int} {b n x c : Int} (hr : Rep b ns x) (hn : n < b) (hn0 : 0 ≤ n) (h1 : found.length = ns.length) (h3 : c < 2 ^ n.toNat) (h4 : InB (2 ^ b.toNat) found)
    (h5 : val (2 ^ b.toNat) found + (2 ^ b.toNat) ^ ns.length * c = val (2 ^ b.toNat) ns * 2 ^ n.toNat) (hc : 0 < c) : Rep b (found ++ [c]) (x * 2 ^ n.toNat) := by
  have h6 := pow_mono (B := 2) (by decide) (show n.toNat ≤ b.toNat by omega)
  refine ⟨fun l hl => ?_, .inr ?_, ?_⟩
  · rcases List.mem_append.mp hl with hl | hl
    · exact h4 l hl
    · rw [List.mem_singleton.mp hl]; omega
  · simp; omega
  · rw [val_append, h1]
    simp only [val, Int.mul_zero, Int.add_zero]
    rw [h5, hr.val]
theorem sl_same {found ns : List Int} {b n x c : Int} (hr : Rep b ns x) (h1 : found.length = ns.length) (h2 : 0 ≤ c) (h4 : InB (2 ^ b.toNat) found)
    (h5 : val (2 ^ b.toNat) found + (2 ^ b.toNat) ^ ns.length * c = val (2 ^ b.toNat) ns * 2 ^ n.toNat) (hc : ¬ 0 < c) (hl : (ns.length : Int) ≠ 0) : Rep b found (x * 2 ^ n.toNat) := by
  have hc0 : c = 0 := by omega
  rw [hc0, Int.mul_zero, Int.add_zero, hr.val] at h5
  refine ⟨h4, .inr fun h0 => ?_, h5⟩
  have h6 := val_take (B := 2 ^ b.toNat) (ns := found) (e := found.length - 1) fun i hi => by
    by_cases hi2 : i = found.length - 1
    · rw [hi2]; exact h0
    · rw [List.getD_eq_getElem?_getD, List.getElem?_eq_none (by omega)]; rfl
  have h7 := val_lt (kbt_pos b.toNat) (ns := found.take (found.length - 1)) fun l hl => h4 l (List.mem_of_mem_take hl)
  rw [h6, h5, List.length_take, h1, Nat.min_eq_left (by omega)] at h7
  have h8 := hr.ge (by omega)
  have h9 := mul_le' hr.nonneg (show 1 ≤ (2 : Int) ^ n.toNat by have := kbt_pos n.toNat; omega)
  omega

/-- the digit at k of a number shifted down by r < b bits -/
def srDig (b r : Int) (ns : List Int) (k : Int) : Int := ((ns.getD k.toNat 0 + 2 ^ b.toNat * ns.getD (k.toNat + 1) 0) / 2 ^ r.toNat) % 2 ^ b.toNat
theorem sr_dig {ns : List Int} {b r k u : Int} (hB : InB (2 ^ b.toNat) ns) (h0 : 0 ≤ r) (h1 : r < b) (hu : u = ns.getD (k.toNat + 1) 0) :
    Builtin.bitAnd (Builtin.bitOr ((ns.getD k.toNat 0).fdiv (2 ^ r.toNat)) (u * 2 ^ (b - r).toNat)) (1 * 2 ^ b.toNat - 1) = srDig b r ns k := by
  have e : (2 : Int) ^ b.toNat = 2 ^ r.toNat * 2 ^ (b - r).toNat := by rw [← Int.pow_add]; congr 1; omega
  have hd := hB.getD (kbt_pos _) k.toNat
  have hR := kbt_pos r.toNat
  rw [fdiv_pos hR, or_low (Int.ediv_nonneg hd.1 (Int.le_of_lt hR)) (Int.ediv_lt_of_lt_mul hR (by rw [Int.mul_comm, ← e]; exact hd.2)), Int.one_mul, kbt_mask, srDig, hu]
  congr 1
  conv => rhs; rw [e]
  rw [Int.mul_assoc, Int.add_mul_ediv_left _ _ (by omega), Int.mul_comm]
theorem u_in {ns : List Int} {k : Int} (h : 0 ≤ k) : ns.getD (k + 1).toNat 0 = ns.getD (k.toNat + 1) 0 := by
  have e : (k + 1).toNat = k.toNat + 1 := by omega
  rw [e]
theorem u_out {ns : List Int} {k : Int} (h : 0 ≤ k) (h2 : ¬ k + 1 < ns.length) : (0 : Int) = ns.getD (k.toNat + 1) 0 := by
  rw [List.getD_eq_getElem?_getD, List.getElem?_eq_none (by omega)]; rfl
theorem sr_turn {ns found pre : List Int} {b r k u : Int} (hB : InB (2 ^ b.toNat) ns) (h0 : 0 ≤ r ∧ r < b) (h1 : found.length = pre.length) (h2 : found = pre.map (srDig b r ns)) (hu : u = ns.getD (k.toNat + 1) 0) :
    (found ++ [Builtin.bitAnd (Builtin.bitOr ((ns.getD k.toNat 0).fdiv (2 ^ r.toNat)) (u * 2 ^ (b - r).toNat)) (1 * 2 ^ b.toNat - 1)]).length = (pre ++ [k]).length ∧
    found ++ [Builtin.bitAnd (Builtin.bitOr ((ns.getD k.toNat 0).fdiv (2 ^ r.toNat)) (u * 2 ^ (b - r).toNat)) (1 * 2 ^ b.toNat - 1)] = (pre ++ [k]).map (srDig b r ns) := by
  rw [sr_dig hB h0.1 h0.2 hu, List.map_append, ← h2]
  exact ⟨by simp [h1], rfl⟩
theorem rangeKs_succ (a : Int) (n : Nat) : rangeKs a (n + 1) = a :: rangeKs (a + 1) n := by
  simp only [rangeKs, List.range_succ_eq_map, List.map_cons, List.map_map]
  congr 1
  · simp
  · apply List.map_congr_left
    intro i _
    simp only [Function.comp]
    omega
theorem sr_val {b r : Int} {ns : List Int} (hb : 0 ≤ b) (h0 : 0 ≤ r) (h1 : r < b) : ∀ (t : List Int) (s : Int), 0 ≤ s → InB (2 ^ b.toNat) t → (∀ i : Nat, t.getD i 0 = ns.getD (s.toNat + i) 0) →
    val (2 ^ b.toNat) ((rangeKs s t.length).map (srDig b r ns)) = val (2 ^ b.toNat) t / 2 ^ r.toNat
  | [], s, _, _, _ => by simp [rangeKs, val]
  | d :: t, s, hs, hB, hg => by
    have e0 : (s + 1).toNat = s.toNat + 1 := by omega
    have ih := sr_val (ns := ns) hb h0 h1 t (s + 1) (by omega) hB.tail fun i => by
      have := hg (i + 1)
      rw [e0, Nat.add_assoc, Nat.add_comm 1 i]
      exact this
    rw [List.length_cons, rangeKs_succ, List.map_cons]
    simp only [val]
    rw [ih]
    have e1 : ns.getD s.toNat 0 = d := (hg 0).symm
    have e2 : ns.getD (s.toNat + 1) 0 = t.getD 0 0 := (hg 1).symm
    rw [srDig, e1, e2]
    have eB : (2 : Int) ^ b.toNat = 2 ^ r.toNat * 2 ^ (b - r).toNat := by rw [← Int.pow_add]; congr 1; omega
    have hR := kbt_pos r.toNat
    have hBp := kbt_pos b.toNat
    have hd := hB.head
    -- the whole
    have e3 : (d + 2 ^ b.toNat * t.getD 0 0) / 2 ^ r.toNat % 2 ^ b.toNat = (d + 2 ^ b.toNat * val (2 ^ b.toNat) t) / 2 ^ r.toNat % 2 ^ b.toNat := by
      cases t with
      | nil => rfl
      | cons u t' =>
        show (d + 2 ^ b.toNat * u) / 2 ^ r.toNat % 2 ^ b.toNat = (d + 2 ^ b.toNat * (u + 2 ^ b.toNat * val (2 ^ b.toNat) t')) / 2 ^ r.toNat % 2 ^ b.toNat
        rw [Int.mul_add, ← Int.add_assoc]
        have e4 : (2 : Int) ^ b.toNat * (2 ^ b.toNat * val (2 ^ b.toNat) t') = 2 ^ r.toNat * (2 ^ b.toNat * (2 ^ (b - r).toNat * val (2 ^ b.toNat) t')) := by
          conv => lhs; rw [eB, Int.mul_assoc, ← eB]
          rw [Int.mul_left_comm (2 ^ (b - r).toNat)]
        rw [e4, Int.add_mul_ediv_left _ _ (by omega), Int.add_mul_emod_self_left]
    rw [e3]
    generalize hX : d + 2 ^ b.toNat * val (2 ^ b.toNat) t = X
    have e5 : val (2 ^ b.toNat) t = X / 2 ^ b.toNat := by
      rw [← hX, Int.add_mul_ediv_left _ _ (by omega), Int.ediv_eq_zero_of_lt hd.1 hd.2, Int.zero_add]
    rw [e5]
    have e6 : X / 2 ^ b.toNat / 2 ^ r.toNat = X / 2 ^ r.toNat / 2 ^ b.toNat := by
      rw [Int.ediv_ediv_of_nonneg (Int.le_of_lt hBp), Int.ediv_ediv_of_nonneg (Int.le_of_lt hR), Int.mul_comm]
    rw [e6]
    exact Int.emod_add_mul_ediv _ _
theorem sr_inB {b r : Int} {ns ks : List Int} : InB (2 ^ b.toNat) (ks.map (srDig b r ns)) := by
  intro l hl
  obtain ⟨k, _, rfl⟩ := List.mem_map.mp hl
  have := kbt_pos b.toNat
  exact ⟨Int.emod_nonneg _ (by omega), Int.emod_lt_of_pos _ this⟩
theorem val_drop {B : Int} (hB : 0 < B) : ∀ {ns : List Int} (s : Nat), InB B ns → val B (ns.drop s) = val B ns / B ^ s
  | ns, 0, _ => by simp
  | [], s + 1, _ => by simp [val]
  | d :: t, s + 1, h => by
    rw [List.drop_succ_cons, val_drop hB s h.tail, Int.pow_succ, Int.mul_comm (B ^ s) B, ← Int.ediv_ediv_of_nonneg (Int.le_of_lt hB)]
    congr 1
    exact (val_head_div hB h.head).symm
theorem sr_end {b n x : Int} {ns : List Int} (hr : Rep b ns x) (hb : 3 ≤ b) (hn : 0 ≤ n) :
    val (2 ^ b.toNat) ((rangeKs (n.fdiv b) ((ns.length : Int) - n.fdiv b).toNat).map (srDig b (n.fmod b) ns)) = x / 2 ^ n.toNat := by
  have hb0 : 0 < b := by omega
  rw [fdiv_pos hb0, fmod_pos hb0]
  have h1 := Int.ediv_nonneg hn (Int.le_of_lt hb0)
  have h2 := Int.emod_nonneg n (show b ≠ 0 by omega)
  have h3 := Int.emod_lt_of_pos n hb0
  have h4 := Int.emod_add_mul_ediv n b
  have e1 : ((ns.length : Int) - n / b).toNat = (ns.drop (n / b).toNat).length := by rw [List.length_drop]; omega
  rw [e1, sr_val (by omega) h2 h3 _ _ h1 (fun l hl => hr.inB l (List.mem_of_mem_drop hl)) (fun i => by rw [List.getD_eq_getElem?_getD, List.getElem?_drop, ← List.getD_eq_getElem?_getD]), val_drop (kbt_pos _) _ hr.inB, hr.val]
  rw [Int.ediv_ediv_of_nonneg (Int.pow_nonneg (Int.le_of_lt (kbt_pos _))), ← Int.pow_mul, ← Int.pow_add]
  congr 2
  have : ((b.toNat * (n / b).toNat : Nat) : Int) = b * (n / b) := by
    rw [Int.natCast_mul, Int.toNat_of_nonneg (Int.le_of_lt hb0), Int.toNat_of_nonneg h1]
  omega
theorem gs_bounds {B u v t0 t1 t2 : Int} (hB : 0 < B) (hu : 0 < u) (hv : 0 ≤ v) (h1 : 0 ≤ t1 ∧ t1 < B) (h2 : 0 ≤ t2 ∧ t2 < B) (h0 : 0 ≤ t0 ∧ t0 < B) (hR : t0 + B * (t1 + B * t2) < B * (u * B + v)) :
    0 < u * B + v ∧ 0 ≤ (t0 + B * (t1 + B * t2)) / (u * B + v) ∧ (t0 + B * (t1 + B * t2)) / (u * B + v) ≤ B - 1 ∧ (t0 + B * (t1 + B * t2)) / (u * B + v) ≤ (t2 * B + t1) / u := by
  have hD : 0 < u * B + v := by have := Int.mul_pos hu hB; omega
  have hn1 : 0 ≤ B * t2 := Int.mul_nonneg (by omega) h2.1
  have hn2 : 0 ≤ B * (t1 + B * t2) := Int.mul_nonneg (by omega) (by omega)
  have hQ := Int.ediv_mul_le (t0 + B * (t1 + B * t2)) (show u * B + v ≠ 0 by omega)
  have hQ0 := Int.ediv_nonneg (show 0 ≤ t0 + B * (t1 + B * t2) by omega) (Int.le_of_lt hD)
  have hQ1 : (t0 + B * (t1 + B * t2)) / (u * B + v) < B := Int.ediv_lt_of_lt_mul hD hR
  refine ⟨hD, hQ0, by omega, ?_⟩
  generalize (t0 + B * (t1 + B * t2)) / (u * B + v) = q at *
  apply (Int.le_ediv_iff_mul_le hu).mpr
  have e1 : q * (u * B + v) = q * u * B + q * v := by rw [Int.mul_add, Int.mul_assoc]
  have e2 : 0 ≤ q * v := Int.mul_nonneg hQ0 hv
  have e3 : B * (t1 + B * t2) = (t2 * B + t1) * B := by rw [Int.mul_comm, Int.mul_comm B t2, Int.add_comm t1]
  have h5 : q * u * B < (t2 * B + t1 + 1) * B := by rw [Int.add_mul _ 1 B, Int.one_mul]; omega
  have := Int.lt_of_mul_lt_mul_right h5 (Int.le_of_lt hB)
  omega
/-- the guess never lies below the quotient -/
def GsOk (B u v : Int) (ns : List Int) (q r : Int) : Prop := 0 ≤ r ∧ q ≤ B - 1 ∧ val B ns / (u * B + v) ≤ q ∧ r = ns.getD 2 0 * B + ns.getD 1 0 - q * u ∧ 0 ≤ q
theorem three {ns : List Int} (h : ns.length = 3) : ∃ a b c, ns = [a, b, c] := by
  match ns, h with
  | [a, b, c], _ => exact ⟨a, b, c, rfl⟩
theorem gs_start {b u v X : Int} {ns : List Int} (hB : InB (2 ^ b.toNat) ns) (hl : ns.length = 3) (hu : 0 < u) (hv : 0 ≤ v) (hR : val (2 ^ b.toNat) ns < 2 ^ b.toNat * (u * 2 ^ b.toNat + v)) (hX : X = ns.getD 2 0 * 2 ^ b.toNat + ns.getD 1 0) :
    GsOk (2 ^ b.toNat) u v ns (if 1 * 2 ^ b.toNat - 1 < X.fdiv u then 1 * 2 ^ b.toNat - 1 else X.fdiv u) (X - (if 1 * 2 ^ b.toNat - 1 < X.fdiv u then 1 * 2 ^ b.toNat - 1 else X.fdiv u) * u) := by
  obtain ⟨t0, t1, t2, rfl⟩ := three hl
  have hp := kbt_pos b.toNat
  rw [fdiv_pos hu]
  subst hX
  simp only [val, Int.mul_zero, Int.add_zero] at hR
  obtain ⟨g1, g2, g3, g4⟩ := gs_bounds hp hu hv hB.tail.head hB.tail.tail.head hB.head hR
  have h0 := Int.ediv_mul_le ([t0, t1, t2].getD 2 0 * 2 ^ b.toNat + [t0, t1, t2].getD 1 0) (show u ≠ 0 by omega)
  unfold GsOk
  simp only [val, Int.mul_zero, Int.add_zero, Int.one_mul]
  show _ ∧ _ ∧ _ ∧ _ ∧ _
  have g4' : (t0 + 2 ^ b.toNat * (t1 + 2 ^ b.toNat * t2)) / (u * 2 ^ b.toNat + v) ≤ ([t0, t1, t2].getD 2 0 * 2 ^ b.toNat + [t0, t1, t2].getD 1 0) / u := g4
  generalize ([t0, t1, t2].getD 2 0 * 2 ^ b.toNat + [t0, t1, t2].getD 1 0) / u = hh at *
  split
  · rename_i hlt
    have := Int.mul_le_mul_of_nonneg_right (show 2 ^ b.toNat - 1 ≤ hh by omega) (Int.le_of_lt hu)
    refine ⟨by omega, by omega, by omega, by trivial, by omega⟩
  · refine ⟨by omega, by omega, by omega, by trivial, by omega⟩
theorem gs_mid {b u v q r : Int} {ns : List Int} (hl : ns.length = 3) (h : GsOk (2 ^ b.toNat) u v ns q r) : q * (u * 2 ^ b.toNat + v) = val (2 ^ b.toNat) ns - (r * 2 ^ b.toNat + ns.getD 0 0) + q * v := by
  obtain ⟨t0, t1, t2, rfl⟩ := three hl
  obtain ⟨_, _, _, h4, _⟩ := h
  have h4' : r = t2 * 2 ^ b.toNat + t1 - q * u := h4
  show q * (u * 2 ^ b.toNat + v) = t0 + 2 ^ b.toNat * (t1 + 2 ^ b.toNat * (t2 + 2 ^ b.toNat * 0)) - (r * 2 ^ b.toNat + t0) + q * v
  generalize (2 : Int) ^ b.toNat = B at *
  rw [h4', Int.mul_zero, Int.add_zero, Int.mul_add, Int.sub_mul, Int.add_mul, ← Int.mul_assoc q u B, Int.mul_add, Int.mul_comm B t1, Int.mul_comm B (B * t2), Int.mul_comm B t2]
  omega
theorem gs_turn {b u v q r : Int} {ns : List Int} (hB : InB (2 ^ b.toNat) ns) (hl : ns.length = 3) (hu : 0 < u) (hv : 0 ≤ v) (hR : val (2 ^ b.toNat) ns < 2 ^ b.toNat * (u * 2 ^ b.toNat + v)) (h : GsOk (2 ^ b.toNat) u v ns q r)
    (hlt : Builtin.bitOr (r * 2 ^ b.toNat) (ns.getD 0 0) < q * v) : GsOk (2 ^ b.toNat) u v ns (q - 1) (r + u) ∧ (q - 1).toNat < q.toNat := by
  have hm := gs_mid hl h
  have hp := kbt_pos b.toNat
  have h0 := hB.getD hp 0
  rw [or_high h0.1 h0.2] at hlt
  have hD : 0 < u * 2 ^ b.toNat + v := by have := Int.mul_pos hu hp; omega
  have h5 : val (2 ^ b.toNat) ns / (u * 2 ^ b.toNat + v) < q := Int.ediv_lt_of_lt_mul hD (by omega)
  have h6 := Int.ediv_nonneg (val_nonneg hp hB) (Int.le_of_lt hD)
  obtain ⟨g1, g2, g3, g4, g5⟩ := h
  refine ⟨⟨by omega, by omega, by omega, ?_, by omega⟩, by omega⟩
  rw [g4, Int.sub_mul, Int.one_mul]; omega
theorem gs_end {b u v q r : Int} {ns : List Int} (hB : InB (2 ^ b.toNat) ns) (hl : ns.length = 3) (hu : 0 < u) (hv : 0 ≤ v) (hv' : v < 2 ^ b.toNat) (h : GsOk (2 ^ b.toNat) u v ns q r)
    (hlt : ¬ r < 1 * 2 ^ b.toNat ∨ ¬ Builtin.bitOr (r * 2 ^ b.toNat) (ns.getD 0 0) < q * v) : q = val (2 ^ b.toNat) ns / (u * 2 ^ b.toNat + v) := by
  have hm := gs_mid hl h
  have hp := kbt_pos b.toNat
  have h0 := hB.getD hp 0
  have hD : 0 < u * 2 ^ b.toNat + v := by have := Int.mul_pos hu hp; omega
  obtain ⟨g1, g2, g3, g4, g5⟩ := h
  have h5 : q * v ≤ r * 2 ^ b.toNat + ns.getD 0 0 := by
    rcases hlt with hlt | hlt
    · have e1 := Int.mul_le_mul_of_nonneg_right (show q ≤ 2 ^ b.toNat by omega) hv
      have e2 := mul_le' (Int.le_of_lt hp) (show v ≤ 2 ^ b.toNat by omega)
      have e3 := Int.mul_le_mul_of_nonneg_right (show (2 : Int) ^ b.toNat ≤ r by omega) (Int.le_of_lt hp)
      omega
    · rw [or_high h0.1 h0.2] at hlt; omega
  have h6 : q ≤ val (2 ^ b.toNat) ns / (u * 2 ^ b.toNat + v) := (Int.le_ediv_iff_mul_le hD).mpr (by omega)
  omega
theorem lb_start {b x : Int} (hx : 0 ≤ x) : 0 ≤ x ∧ x ≤ x ∧ InB (2 ^ b.toNat) [] ∧ val (2 ^ b.toNat) [] + (2 ^ b.toNat) ^ ([] : List Int).length * x = x ∧ (0 < x ∨ ([] : List Int) = [] ∨ ([] : List Int).getD (([] : List Int).length - 1) 0 ≠ 0) ∧ ([] : List Int).length ≤ 1000 := by
  refine ⟨hx, Int.le_refl _, fun l hl => (nomatch hl), ?_, .inr (.inl rfl), by simp⟩
  simp [val]
theorem lb_turn {b x i : Int} {ns : List Int} (hb : 3 ≤ b) (hx' : x < 4096) (j1 : 0 < i) (j2 : i ≤ x) (j3 : InB (2 ^ b.toNat) ns) (j4 : val (2 ^ b.toNat) ns + (2 ^ b.toNat) ^ ns.length * i = x) :
    0 ≤ i.fdiv (2 ^ b.toNat) ∧ i.fdiv (2 ^ b.toNat) ≤ x ∧ InB (2 ^ b.toNat) (ns ++ [i.fmod (2 ^ b.toNat)]) ∧ val (2 ^ b.toNat) (ns ++ [i.fmod (2 ^ b.toNat)]) + (2 ^ b.toNat) ^ (ns ++ [i.fmod (2 ^ b.toNat)]).length * i.fdiv (2 ^ b.toNat) = x ∧
      (0 < i.fdiv (2 ^ b.toNat) ∨ ns ++ [i.fmod (2 ^ b.toNat)] = [] ∨ (ns ++ [i.fmod (2 ^ b.toNat)]).getD ((ns ++ [i.fmod (2 ^ b.toNat)]).length - 1) 0 ≠ 0) ∧ (ns ++ [i.fmod (2 ^ b.toNat)]).length ≤ 1000 := by
  have hB := kbt_pos b.toNat
  have hB8 := base_ge hb
  rw [fdiv_pos hB, fmod_pos hB]
  have hlen : ns.length ≤ 4 := by
    refine Classical.byContradiction fun hn => ?_
    have h1 := val_nonneg hB j3
    have h2 : (8 : Int) ^ 4 ≤ 8 ^ ns.length := pow_mono (by decide) (by omega)
    have h3 : (8 : Int) ^ ns.length ≤ (2 ^ b.toNat) ^ ns.length := pow_left (by decide) hB8 _
    have h4 := mul_le' (show (0 : Int) ≤ (2 ^ b.toNat) ^ ns.length by omega) (show 1 ≤ i by omega)
    have h5 : (8 : Int) ^ 4 = 4096 := by decide
    omega
  have hm0 := Int.emod_nonneg i (show (2 : Int) ^ b.toNat ≠ 0 by omega)
  have hm1 := Int.emod_lt_of_pos i hB
  have hd := Int.emod_add_mul_ediv i (2 ^ b.toNat)
  have hd0 := Int.ediv_nonneg (show 0 ≤ i by omega) (Int.le_of_lt hB)
  have hd1 : i / 2 ^ b.toNat ≤ i := Int.ediv_le_self _ (by omega)
  refine ⟨hd0, by omega, ?_, ?_, ?_, by simp; omega⟩
  · intro l hl
    rcases List.mem_append.mp hl with hl | hl
    · exact j3 l hl
    · rw [List.mem_singleton.mp hl]; exact ⟨hm0, hm1⟩
  · rw [val_append]
    simp only [val, List.length_append, List.length_cons, List.length_nil, Int.mul_zero, Int.add_zero, Nat.zero_add]
    rw [Int.pow_succ]
    generalize (2 ^ b.toNat : Int) ^ ns.length = P at *
    have : P * (i % 2 ^ b.toNat) + P * 2 ^ b.toNat * (i / 2 ^ b.toNat) = P * i := by
      conv => rhs; rw [← hd]
      rw [Int.mul_add, Int.mul_assoc]
    omega
  · by_cases h : 0 < i / 2 ^ b.toNat
    · exact .inl h
    · right; right
      have h0 : i / 2 ^ b.toNat = 0 := by omega
      rw [h0, Int.mul_zero, Int.add_zero] at hd
      simp
      omega
theorem lb_less {b i : Int} (hb : 3 ≤ b) (j1 : 0 < i) : (i.fdiv (2 ^ b.toNat)).toNat < i.toNat := by
  have hB := kbt_pos b.toNat
  have hB8 := base_ge hb
  rw [fdiv_pos hB]
  have : i / 2 ^ b.toNat < i := Int.ediv_lt_of_lt_mul hB (by have := mul_le' (show 0 ≤ i by omega) (show 2 ≤ (2 : Int) ^ b.toNat by omega); omega)
  omega
theorem lb_end {b x i : Int} {ns : List Int} (h : ¬ 0 < i) (j1 : 0 ≤ i) (j3 : InB (2 ^ b.toNat) ns) (j4 : val (2 ^ b.toNat) ns + (2 ^ b.toNat) ^ ns.length * i = x) (j5 : 0 < i ∨ ns = [] ∨ ns.getD (ns.length - 1) 0 ≠ 0) : Rep b ns x := by
  have e : i = 0 := by omega
  rw [e, Int.mul_zero, Int.add_zero] at j4
  exact ⟨j3, j5.resolve_left h, j4⟩
set_option hygiene false in
local macro_rules | `(tactic| ktn_end $V:term) => `(tactic| (
  w_top off
  unfold Calls
  k_fill
  intro dp un gd cn cs a ccd cl outer A₀ base h₀ L m s Q E B F X N T hk hd hu hret
  have kMk := kstMark
  have hV : ∀ q ∈ $V, q ∈ news := by (first | assumption | kst_allIn)
  refine wpAny_call ?_
  k_dflt (first
    | (refine' code_see $V hV ?k1 ?k2 ?k3 ?k4 ?k5 ?kA ?kF ?kK ?k6 ?k7 ?k8 ?k9 ?kB ?_ ?c2 ?c3 ?c4 ?c5; (case kA => exact rfl); (case kF => exact rfl); (case kK => assumption); (case k1 => k_asm); (case k2 => k_asm); (case k3 => k_asm); (case k4 => k_asm); (case k5 => k_asm); (case k6 => k_is); (case k7 => k_is); (case k8 => ktr_room); (case k9 => exact BindsTo.of_eq rfl); (case c5 => decide); (case kB => exact locs rfl); (case c2 => exact rfl); (case c3 => exact rfl); (case c4 => exact rfl); k_whole; intro g' L' h' FG' F' N' B' X' T'; (try dsimp only); (try k_fold))
    | (refine' code_seeC $V hV ?k1 ?k2 ?k3 ?k4 ?k5 ?kA ?kF ?kK ?k6 ?k7 ?k8 ?k9 ?kB ?kD ?_ ?c2 ?c3 ?c4; (case kA => exact rfl); (case kF => exact rfl); (case kK => assumption); (case k1 => k_asm); (case k2 => k_asm); (case k3 => k_asm); (case k4 => k_asm); (case k5 => k_asm); (case k6 => k_is); (case k7 => k_is); (case k8 => ktr_room); (case k9 => exact BindsTo.of_eq rfl); (case kB => exact rfl); (case kD => decide +kernel); (case c2 => exact rfl); (case c3 => exact rfl); (case c4 => exact rfl); k_whole; intro g' L' h' tk' cells' FG' F' N' Y' B' X' T' l1; (try k_lt l1); k_cells Y'; (try simp only [List.cons_append, List.nil_append] at N'); (try dsimp only); (try k_lift B'); (try k_fold)))))
local macro_rules | `(tactic| k_memK) => `(tactic| with_reducible assumption)
set_option hygiene false in
local macro_rules | `(tactic| ktn_step) => `(tactic| (refine hret _ _ _ _ (by assumption) (Kept.all (by assumption) N hV (by assumption) (by kst_allIn)) ?_; (first | refine .mk _ _ ?_ | refine .mk _ ?_)))
set_option hygiene false in
local macro_rules | `(tactic| ktn_open) => `(tactic| (refine hret _ _ _ _ (by assumption) (Kept.cons (by assumption) N hV (by assumption) (by kst_allIn) (by k_memK)) (.mk _ _ _ _ (by l_ints) ?_)))
local macro_rules | `(tactic| ktn_ord) => `(tactic| (
  (try (case k1 => k_asm)); (try (case k2 => k_asm)); (try (case k3 => k_asm)); (try (case k4 => k_asm)); (try (case k5 => k_asm)); (try (case kK => first | exact rfl | assumption)); (try (case kd => ktr_room)); (try (case ku => ktr_units));
  (try (case u1 => k_updF)); (try (case x1 => k_memK)); (try (case y1 => k_memK)); (try (case m1 => k_memK)); (try (case i1 => l_ints)); (try (case m2 => k_memK)); (try (case i2 => l_ints)); (try (case f1 => ktn_lt)); (try (case f2 => ktn_lt)); (try (case f3 => ktn_lt)); (try (case f4 => ktn_lt)); (try (case f5 => ktn_lt)); (try (case f6 => ktn_lt)); (try (case f7 => ktn_lt)); (try (case f8 => ktn_lt)); (try (case f9 => ktn_lt)); (try (case f10 => ktn_lt))))
local macro_rules | `(tactic| ktn_lt) => `(tactic| first | assumption | omega | exact Rep.one (by assumption) | (simp; done) | ((simp only [rangeKs_length, downKs_length, List.length_map] at *); omega))
local macro_rules | `(tactic| ktr_call $x:term $c:term) => `(tactic| (
  (with_reducible show wpAny _ _ (call (Value.ref $x) _) _ _ _); k_here
  first
  | (k_dflt (refine' Calls.useI ?k1 ?k2 ?k3 ?k4 ?k5 ?kK $c ?kd ?ku ?_; ktn_ord); intro i9 t9 h9 tk9 F9 N9 p9; (try dsimp only at p9); (try (have q9 := p9.1; replace p9 := p9.2; (try (have q9 := p9.1; replace p9 := p9.2; (try (have q9 := p9.1; replace p9 := p9.2)))))); (try subst p9); (try dsimp only); (try k_fold))
  | (k_dflt (refine' Calls.useB ?k1 ?k2 ?k3 ?k4 ?k5 ?kK $c ?kd ?ku ?_; ktn_ord); intro i9 h9 tk9 F9 N9 p9; (try dsimp only at p9); (try subst p9); (try dsimp only); (try k_fold))
  | (k_dflt (refine' Calls.useL ?k1 ?k2 ?k3 ?k4 ?k5 ?kK $c ?kd ?ku ?_; ktn_ord); intro l9 vs9 ns9 c9 h9 tk9 F9 N9 i9 p9; (try dsimp only at p9); (try (have q9 := p9.1; replace p9 := p9.2; (try (have q9 := p9.1; replace p9 := p9.2; (try (have q9 := p9.1; replace p9 := p9.2)))))); (try dsimp only); (try k_fold))
  | (k_dflt (refine' Calls.useM ?k1 ?k2 ?k3 ?k4 ?k5 ?kK $c ?kd ?ku ?_; ktn_ord); intro i9 t9 vs9 ns9 c9 h9 tk9 F9 N9 j9 p9; (try dsimp only at N9); (try dsimp only at p9); (try (have q9 := p9.1; replace p9 := p9.2)); (try subst q9); (try dsimp only); (try k_fold))
  | (k_dflt (refine' Calls.useML ?k1 ?k2 ?k3 ?k4 ?k5 ?kK $c ?kd ?ku ?_; ktn_ord); intro l9 vs8 ns8 c8 vs9 ns9 c9 h9 tk9 F9 N9 j8 j9 p9; (try dsimp only at N9); (try dsimp only at p9); (try (have q9 := p9.1; replace p9 := p9.2)); (try dsimp only); (try k_fold))
  | (k_dflt (refine' Calls.useT ?k1 ?k2 ?k3 ?k4 ?k5 ?kK $c ?kd ?ku ?_; ktn_ord); intro a9 l9 vs9 ns9 c9 c8 i9 t9 h9 tk9 F9 N9 j9 p9; (try dsimp only at p9); (try (have q9 := p9.1; replace p9 := p9.2)); (try dsimp only); (try k_fold))
  | (k_dflt (refine' Calls.useTL ?k1 ?k2 ?k3 ?k4 ?k5 ?kK $c ?kd ?ku ?_; ktn_ord); intro a9 l9 l8 vs9 vs8 ns9 ns8 c9 c8 c7 h9 tk9 F9 N9 i9 i8 p9; (try dsimp only at p9); (try (have q9 := p9.1; replace p9 := p9.2)); (try dsimp only); (try k_fold))))
set_option hygiene false in
local macro_rules | `(tactic| tb_start) => `(tactic| (refine hret _ _ _ _ (by assumption) (Kept.cons2 (by assumption) N hV (by assumption) (by kst_allIn) (by k_memK) (by k_memK)) (.mk _ _ _ _ _ _ _ _ (by l_ints) ?_)))
set_option hygiene false in
local macro_rules | `(tactic| tb_rel) => `(tactic| (refine hret _ _ _ _ (by assumption) (Kept.cons3 (by assumption) N hV (by assumption) (by kst_allIn) (by k_memK) (by k_memK) (by k_memK)) (.mk _ _ _ _ _ _ _ _ _ _ (by l_ints) (by l_ints) ?_)))
set_option hygiene false in
local macro_rules | `(tactic| ktu_off) => `(tactic| (refine hret _ _ _ _ (by assumption) (Kept.upd (by assumption) N hV U (by assumption) (by k_memK) (by kst_allIn)) (.mk _ _ _ _ _ (by l_ints) ?_)))
local macro_rules | `(tactic| ktu_objs) => `(tactic| (k_here; k_dflt (refine' ifexp_eq ?jt ?jb ?jo ?jk; (case jt => (k_steps; exact MeetB.mk)); (case jb => (intro tk9 hc9; (try dsimp only); k_steps; exact MeetI.mk)); (case jo => (intro tk9 hc9; (try dsimp only); k_steps; exact MeetI.mk)); intro i9 t9 tk9 e9; (try dsimp only); (try k_fold))))

section
theorem is_even_ct {w : World} {loose : List Str} {mean : ExcName → Option Value} {mg mb : Str → Option Value} {l : Addr} {vs : List Value} {ns : List Int} {c : Nat} {b x : Int} {news : List (Addr × Obj)}
    (hm : (l, listOf vs.toArray c) ∈ news) (hi : IntsAre vs ns) (hr : Rep b ns x) (hb : 3 ≤ b) (hx : x < 4096) :
    Calls w loose mean mg mb 1 65 [.ref l] news (OutB news fun i => i = decide (x % 2 = 0)) := by
  have hl := hr.len hb hx
  ktn_end [(l, listOf vs.toArray c)]
  k_steps
  · ktn_step
    have e := hr.zero.mp (by omega)
    subst e
    have e3 : (ns.length : Int) = 0 := by omega
    rw [e3]; rfl
  · ktn_step
    have e := val_even hb ns
    rw [hr.val] at e
    have e2 : Builtin.bitAnd (ns.getD (Int.toNat 0) 0) 1 = ns.getD 0 0 % 2 := kbt_mask (ns.getD 0 0) 1
    rw [e2, ← e]; rfl

/-- ns' is ns without its last noughts -/
def IsNorm (ns ns' : List Int) : Prop := ∃ e : Nat, e ≤ ns.length ∧ ns' = ns.take e ∧ (∀ i : Nat, e ≤ i → ns.getD i 0 = 0) ∧ (e = 0 ∨ ns.getD (e - 1) 0 ≠ 0)
theorem norm_down {ns : List Int} {e : Int} (h0 : 0 ≤ e) (h1 : e ≤ (ns.length : Int)) (h2 : ∀ i : Nat, e ≤ (i : Int) → ns.getD i 0 = 0) (h3 : 0 < e) (hz : ns.getD (e - 1).toNat 0 = 0) :
    0 ≤ e - 1 ∧ e - 1 ≤ (ns.length : Int) ∧ ∀ i : Nat, e - 1 ≤ (i : Int) → ns.getD i 0 = 0 := by
  refine ⟨by omega, by omega, fun i hi => ?_⟩
  by_cases h : e ≤ (i : Int)
  · exact h2 i h
  · have e9 : i = (e - 1).toNat := by omega
    rw [e9]; exact hz
theorem norm_start {ns : List Int} : (0 : Int) ≤ (ns.length : Int) ∧ (ns.length : Int) ≤ (ns.length : Int) ∧ ∀ i : Nat, (ns.length : Int) ≤ (i : Int) → ns.getD i 0 = 0 :=
  ⟨by omega, by omega, fun i hi => by rw [List.getD_eq_getElem?_getD, List.getElem?_eq_none (by omega)]; rfl⟩
theorem norm_end {ns : List Int} {e : Int} (h0 : 0 ≤ e) (h1 : e ≤ (ns.length : Int)) (h2 : ∀ i : Nat, e ≤ (i : Int) → ns.getD i 0 = 0) (h3 : e = 0 ∨ ns.getD (e - 1).toNat 0 ≠ 0) : IsNorm ns (ns.take e.toNat) := by
  refine ⟨e.toNat, by omega, rfl, fun i hi => h2 i (by omega), ?_⟩
  rcases h3 with h3 | h3
  · exact .inl (by omega)
  · right
    have e9 : e.toNat - 1 = (e - 1).toNat := by omega
    rw [e9]; exact h3
theorem IsNorm.len {ns ns' : List Int} (h : IsNorm ns ns') : ns'.length ≤ ns.length := by
  obtain ⟨e, h1, rfl, _⟩ := h
  rw [List.length_take]; omega
theorem IsNorm.rep {b x : Int} {ns ns' : List Int} (h : IsNorm ns ns') (hi : InB (2 ^ b.toNat) ns) (hx : val (2 ^ b.toNat) ns = x) : Rep b ns' x := by
  obtain ⟨e, h1, rfl, h2, h3⟩ := h
  refine ⟨fun l hl => hi l (List.mem_of_mem_take hl), ?_, by rw [val_take h2]; exact hx⟩
  rcases h3 with h3 | h3
  · left; rw [h3]; rfl
  · by_cases h0 : e = 0
    · left; rw [h0]; rfl
    · right
      have e1 : (ns.take e).length = e := by rw [List.length_take]; omega
      rw [e1, List.getD_eq_getElem?_getD, List.getElem?_take_of_lt (by omega), ← List.getD_eq_getElem?_getD]
      exact h3
theorem normal_ct {w : World} {loose : List Str} {mean : ExcName → Option Value} {mg mb : Str → Option Value} {l : Addr} {vs : List Value} {ns : List Int} {c : Nat} {news : List (Addr × Obj)}
    (hm : (l, listOf vs.toArray c) ∈ news) (hi : IntsAre vs ns) (hl : ns.length ≤ 1000) :
    Calls w loose mean mg mb 1 58 [.ref l] news (OutL news fun ns' => IsNorm ns ns') := by
  ktn_end [(l, listOf vs.toArray c)]
  k_with "exec While BoolOp cons nil" => k_while (fun _ e => 0 ≤ e ∧ e ≤ (ns.length : Int) ∧ ∀ i : Nat, e ≤ i → ns.getD i 0 = 0) (fun _ e => e.toNat) "end"
  k_with "state" => exact norm_down (by assumption) (by assumption) (by assumption) (by assumption) (by assumption)
  k_with "state" => exact norm_start
  k_steps
  · ktn_open
    exact norm_end (by assumption) (by assumption) (by assumption) (.inr (by assumption))
  · ktn_open
    exact norm_end (by assumption) (by assumption) (by assumption) (.inl (by omega))
  k_with_none

theorem is_odd_ct {w : World} {loose : List Str} {mean : ExcName → Option Value} {mg mb : Str → Option Value} {l : Addr} {vs : List Value} {ns : List Int} {c : Nat} {b x : Int} {news : List (Addr × Obj)}
    (hm : (l, listOf vs.toArray c) ∈ news) (hi : IntsAre vs ns) (hr : Rep b ns x) (hb : 3 ≤ b) (hx : x < 4096) (ho : x % 2 = 1) :
    Calls w loose mean mg mb 1 65 [.ref l] news (OutB news fun i => i = false) :=
  (is_even_ct hm hi hr hb hx).monoB fun i h => by rw [h]; simp; omega

end

section
local macro_rules | `(tactic| walk_at "no such key 0") => `(tactic| fail)
theorem cmp_start {xs ys : List Int} (h : (xs.length : Int) = ys.length) : ∀ j : Nat, xs.length ≤ j + ([] : List Int).length → xs.getD j 0 = ys.getD j 0 := by
  intro j hj
  simp only [List.length_nil, Nat.add_zero] at hj
  rw [List.getD_eq_getElem?_getD, List.getD_eq_getElem?_getD, List.getElem?_eq_none hj, List.getElem?_eq_none (by omega)]
theorem cmp_turn {xs ys pre : List Int} {k : Int} (h : ∀ j : Nat, xs.length ≤ j + pre.length → xs.getD j 0 = ys.getD j 0) (hk : k = xs.length - 1 - pre.length) (hl : pre.length < (xs.length - 1 - -1 : Int).toNat) (e : xs.getD k.toNat 0 = ys.getD k.toNat 0) :
    ∀ j : Nat, xs.length ≤ j + (pre ++ [k]).length → xs.getD j 0 = ys.getD j 0 := by
  intro j hj
  simp only [List.length_append, List.length_cons, List.length_nil] at hj
  by_cases h2 : xs.length ≤ j + pre.length
  · exact h j h2
  · have : j = k.toNat := by omega
    rw [this]; exact e
theorem compare_ct {w : World} {loose : List Str} {mean : ExcName → Option Value} {mg mb : Str → Option Value} {l l2 : Addr} {vs vs2 : List Value} {ns ns2 : List Int} {c c2 : Nat} {b x y : Int} {news : List (Addr × Obj)}
    (hm : (l, listOf vs.toArray c) ∈ news) (hi : IntsAre vs ns) (hm2 : (l2, listOf vs2.toArray c2) ∈ news) (hi2 : IntsAre vs2 ns2) (hr : Rep b ns x) (hr2 : Rep b ns2 y) (hb : 3 ≤ b) (hx : x < 4096) (hy : y < 4096) :
    Calls w loose mean mg mb 1 72 [.ref l, .ref l2] news (OutI news fun i => -1 ≤ i ∧ i ≤ 1 ∧ (i < 0 ↔ x < y) ∧ (i = 0 ↔ x = y)) := by
  have hl := hr.len hb hx
  have hl2 := hr2.len hb hy
  ktn_end [(l, listOf vs.toArray c), (l2, listOf vs2.toArray c2)]
  k_steps
  · ktn_step
    have := hr.lt_len hr2 (by omega)
    omega
  · ktn_step
    have := hr2.lt_len hr (by omega)
    omega
  · rename ((ns.length : Int) = (ns2.length : Int)) => hll
    (rename Fr _ _ _ _ => lF'); (rename News _ _ _ _ => lN'); (rename IsRange _ _ _ _ _ _ _ _ => rgX)
    (with_unfolding_all refine' kst_rangeD (σ := Unit) (fun _ => [(l, listOf vs.toArray c), (l2, listOf vs2.toArray c2)]) (fun _ => []) (fun _ => True) [] (fun pre _ => ∀ j : Nat, ns.length ≤ j + pre.length → ns.getD j 0 = ns2.getD j 0) () (by rfl) rgX (small_down (by omega) (by omega) (by omega) (by omega)) (rangeSize_downNat _ _) lF' lN' True.intro (List.forall_mem_nil _) (cmp_start hll) ?_ ?_)
    all_goals clear lF' lN'
    · intro kC kPre kN kT kU kH kTk kOwn kEq kLt kOff kFacts kInv kFr kNews
      k_with "state" => exact cmp_turn kInv kEq kLt (by assumption)
      (try k_fold)
      k_steps
      · ktn_step
        have h2 : x < y := by
          rw [← hr.val, ← hr2.val]
          exact val_cmp (kbt_pos _) (i := kN.toNat) hr.inB hr2.inB (by omega) (by omega) (fun j hj => kInv j (by omega)) (by assumption)
        omega
      · ktn_step
        have h2 : y < x := by
          rw [← hr.val, ← hr2.val]
          exact val_cmp (kbt_pos _) (i := kN.toNat) hr2.inB hr.inB (by omega) (by omega) (fun j hj => (kInv j (by omega)).symm) (by omega)
        omega
      · rename News _ _ _ _ => nE'
        refine kst_end () (by assumption) nE' (by first | kst_in | kst_inAny) (by first | (intro p hp; kst_mem) | kst_anyIn) (by rfl) True.intro (List.forall_mem_nil _) (by intro z h1 h2 h3; simp [kstB, h1]) (by kst_p)
    · intro kC kU kH kTk kFacts kInv kFr kNews
      (try k_fold)
      k_steps
      ktn_step
      have e : ns = ns2 := list_eq (by omega) (fun j hj => kInv j (by simp only [downKs_length]; omega))
      subst e
      have h2 : x = y := by rw [← hr.val, ← hr2.val]
      omega
  k_with_none

end

section
local macro_rules | `(tactic| walk_at "no such key 0") => `(tactic| fail)
local macro_rules | `(tactic| walk_at "no such key 1") => `(tactic| fail)
theorem bits_ct {w : World} {loose : List Str} {mean : ExcName → Option Value} {mg mb : Str → Option Value} {l : Addr} {vs : List Value} {ns : List Int} {tb : Tok} {b : Int} {c : Nat} {news : List (Addr × Obj)}
    (hm : (l, listOf vs.toArray c) ∈ news) (hi : IntsAre vs ns) (hl : ns.length = 1) (hb : 3 ≤ b) (hb' : b ≤ 8) :
    Calls w loose mean mg mb 1 100 [.ref l, .int b tb] news (OutI news fun i => i = Builtin.Int.intBits (ns.getD 0 0)) := by
  ktn_end [(l, listOf vs.toArray c)]
  k_steps
  ktn_step
  rw [hl]; simp

theorem bits1_ct {w : World} {loose : List Str} {mean : ExcName → Option Value} {mg mb : Str → Option Value} {l : Addr} {vs : List Value} {ns : List Int} {tb : Tok} {b : Int} {c : Nat} {news : List (Addr × Obj)}
    (hm : (l, listOf vs.toArray c) ∈ news) (hi : IntsAre vs ns) (hl : ns = [1]) (hb : 3 ≤ b) (hb' : b ≤ 8) :
    Calls w loose mean mg mb 1 100 [.ref l, .int b tb] news (OutI news fun i => i = 1) :=
  (bits_ct hm hi (by rw [hl]; rfl) hb hb').monoI fun i h => by rw [h, hl]; decide +kernel
theorem bit_end {ns : List Int} {b x n : Int} (hr : Rep b ns x) (hb : 3 ≤ b) (hn : 0 ≤ n) (hn' : n < 3) : Builtin.bitAnd ((ns.getD 0 0).fdiv (2 ^ n.toNat)) 1 = x / 2 ^ n.toNat % 2 := by
  have e0 : Builtin.bitAnd ((ns.getD 0 0).fdiv (2 ^ n.toNat)) 1 = ((ns.getD 0 0).fdiv (2 ^ n.toNat)) % 2 := kbt_mask _ 1
  rw [e0, Int.fdiv_eq_ediv_of_nonneg _ (Int.le_of_lt (kbt_pos _)), ← hr.val]
  cases ns with
  | nil => simp [val]
  | cons l t =>
    show l / 2 ^ n.toNat % 2 = (l + 2 ^ b.toNat * val (2 ^ b.toNat) t) / 2 ^ n.toNat % 2
    obtain ⟨k, hk⟩ : ∃ k : Int, (2 : Int) ^ b.toNat = 8 * k := by
      refine ⟨2 ^ (b.toNat - 3), ?_⟩
      have e : b.toNat = 3 + (b.toNat - 3) := by omega
      rw [e, Int.pow_add]; simp
    rw [hk, Int.mul_assoc]
    have : n.toNat = 0 ∨ n.toNat = 1 ∨ n.toNat = 2 := by omega
    rcases this with e | e | e <;> rw [e]
    · have : (2 : Int) ^ 0 = 1 := by decide
      rw [this]; omega
    · have : (2 : Int) ^ 1 = 2 := by decide
      rw [this]; omega
    · have : (2 : Int) ^ 2 = 4 := by decide
      rw [this]; omega
theorem bit_ct {w : World} {loose : List Str} {mean : ExcName → Option Value} {mg mb : Str → Option Value} {l : Addr} {vs : List Value} {ns : List Int} {tb tn : Tok} {n b x : Int} {c : Nat} {news : List (Addr × Obj)}
    (hm : (l, listOf vs.toArray c) ∈ news) (hi : IntsAre vs ns) (hr : Rep b ns x) (hb : 3 ≤ b) (hb' : b ≤ 8) (hx : x < 4096) (hn : 0 ≤ n) (hn' : n < 3) :
    Calls w loose mean mg mb 1 107 [.ref l, .int n tn, .int b tb] news (OutI news fun i => 0 ≤ i ∧ i ≤ 1 ∧ i = x / 2 ^ n.toNat % 2) := by
  have e1 : n.fdiv b = 0 := by rw [Int.fdiv_eq_ediv_of_nonneg _ (by omega)]; exact Int.ediv_eq_zero_of_lt hn (by omega)
  have e2 : n.fmod b = n := by rw [Int.fmod_eq_emod_of_nonneg _ (by omega)]; exact Int.emod_eq_of_lt hn (by omega)
  have hl := hr.len hb hx
  have h0 : 0 ≤ x / 2 ^ n.toNat % 2 ∧ x / 2 ^ n.toNat % 2 ≤ 1 := by omega
  ktn_end [(l, listOf vs.toArray c)]
  k_steps
  · ktn_step
    rw [e1, e2, show (0 : Int).toNat = 0 from rfl, bit_end hr hb hn hn']
    exact ⟨h0.1, h0.2, rfl⟩
  · ktn_step
    have e := hr.zero.mp (by omega)
    subst e
    simp
local macro_rules | `(tactic| walk_at "call ref") => `(tactic| ktr_call 107 (bit_ct ?m1 ?i1 ?f1 ?f2 ?f3 ?f4 ?f5 ?f6))
theorem bit_if (x : Int) (k : Nat) {y : Int} : (if 0 ≤ x / 2 ^ k % 2 ∧ x / 2 ^ k % 2 ≤ 1 then x / 2 ^ k % 2 * 2 ^ k else y) = x / 2 ^ k % 2 * 2 ^ k := by
  rw [if_pos (by omega)]
theorem sum3 (x : Int) : (List.map (fun k' : Int => if 0 ≤ x / 2 ^ k'.toNat % 2 ∧ x / 2 ^ k'.toNat % 2 ≤ 1 then x / 2 ^ k'.toNat % 2 * 2 ^ k'.toNat else k') (rangeKs 0 (3 - 0 : Int).toNat)).sum = x % 8 := by
  simp only [bit_if]
  show x / 2 ^ 0 % 2 * 2 ^ 0 + (x / 2 ^ 1 % 2 * 2 ^ 1 + (x / 2 ^ 2 % 2 * 2 ^ 2 + 0)) = x % 8
  simp only [Int.reducePow]
  omega
theorem sum2 (x : Int) : (List.map (fun k' : Int => if 0 ≤ x / 2 ^ k'.toNat % 2 ∧ x / 2 ^ k'.toNat % 2 ≤ 1 then x / 2 ^ k'.toNat % 2 * 2 ^ k'.toNat else k') (rangeKs 0 (2 - 0 : Int).toNat)).sum = x % 4 := by
  simp only [bit_if]
  show x / 2 ^ 0 % 2 * 2 ^ 0 + (x / 2 ^ 1 % 2 * 2 ^ 1 + 0) = x % 4
  simp only [Int.reducePow]
  omega
theorem last2_ct {w : World} {loose : List Str} {mean : ExcName → Option Value} {mg mb : Str → Option Value} {l : Addr} {vs : List Value} {ns : List Int} {tb tn : Tok} {b x : Int} {c : Nat} {news : List (Addr × Obj)}
    (hm : (l, listOf vs.toArray c) ∈ news) (hi : IntsAre vs ns) (hr : Rep b ns x) (hb : 3 ≤ b) (hb' : b ≤ 8) (hx : x < 4096) :
    Calls w loose mean mg mb 2 119 [.ref l, .int 2 tn, .int b tb] news (OutI news fun i => i = x % 4) := by
  ktn_end [(l, listOf vs.toArray c)]
  k_steps
  ktn_step
  exact sum2 x
theorem last3_ct {w : World} {loose : List Str} {mean : ExcName → Option Value} {mg mb : Str → Option Value} {l : Addr} {vs : List Value} {ns : List Int} {tb tn : Tok} {b x : Int} {c : Nat} {news : List (Addr × Obj)}
    (hm : (l, listOf vs.toArray c) ∈ news) (hi : IntsAre vs ns) (hr : Rep b ns x) (hb : 3 ≤ b) (hb' : b ≤ 8) (hx : x < 4096) :
    Calls w loose mean mg mb 2 119 [.ref l, .int 3 tn, .int b tb] news (OutI news fun i => i = x % 8) := by
  ktn_end [(l, listOf vs.toArray c)]
  k_steps
  ktn_step
  exact sum3 x
local macro_rules | `(tactic| walk_at "call ref") => `(tactic| ktr_call 119 (last3_ct ?m1 ?i1 ?f1 ?f2 ?f3 ?f4))
theorem two_sign_ct {w : World} {loose : List Str} {mean : ExcName → Option Value} {mg mb : Str → Option Value} {l : Addr} {vs : List Value} {ns : List Int} {tb tn : Tok} {b x n : Int} {c : Nat} {news : List (Addr × Obj)}
    (hm : (l, listOf vs.toArray c) ∈ news) (hi : IntsAre vs ns) (hr : Rep b ns x) (hb : 3 ≤ b) (hb' : b ≤ 8) (hx : x < 4096) (hn : 0 ≤ n) (hn' : n < 12) :
    Calls w loose mean mg mb 3 126 [.int n tn, .ref l, .int b tb] news (OutI news fun i => i = if n % 2 = 1 ∧ (x % 8 = 3 ∨ x % 8 = 5) then -1 else 1) := by
  ktn_end [(l, listOf vs.toArray c)]
  k_steps
  · ktn_step
    rw [if_pos]
    refine ⟨by rw [← Int.fmod_eq_emod_of_nonneg _ (by decide)]; assumption, ?_⟩
    rename (List.any _ _ = true) => h9
    simp only [List.any_cons, List.any_nil, Bool.or_false, Bool.or_eq_true, beq_iff_eq] at h9
    omega
  · ktn_step
    rw [if_neg]
    rename (List.any _ _ = false) => h9
    simp only [List.any_cons, List.any_nil, Bool.or_false, Bool.or_eq_false_iff, beq_eq_false_iff_ne] at h9
    omega
  · ktn_step
    rw [if_neg]
    rename (_ ≠ _) => h9
    rw [Int.fmod_eq_emod_of_nonneg _ (by decide)] at h9
    omega

end

section
theorem low_find : ∀ n : Fin 256, n.val = 0 ∨ ∃ i : Fin 8, ((Builtin.Int.intBits (Builtin.bitAnd (n.val : Int) (-(n.val : Int))) : Nat) : Int) - 1 = (i.val : Int) ∧ n.val % 2 ^ i.val = 0 ∧ n.val / 2 ^ i.val % 2 = 1 := by decide +kernel
/-- x is 2 ^ i times an odd number -/
def Low (x i : Int) : Prop := ∃ q : Int, x = 2 ^ i.toNat * (2 * q + 1)
theorem low_of {x : Int} (h0 : 0 < x) (hx : x < 256) : ∃ i : Nat, i < 8 ∧ ((Builtin.Int.intBits (Builtin.bitAnd x (-x)) : Nat) : Int) - 1 = i ∧ Low x i := by
  rcases low_find ⟨x.toNat, by omega⟩ with h | ⟨i, h1, h2, h3⟩
  · have : x.toNat = 0 := h
    omega
  · refine ⟨i.val, i.isLt, ?_, ?_⟩
    · have e : ((x.toNat : Nat) : Int) = x := by omega
      simp only [e] at h1
      exact h1
    · refine ⟨((x.toNat / 2 ^ i.val / 2 : Nat) : Int), ?_⟩
      have e1 := Nat.div_add_mod x.toNat (2 ^ i.val)
      have e2 := Nat.div_add_mod (x.toNat / 2 ^ i.val) 2
      simp only at h2 h3
      rw [h2, Nat.add_zero] at e1
      rw [h3] at e2
      rw [← e2] at e1
      have e3 : ((2 ^ i.val * (2 * (x.toNat / 2 ^ i.val / 2) + 1) : Nat) : Int) = x := by rw [e1]; omega
      simp only [Int.natCast_mul, Int.natCast_add, Int.natCast_pow] at e3
      exact e3.symm
theorem low_up {y z b i k x : Int} (hy : Low y i) (hi : 0 ≤ i) (hib : i < b) (hk : 0 ≤ k) (hx : x = 2 ^ k.toNat * (y + 2 ^ b.toNat * z)) : Low x (k + i) := by
  obtain ⟨q, rfl⟩ := hy
  refine ⟨q + 2 ^ (b - i - 1).toNat * z, ?_⟩
  have e1 : (k + i).toNat = k.toNat + i.toNat := by omega
  have e2 : b.toNat = i.toNat + ((b - i - 1).toNat + 1) := by omega
  have e4 : (2 : Int) ^ (k + i).toNat = 2 ^ k.toNat * 2 ^ i.toNat := by rw [e1, Int.pow_add]
  have e5 : (2 : Int) ^ b.toNat = 2 ^ i.toNat * (2 ^ (b - i - 1).toNat * 2) := by rw [e2, Int.pow_add, Int.pow_succ]
  rw [hx, e4, e5]
  generalize (2 : Int) ^ k.toNat = K
  generalize (2 : Int) ^ i.toNat = I
  generalize (2 : Int) ^ (b - i - 1).toNat = J
  have e3 : I * (J * 2) * z = I * (2 * (J * z)) := by
    rw [Int.mul_assoc, Int.mul_assoc, Int.mul_left_comm J 2 z]
  rw [e3, ← Int.mul_add, Int.mul_assoc]
  congr 2
  omega
theorem low_small {x i : Int} (h : Low x i) (h0 : 0 < x) (hx : x < 4096) : i < 12 := by
  obtain ⟨q, e⟩ := h
  refine Classical.byContradiction fun hn => ?_
  have h1 : (2 : Int) ^ 12 ≤ 2 ^ i.toNat := pow_mono (by decide) (by omega)
  have h2 : (2 : Int) ^ 12 = 4096 := by decide
  have hq : 0 < 2 * q + 1 := by
    refine Classical.byContradiction fun hq => ?_
    have := Int.mul_nonneg (show (0 : Int) ≤ 2 ^ i.toNat by omega) (show 0 ≤ -(2 * q + 1) by omega)
    rw [Int.mul_neg] at this
    omega
  have h3 := mul_le' (show (0 : Int) ≤ 2 ^ i.toNat by omega) (show 1 ≤ 2 * q + 1 by omega)
  omega

theorem val_zeros {B : Int} {pre : List Int} (h : ∀ v ∈ pre, v = 0) : val B pre = 0 := val_zero fun i => by
  rw [List.getD_eq_getElem?_getD]
  cases e : pre[i]? with
  | none => rfl
  | some v => exact h v (List.mem_of_getElem? e)
theorem base_pow (b : Int) (hb : 0 ≤ b) (n : Nat) : ((2 : Int) ^ b.toNat) ^ n = 2 ^ ((n : Int) * b).toNat := by
  rw [← Int.pow_mul]
  congr 1
  have : ((b.toNat * n : Nat) : Int) = (n : Int) * b := by
    rw [Int.natCast_mul, Int.toNat_of_nonneg hb, Int.mul_comm]
  omega
theorem trail_end {b x y : Int} {pre t : List Int} {k : Int} (h0 : 0 < x) (hx : x < 4096) (hr : Rep b (pre ++ y :: t) x) (hy : 0 < y) (hb : 3 ≤ b) (hk : (pre.length : Int) = k) (hz : ∀ v ∈ pre, v = 0) (hb' : b ≤ 8) :
    0 ≤ k * b + ((Builtin.Int.intBits (Builtin.bitAnd y (-y)) : Nat) : Int) - 1 ∧ k * b + ((Builtin.Int.intBits (Builtin.bitAnd y (-y)) : Nat) : Int) - 1 < 12 ∧ Low x (k * b + ((Builtin.Int.intBits (Builtin.bitAnd y (-y)) : Nat) : Int) - 1) := by
  have hyB := hr.inB y (by simp)
  obtain ⟨i, h1, h2, h3⟩ := low_of hy (by have := base_le hb'; omega)
  have e : k * b + ((Builtin.Int.intBits (Builtin.bitAnd y (-y)) : Nat) : Int) - 1 = k * b + i := by omega
  rw [e]
  have hv := hr.val
  rw [val_append, val_zeros hz] at hv
  simp only [val] at hv
  have hkb : 0 ≤ k * b := Int.mul_nonneg (by omega) (by omega)
  have hib : (i : Int) < b := by
    refine Classical.byContradiction fun hn => ?_
    obtain ⟨q, hq⟩ := h3
    have hp := pow_mono (B := 2) (by decide) (show b.toNat ≤ i by omega)
    have hq0 : 0 < 2 * q + 1 := by
      refine Classical.byContradiction fun hq0 => ?_
      have := Int.mul_nonneg (show (0 : Int) ≤ 2 ^ i by exact Int.le_of_lt (kbt_pos _)) (show 0 ≤ -(2 * q + 1) by omega)
      rw [Int.mul_neg] at this
      simp only [Int.toNat_natCast] at hq
      omega
    have h5 := mul_le' (show (0 : Int) ≤ 2 ^ i from Int.le_of_lt (kbt_pos _)) (show 1 ≤ 2 * q + 1 by omega)
    simp only [Int.toNat_natCast] at hq
    omega
  have hL : Low x (k * b + i) := by
    refine low_up (z := Mine.val (2 ^ b.toNat) t) h3 (by omega) hib hkb ?_
    rw [← hv, base_pow b (by omega), hk]
    omega
  exact ⟨by omega, low_small hL h0 hx, hL⟩
theorem trail_three {b x x0 x1 x2 : Int} {t : List Int} (hr : Rep b (x0 :: x1 :: x2 :: t) x) (hb : 3 ≤ b) (hs : x < 16 ∨ x % 2 = 1) : 0 < x0 := by
  have hB8 := base_ge hb
  have b0 := hr.inB.head
  rcases hs with hs | hs
  · exfalso
    have hg := hr.ge (by simp)
    have h1 := pow_mono (B := 2 ^ b.toNat) (i := 2) (j := (x0 :: x1 :: x2 :: t).length - 1) (by omega) (by simp only [List.length_cons]; omega)
    rw [Int.pow_succ, Int.pow_succ, Int.pow_zero, Int.one_mul] at h1
    have h2 := mul_le' (show (0 : Int) ≤ 2 ^ b.toNat by omega) hB8
    omega
  · have hv := hr.val
    simp only [val] at hv
    generalize x1 + 2 ^ b.toNat * (x2 + 2 ^ b.toNat * Mine.val (2 ^ b.toNat) t) = R at hv
    obtain ⟨k, hk⟩ : ∃ k, b.toNat = k + 1 := ⟨b.toNat - 1, by omega⟩
    rw [hk, Int.pow_succ, Int.mul_comm (2 ^ k) 2, Int.mul_assoc] at hv
    generalize 2 ^ k * R = Z at hv
    omega
theorem trailing_ct {w : World} {loose : List Str} {mean : ExcName → Option Value} {mg mb : Str → Option Value} {l : Addr} {vs : List Value} {ns : List Int} {c : Nat} {b x : Int} {tb : Tok} {news : List (Addr × Obj)}
    (hm : (l, listOf vs.toArray c) ∈ news) (hi : IntsAre vs ns) (hr : Rep b ns x) (hb : 3 ≤ b) (hb' : b ≤ 8) (hx : x < 4096) (h0 : 0 < x) (hs : x < 16 ∨ x % 2 = 1) :
    Calls w loose mean mg mb 1 114 [.ref l, .int b tb] news (OutI news fun i => 0 ≤ i ∧ i < 12 ∧ Low x i) := by
  have hl := hr.len hb hx
  have hz := hr.zero
  have hv := hr.val
  have hB := hr.inB
  have hB8 := base_ge hb
  have hB9 := base_le hb'
  cases hi with
  | nil => exact absurd (hz.mp rfl) (by omega)
  | @cons x0 t0 _ _ hi =>
  have b0 := hB.head
  cases hi with
  | nil =>
    have hp : 0 < x0 := by simp only [val] at hv; omega
    ktn_end [(l, listOf [Value.int x0 t0].toArray c)]
    k_steps
    ktn_step
    exact trail_end (pre := []) h0 hx hr hp hb rfl (by simp) hb'
  | @cons x1 t1 _ _ hi =>
  have b1 := hB.tail.head
  cases hi with
  | nil =>
    have hp : 0 < x0 ∨ 0 < x1 := by
      refine Classical.byContradiction fun hn => ?_
      have e0 : x0 = 0 := by omega
      have e1 : x1 = 0 := by omega
      simp only [val, e0, e1, Int.mul_zero, Int.add_zero] at hv
      omega
    ktn_end [(l, listOf [Value.int x0 t0, Value.int x1 t1].toArray c)]
    k_steps
    · ktn_step
      exact trail_end (pre := []) h0 hx hr (by assumption) hb rfl (by simp) hb'
    · ktn_step
      exact trail_end (pre := [x0]) h0 hx hr (by omega) hb rfl (by simp; omega) hb'
  | @cons x2 t2 _ _ hi =>
  have b2 := hB.tail.tail.head
  have hp0 : 0 < x0 := trail_three hr hb hs
  cases hi with
  | nil =>
    ktn_end [(l, listOf [Value.int x0 t0, Value.int x1 t1, Value.int x2 t2].toArray c)]
    k_steps
    ktn_step
    exact trail_end (pre := []) h0 hx hr (by assumption) hb rfl (by simp) hb'
  | @cons x3 t3 _ _ hi =>
  have b3 := hB.tail.tail.tail.head
  cases hi with
  | nil =>
    ktn_end [(l, listOf [Value.int x0 t0, Value.int x1 t1, Value.int x2 t2, Value.int x3 t3].toArray c)]
    k_steps
    ktn_step
    exact trail_end (pre := []) h0 hx hr (by assumption) hb rfl (by simp) hb'
  | cons x4 t4 hi => simp only [List.length_cons] at hl; omega

end

section
/-- all of a normal_ct's text stands in T1 -/
local macro_rules | `(tactic| walk_at "call ref") => `(tactic| ktr_call 58 (normal_ct ?m1 ?i1 ?f1))
theorem divrem_limb_ct {w : World} {loose : List Str} {mean : ExcName → Option Value} {mg mb : Str → Option Value} {l : Addr} {vs : List Value} {ns : List Int} {tl tb : Tok} {b x y : Int} {c : Nat} {news : List (Addr × Obj)}
    (hm : (l, listOf vs.toArray c) ∈ news) (hi : IntsAre vs ns) (hr : Rep b ns x) (hb : 3 ≤ b) (hb' : b ≤ 8) (hx : x < 4096) (hy : 0 < y) (hy' : y < 256) :
    Calls w loose mean mg mb 2 79 [.ref l, .int y tl, .int b tb] news (OutT news fun i => i = x % y) := by
  have hl := hr.len hb hx
  have hy0 : y ≠ 0 := by omega
  ktn_end [(l, listOf vs.toArray c)]
  k_with "pyIter ref" => k_state (fun pre found rest => found.length = ns.length ∧ 0 ≤ rest ∧ rest < y ∧ rest = val (2 ^ b.toNat) (ns.drop (ns.length - pre.length)) % y) "found" "rest"
  have hB := hr.inB
  k_with "state" => exact dl_start hy
  k_with "state" => exact dl_turn hB hy (by assumption) (by assumption) (by assumption) (by assumption)
  k_steps
  all_goals first
    | (exfalso; omega)
    | (tb_start
       exact dl_end hr (by assumption))
  k_with_none

end

section
local macro_rules | `(tactic| walk_at "no such key 0") => `(tactic| fail)
set_option hygiene false in
local macro_rules | `(tactic| walk_at "binaryOp LShift int int") => `(tactic| (k_here; (with_reducible refine lshift_int_small ?kb1 ?kb2 ?kb3 ?_); (case kb1 => omega); (case kb2 => omega); (case kb3 => first | omega | exact mem_small hB hB9 (by assumption) | exact getD_small hB hB8 hB9 _)))
theorem shift_left_ct {w : World} {loose : List Str} {mean : ExcName → Option Value} {mg mb : Str → Option Value} {l : Addr} {vs : List Value} {ns : List Int} {tn tb : Tok} {b x n : Int} {c : Nat} {news : List (Addr × Obj)}
    (hm : (l, listOf vs.toArray c) ∈ news) (hi : IntsAre vs ns) (hr : Rep b ns x) (hb : 3 ≤ b) (hb' : b ≤ 8) (hx : x < 4096) (hn : 0 ≤ n) (hn' : n < b) :
    Calls w loose mean mg mb 1 86 [.ref l, .int n tn, .int b tb] news (OutL news fun ns' => ns.length ≤ ns'.length ∧ ns'.length ≤ ns.length + 1 ∧ Rep b ns' (x * 2 ^ n.toNat)) := by
  have hl := hr.len hb hx
  have e1 : n.fdiv b = 0 := by rw [Int.fdiv_eq_ediv_of_nonneg _ (by omega)]; exact Int.ediv_eq_zero_of_lt hn (by omega)
  have e2 : n.fmod b = n := by rw [Int.fmod_eq_emod_of_nonneg _ (by omega)]; exact Int.emod_eq_of_lt hn (by omega)
  ktn_end [(l, listOf vs.toArray c)]
  k_with "pyIter ref" => k_state (fun pre found carry => found.length = pre.length ∧ 0 ≤ carry ∧ carry < 2 ^ n.toNat ∧ InB (2 ^ b.toNat) found ∧ val (2 ^ b.toNat) found + (2 ^ b.toNat) ^ pre.length * carry = val (2 ^ b.toNat) pre * 2 ^ n.toNat) "found" "carry"
  have hB := hr.inB
  have hB8 := base_ge hb
  have hB9 := base_le hb'
  k_with "state" => exact sl_start e1 hn
  k_with "state" => exact sl_turn e2 (hB _ (by assumption)) (by assumption) (by assumption) (by assumption) (by assumption) (by assumption)
  k_steps
  · ktn_open
    have e := hr.zero.mp (by omega)
    subst e
    rw [Int.zero_mul]; exact ⟨by show ns.length ≤ 0; omega, by simp, Rep.nil⟩
  · (try simp only [List.push_toArray] at *)
    ktn_open
    exact ⟨by simp; omega, by simp; omega, sl_grown hr hn' hn (by assumption) (by assumption) (by assumption) (by assumption) (by assumption)⟩
  · ktn_open
    exact ⟨by omega, by omega, sl_same hr (by assumption) (by assumption) (by assumption) (by assumption) (by assumption) (by assumption)⟩
  k_with_none

end

section
local macro_rules | `(tactic| walk_at "no such key 0") => `(tactic| fail)
local macro_rules | `(tactic| walk_at "call ref") => `(tactic| ktr_call 58 (normal_ct ?m1 ?i1 ?f1))
set_option hygiene false in
local macro_rules | `(tactic| walk_at "binaryOp LShift int int") => `(tactic| (k_here; (with_reducible refine lshift_int_small ?kb1 ?kb2 ?kb3 ?_); (case kb1 => omega); (case kb2 => omega); (case kb3 => first | decide | omega | exact mem_small hB hB9 (by assumption) | exact getD_small hB hB8 hB9 _)))
theorem shift_right_ct {w : World} {loose : List Str} {mean : ExcName → Option Value} {mg mb : Str → Option Value} {l : Addr} {vs : List Value} {ns : List Int} {tn tb : Tok} {b x n : Int} {c : Nat} {news : List (Addr × Obj)}
    (hm : (l, listOf vs.toArray c) ∈ news) (hi : IntsAre vs ns) (hr : Rep b ns x) (hb : 3 ≤ b) (hb' : b ≤ 8) (hx : x < 4096) (hn : 0 ≤ n) (hn' : n < 12) :
    Calls w loose mean mg mb 2 93 [.ref l, .int n tn, .int b tb] news (OutL news fun ns' => Rep b ns' (x / 2 ^ n.toNat)) := by
  have hl : ns.length ≤ 100 := by have := hr.len hb hx; omega
  have e1 : 0 ≤ n.fdiv b := by rw [Int.fdiv_eq_ediv_of_nonneg _ (by omega)]; exact Int.ediv_nonneg hn (by omega)
  have e3 : n.fdiv b ≤ 1000 := by rw [Int.fdiv_eq_ediv_of_nonneg _ (by omega)]; exact Int.le_trans (Int.ediv_le_self _ hn) (by omega)
  have e2 : 0 ≤ n.fmod b ∧ n.fmod b < b := by rw [Int.fmod_eq_emod_of_nonneg _ (by omega)]; exact ⟨Int.emod_nonneg _ (by omega), Int.emod_lt_of_pos _ (by omega)⟩
  have hB := hr.inB
  have hB8 := base_ge hb
  have hB9 := base_le hb'
  ktn_end [(l, listOf vs.toArray c)]
  k_with "pyIter ref" => k_state (fun pre found => found.length = pre.length ∧ found = pre.map (srDig b (n.fmod b) ns)) "found"
  k_with "state" => exact ⟨rfl, rfl⟩
  k_with "state" => exact sr_turn hB e2 (by assumption) (by assumption) (u_in (by omega))
  k_with "state" => exact sr_turn hB e2 (by assumption) (by assumption) (u_out (by omega) (by assumption))
  k_steps
  ktn_open
  rename (IsNorm _ _) => hn9
  rename (_ = List.map _ _) => hm9
  rw [hm9] at hn9
  exact hn9.rep sr_inB (sr_end hr hb hn)
  k_with_none

end

section
theorem GsOk.nonneg {B u v q r : Int} {ns : List Int} (h : GsOk B u v ns q r) : 0 ≤ r := h.1
set_option hygiene false in
local macro_rules | `(tactic| walk_at "binaryOp LShift int int") => `(tactic| (k_here; (with_reducible refine lshift_int_small ?kb1 ?kb2 ?kb3 ?_); (case kb1 => omega); (case kb2 => omega); (case kb3 => first | decide | omega | exact getD_small hB hB8 hB9 _ | exact hz _ (GsOk.nonneg (by assumption)) (by assumption))))
theorem guessed_ct {w : World} {loose : List Str} {mean : ExcName → Option Value} {mg mb : Str → Option Value} {l : Addr} {vs : List Value} {ns : List Int} {tb t1 t2 : Tok} {b u v : Int} {c : Nat} {news : List (Addr × Obj)}
    (hm : (l, listOf vs.toArray c) ∈ news) (hi : IntsAre vs ns) (hB : InB (2 ^ b.toNat) ns) (hl : ns.length = 3) (hb : 3 ≤ b) (hb' : b ≤ 8) (hu0 : 0 < u) (hu' : u < 2 ^ b.toNat) (hv : 0 ≤ v) (hv' : v < 2 ^ b.toNat)
    (hR : val (2 ^ b.toNat) ns < 2 ^ b.toNat * (u * 2 ^ b.toNat + v)) :
    Calls w loose mean mg mb 1 154 [.ref l, .int u t1, .int v t2, .int b tb] news (OutI news fun i => i = val (2 ^ b.toNat) ns / (u * 2 ^ b.toNat + v)) := by
  have hB8 := base_ge hb
  have hB9 := base_le hb'
  have hu1 : u ≠ 0 := by omega
  have hz : ∀ z : Int, 0 ≤ z → z < 1 * 2 ^ b.toNat → z.natAbs < 2 ^ 64 := by intro z h1 h2; omega
  ktn_end [(l, listOf vs.toArray c)]
  k_with "exec While BoolOp cons nil" => k_while (fun _ q r => GsOk (2 ^ b.toNat) u v ns q r) (fun _ q r => q.toNat) "limb" "rest"
  k_with "state" => exact gs_start hB hl hu0 hv hR (or_high (hB.getD (kbt_pos _) 1).1 (hB.getD (kbt_pos _) 1).2)
  k_with "state" => exact (gs_turn hB hl hu0 hv hR (by assumption) (by assumption)).1
  k_with "measure" => exact (gs_turn hB hl hu0 hv hR (by assumption) (by assumption)).2
  k_steps
  · ktn_step
    exact gs_end hB hl hu0 hv hv' (by assumption) (.inr (by assumption))
  · ktn_step
    exact gs_end hB hl hu0 hv hv' (by assumption) (.inl (by assumption))
  k_with_none

end

section
local macro_rules | `(tactic| walk_at "no such key 0") => `(tactic| fail)
local macro_rules | `(tactic| walk_at "call ref") => `(tactic| ktr_call 79 (divrem_limb_ct ?m1 ?i1 ?f1 ?f2 ?f3 ?f4 ?f5 ?f6))
theorem divrem_small_ct {w : World} {loose : List Str} {mean : ExcName → Option Value} {mg mb : Str → Option Value} {l l2 : Addr} {vs : List Value} {ns : List Int} {tb ty : Tok} {b x y : Int} {c c2 : Nat} {news : List (Addr × Obj)}
    (hm : (l, listOf vs.toArray c) ∈ news) (hi : IntsAre vs ns) (hm2 : (l2, listOf [Value.int y ty].toArray c2) ∈ news) (hr : Rep b ns x) (hb : 3 ≤ b) (hb' : b ≤ 8) (hx : x < 4096) (hy : 0 < y) (hy' : y < 256) (hyb : y < 2 ^ b.toNat) :
    Calls w loose mean mg mb 3 147 [.ref l, .ref l2, .int b tb] news (OutTL news fun ns2 => Rep b ns2 (x % y)) := by
  ktn_end [(l, listOf vs.toArray c), (l2, listOf [Value.int y ty].toArray c2)]
  k_steps
  · tb_rel
    rename (_ = x % _) => h9
    have h8 := Int.emod_lt_of_pos x hy
    have h7 : _ = x % y := h9
    rw [← h7]
    exact Rep.single (by assumption) (by omega)
  · tb_rel
    rename (_ = x % _) => h9
    have h8 := Int.emod_nonneg x (show y ≠ 0 by omega)
    have h7 : _ = x % y := h9
    have h6 : x % y = 0 := by omega
    rw [h6]
    exact Rep.nil

end

section
section
variable {prog : Program} {w : World} {A : Around} {E : Value → Shared → Prop} {Q : Flow → Shared → Prop} {s : Shared} {env : Env} {h₀ : Heap} {L : Addr}
/-- a while that turns one int and one list of ints -/
theorem while_il {test : PySem.Expr} {body : List Stmt} {pos : Pos} {m₀ : Str → Option Value} {a : Addr} {rest : List (Addr × Obj)} {i₀ : Int} {t₀ : Tok} {vs₀ : List Value} {ns₀ : List Int} {c₀ : Nat} (nm : Str) (P : Int → List Int → Prop) (μ : Int → List Int → Nat)
    (F : Fr h₀ L s.heap m₀) (N : News h₀ L s.heap ((a, listOf vs₀.toArray c₀) :: rest)) (hi : IntsAre vs₀ ns₀) (hk : m₀ nm = some (.int i₀ t₀)) (hp : P i₀ ns₀)
    (turn : ∀ (i : Int) (t : Tok) (vs : List Value) (ns : List Int) (c : Nat) (u : Str → Option Value) h tk, IntsAre vs ns → P i ns → Fr h₀ L h (fun z => if z = nm then some (.int i t) else if ([] : List Str).contains z then u z else m₀ z) → News h₀ L h ((a, listOf vs.toArray c) :: rest) →
      wpAny (model prog w) A (isTrue test env (eval test env)) (fun b s₂ =>
        if b = true then wpAny (model prog w) A (execs body env) (KswPost (σ := Int × Tok × List Value × List Int × Nat) h₀ L s (fun c => (a, listOf c.2.2.1.toArray c.2.2.2.2) :: rest) (fun c => [(nm, .int c.1 c.2.1)]) (fun c => IntsAre c.2.2.1 c.2.2.2.1) [] m₀ (fun c => P c.1 c.2.2.2.1) (fun c => μ c.1 c.2.2.2.1) Q (i, t, vs, ns, c)) E s₂ else Q .next s₂) E { s with heap := h, toks := tk })
    (hE : PassesOwn (model prog w) A env E := by passes_own) :
    wpAny (model prog w) A (exec (.While test body [] pos) env) Q E s :=
  ksw_while (σ := Int × Tok × List Value × List Int × Nat) (fun c => (a, listOf c.2.2.1.toArray c.2.2.2.2) :: rest) (fun c => [(nm, .int c.1 c.2.1)]) (fun c => IntsAre c.2.2.1 c.2.2.2.1) [] (fun c => P c.1 c.2.2.2.1) (fun c => μ c.1 c.2.2.2.1) (i₀, t₀, vs₀, ns₀, c₀)
    F N hi (fun p hp => by rw [List.mem_singleton.mp hp]; exact hk) hp (fun c u h tk hf hp' F' N' => turn c.1 c.2.1 c.2.2.1 c.2.2.2.1 c.2.2.2.2 u h tk hf hp' F' N') hE
end
theorem limbs_ct {w : World} {loose : List Str} {mean : ExcName → Option Value} {mg mb : Str → Option Value} {tb t : Tok} {b x : Int} {news : List (Addr × Obj)}
    (hb : 3 ≤ b) (hb' : b ≤ 8) (hx : 0 ≤ x) (hx' : x < 4096) :
    Calls w loose mean mg mb 1 196 [.int x t, .int b tb] news (OutL news fun ns => Rep b ns x) := by
  have hB8 := base_ge hb
  have hB9 := base_le hb'
  ktn_end []
  k_with "exec While Compare cons nil" => ((rename Fr _ _ _ _ => lF'); (rename News _ _ _ _ => lN'); (with_unfolding_all refine' while_il (Str.ofString "number") (fun number found => 0 ≤ number ∧ number ≤ x ∧ InB (2 ^ b.toNat) found ∧ val (2 ^ b.toNat) found + (2 ^ b.toNat) ^ found.length * number = x ∧ (0 < number ∨ found = [] ∨ found.getD (found.length - 1) 0 ≠ 0) ∧ found.length ≤ 1000) (fun number _ => number.toNat) lF' lN' IntsAre.nil rfl (lb_start hx) ?_); clear lF' lN'; intro i9 t9 vs9 ns9 c9 u9 h9 tk9 hi9 kInv kFr kNews; obtain ⟨j1, j2, j3, j4, j5, j6⟩ := kInv; have kLen := hi9.length; try k_fold)
  k_with "state" => exact lb_turn hb hx' (by assumption) (by assumption) (by assumption) (by assumption)
  k_with "measure" => exact lb_less hb (by assumption)
  k_steps
  ktn_open
  exact lb_end (by assumption) (by assumption) (by assumption) (by assumption) (by assumption)
  k_with_none

end

section
local macro_rules | `(tactic| walk_at "no such key 0") => `(tactic| fail)
theorem updMem {d : Addr} {o : Obj} {l : List (Addr × Obj)} {g : Obj → List (Addr × Obj)} (U : UpdF d o l g) : (d, o) ∈ l := by
  obtain ⟨own, rest, e, _⟩ := U.split
  rw [e]; exact List.mem_append_right _ (.head _)
/-- one digit of a difference: X stays, c is carried -/
def Dig (M n p X c : Int) : Prop := 0 ≤ X ∧ X < M ∧ X = n - p + M * c
theorem dig_neg {M n p : Int} (hM : 0 < M) (hn : 0 ≤ n ∧ n < M) (h : n - p.fmod M < 0) : Dig M n p (n - p.fmod M + M) (p.fdiv M + 1) := by
  rw [fmod_pos hM] at *
  rw [fdiv_pos hM]
  have h1 := Int.emod_nonneg p (show M ≠ 0 by omega)
  have h2 := Int.emod_lt_of_pos p hM
  have h3 := Int.emod_add_mul_ediv p M
  refine ⟨by omega, by omega, ?_⟩
  rw [Int.mul_add, Int.mul_one]; omega
theorem dig_pos {M n p : Int} (hM : 0 < M) (hn : 0 ≤ n ∧ n < M) (h : ¬ n - p.fmod M < 0) : Dig M n p (n - p.fmod M) (p.fdiv M + 0) := by
  rw [fmod_pos hM] at *
  rw [fdiv_pos hM]
  have h1 := Int.emod_nonneg p (show M ≠ 0 by omega)
  have h3 := Int.emod_add_mul_ediv p M
  refine ⟨by omega, by omega, ?_⟩
  rw [Int.add_zero]; omega
theorem dig_of {M n p X x : Int} (hM : 0 < M) (hn : 0 ≤ n ∧ n < M) (h1 : IfIs (n - p.fmod M < 0) 1 0 x) (h2 : IfIs (n - p.fmod M < 0) (n - p.fmod M + M) (n - p.fmod M) X) : Dig M n p X (p.fdiv M + x) := by
  unfold IfIs at h1 h2
  by_cases h : n - p.fmod M < 0
  · rw [h1, h2, if_pos h, if_pos h]; exact dig_neg hM hn h
  · rw [h1, h2, if_neg h, if_neg h]; exact dig_pos hM hn h
theorem dig_two {M n0 n1 n2 q b0 b1 X0 X1 c1 c2 : Int} (hM : 0 < M) (D0 : Dig M n0 (q * b0 + 0) X0 c1) (D1 : Dig M n1 (q * b1 + c1) X1 c2) (hb0 : b0 < M) (hb1 : b1 < M)
    (hW0 : q * (b0 + M * b1) ≤ n0 + M * (n1 + M * n2)) (hW1 : n0 + M * (n1 + M * n2) - q * (b0 + M * b1) < b0 + M * b1) :
    n2 - c2 = 0 ∧ X0 + M * X1 = n0 + M * (n1 + M * n2) - q * (b0 + M * b1) := by
  obtain ⟨a1, a2, a3⟩ := D0
  obtain ⟨d1, d2, d3⟩ := D1
  have e1 : X0 + M * X1 + M * (M * (n2 - c2)) = n0 + M * (n1 + M * n2) - q * (b0 + M * b1) := by
    rw [a3, d3]
    simp only [Int.mul_add, Int.mul_sub]
    rw [Int.mul_left_comm q M b1]
    omega
  have h1 := mul_le' (Int.le_of_lt hM) (show X1 + 1 ≤ M by omega)
  rw [Int.mul_add, Int.mul_one] at h1
  have h2 := mul_le' (Int.le_of_lt hM) (show b1 + 1 ≤ M by omega)
  rw [Int.mul_add, Int.mul_one] at h2
  have h3 := Int.mul_nonneg (Int.le_of_lt hM) d1
  have hMM : 0 < M * M := Int.mul_pos hM hM
  have e2 : M * (M * (n2 - c2)) = M * M * (n2 - c2) := (Int.mul_assoc _ _ _).symm
  have h4 : n2 - c2 = 0 := by
    rw [e2] at e1
    by_cases hlt : n2 - c2 ≤ -1
    · have := mul_le' (Int.le_of_lt hMM) hlt
      omega
    · by_cases hgt : 1 ≤ n2 - c2
      · have := mul_le' (Int.le_of_lt hMM) hgt
        omega
      · omega
  rw [h4, Int.mul_zero, Int.mul_zero, Int.add_zero] at e1
  exact ⟨h4, e1⟩
/-- what stands in the rest behind take_away -/
def TaOk (B q b0 b1 k : Int) (ns ns' : List Int) : Prop := ∃ r0 r1, ns' = ((ns.set (k + 0).toNat r0).set (k + 1).toNat r1).set (k + 2).toNat 0 ∧ 0 ≤ r0 ∧ r0 < B ∧ 0 ≤ r1 ∧ r1 < B ∧
  r0 + B * r1 = ns.getD (k + 0).toNat 0 + B * (ns.getD (k + 1).toNat 0 + B * ns.getD (k + 2).toNat 0) - q * (b0 + B * b1)
section
variable {B q b0 b1 k X0 X1 c1 c2 : Int} {ns : List Int}
theorem ta_fin0 (hM : 0 < B) (hb0 : b0 < B) (hb1 : b1 < B) (hW0 : q * (b0 + B * b1) ≤ ns.getD (k + 0).toNat 0 + B * (ns.getD (k + 1).toNat 0 + B * ns.getD (k + 2).toNat 0)) (hW1 : ns.getD (k + 0).toNat 0 + B * (ns.getD (k + 1).toNat 0 + B * ns.getD (k + 2).toNat 0) - q * (b0 + B * b1) < b0 + B * b1)
    (D0 : Dig (1 * B) (ns.getD (k + 0).toNat 0) (q * b0 + 0) X0 c1) (D1 : Dig (1 * B) (ns.getD (k + 1).toNat 0) (q * b1 + c1) X1 c2) :
    (0 : Int) = 0 ∧ TaOk B q b0 b1 k ns (((ns.set (k + 0).toNat X0).set (k + 1).toNat X1).set (k + 2).toNat (ns.getD (k + 2).toNat 0 - c2)) := by
  rw [Int.one_mul] at D0 D1
  obtain ⟨h1, h2⟩ := dig_two hM D0 D1 hb0 hb1 hW0 hW1
  exact ⟨rfl, X0, X1, by rw [h1], D0.1, D0.2.1, D1.1, D1.2.1, h2⟩
theorem ta_fin {i X2 : Int} (hM : 0 < B) (hb0 : b0 < B) (hb1 : b1 < B) (hW0 : q * (b0 + B * b1) ≤ ns.getD (k + 0).toNat 0 + B * (ns.getD (k + 1).toNat 0 + B * ns.getD (k + 2).toNat 0)) (hW1 : ns.getD (k + 0).toNat 0 + B * (ns.getD (k + 1).toNat 0 + B * ns.getD (k + 2).toNat 0) - q * (b0 + B * b1) < b0 + B * b1)
    (D0 : Dig (1 * B) (ns.getD (k + 0).toNat 0) (q * b0 + 0) X0 c1) (D1 : Dig (1 * B) (ns.getD (k + 1).toNat 0) (q * b1 + c1) X1 c2)
    (hX : IfIs (ns.getD (k + 2).toNat 0 - c2 < 0) (ns.getD (k + 2).toNat 0 - c2 + 1 * B) (ns.getD (k + 2).toNat 0 - c2) X2) (hi : IfIs (ns.getD (k + 2).toNat 0 - c2 < 0) 1 0 i) :
    i = 0 ∧ TaOk B q b0 b1 k ns (((ns.set (k + 0).toNat X0).set (k + 1).toNat X1).set (k + 2).toNat X2) := by
  obtain ⟨h3, h4⟩ := ta_fin0 hM hb0 hb1 hW0 hW1 D0 D1
  rw [Int.one_mul] at D0 D1
  obtain ⟨h1, h2⟩ := dig_two hM D0 D1 hb0 hb1 hW0 hW1
  have hn : ¬ ns.getD (k + 2).toNat 0 - c2 < 0 := by omega
  unfold IfIs at hi hX
  rw [if_neg hn] at hi hX
  subst hX
  exact ⟨hi, h4⟩
end
theorem gset {xs : List Int} {i j : Nat} {X : Int} (h : i ≠ j) : (xs.set i X).getD j 0 = xs.getD j 0 := by
  rw [List.getD_eq_getElem?_getD, List.getElem?_set_ne h, ← List.getD_eq_getElem?_getD]
local macro_rules | `(tactic| walk_at "eval IfExp") => `(tactic| ktu_objs)
theorem take_away_ct {w : World} {loose : List Str} {mean : ExcName → Option Value} {mg mb : Str → Option Value} {lr lb : Addr} {vr : List Value} {ns : List Int} {t0 t1 tq ta tb : Tok} {b b0 b1 q k : Int} {c c2 : Nat} {news : List (Addr × Obj)} {g : Obj → List (Addr × Obj)}
    (U : UpdF lr (listOf vr.toArray c) news g) (hi : IntsAre vr ns) (hmb : (lb, listOf [Value.int b0 t0, Value.int b1 t1].toArray c2) ∈ news) (hne : @Ne Nat lb lr) (hB : InB (2 ^ b.toNat) ns) (h0 : 0 ≤ b0 ∧ b0 < 2 ^ b.toNat) (h1 : 0 ≤ b1 ∧ b1 < 2 ^ b.toNat) (hq : 0 ≤ q ∧ q < 2 ^ b.toNat) (hb : 3 ≤ b) (hb' : b ≤ 8)
    (hk0 : 0 ≤ k) (hl : k + 2 < (ns.length : Int)) (hl2 : ns.length ≤ 8)
    (hW0 : q * (b0 + 2 ^ b.toNat * b1) ≤ ns.getD (k + 0).toNat 0 + 2 ^ b.toNat * (ns.getD (k + 1).toNat 0 + 2 ^ b.toNat * ns.getD (k + 2).toNat 0)) (hW1 : ns.getD (k + 0).toNat 0 + 2 ^ b.toNat * (ns.getD (k + 1).toNat 0 + 2 ^ b.toNat * ns.getD (k + 2).toNat 0) - q * (b0 + 2 ^ b.toNat * b1) < b0 + 2 ^ b.toNat * b1) :
    Calls w loose mean mg mb 1 161 [.ref lr, .ref lb, .int q tq, .int k ta, .int b tb] news (OutM g fun i ns' => i = 0 ∧ TaOk (2 ^ b.toNat) q b0 b1 k ns ns') := by
  have hB8 := base_ge hb
  have hB9 := base_le hb'
  have hmr := updMem U
  have hBp := kbt_pos b.toNat
  have hM : 0 < 1 * (2 : Int) ^ b.toNat := by omega
  have hd0 : 0 ≤ ns.getD (k + 0).toNat 0 ∧ ns.getD (k + 0).toNat 0 < 1 * 2 ^ b.toNat := by have := hB.getD hBp (k + 0).toNat; omega
  have hd1 : 0 ≤ ns.getD (k + 1).toNat 0 ∧ ns.getD (k + 1).toNat 0 < 1 * 2 ^ b.toNat := by have := hB.getD hBp (k + 1).toNat; omega
  have s01 : ∀ X, (ns.set (k + 0).toNat X).getD (k + 1).toNat 0 = ns.getD (k + 1).toNat 0 := fun X => gset (by omega)
  have s02 : ∀ X, (ns.set (k + 0).toNat X).getD (k + 2).toNat 0 = ns.getD (k + 2).toNat 0 := fun X => gset (by omega)
  have s12 : ∀ (xs : List Int) X, (xs.set (k + 1).toNat X).getD (k + 2).toNat 0 = xs.getD (k + 2).toNat 0 := fun xs X => gset (by omega)
  ktn_end [(lr, listOf vr.toArray c), (lb, listOf [Value.int b0 t0, Value.int b1 t1].toArray c2)]
  k_steps
  ktu_off
  simp only [s01, s02, s12] at *
  exact ta_fin hBp h0.2 h1.2 hW0 hW1 (dig_of hM hd0 (by assumption) (by assumption)) (dig_of hM hd1 (by assumption) (by assumption)) (by assumption) (by assumption)

end

section
inductive OutR (l2 : Addr) (g : Obj → List (Addr × Obj)) (P : Int → Int → Prop) : Value → List (Addr × Obj) → Prop where
  | mk (i k : Int) (t tk : Tok) (c : Nat) (p : P i k) : OutR l2 g P (.int i t) (g (listOf [Value.int k tk, Value.ref l2].toArray c))
theorem spun_ct {w : World} {loose : List Str} {mean : ExcName → Option Value} {mg mb : Str → Option Value} {lr l2 : Addr} {vs : List Value} {ns : List Int} {tk tm : Tok} {k many : Int} {c c2 : Nat} {news : List (Addr × Obj)} {g : Obj → List (Addr × Obj)}
    (U : UpdF lr (listOf [Value.int k tk, Value.ref l2].toArray c) news g) (hi : IntsAre vs ns) (hm2 : (l2, listOf vs.toArray c2) ∈ news) (hne : @Ne Nat l2 lr) (hk0 : 0 ≤ k) (hk4 : k ≤ 10) (hl : ns.length ≤ 4) (hm0 : 0 < many) (hm1 : many ≤ 40) :
    Calls w loose mean mg mb 1 189 [.ref lr, .int many tm] news (OutR l2 g fun i k' => 0 ≤ i ∧ i < many ∧ k' = k + 1) := by
  have hmr := updMem U
  have hm9 : many ≠ 0 := by omega
  ktn_end [(lr, listOf [Value.int k tk, Value.ref l2].toArray c), (l2, listOf vs.toArray c2)]
  k_steps
  all_goals (
    refine hret _ _ _ _ (by assumption) (Kept.upd (by assumption) N hV U (by assumption) (by k_memK) (by kst_allIn)) (.mk _ _ _ _ _ ?_)
    exact ⟨fmod_lo _ hm0, fmod_hi _ hm0, rfl⟩)

section
variable {w : World} {loose : List Str} {mean : ExcName → Option Value} {mg mb : Str → Option Value} {dep : Nat} {f : Addr} {args : List Value} {news : List (Addr × Obj)}
    {dp un : Nat} {gd : Option (List Code)} {cn : Str} {cs : Scope} {a : Addr} {ccd : Value} {cl : List (Str × Addr)} {outer : List Env} {A₀ : Around} {base h₀ : Heap} {L : Addr} {m : Str → Option Value} {s : Shared} {Q E : Value → Shared → Prop}
theorem useR {g : Obj → List (Addr × Obj)} {l2 : Addr} {P : Int → Int → Prop} (B : Below A₀ base outer h₀) (F : Fr h₀ L s.heap m) (X : (hd.heap_39 w.params).In h₀) (N : News h₀ L s.heap news) (T : Top hd.view_39 loose mean mg mb h₀) (hk : cs.kind = .function)
    (C : Calls w loose mean mg mb dep f args news (OutR l2 g P)) (hd : dp + dep < recursionLimit) (hu : un + 8 * dep < cLine)
    (ret : ∀ i k t tk c h' tk', Fr h₀ L h' m → News h₀ L h' (g (listOf [Value.int k tk, Value.ref l2].toArray c)) → P i k → Q (.int i t) { s with heap := h', toks := tk' }) :
    wpAny (model PySem.Challenge.rw_xm0385_01.row.prog w) (ktrTop dp un gd cn cs L a ccd cl outer) (call (.ref f) args) Q E s :=
  C.use B F X N T hk hd hu fun r new h' tk' F' N' O => by cases O with | mk i k t tk c p => exact ret i k t tk c h' tk' F' N' p
end

end

section
local macro_rules | `(tactic| walk_at "no such key 0") => `(tactic| fail)
section
variable {prog : Program} {w : World} {A : Around} {E : Value → Shared → Prop} {s : Shared} {h₀ : Heap} {L : Addr} {m : Str → Option Value} {news : List (Addr × Obj)}
/-- set of a list of ints that the call has made -/
theorem set_of_list {l : Addr} {vs : List Value} {ns : List Int} {c : Nat} {Q : Value → Shared → Prop} (hh : A.handled = none) (F : Fr h₀ L s.heap m) (N : News h₀ L s.heap news) (hm : (l, listOf vs.toArray c) ∈ news) (hi : IntsAre vs ns) (hb : ns.length + 1 < scanBound)
    (h : ∀ D h' (tk : Nat) o, Fr h₀ L h' m → News h₀ L h' ((D, o) :: news) → (∀ p ∈ news, p.1 < D) →
      o.SetObjOf (intKind prog w) (fun k' => (firstMet (fun i => ns.getD i 0) ns.length).any (· == k')) (firstMet (fun i => ns.getD i 0) ns.length).length → (firstMet (fun i => ns.getD i 0) ns.length).length ≤ 4096 →
      Q (.ref D) { s with heap := h', toks := tk }) :
    wpAny (model prog w) A (call (.type "set") [.ref l]) Q E s := by
  have hl : s.heap.IsList l vs.toArray := News.isList N hm
  have hvn : vs.length = ns.length := IntsAre.length hi
  have hsz : vs.toArray.size = ns.length := by rw [List.size_toArray, hvn]
  refine PySem.call_set_list (items := vs.toArray) (ns := ns) hh hl (by simpa using hi) (by rw [hsz]; exact hb) fun h' tk hS hk => ?_
  rw [hsz] at hS
  obtain ⟨o, ho, hso⟩ := hS.objOf
  obtain ⟨oL, _, _, hL, _⟩ := F.ns
  have hLlt : L < s.heap.objs.size := Heap.lt_size hL
  refine h _ h' tk o ⟨F.ns.at' fun o' e => hk L o' hLlt e, fun b o' e => hk b o' (Heap.lt_size (F.keep b o' e)) (F.keep b o' e), F.above⟩ (fun p hp => ?_) (fun p hp => Heap.lt_size (N p hp).1) hso
    (by have := firstMet_length_le (fun i => ns.getD i 0) ns.length; unfold scanBound at hb; omega)
  rcases List.mem_cons.mp hp with rfl | hp
  · refine ⟨ho, Nat.ne_of_gt hLlt, ?_⟩
    cases hq : h₀.get? s.heap.objs.size with
    | none => rfl
    | some o' => exact absurd (Heap.lt_size (F.keep _ _ hq)) (Nat.lt_irrefl _)
  · exact ⟨hk _ _ (Heap.lt_size (N p hp).1) (N p hp).1, (N p hp).2⟩
end
local macro_rules | `(tactic| walk_at "call type:set cons nil") => `(tactic| (k_here; k_dflt (refine' set_of_list ?A ?F ?N ?M ?I ?B ?_; (case A => exact rfl); (case F => k_asm); (case N => k_asm); (case M => k_memK); (case I => l_ints); (case B => (simp only [rangeKs_length, List.length_map]; unfold scanBound; omega))); intro d9 h9 tk9 o9 F9 N9 l9 s9 z9; (try k_lt l9)))
/-- the rests of a number's multiples -/
def rowL (x n : Int) : List Int := (rangeKs 0 (n - 0).toNat).map fun k' => (x * k').fmod n
/-- one round from here to at -/
def runC (row : List Int) (at' : Int) : Nat → Int → Int → List Int → Int × List Int
  | 0, _, sign, met => (sign, met)
  | f + 1, here, sign, met => if here = at' then (sign, met) else runC row at' f (row.getD here.toNat 0) (0 - sign) (met ++ [here])
/-- how many steps the round has -/
def cntC (row : List Int) (at' : Int) : Nat → Int → Nat
  | 0, _ => 0
  | f + 1, here => if here = at' then 0 else 1 + cntC row at' f (row.getD here.toNat 0)
theorem cntC_more {row : List Int} {a : Int} : ∀ {f : Nat} {h : Int}, cntC row a f h < f → cntC row a (f + 1) h = cntC row a f h
  | 0, _, h => absurd h (Nat.not_lt_zero _)
  | f + 1, h, hl => by
    by_cases e : h = a
    · simp [cntC, e]
    · have e1 : cntC row a (f + 1) h = 1 + cntC row a f (row.getD h.toNat 0) := by simp only [cntC, if_neg e]
      have e2 : cntC row a (f + 1 + 1) h = 1 + cntC row a (f + 1) (row.getD h.toNat 0) := by rw [cntC, if_neg e]
      rw [e1] at hl
      rw [e1, e2, cntC_more (by omega)]
theorem runC_more {row : List Int} {a : Int} : ∀ {f : Nat} {h s : Int} {m : List Int}, cntC row a f h < f → runC row a (f + 1) h s m = runC row a f h s m
  | 0, _, _, _, h => absurd h (Nat.not_lt_zero _)
  | f + 1, h, s, m, hl => by
    by_cases e : h = a
    · simp [runC, e]
    · have e1 : cntC row a (f + 1) h = 1 + cntC row a f (row.getD h.toNat 0) := by simp only [cntC, if_neg e]
      rw [e1] at hl
      have e2 : runC row a (f + 1 + 1) h s m = runC row a (f + 1) (row.getD h.toNat 0) (0 - s) (m ++ [h]) := by rw [runC, if_neg e]
      have e3 : runC row a (f + 1) h s m = runC row a f (row.getD h.toNat 0) (0 - s) (m ++ [h]) := by rw [runC, if_neg e]
      rw [e2, e3, runC_more (by omega)]
/-- what holds within a round -/
def InC (x n a s0 : Int) (m0 : List Int) (h s : Int) (m : List Int) : Prop :=
  cntC (rowL x n) a 17 h ≤ 16 ∧ runC (rowL x n) a 17 h s m = runC (rowL x n) a 17 ((rowL x n).getD a.toNat 0) s0 m0 ∧ 0 ≤ h ∧ h < n ∧ m.length + cntC (rowL x n) a 17 h ≤ m0.length + 16 ∧ m0.length ≤ 256
theorem rowL_len {x n : Int} : (rowL x n).length = (n - 0).toNat := by rw [rowL, List.length_map, rangeKs_length]
theorem rowL_bound {x n : Int} (hn : 0 < n) (i : Nat) : 0 ≤ (rowL x n).getD i 0 ∧ (rowL x n).getD i 0 < n := by
  rw [List.getD_eq_getElem?_getD]
  cases e : (rowL x n)[i]? with
  | none => exact ⟨Int.le_refl _, hn⟩
  | some v =>
    obtain ⟨k, _, rfl⟩ := List.mem_map.mp (List.mem_of_getElem? e)
    exact ⟨fmod_lo _ hn, fmod_hi _ hn⟩
theorem inC_step {x n a h : Int} (e : h ≠ a) (h1 : cntC (rowL x n) a 17 h ≤ 16) : cntC (rowL x n) a 17 h = 1 + cntC (rowL x n) a 17 ((rowL x n).getD h.toNat 0) ∧ cntC (rowL x n) a 16 ((rowL x n).getD h.toNat 0) < 16 := by
  have e1 : cntC (rowL x n) a (16 + 1) h = 1 + cntC (rowL x n) a 16 ((rowL x n).getD h.toNat 0) := by rw [cntC, if_neg e]
  have e2 : cntC (rowL x n) a 16 ((rowL x n).getD h.toNat 0) < 16 := by
    have : cntC (rowL x n) a 17 h = cntC (rowL x n) a (16 + 1) h := rfl
    omega
  exact ⟨by rw [cntC_more e2]; exact e1, e2⟩
theorem inC_turn {x n a s0 h s : Int} {m0 m : List Int} (hn : 0 < n) (e : h ≠ a) (I : InC x n a s0 m0 h s m) : InC x n a s0 m0 ((rowL x n).getD h.toNat 0) (0 - s) (m ++ [h]) := by
  obtain ⟨h1, h2, h3, h4, h5, h6⟩ := I
  obtain ⟨e1, e2⟩ := inC_step e h1
  have hb := rowL_bound (x := x) hn h.toNat
  have e3 : runC (rowL x n) a (16 + 1) h s m = runC (rowL x n) a 16 ((rowL x n).getD h.toNat 0) (0 - s) (m ++ [h]) := by rw [runC, if_neg e]
  refine ⟨by omega, ?_, hb.1, hb.2, by simp only [List.length_append, List.length_cons, List.length_nil]; omega, h6⟩
  rw [← h2]
  exact (runC_more e2).trans e3.symm
theorem inC_less {x n a s0 h s : Int} {m0 m : List Int} (e : h ≠ a) (I : InC x n a s0 m0 h s m) : cntC (rowL x n) a 17 ((rowL x n).getD h.toNat 0) < cntC (rowL x n) a 17 h := by
  have := (inC_step e I.1).1
  omega
theorem inC_end {x n a s0 h s : Int} {m0 m : List Int} (e : h = a) (I : InC x n a s0 m0 h s m) : (s, m) = runC (rowL x n) a 17 ((rowL x n).getD a.toNat 0) s0 m0 := by
  rw [← I.2.1, e]
  show (s, m) = runC (rowL x n) a (16 + 1) a s m
  rw [runC, if_pos rfl]
def turnC (row : List Int) (st : Int × List Int) (a : Int) : Int × List Int := if st.2.any (fun x => x == a) then st else runC row a 17 (row.getD a.toNat 0) st.1 st.2
def distinct (x n : Int) : Prop := ¬ (((firstMet (fun i => (rowL x n).getD i 0) (rowL x n).length).length : Nat) : Int) < n
/-- what holds between the turns -/
def OutC (x n : Int) (pre met : List Int) (s : Int) : Prop := distinct x n ∧ (s, met) = pre.foldl (turnC (rowL x n)) (1, []) ∧ met.length ≤ 16 * pre.length ∧ pre.length ≤ 16
/-- the sign, counted by the rounds -/
def signF (x n : Int) : Int := if (((firstMet (fun i => (rowL x n).getD i 0) (rowL x n).length).length : Nat) : Int) < n then 0 else ((rangeKs 0 (n - 0).toNat).foldl (turnC (rowL x n)) (1, [])).1
def roundsOk (r n : Nat) : Bool := decide ((firstMet (fun i => (rowL r n).getD i 0) (rowL r n).length).length < n) || (List.range n).all fun a => decide (cntC (rowL r n) a 17 ((rowL r n).getD a 0) ≤ 16)
theorem rounds_all : ((List.range 17).all fun n => (List.range n).all fun r => roundsOk r n) = true := by decide +kernel
theorem rowL_rest {x n : Int} (hn : 0 < n) : rowL x n = rowL (x % n) n := by
  unfold rowL
  apply List.map_congr_left
  intro k _
  rw [Int.fmod_eq_emod_of_nonneg _ (Int.le_of_lt hn), Int.fmod_eq_emod_of_nonneg _ (Int.le_of_lt hn), Int.mul_emod x k n, Int.mul_emod (x % n) k n, Int.emod_emod]
theorem rounds {x n a : Int} (hn : 3 ≤ n) (hn' : n ≤ 16) (hd : distinct x n) (h0 : 0 ≤ a) (h1 : a < n) : cntC (rowL x n) a 17 ((rowL x n).getD a.toNat 0) ≤ 16 := by
  unfold distinct at hd
  rw [rowL_rest (by omega)] at hd ⊢
  have h := List.all_eq_true.mp rounds_all n.toNat (List.mem_range.mpr (by omega))
  have hr0 := Int.emod_nonneg x (show n ≠ 0 by omega)
  have hr1 := Int.emod_lt_of_pos x (show 0 < n by omega)
  have h := List.all_eq_true.mp h (x % n).toNat (List.mem_range.mpr (by omega))
  unfold roundsOk at h
  have e1 : (((x % n).toNat : Nat) : Int) = x % n := by omega
  have e2 : ((n.toNat : Nat) : Int) = n := by omega
  rw [e1, e2] at h
  rcases Bool.or_eq_true_iff.mp h with h | h
  · exact absurd (by have := of_decide_eq_true h; omega) hd
  · have h := List.all_eq_true.mp h a.toNat (List.mem_range.mpr (by omega))
    have e3 : ((a.toNat : Nat) : Int) = a := by omega
    rw [e3] at h
    exact of_decide_eq_true h
theorem inC_start {x n a s : Int} {m pre : List Int} (hn : 3 ≤ n) (hn' : n ≤ 16) (hd : distinct x n) (ha : a = 0 + pre.length) (hl : pre.length < (n - 0).toNat) (hm : m.length ≤ 256) : InC x n a s m ((rowL x n).getD a.toNat 0) s m := by
  have hc := rounds hn hn' hd (a := a) (by omega) (by omega)
  have hb := rowL_bound (x := x) (show 0 < n by omega) a.toNat
  exact ⟨hc, rfl, hb.1, hb.2, by omega, hm⟩
theorem rowL_get {x n a : Int} (h0 : 0 ≤ a) (h1 : a < n) : (x * (0 + a)).fmod n = (rowL x n).getD a.toNat 0 := by
  have e : (rowL x n)[a.toNat]? = some ((x * (0 + a)).fmod n) := by
    have e2 : ((a.toNat : Nat) : Int) = a := by omega
    have e1 : (rangeKs 0 (n - 0).toNat)[a.toNat]? = some (0 + ((a.toNat : Nat) : Int)) := by
      simp only [rangeKs, List.getElem?_map]
      rw [List.getElem?_range (by omega)]
      rfl
    rw [rowL, List.getElem?_map, e1, e2]
    rfl
  rw [List.getD_eq_getElem?_getD, e]; rfl
theorem inC_startV {x n a s s1 : Int} {m pre : List Int} (hn : 3 ≤ n) (hn' : n ≤ 16) (O : OutC x n pre m s1) (ha : a = 0 + pre.length) (hl : pre.length < (n - 0).toNat) : InC x n a s m ((x * (0 + a)).fmod n) s m ∧ m.length ≤ 300 ∧ 0 ≤ (x * (0 + a)).fmod n ∧ (x * (0 + a)).fmod n < n := by
  have h1 := O.2.2.1
  have h2 := O.2.2.2
  rw [rowL_get (by omega) (by omega)]
  have h3 := inC_start hn hn' O.1 ha hl (show m.length ≤ 256 by omega) (s := s)
  exact ⟨h3, by omega, h3.2.2.1, h3.2.2.2.1⟩
theorem inC_turnV {x n a s0 h s : Int} {m0 m : List Int} (hn : 0 < n) (e : h ≠ a) (I : InC x n a s0 m0 h s m) : InC x n a s0 m0 ((x * (0 + h)).fmod n) (0 - s) (m ++ [h]) ∧ (m ++ [h]).length ≤ 300 ∧ 0 ≤ (x * (0 + h)).fmod n ∧ (x * (0 + h)).fmod n < n := by
  rw [rowL_get I.2.2.1 I.2.2.2.1]
  have := inC_turn hn e I
  refine ⟨this, ?_, this.2.2.1, this.2.2.2.1⟩
  have h1 := this.2.2.2.2.1
  have h2 := this.2.2.2.2.2
  omega
theorem inC_lessV {x n a s0 h s : Int} {m0 m : List Int} (e : h ≠ a) (I : InC x n a s0 m0 h s m) : cntC (rowL x n) a 17 ((x * (0 + h)).fmod n) < cntC (rowL x n) a 17 h := by
  rw [rowL_get I.2.2.1 I.2.2.2.1]; exact inC_less e I
theorem outC_start {x n : Int} (hd : ¬ (((firstMet (fun i => (List.map (fun k' => (x * k').fmod n) (rangeKs 0 (n - 0).toNat)).getD i 0) (List.map (fun k' => (x * k').fmod n) (rangeKs 0 (n - 0).toNat)).length).length : Nat) : Int) < n) : OutC x n [] [] 1 ∧ ([] : List Int).length ≤ 300 := ⟨⟨hd, rfl, Nat.le_refl _, by simp⟩, by simp⟩
theorem outC_skip {x n a s : Int} {pre met : List Int} (hn' : n ≤ 16) (O : OutC x n pre met s) (hl : pre.length < (n - 0).toNat) (h : (met.any fun x => x == a) = true) : OutC x n (pre ++ [a]) met s ∧ met.length ≤ 300 := by
  have h1 := O.2.2.1
  have h2 := O.2.2.2
  refine ⟨⟨O.1, ?_, by simp only [List.length_append, List.length_cons, List.length_nil]; omega, by simp only [List.length_append, List.length_cons, List.length_nil]; omega⟩, by omega⟩
  rw [List.foldl_append, ← O.2.1]
  simp only [List.foldl_cons, List.foldl_nil, turnC, h, if_true]
theorem outC_turn {x n a s h s' : Int} {pre met met' : List Int} (hn' : n ≤ 16) (O : OutC x n pre met s) (hl : pre.length < (n - 0).toNat) (hm : (met.any fun x => x == a) = false) (e : h = a) (I : InC x n a s met h s' met') : OutC x n (pre ++ [a]) met' s' ∧ met'.length ≤ 300 := by
  have h1 := O.2.2.1
  have h2 := O.2.2.2
  have h3 := I.2.2.2.2.1
  refine ⟨⟨O.1, ?_, by simp only [List.length_append, List.length_cons, List.length_nil]; omega, by simp only [List.length_append, List.length_cons, List.length_nil]; omega⟩, by omega⟩
  rw [List.foldl_append, ← O.2.1]
  simp only [List.foldl_cons, List.foldl_nil, turnC, hm]
  exact inC_end e I
theorem signF_zero {x n : Int} (hd : (((firstMet (fun i => (List.map (fun k' => (x * k').fmod n) (rangeKs 0 (n - 0).toNat)).getD i 0) (List.map (fun k' => (x * k').fmod n) (rangeKs 0 (n - 0).toNat)).length).length : Nat) : Int) < n) : 0 = signF x n := (if_pos hd).symm
theorem outC_end {x n s : Int} {met : List Int} (O : OutC x n (rangeKs 0 (n - 0).toNat) met s) : s = signF x n := by
  rw [signF, if_neg O.1, ← O.2.1]
theorem sign_ct {w : World} {loose : List Str} {mean : ExcName → Option Value} {mg mb : Str → Option Value} {tb t : Tok} {x n : Int} {news : List (Addr × Obj)}
    (hn : 3 ≤ n) (hn' : n ≤ 16) (hx : -1000 ≤ x) (hx' : x ≤ 1000) :
    Calls w loose mean mg mb 1 201 [.int x t, .int n tb] news (OutI news fun i => i = signF x n) := by
  ktn_end []
  k_with "pyIter ref" => k_state (fun pre met sign => OutC x n pre met sign ∧ met.length ≤ 300) "met" "sign"
  k_with "exec While Compare cons nil" => k_while_given ["at", "sign!", "met!"] (fun a s0 m0 _ here s m => InC x n a s0 m0 here s m ∧ m.length ≤ 300 ∧ 0 ≤ here ∧ here < n) (fun a _ _ _ here _ _ => cntC (rowL x n) a 17 here) "here" "sign" "met"
  k_with "state" => exact outC_start (by with_reducible assumption)
  k_with "state" => exact inC_startV hn hn' (by with_reducible assumption) (by with_reducible assumption) (by with_reducible assumption)
  k_with "state" => exact inC_turnV (by omega) (by with_reducible assumption) (by with_reducible assumption)
  k_with "state" => exact outC_turn hn' (by with_reducible assumption) (by with_reducible assumption) (by with_reducible assumption) (by with_reducible assumption) (by with_reducible assumption)
  k_with "state" => exact outC_skip hn' (by with_reducible assumption) (by with_reducible assumption) (by with_reducible assumption)
  k_with "measure" => exact inC_lessV (by with_reducible assumption) (by with_reducible assumption)
  k_steps
  · ktn_step
    exact signF_zero (by with_reducible assumption)
  · ktn_step
    rename OutC _ _ _ _ _ => O9
    exact outC_end O9
  k_with_none

end

section
local macro_rules | `(tactic| walk_at "no such key 0") => `(tactic| fail)
local macro_rules | `(tactic| walk_at "no such key 1") => `(tactic| fail)
local macro_rules | `(tactic| walk_at "no such key 2") => `(tactic| fail)
/-- what holds between the rows of a division -/
def DrOk (B D X : Int) (N : Nat) (pre rest : List Int) : Prop := InB B rest ∧ val B rest % D = X % D ∧ val B (rest.drop (N - 2 - pre.length)) < D
theorem three_at {rest : List Int} {j : Nat} (h : j + 2 < rest.length) : ∃ p n0 n1 n2 t, rest = p ++ n0 :: n1 :: n2 :: t ∧ p.length = j :=
  ⟨rest.take j, rest.getD j 0, rest.getD (j + 1) 0, rest.getD (j + 2) 0, rest.drop (j + 3), by
    conv => lhs; rw [← List.take_append_drop j rest]
    rw [drop_getD (by omega), drop_getD (by omega), drop_getD (by omega)], by rw [List.length_take]; omega⟩
theorem DrOk.inB {B D X : Int} {N : Nat} {pre rest : List Int} (O : DrOk B D X N pre rest) : InB B rest := O.1
section
variable {B D b0 b1 X k : Int} {N : Nat} {pre rest : List Int}
theorem dr_top (hB : 0 < B) (h0 : 0 ≤ b0 ∧ b0 < B) (h1 : 0 < b1 ∧ b1 < B) (hD : D = b0 + B * b1) {n1 n2 : Int} {t : List Int} (hi : InB B (n1 :: n2 :: t)) (hV : val B (n1 :: n2 :: t) < D) : val B t = 0 := by
  have ht := val_nonneg hB hi.tail.tail
  have a1 := hi.head
  have a2 := hi.tail.head
  simp only [val] at hV
  have h2 := mul_le' (Int.le_of_lt hB) (show b1 + 1 ≤ B by omega)
  rw [Int.mul_add, Int.mul_one] at h2
  refine Classical.byContradiction fun hn => ?_
  have h3 := mul_le' (Int.le_of_lt hB) (show 1 ≤ val B t by omega)
  have h4 := mul_le' (Int.le_of_lt hB) (show B ≤ n2 + B * val B t by omega)
  omega
theorem dr_win (hB : 0 < B) (h0 : 0 ≤ b0 ∧ b0 < B) (h1 : 0 < b1 ∧ b1 < B) (O : DrOk B (b0 + B * b1) X N pre rest) (hlen : rest.length = N) (hk : k = (N : Int) - 2 - 1 - pre.length) (hl : pre.length < ((N : Int) - 2 - 1 - -1).toNat) :
    InB B (List.take (min (k + 2 + 1).toNat rest.length - (k + 2 - 2).toNat) (List.drop (k + 2 - 2).toNat rest)) ∧ (List.take (min (k + 2 + 1).toNat rest.length - (k + 2 - 2).toNat) (List.drop (k + 2 - 2).toNat rest)).length = 3 ∧
    val B (List.take (min (k + 2 + 1).toNat rest.length - (k + 2 - 2).toNat) (List.drop (k + 2 - 2).toNat rest)) < B * (b1 * B + b0) ∧
    val B (List.take (min (k + 2 + 1).toNat rest.length - (k + 2 - 2).toNat) (List.drop (k + 2 - 2).toNat rest)) = rest.getD (k + 0).toNat 0 + B * (rest.getD (k + 1).toNat 0 + B * rest.getD (k + 2).toNat 0) ∧ 0 ≤ k ∧ k + 2 < rest.length := by
  obtain ⟨p, n0, n1, n2, t, e, hp⟩ := three_at (rest := rest) (j := k.toNat) (by omega)
  obtain ⟨o1, o2, o3⟩ := O
  have e1 : (k + 2 - 2).toNat = k.toNat := by omega
  have e2 : min (k + 2 + 1).toNat rest.length - k.toNat = 3 := by omega
  rw [e1, e2]
  have e3 : N - 2 - pre.length = k.toNat + 1 := by omega
  rw [e3] at o3
  have hk0 : (k + 0).toNat = p.length := by omega
  have hk1 : (k + 1).toNat = p.length + 1 := by omega
  have hk2 : (k + 2).toNat = p.length + 2 := by omega
  rw [hk0, hk1, hk2, ← hp]
  rw [← hp] at o3
  have hlt : k + 2 < rest.length := by omega
  have hk3 : 0 ≤ k := by omega
  subst e
  have d0 : (p ++ n0 :: n1 :: n2 :: t).drop p.length = n0 :: n1 :: n2 :: t := by simp
  have d1 : (p ++ n0 :: n1 :: n2 :: t).drop (p.length + 1) = n1 :: n2 :: t := by rw [← List.drop_drop, d0]; rfl
  have g0 : (p ++ n0 :: n1 :: n2 :: t).getD p.length 0 = n0 := by simp [List.getD_eq_getElem?_getD]
  have g1 : (p ++ n0 :: n1 :: n2 :: t).getD (p.length + 1) 0 = n1 := by simp [List.getD_eq_getElem?_getD, List.getElem?_append_right]
  have g2 : (p ++ n0 :: n1 :: n2 :: t).getD (p.length + 2) 0 = n2 := by simp [List.getD_eq_getElem?_getD, List.getElem?_append_right]
  rw [d1] at o3
  rw [d0, g0, g1, g2]
  have hi : InB B (n0 :: n1 :: n2 :: t) := fun l hl => o1 l (List.mem_append_right _ hl)
  have ht := dr_top hB h0 h1 rfl hi.tail o3
  have hn0 := hi.head
  simp only [val, ht] at o3
  refine ⟨fun l hl => hi l (List.mem_of_mem_take hl), rfl, ?_, ?_, hk3, hlt⟩
  · show n0 + B * (n1 + B * (n2 + B * 0)) < _
    have := mul_le' (Int.le_of_lt hB) (show n1 + B * (n2 + B * 0) + 1 ≤ b1 * B + b0 by rw [Int.mul_comm b1 B]; omega)
    rw [Int.mul_add _ _ 1, Int.mul_one] at this
    omega
  · show n0 + B * (n1 + B * (n2 + B * 0)) = _
    rw [Int.mul_zero, Int.add_zero]
theorem dr_start {ns : List Int} {m : Int} (hi : InB B ns) (hN : 2 ≤ ns.length) (hm : m = (ns.length : Int) - 2) (hT : val B (ns.drop (ns.length - 2)) < D) : ns.length = ns.length ∧ (List.replicate m.toNat [(0 : Int)]).flatten.length = ns.length - 2 ∧ DrOk B D (val B ns) ns.length [] ns := by
  refine ⟨rfl, ?_, hi, rfl, by simpa using hT⟩
  simp; omega
theorem dr_turn {q : Int} {rest' quo : List Int} {v : Int} (hB : 0 < B) (h0 : 0 ≤ b0 ∧ b0 < B) (h1 : 0 < b1 ∧ b1 < B) (O : DrOk B (b0 + B * b1) X N pre rest) (hlen : rest.length = N) (hk : k = (N : Int) - 2 - 1 - pre.length) (hl : pre.length < ((N : Int) - 2 - 1 - -1).toNat)
    (hq : q * (b0 + B * b1) ≤ rest.getD (k + 0).toNat 0 + B * (rest.getD (k + 1).toNat 0 + B * rest.getD (k + 2).toNat 0)) (hq1 : rest.getD (k + 0).toNat 0 + B * (rest.getD (k + 1).toNat 0 + B * rest.getD (k + 2).toNat 0) - q * (b0 + B * b1) < b0 + B * b1)
    (T : TaOk B q b0 b1 k rest rest') (hquo : quo.length = N - 2) : rest'.length = N ∧ (quo.set k.toNat v).length = N - 2 ∧ DrOk B (b0 + B * b1) X N (pre ++ [k]) rest' := by
  obtain ⟨p, n0, n1, n2, t, e, hp⟩ := three_at (rest := rest) (j := k.toNat) (by omega)
  obtain ⟨o1, o2, o3⟩ := O
  obtain ⟨r0, r1, t1, t2, t3, t4, t5, t6⟩ := T
  have e3 : N - 2 - pre.length = k.toNat + 1 := by omega
  rw [e3] at o3
  have e4 : N - 2 - (pre ++ [k]).length = k.toNat := by simp only [List.length_append, List.length_cons, List.length_nil]; omega
  have hk0 : (k + 0).toNat = p.length := by omega
  have hk1 : (k + 1).toNat = p.length + 1 := by omega
  have hk2 : (k + 2).toNat = p.length + 2 := by omega
  rw [hk0, hk1, hk2] at t6 t1 hq hq1
  rw [← hp] at o3 e4
  subst e
  have d0 : (p ++ n0 :: n1 :: n2 :: t).drop p.length = n0 :: n1 :: n2 :: t := by simp
  have d1 : (p ++ n0 :: n1 :: n2 :: t).drop (p.length + 1) = n1 :: n2 :: t := by rw [← List.drop_drop, d0]; rfl
  have g0 : (p ++ n0 :: n1 :: n2 :: t).getD p.length 0 = n0 := by simp [List.getD_eq_getElem?_getD]
  have g1 : (p ++ n0 :: n1 :: n2 :: t).getD (p.length + 1) 0 = n1 := by simp [List.getD_eq_getElem?_getD, List.getElem?_append_right]
  have g2 : (p ++ n0 :: n1 :: n2 :: t).getD (p.length + 2) 0 = n2 := by simp [List.getD_eq_getElem?_getD, List.getElem?_append_right]
  rw [g0, g1, g2] at t6 hq hq1
  rw [d1] at o3
  have hi : InB B (n0 :: n1 :: n2 :: t) := fun l hl => o1 l (List.mem_append_right _ hl)
  have ht := dr_top hB h0 h1 rfl hi.tail o3
  have e5 : ((((p ++ n0 :: n1 :: n2 :: t).set p.length r0).set (p.length + 1) r1).set (p.length + 2) 0) = p ++ r0 :: r1 :: 0 :: t := by
    simp [List.set_append_right]
  rw [e5] at t1
  subst t1
  have hv : val B (r0 :: r1 :: 0 :: t) = r0 + B * r1 := by simp only [val, ht, Int.mul_zero, Int.add_zero, Int.zero_add]
  have hv0 : val B (n0 :: n1 :: n2 :: t) = n0 + B * (n1 + B * n2) := by simp only [val, ht, Int.mul_zero, Int.add_zero]
  refine ⟨by simpa using hlen, by rw [List.length_set]; exact hquo, ?_, ?_, ?_⟩
  · intro l hl
    rcases List.mem_append.mp hl with hl | hl
    · exact o1 l (List.mem_append_left _ hl)
    · rcases List.mem_cons.mp hl with rfl | hl
      · exact ⟨t2, t3⟩
      · rcases List.mem_cons.mp hl with rfl | hl
        · exact ⟨t4, t5⟩
        · rcases List.mem_cons.mp hl with rfl | hl
          · exact ⟨Int.le_refl _, hB⟩
          · exact o1 l (List.mem_append_right _ (.tail _ (.tail _ (.tail _ hl))))
  · rw [← o2, val_append, val_append, hv, hv0, t6]
    generalize n0 + B * (n1 + B * n2) = W
    have : val B p + B ^ p.length * W = val B p + B ^ p.length * (W - q * (b0 + B * b1)) + (b0 + B * b1) * (B ^ p.length * q) := by
      rw [Int.mul_sub, Int.mul_comm (b0 + B * b1) (B ^ p.length * q), Int.mul_assoc]; omega
    rw [this, Int.add_mul_emod_self_left]
  · rw [e4]
    have d2 : (p ++ r0 :: r1 :: 0 :: t).drop p.length = r0 :: r1 :: 0 :: t := by simp
    rw [d2, hv, t6]; omega
theorem dr_end {m : Int} (hB : 0 < B) (h0 : 0 ≤ b0 ∧ b0 < B) (h1 : 0 < b1 ∧ b1 < B) (hm : m = (N : Int) - 2 - 1 - -1) (O : DrOk B (b0 + B * b1) X N (downKs ((N : Int) - 2 - 1) m.toNat) rest) : val B rest = X % (b0 + B * b1) := by
  obtain ⟨o1, o2, o3⟩ := O
  rw [downKs_length] at o3
  have e : N - 2 - m.toNat = 0 := by omega
  rw [e, List.drop_zero] at o3
  rw [← o2, Int.emod_eq_of_lt (val_nonneg hB o1) o3]
/-- the guess is the quotient -/
theorem dr_quot {W : Int} (hB : 0 < B) (h0 : 0 ≤ b0 ∧ b0 < B) (h1 : 0 < b1 ∧ b1 < B) (hW0 : 0 ≤ W) (hW : W < B * (b1 * B + b0)) :
    (0 ≤ W / (b1 * B + b0) ∧ W / (b1 * B + b0) < B) ∧ W / (b1 * B + b0) * (b0 + B * b1) ≤ W ∧ W - W / (b1 * B + b0) * (b0 + B * b1) < b0 + B * b1 := by
  have hD : 0 < b1 * B + b0 := by have := Int.mul_pos h1.1 hB; omega
  have e : b0 + B * b1 = b1 * B + b0 := by rw [Int.mul_comm]; omega
  rw [e]
  have a1 := Int.emod_add_mul_ediv W (b1 * B + b0)
  have a2 := Int.emod_nonneg W (show b1 * B + b0 ≠ 0 by omega)
  have a3 := Int.emod_lt_of_pos W hD
  rw [Int.mul_comm (b1 * B + b0)] at a1
  exact ⟨⟨Int.ediv_nonneg hW0 (Int.le_of_lt hD), Int.ediv_lt_of_lt_mul hD hW⟩, by omega, by omega⟩
end
set_option hygiene false in
local macro_rules | `(tactic| walk_at "call ref") => `(tactic| ((with_reducible show wpAny _ _ (call (Value.ref 154) _) _ _ _); (have hw9 := dr_win hBp h0 h1 (by assumption) (by assumption) (by assumption) (by assumption)); (have hw8 := dr_quot hBp h0 h1 (val_nonneg hBp hw9.1) hw9.2.2.1); ktr_call 154 (guessed_ct ?m1 ?i1 hw9.1 hw9.2.1 hb hb' h1.1 h1.2 h0.1 h0.2 hw9.2.2.1)))
theorem dr_sub {V E q D : Int} (e : V = E) (h : V - q < D) : E - q < D := e ▸ h
set_option hygiene false in
local macro_rules | `(tactic| walk_at "call ref") => `(tactic| ((with_reducible show wpAny _ _ (call (Value.ref 161) _) _ _ _); (have hw6 := Int.le_trans hw8.2.1 (Int.le_of_eq hw9.2.2.2.1)); (have hw5 := dr_sub hw9.2.2.2.1 hw8.2.2); ktr_call 161 (take_away_ct ?u1 ?i1 ?m1 hne (by first | exact DrOk.inB (by assumption)) h0 ⟨Int.le_of_lt h1.1, h1.2⟩ hw8.1 hb hb' hw9.2.2.2.2.1 hw9.2.2.2.2.2 ?f1 hw6 hw5)))
theorem divide_rows_ct {w : World} {loose : List Str} {mean : ExcName → Option Value} {mg mb : Str → Option Value} {lr lb : Addr} {vr : List Value} {ns : List Int} {t0 t1 tb : Tok} {b b0 b1 : Int} {c c2 : Nat} {news : List (Addr × Obj)} {g : Obj → List (Addr × Obj)}
    (U : UpdF lr (listOf vr.toArray c) news g) (hi : IntsAre vr ns) (hmb : (lb, listOf [Value.int b0 t0, Value.int b1 t1].toArray c2) ∈ news) (hne : @Ne Nat lb lr) (hB : InB (2 ^ b.toNat) ns) (h0 : 0 ≤ b0 ∧ b0 < 2 ^ b.toNat) (h1 : 0 < b1 ∧ b1 < 2 ^ b.toNat) (hb : 3 ≤ b) (hb' : b ≤ 8)
    (hl : 2 ≤ ns.length) (hl2 : ns.length ≤ 8) (hT : val (2 ^ b.toNat) (ns.drop (ns.length - 2)) < b0 + 2 ^ b.toNat * b1) :
    Calls w loose mean mg mb 2 175 [.ref lr, .ref lb, .int b tb] news (OutML g fun nq ns' => nq.length ≤ 8 ∧ ns'.length = ns.length ∧ InB (2 ^ b.toNat) ns' ∧ val (2 ^ b.toNat) ns' = val (2 ^ b.toNat) ns % (b0 + 2 ^ b.toNat * b1)) := by
  have hB8 := base_ge hb
  have hB9 := base_le hb'
  have hBp := kbt_pos b.toNat
  have hmr := updMem U
  ktn_end [(lr, listOf vr.toArray c), (lb, listOf [Value.int b0 t0, Value.int b1 t1].toArray c2)]
  k_with "pyIter ref" => k_state (fun pre rest quotient => rest.length = ns.length ∧ quotient.length = ns.length - 2 ∧ DrOk (2 ^ b.toNat) (b0 + 2 ^ b.toNat * b1) (val (2 ^ b.toNat) ns) ns.length pre rest) "rest" "quotient"
  k_with "state" => exact dr_start hB hl rfl hT
  k_with "state" => exact dr_turn hBp h0 h1 (by assumption) (by assumption) (by assumption) (by assumption) hw6 hw5 (by assumption) (by assumption)
  k_steps
  refine hret _ _ _ _ (by assumption) (Kept.updCons (by assumption) N hV U (by assumption) (by k_memK) (by k_memK) (by kst_allIn)) (.mk _ _ _ _ _ _ _ (by l_ints) (by l_ints) ?_)
  exact ⟨by omega, by assumption, DrOk.inB (by assumption), dr_end hBp h0 ⟨h1.1, h1.2⟩ rfl (by assumption)⟩
  k_with_none
theorem two_ints {vs : List Value} {ns : List Int} (h : IntsAre vs ns) (hl : ns.length = 2) : ∃ a b t u, vs = [Value.int a t, Value.int b u] ∧ ns = [a, b] := by
  cases h with
  | nil => cases hl
  | @cons a t _ _ h =>
    cases h with
    | nil => cases hl
    | @cons b u _ _ h =>
      cases h with
      | nil => exact ⟨a, b, t, u, rfl, rfl⟩
      | cons _ _ h => simp at hl
theorem divide_rows_ctL {w : World} {loose : List Str} {mean : ExcName → Option Value} {mg mb : Str → Option Value} {lr lb : Addr} {vr vb : List Value} {ns nb : List Int} {tb : Tok} {b : Int} {c c2 : Nat} {news : List (Addr × Obj)} {g : Obj → List (Addr × Obj)}
    (U : UpdF lr (listOf vr.toArray c) news g) (hi : IntsAre vr ns) (hmb : (lb, listOf vb.toArray c2) ∈ news) (hib : IntsAre vb nb) (hne : @Ne Nat lb lr) (hB : InB (2 ^ b.toNat) ns) (hBb : InB (2 ^ b.toNat) nb) (hlb : nb.length = 2) (h1 : 0 < nb.getD 1 0) (hb : 3 ≤ b) (hb' : b ≤ 8)
    (hl : 2 ≤ ns.length) (hl2 : ns.length ≤ 8) (hT : val (2 ^ b.toNat) (ns.drop (ns.length - 2)) < val (2 ^ b.toNat) nb) :
    Calls w loose mean mg mb 2 175 [.ref lr, .ref lb, .int b tb] news (OutML g fun nq ns' => nq.length ≤ 8 ∧ ns'.length = ns.length ∧ InB (2 ^ b.toNat) ns' ∧ val (2 ^ b.toNat) ns' = val (2 ^ b.toNat) ns % val (2 ^ b.toNat) nb) := by
  obtain ⟨b0, b1, t0, t1, rfl, rfl⟩ := two_ints hib hlb
  have e : val (2 ^ b.toNat) [b0, b1] = b0 + 2 ^ b.toNat * b1 := by simp only [val, Int.mul_zero, Int.add_zero]
  rw [e] at hT ⊢
  exact divide_rows_ct U hi hmb hne hB hBb.head ⟨h1, hBb.tail.head.2⟩ hb hb' hl hl2 hT

end

section
local macro_rules | `(tactic| walk_at "call ref") => `(tactic| ktr_call 58 (normal_ct ?m1 ?i1 ?f1))
local macro_rules | `(tactic| walk_at "call ref") => `(tactic| ktr_call 72 (compare_ct ?m1 ?i1 ?m2 ?i2 ?f1 ?f2 ?f3 ?f4 ?f5))
local macro_rules | `(tactic| walk_at "call ref") => `(tactic| ktr_call 147 (divrem_small_ct ?m1 ?i1 ?m2 ?f1 ?f2 ?f3 ?f4 ?f5 ?f6 ?f7))
theorem divrem_lt_ct {w : World} {loose : List Str} {mean : ExcName → Option Value} {mg mb : Str → Option Value} {l l2 : Addr} {vs vs2 : List Value} {ns ns2 : List Int} {tb : Tok} {b x y : Int} {c c2 : Nat} {news : List (Addr × Obj)}
    (hm : (l, listOf vs.toArray c) ∈ news) (hi : IntsAre vs ns) (hm2 : (l2, listOf vs2.toArray c2) ∈ news) (hi2 : IntsAre vs2 ns2) (hr : Rep b ns x) (hr2 : Rep b ns2 y) (hb : 3 ≤ b) (hb' : b ≤ 8) (hx : x < 1000) (hy : y < 1000) (hy0 : 0 < y) (hxy : x < y) :
    Calls w loose mean mg mb 4 182 [.ref l, .ref l2, .int b tb] news (OutTL news fun ns2 => Rep b ns2 (x % y)) := by
  have hl := hr.len hb (by omega)
  have hl2 := hr2.len hb (by omega)
  have hz2 := hr2.zero
  ktn_end [(l, listOf vs.toArray c), (l2, listOf vs2.toArray c2)]
  k_steps
  · exfalso; omega
  · tb_rel
    rw [Int.emod_eq_of_lt hr.nonneg hxy]
    exact hr
theorem divrem_one_ct {w : World} {loose : List Str} {mean : ExcName → Option Value} {mg mb : Str → Option Value} {l l2 : Addr} {vs : List Value} {ns : List Int} {tb ty : Tok} {b x y : Int} {c c2 : Nat} {news : List (Addr × Obj)}
    (hm : (l, listOf vs.toArray c) ∈ news) (hi : IntsAre vs ns) (hm2 : (l2, listOf [Value.int y ty].toArray c2) ∈ news) (hr : Rep b ns x) (hb : 3 ≤ b) (hb' : b ≤ 8) (hx : x < 1000) (hy : y < 1000) (hy0 : 0 < y) (hyb : y < 2 ^ b.toNat) (hxy : ¬ x < y) :
    Calls w loose mean mg mb 4 182 [.ref l, .ref l2, .int b tb] news (OutTL news fun ns2 => Rep b ns2 (x % y)) := by
  have hl := hr.len hb (by omega)
  have hB9 := base_le hb'
  have hr2 := Rep.single hy0 hyb
  ktn_end [(l, listOf vs.toArray c), (l2, listOf [Value.int y ty].toArray c2)]
  k_steps
  tb_rel
  assumption

end

section
theorem rep_two {nd : List Int} {v : Int} (h : Rep 3 nd v) (h8 : 8 ≤ v) (h64 : v < 64) : nd.length = 2 ∧ 0 < nd.getD 1 0 := by
  have hz := h.zero
  have hp := kbt_pos (3 : Int).toNat
  have e8 : (2 : Int) ^ (3 : Int).toNat = 8 := by decide
  have hlt := val_lt hp h.inB
  rw [h.val, e8] at hlt
  have hge := h.ge (by omega)
  rw [e8] at hge
  have h2 : nd.length = 2 := by
    refine Classical.byContradiction fun hn => ?_
    by_cases h1 : nd.length = 1
    · rw [h1] at hlt
      have : (8 : Int) ^ 1 = 8 := by decide
      omega
    · have h3 : (8 : Int) ^ 2 ≤ 8 ^ (nd.length - 1) := pow_mono (by decide) (by omega)
      have : (8 : Int) ^ 2 = 64 := by decide
      omega
  refine ⟨h2, ?_⟩
  have ht := h.top (by omega)
  rw [h2] at ht
  have hb := h.inB.getD hp 1
  have e1 : 2 - 1 = 1 := rfl
  rw [e1] at ht
  omega
theorem val_pad {B : Int} (xs : List Int) (n : Nat) : val B (xs ++ (List.replicate n [(0 : Int)]).flatten) = val B xs := by
  rw [val_append]
  have : val B (List.replicate n [(0 : Int)]).flatten = 0 := val_zero fun i => by
    rw [List.getD_eq_getElem?_getD]
    cases e : (List.replicate n [(0 : Int)]).flatten[i]? with
    | none => rfl
    | some v =>
      have := List.mem_of_getElem? e
      simp at this
      exact this.2
  rw [this, Int.mul_zero, Int.add_zero]
/-- what the division wants of the shifted rows -/
theorem sc_facts {ns nr nd : List Int} {x z : Int} (hr : Rep 3 ns x) (hx : x < 1000) (hz : 0 ≤ z) (hz' : z < 8) (hxy : ¬ x < z + 8) (pd : Rep 3 nd ((z + 8) * 2 ^ (3 - 1 : Int).toNat)) (pr : Rep 3 nr (x * 2 ^ (3 - 1 : Int).toNat)) (h1 : ns.length ≤ nr.length) (h2 : nr.length ≤ ns.length + 1) :
    InB (2 ^ (3 : Int).toNat) (nr ++ (List.replicate ((ns.length : Int) + 1 - nr.length).toNat [(0 : Int)]).flatten) ∧ InB (2 ^ (3 : Int).toNat) nd ∧ nd.length = 2 ∧ 0 < nd.getD 1 0 ∧
    2 ≤ (nr ++ (List.replicate ((ns.length : Int) + 1 - nr.length).toNat [(0 : Int)]).flatten).length ∧ (nr ++ (List.replicate ((ns.length : Int) + 1 - nr.length).toNat [(0 : Int)]).flatten).length ≤ 8 ∧
    val (2 ^ (3 : Int).toNat) ((nr ++ (List.replicate ((ns.length : Int) + 1 - nr.length).toNat [(0 : Int)]).flatten).drop ((nr ++ (List.replicate ((ns.length : Int) + 1 - nr.length).toNat [(0 : Int)]).flatten).length - 2)) < val (2 ^ (3 : Int).toNat) nd := by
  have e8 : (2 : Int) ^ (3 : Int).toNat = 8 := by decide
  have e4 : (2 : Int) ^ (3 - 1 : Int).toNat = 4 := by decide
  rw [e4] at pd pr
  have hp := kbt_pos (3 : Int).toNat
  have hl := hr.len (by decide) (by omega)
  have hz0 := hr.zero
  obtain ⟨d1, d2⟩ := rep_two pd (by omega) (by omega)
  have hlen : (nr ++ (List.replicate ((ns.length : Int) + 1 - nr.length).toNat [(0 : Int)]).flatten).length = ns.length + 1 := by
    simp; omega
  have hn2 : 2 ≤ ns.length := by
    refine Classical.byContradiction fun hn => ?_
    have h3 := val_lt hp hr.inB
    have h4 : (8 : Int) ^ ns.length ≤ 8 ^ 1 := pow_mono (by decide) (by omega)
    rw [hr.val, e8] at h3
    have : (8 : Int) ^ 1 = 8 := by decide
    omega
  have hI : InB (2 ^ (3 : Int).toNat) (nr ++ (List.replicate ((ns.length : Int) + 1 - nr.length).toNat [(0 : Int)]).flatten) := by
    intro l hl
    rcases List.mem_append.mp hl with hl | hl
    · exact pr.inB l hl
    · simp at hl
      rw [hl.2]; exact ⟨Int.le_refl _, hp⟩
  refine ⟨hI, pd.inB, d1, d2, by omega, by omega, ?_⟩
  rw [val_drop hp _ hI, val_pad, pr.val, pd.val, hlen]
  have h3 := val_lt hp hr.inB
  rw [hr.val] at h3
  have e1 : ns.length + 1 - 2 = ns.length - 1 := by omega
  rw [e1]
  have e2 : (2 ^ (3 : Int).toNat : Int) ^ ns.length = (2 ^ (3 : Int).toNat) ^ (ns.length - 1) * 8 := by
    conv => lhs; rw [show ns.length = ns.length - 1 + 1 by omega, Int.pow_succ]
    rw [e8]
  rw [e2] at h3
  have hP : 0 < (2 ^ (3 : Int).toNat : Int) ^ (ns.length - 1) := Int.pow_pos hp
  generalize (2 ^ (3 : Int).toNat : Int) ^ (ns.length - 1) = P at *
  have : x * 4 / P < 32 := Int.ediv_lt_of_lt_mul hP (by omega)
  omega
theorem nr_rep {ns ns' : List Int} {L : Nat} {X : Int} (h : IsNorm ns ns') (p : ns.length = L ∧ InB (2 ^ (3 : Int).toNat) ns ∧ val (2 ^ (3 : Int).toNat) ns = X) : Rep 3 ns' X := h.rep p.2.1 p.2.2
theorem nr_lt {nd : List Int} {z v : Int} (pd : Rep 3 nd ((z + 8) * 2 ^ (3 - 1 : Int).toNat)) (hz : 0 ≤ z) (hz' : z < 8) : v % val (2 ^ (3 : Int).toNat) nd < 4096 := by
  have e4 : (2 : Int) ^ (3 - 1 : Int).toNat = 4 := by decide
  rw [e4] at pd
  rw [pd.val]
  have := Int.emod_lt_of_pos v (show 0 < (z + 8) * 4 by omega)
  omega
theorem sc_end {nr nd nn : List Int} {x z : Int} {k : Nat} (pd : Rep 3 nd ((z + 8) * 2 ^ (3 - 1 : Int).toNat)) (pr : Rep 3 nr (x * 2 ^ (3 - 1 : Int).toNat)) (h : Rep 3 nn (val (2 ^ (3 : Int).toNat) (nr ++ (List.replicate k [(0 : Int)]).flatten) % val (2 ^ (3 : Int).toNat) nd / 2 ^ (3 - 1 : Int).toNat)) : Rep 3 nn (x % (z + 8)) := by
  have e4 : (2 : Int) ^ (3 - 1 : Int).toNat = 4 := by decide
  rw [val_pad, pr.val, pd.val, e4, Int.mul_comm x 4, Int.mul_comm (z + 8) 4, Int.mul_emod_mul_of_pos _ _ (by decide), Int.mul_comm, Int.mul_ediv_cancel _ (by decide)] at h
  exact h
local macro_rules | `(tactic| walk_at "call ref") => `(tactic| ktr_call 58 (normal_ct ?m1 ?i1 ?f1))
local macro_rules | `(tactic| walk_at "call ref") => `(tactic| ktr_call 72 (compare_ct ?m1 ?i1 ?m2 ?i2 ?f1 ?f2 ?f3 ?f4 ?f5))
local macro_rules | `(tactic| walk_at "call ref") => `(tactic| ktr_call 100 (bits1_ct ?m1 ?i1 (by rfl) ?f2 ?f3))
local macro_rules | `(tactic| walk_at "call ref") => `(tactic| ktr_call 86 (shift_left_ct ?m1 ?i1 ?f1 ?f2 ?f3 ?f4 ?f5 ?f6))
set_option hygiene false in
local macro_rules | `(tactic| walk_at "call ref") => `(tactic| ((with_reducible show wpAny _ _ (call (Value.ref 175) _) _ _ _); (have hs9 := sc_facts hr hx hz hz' hxy (by assumption) (by assumption) (by assumption) (by assumption)); ktr_call 175 (divide_rows_ctL ?u1 ?i1 ?m1 ?i2 (by k_ne) hs9.1 hs9.2.1 hs9.2.2.1 hs9.2.2.2.1 (by decide) (by decide) hs9.2.2.2.2.1 hs9.2.2.2.2.2.1 hs9.2.2.2.2.2.2)))
set_option hygiene false in
local macro_rules | `(tactic| walk_at "call ref") => `(tactic| ktr_call 93 (shift_right_ct ?m1 ?i1 (nr_rep (by assumption) (by assumption)) (by decide) (by decide) (nr_lt (by assumption) hz hz') ?f5 ?f6))
theorem divrem_two_ct {w : World} {loose : List Str} {mean : ExcName → Option Value} {mg mb : Str → Option Value} {l l2 : Addr} {vs : List Value} {ns : List Int} {tb ty tz : Tok} {x z : Int} {c c2 : Nat} {news : List (Addr × Obj)}
    (hm : (l, listOf vs.toArray c) ∈ news) (hi : IntsAre vs ns) (hm2 : (l2, listOf [Value.int z tz, Value.int 1 ty].toArray c2) ∈ news) (hr : Rep 3 ns x) (hx : x < 1000) (hz : 0 ≤ z) (hz' : z < 8) (hxy : ¬ x < z + 8) :
    Calls w loose mean mg mb 4 182 [.ref l, .ref l2, .int 3 tb] news (OutTL news fun ns2 => Rep 3 ns2 (x % (z + 8))) := by
  have hl := hr.len (by decide) (by omega)
  have hr2 : Rep 3 [z, 1] (z + 8) := by
    refine ⟨fun l hl => ?_, .inr (by show (1 : Int) ≠ 0; decide), ?_⟩
    · have e8 : (2 : Int) ^ (3 : Int).toNat = 8 := by decide
      rw [e8]
      simp at hl
      omega
    · show z + 8 * (1 + 8 * 0) = z + 8
      omega
  ktn_end [(l, listOf vs.toArray c), (l2, listOf [Value.int z tz, Value.int 1 ty].toArray c2)]
  k_steps
  tb_rel
  exact sc_end (by assumption) (by assumption) (by assumption)

end

section
theorem Rep.len1 {b y : Int} {ns : List Int} (h : Rep b ns y) (h0 : 0 < y) (hy : y < 2 ^ b.toNat) : ns.length = 1 := by
  have hz := h.zero
  refine Classical.byContradiction fun hn => ?_
  have h1 := h.ge (by omega)
  have h2 : (2 ^ b.toNat : Int) ^ 1 ≤ (2 ^ b.toNat) ^ (ns.length - 1) := pow_mono (by have := kbt_pos b.toNat; omega) (by omega)
  rw [Int.pow_succ, Int.pow_zero, Int.one_mul] at h2
  omega
theorem one_int {vs : List Value} {ns : List Int} (h : IntsAre vs ns) (hl : ns.length = 1) : ∃ a t, vs = [Value.int a t] ∧ ns = [a] := by
  cases h with
  | nil => cases hl
  | @cons a t _ _ h =>
    cases h with
    | nil => exact ⟨a, t, rfl, rfl⟩
    | cons _ _ h => simp at hl
theorem divrem_ct {w : World} {loose : List Str} {mean : ExcName → Option Value} {mg mb : Str → Option Value} {l l2 : Addr} {vs vs2 : List Value} {ns ns2 : List Int} {tb : Tok} {b x y : Int} {c c2 : Nat} {news : List (Addr × Obj)}
    (hm : (l, listOf vs.toArray c) ∈ news) (hi : IntsAre vs ns) (hm2 : (l2, listOf vs2.toArray c2) ∈ news) (hi2 : IntsAre vs2 ns2) (hr : Rep b ns x) (hr2 : Rep b ns2 y) (hb : 3 ≤ b) (hb' : b ≤ 8) (hx : x < 1000) (hy : y < 1000) (hy0 : 0 < y) (hxy : x < y ∨ y < 16) :
    Calls w loose mean mg mb 4 182 [.ref l, .ref l2, .int b tb] news (OutTL news fun ns2 => Rep b ns2 (x % y)) := by
  by_cases hlt : x < y
  · exact divrem_lt_ct hm hi hm2 hi2 hr hr2 hb hb' hx hy hy0 hlt
  · by_cases h1 : y < 2 ^ b.toNat
    · obtain ⟨a, t, rfl, rfl⟩ := one_int hi2 (hr2.len1 hy0 h1)
      have e : y = a := by have := hr2.val; simp only [val, Int.mul_zero, Int.add_zero] at this; exact this.symm
      subst e
      exact divrem_one_ct hm hi hm2 hr hb hb' hx hy hy0 h1 hlt
    · have hb3 : b = 3 := by
        refine Classical.byContradiction fun hn => ?_
        have : (2 : Int) ^ 4 ≤ 2 ^ b.toNat := pow_mono (by decide) (by omega)
        have e : (2 : Int) ^ 4 = 16 := by decide
        omega
      subst hb3
      have e8 : (2 : Int) ^ (3 : Int).toNat = 8 := by decide
      rw [e8] at h1
      obtain ⟨h2, h3⟩ := rep_two hr2 (by omega) (by omega)
      obtain ⟨z, o, tz, ty, rfl, rfl⟩ := two_ints hi2 h2
      have hv := hr2.val
      rw [e8] at hv
      simp only [val, Int.mul_zero, Int.add_zero] at hv
      have hz := hr2.inB.head
      have ho : 0 < o := h3
      have e1 : o = 1 := by omega
      subst e1
      have e2 : y = z + 8 := by omega
      subst e2
      exact divrem_two_ct hm hi hm2 hr hx hz.1 (by omega) hlt

end

section
local macro_rules | `(tactic| walk_at "no such key 0") => `(tactic| fail)
section
variable {prog : Program} {w : World} {A : Around} {E : Value → Shared → Prop} {Q : Flow → Shared → Prop} {s : Shared} {env : Env} {h₀ : Heap} {L : Addr}
/-- a while that turns an int and two names of lists -/
theorem while_ff {test : PySem.Expr} {body : List Stmt} {pos : Pos} {m₀ : Str → Option Value} {V : List (Addr × Obj)} {x₀ y₀ f₀ : Int} {t₀ : Tok} {la₀ ln₀ : Addr} {va₀ vn₀ : List Value} {na₀ nn₀ : List Int} {ca₀ cn₀ : Nat} {news : List (Addr × Obj)}
    (P : Int → Int → Int → List Int → List Int → Prop)
    (F : Fr h₀ L s.heap m₀) (N : News h₀ L s.heap news) (hma : (la₀, listOf va₀.toArray ca₀) ∈ news) (hmn : (ln₀, listOf vn₀.toArray cn₀) ∈ news) (hVn : ∀ q ∈ V, q ∈ news) (hia : IntsAre va₀ na₀) (hin : IntsAre vn₀ nn₀)
    (hkf : m₀ (Str.ofString "found") = some (.int f₀ t₀)) (hka : m₀ (Str.ofString "a") = some (.ref la₀)) (hkn : m₀ (Str.ofString "n") = some (.ref ln₀)) (hp : P x₀ y₀ f₀ na₀ nn₀)
    (turn : ∀ (x y f : Int) (t : Tok) (la : Addr) (va : List Value) (na : List Int) (ca : Nat) (ln : Addr) (vn : List Value) (nn : List Int) (cn : Nat) (u : Str → Option Value) h tk, IntsAre va na → IntsAre vn nn → P x y f na nn →
      Fr h₀ L h (fun z => if z = Str.ofString "found" then some (.int f t) else if z = Str.ofString "a" then some (.ref la) else if z = Str.ofString "n" then some (.ref ln) else if [Str.ofString "twos"].contains z then u z else m₀ z) → News h₀ L h ((la, listOf va.toArray ca) :: (ln, listOf vn.toArray cn) :: V) →
      wpAny (model prog w) A (isTrue test env (eval test env)) (fun b s₂ =>
        if b = true then wpAny (model prog w) A (execs body env) (KswPost (σ := Int × Int × Int × Tok × Addr × List Value × List Int × Nat × Addr × List Value × List Int × Nat) h₀ L s (fun c => (c.2.2.2.2.1, listOf c.2.2.2.2.2.1.toArray c.2.2.2.2.2.2.2.1) :: (c.2.2.2.2.2.2.2.2.1, listOf c.2.2.2.2.2.2.2.2.2.1.toArray c.2.2.2.2.2.2.2.2.2.2.2) :: V)
          (fun c => [(Str.ofString "found", .int c.2.2.1 c.2.2.2.1), (Str.ofString "a", .ref c.2.2.2.2.1), (Str.ofString "n", .ref c.2.2.2.2.2.2.2.2.1)]) (fun c => IntsAre c.2.2.2.2.2.1 c.2.2.2.2.2.2.1 ∧ IntsAre c.2.2.2.2.2.2.2.2.2.1 c.2.2.2.2.2.2.2.2.2.2.1) [Str.ofString "twos"] m₀
          (fun c => P c.1 c.2.1 c.2.2.1 c.2.2.2.2.2.2.1 c.2.2.2.2.2.2.2.2.2.2.1) (fun c => c.1.toNat) Q (x, y, f, t, la, va, na, ca, ln, vn, nn, cn)) E s₂ else Q .next s₂) E { s with heap := h, toks := tk })
    (hE : PassesOwn (model prog w) A env E := by passes_own) :
    wpAny (model prog w) A (exec (.While test body [] pos) env) Q E s :=
  ksw_while (σ := Int × Int × Int × Tok × Addr × List Value × List Int × Nat × Addr × List Value × List Int × Nat) (fun c => (c.2.2.2.2.1, listOf c.2.2.2.2.2.1.toArray c.2.2.2.2.2.2.2.1) :: (c.2.2.2.2.2.2.2.2.1, listOf c.2.2.2.2.2.2.2.2.2.1.toArray c.2.2.2.2.2.2.2.2.2.2.2) :: V)
    (fun c => [(Str.ofString "found", .int c.2.2.1 c.2.2.2.1), (Str.ofString "a", .ref c.2.2.2.2.1), (Str.ofString "n", .ref c.2.2.2.2.2.2.2.2.1)]) (fun c => IntsAre c.2.2.2.2.2.1 c.2.2.2.2.2.2.1 ∧ IntsAre c.2.2.2.2.2.2.2.2.2.1 c.2.2.2.2.2.2.2.2.2.2.1) [Str.ofString "twos"]
    (fun c => P c.1 c.2.1 c.2.2.1 c.2.2.2.2.2.2.1 c.2.2.2.2.2.2.2.2.2.2.1) (fun c => c.1.toNat) (x₀, y₀, f₀, t₀, la₀, va₀, na₀, ca₀, ln₀, vn₀, nn₀, cn₀)
    F (fun p hp => by
      rcases List.mem_cons.mp hp with rfl | hp
      · exact N _ hma
      · rcases List.mem_cons.mp hp with rfl | hp
        · exact N _ hmn
        · exact N _ (hVn p hp)) ⟨hia, hin⟩ (fun p hp => by
      rcases List.mem_cons.mp hp with rfl | hp
      · exact hkf
      · rcases List.mem_cons.mp hp with rfl | hp
        · exact hka
        · rw [List.mem_singleton.mp hp]; exact hkn) hp
    (fun c u h tk hf hp' F' N' => turn c.1 c.2.1 c.2.2.1 c.2.2.2.1 c.2.2.2.2.1 c.2.2.2.2.2.1 c.2.2.2.2.2.2.1 c.2.2.2.2.2.2.2.1 c.2.2.2.2.2.2.2.2.1 c.2.2.2.2.2.2.2.2.2.1 c.2.2.2.2.2.2.2.2.2.2.1 c.2.2.2.2.2.2.2.2.2.2.2 u h tk hf.1 hf.2 hp' F' N') hE
end
/-- how often two goes into a -/
def tz : Nat → Int → Int
  | 0, _ => 0
  | f + 1, a => if a % 2 = 0 then 1 + tz f (a / 2) else 0
theorem low_tz : ∀ (f i : Nat) (a : Int), Low a i → i < f → tz f a = i
  | 0, _, _, _, h => absurd h (Nat.not_lt_zero _)
  | f + 1, 0, a, hL, _ => by
    obtain ⟨q, e⟩ := hL
    have e1 : a = 2 * q + 1 := by simpa using e
    rw [tz, if_neg (by omega)]; rfl
  | f + 1, i + 1, a, hL, h => by
    obtain ⟨q, e⟩ := hL
    have e1 : a = 2 * (2 ^ i * (2 * q + 1)) := by
      rw [e]
      show 2 ^ (i + 1) * (2 * q + 1) = _
      rw [Int.pow_succ, Int.mul_comm (2 ^ i) 2, Int.mul_assoc]
    have e2 : a / 2 = 2 ^ i * (2 * q + 1) := by omega
    rw [tz, if_pos (by omega), low_tz f i (a / 2) ⟨q, by rw [e2]; rfl⟩ (by omega)]
    omega
def tsign (t n : Int) : Int := if t % 2 = 1 ∧ (n % 8 = 3 ∨ n % 8 = 5) then -1 else 1
/-- the symbol, as the program reckons it -/
def jac : Nat → Int → Int → Int → Int
  | 0, _, _, _ => 0
  | f + 1, found, a, n => if a = 0 then (if n = 1 then found else 0) else
    let a1 := a / 2 ^ (tz 12 a).toNat
    let f1 := found * tsign (tz 12 a) n
    jac f (if a1 % 4 = 3 ∧ n % 4 = 3 then -f1 else f1) (n % a1) a1
theorem low_odd {a i : Int} (h : Low a i) (hi : 0 ≤ i) (h0 : 0 < a) : 0 < a / 2 ^ i.toNat ∧ a / 2 ^ i.toNat ≤ a ∧ a / 2 ^ i.toNat % 2 = 1 := by
  obtain ⟨q, e⟩ := h
  have hp := kbt_pos i.toNat
  have e1 : a / 2 ^ i.toNat = 2 * q + 1 := by rw [e, Int.mul_comm, Int.mul_ediv_cancel _ (by omega)]
  have e2 := Int.ediv_le_self (2 ^ i.toNat) (Int.le_of_lt h0)
  have hq : 0 ≤ a / 2 ^ i.toNat := Int.ediv_nonneg (Int.le_of_lt h0) (Int.le_of_lt hp)
  omega
/-- what holds between the turns -/
def JP (b R : Int) (x y f : Int) (na nn : List Int) : Prop := Rep b na x ∧ Rep b nn y ∧ x < 16 ∧ 0 < y ∧ y < 1000 ∧ y % 2 = 1 ∧ -1 ≤ f ∧ f ≤ 1 ∧ ∃ k : Nat, x < (k : Int) ∧ jac k f x y = R
section
variable {b R x y f i : Int} {na nn : List Int}
theorem jp_start {x0 y0 : Int} (ha : Rep b na (x0 % y0)) (hn : Rep b nn y0) (h1 : x0 % y0 < 16) (h2 : 0 < y0) (h3 : y0 < 1000) (h4 : y0 % 2 = 1) : JP b (jac 17 1 (x0 % y0) y0) (x0 % y0) y0 1 na nn :=
  ⟨ha, hn, h1, h2, h3, h4, by decide, by decide, 17, by omega, rfl⟩
theorem jp_turn {f1 f2 : Int} {na' nn' : List Int} (J : JP b R x y f na nn) (hL : Low x i) (h0 : 0 < x) (hi : 0 ≤ i) (hi2 : i < 12) (hn' : Rep b nn' (x / 2 ^ i.toNat)) (ha' : Rep b na' (y % (x / 2 ^ i.toNat)))
    (e1 : f1 = f * tsign i y) (e2 : f2 = if x / 2 ^ i.toNat % 4 = 3 ∧ y % 4 = 3 then -f1 else f1) : JP b R (y % (x / 2 ^ i.toNat)) (x / 2 ^ i.toNat) f2 na' nn' := by
  obtain ⟨j1, j2, j3, j4, j5, j6, j7, j8, k, j9, j10⟩ := J
  obtain ⟨o1, o2, o3⟩ := low_odd hL hi h0
  have m1 := Int.emod_nonneg y (show x / 2 ^ i.toNat ≠ 0 by omega)
  have m2 := Int.emod_lt_of_pos y o1
  have et : tz 12 x = i := by
    have ei : ((i.toNat : Nat) : Int) = i := by omega
    have := low_tz 12 i.toNat x (by rw [ei]; exact hL) (by omega)
    rw [this, ei]
  have hf1 : -1 ≤ f1 ∧ f1 ≤ 1 := by
    rw [e1, tsign]
    split <;> omega
  refine ⟨ha', hn', by omega, o1, by omega, o3, ?_, ?_, ?_⟩
  · rw [e2]; split <;> omega
  · rw [e2]; split <;> omega
  · cases k with
    | zero => omega
    | succ k =>
      refine ⟨k, by omega, ?_⟩
      rw [jac, if_neg (by omega)] at j10
      simp only [et] at j10
      rw [e2, e1]
      exact j10
theorem jp_end (J : JP b R x y f na nn) (h : x = 0) : R = if y = 1 then f else 0 := by
  obtain ⟨j1, j2, j3, j4, j5, j6, j7, j8, k, j9, j10⟩ := J
  cases k with
  | zero => omega
  | succ k => rw [jac, if_pos h] at j10; exact j10.symm
end

local macro_rules | `(tactic| walk_at "call ref") => `(tactic| ktr_call 65 (is_odd_ct ?m1 ?i1 ?f1 ?f2 ?f3 ?f4))
local macro_rules | `(tactic| walk_at "call ref") => `(tactic| ktr_call 182 (divrem_ct ?m1 ?i1 ?m2 ?i2 ?f1 ?f2 ?f3 ?f4 ?f5 ?f6 ?f7 ?f8))
local macro_rules | `(tactic| walk_at "call ref") => `(tactic| ktr_call 72 (compare_ct ?m1 ?i1 ?m2 ?i2 ?f1 ?f2 ?f3 ?f4 ?f5))
local macro_rules | `(tactic| walk_at "call ref") => `(tactic| ktr_call 114 (trailing_ct ?m1 ?i1 ?f1 ?f2 ?f3 ?f4 ?f5 ?f6))
local macro_rules | `(tactic| walk_at "call ref") => `(tactic| ktr_call 93 (shift_right_ct ?m1 ?i1 ?f1 ?f2 ?f3 ?f4 ?f5 ?f6))
local macro_rules | `(tactic| walk_at "call ref") => `(tactic| ktr_call 126 (two_sign_ct ?m1 ?i1 ?f1 ?f2 ?f3 ?f4 ?f5 ?f6))
set_option hygiene false in
local macro_rules | `(tactic| walk_at "call ref") => `(tactic| ((have ho9 := low_odd (by assumption) (by assumption) (by omega)); ktr_call 119 (last2_ct ?m1 ?i1 ?f1 ?f2 ?f3 ?f4)))
theorem and_yes {p q : Prop} {dp : Decidable p} {dq : Decidable q} (h : (decide p && decide q) = true) : p ∧ q := by simpa using h
theorem and_no {p q : Prop} {dp : Decidable p} {dq : Decidable q} (h : (decide p && decide q) = false) : ¬ (p ∧ q) := fun ⟨a, b⟩ => by rw [decide_eq_true a, decide_eq_true b] at h; exact Bool.noConfusion h
theorem and_meetR {M : Model} {A : Around} {E : Value → Shared → Prop} {s : Shared} {env : Env} {h₀ : Heap} {L : Addr} {m : Str → Option Value} {V : List (Addr × Obj)} {e₁ e₂ : PySem.Expr} {pos : Pos} {whole : Sem Value} {b X Y : Int} {na nn : List Int} {Q : Bool → Shared → Prop}
    (_ : Rep b na X) (_ : Rep b nn Y) (F : Fr h₀ L s.heap m) (N : News h₀ L s.heap V)
    (h1 : wpAny M A (isTrue e₁ env (eval e₁ env)) (MeetF h₀ L m V (decide (X % 4 = 3)) s) E s)
    (h2 : ∀ h tk, Fr h₀ L h m → News h₀ L h V → wpAny M A (isTrue e₂ env (eval e₂ env)) (MeetF h₀ L m V (decide (Y % 4 = 3)) s) E { s with heap := h, toks := tk })
    (k : ∀ h tk, Fr h₀ L h m → News h₀ L h V → Q (decide (X % 4 = 3) && decide (Y % 4 = 3)) { s with heap := h, toks := tk }) :
    wpAny M A (isTrue (.BoolOp .And [e₁, e₂] pos) env whole) Q E s := and_meetF F N h1 h2 k
set_option hygiene false in
local macro_rules | `(tactic| walk_at "isTrue BoolOp") => `(tactic| ((rename Rep _ _ (x / _) => hR9); (have ho9 := low_odd (by assumption) (by assumption) (by omega)); k_here; k_dflt (refine' and_meetR hR9 j2 ?jF ?jN ?j1 ?j2 ?j3; (case jF => k_asm); (case jN => k_asm); (case j1 => (k_steps; exact MeetF.mk (by assumption) (by assumption))); (case j2 => (intro h9 tk9 F9 N9; (try dsimp only); k_steps; exact MeetF.mk (by assumption) (by assumption))); intro h9 tk9 F9 N9; (try dsimp only); (try k_fold))))
theorem jp_less {x y X : Int} (h0 : 0 < X) (h1 : X ≤ x) : (y % X).toNat < x.toNat := by
  have m1 := Int.emod_nonneg y (show X ≠ 0 by omega)
  have m2 := Int.emod_lt_of_pos y h0
  omega
set_option hygiene false in
local macro_rules | `(tactic| ktu_objs) => `(tactic| ((rename News _ _ _ _ => nE'); (refine' ksw_end ⟨_, _, _, _, _, _, _, _, _, _, _, _⟩ ?hF nE' ?hn ?hf ?hk ?hr ?hp ?hm); (case hF => assumption); (case hk => kst_all); (case hn => (try dsimp only); kst_in); (case hf => exact ⟨by assumption, by assumption⟩); (case hr => ksw_same); (case hp => kst_p); (case hm => exact jp_less ho9.1 ho9.2.1)))
theorem jacobi_ct {w : World} {loose : List Str} {mean : ExcName → Option Value} {mg mb : Str → Option Value} {l l2 : Addr} {vs vs2 : List Value} {ns ns2 : List Int} {tb : Tok} {b x0 y0 : Int} {c c2 : Nat} {news : List (Addr × Obj)}
    (hm : (l, listOf vs.toArray c) ∈ news) (hi : IntsAre vs ns) (hm2 : (l2, listOf vs2.toArray c2) ∈ news) (hi2 : IntsAre vs2 ns2) (hr : Rep b ns x0) (hr2 : Rep b ns2 y0) (hb : 3 ≤ b) (hb' : b ≤ 8) (hx : x0 < 1000) (hy : y0 < 1000) (hy0 : 0 < y0) (hxy : x0 < y0 ∨ y0 < 16) (ho : y0 % 2 = 1) (h16 : x0 % y0 < 16) :
    Calls w loose mean mg mb 5 133 [.ref l, .ref l2, .int b tb, .ref 182] news (OutI news fun i => -1 ≤ i ∧ i ≤ 1 ∧ i = jac 17 1 (x0 % y0) y0) := by
  ktn_end [(l, listOf vs.toArray c), (l2, listOf vs2.toArray c2)]
  k_with "exec While Compare cons nil" => ((rename Fr _ _ _ _ => lF'); (rename News _ _ _ _ => lN'); (with_unfolding_all refine' while_ff (V := [(l, listOf vs.toArray c), (l2, listOf vs2.toArray c2)]) (JP b (jac 17 1 (x0 % y0) y0)) lF' lN' ?kma ?kmn ?kV ?kia ?kin rfl rfl rfl (jp_start ?kra hr2 h16 hy0 hy ho) ?_); (case kma => k_memK); (case kmn => k_memK); (case kV => kst_allIn); (case kia => l_ints); (case kin => l_ints); (case kra => assumption); clear lF' lN'; intro x y f t7 la7 va7 na7 ca7 ln7 vn7 nn7 cn7 u7 h7 tk7 hia7 hin7 kInv kFr kNews; (have j1 := kInv.1); (have j2 := kInv.2.1); (have j3 := kInv.2.2.1); (have j4 := kInv.2.2.2.1); (have j5 := kInv.2.2.2.2.1); (have j6 := kInv.2.2.2.2.2.1); (have j7 := kInv.2.2.2.2.2.2.1); (have j8 := kInv.2.2.2.2.2.2.2.1); (have j9 := j1.len hb (by omega)); (have j10 := j2.len hb (by omega)); (have j11 := j1.zero); (have j12 := j1.nonneg); (have kLen := hia7.length); (have kLen2 := hin7.length); try k_fold)
  k_with "state" => exact jp_turn (by assumption) (by assumption) (by omega) (by assumption) (by assumption) (by assumption) (by assumption) rfl (by first | rw [if_pos (and_yes (by assumption))] | rw [if_neg (and_no (by assumption))])
  k_steps
  · ktu_objs
  · ktu_objs
  · ktn_step
    have e := jp_end (by assumption) (show x = 0 by omega)
    exact ⟨j7, j8, by rw [e, if_pos (by omega)]⟩
  · ktn_step
    have e := jp_end (by assumption) (show x = 0 by omega)
    exact ⟨by decide, by decide, by rw [e, if_neg (by omega)]⟩
  k_with_none

end

section
local macro_rules | `(tactic| walk_at "no such key 0") => `(tactic| fail)
theorem Calls.monoL {w : World} {loose : List Str} {mean : ExcName → Option Value} {mg mb : Str → Option Value} {dep : Nat} {f : Addr} {args : List Value} {news : List (Addr × Obj)} {P P' : List Int → Prop} (C : Calls w loose mean mg mb dep f args news (OutL news P)) (h : ∀ i, P i → P' i) : Calls w loose mean mg mb dep f args news (OutL news P') :=
  fun dp un gd cn cs a ccd cl outer A₀ base h₀ L m s Q E B F X N T hk hd hu ret => C dp un gd cn cs a ccd cl outer A₀ base h₀ L m s Q E B F X N T hk hd hu fun r new h' tk' F' N' O => by
    cases O with | mk l vs ns c hi p => exact ret _ _ h' tk' F' N' (.mk l vs ns c hi (h ns p))
theorem low_zero {x i : Int} (h : Low x i) (hi : 0 ≤ i) (ho : x % 2 = 1) : i = 0 := by
  obtain ⟨q, e⟩ := h
  refine Classical.byContradiction fun hn => ?_
  have e1 : i.toNat = (i.toNat - 1) + 1 := by omega
  rw [e1, Int.pow_succ, Int.mul_comm (2 ^ _) 2, Int.mul_assoc] at e
  omega
theorem trailing_odd_ct {w : World} {loose : List Str} {mean : ExcName → Option Value} {mg mb : Str → Option Value} {l : Addr} {vs : List Value} {ns : List Int} {c : Nat} {b x : Int} {tb : Tok} {news : List (Addr × Obj)}
    (hm : (l, listOf vs.toArray c) ∈ news) (hi : IntsAre vs ns) (hr : Rep b ns x) (hb : 3 ≤ b) (hb' : b ≤ 8) (hx : x < 4096) (h0 : 0 < x) (ho : x % 2 = 1) :
    Calls w loose mean mg mb 1 114 [.ref l, .int b tb] news (OutI news fun i => i = 0) :=
  (trailing_ct hm hi hr hb hb' hx h0 (.inr ho)).monoI fun _ h => low_zero h.2.2 h.1 ho
theorem shift0_ct {w : World} {loose : List Str} {mean : ExcName → Option Value} {mg mb : Str → Option Value} {l : Addr} {vs : List Value} {ns : List Int} {tn tb : Tok} {b x : Int} {c : Nat} {news : List (Addr × Obj)}
    (hm : (l, listOf vs.toArray c) ∈ news) (hi : IntsAre vs ns) (hr : Rep b ns x) (hb : 3 ≤ b) (hb' : b ≤ 8) (hx : x < 4096) :
    Calls w loose mean mg mb 2 93 [.ref l, .int 0 tn, .int b tb] news (OutL news fun ns' => Rep b ns' x) :=
  (shift_right_ct hm hi hr hb hb' hx (Int.le_refl _) (by decide)).monoL fun _ h => by
    have e : x / 2 ^ (0 : Int).toNat = x := by show x / 1 = x; omega
    rw [e] at h
    exact h
/-- the symbol of a over an odd n, by their signs and sizes -/
def kr (p q : Bool) (a n : Int) : Int := (if p = true ∧ q = true then -1 else 1) * (if p = true ∧ n % 4 = 3 then -1 else 1) * jac 17 1 (a % n) n
section
variable {p q : Bool} {a n : Int}
variable {f : Int}
theorem kr_1 (h1 : p = true) (h3 : n % 4 = 3) (hf : IfIs ((p && q) = true) (-1) 1 f) : -f * jac 17 1 (a % n) n = kr p q a n := by
  unfold IfIs at hf; subst hf h1; cases q <;> simp [kr, h3]
theorem kr_2 (h1 : p = true) (h3 : n % 4 ≠ 3) (hf : IfIs ((p && q) = true) (-1) 1 f) : f * jac 17 1 (a % n) n = kr p q a n := by
  unfold IfIs at hf; subst hf h1; cases q <;> simp [kr, h3]
theorem kr_3 (h1 : p = false) (hf : IfIs ((p && q) = true) (-1) 1 f) : f * jac 17 1 (a % n) n = kr p q a n := by
  unfold IfIs at hf; subst hf h1; simp [kr]
end
abbrev pairOf (p : Bool) (l : Addr) (c : Nat) : Obj := { cls := .type "tuple", data := .seq #[.bool p, .ref l] c }
local macro_rules | `(tactic| walk_at "call ref") => `(tactic| ktr_call 65 (is_even_ct ?m1 ?i1 ?f1 ?f2 ?f3))
local macro_rules | `(tactic| walk_at "call ref") => `(tactic| ktr_call 65 (is_odd_ct ?m1 ?i1 ?f1 ?f2 ?f3 hodd))
local macro_rules | `(tactic| walk_at "call ref") => `(tactic| ktr_call 72 (compare_ct ?m1 ?i1 ?m2 ?i2 ?f1 ?f2 ?f3 ?f4 ?f5))
local macro_rules | `(tactic| walk_at "call ref") => `(tactic| ktr_call 114 (trailing_odd_ct ?m1 ?i1 ?f1 ?f2 ?f3 ?f4 ?f5 ?f6))
local macro_rules | `(tactic| walk_at "call ref") => `(tactic| ktr_call 93 (shift0_ct ?m1 ?i1 ?f1 ?f2 ?f3 ?f4))
local macro_rules | `(tactic| walk_at "call ref") => `(tactic| ktr_call 119 (last2_ct ?m1 ?i1 ?f1 ?f2 ?f3 ?f4))
local macro_rules | `(tactic| walk_at "call ref") => `(tactic| ktr_call 133 (jacobi_ct ?m1 ?i1 ?m2 ?i2 ?f1 ?f2 ?f3 ?f4 ?f5 ?f6 ?f7 ?f8 ?f9 ?f10))
local macro_rules | `(tactic| walk_at "eval IfExp") => `(tactic| ktu_objs)
local macro_rules | `(tactic| ktu_objs) => `(tactic| (k_here; k_dflt (refine' ifexp_eqB ?jt ?jb ?jo ?jk; (case jt => (refine' and_meet ?j1 ?j2 ?j3; (case j1 => (k_steps; exact MeetB.mk)); (case j2 => (intro tk9; (try dsimp only); k_steps; exact MeetB.mk)); (intro tk9; exact MeetB.mk))); (case jb => (intro tk9 hc9; (try dsimp only); k_steps; exact MeetI.mk)); (case jo => (intro tk9 hc9; (try dsimp only); k_steps; exact MeetI.mk)); intro i9 t9 tk9 e9; (try dsimp only); (try k_fold))))
set_option hygiene false in
local macro_rules | `(tactic| walk_at "isTrue BoolOp") => `(tactic| (k_here; k_dflt (refine' and_falseF (c1 := decide (x % 2 = 0)) ?jF ?jN ?j1 ?j2 ?j3; (case jF => k_asm); (case jN => k_asm); (case j1 => (k_steps; exact MeetF.mk (by assumption) (by assumption))); (case j2 => (intro h9 tk9 F9 N9; (try dsimp only); k_steps; exact MeetF.of (by first | rfl | assumption | exact decide_eq_false (by omega)) (by assumption) (by assumption))); intro h9 tk9 F9 N9; (try dsimp only); (try k_fold))))
theorem kronecker_ct {w : World} {loose : List Str} {mean : ExcName → Option Value} {mg mb : Str → Option Value} {tx ty l l2 : Addr} {vs vs2 : List Value} {ns ns2 : List Int} {tb : Tok} {b x y : Int} {pb qb : Bool} {c c2 c3 c4 : Nat} {news : List (Addr × Obj)}
    (hmx : (tx, pairOf pb l c3) ∈ news) (hm : (l, listOf vs.toArray c) ∈ news) (hi : IntsAre vs ns) (hmy : (ty, pairOf qb l2 c4) ∈ news) (hm2 : (l2, listOf vs2.toArray c2) ∈ news) (hi2 : IntsAre vs2 ns2) (hr : Rep b ns x) (hr2 : Rep b ns2 y) (hb : 3 ≤ b) (hb' : b ≤ 8) (hx : x < 1000) (hy : y < 1000) (hy0 : 0 < y) (hxy : x < y ∨ y < 16) (hodd : y % 2 = 1) (h16 : x % y < 16) :
    Calls w loose mean mg mb 6 140 [.ref tx, .ref ty, .int b tb, .ref 182] news (OutI news fun i => i = kr pb qb x y) := by
  have hl := hr.len hb (by omega)
  have hl2 := hr2.len hb (by omega)
  have hz2 := hr2.zero
  ktn_end [(tx, pairOf pb l c3), (l, listOf vs.toArray c), (ty, pairOf qb l2 c4), (l2, listOf vs2.toArray c2)]
  k_steps
  all_goals first
    | (exfalso; omega)
    | (ktn_step; first
      | exact kr_1 (by assumption) (by assumption) (by assumption)
      | exact kr_2 (by assumption) (by assumption) (by assumption)
      | exact kr_3 (by assumption) (by assumption))

end

section
theorem signF_rest {x n : Int} (hn : 0 < n) : signF x n = signF (x % n) n := by
  unfold signF
  rw [rowL_rest hn]
def oddOk (n r : Nat) : Bool := decide (jac 17 1 r n = signF r n) && decide ((if (n : Int) % 4 = 3 then -1 else 1) * jac 17 1 ((-(r : Int)) % n) n = signF r n)
theorem odd_all : ([3, 5, 7, 9, 11, 13, 15].all fun n => (List.range n).all fun r => oddOk n r) = true := by decide +kernel
def evenOk (n r : Nat) : Bool := decide (signF r n = 0) || (decide (r % 2 = 1) && decide (signF r n = if (r : Int) % 4 = 3 then -1 else 1))
theorem even_all : ([4, 8, 12, 16].all fun n => (List.range n).all fun r => evenOk n r) = true := by decide +kernel
abbrev MenuOk (M : Int) : Prop := 3 ≤ M ∧ M ≤ 16 ∧ (M % 2 = 1 ∧ M < 16 ∨ M % 4 = 0)
theorem odd_both {x M : Int} (hM : MenuOk M) (ho : M % 2 = 1) : jac 17 1 (x % M) M = signF x M ∧ (if M % 4 = 3 then -1 else 1) * jac 17 1 ((-x) % M) M = signF x M := by
  have h16 : M < 16 := by omega
  have h := List.all_eq_true.mp odd_all M.toNat (by
    have : M = 3 ∨ M = 5 ∨ M = 7 ∨ M = 9 ∨ M = 11 ∨ M = 13 ∨ M = 15 := by omega
    rcases this with rfl | rfl | rfl | rfl | rfl | rfl | rfl <;> decide)
  have hr0 := Int.emod_nonneg x (show M ≠ 0 by omega)
  have hr1 := Int.emod_lt_of_pos x (show 0 < M by omega)
  have h := List.all_eq_true.mp h (x % M).toNat (List.mem_range.mpr (by omega))
  unfold oddOk at h
  have e1 : (((x % M).toNat : Nat) : Int) = x % M := by omega
  have e2 : ((M.toNat : Nat) : Int) = M := by omega
  rw [e1, e2] at h
  obtain ⟨ha, hb⟩ := Bool.and_eq_true_iff.mp h
  have ha := of_decide_eq_true ha
  have hb := of_decide_eq_true hb
  rw [signF_rest (x := x) (show 0 < M by omega)]
  have e3 : (-x) % M = (-(x % M)) % M := by
    have := Int.emod_add_mul_ediv x M
    have e4 : -x = -(x % M) + M * (-(x / M)) := by rw [Int.mul_neg]; omega
    rw [e4, Int.add_mul_emod_self_left]
  rw [e3]
  exact ⟨ha, hb⟩
theorem odd_kr {x M : Int} (hM : MenuOk M) (ho : M % 2 = 1) : kr (decide (x < 0)) false (if x < 0 then -x else x) M = signF x M := by
  obtain ⟨h1, h2⟩ := odd_both (x := x) hM ho
  by_cases h : x < 0
  · simp only [h, decide_true, if_true, kr]
    simp only [Bool.false_eq_true, and_false, if_false, true_and, Int.one_mul]
    exact h2
  · simp only [h, decide_false, if_false, kr]
    simp only [Bool.false_eq_true, false_and, if_false, Int.one_mul]
    exact h1
theorem even_sign {x M : Int} (hM : MenuOk M) (he : M % 2 ≠ 1) (hs : signF x M ≠ 0) : x % 2 = 1 ∧ signF x M = if x % 4 = 3 then -1 else 1 := by
  have h4 : M % 4 = 0 := by omega
  have h := List.all_eq_true.mp even_all M.toNat (by
    have : M = 4 ∨ M = 8 ∨ M = 12 ∨ M = 16 := by omega
    rcases this with rfl | rfl | rfl | rfl <;> decide)
  have hr0 := Int.emod_nonneg x (show M ≠ 0 by omega)
  have hr1 := Int.emod_lt_of_pos x (show 0 < M by omega)
  have h := List.all_eq_true.mp h (x % M).toNat (List.mem_range.mpr (by omega))
  unfold evenOk at h
  have e1 : (((x % M).toNat : Nat) : Int) = x % M := by omega
  have e2 : ((M.toNat : Nat) : Int) = M := by omega
  rw [e1, e2] at h
  rw [signF_rest (x := x) (show 0 < M by omega)] at hs ⊢
  have hm : M = 4 ∨ M = 8 ∨ M = 12 ∨ M = 16 := by omega
  rcases Bool.or_eq_true_iff.mp h with h | h
  · exact absurd (of_decide_eq_true h) hs
  · obtain ⟨ha, hb⟩ := Bool.and_eq_true_iff.mp h
    have ha := of_decide_eq_true ha
    have hb := of_decide_eq_true hb
    have e5 : x % M % 4 = x % 4 := by rcases hm with rfl | rfl | rfl | rfl <;> omega
    rw [e5] at hb
    refine ⟨?_, hb⟩
    have : x % M % 2 = 1 := by omega
    omega
theorem jac_one {y : Int} (hy : 0 < y) : jac 17 1 (1 % y) y = 1 := by
  by_cases h : y = 1
  · subst h; decide
  · have e : (1 : Int) % y = 1 := Int.emod_eq_of_lt (by decide) (by omega)
    rw [e, jac, if_neg (by decide)]
    have t0 : tz 12 1 = 0 := by decide
    simp only [t0]
    have e2 : (1 : Int) / 2 ^ (0 : Int).toNat = 1 := by decide
    have e3 : tsign 0 y = 1 := by simp [tsign]
    rw [e2, e3, if_neg (by omega)]
    have e4 : y % 1 = 0 := by omega
    rw [e4]; rfl
theorem even_kr {x M : Int} (hM : MenuOk M) (he : M % 2 ≠ 1) (hs : signF x M ≠ 0) : kr true (decide (x < 0)) 1 (if x < 0 then -x else x) = signF x M := by
  obtain ⟨h1, h2⟩ := even_sign hM he hs
  rw [h2]
  by_cases h : x < 0
  · simp only [h, decide_true, if_true, kr]
    rw [jac_one (by omega)]
    by_cases h3 : x % 4 = 3
    · rw [if_pos ⟨trivial, trivial⟩, if_neg (by omega), if_pos h3]; rfl
    · rw [if_pos ⟨trivial, trivial⟩, if_pos ⟨trivial, by omega⟩, if_neg h3]; rfl
  · simp only [h, decide_false, if_false, kr]
    rw [jac_one (by omega)]
    by_cases h3 : x % 4 = 3
    · simp [h3]
    · simp [h3]
section
variable {w : World} {loose : List Str} {mean : ExcName → Option Value} {mg mb : Str → Option Value} {tx ty l l2 : Addr} {vs vs2 : List Value} {ns ns2 : List Int} {tb t1 : Tok} {b x y M : Int} {c c2 c3 c4 : Nat} {news : List (Addr × Obj)}
theorem kron_odd_ct (hmx : (tx, pairOf (decide (x < 0)) l c3) ∈ news) (hm : (l, listOf vs.toArray c) ∈ news) (hi : IntsAre vs ns) (hmy : (ty, pairOf false l2 c4) ∈ news) (hm2 : (l2, listOf vs2.toArray c2) ∈ news) (hi2 : IntsAre vs2 ns2)
    (hr : Rep b ns (if x < 0 then -x else x)) (hr2 : Rep b ns2 M) (hb : 3 ≤ b) (hb' : b ≤ 8) (hM : MenuOk M) (ho : M.fmod 2 = 1) (hx1 : -700 ≤ x) (hx2 : x ≤ 700) :
    Calls w loose mean mg mb 6 140 [.ref tx, .ref ty, .int b tb, .ref 182] news (OutI news fun i => i = signF x M) := by
  rw [fmod_pos (by decide)] at ho
  have hlt : (if x < 0 then -x else x) < 1000 := by split <;> omega
  have hmod := Int.emod_lt_of_pos (if x < 0 then -x else x) (show 0 < M by omega)
  exact (kronecker_ct hmx hm hi hmy hm2 hi2 hr hr2 hb hb' hlt (by omega) (by omega) (.inr (by omega)) ho (by omega)).monoI fun _ h => h.trans (odd_kr hM ho)
theorem kron_even_ct (hmx : (tx, pairOf true l c3) ∈ news) (hm : (l, listOf [Value.int 1 t1].toArray c) ∈ news) (hmy : (ty, pairOf (decide (x < 0)) l2 c4) ∈ news) (hm2 : (l2, listOf vs2.toArray c2) ∈ news) (hi2 : IntsAre vs2 ns2)
    (hr2 : Rep b ns2 (if x < 0 then -x else x)) (hb : 3 ≤ b) (hb' : b ≤ 8) (hM : MenuOk M) (he : M.fmod 2 ≠ 1) (hs : signF x M ≠ 0) (hx1 : -700 ≤ x) (hx2 : x ≤ 700) :
    Calls w loose mean mg mb 6 140 [.ref tx, .ref ty, .int b tb, .ref 182] news (OutI news fun i => i = signF x M) := by
  rw [fmod_pos (by decide)] at he
  obtain ⟨h1, h2⟩ := even_sign hM he hs
  have hlt : (if x < 0 then -x else x) < 1000 ∧ 0 < (if x < 0 then -x else x) ∧ (if x < 0 then -x else x) % 2 = 1 := by split <;> omega
  have hmod : 1 % (if x < 0 then -x else x) < 16 := by
    have a1 := Int.emod_lt_of_pos 1 hlt.2.1
    by_cases h : (if x < 0 then -x else x) < 16
    · omega
    · rw [Int.emod_eq_of_lt (by decide) (by omega)]; decide
  exact (kronecker_ct hmx hm (.cons _ _ .nil) hmy hm2 hi2 (Rep.one hb) hr2 hb hb' (by decide) hlt.1 hlt.2.1 (by omega) hlt.2.2 hmod).monoI fun _ h => h.trans (even_kr hM he hs)
theorem jac_odd_ct {j : Int} (hm : (l, listOf vs.toArray c) ∈ news) (hi : IntsAre vs ns) (hm2 : (l2, listOf vs2.toArray c2) ∈ news) (hi2 : IntsAre vs2 ns2)
    (hr : Rep b ns (x.fmod M + M * j)) (hr2 : Rep b ns2 M) (hb : 3 ≤ b) (hb' : b ≤ 8) (hM : MenuOk M) (ho : M.fmod 2 = 1) (hj : M * j ≤ 624) :
    Calls w loose mean mg mb 5 133 [.ref l, .ref l2, .int b tb, .ref 182] news (OutI news fun i => i = signF x M) := by
  rw [fmod_pos (by decide)] at ho
  rw [fmod_pos (by omega)] at hr
  have hmod := Int.emod_lt_of_pos x (show 0 < M by omega)
  have hmod2 := Int.emod_lt_of_pos (x % M + M * j) (show 0 < M by omega)
  refine (jacobi_ct hm hi hm2 hi2 hr hr2 hb hb' (by omega) (by omega) (by omega) (.inr (by omega)) ho (by omega)).monoI fun _ h => h.2.2.trans ?_
  rw [Int.add_mul_emod_self_left, Int.emod_emod]
  exact (odd_both hM ho).1
end

end

section
local macro_rules | `(tactic| walk_at "no such key 0") => `(tactic| fail)
local macro_rules | `(tactic| k_qdec) => `(tactic| decide +kernel)
theorem ifis_or {C : Prop} {dC : Decidable C} {X Y x : Int} (h : IfIs C X Y x) : x = X ∨ x = Y := by
  unfold IfIs at h; subst h; split
  · exact .inl rfl
  · exact .inr rfl
local macro_rules | `(tactic| walk_at "eval IfExp") => `(tactic| (ktu_objs; (rename IfIs _ _ _ _ => hI9); (have hO9 := ifis_or hI9)))
local macro_rules | `(tactic| walk_at "call ref") => `(tactic| ((with_reducible show wpAny _ _ (call (Value.ref 189) _) _ _ _); k_here; (k_dflt (refine' useR ?k1 ?k2 ?k3 ?k4 ?k5 ?kK (spun_ct ?u1 ?i1 ?m1 ?n1 ?f1 ?f2 ?f3 ?f4 ?f5) ?kd ?ku ?_; ktn_ord; (case n1 => k_ne))); intro i9 k9 t9 tk8 c9 h9 tk9 F9 N9 p9; (try dsimp only at N9); (try dsimp only at p9); (have q9 := p9.1); (have q8 := p9.2.1); (have q7 := p9.2.2); (try clear p9); (try subst q7); (try dsimp only); (try k_fold)))
theorem menu_facts {i : Int} (h1 : i < 11) (h0 : 0 ≤ i) : 3 ≤ ([3, 4, 5, 8, 11, 12, 13, 15, 7, 9, 16] : List Int).getD i.toNat 0 ∧ ([3, 4, 5, 8, 11, 12, 13, 15, 7, 9, 16] : List Int).getD i.toNat 0 ≤ 16 ∧ (([3, 4, 5, 8, 11, 12, 13, 15, 7, 9, 16] : List Int).getD i.toNat 0 % 2 = 1 ∧ ([3, 4, 5, 8, 11, 12, 13, 15, 7, 9, 16] : List Int).getD i.toNat 0 < 16 ∨ ([3, 4, 5, 8, 11, 12, 13, 15, 7, 9, 16] : List Int).getD i.toNat 0 % 4 = 0) := by
  have : i = 0 ∨ i = 1 ∨ i = 2 ∨ i = 3 ∨ i = 4 ∨ i = 5 ∨ i = 6 ∨ i = 7 ∨ i = 8 ∨ i = 9 ∨ i = 10 := by omega
  rcases this with rfl | rfl | rfl | rfl | rfl | rfl | rfl | rfl | rfl | rfl | rfl <;> decide
theorem more_facts {M j : Int} (hM : 3 ≤ M ∧ M ≤ 16 ∧ (M % 2 = 1 ∧ M < 16 ∨ M % 4 = 0)) (h1 : j < 40) (h0 : 0 ≤ j) : 0 ≤ M * j ∧ M * j ≤ 624 := by
  have e1 := Int.mul_nonneg (show 0 ≤ M by omega) h0
  have e2 := Int.mul_le_mul hM.2.1 (show j ≤ 39 by omega) h0 (by decide)
  omega
theorem fm_lo {M x y : Int} (hM : 3 ≤ M) (h : 0 ≤ y) : 0 ≤ x.fmod M + y := by have := fmod_lo x (n := M) (by omega); omega
theorem fm_hi {M x y : Int} (hM : 3 ≤ M) (hM2 : M ≤ 16) (h : y ≤ 624) : x.fmod M + y < 4096 := by have := fmod_hi x (n := M) (by omega); omega
theorem rep_len {b x : Int} {ns : List Int} (h : Rep b ns x) (hb : 3 ≤ b) (hx : x < 4096) : Rep b ns x ∧ ns.length ≤ 100 := ⟨h, by have := h.len hb hx; omega⟩
set_option hygiene false in
local macro_rules | `(tactic| ktn_lt) => `(tactic| first | exact fm_lo hn7 hm9.1 | exact fm_hi hn7 hn8 hm9.2)
set_option hygiene false in
local macro_rules | `(tactic| walk_at "call ref") => `(tactic| ((with_reducible show wpAny _ _ (call (Value.ref 196) _) _ _ _); (have hn9 := menu_facts (by with_reducible assumption) (by with_reducible assumption)); (have hm9 := more_facts hn9 (by with_reducible assumption) (by with_reducible assumption)); (have hn7 := hn9.1); (have hn8 := hn9.2.1); (have hn6 : MenuOk _ := hn9); ktr_call 196 (limbs_ct ?f1 ?f2 ?f3 ?f4)))
local macro_rules | `(tactic| walk_at "call ref") => `(tactic| ktr_call 201 (sign_ct ?f1 ?f2 ?f3 ?f4))
local macro_rules | `(tactic| walk_at "call ref") => `(tactic| ktr_call 140 (kron_even_ct ?x1 ?m1 ?y1 ?m2 ?i2 ?f1 ?f2 ?f3 ?f4 ?f5 ?f6 ?f7 ?f8))
local macro_rules | `(tactic| walk_at "call ref") => `(tactic| ktr_call 140 (kron_odd_ct ?x1 ?m1 ?i1 ?y1 ?m2 ?i2 ?f1 ?f2 ?f3 ?f4 ?f5 ?f6 ?f7 ?f8))
local macro_rules | `(tactic| walk_at "call ref") => `(tactic| ktr_call 133 (jac_odd_ct ?m1 ?i1 ?m2 ?i2 ?f1 ?f2 ?f3 ?f4 ?f5 ?f6 ?f7))
local macro_rules | `(tactic| k_memK) => `(tactic| kst_entry)
theorem law_holds : PySem.Challenge.rw_xm0385_01.Holds := hd (by
  k_go0
  all_goals (try k_fold)
  all_goals (have kMk := kstMark)
  k_with "pyIter ref" => (k_of "at" => k_state_given ["w", "n"] (fun wd n (_ : List Int) (modulus : List Int) => Rep wd modulus n ∧ modulus.length ≤ 100) "modulus")
  k_with "state" => exact rep_len (by with_reducible assumption) (by omega) (by omega)
  k_steps)

end
end Mine
theorem PySem.Challenge.cw_xm0385_01_holds : PySem.Challenge.rw_xm0385_01.Holds :=
  Mine.law_holds
