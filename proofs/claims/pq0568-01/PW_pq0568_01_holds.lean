import PyProof.Rows.All
import Wide.All
import OpenK.AllK
import Wide.FinOn
import PySem.Challenge.RW_pq0568_01
open PySem PySem.W PyProof.Rows PySem.Calls PySem.Spec
set_option Elab.async false
set_option linter.all false
namespace Mine
set_option maxRecDepth 100000 in
set_option maxHeartbeats 8000000 in
open_top hd for PySem.Challenge.rw_pq0568_01
theorem quiet1 : True := by
  w_top off
  exact True.intro
structure Ctx (w : World) (A : Around) (d : Nat) (h₀ : Heap) : Prop where
  hh : A.handled = none
  hd : A.depth + d < recursionLimit
  hu : A.units + 10 * d < cLine
  X : (Mine.hd.heap_39 w.params).In h₀
  T : ∃ (p : Program) (loose : List Str) (mean : ExcName → Option Value) (mg mb : Str → Option Value), Top p loose mean mg mb h₀

theorem Ctx.le {w : World} {A : Around} {d d' : Nat} {h₀ : Heap} (C : Ctx w A d h₀) (h : d' ≤ d) : Ctx w A d' h₀ :=
  ⟨C.hh, by have := C.hd; omega, by have := C.hu; omega, C.X, C.T⟩
theorem Ctx.keeps {w : World} {A : Around} {d : Nat} {h₀ h : Heap} (C : Ctx w A d h₀) (k : ∀ b o, h₀.get? b = some o → h.get? b = some o) : Ctx w A d h :=
  ⟨C.hh, C.hd, C.hu, C.X.keeps k, let ⟨p, l, me, mg, mb, T⟩ := C.T; ⟨p, l, me, mg, mb, T.keeps k⟩⟩

/-- what a call of a def leaves: the frame gone, the older objects as they were, O' new ones -/
def EndO (g : Heap) (O : List (Addr × Obj)) (s : Shared) (Post : Value → List (Addr × Obj) → Prop) (v : Value) (s' : Shared) : Prop :=
  ∃ L' m' O' h' tk, s' = { s with heap := h', toks := tk } ∧ Fr g L' h' m' ∧ News g L' h' (O' ++ O) ∧ Post v O'

def retOf (fl : Flow) : Value := match fl with | .ret v => v | _ => .none

section
variable {w : World} {A : Around} {s : Shared} {h₀ : Heap} {L : Addr} {m : Str → Option Value} {news O : List (Addr × Obj)}

theorem News.sub {h : Heap} (N : News h₀ L h news) (hO : ∀ p ∈ O, p ∈ news) : News h₀ L h O := fun p hp => N p (hO p hp)

theorem back_fr {g : Heap} (F : Fr h₀ L s.heap m) (N : News h₀ L s.heap O)
    (hg : g = hideAll s.heap (O.map (·.1))) {L' : Addr} {m' : Str → Option Value} {O' : List (Addr × Obj)} {h' : Heap} (F' : Fr g L' h' m') (N' : News g L' h' (O' ++ O)) :
    (∀ b o, s.heap.get? b = some o → h'.get? b = some o) ∧ (∀ p ∈ O', h'.get? p.1 = some p.2 ∧ p.1 ≠ L ∧ h₀.get? p.1 = none) := by
  subst hg
  have nm : ∀ b o, h₀.get? b = some o → b ∉ O.map (·.1) := fun b o e q => by
    obtain ⟨p, hp, rfl⟩ := List.mem_map.mp q
    rw [(N p hp).2.2] at e; cases e
  have st : ∀ b o, h₀.get? b = some o → (hideAll s.heap (O.map (·.1))).get? b = some o := fun b o e => hideAll_get _ (F.keep b o e) (nm b o e)
  obtain ⟨oL, es, ep, hL, hLd, hLk, hLf⟩ := F.ns
  have nL : L ∉ O.map (·.1) := fun q => by
    obtain ⟨p, hp, e⟩ := List.mem_map.mp q
    exact (N p hp).2.1 e
  have hLg := hideAll_get (O.map (·.1)) hL nL
  refine ⟨fun b o e => ?_, fun p hp => ?_⟩
  · by_cases hb : b ∈ O.map (·.1)
    · obtain ⟨p, hp, rfl⟩ := List.mem_map.mp hb
      have e1 := (N p hp).1
      rw [e] at e1
      cases e1
      exact (N' p (List.mem_append_right _ hp)).1
    · exact F'.keep b o (hideAll_get _ e hb)
  · have z := N' p (List.mem_append_left _ hp)
    refine ⟨z.1, fun q => ?_, ?_⟩
    · have := z.2.2; rw [q, hLg] at this; cases this
    · cases q : h₀.get? p.1 with
      | none => rfl
      | some o => have := z.2.2; rw [st _ _ q] at this; cases this

/-- the call of a def of the top, over a part O of the ledger -/
theorem call_O {name qual : Str} {params : Arguments} {body : List Stmt} {scope : Scope} {dV kV doc pm cdv ct oc : Value} {an od : Option Addr} {osl : Array (Option Value)} {f : Addr} {args : List Value} {binds : List (Str × Value)}
    {d : Nat} {Q : Value → Shared → Prop} {E : Value → Shared → Prop} (Post : Value → List (Addr × Obj) → Prop)
    (C : Ctx w A (d + 1) h₀) (F : Fr h₀ L s.heap m) (N : News h₀ L s.heap news) (hO : ∀ p ∈ O, p ∈ news)
    (ho : (Mine.hd.heap_39 w.params).lookup f = some ⟨oc, od, .func (fnOf name qual params body scope dV kV doc pm an cdv ct), osl⟩) (hcd : codeIn (Mine.hd.heap_39 w.params) cdv qual = true)
    (hbind : BindsTo s (fnOf name qual params body scope dV kV doc pm an cdv ct) ⟨args, []⟩ binds) (hloc : ∀ y ∈ binds, scope.names.lookup y.1 = some .local)
    (h : ∀ g L' h₁ tk, Ctx w (A.deeper (envOf qual scope L' f cdv)) d g → Fr g L' h₁ (fun y => binds.reverse.lookup y) → News g L' h₁ O →
      wpAny (model PySem.Challenge.rw_pq0568_01.prog w) (A.deeper (envOf qual scope L' f cdv)) (execs body (envOf qual scope L' f cdv))
        (fun fl s' => EndO g O s Post (retOf fl) s') (fun _ _ => False) { s with heap := h₁, toks := tk })
    (hQ : ∀ v O' h' tk, Fr h₀ L h' m → News h₀ L h' (O' ++ news) → (∀ p ∈ O', ∀ b o, s.heap.get? b = some o → b ∉ O.map (·.1) → p.1 ≠ b) → Post v O' → Q v { s with heap := h', toks := tk })
    (hco : scope.isCoroutine = false) (hgen : scope.isGenerator = false) (hk : scope.kind = .function) (hcell : ∀ x ∈ scope.names, x.2 ≠ .cell) :
    wpAny (model PySem.Challenge.rw_pq0568_01.prog w) A (call (.ref f) args) Q E s := by
  have N0 := News.sub N hO
  obtain ⟨p, loose, mean, mg, mb, T⟩ := C.T
  refine wpAny_call (codeAny_call_def (fd := fnOf name qual params body scope dV kV doc pm an cdv ct) (body := body) (binds := binds) (by have := C.hd; omega) ((C.X.keeps F.keep) _ _ ho) rfl (T.nolimit.keeps F.keep) (codeRec_of (C.X.keeps F.keep) hcd) rfl hbind hcell hloc (fun h₁ hns hk₁ => ?_) hco hgen hk)
  have nm : ∀ b o, h₀.get? b = some o → b ∉ O.map (·.1) := fun b o e q => by
    obtain ⟨p, hp, rfl⟩ := List.mem_map.mp q
    rw [(N0 p hp).2.2] at e; cases e
  have st : ∀ b o, h₀.get? b = some o → (hideAll s.heap (O.map (·.1))).get? b = some o := fun b o e => hideAll_get _ (F.keep b o e) (nm b o e)
  have C' : Ctx w (A.deeper (envOf qual scope s.heap.objs.size f cdv)) d (hideAll s.heap (O.map (·.1))) :=
    ⟨C.hh, by have := C.hd; show A.depth + 1 + d < _; omega, by have := C.hu; show A.units + 3 + 10 * d < _; omega, C.X.keeps st, ⟨p, loose, mean, mg, mb, T.keeps st⟩⟩
  refine wpAny_mono (h _ s.heap.objs.size h₁ _ C' ⟨hns, fun b o e => hk₁ b o (of_hideAll _ e), Nat.le_of_eq (hideAll_size _ _)⟩
    (fun p hp => ⟨hk₁ _ _ (N0 p hp).1, Nat.ne_of_lt (Heap.lt_size (N0 p hp).1), hideAll_none _ (List.mem_map_of_mem hp)⟩)) (fun fl s' hl => ?_) fun _ _ y => y.elim
  obtain ⟨L', m', O', h', tk, rfl, F', N', hp⟩ := hl
  obtain ⟨kp, nw⟩ := back_fr F N0 rfl F' N'
  have r := hQ _ O' h' tk (F.keeps kp) (fun q hq => by
    rcases List.mem_append.mp hq with q1 | q1
    · exact nw q q1
    · exact ⟨kp _ _ (N q q1).1, (N q q1).2⟩) (fun q hq b o e hb e2 => by
      have z := (N' q (List.mem_append_left _ hq)).2.2
      rw [e2, hideAll_get _ e hb] at z; cases z) hp
  cases fl <;> exact r

/-- the same, where the call changes what stands in O -/
def EndU (g : Heap) (s : Shared) (Post : Value → List (Addr × Obj) → Prop) (v : Value) (s' : Shared) : Prop :=
  ∃ L' m' O' h' tk, s' = { s with heap := h', toks := tk } ∧ Fr g L' h' m' ∧ News g L' h' O' ∧ Post v O'

theorem code_U {name qual : Str} {params : Arguments} {body : List Stmt} {scope : Scope} {dV kV doc pm cdv ct oc : Value} {an od : Option Addr} {osl : Array (Option Value)} {f : Addr} {args : List Value} {binds : List (Str × Value)}
    {d : Nat} {R : Result → Shared → Prop} (Post : Value → List (Addr × Obj) → Prop)
    (C : Ctx w A (d + 1) h₀) (F : Fr h₀ L s.heap m) (N : News h₀ L s.heap news) (hO : ∀ p ∈ O, p ∈ news)
    (ho : (Mine.hd.heap_39 w.params).lookup f = some ⟨oc, od, .func (fnOf name qual params body scope dV kV doc pm an cdv ct), osl⟩) (hcd : codeIn (Mine.hd.heap_39 w.params) cdv qual = true)
    (hbind : BindsTo s (fnOf name qual params body scope dV kV doc pm an cdv ct) ⟨args, []⟩ binds) (hloc : ∀ y ∈ binds, scope.names.lookup y.1 = some .local)
    (h : ∀ g L' h₁ tk, Ctx w (A.deeper (envOf qual scope L' f cdv)) d g → Fr g L' h₁ (fun y => binds.reverse.lookup y) → News g L' h₁ O →
      wpAny (model PySem.Challenge.rw_pq0568_01.prog w) (A.deeper (envOf qual scope L' f cdv)) (execs body (envOf qual scope L' f cdv))
        (fun fl s' => EndU g s Post (retOf fl) s') (fun _ _ => False) { s with heap := h₁, toks := tk })
    (hQ : ∀ v O' h' tk, Fr h₀ L h' m → News h₀ L h' O' → (∀ b o, b ∉ O.map (·.1) → s.heap.get? b = some o → h'.get? b = some o) → Post v O' → R (.ok (.ret v)) { s with heap := h', toks := tk })
    (hco : scope.isCoroutine = false) (hgen : scope.isGenerator = false) (hk : scope.kind = .function) (hcell : ∀ x ∈ scope.names, x.2 ≠ .cell) :
    codeAny (model PySem.Challenge.rw_pq0568_01.prog w) A (.call (.ref f) ⟨args, []⟩) R s := by
  have N0 := News.sub N hO
  obtain ⟨p, loose, mean, mg, mb, T⟩ := C.T
  refine (codeAny_call_def (fd := fnOf name qual params body scope dV kV doc pm an cdv ct) (body := body) (binds := binds) (by have := C.hd; omega) ((C.X.keeps F.keep) _ _ ho) rfl (T.nolimit.keeps F.keep) (codeRec_of (C.X.keeps F.keep) hcd) rfl hbind hcell hloc (fun h₁ hns hk₁ => ?_) hco hgen hk)
  have nm : ∀ b o, h₀.get? b = some o → b ∉ O.map (·.1) := fun b o e q => by
    obtain ⟨p, hp, rfl⟩ := List.mem_map.mp q
    rw [(N0 p hp).2.2] at e; cases e
  have st : ∀ b o, h₀.get? b = some o → (hideAll s.heap (O.map (·.1))).get? b = some o := fun b o e => hideAll_get _ (F.keep b o e) (nm b o e)
  have C' : Ctx w (A.deeper (envOf qual scope s.heap.objs.size f cdv)) d (hideAll s.heap (O.map (·.1))) :=
    ⟨C.hh, by have := C.hd; show A.depth + 1 + d < _; omega, by have := C.hu; show A.units + 3 + 10 * d < _; omega, C.X.keeps st, ⟨p, loose, mean, mg, mb, T.keeps st⟩⟩
  refine wpAny_mono (h _ s.heap.objs.size h₁ _ C' ⟨hns, fun b o e => hk₁ b o (of_hideAll _ e), Nat.le_of_eq (hideAll_size _ _)⟩
    (fun p hp => ⟨hk₁ _ _ (N0 p hp).1, Nat.ne_of_lt (Heap.lt_size (N0 p hp).1), hideAll_none _ (List.mem_map_of_mem hp)⟩)) (fun fl s' hl => ?_) fun _ _ y => y.elim
  obtain ⟨L', m', O', h', tk, rfl, F', N', hp⟩ := hl
  obtain ⟨oL, es, ep, hL, hLd, hLk, hLf⟩ := F.ns
  have nL : L ∉ O.map (·.1) := fun q => by
    obtain ⟨p, hp, e⟩ := List.mem_map.mp q
    exact (N0 p hp).2.1 e
  have hLg := hideAll_get (O.map (·.1)) hL nL
  have nN : News h₀ L h' O' := by
    intro p hp
    refine ⟨(N' p hp).1, ?_, ?_⟩
    · intro q
      have z := (N' p hp).2.2
      rw [q, hLg] at z; cases z
    · cases q : h₀.get? p.1 with
      | none => rfl
      | some o =>
        have z := (N' p hp).2.2
        rw [st _ _ q] at z; cases z
  have r := hQ _ O' h' tk ⟨⟨oL, es, ep, F'.keep L oL hLg, hLd, hLk, hLf⟩, fun b o e => F'.keep b o (st b o e), F.above⟩ nN (fun b o hb e => F'.keep b o (hideAll_get _ e hb)) hp
  cases fl <;> exact r
theorem call_U {name qual : Str} {params : Arguments} {body : List Stmt} {scope : Scope} {dV kV doc pm cdv ct oc : Value} {an od : Option Addr} {osl : Array (Option Value)} {f : Addr} {args : List Value} {binds : List (Str × Value)}
    {d : Nat} {Q : Value → Shared → Prop} {E : Value → Shared → Prop} (Post : Value → List (Addr × Obj) → Prop)
    (C : Ctx w A (d + 1) h₀) (F : Fr h₀ L s.heap m) (N : News h₀ L s.heap news) (hO : ∀ p ∈ O, p ∈ news)
    (ho : (Mine.hd.heap_39 w.params).lookup f = some ⟨oc, od, .func (fnOf name qual params body scope dV kV doc pm an cdv ct), osl⟩) (hcd : codeIn (Mine.hd.heap_39 w.params) cdv qual = true)
    (hbind : BindsTo s (fnOf name qual params body scope dV kV doc pm an cdv ct) ⟨args, []⟩ binds) (hloc : ∀ y ∈ binds, scope.names.lookup y.1 = some .local)
    (h : ∀ g L' h₁ tk, Ctx w (A.deeper (envOf qual scope L' f cdv)) d g → Fr g L' h₁ (fun y => binds.reverse.lookup y) → News g L' h₁ O →
      wpAny (model PySem.Challenge.rw_pq0568_01.prog w) (A.deeper (envOf qual scope L' f cdv)) (execs body (envOf qual scope L' f cdv))
        (fun fl s' => EndU g s Post (retOf fl) s') (fun _ _ => False) { s with heap := h₁, toks := tk })
    (hQ : ∀ v O' h' tk, Fr h₀ L h' m → News h₀ L h' O' → (∀ b o, b ∉ O.map (·.1) → s.heap.get? b = some o → h'.get? b = some o) → Post v O' → Q v { s with heap := h', toks := tk })
    (hco : scope.isCoroutine = false) (hgen : scope.isGenerator = false) (hk : scope.kind = .function) (hcell : ∀ x ∈ scope.names, x.2 ≠ .cell) :
    wpAny (model PySem.Challenge.rw_pq0568_01.prog w) A (call (.ref f) args) Q E s :=
  wpAny_call (code_U Post C F N hO ho hcd hbind hloc h hQ hco hgen hk hcell)

/-- the call of a def some of whose names are cells -/
theorem call_OC {name qual : Str} {params : Arguments} {body : List Stmt} {scope : Scope} {dV kV doc pm cdv ct oc : Value} {an od : Option Addr} {osl : Array (Option Value)} {f : Addr} {args : List Value} {binds : List (Str × Value)}
    {d : Nat} {Q : Value → Shared → Prop} {E : Value → Shared → Prop} (Post : Value → List (Addr × Obj) → Prop)
    (C : Ctx w A (d + 1) h₀) (F : Fr h₀ L s.heap m) (N : News h₀ L s.heap news) (hO : ∀ p ∈ O, p ∈ news)
    (ho : (Mine.hd.heap_39 w.params).lookup f = some ⟨oc, od, .func (fnOf name qual params body scope dV kV doc pm an cdv ct), osl⟩) (hcd : codeIn (Mine.hd.heap_39 w.params) cdv qual = true)
    (hbind : BindsTo s (fnOf name qual params body scope dV kV doc pm an cdv ct) ⟨args, []⟩ binds)
    (hkind : (binds.all fun y => scope.names.lookup y.1 == some .local || scope.names.lookup y.1 == some .cell) = true)
    (hnd : ((cellsFrom 0 scope.names []).map (·.1)).Nodup)
    (h : ∀ g L' h₁ tk cells, Ctx w (A.deeper (envOfC qual scope L' f cdv)) d g → Fr g L' h₁ (bindL (envOfC qual scope L' f cdv).kindOf binds fun _ => none) → News g L' h₁ (cells ++ O) →
      CellsAre (bindC (envOfC qual scope L' f cdv).kindOf binds fun _ => none) (cellsFrom (L' + 1) scope.names []) cells → (∀ p ∈ O, p.1 < L') →
      wpAny (model PySem.Challenge.rw_pq0568_01.prog w) (A.deeper (envOfC qual scope L' f cdv)) (execs body (envOfC qual scope L' f cdv))
        (fun fl s' => EndO g O s Post (retOf fl) s') (fun _ _ => False) { s with heap := h₁, toks := tk })
    (hQ : ∀ v O' h' tk, Fr h₀ L h' m → News h₀ L h' (O' ++ news) → (∀ p ∈ O', ∀ b o, s.heap.get? b = some o → b ∉ O.map (·.1) → p.1 ≠ b) → Post v O' → Q v { s with heap := h', toks := tk })
    (hco : scope.isCoroutine = false) (hgen : scope.isGenerator = false) (hk : scope.kind = .function) :
    wpAny (model PySem.Challenge.rw_pq0568_01.prog w) A (call (.ref f) args) Q E s := by
  have N0 := News.sub N hO
  obtain ⟨p, loose, mean, mg, mb, T⟩ := C.T
  refine wpAny_call (codeAny_call_function (by have := C.hd; omega) ((C.X.keeps F.keep) _ _ ho) rfl hco hgen rfl (codeRec_of (C.X.keeps F.keep) hcd) (hbind _ _ _ _ ?_))
  refine wpAny_newFunctionEnv_cells hk (kindsX hkind _) fun env' he s' x => ?_
  subst he
  refine ⟨(T.nolimit.keeps F.keep).keeps x.toInCall.keep, codeAny_func ?_⟩
  obtain ⟨h₁, tk, rfl, _⟩ := x.done
  have hk₁ := x.toInCall.keep
  obtain ⟨cells, NC, Y⟩ := Cl.news (h₀ := s.heap) (Nat.le_refl _) fun n c hm => ⟨x.cell n c (lookup_of_mem_nodup (cellsFrom_names scope.names 0 (s.heap.objs.size + 1) [] [] rfl ▸ hnd) hm), x.above n c hm⟩
  have nm : ∀ b o, h₀.get? b = some o → b ∉ O.map (·.1) := fun b o e q => by
    obtain ⟨p, hp, rfl⟩ := List.mem_map.mp q
    rw [(N0 p hp).2.2] at e; cases e
  have st : ∀ b o, h₀.get? b = some o → (hideAll s.heap (O.map (·.1))).get? b = some o := fun b o e => hideAll_get _ (F.keep b o e) (nm b o e)
  have C' : Ctx w (A.deeper (envOfC qual scope s.heap.objs.size f cdv)) d (hideAll s.heap (O.map (·.1))) :=
    ⟨C.hh, by have := C.hd; show A.depth + 1 + d < _; omega, by have := C.hu; show A.units + 3 + 10 * d < _; omega, C.X.keeps st, ⟨p, loose, mean, mg, mb, T.keeps st⟩⟩
  refine wpAny_mono (h _ s.heap.objs.size h₁ tk cells C' ⟨x.toInCall.ns, fun b o e => hk₁ b o (of_hideAll _ e), Nat.le_of_eq (hideAll_size _ _)⟩ (fun p hp => ?_) Y (fun p hp => Heap.lt_size (N0 p hp).1)) (fun fl s' hl => ?_) fun _ _ y => y.elim
  · rcases List.mem_append.mp hp with hp | hp
    · refine ⟨(NC p hp).1, (NC p hp).2.1, ?_⟩
      cases q : (hideAll s.heap (O.map (·.1))).get? p.1 with
      | none => rfl
      | some o => have := of_hideAll _ q; rw [(NC p hp).2.2] at this; cases this
    · exact ⟨hk₁ _ _ (N0 p hp).1, Nat.ne_of_lt (Heap.lt_size (N0 p hp).1), hideAll_none _ (List.mem_map_of_mem hp)⟩
  · obtain ⟨L', m', O', h', tk, rfl, F', N', hp⟩ := hl
    obtain ⟨kp, nw⟩ := back_fr F N0 rfl F' N'
    have r := hQ _ O' h' tk (F.keeps kp) (fun q hq => by
      rcases List.mem_append.mp hq with q1 | q1
      · exact nw q q1
      · exact ⟨kp _ _ (N q q1).1, (N q q1).2⟩) (fun q hq b o e hb e2 => by
        have z := (N' q (List.mem_append_left _ hq)).2.2
        rw [e2, hideAll_get _ e hb] at z; cases z) hp
    cases fl <;> exact r
end
section
variable {prog : Program} {w : World} {A : Around} {E : Value → Shared → Prop} {s : Shared} {h₀ : Heap} {L : Addr} {news O : List (Addr × Obj)}

theorem islist_of {h : Heap} {D : Addr} {its : Array Value} {c : Nat} (N : News h₀ L h news) (hm : (D, W.listOf its c) ∈ news) : h.IsList D its := News.isList N hm

theorem len_ints {D : Addr} {vs : List Value} {ns : List Int} {c : Nat} {Q : Value → Shared → Prop} (N : News h₀ L s.heap news) (hm : (D, W.listOf vs.toArray c) ∈ news) (hv : IntsAre vs ns) (hf : ns.length < 2 ^ 40)
    (h : ∀ t tk, Q (.int (ns.length : Int) t) { s with toks := tk }) : wpAny (model prog w) A (call (.builtin "len") [.ref D]) Q E s := by
  have e := hv.length
  refine Calls.call_len_list (islist_of N hm) (by rw [List.size_toArray, e]; omega) ?_
  rw [List.size_toArray, e]
  exact h _ _

theorem item_ints {value slice : PySem.Expr} {D : Addr} {vs : List Value} {ns : List Int} {c : Nat} {k : Int} {u : Tok} {Q : Value → Shared → Prop} (N : News h₀ L s.heap news) (hm : (D, W.listOf vs.toArray c) ∈ news) (hv : IntsAre vs ns)
    (h0 : 0 ≤ k) (h1 : k < ns.length) (hf : ns.length < 2 ^ 40) (h : ∀ n t, ns[k.toNat]? = some n → Q (.int n t) s)
    (hs : subscripted slice false (.ref D) (.int k u) = operate [.ref D, .int k u] (getItem (.ref D) (.int k u)) := by with_unfolding_all rfl) :
    wpAny (model prog w) A (subscriptTail value slice (.ref D) (.int k u)) Q E s := by
  have hl := islist_of N hm
  have hk : k.toNat < ns.length := by omega
  obtain ⟨t, ht⟩ := hv.get k.toNat ns[k.toNat] (by simp [hk])
  exact tail_any hl.typeIs slot_list_getitem.lookup (wpAny_getItem_list hl h0 (by omega) (x := .int ns[k.toNat] t) (by simpa using ht) (h _ _ (by simp [hk]))) hs
end
abbrev penObj (inner : Addr) (p : Int) (tp : Tok) (q : Int) (tq : Tok) (n : Nat) : Obj := W.listOf [Value.ref inner, .int p tp, .int q tq].toArray n

theorem pen_set2 {prog : Program} {w : World} {A : Around} {E : Value → Shared → Prop} {s : Shared} {h₀ : Heap} {L : Addr} {m : Str → Option Value} {news : List (Addr × Obj)} {pen inner : Addr} {p q v : Int} {tp tq t u : Tok} {n : Nat} {nw : Int → Tok → List (Addr × Obj)} {Q : Unit → Shared → Prop}
    (F : Fr h₀ L s.heap m) (N : News h₀ L s.heap news) (U : ∀ q1 t1, Upd pen (penObj inner p tp q tq n) (penObj inner p tp q1 t1 n) news (nw q1 t1)) (hv0 : 0 ≤ v)
    (h : ∀ h' q1, 0 ≤ q1 → Fr h₀ L h' m → News h₀ L h' (nw q1 t) → Q () { s with heap := h' }) : wpAny (model prog w) A (setItem (.ref pen) (.int 2 u) (.int v t)) Q E s :=
  ki_set F N (by decide) (by decide) rfl (U v t) fun h' F' N' => h h' v hv0 F' N'
/-- the end of a loop's turn: the frame's map and the ledger (without the iterator) as J says -/
def TurnE (h₀ : Heap) (L I : Addr) (oI : Obj) (J : (Str → Option Value) → List (Addr × Obj) → Prop) (s : Shared) (Q : Flow → Shared → Prop) (f : Flow) (s₂ : Shared) : Prop :=
  match f with
  | .ret v => Q (.ret v) s₂
  | .brk => Q .next s₂
  | _ => ∃ h' tk m' news', s₂ = { s with heap := h', toks := tk } ∧ Fr h₀ L h' m' ∧ News h₀ L h' ((I, oI) :: news') ∧ (∀ p ∈ news', @Ne Nat p.1 I) ∧ J m' news'

theorem TurnE.intro {h₀ : Heap} {L I : Addr} {oI : Obj} {J : (Str → Option Value) → List (Addr × Obj) → Prop} {s : Shared} {Q : Flow → Shared → Prop} {h' : Heap} {tk : Nat} {m' : Str → Option Value} {all : List (Addr × Obj)} (news' : List (Addr × Obj))
    (F : Fr h₀ L h' m') (N : News h₀ L h' all) (hs : ∀ p ∈ (I, oI) :: news', p ∈ all) (hn : ∀ p ∈ news', @Ne Nat p.1 I) (hJ : J m' news') : TurnE h₀ L I oI J s Q .next { s with heap := h', toks := tk } :=
  ⟨h', tk, m', news', rfl, F, fun p hp => N p (hs p hp), hn, hJ⟩
theorem TurnE.brk {h₀ : Heap} {L I : Addr} {oI : Obj} {J : (Str → Option Value) → List (Addr × Obj) → Prop} {s s₂ : Shared} {Q : Flow → Shared → Prop} (h : Q .next s₂) : TurnE h₀ L I oI J s Q .brk s₂ := h
theorem TurnE.ret {h₀ : Heap} {L I : Addr} {oI : Obj} {J : (Str → Option Value) → List (Addr × Obj) → Prop} {s s₂ : Shared} {v : Value} {Q : Flow → Shared → Prop} (h : Q (.ret v) s₂) : TurnE h₀ L I oI J s Q (.ret v) s₂ := h
theorem TurnE.cont {h₀ : Heap} {L I : Addr} {oI : Obj} {J : (Str → Option Value) → List (Addr × Obj) → Prop} {s : Shared} {Q : Flow → Shared → Prop} {h' : Heap} {tk : Nat} {m' : Str → Option Value} {all : List (Addr × Obj)} (news' : List (Addr × Obj))
    (F : Fr h₀ L h' m') (N : News h₀ L h' all) (hs : ∀ p ∈ (I, oI) :: news', p ∈ all) (hn : ∀ p ∈ news', @Ne Nat p.1 I) (hJ : J m' news') : TurnE h₀ L I oI J s Q .cont { s with heap := h', toks := tk } :=
  ⟨h', tk, m', news', rfl, F, fun p hp => N p (hs p hp), hn, hJ⟩

section
variable {prog : Program} {w : World} {A : Around} {E : Value → Shared → Prop} {s : Shared} {h₀ : Heap} {env : Env} {news : List (Addr × Obj)} {m : Str → Option Value} {x : Str} {body : List Stmt} {Q : Flow → Shared → Prop}

theorem loop_core {I : Addr} {fp : List Addr} {n : Nat} {P : Nat → Value → Prop} {St : Nat → Heap → Prop} (W : Walks prog w A I fp [I] n P St) (hIo : ∀ i h, St i h → ∃ o, h.get? I = some o)
    (ax : List (Addr × Obj)) (hfp : ∀ b ∈ fp, b = I ∨ b ∈ ax.map (·.1)) (hst : St 0 s.heap) (F : Fr h₀ env.locals s.heap m) (N : News h₀ env.locals s.heap news) (hL : env.locals ≠ I) (hI : h₀.get? I = none)
    (hoff : ∀ p ∈ news, p.1 ≠ I) (J : Nat → (Str → Option Value) → List (Addr × Obj) → Prop) (hJx : ∀ i m' nw, J i m' nw → ∀ p ∈ ax, p ∈ nw) (h0 : J 0 m news)
    (turn : ∀ i v m₁ news₁ oI h tk, i < n → P i v → J i m₁ news₁ → (∀ p ∈ news₁, @Ne Nat p.1 I) → Fr h₀ env.locals h (fun y => if y = x then some v else m₁ y) → News h₀ env.locals h ((I, oI) :: news₁) →
      wpAny (model prog w) A (execs body env) (TurnE h₀ env.locals I oI (J (i + 1)) s Q) E { s with heap := h, toks := tk })
    (done : ∀ m₁ news₁ h tk, J n m₁ news₁ → Fr h₀ env.locals h m₁ → News h₀ env.locals h news₁ → (∀ p ∈ news₁, @Ne Nat p.1 I) → Q .next { s with heap := h, toks := tk }) :
    LoopAtV prog w A h₀ env x body Q E (.ref I) s := by
  have hLf : env.locals ∉ fp := fun hm => by
    rcases hfp _ hm with q | q
    · exact hL q
    · obtain ⟨p, hp, e⟩ := List.mem_map.mp q
      exact (N p (hJx _ _ _ h0 p hp)).2.1 e
  refine ⟨I, fp, [I], n, P, St, m, news, J, rfl, W, hLf, ?_, ?_, hst, F, N, h0, ?_, ?_⟩
  · intro b hb; rw [List.mem_singleton.mp hb]; exact hI
  · intro p hp hb; exact hoff p hp (List.mem_singleton.mp hb)
  · rintro i v m₁ news₁ s₁ own ⟨h, tk, rfl⟩ hin hP hJ hw how hget hall hst₁ F₁ N₁
    obtain ⟨oI, hoI⟩ := hIo _ _ hst₁
    have hIw : (I, oI) ∈ own := hall I (W.sub I (List.mem_singleton.mpr rfl)) hI oI hoI
    have hne : ∀ p ∈ news₁, @Ne Nat p.1 I := fun p hp q => hw p hp (List.mem_singleton.mpr q)
    have N₂ : News h₀ env.locals h ((I, oI) :: news₁) := fun p hp => by
      rcases List.mem_cons.mp hp with rfl | hp
      · exact N₁ _ (List.mem_append_left _ hIw)
      · exact N₁ p (List.mem_append_right _ hp)
    refine wpAny_mono (turn i v m₁ news₁ oI h tk hin hP hJ hne F₁ N₂) (fun f s₂ hf => ?_) fun _ _ e => e
    have key : (∃ h' tk m' news', s₂ = { s with heap := h', toks := tk } ∧ Fr h₀ env.locals h' m' ∧ News h₀ env.locals h' ((I, oI) :: news') ∧ (∀ p ∈ news', @Ne Nat p.1 I) ∧ J (i + 1) m' news') → LoopStepU h₀ env.locals [I] own (J (i + 1)) { s with heap := h, toks := tk } .next s₂ := by
      rintro ⟨h', tk', m', news', rfl, F', N', ne', hJ'⟩
      refine LoopStepU.intro F' (fun p hp => ?_) (fun p hp q => ne' p hp (List.mem_singleton.mp q)) hJ'
      rcases List.mem_append.mp hp with hp | hp
      · have e := hget p hp
        rcases hfp _ (how p hp) with q | q
        · have e2 : p = (I, oI) := by
            obtain ⟨b, o⟩ := p
            have q' : b = I := q
            subst q'
            have e' : h.get? b = some o := e
            rw [hoI] at e'
            cases e'
            rfl
          rw [e2]; exact N' _ List.mem_cons_self
        · obtain ⟨p2, hp2, e2⟩ := List.mem_map.mp q
          have e3 := (N₂ p2 (List.mem_cons_of_mem _ (hJx _ _ _ hJ p2 hp2))).1
          have e4 : p = p2 := by
            obtain ⟨b, o⟩ := p
            obtain ⟨b2, o2⟩ := p2
            have q' : b2 = b := e2
            subst q'
            have e' : h.get? b2 = some o := e
            have e3' : h.get? b2 = some o2 := e3
            rw [e'] at e3'
            cases e3'
            rfl
          rw [e4]; exact N' _ (List.mem_cons_of_mem _ (hJx _ _ _ hJ' p2 hp2))
      · exact N' p (List.mem_cons_of_mem _ hp)
    cases f with
    | ret v => exact .ret hf
    | brk => exact .brk hf
    | next => exact .next (key hf)
    | cont => exact .cont (key hf)
  · rintro h' tk m' news' F' N' ne hJ
    exact done m' news' h' tk hJ F' N' fun p hp q => ne p hp (List.mem_singleton.mpr q)

theorem new_ne {l : Addr} {o : Obj} (F : Fr h₀ env.locals s.heap m) (N : News h₀ env.locals s.heap news) (hl : s.heap.get? l = some o) : env.locals ≠ s.heap.objs.size ∧ h₀.get? s.heap.objs.size = none ∧ (∀ p ∈ news, p.1 ≠ s.heap.objs.size) ∧ l ≠ s.heap.objs.size :=
  ⟨Nat.ne_of_lt F.ns.lt, next_is_new F, fun p hp => Nat.ne_of_lt (Heap.lt_size (N p hp).1), Nat.ne_of_lt (Heap.lt_size hl)⟩

/-- for x in l, l a list of the ledger -/
theorem loop_list {l : Addr} {its : Array Value} {c : Nat} (hh : A.handled = none) (F : Fr h₀ env.locals s.heap m) (N : News h₀ env.locals s.heap news) (hm : (l, W.listOf its c) ∈ news)
    (J : Nat → (Str → Option Value) → List (Addr × Obj) → Prop) (hJx : ∀ i m' nw, J i m' nw → (l, W.listOf its c) ∈ nw) (h0 : J 0 m news)
    (turn : ∀ i v m₁ news₁ I oI h tk, its[i]? = some v → J i m₁ news₁ → (∀ p ∈ news₁, @Ne Nat p.1 I) → Fr h₀ env.locals h (fun y => if y = x then some v else m₁ y) → News h₀ env.locals h ((I, oI) :: news₁) →
      wpAny (model prog w) A (execs body env) (TurnE h₀ env.locals I oI (J (i + 1)) s Q) E { s with heap := h, toks := tk })
    (done : ∀ m₁ news₁ h tk, J its.size m₁ news₁ → Fr h₀ env.locals h m₁ → News h₀ env.locals h news₁ → Q .next { s with heap := h, toks := tk }) :
    wpAny (model prog w) A (pyIter (.ref l)) (fun it s₂ => LoopAtV prog w A h₀ env x body Q E it s₂) E s := by
  have hls := islist_of N hm
  obtain ⟨n1, n2, n3, n4⟩ := new_ne F N (N _ hm).1
  refine wpAny_pyIter_list hls ?_
  have up : ∀ b o, s.heap.get? b = some o → (s.heap.push { cls := .type "list_iterator", data := .fields #[.ref l, .int 0 0] }).get? b = some o := fun b o e => Heap.get?_push_of_some _ e
  refine loop_core (Walks.list hh s.heap.objs.size l n4 its) (fun i h st => by obtain ⟨o, e, _⟩ := st.1; exact ⟨o, e⟩) [(l, W.listOf its c)] (fun b hb => ?_) ⟨⟨_, Heap.get?_push_size _ rfl, rfl, rfl⟩, hls.push _⟩ (F.keeps up) (N.grown up) n1 n2 n3 J
    (fun i m' nw hJ p hp => by rw [List.mem_singleton.mp hp]; exact hJx i m' nw hJ) h0 (fun i v m₁ news₁ oI h tk _ hP hJ ne F' N' => turn i v m₁ news₁ _ oI h tk hP hJ ne F' N') fun m₁ news₁ h tk hJ F' N' _ => done m₁ news₁ h tk hJ F' N'
  rcases List.mem_cons.mp hb with q | q
  · exact .inl q
  · right; rw [List.mem_singleton.mp q]; simp

theorem loop_tuple {l : Addr} {its : Array Value} {c : Nat} (hh : A.handled = none) (F : Fr h₀ env.locals s.heap m) (N : News h₀ env.locals s.heap news) (hm : (l, ({ cls := .type "tuple", data := .seq its c } : Obj)) ∈ news)
    (J : Nat → (Str → Option Value) → List (Addr × Obj) → Prop) (hJx : ∀ i m' nw, J i m' nw → (l, ({ cls := .type "tuple", data := .seq its c } : Obj)) ∈ nw) (h0 : J 0 m news)
    (turn : ∀ i v m₁ news₁ I oI h tk, its[i]? = some v → J i m₁ news₁ → (∀ p ∈ news₁, @Ne Nat p.1 I) → Fr h₀ env.locals h (fun y => if y = x then some v else m₁ y) → News h₀ env.locals h ((I, oI) :: news₁) →
      wpAny (model prog w) A (execs body env) (TurnE h₀ env.locals I oI (J (i + 1)) s Q) E { s with heap := h, toks := tk })
    (done : ∀ m₁ news₁ h tk, J its.size m₁ news₁ → Fr h₀ env.locals h m₁ → News h₀ env.locals h news₁ → Q .next { s with heap := h, toks := tk }) :
    wpAny (model prog w) A (pyIter (.ref l)) (fun it s₂ => LoopAtV prog w A h₀ env x body Q E it s₂) E s := by
  have hls : s.heap.IsTuple l its := ⟨_, (N _ hm).1, rfl, c, rfl⟩
  obtain ⟨n1, n2, n3, n4⟩ := new_ne F N (N _ hm).1
  refine wpAny_pyIter_tuple hls ?_
  have up : ∀ b o, s.heap.get? b = some o → (s.heap.push { cls := .type "tuple_iterator", data := .fields #[.ref l, .int 0 0] }).get? b = some o := fun b o e => Heap.get?_push_of_some _ e
  refine loop_core (Walks.tuple hh s.heap.objs.size l n4 its) (fun i h st => by obtain ⟨o, e, _⟩ := st.1; exact ⟨o, e⟩) [(l, ({ cls := .type "tuple", data := .seq its c } : Obj))] (fun b hb => ?_) ⟨⟨_, Heap.get?_push_size _ rfl, rfl, rfl⟩, hls.push _⟩ (F.keeps up) (N.grown up) n1 n2 n3 J
    (fun i m' nw hJ p hp => by rw [List.mem_singleton.mp hp]; exact hJx i m' nw hJ) h0 (fun i v m₁ news₁ oI h tk _ hP hJ ne F' N' => turn i v m₁ news₁ _ oI h tk hP hJ ne F' N') fun m₁ news₁ h tk hJ F' N' _ => done m₁ news₁ h tk hJ F' N'
  rcases List.mem_cons.mp hb with q | q
  · exact .inl q
  · right; rw [List.mem_singleton.mp q]; simp

theorem loop_range {r : Addr} {a b : Int} {t u v : Tok} {n : Nat} (hh : A.handled = none) (F : Fr h₀ env.locals s.heap m) (N : News h₀ env.locals s.heap news) (hr : IsRange s.heap r a b 1 t u v) (hsm : Builtin.Range.small a b 1 = true) (hn : Builtin.Range.rangeSize a b 1 = ((n : Nat) : Int))
    (J : Nat → (Str → Option Value) → List (Addr × Obj) → Prop) (h0 : J 0 m news)
    (turn : ∀ (i : Nat) tv m₁ news₁ I oI h tk, i < n → J i m₁ news₁ → (∀ p ∈ news₁, @Ne Nat p.1 I) → Fr h₀ env.locals h (fun y => if y = x then some (.int (a + (i : Int)) tv) else m₁ y) → News h₀ env.locals h ((I, oI) :: news₁) →
      wpAny (model prog w) A (execs body env) (TurnE h₀ env.locals I oI (J (i + 1)) s Q) E { s with heap := h, toks := tk })
    (done : ∀ m₁ news₁ h tk, J n m₁ news₁ → Fr h₀ env.locals h m₁ → News h₀ env.locals h news₁ → Q .next { s with heap := h, toks := tk }) :
    wpAny (model prog w) A (pyIter (.ref r)) (fun it s₂ => LoopAtV prog w A h₀ env x body Q E it s₂) E s := by
  refine wpAny_pyIter_range hr hsm ?_
  refine loop_core (LCg.range_walks hh a n) (fun i h st => ⟨_, st⟩) [] (fun b hb => .inl (List.mem_singleton.mp hb)) (by show IsRangeIter _ _ _ _ _; rw [hn]; simpa using Heap.get?_push_size _ rfl) (F.keeps fun _ _ e => Heap.get?_push_of_some _ e) (N.grown fun _ _ e => Heap.get?_push_of_some _ e)
    (Nat.ne_of_lt F.ns.lt) (next_is_new F) (fun p hp => Nat.ne_of_lt (Heap.lt_size (N p hp).1)) J (fun i m' nw hJ p hp => nomatch hp) h0 (fun i v m₁ news₁ oI h tk hi hP hJ ne F' N' => ?_) fun m₁ news₁ h tk hJ F' N' _ => done m₁ news₁ h tk hJ F' N'
  obtain ⟨tv, rfl⟩ := hP
  exact turn i tv m₁ news₁ _ oI h tk hi hJ ne F' N'
end
abbrev tupO (vs : List Value) (c : Nat) : Obj := { cls := .type "tuple", data := .seq vs.toArray c }
abbrev Rows := List (List Int)
def rowOf (rows : Rows) (st : Int) : List Int := rows.getD st.toNat []
def cellOf (rows : Rows) (st k : Int) : Int := (rowOf rows st).getD k.toNat 0
/-- the rows are two wide, their cells states or -1 -/
def Wf (rows : Rows) : Prop := 0 < rows.length ∧ rows.length ≤ 8 ∧ ∀ st : Int, 0 ≤ st → st < rows.length → (rowOf rows st).length = 2 ∧ ∀ k : Int, 0 ≤ k → k < 2 → -1 ≤ cellOf rows st k ∧ cellOf rows st k < rows.length

def RowIn (O : List (Addr × Obj)) (b : Addr) (r : List Int) : Prop := ∃ vs c, (b, W.listOf vs.toArray c) ∈ O ∧ IntsAre vs r
def TupIn (O : List (Addr × Obj)) (b : Addr) (r : List Int) : Prop := ∃ vs c, (b, tupO vs c) ∈ O ∧ IntsAre vs r
def RowsIn (O : List (Addr × Obj)) (a : Addr) (rows : Rows) : Prop :=
  ∃ (as : List Addr) (c : Nat), (a, W.listOf (as.map Value.ref).toArray c) ∈ O ∧ as.length = rows.length ∧ ∀ (i : Nat) (b : Addr) (r : List Int), as[i]? = some b → rows[i]? = some r → RowIn O b r
def TagsIn (O : List (Addr × Obj)) (a : Addr) (tags : Rows) : Prop :=
  ∃ (as : List Addr) (c : Nat), (a, W.listOf (as.map Value.ref).toArray c) ∈ O ∧ as.length = tags.length ∧ ∀ (i : Nat) (b : Addr) (r : List Int), as[i]? = some b → tags[i]? = some r → TupIn O b r

theorem RowIn.mono {O O' : List (Addr × Obj)} {b : Addr} {r : List Int} (h : RowIn O b r) (k : ∀ p ∈ O, p ∈ O') : RowIn O' b r := let ⟨vs, c, a, e⟩ := h; ⟨vs, c, k _ a, e⟩
theorem TupIn.mono {O O' : List (Addr × Obj)} {b : Addr} {r : List Int} (h : TupIn O b r) (k : ∀ p ∈ O, p ∈ O') : TupIn O' b r := let ⟨vs, c, a, e⟩ := h; ⟨vs, c, k _ a, e⟩
theorem RowsIn.mono {O O' : List (Addr × Obj)} {a : Addr} {rows : Rows} (h : RowsIn O a rows) (k : ∀ p ∈ O, p ∈ O') : RowsIn O' a rows :=
  let ⟨as, c, x, y, z⟩ := h; ⟨as, c, k _ x, y, fun i b r e1 e2 => (z i b r e1 e2).mono k⟩
theorem TagsIn.mono {O O' : List (Addr × Obj)} {a : Addr} {rows : Rows} (h : TagsIn O a rows) (k : ∀ p ∈ O, p ∈ O') : TagsIn O' a rows :=
  let ⟨as, c, x, y, z⟩ := h; ⟨as, c, k _ x, y, fun i b r e1 e2 => (z i b r e1 e2).mono k⟩

abbrev dfaD (P : Params) (ra ta : Addr) (t1 t2 : Tok) : Obj := dictOf [⟨PyData.keyHash P "rows", .str "rows" t1, .ref ra⟩, ⟨PyData.keyHash P "tags", .str "tags" t2, .ref ta⟩] 2
def DfaIn (P : Params) (O : List (Addr × Obj)) (d : Addr) (rows tags : Rows) : Prop :=
  ∃ dx ra ta t1 t2, (d, instObj 76 dx) ∈ O ∧ (dx, dfaD P ra ta t1 t2) ∈ O ∧ RowsIn O ra rows ∧ TagsIn O ta tags
theorem DfaIn.mono {P : Params} {O O' : List (Addr × Obj)} {d : Addr} {rows tags : Rows} (h : DfaIn P O d rows tags) (k : ∀ p ∈ O, p ∈ O') : DfaIn P O' d rows tags :=
  let ⟨dx, ra, ta, t1, t2, a, b, c, e⟩ := h; ⟨dx, ra, ta, t1, t2, k _ a, k _ b, c.mono k, e.mono k⟩

section
variable {prog : Program} {w : World} {A : Around} {E : Value → Shared → Prop} {s : Shared} {h₀ : Heap} {L : Addr} {news O : List (Addr × Obj)}

theorem rows_get {a : Addr} {rows : Rows} {k : Int} {u : Tok} {Q : Value → Shared → Prop} (N : News h₀ L s.heap news) (hO : ∀ p ∈ O, p ∈ news) (hR : RowsIn O a rows)
    (h0 : 0 ≤ k) (h1 : k < rows.length) (hf : rows.length ≤ 8) (h : ∀ b, RowIn O b (rowOf rows k) → Q (.ref b) s) :
    wpAny (model prog w) A (getItem (.ref a) (.int k u)) Q E s := by
  obtain ⟨as, c, hm, hl, hz⟩ := hR
  have hk : k.toNat < rows.length := by omega
  have e1 : as[k.toNat]? = some as[k.toNat] := by simp [hl, hk]
  have e2 : rows[k.toNat]? = some (rowOf rows k) := by simp [rowOf, List.getD, hk]
  exact wpAny_getItem_list (islist_of N (hO _ hm)) h0 (by omega) (x := .ref as[k.toNat]) (by simp [hl, hk]) (h _ (hz _ _ _ e1 e2))
theorem rows_tail {value slice : PySem.Expr} {a : Addr} {rows : Rows} {k : Int} {u : Tok} {Q : Value → Shared → Prop} (N : News h₀ L s.heap news) (hO : ∀ p ∈ O, p ∈ news) (hR : RowsIn O a rows)
    (h0 : 0 ≤ k) (h1 : k < rows.length) (hW : Wf rows) (h : ∀ b, RowIn O b (rowOf rows k) → (rowOf rows k).length = 2 → Q (.ref b) s)
    (hs : subscripted slice false (.ref a) (.int k u) = operate [.ref a, .int k u] (getItem (.ref a) (.int k u))) :
    wpAny (model prog w) A (subscriptTail value slice (.ref a) (.int k u)) Q E s := by
  have hR' := hR
  obtain ⟨as, c, hm, _⟩ := hR'
  exact tail_any (islist_of N (hO _ hm)).typeIs slot_list_getitem.lookup (rows_get N hO hR h0 h1 hW.2.1 fun b hb => h b hb (hW.2.2 k h0 h1).1) hs
theorem row_tail {value slice : PySem.Expr} {b : Addr} {r : List Int} {k : Int} {u : Tok} {Q : Value → Shared → Prop} (N : News h₀ L s.heap news) (hO : ∀ p ∈ O, p ∈ news) (hR : RowIn O b r)
    (h0 : 0 ≤ k) (h1 : k < r.length) (hf : r.length < 2 ^ 40) (h : ∀ t, Q (.int (r.getD k.toNat 0) t) s)
    (hs : subscripted slice false (.ref b) (.int k u) = operate [.ref b, .int k u] (getItem (.ref b) (.int k u))) :
    wpAny (model prog w) A (subscriptTail value slice (.ref b) (.int k u)) Q E s := by
  obtain ⟨vs, c, hm, hv⟩ := hR
  refine item_ints N (hO _ hm) hv h0 h1 hf (fun n t hn => ?_) hs
  have : r.getD k.toNat 0 = n := by simp [List.getD, hn]
  rw [← this]; exact h t
theorem row_len {b : Addr} {r : List Int} {Q : Value → Shared → Prop} (N : News h₀ L s.heap news) (hO : ∀ p ∈ O, p ∈ news) (hR : RowIn O b r) (hf : r.length < 2 ^ 40)
    (h : ∀ t tk, Q (.int (r.length : Int) t) { s with toks := tk }) : wpAny (model prog w) A (call (.builtin "len") [.ref b]) Q E s := by
  obtain ⟨vs, c, hm, hv⟩ := hR
  exact len_ints N (hO _ hm) hv hf h
theorem rows_len {a : Addr} {rows : Rows} {Q : Value → Shared → Prop} (N : News h₀ L s.heap news) (hO : ∀ p ∈ O, p ∈ news) (hR : RowsIn O a rows) (hf : rows.length < 2 ^ 40)
    (h : ∀ t tk, Q (.int (rows.length : Int) t) { s with toks := tk }) : wpAny (model prog w) A (call (.builtin "len") [.ref a]) Q E s := by
  obtain ⟨as, c, hm, hl, hz⟩ := hR
  refine Calls.call_len_list (islist_of N (hO _ hm)) (by rw [List.size_toArray, List.length_map, hl]; omega) ?_
  rw [List.size_toArray, List.length_map, hl]
  exact h _ _
theorem tags_tail {value slice : PySem.Expr} {a : Addr} {tags : Rows} {k : Int} {u : Tok} {Q : Value → Shared → Prop} (N : News h₀ L s.heap news) (hO : ∀ p ∈ O, p ∈ news) (hR : TagsIn O a tags)
    (h0 : 0 ≤ k) (h1 : k < tags.length) (hf : tags.length ≤ 8) (h : ∀ b, TupIn O b (rowOf tags k) → Q (.ref b) s)
    (hs : subscripted slice false (.ref a) (.int k u) = operate [.ref a, .int k u] (getItem (.ref a) (.int k u))) :
    wpAny (model prog w) A (subscriptTail value slice (.ref a) (.int k u)) Q E s := by
  obtain ⟨as, c, hm, hl, hz⟩ := hR
  have hk : k.toNat < tags.length := by omega
  have e1 : as[k.toNat]? = some as[k.toNat] := by simp [hl, hk]
  have e2 : tags[k.toNat]? = some (rowOf tags k) := by simp [rowOf, List.getD, hk]
  exact tail_any (islist_of N (hO _ hm)).typeIs slot_list_getitem.lookup (wpAny_getItem_list (islist_of N (hO _ hm)) h0 (by omega) (x := .ref as[k.toNat]) (by simp [hl, hk]) (h _ (hz _ _ _ e1 e2))) hs
theorem tup_truthy {b : Addr} {r : List Int} {Q : Bool → Shared → Prop} (N : News h₀ L s.heap news) (hO : ∀ p ∈ O, p ∈ news) (hR : TupIn O b r) (hf : r.length < 2 ^ 40)
    (h : ∀ tk, Q (decide (0 < r.length)) { s with toks := tk }) : wpAny (model prog w) A (truthy (.ref b)) Q E s := by
  obtain ⟨vs, c, hm, hv⟩ := hR
  have e := hv.length
  refine truthy_tuple (items := vs.toArray) ⟨_, (N _ (hO _ hm)).1, rfl, c, rfl⟩ (by rw [List.size_toArray]; omega) ?_
  have e2 : (!vs.toArray.isEmpty) = decide (0 < r.length) := by
    rw [← e]
    cases vs <;> simp
  rw [e2]; exact h _
theorem refs_truthy {D : Addr} {ts : List Addr} {c : Nat} {Q : Bool → Shared → Prop} (N : News h₀ L s.heap news) (hm : (D, W.listOf (ts.map Value.ref).toArray c) ∈ news) (hf : ts.length < 2 ^ 40)
    (h : ∀ tk, Q (decide (0 < ts.length)) { s with toks := tk }) : wpAny (model prog w) A (truthy (.ref D)) Q E s := by
  refine wpAny_truthy_list (islist_of N hm) (by rw [List.size_toArray, List.length_map]; omega) ?_
  have e2 : (!(ts.map Value.ref).toArray.isEmpty) = decide (0 < ts.length) := by cases ts <;> simp
  rw [e2]; exact h _
theorem refs_tail {value slice : PySem.Expr} {D : Addr} {ts : List Addr} {c : Nat} {k : Int} {u : Tok} {Q : Value → Shared → Prop} (N : News h₀ L s.heap news) (hm : (D, W.listOf (ts.map Value.ref).toArray c) ∈ news)
    (h0 : 0 ≤ k) (h1 : k < ts.length) (hf : ts.length < 2 ^ 40) (h : ∀ b, ts[k.toNat]? = some b → Q (.ref b) s)
    (hs : subscripted slice false (.ref D) (.int k u) = operate [.ref D, .int k u] (getItem (.ref D) (.int k u))) :
    wpAny (model prog w) A (subscriptTail value slice (.ref D) (.int k u)) Q E s := by
  have hk : k.toNat < ts.length := by omega
  exact tail_any (islist_of N hm).typeIs slot_list_getitem.lookup (wpAny_getItem_list (islist_of N hm) h0 (by omega) (x := .ref ts[k.toNat]) (by simp [hk]) (h _ (by simp [hk]))) hs
theorem bools_of : ∀ bs : List Bool, LSm.BoolsAre (bs.map Value.bool) bs
  | [] => .nil
  | b :: r => .cons b (bools_of r)
theorem bools_tail {value slice : PySem.Expr} {D : Addr} {bs : List Bool} {c : Nat} {k : Int} {u : Tok} {Q : Value → Shared → Prop} (N : News h₀ L s.heap news) (hm : (D, W.listOf (bs.map Value.bool).toArray c) ∈ news)
    (h0 : 0 ≤ k) (h1 : k < bs.length) (hf : bs.length < 2 ^ 40) (h : Q (.bool (bs.getD k.toNat false)) s)
    (hs : subscripted slice false (.ref D) (.int k u) = operate [.ref D, .int k u] (getItem (.ref D) (.int k u))) :
    wpAny (model prog w) A (subscriptTail value slice (.ref D) (.int k u)) Q E s := kbo_sub N hm (bools_of bs) h0 h1 (by omega) h hs
theorem bools_set {D : Addr} {bs : List Bool} {c : Nat} {k : Int} {t : Tok} {b : Bool} {m : Str → Option Value} {news' : List (Addr × Obj)} {Q : Unit → Shared → Prop} (F : Fr h₀ L s.heap m) (N : News h₀ L s.heap news)
    (U : Upd D (W.listOf (bs.map Value.bool).toArray c) (W.listOf ((bs.set k.toNat b).map Value.bool).toArray c) news news') (h0 : 0 ≤ k) (h1 : k < bs.length) (hf : bs.length < 2 ^ 40)
    (h : ∀ h', Fr h₀ L h' m → News h₀ L h' news' → Q () { s with heap := h' }) : wpAny (model prog w) A (setItem (.ref D) (.int k t) (.bool b)) Q E s := by
  have e : (bs.set k.toNat b).map Value.bool = (bs.map Value.bool).set k.toNat (.bool b) := by rw [List.map_set]
  rw [e] at U
  exact kbo_set F N U (bools_of bs) h0 h1 (by omega) fun h' F' N' _ _ => h h' F' N'
theorem falses {l : Addr} {c : Nat} {x : Int} {u : Tok} {m : Str → Option Value} {Q : Value → Shared → Prop} (F : Fr h₀ L s.heap m) (N : News h₀ L s.heap news) (hm : (l, W.listOf #[.bool false] c) ∈ news) (h0 : 0 ≤ x) (h1 : x ≤ 100)
    (h : ∀ D h', Fr h₀ L h' m → News h₀ L h' ((D, W.listOf ((List.replicate x.toNat false).map Value.bool).toArray 0) :: news) → (∀ p ∈ news, p.1 < D) → Q (.ref D) { s with heap := h' }) : wpAny (model prog w) A (binaryOp .Mult (.ref l) (.int x u)) Q E s := by
  refine kbo_mul (vs := [.bool false]) (bs := [false]) F N (islist_of N hm) (.cons _ .nil) (by omega) (by omega) (by simp only [List.length_cons, List.length_nil]; omega) ?_
  intro D h' F' N' lt hb _ _ _ _ _ _
  have e : (List.replicate x.toNat [Value.bool false]).flatten = (List.replicate x.toNat false).map Value.bool := by simp
  rw [e] at N'
  exact h D h' F' N' lt
theorem ints_truthy {D : Addr} {vs : List Value} {ns : List Int} {c : Nat} {Q : Bool → Shared → Prop} (N : News h₀ L s.heap news) (hm : (D, W.listOf vs.toArray c) ∈ news) (hv : IntsAre vs ns) (hf : ns.length < 2 ^ 40)
    (h : ∀ tk, Q (decide (0 < ns.length)) { s with toks := tk }) : wpAny (model prog w) A (truthy (.ref D)) Q E s := by
  have e := hv.length
  refine wpAny_truthy_list (islist_of N hm) (by rw [List.size_toArray]; omega) ?_
  have e2 : (!vs.toArray.isEmpty) = decide (0 < ns.length) := by rw [← e]; cases vs <;> simp
  rw [e2]; exact h _
theorem rows_tail0 {value slice : PySem.Expr} {a : Addr} {rows : Rows} {k : Int} {u : Tok} {Q : Value → Shared → Prop} (N : News h₀ L s.heap news) (hO : ∀ p ∈ O, p ∈ news) (hR : RowsIn O a rows)
    (h0 : 0 ≤ k) (h1 : k < rows.length) (hf : rows.length ≤ 8) (h : ∀ b, RowIn O b (rowOf rows k) → Q (.ref b) s)
    (hs : subscripted slice false (.ref a) (.int k u) = operate [.ref a, .int k u] (getItem (.ref a) (.int k u))) :
    wpAny (model prog w) A (subscriptTail value slice (.ref a) (.int k u)) Q E s := by
  have hR' := hR
  obtain ⟨as, c, hm, _⟩ := hR'
  exact tail_any (islist_of N (hO _ hm)).typeIs slot_list_getitem.lookup (rows_get N hO hR h0 h1 hf h) hs
theorem row_in {b : Addr} {r : List Int} {k : Int} {u : Tok} {Q : Value → Shared → Prop} (N : News h₀ L s.heap news) (hO : ∀ p ∈ O, p ∈ news) (hR : RowIn O b r)
    (h : Q (.bool (decide (k ∈ r))) s) : wpAny (model prog w) A (compareOp .In (.int k u) (.ref b)) Q E s := by
  obtain ⟨vs, c, hm, hv⟩ := hR
  have e : (r.any fun x => x == k) = decide (k ∈ r) := by rw [Bool.eq_iff_iff]; simp
  exact in_list_ints (islist_of N (hO _ hm)) hv (by rw [e]; exact h)
end
theorem off_of_allLt {d : Addr} {l : List (Addr × Obj)} (h : AllLt d l) : ∀ p ∈ l, p.1 ≠ d := by
  induction l with
  | nil => intro p hp; cases hp
  | cons q r ih =>
    intro p hp
    have h' : @LT.lt Nat _ q.1 d ∧ AllLt d r := h
    rcases List.mem_cons.mp hp with rfl | hp
    · exact Nat.ne_of_lt h'.1
    · exact ih h'.2 p hp
theorem ne_by {h₀ h : Heap} {L a b : Addr} {oa ob : Obj} {news : List (Addr × Obj)} (N : News h₀ L h news) (ha : (a, oa) ∈ news) (hb : (b, ob) ∈ news) (hne : oa.data ≠ ob.data) : @Ne Nat a b := fun e => by
  have e1 := (N _ ha).1
  have e2 := (N _ hb).1
  dsimp only at e1 e2
  rw [e, e2] at e1
  cases e1
  exact hne rfl
theorem off_of_lt {d : Addr} {l : List (Addr × Obj)} (h : ∀ p ∈ l, p.1 < d) : ∀ p ∈ l, p.1 ≠ d := fun p hp => Nat.ne_of_lt (h p hp)
theorem mem_app_r {α : Type} {O T : List α} : ∀ p ∈ O, p ∈ T ++ O := fun _ h => List.mem_append_right _ h
theorem mem_self {α : Type} {O : List α} : ∀ p ∈ O, p ∈ O := fun _ h => h
theorem mem_cons' {α : Type} {O O' : List α} {a : α} (h : ∀ p ∈ O, p ∈ O') : ∀ p ∈ O, p ∈ a :: O' := fun p hp => List.mem_cons_of_mem _ (h p hp)

theorem Wf.row {rows : Rows} (h : Wf rows) {st : Int} (h0 : 0 ≤ st) (h1 : st < rows.length) : (rowOf rows st).length = 2 := (h.2.2 st h0 h1).1
theorem Wf.cell {rows : Rows} (h : Wf rows) {st k : Int} (h0 : 0 ≤ st) (h1 : st < rows.length) (k0 : 0 ≤ k) (k1 : k < 2) : -1 ≤ cellOf rows st k ∧ cellOf rows st k < rows.length := (h.2.2 st h0 h1).2 k k0 k1

theorem rev_map {ts : List Addr} : ((ts.map Value.ref).toArray).toList.reverse = ts.reverse.map Value.ref := by simp
def Short (tags : Rows) : Prop := ∀ st : Int, (rowOf tags st).length ≤ 8
theorem Short.at {tags : Rows} (h : Short tags) (st : Int) : (rowOf tags st).length < 2 ^ 40 := by have := h st; omega
def stepW (rows : Rows) (st k : Int) : Int := if 0 ≤ st then cellOf rows st k else -1
def walkF (rows : Rows) (word : List Int) : Int := word.foldl (stepW rows) 0
theorem stepW_bounds {rows : Rows} (h : Wf rows) {st k : Int} (h1 : st < rows.length) (k0 : 0 ≤ k) (k1 : k < 2) : -1 ≤ stepW rows st k ∧ stepW rows st k < rows.length := by
  unfold stepW
  have := h.1
  split
  · exact h.cell (by omega) h1 k0 k1
  · omega
theorem walkF_take {rows : Rows} {word : List Int} {i : Nat} {k : Int} (h : word[i]? = some k) : walkF rows (word.take (i + 1)) = stepW rows (walkF rows (word.take i)) k := by
  unfold walkF; rw [List.take_add_one, h]; simp
theorem walkF_bounds {rows : Rows} (h : Wf rows) : ∀ {word : List Int}, (∀ k ∈ word, 0 ≤ k ∧ k < 2) → -1 ≤ walkF rows word ∧ walkF rows word < rows.length := by
  have key : ∀ (word : List Int) (st : Int), (-1 ≤ st ∧ st < rows.length) → (∀ k ∈ word, 0 ≤ k ∧ k < 2) → -1 ≤ word.foldl (stepW rows) st ∧ word.foldl (stepW rows) st < rows.length := by
    intro word
    induction word with
    | nil => intro st hs _; exact hs
    | cons k r ih =>
      intro st hs hb
      have := hb k (by simp)
      exact ih _ (stepW_bounds h hs.2 this.1 this.2) fun k hk => hb k (List.mem_cons_of_mem _ hk)
  intro word hb
  exact key word 0 ⟨by omega, by have := h.1; omega⟩ hb
section
variable {prog : Program} {w : World} {A : Around} {h₀ : Heap} {L : Addr} {m : Str → Option Value} {env : Env} {ct elt : Expr} {x : Str} {scope : Scope} {cl : List (Str × Addr)} {s : Shared} {S : List (Addr × Obj) → Prop} {P : Nat → Value → Prop} {Fin : List Value → List (Addr × Obj) → Prop} {n : Nat} {news : List (Addr × Obj)}

theorem CompEnd.mono {s₁ : Shared} {I C D : Addr} {oI oC oD : Obj} {r r' : Value → List (Addr × Obj) → Prop} {y : Value} {s₂ : Shared} (h : LCg.CompEnd h₀ L m s₁ I oI C oC D oD S r y s₂) (k : ∀ y nw, r y nw → r' y nw) : LCg.CompEnd h₀ L m s₁ I oI C oC D oD S r' y s₂ :=
  let ⟨h', tk, nw, e, F, N, o, hS, q⟩ := h; ⟨h', tk, nw, e, F, N, o, hS, k _ _ q⟩

theorem comp_U (J : Nat → List Value → List (Addr × Obj) → Prop) (h0 : J 0 [] news)
    (turn : ∀ i ys nw v I oI C oC D m₂ h tk (E' : Value → Shared → Prop), i < n → J i ys nw → P i v → LCg.NsObj oC m₂ → m₂ x = some v → Fr h₀ L h m → News h₀ L h ((I, oI) :: (C, oC) :: (D, LCg.lst ys) :: nw) → LCg.Off3 I C D nw → ((@Ne Nat I C) ∧ (@Ne Nat I D) ∧ (@Ne Nat C D)) →
      wpAny (model prog w) A (eval elt (compEnvC scope cl C env)) (LCg.CompEnd h₀ L m { s with heap := h, toks := tk } I oI C oC D (LCg.lst ys) S (fun y nw' => J (i + 1) (ys ++ [y]) nw')) E' { s with heap := h, toks := tk })
    (fin : ∀ ys nw, J n ys nw → Fin ys nw) : LCg.CompRest prog w A h₀ L m env elt x scope cl s S P Fin n 0 [] news := by
  have key : ∀ (k i : Nat) (ys : List Value) (nw : List (Addr × Obj)), i + k = n → J i ys nw → LCg.CompRest prog w A h₀ L m env elt x scope cl s S P Fin k i ys nw := by
    intro k
    induction k with
    | zero =>
      intro i ys nw hi hJ
      have e : i = n := by omega
      subst e
      exact LCg.CompRest.zero (fin ys nw hJ)
    | succ k ih =>
      intro i ys nw hi hJ
      refine LCg.CompRest.succ ?_
      intro v I oI C oC D m₂ h tk E' hP hC hx F N off ne
      exact wpAny_mono (turn i ys nw v I oI C oC D m₂ h tk E' (by omega) hJ hP hC hx F N off ne) (fun y s₂ hq => CompEnd.mono hq fun y nw' hj => ih (i + 1) _ _ (by omega) hj) fun _ _ e => e
  exact key n 0 [] news (by omega) h0

theorem comp_T (J : Nat → List Value → List (Addr × Obj) → Prop) (h0 : J 0 [] news)
    (turn : ∀ i ys nw v I oI C oC D m₂ h tk (E' : Value → Shared → Prop), i < n → J i ys nw → P i v → LCg.NsObj oC m₂ → m₂ x = some v → Fr h₀ L h m → News h₀ L h ((I, oI) :: (C, oC) :: (D, LCg.lst ys) :: nw) → LCg.Off3 I C D nw → ((@Ne Nat I C) ∧ (@Ne Nat I D) ∧ (@Ne Nat C D)) →
      wpAny (model prog w) A (isTrue ct (compEnvC scope cl C env) (eval ct (compEnvC scope cl C env))) (fun ok s' => if ok = true then
        wpAny (model prog w) A (eval elt (compEnvC scope cl C env)) (LCg.CompEnd h₀ L m { s with heap := h, toks := tk } I oI C oC D (LCg.lst ys) S (fun y nw' => J (i + 1) (ys ++ [y]) nw')) E' s'
        else LCg.CompEnd h₀ L m { s with heap := h, toks := tk } I oI C oC D (LCg.lst ys) S (fun _ nw' => J (i + 1) ys nw') Value.none s') E' { s with heap := h, toks := tk })
    (fin : ∀ ys nw, J n ys nw → Fin ys nw) : LCt.CompRestT prog w A h₀ L m env ct elt x scope cl s S P Fin n 0 [] news := by
  have key : ∀ (k i : Nat) (ys : List Value) (nw : List (Addr × Obj)), i + k = n → J i ys nw → LCt.CompRestT prog w A h₀ L m env ct elt x scope cl s S P Fin k i ys nw := by
    intro k
    induction k with
    | zero =>
      intro i ys nw hi hJ
      have e : i = n := by omega
      subst e
      exact LCt.CompRestT.zero (fin ys nw hJ)
    | succ k ih =>
      intro i ys nw hi hJ
      refine LCt.CompRestT.succ ?_
      intro v I oI C oC D m₂ h tk E' hP hC hx F N off ne
      refine wpAny_mono (turn i ys nw v I oI C oC D m₂ h tk E' (by omega) hJ hP hC hx F N off ne) (fun ok s₂ hq => ?_) fun _ _ e => e
      cases ok with
      | true =>
        simp only [if_true] at hq ⊢
        exact wpAny_mono hq (fun y s₃ hq => CompEnd.mono hq fun y nw' hj => ih (i + 1) _ _ (by omega) hj) fun _ _ e => e
      | false =>
        simp only [Bool.false_eq_true, if_false] at hq ⊢
        exact CompEnd.mono hq fun y nw' hj => ih (i + 1) _ _ (by omega) hj
  exact key n 0 [] news (by omega) h0
theorem Off1.mem {D : Addr} : ∀ {l : List (Addr × Obj)}, LCg.Off1 D l → ∀ p ∈ l, @Ne Nat p.1 D
  | [], _, _, h => nomatch h
  | _ :: _, x, p, h => by
    rcases List.mem_cons.mp h with rfl | h
    · exact x.1
    · exact Off1.mem x.2 p h
end
section
variable {prog : Program} {w : World} {A : Around} {E : Value → Shared → Prop} {hp : Heap} {gs : Array GenState} {dr : Drawn} {tk : Nat} {os : OsState} {h₀ : Heap} {L l : Addr} {m : Str → Option Value} {news : List (Addr × Obj)} {vs : List Value} {ns ms : List Int} {vl vu : Value} {lo hi : Option Int} {value slice : PySem.Expr} {Q : Value → Shared → Prop}
theorem slice_ok (F : Fr h₀ L hp m) (N : News h₀ L hp news) (hl : hp.IsList l vs.toArray) (pl : IsPart vl lo) (pu : IsPart vu hi) (hi' : IntsAre vs ns) (hm : IntsAre (slicePick vs.toArray lo hi none).toList ms) (hlen : ns.length ≤ 1000)
    (h : ∀ D ws h', Fr h₀ L h' m → News h₀ L h' ((D, W.listOf (List.toArray ws) 0) :: news) → (∀ p ∈ news, p.1 < D) → IntsAre ws ms → ms.length ≤ ns.length → Q (.ref D) ⟨h', gs, dr, tk, os⟩)
    (hs : subscripted slice false (.ref l) (.ref hp.objs.size) = operate [.ref hp.objs.size, .ref l] (getItem (.ref l) (.ref hp.objs.size))) (ht : ∀ r, letTemporaryGo value (.ref l) r = pure ()) :
    wpAny (model prog w) A (subscriptTail value slice (.ref l) (.ref hp.objs.size)) Q E ⟨hp.push { cls := .type "slice", data := .fields #[vl, vu, .none] }, gs, dr, tk, os⟩ :=
  kmk_slice_ints (s := ⟨hp, gs, dr, tk, os⟩) F N hl pl pu hi' hm rfl (fun D ws h' F' N' l1 a _ c => h D ws h' F' N' l1 a c) hs ht (by rw [List.size_toArray, hi'.length, sizeLine_eq]; omega)
end
section
theorem quiet2 : True := by
  w_top off
  exact True.intro
/-- a set of few small ints: the table's places are the elements -/
inductive Ents : List (Int × Value) → List Nat → Prop
  | nil : Ents [] []
  | cons {l : List (Int × Value)} {pl : List Nat} (k : Nat) (t : Tok) : Ents l pl → Ents ((hashInt (k : Int), .int (k : Int) t) :: l) (k :: pl)
theorem Ents.append : ∀ {l l' : List (Int × Value)} {pl pl' : List Nat}, Ents l pl → Ents l' pl' → Ents (l ++ l') (pl ++ pl')
  | _, _, _, _, .nil, h => h
  | _, _, _, _, .cons k t h1, h => .cons k t (h1.append h)
theorem Ents.take : ∀ {l : List (Int × Value)} {pl : List Nat}, Ents l pl → ∀ n, Ents (l.take n) (pl.take n)
  | _, _, .nil, n => by simp; exact .nil
  | _, _, .cons k t h, 0 => .nil
  | _, _, .cons k t h, n + 1 => .cons k t (h.take n)
theorem Ents.drop : ∀ {l : List (Int × Value)} {pl : List Nat}, Ents l pl → ∀ n, Ents (l.drop n) (pl.drop n)
  | _, _, .nil, n => by simp; exact .nil
  | _, _, .cons k t h, 0 => .cons k t h
  | _, _, .cons k t h, n + 1 => h.drop n
theorem Ents.length : ∀ {l : List (Int × Value)} {pl : List Nat}, Ents l pl → l.length = pl.length
  | _, _, .nil => rfl
  | _, _, .cons _ _ h => congrArg (· + 1) h.length
theorem Ents.ints : ∀ {l : List (Int × Value)} {pl : List Nat}, Ents l pl → IntsAre (l.map (·.2)) (pl.map fun k : Nat => (k : Int))
  | _, _, .nil => .nil
  | _, _, .cons _ t h => .cons _ t h.ints
theorem Ents.elems (prog : Program) (w : World) : ∀ {l : List (Int × Value)} {pl : List Nat}, Ents l pl → ElemsOf (intKind prog w) l
  | _, _, .nil => fun e he => by simp at he
  | _, _, .cons k t h => fun e he => by
    rcases List.mem_cons.mp he with rfl | he
    · exact ⟨⟨(k : Int), intKind_is _ _ _ _, rfl⟩, rfl⟩
    · exact h.elems prog w e he
theorem Ents.find (prog : Program) (w : World) (k : Nat) : ∀ {l : List (Int × Value)} {pl : List Nat}, Ents l pl → l.findIdx? (fun e => (intKind prog w).is (k : Int) e.2) = pl.findIdx? (fun j => decide (j = k))
  | _, _, .nil => rfl
  | _, _, .cons j t h => by
    have e : (intKind prog w).is (k : Int) (Value.int (j : Int) t) = decide (j = k) := by
      by_cases h9 : j = k
      · subst h9; simp [intKind, Value.isInt]
      · have h8 : ¬ (j : Int) = (k : Int) := by omega
        simp [intKind, Value.isInt, h8, h9]
    rw [List.findIdx?_cons, List.findIdx?_cons, Ents.find prog w k h]
    simp only [e]

def sTab (pl : List Nat) (led : Bool) : SetTable := { mask := 7, place := pl.toArray, dummies := #[], finger := 0, led := led, moves := 0, plain := true }
def Pls : List (List Nat) := [[], [1], [2], [3], [1, 2], [1, 3], [2, 3], [1, 2, 3]]
def ins (pl : List Nat) (k : Nat) : List Nat := pl.filter (fun j => decide (j < k)) ++ k :: pl.filter (fun j => decide (k < j))
theorem set_dec : ∀ pl ∈ Pls, ∀ k ∈ [1, 2, 3], ∀ led : Bool, k ∉ pl → (sTab pl led).freeSlot (hashInt (k : Int)) = some (k, false) ∧
    (sTab pl led).put k = (sTab (ins pl k) led, (pl.filter fun j => decide (j < k)).length) ∧ (sTab (ins pl k) led).tooFull = false ∧ (sTab (ins pl k) led).fits (pl.length + 1) = true ∧
    pl.take (pl.filter fun j => decide (j < k)).length ++ k :: pl.drop (pl.filter fun j => decide (j < k)).length = ins pl k := by decide +kernel
theorem set_ins : ∀ pl ∈ Pls, ∀ k ∈ [1, 2, 3], ins pl k ∈ Pls ∧ (k ∈ pl → ins pl k = pl) := by decide +kernel
theorem set_fits : ∀ pl ∈ Pls, ∀ led : Bool, (sTab pl led).fits pl.length = true ∧ pl.length ≤ 3 := by decide +kernel
theorem set_below : ∀ pl ∈ Pls, ∀ i ≤ pl.length, SetTable.below pl.toArray (if i = 0 then 0 else pl.getD (i - 1) 0 + 1) = i := by decide +kernel

theorem insertAt_toList {α : Type} (xs : Array α) (p : Nat) (x : α) : (SetTable.insertAt xs p x).toList = xs.toList.take p ++ x :: xs.toList.drop p := by
  simp [SetTable.insertAt, List.take_of_length_le]

def ledOf (w : World) : Bool := !(w.params.followText "set-order")
def SetO (w : World) (o : Obj) (pl : List Nat) : Prop := ∃ es ep, Ents (Array.toList es) pl ∧ o = { cls := .type "set", dict := none, data := .set es ep (sTab pl (ledOf w)) }
def SetI (w : World) (h : Heap) (a : Addr) (pl : List Nat) : Prop := ∃ o, h.get? a = some o ∧ SetO w o pl

section
variable {prog : Program} {w : World} {A : Around} {E : Value → Shared → Prop} {s : Shared}

theorem set_add {a : Addr} {pl : List Nat} {k : Nat} {t : Tok} {Q : Bool → Shared → Prop} (hp : pl ∈ Pls) (hk : k ∈ [1, 2, 3]) (hS : SetI w s.heap a pl)
    (h : ∀ b h', Heap.SameBut a s.heap h' → SetI w h' a (ins pl k) → Q b { s with heap := h', toks := s.toks + 1 }) : wpAny (model prog w) A (setAdd a (.int (k : Int) t)) Q E s := by
  obtain ⟨o, ho, es, ep, hv, rfl⟩ := hS
  have hsz : es.size = pl.length := by rw [← hv.length, Array.length_toList]
  have hf : (sTab pl (ledOf w)).fits es.size = true := by rw [hsz]; exact (set_fits pl hp _).1
  have hl3 := (set_fits pl hp true).2
  have hel := hv.elems prog w
  unfold setAdd
  refine wpAny_holding (wpAny_bind ((intKind prog w).pyHash (k := (k : Int)) (intKind_is _ _ _ _) ?_))
  unfold setAddHashed setAddHashedIn
  refine wpAny_holding (wpAny_bind (wpAny_setState_of (s := { s with toks := s.toks + 1 }) ho rfl hf ?_))
  dsimp only
  rw [byScan_of rfl (by rw [hsz]; unfold scanBound; omega) hel]
  simp only [↓reduceIte]
  unfold setAddByScan
  refine wpAny_bind ?_
  refine wpAny_bind (wpAny_rule ?_)
  refine wpAny_bind (wpAny_setScan_of (knd := intKind prog w) (k := (k : Int)) (intKind_is _ _ _ _) ho rfl hf hel ?_)
  rw [hv.find prog w k]
  by_cases hm : k ∈ pl
  · have e1 : ∃ j, pl.findIdx? (fun j => decide (j = k)) = some j := by
      cases e : pl.findIdx? (fun j => decide (j = k)) with
      | some j => exact ⟨j, rfl⟩
      | none => have := List.findIdx?_eq_none_iff.mp e k hm; simp at this
    obtain ⟨j, e1⟩ := e1
    rw [e1]
    dsimp only
    refine wpAny_pure (wpAny_pure ?_)
    exact h false s.heap (Heap.SameBut.refl a s.heap) (by rw [(set_ins pl hp k hk).2 hm]; exact ⟨_, ho, es, ep, hv, rfl⟩)
  · have e1 : pl.findIdx? (fun j => decide (j = k)) = none := List.findIdx?_eq_none_iff.mpr fun x hx => by
      have : x ≠ k := fun e => hm (e ▸ hx)
      simp [this]
    rw [e1]
    dsimp only
    obtain ⟨d1, d2, d3, d4, d5⟩ := set_dec pl hp k hk (ledOf w) hm
    have hes : Ents (SetTable.insertAt es (pl.filter fun j => decide (j < k)).length (hashInt (k : Int), Value.int (k : Int) t)).toList (ins pl k) := by
      rw [insertAt_toList, ← d5]
      exact (hv.take _).append (.cons k t (hv.drop _))
    have hsz1 : (SetTable.insertAt es (pl.filter fun j => decide (j < k)).length (hashInt (k : Int), Value.int (k : Int) t)).size = pl.length + 1 := by
      rw [← Array.length_toList, hes.length, ← d5, List.length_append, List.length_cons, List.length_take, List.length_drop]
      omega
    have hlay : layNew (sTab pl (ledOf w)) es (hashInt (k : Int)) (Value.int (k : Int) t) = (SetTable.insertAt es (pl.filter fun j => decide (j < k)).length (hashInt (k : Int), Value.int (k : Int) t), sTab (ins pl k) (ledOf w), false, false) := by
      unfold layNew
      rw [d1]
      dsimp only
      rw [d2]
      dsimp only
      rw [hsz1, d4, SetTable.orStandIn, if_pos d4]
      rfl
    have hk9 : (intKind prog w).hash (k : Int) = hashInt (k : Int) := rfl
    rw [hk9, hlay]
    dsimp only
    refine wpAny_bind (wpAny_pure ?_)
    simp only [sTab, ↓reduceIte]
    refine wpAny_bind ?_
    rw [hashByValue_scannable 8 rfl]
    refine wpAny_pure ?_
    simp only [plainKind, ↓reduceIte]
    refine wpAny_bind (wpAny_storeSet_of (s := { s with toks := s.toks + 1 }) ho rfl ?_ (by rw [hsz1, sizeLine_eq]; omega))
    have d3' := d3
    simp only [sTab] at d3'
    simp only [d3', Bool.not_false, Bool.and_false, Bool.false_eq_true, if_false, ↓reduceIte]
    refine wpAny_pure ?_
    dsimp only
    refine wpAny_pure ?_
    refine h true _ (Heap.SameBut.update _ a _) ⟨_, ?_, _, ep + 1, hes, rfl⟩
    have := Heap.get?_update_self (Obj.putSet (SetTable.insertAt es (pl.filter fun j => decide (j < k)).length (hashInt (k : Int), Value.int (k : Int) t)) (sTab (ins pl k) (ledOf w))) ho rfl
    exact this

def insAll (ns : List Int) (pl : List Nat) : List Nat := ns.foldl (fun p n => ins p n.toNat) pl
def Smalls (ns : List Int) : Prop := ∀ n ∈ ns, ∃ k ∈ [1, 2, 3], n = ((k : Nat) : Int)

theorem set_loop {R : Result → Shared → Prop} {I S l : Addr} {items : Array Value} {ns : List Int} {St : Nat → Heap → Prop} (W : Walks prog w A.in1 I [I, l] [I] items.size (fun i v => items[i]? = some v) St) (hSf : S ∉ [I, l])
    (hi : IntsAre items.toList ns) (hns : Smalls ns) :
    ∀ (k i : Nat) (s : Shared) (pl : List Nat), items.size - i = k → i ≤ items.size → pl ∈ Pls → St i s.heap → SetI w s.heap S pl →
      (∀ h' tk, (∀ b o, b ∉ [S, I] → s.heap.get? b = some o → h'.get? b = some o) → SetI w h' S (insAll (ns.drop i) pl) → insAll (ns.drop i) pl ∈ Pls → R (.ok (.ret .none)) { s with heap := h', toks := tk }) →
      codeAny (model prog w) A (.builtin "set.update.loop" ⟨[.ref S, .ref I], []⟩) R s := by
  have hnl : ns.length = items.size := by rw [← hi.length, Array.length_toList]
  intro k
  induction k with
  | zero =>
    intro i s pl hk hile hpl hst hS hR
    refine codeAny_builtin PyProof.Rows.F.entry_set_update_loop ?_
    rw [Around.under_plainId PyProof.Rows.F.plain_set_update_loop _]
    show wpAny _ A.in1 (pyNext (.ref I) >>= _) _ _ s
    have e1 : i = items.size := by omega
    subst e1
    refine wpAny_bind (W.done s _ _ hst fun h' tk hk' => ?_)
    show wpAny _ A.in1 (ret Value.none) _ _ _
    have e2 : ns.drop items.size = [] := List.drop_of_length_le (by omega)
    rw [e2] at hR
    obtain ⟨o, ho, hO⟩ := hS
    exact wpAny_pure (hR h' tk (fun b o hb e => hk' b o (fun q => hb (List.mem_cons_of_mem _ q)) e) ⟨o, hk' S o (fun q => hSf (by simp at q; simp [q])) ho, hO⟩ hpl)
  | succ k ih =>
    intro i s pl hk hile hpl hst hS hR
    have hlt : i < items.size := by omega
    refine codeAny_builtin PyProof.Rows.F.entry_set_update_loop ?_
    rw [Around.under_plainId PyProof.Rows.F.plain_set_update_loop _]
    show wpAny _ A.in1 (pyNext (.ref I) >>= _) _ _ s
    refine wpAny_bind (W.item i s _ _ hlt hst fun v h' tk hP hst' hk' => ?_)
    obtain ⟨n, t, rfl, hn⟩ := hi.at i v (by rw [Array.getElem?_toList]; exact hP)
    obtain ⟨hn1, hn2⟩ := List.getElem?_eq_some_iff.mp hn
    obtain ⟨j, hj, rfl⟩ := hns n (List.mem_of_getElem? hn)
    have e2 : ns.drop i = (j : Int) :: ns.drop (i + 1) := by rw [List.drop_eq_getElem_cons hn1, hn2]
    have e3 : insAll (ns.drop i) pl = insAll (ns.drop (i + 1)) (ins pl j) := by rw [e2]; rfl
    rw [e3] at hR
    obtain ⟨o, ho, hO⟩ := hS
    have hS' : SetI w h' S pl := ⟨o, hk' S o (fun q => hSf (by simp at q; simp [q])) ho, hO⟩
    show wpAny _ A.in1 (holding [Value.int (j : Int) t] (setAdd S (.int (j : Int) t)) >>= _) _ _ _
    refine wpAny_bind (wpAny_holding (set_add (s := { s with heap := h', toks := tk }) hpl hj hS' fun b h2 hsb hS2 => ?_))
    refine wpAny_pure ⟨plainId_quiet PyProof.Rows.F.plain_set_update_loop _, ih (i + 1) _ (ins pl j) (by omega) hlt (set_ins pl hpl j hj).1 (W.frame _ h' _ hst' fun b hb o e => ?_) hS2 fun h3 tk3 hk3 hS3 hp3 => ?_⟩
    · rw [hsb.2 b (fun q : b = S => hSf (by rw [← q]; exact hb))]; exact e
    · refine hR h3 tk3 (fun b o hb e => hk3 b o hb ?_) hS3 hp3
      show h2.get? b = some o
      rw [hsb.2 b (fun q : b = S => hb (by rw [q]; exact List.mem_cons_self))]
      exact hk' b o (fun q => hb (List.mem_cons_of_mem _ q)) e

theorem set_code (a : Value) {Q₁ : Value → Shared → Prop}
    (h : Q₁ (.ref s.heap.objs.size) { s with heap := s.heap.push { cls := .type "set", dict := none, data := .set #[] 0 (.fresh 0 0 (ledOf w)) } }) :
    codeAny (model prog w) A (.call (.builtin "set.__new__") ⟨[.type "set", a], []⟩) (wants Q₁ E) s := by
  refine codeAny_of_tree ?_
  show wpAny _ A.in1 (do checkBuiltinCall "set.__new__" ⟨[.type "set", a], []⟩; again (.builtin "set.__new__" ⟨[.type "set", a], []⟩)) _ _ s
  refine wpAny_bind (wpAny_of_eq (PySem.F.newCall_set_1 a) (wpAny_pure ⟨plainId_quiet PySem.F.plain_set_new _, codeAny_builtin PySem.F.entry_set_new ?_⟩))
  rw [Around.under_plainId PySem.F.plain_set_new _]
  unfold Builtin.«set.__new__» Builtin.Frozenset.newClass
  have hsub := sub_set_self
  obtain ⟨hp, g, d, tk, os⟩ := s
  dsimp only
  wp_walk
  refine wpAny_askSetting (wpAny_pure ?_)
  dsimp only
  simp only [newObj]
  refine wpAny_bind (wpAny_alloc (wpAny_pure ?_))
  exact wpAny_pure h

set_option maxRecDepth 100000 in
set_option maxHeartbeats 3200000 in
theorem set_call {l : Addr} {items : Array Value} {ns : List Int} {Q : Value → Shared → Prop} (hh : A.handled = none) (hl : s.heap.IsList l items) (hi : IntsAre items.toList ns) (hns : Smalls ns)
    (h : ∀ (h' : Heap) (tk : Nat), SetI w h' s.heap.objs.size (insAll ns []) → insAll ns [] ∈ Pls → (∀ b o, b < s.heap.objs.size → s.heap.get? b = some o → h'.get? b = some o) → Q (.ref s.heap.objs.size) { s with heap := h', toks := tk }) :
    wpAny (model prog w) A (call (.type "set") [.ref l]) Q E s := by
  obtain ⟨c, tl, hmro⟩ := PySem.F.called_set.mro
  have hmade := PySem.F.called_set.made
  have hsub := PySem.F.called_set.sub
  refine wpAny_call (codeAny_of_tree ?_)
  show wpAny _ _ (callAny (.type "set") _) _ _ _
  refine wpAny_pure ⟨Code.quiet_builtin _ (by decide +kernel), codeAny_builtin PySem.F.entry_type_call ?_⟩
  rw [Around.under_plain (weight_type_call_type "set" [.ref l] []) rfl]
  have h1 := PySem.F.called_set.notType
  have h2 := PySem.F.called_set.canCreate
  have hct := PySem.F.typeCall_set_1 (.ref l)
  repeat (any_goals (first | assumption | wp_step))
  refine codeAny_mono (set_code (.ref l) (E := E) (Q₁ := fun obj s₁ => obj = .ref s.heap.objs.size ∧ s₁ = { s with heap := s.heap.push { cls := .type "set", dict := none, data := .set #[] 0 (.fresh 0 0 (ledOf w)) } }) ⟨rfl, rfl⟩) fun r s₁ hr => ?_
  cases r with
  | error e => exact hr
  | ok fl =>
    cases fl with
    | ret obj =>
      obtain ⟨rfl, rfl⟩ := hr
      have hS : (s.heap.push { cls := .type "set", dict := none, data := .set #[] 0 (.fresh 0 0 (ledOf w)) }).get? s.heap.objs.size = some { cls := .type "set", dict := none, data := .set #[] 0 (.fresh 0 0 (ledOf w)) } := Heap.get?_push_size _ rfl
      have hT : Shared.TypeIs { s with heap := s.heap.push { cls := .type "set", dict := none, data := .set #[] 0 (.fresh 0 0 (ledOf w)) } } (.ref s.heap.objs.size) "set" := ⟨_, hS, rfl⟩
      have hli := PySem.F.called_set.init.lookup
      have hbi := PySem.F.called_set.init.bind (.ref s.heap.objs.size)
      repeat (any_goals (first | assumption | wp_step))
      refine codeAny_mono (codeAny_call_builtin (R := wants (fun r s₂ => r = .none ∧ ∃ h' tk, s₂ = { s with heap := h', toks := tk } ∧ SetI w h' s.heap.objs.size (insAll ns []) ∧ insAll ns [] ∈ Pls ∧
          (∀ b o, b < s.heap.objs.size → s.heap.get? b = some o → h'.get? b = some o)) E) PySem.F.called_set.init.plain PySem.F.entry_set_init (check_set_init_1 hT ?_)) fun r₂ s₂ hr₂ => ?_
      · obtain ⟨ol, hol, hcl, nl, hdl⟩ := hl
        obtain ⟨ocls, odict, odata, oslots⟩ := ol
        simp only at hcl hdl
        subst hcl; subst hdl
        have hol' : (s.heap.push { cls := .type "set", dict := none, data := .set #[] 0 (.fresh 0 0 (ledOf w)) }).get? l = some { cls := .type "list", dict := odict, data := .seq items nl, slots := oslots } := Heap.get?_push_of_some _ hol
        have hsls := PySem.F.sub_list_set
        have hslf := PySem.F.sub_list_frozenset
        have hne : (Value.type "list" == Value.type "dict") = false := by decide
        have hl1 : (s.heap.push { cls := .type "set", dict := none, data := .set #[] 0 (.fresh 0 0 (ledOf w)) }).IsList l items := ⟨_, hol', rfl, nl, rfl⟩
        unfold Builtin.«set.__init__» noKeywords Builtin.Frozenset.updateFrom
        generalize hPI : pyIter = PI
        wp_walk
        subst hPI
        refine wpAny_pyIter_list hl1 ?_
        refine wpAny_bind (wpAny_runValue ?_)
        have hlS : l < s.heap.objs.size := Heap.lt_size hol
        have hh3 : A.in1.in1.in1.handled = none := by simp [hh]
        have hneI : l ≠ (s.heap.push { cls := .type "set", dict := none, data := .set #[] 0 (.fresh 0 0 (ledOf w)) }).objs.size := by
          rw [Heap.size_push]; exact Nat.ne_of_lt (Nat.lt_succ_of_lt hlS)
        have hSf : s.heap.objs.size ∉ [(s.heap.push { cls := .type "set", dict := none, data := .set #[] 0 (.fresh 0 0 (ledOf w)) }).objs.size, l] := by
          rw [Heap.size_push]; simp only [List.mem_cons, List.not_mem_nil, or_false, not_or]
          exact ⟨Nat.ne_of_lt (Nat.lt_succ_self _), Nat.ne_of_gt hlS⟩
        refine set_loop (Walks.list hh3 _ l hneI items) hSf hi hns (items.size - 0) 0 _ [] (by omega) (Nat.zero_le _) List.mem_cons_self ⟨⟨_, Heap.get?_push_size _ rfl, rfl, rfl⟩, (hl1.push _)⟩ ⟨_, Heap.get?_push_of_some _ hS, #[], 0, .nil, rfl⟩ fun h' tk hk' hS' hp' => ?_
        rw [List.drop_zero] at hS' hp'
        show wpAny _ _ _ _ _ _
        refine wpAny_pure ?_
        show wpAny _ _ (ret Value.none) _ _ _
        refine wpAny_pure ⟨rfl, h', tk, rfl, hS', hp', fun b o hb e => ?_⟩
        refine hk' b o ?_ (Heap.get?_push_of_some _ (Heap.get?_push_of_some _ e))
        rw [Heap.size_push]
        simp only [List.mem_cons, List.not_mem_nil, or_false, not_or]
        exact ⟨Nat.ne_of_lt hb, Nat.ne_of_lt (Nat.lt_succ_of_lt hb)⟩
      · cases r₂ with
        | error e => exact hr₂
        | ok fl₂ =>
          cases fl₂ with
          | ret r =>
            obtain ⟨rfl, h', tk, rfl, hS', hp', hk'⟩ := hr₂
            repeat (any_goals (first | assumption | wp_step))
            exact h _ _ hS' hp' hk'
          | _ => exact hr₂.elim
    | _ => exact hr.elim
end
end
section
theorem quiet3 : True := by
  w_top off
  exact True.intro
theorem pick_go {α : Type} (next : Nat → Nat) : ∀ (n k : Nat) (left : List α) (out : Array α), left.length = n → (pickOrder.go next n k left out).toList.Perm (out.toList ++ left)
  | 0, k, left, out, h => by
    have : left = [] := List.length_eq_zero_iff.mp h
    subst this
    simp [pickOrder.go]
  | n + 1, k, left, out, h => by
    have hlt : next k % left.length < left.length := Nat.mod_lt _ (by omega)
    have e : left[next k % left.length]? = some left[next k % left.length] := List.getElem?_eq_getElem hlt
    unfold pickOrder.go
    rw [e]
    dsimp only
    refine (pick_go next n (k + 1) _ _ (by rw [List.length_eraseIdx_of_lt hlt]; omega)).trans ?_
    rw [Array.toList_push, List.append_assoc]
    refine List.Perm.append_left _ ?_
    have e1 : left = left.take (next k % left.length) ++ left[next k % left.length] :: left.drop (next k % left.length + 1) := by rw [← List.drop_eq_getElem_cons hlt, List.take_append_drop]
    rw [List.eraseIdx_eq_take_drop_succ]
    conv => rhs; rw [e1]
    rw [List.singleton_append]
    exact List.perm_middle.symm
theorem pick_perm {α : Type} (next : Nat → Nat) (xs : Array α) : (pickOrder next xs).toList.Perm xs.toList := by
  have := pick_go next xs.size 0 xs.toList #[] (Array.length_toList)
  simpa [pickOrder] using this
def orderOf (w : World) (a : Addr) (ep : Nat) (es : Array (Int × Value)) : Array (Int × Value) := if w.params.followText "set-order" = true then pickOrder (w.params.setOrder a ep) es else es
theorem order_perm (w : World) (a : Addr) (ep : Nat) (es : Array (Int × Value)) : (orderOf w a ep es).toList.Perm es.toList := by
  unfold orderOf
  split
  · exact pick_perm _ _
  · exact List.Perm.refl _
theorem order_size (w : World) (a : Addr) (ep : Nat) (es : Array (Int × Value)) : (orderOf w a ep es).size = es.size := by
  rw [← Array.length_toList, (order_perm w a ep es).length_eq, Array.length_toList]
def slotOf (w : World) (pl : List Nat) (i : Nat) : Nat := if w.params.followText "set-order" = true then 0 else if i = 0 then 0 else pl.getD (i - 1) 0 + 1

theorem set_entry_iter : entryFor table "set.__iter__" = some Builtin.«frozenset.__iter__» := entryFor_alias (id' := "frozenset.__iter__") (by kernel_rfl) rfl (by decide +kernel) (by kernel_rfl)
theorem slot_setit_next : Slot "set_iterator" "__next__" "set_iterator.__next__" := .of (owner := "set_iterator") (n := "__next__") (by rw [typeLookup_type, builtinLookup_eq_fast]; kernel_rfl) (by decide +kernel) (by decide +kernel) (by decide +kernel)
    (by first | exact .inl (by decide +kernel) | exact .inr (by decide +kernel)) (by rw [isSubtype_type]; kernel_rfl)
theorem slot_setit_iter : Slot "set_iterator" "__iter__" "set_iterator.__iter__" := .of (owner := "set_iterator") (n := "__iter__") (by rw [typeLookup_type, builtinLookup_eq_fast]; kernel_rfl) (by decide +kernel) (by decide +kernel) (by decide +kernel)
    (by first | exact .inl (by decide +kernel) | exact .inr (by decide +kernel)) (by rw [isSubtype_type]; kernel_rfl)
theorem entry_setit_next : entryFor table "set_iterator.__next__" = some Builtin.«set_iterator.__next__» := entryFor_of_tree (by kernel_rfl)
theorem entry_setit_iter : entryFor table "set_iterator.__iter__" = some Builtin.«dict_keyiterator.__iter__» := entryFor_alias (id' := "dict_keyiterator.__iter__") (by kernel_rfl) rfl (by decide +kernel) (by kernel_rfl)
theorem args_setit_next (a : Value) : argsOk "set_iterator.__next__" ⟨[a], []⟩ := by unfold argsOk; kernel_rfl
theorem args_setit_iter (a : Value) : argsOk "set_iterator.__iter__" ⟨[a], []⟩ := by unfold argsOk; kernel_rfl

abbrev setObj (w : World) (es : Array (Int × Value)) (ep : Nat) (pl : List Nat) : Obj := { cls := .type "set", dict := none, data := .set es ep (sTab pl (ledOf w)) }
abbrev setItObj (slot i : Nat) (a : Addr) (n ep : Nat) : Obj := { cls := .type "set_iterator", data := .fields #[rawInt (slot : Int), rawInt (i : Int), .ref a, rawInt (n : Int), rawInt (ep : Int)] }

section
variable {prog : Program} {w : World} {A : Around} {E : Value → Shared → Prop} {s : Shared}
theorem set_next {a : Addr} {i ep : Nat} {es : Array (Int × Value)} {pl : List Nat} {Q : Option (Value × Nat) → Shared → Prop} (ho : s.heap.get? a = some (setObj w es ep pl)) (hv : Ents es.toList pl) (hp : pl ∈ Pls) (hi : i ≤ pl.length)
    (h : Q ((orderOf w a ep es)[i]?.map fun e => (e.2, slotOf w pl (i + 1))) s) : wpAny (model prog w) A (setNext a (slotOf w pl i) i ep) Q E s := by
  have hsz : es.size = pl.length := by rw [← hv.length, Array.length_toList]
  have hf : (sTab pl (ledOf w)).fits es.size = true := by rw [hsz]; exact (set_fits pl hp _).1
  unfold setNext
  refine wpAny_bind (wpAny_setState_of ho rfl hf ?_)
  dsimp only
  unfold setsByText
  refine wpAny_bind (wpAny_bind (wpAny_askSetting (wpAny_pure ?_)))
  dsimp only
  cases hft : w.params.followText "set-order" with
  | true =>
    have hft' : (model prog w).w.params.followText "set-order" = true := hft
    simp only [orderOf, slotOf, hft, if_true] at h
    simp only [hft', slotOf, hft, if_true, ↓reduceIte, bne_self_eq_false, Bool.false_eq_true, if_false]
    refine wpAny_bind ?_
    unfold setWalk
    refine wpAny_bind (wpAny_setState_of ho rfl hf ?_)
    dsimp only
    unfold setsByText
    refine wpAny_bind (wpAny_bind (wpAny_askSetting (wpAny_pure ?_)))
    simp only [hft', ↓reduceIte]
    refine wpAny_bind (wpAny_askSetting (wpAny_pure (wpAny_pure ?_)))
    exact h
  | false =>
    have hft' : (model prog w).w.params.followText "set-order" = false := hft
    simp only [orderOf, slotOf, hft, Bool.false_eq_true, if_false] at h
    simp only [hft', slotOf, hft, Bool.false_eq_true, if_false, ↓reduceIte]
    have hled : ledOf w = true := by simp [ledOf, hft]
    rw [hled]
    refine wpAny_ite_split (fun hab => absurd (show (false && decide (es.size > 1)) = true from hab) (by simp)) (fun _ => ?_)
    refine wpAny_bind (wpAny_of_eq (a := ()) rfl ?_)
    refine wpAny_pure ?_
    have hb : SetTable.below (sTab pl true).place (if i = 0 then 0 else pl.getD (i - 1) 0 + 1) = i := set_below pl hp i hi
    rw [hb]
    have hpl : (sTab pl true).place[i]? = pl[i]? := by simp [sTab]
    rw [hpl]
    rcases Nat.lt_or_ge i pl.length with q | q
    · have e1 : es[i]? = some es[i] := by simp [hsz, q]
      have e2 : pl[i]? = some pl[i] := by simp [q]
      rw [e1, e2]
      rw [e1, if_neg (by omega)] at h
      simpa [List.getD, e2] using h
    · have e1 : es[i]? = none := by simp [hsz, q]
      have e2 : pl[i]? = none := by simp [q]
      rw [e1, e2]
      rw [e1] at h
      exact h
theorem set_pyNext {a I : Addr} {i ep : Nat} {es : Array (Int × Value)} {pl : List Nat} {Q : Option Value → Shared → Prop} (hh : A.handled = none) (hI : s.heap.get? I = some (setItObj (slotOf w pl i) i a pl.length ep)) (ho : s.heap.get? a = some (setObj w es ep pl)) (hv : Ents es.toList pl) (hp : pl ∈ Pls) (hi : i ≤ pl.length)
    (h1 : ∀ v h', (orderOf w a ep es)[i]?.map (·.2) = some v → h'.get? I = some (setItObj (slotOf w pl (i + 1)) (i + 1) a pl.length ep) → Heap.SameBut I s.heap h' → Q (some v) { s with heap := h' })
    (h2 : ∀ h', (orderOf w a ep es)[i]? = none → Heap.ExtBut I s.heap h' → Q none { s with heap := h' }) : wpAny (model prog w) A (pyNext (.ref I)) Q E s := by
  have hsz : es.size = pl.length := by rw [← hv.length, Array.length_toList]
  have hf : (sTab pl (ledOf w)).fits es.size = true := by rw [hsz]; exact (set_fits pl hp _).1
  have hT : s.TypeIs (.ref I) "set_iterator" := ⟨_, hI, rfl⟩
  unfold pyNext
  refine wpAny_bind (wpAny_attempt (wpAny_callSpecial?_slot (name := Str.ofString "__next__") hT slot_setit_next
    (wpAny_call_entry slot_setit_next hT entry_setit_next ?_ (args_setit_next _))))
  unfold Builtin.«set_iterator.__next__»
  refine wpAny_bind (wpAny_pure ?_)
  dsimp only
  refine wpAny_bind (wpAny_fieldsOf hI rfl ?_)
  simp only [rawInt]
  refine wpAny_bind (wpAny_setEntries_of ho rfl hf ?_)
  have hne : ((((es.size : Nat) : Int) != ((pl.length : Nat) : Int)) = true) = False := by rw [hsz]; simp
  simp only [hne, if_false]
  have hto : ((slotOf w pl i : Nat) : Int).toNat = slotOf w pl i := Int.toNat_natCast _
  simp only [Int.toNat_natCast]
  refine wpAny_bind (set_next ho hv hp hi ?_)
  cases ho9 : (orderOf w a ep es)[i]? with
  | some e =>
    simp only [Option.map_some]
    refine wpAny_bind (wpAny_setField hI rfl (by simp) ?_)
    have hI2 := Heap.get?_update_self (Obj.mapFields (·.setIfInBounds 0 (rawInt (slotOf w pl (i + 1) : Int)))) hI rfl
    refine wpAny_bind (wpAny_setField hI2 rfl (by simp) ?_)
    have hI3 := Heap.get?_update_self (Obj.mapFields (·.setIfInBounds 1 (rawInt ((i : Int) + 1)))) hI2 rfl
    refine wpAny_pure ⟨_, rfl, wpAny_pure (h1 _ _ (by rw [ho9]; rfl) hI3 ((Heap.SameBut.update ..).trans (Heap.SameBut.update ..)))⟩
  | none =>
    simp only [Option.map_none]
    refine wpAny_bind (wpAny_setField hI rfl (by simp) ?_)
    refine wpAny_bind ?_
    simp only [newExc, newTuple]
    refine wpAny_bind (wpAny_newObj_type ?_ (by size_fits))
    refine wpAny_bind (m := firstArgMember _ _) (wpAny_of_eq (a := Value.none) (by first | rfl | (simp only [firstArgMember]; rfl)) ?_)
    refine wpAny_newObj_type ?_ (by size_fits)
    simp only [raiseNew]
    refine wpAny_bind (wpAny_handled ?_)
    rw [show A.in1.handled = none from hh]
    refine wpAny_bind (wpAny_pure (wpAny_throw ?_))
    refine wpAny_bind (wpAny_isInstance (T := "StopIteration") (b := true) ⟨_, Heap.get?_push_size _ rfl, rfl⟩ isSubtype_stop ?_)
    exact wpAny_pure (h2 _ ho9 (((Heap.SameBut.update ..).extBut.push _).push _))

theorem set_selfIter {a I : Addr} {i slot n ep : Nat} {Q : Value → Shared → Prop} (hI : s.heap.get? I = some (setItObj slot i a n ep)) (h : Q (.ref I) s) : wpAny (model prog w) A (pyIter (.ref I)) Q E s := by
  have hT : s.TypeIs (.ref I) "set_iterator" := ⟨_, hI, rfl⟩
  refine wpAny_pyIter_slot hT slot_setit_iter (wpAny_call_entry slot_setit_iter hT entry_setit_iter ?_ (args_setit_iter _))
  show wpAny _ _ (ret (.ref I)) _ _ s
  exact wpAny_pure ⟨_, rfl, "set_iterator", _, hT, slot_setit_next.lookup, h⟩

theorem set_iter {a : Addr} {ep : Nat} {es : Array (Int × Value)} {pl : List Nat} {Q : Value → Shared → Prop} (ho : s.heap.get? a = some (setObj w es ep pl)) (hv : Ents es.toList pl) (hp : pl ∈ Pls)
    (h : Q (.ref s.heap.objs.size) { s with heap := s.heap.push (setItObj 0 0 a pl.length ep) }) : wpAny (model prog w) A (pyIter (.ref a)) Q E s := by
  have hsz : es.size = pl.length := by rw [← hv.length, Array.length_toList]
  have hf : (sTab pl (ledOf w)).fits es.size = true := by rw [hsz]; exact (set_fits pl hp _).1
  have hT : s.TypeIs (.ref a) "set" := ⟨_, ho, rfl⟩
  refine wpAny_pyIter_slot hT PySem.F.slot_set_iter (wpAny_call_entry PySem.F.slot_set_iter hT set_entry_iter ?_ (PySem.F.args_set_iter_1 _))
  unfold Builtin.«frozenset.__iter__» Builtin.Frozenset.slot0
  refine wpAny_bind (wpAny_bind (wpAny_pure (wpAny_pure ?_)))
  unfold Builtin.Frozenset.sizeOf
  refine wpAny_bind (wpAny_bind (wpAny_setEntries_of ho rfl hf (wpAny_pure ?_)))
  unfold setDrawn
  refine wpAny_bind (wpAny_bind (wpAny_setState_of ho rfl hf ?_))
  dsimp only
  unfold setsByText
  refine wpAny_bind (wpAny_bind (wpAny_askSetting (wpAny_pure ?_)))
  refine wpAny_pure ?_
  refine wpAny_ite_split (fun hab => absurd (Bool.and_eq_true_iff.mp hab).2 (fun q => absurd (show (false && decide (es.size > 1)) = true from q) (by simp))) (fun _ => ?_)
  refine wpAny_bind (wpAny_pure ?_)
  refine wpAny_bind (wpAny_setEpoch_of ho rfl hf ?_)
  refine wpAny_bind ?_
  unfold newFields
  refine wpAny_newObj_type ?_
  refine wpAny_pure ⟨_, rfl, "set_iterator", _, ⟨_, Heap.get?_push_size _ rfl, rfl⟩, slot_setit_next.lookup, ?_⟩
  rw [hsz]
  exact h

theorem walks_set (hh : A.handled = none) {I a : Addr} (hne : a ≠ I) {ep : Nat} {es : Array (Int × Value)} {pl : List Nat} (hv : Ents es.toList pl) (hp : pl ∈ Pls) :
    Walks prog w A I [I, a] [I] pl.length (fun i v => (orderOf w a ep es)[i]?.map (·.2) = some v) (fun i h => i ≤ pl.length ∧ h.get? I = some (setItObj (slotOf w pl i) i a pl.length ep) ∧ h.get? a = some (setObj w es ep pl)) where
  sub := fun b hb => by simp at hb; simp [hb]
  frame := fun i h h' st hk => ⟨st.1, hk I (by simp) _ st.2.1, hk a (by simp) _ st.2.2⟩
  item := fun i s Q E hi st hQ => by
    have hsz : es.size = pl.length := by rw [← hv.length, Array.length_toList]
    refine set_pyNext hh st.2.1 st.2.2 hv hp st.1 (fun v h' e hI hs => ?_) (fun h' e _ => ?_)
    · exact hQ v h' s.toks e ⟨hi, hI, by rw [hs.2 a hne]; exact st.2.2⟩ fun b o hb e => by rw [hs.2 b (fun q => hb (by simp [q]))]; exact e
    · rw [Array.getElem?_eq_none_iff, order_size, hsz] at e
      omega
  done := fun s Q E st hQ => by
    have hsz : es.size = pl.length := by rw [← hv.length, Array.length_toList]
    refine set_pyNext hh st.2.1 st.2.2 hv hp st.1 (fun v h' e hI hs => ?_) (fun h' e he => ?_)
    · have : (orderOf w a ep es)[pl.length]? = none := by rw [Array.getElem?_eq_none_iff, order_size, hsz]; exact Nat.le_refl _
      rw [this] at e
      exact nomatch e
    · exact hQ h' s.toks fun b o hb e => he b o (fun q => hb (by simp [q])) e
  self := fun i s Q E st hQ => set_selfIter st.2.1 hQ

theorem set_hint {r : Addr} {Q : Bool → Shared → Prop} (hT : s.TypeIs (.ref r) "set") (h : Q false s) : wpAny (model prog w) A (Builtin.List.listLengthHint (.ref r)) Q E s := by
  unfold Builtin.List.listLengthHint
  refine wpAny_bind (wpAny_specialOf hT PySem.F.slot_set_len.lookup ?_)
  generalize hid : ("set.__len__" : String) = id0
  wp_delta
  rw [show splitId id0 = some ("set", "__len__") from by subst hid; decide +kernel]
  subst hid
  refine wpAny_bind (wpAny_isInstance (T := "set") (b := true) hT (by rw [isSubtype_type]; kernel_rfl) ?_)
  refine wpAny_ite_split (fun hab => absurd hab (by decide)) (fun _ => ?_)
  refine wpAny_ite_split (fun _ => ?_) (fun hab => absurd (by decide +kernel) hab)
  refine wpAny_bind (wpAny_typeOf hT ?_)
  exact wpAny_pure h

theorem slotOf_zero (pl : List Nat) : slotOf w pl 0 = 0 := by unfold slotOf; split <;> rfl
theorem src_set {a : Addr} {ep : Nat} {es : Array (Int × Value)} {pl : List Nat} (hv : Ents es.toList pl) (hp : pl ∈ Pls) :
    KdlSrc prog w "set" a a pl.length (fun i v => (orderOf w a ep es)[i]?.map (·.2) = some v) (fun h => h.get? a = some (setObj w es ep pl)) where
  type := fun _ hm => ⟨_, hm, rfl⟩
  there := fun _ hm => ⟨Heap.lt_size hm, Heap.lt_size hm⟩
  keep := fun _ _ hm hk => hk a (.inl rfl) _ hm
  notList := by decide
  notTuple := by decide
  hint := fun _ _ _ _ hm hq => set_hint ⟨_, hm, rfl⟩ hq
  iter := fun _ s hh hm => ⟨_, _, (fun _ _ hq => set_iter hm hv hp hq), walks_set hh (Nat.ne_of_lt (Heap.lt_size hm)) hv hp, ⟨Nat.zero_le _, by rw [slotOf_zero]; exact Heap.get?_push_size _ rfl, Heap.get?_push_of_some _ hm⟩⟩

theorem ints_of_order {a : Addr} {ep : Nat} {es : Array (Int × Value)} {pl : List Nat} (hv : Ents es.toList pl) {vs : List Value} (hl : vs.length = pl.length) (h : ∀ (j : Nat) (v : Value), vs[j]? = some v → (orderOf w a ep es)[j]?.map (fun e => e.2) = some v) :
    ∃ ns, IntsAre vs ns ∧ ns.Perm (pl.map fun k : Nat => (k : Int)) := by
  have e1 : vs = (orderOf w a ep es).toList.map (·.2) := by
    refine List.ext_getElem? fun j => ?_
    have hsz : (orderOf w a ep es).size = pl.length := by rw [order_size, ← hv.length, Array.length_toList]
    rcases Nat.lt_or_ge j vs.length with q | q
    · have e2 : vs[j]? = some vs[j] := by simp [q]
      rw [e2, List.getElem?_map, Array.getElem?_toList, h j _ e2]
    · rw [List.getElem?_eq_none q, List.getElem?_eq_none (by rw [List.length_map, Array.length_toList, hsz]; omega)]
  have hp := (order_perm w a ep es).map (·.2)
  rw [← e1] at hp
  have hi := hv.ints
  revert hi
  generalize (pl.map fun k : Nat => (k : Int)) = ns0
  revert hp
  generalize es.toList.map (·.2) = vs0
  clear e1 h hl hv
  intro hp
  induction hp generalizing ns0 with
  | nil => intro hi; cases hi; exact ⟨[], .nil, .refl _⟩
  | cons x p ih =>
    intro hi
    cases hi with
    | cons n t hi =>
      obtain ⟨ns, h1, h2⟩ := ih _ hi
      exact ⟨n :: ns, .cons n t h1, h2.cons n⟩
  | swap x y l =>
    intro hi
    cases hi with
    | cons n t hi =>
      cases hi with
      | cons n2 t2 hi => exact ⟨n2 :: n :: _, .cons n2 t2 (.cons n t hi), .swap _ _ _⟩
  | trans p q ih1 ih2 =>
    intro hi
    obtain ⟨ns, h1, h2⟩ := ih2 _ hi
    obtain ⟨ns', h3, h4⟩ := ih1 _ h1
    exact ⟨ns', h3, h4.trans h2⟩

theorem pls_sorted : ∀ pl ∈ Pls, (pl.map fun k : Nat => (k : Int)).Pairwise (· ≤ ·) := by decide +kernel
theorem sorted_ok {h₀ : Heap} {L : Addr} {m : Str → Option Value} {news : List (Addr × Obj)} {a : Addr} {o : Obj} {pl : List Nat} {Q : Value → Shared → Prop} (hh : A.handled = none) (F : Fr h₀ L s.heap m) (N : News h₀ L s.heap news) (hm : (a, o) ∈ news) (hO : SetO w o pl) (hp : pl ∈ Pls)
    (hQ : ∀ D vs c h' tk, Fr h₀ L h' m → News h₀ L h' ((D, W.listOf vs.toArray c) :: news) → (∀ q ∈ news, q.1 < D) → IntsAre vs (pl.map fun k : Nat => (k : Int)) → Q (.ref D) { s with heap := h', toks := tk }) :
    wpAny (model prog w) A (call (.builtin "sorted") [.ref a]) Q E s := by
  obtain ⟨es, ep, hv, rfl⟩ := hO
  have hl3 := (set_fits pl hp true).2
  refine kdu_sorted (src_set hv hp) hh F N (News.get N hm) (by rw [sizeLine_eq]; omega) fun D h' tk vs F' N' l1 hl hv' => ?_
  obtain ⟨ns, hi, hpm⟩ := ints_of_order hv hl hv'
  have hnl : ns.length = pl.length := by rw [hpm.length_eq, List.length_map]
  refine ksk_lsort (s := { s with heap := h', toks := tk }) (news' := fun o => (D, o) :: news) (its := vs.toArray) F' N' (fun o => by k_upd) (List.toList_toArray) hi (by omega) fun vs' ns' c h2 F2 N2 hi2 _ hp2 hs2 _ => ?_
  have e : ns' = pl.map fun k : Nat => (k : Int) := ksm_same (hp2.trans hpm) hs2 (pls_sorted pl hp)
  rw [e] at hi2
  exact hQ D vs' c h2 tk F2 N2 l1 hi2

theorem set_ok {h₀ : Heap} {L : Addr} {m : Str → Option Value} {news : List (Addr × Obj)} {l : Addr} {vs : List Value} {ns : List Int} {c : Nat} {Q : Value → Shared → Prop} (hh : A.handled = none) (F : Fr h₀ L s.heap m) (N : News h₀ L s.heap news) (hm : (l, W.listOf vs.toArray c) ∈ news) (hi : IntsAre vs ns) (hns : Smalls ns)
    (hQ : ∀ D o h' tk, Fr h₀ L h' m → News h₀ L h' ((D, o) :: news) → (∀ q ∈ news, q.1 < D) → SetO w o (insAll ns []) → insAll ns [] ∈ Pls → Q (.ref D) { s with heap := h', toks := tk }) :
    wpAny (model prog w) A (call (.type "set") [.ref l]) Q E s := by
  refine set_call (items := vs.toArray) (ns := ns) hh (islist_of N hm) (by simpa using hi) hns fun h' tk hS hp hk => ?_
  obtain ⟨o, ho, hO⟩ := hS
  have hkk : ∀ b o, s.heap.get? b = some o → h'.get? b = some o := fun b o e => hk b o (Heap.lt_size e) e
  exact hQ _ o h' tk (F.keeps hkk) (news_pushed F N hkk ho rfl) (fun q hq => Heap.lt_size (N q hq).1) hO hp
end
end
section
theorem quiet4 : True := by
  w_top off
  exact True.intro
def dOf {q : Program} {loose : List Str} {XP : (Str → Option Value) → Heap → Prop} {Y : World → Heap → Prop} {r : RowW} {d : DefRec} {kwd : List (Str × Expr)} {run : Value → List Value → Sem Value} {P : Prop}
  (_ : WalkO q loose XP Y r d kwd run → P) : DefRec := d
noncomputable def lawFD : DefRec := by
  refine (fun (l : DefRec) (_ : l = dOf hd) => l) ?l ?h
  case h => conv => { rhs; whnf }
noncomputable abbrev lawE (L fa : Addr) (cd : Value) : Env := envOfC lawFD.name lawFD.scope L fa cd
end
section
theorem quiet5 : True := by
  w_top off
  exact True.intro
section
variable {prog : Program} {w : World} {A : Around} {E : Value → Shared → Prop} {R : Result → Shared → Prop} {s : Shared}
abbrev two (elt t1 i1 : Expr) (ifs : List Expr) (t2 i2 : Expr) (scope : Scope) (pos : Pos) : Expr := .ListComp elt [⟨t1, i1, ifs, 0⟩, ⟨t2, i2, [], 0⟩] scope pos
theorem turn_out (elt t1 i1 : Expr) (ifs : List Expr) (t2 i2 : Expr) (scope : Scope) (pos : Pos) (it acc : Value) (env : Env) :
    compTurn (two elt t1 i1 ifs t2 i2 scope pos) 0 it acc env = (do
      standAt i1.pos
      match ← pyNext it with
      | none => pure (.done .next)
      | some v =>
        letOwnedTupleGo t1 it v
        assign t1 env v
        let mut ok := true
        for c in ifs do
          if ok then ok ← isTrue c env (eval c env)
        if ok then
          let x ← eval i2 env
          standAt i2.pos
          let x ← foldedSetIterable i2 env x
          let _ ← runOwn (.compStart (two elt t1 i1 ifs t2 i2 scope pos) 1 (← holding [x] (pyIter x)) acc env) env
        again (.compLoop (two elt t1 i1 ifs t2 i2 scope pos) 0 it acc env)) := by rfl
theorem turn_in (elt t1 i1 : Expr) (ifs : List Expr) (t2 i2 : Expr) (scope : Scope) (pos : Pos) (it acc : Value) (env : Env) :
    compTurn (two elt t1 i1 ifs t2 i2 scope pos) 1 it acc env = (do
      standAt i2.pos
      match ← pyNext it with
      | none => pure (.done .next)
      | some v =>
        letOwnedTupleGo t2 it v
        assign t2 env v
        let mut ok := true
        for c in ([] : List Expr) do
          if ok then ok ← isTrue c env (eval c env)
        if ok then
          (do let _ ← call (.builtin "list.append") [acc, ← eval elt env])
        again (.compLoop (two elt t1 i1 ifs t2 i2 scope pos) 1 it acc env)) := by rfl

theorem code_in {elt t1 i1 : Expr} {ifs : List Expr} {t2 i2 : Expr} {scope : Scope} {pos : Pos} {it acc : Value} {env : Env} (I : Nat → Shared → Prop)
    (turn : ∀ n s, I n s → wpAny (model prog w) A (pyNext it) (fun r s₁ => match r with
      | none => R (.ok .next) s₁
      | some v => wpAny (model prog w) A (assign t2 env v) (fun _ s₂ => wpAny (model prog w) A (eval elt env) (fun x s₄ =>
              wpAny (model prog w) A (call (.builtin "list.append") [acc, x]) (fun _ s₅ => ∃ m, m < n ∧ I m s₅) (notedBy (model prog w) A env fun e s' => R (.error e) s') s₄) (notedBy (model prog w) A env fun e s' => R (.error e) s') s₂)
            (notedBy (model prog w) A env fun e s' => R (.error e) s') s₁) (notedBy (model prog w) A env fun e s' => R (.error e) s') s)
    (n : Nat) (h : I n s) (ht : ∀ v, letOwnedTupleGo t2 it v = pure () := by intro _; rfl) :
    codeAny (model prog w) A (.compLoop (two elt t1 i1 ifs t2 i2 scope pos) 1 it acc env) R s := by
  refine codeAny_loop rfl I (fun n s hI => ?_) n h
  show wpAny _ A ((compTurn (two elt t1 i1 ifs t2 i2 scope pos) 1 it acc env).onRaise (fun x => do noteFrame x env; theTreesLotGoes x)) _ _ s
  refine wpAny_noted ?_
  rw [turn_in]
  refine wpAny_bind (wpAny_standAt (wpAny_bind (wpAny_mono (turn n s hI) (fun r s₁ h₁ => ?_) fun _ _ h' => h')))
  cases r with
  | none => exact wpAny_pure h₁
  | some v =>
    refine wpAny_bind (wpAny_of_eq (ht v) ?_)
    refine wpAny_bind (wpAny_mono h₁ (fun _ s₂ h₂ => wpAny_bind (wpAny_tests_nil ?_)) fun _ _ h' => h')
    exact wpAny_bind (wpAny_bind (wpAny_mono h₂ (fun x s₄ h₄ => wpAny_bind (wpAny_mono h₄ (fun _ s₅ h₅ => wpAny_pure (wpAny_pure ⟨rfl, h₅⟩)) fun _ _ h' => h')) fun _ _ h' => h'))

theorem start_in {elt t1 i1 : Expr} {ifs : List Expr} {t2 i2 : Expr} {scope : Scope} {pos : Pos} {it acc : Value} {env : Env}
    (h0 : codeAny (model prog w) A (.compLoop (two elt t1 i1 ifs t2 i2 scope pos) 1 it acc env) R s)
    (h : wpAny (model prog w) A (pyIter it) (fun it' s' => codeAny (model prog w) A (.compLoop (two elt t1 i1 ifs t2 i2 scope pos) 1 it' acc env) R s') (notedBy (model prog w) A env fun x s' => R (.error x) s') s) :
    codeAny (model prog w) A (.compStart (two elt t1 i1 ifs t2 i2 scope pos) 1 it acc env) R s := by
  refine codeAny_of_tree ?_
  show wpAny _ _ ((compStart (two elt t1 i1 ifs t2 i2 scope pos) 1 it acc env).onRaise (fun x => do noteFrame x env; standAt theWindowsPlace)) _ _ s
  refine wpAny_notedAt ?_
  unfold compStart
  show wpAny _ _ (ask >>= _) _ _ s
  refine wpAny_bind (wpAny_askSetting (wpAny_ite ?_))
  split
  · exact wpAny_pure (And.intro rfl h0)
  · refine wpAny_bind (wpAny_rule ?_)
    show wpAny _ _ (standAt i2.pos >>= _) _ _ s
    exact wpAny_bind (wpAny_standAt (wpAny_bind (wpAny_mono h (fun it' s' h' => wpAny_pure (And.intro rfl h')) fun _ _ x => x)))

theorem code_out {elt t1 i1 : Expr} {ifs : List Expr} {t2 i2 : Expr} {scope : Scope} {pos : Pos} {it acc : Value} {env : Env} (I : Nat → Shared → Prop)
    (turn : ∀ n s, I n s → wpAny (model prog w) A (pyNext it) (fun r s₁ => match r with
      | none => R (.ok .next) s₁
      | some v => wpAny (model prog w) A (assign t1 env v) (fun _ s₂ =>
          wpAny (model prog w) A (forIn ifs true fun c r => if r = true then do let ok ← isTrue c env (eval c env); pure (ForInStep.yield ok) else pure (ForInStep.yield r)) (fun ok s₃ =>
            if ok = true then wpAny (model prog w) A (eval i2 env) (fun x s₄ => wpAny (model prog w) A (pyIter x) (fun it2 s₅ =>
              codeAny (model prog w) (A.mark none) (.compStart (two elt t1 i1 ifs t2 i2 scope pos) 1 it2 acc env) (fun r s₆ => match r with | .ok _ => ∃ m, m < n ∧ I m s₆ | .error e => cameBackBy (model prog w) A env (notedBy (model prog w) A env fun e s' => R (.error e) s') e s₆) s₅)
                (notedBy (model prog w) A env fun e s' => R (.error e) s') s₄) (notedBy (model prog w) A env fun e s' => R (.error e) s') s₃
            else ∃ m, m < n ∧ I m s₃) (notedBy (model prog w) A env fun e s' => R (.error e) s') s₂) (notedBy (model prog w) A env fun e s' => R (.error e) s') s₁) (notedBy (model prog w) A env fun e s' => R (.error e) s') s)
    (n : Nat) (h : I n s) (ht : ∀ v, letOwnedTupleGo t1 it v = pure () := by intro _; rfl) (hs2 : ∀ x, foldedSetIterable i2 env x = pure x := by intro _; rfl) :
    codeAny (model prog w) A (.compLoop (two elt t1 i1 ifs t2 i2 scope pos) 0 it acc env) R s := by
  refine codeAny_loop rfl I (fun n s hI => ?_) n h
  show wpAny _ A ((compTurn (two elt t1 i1 ifs t2 i2 scope pos) 0 it acc env).onRaise (fun x => do noteFrame x env; theTreesLotGoes x)) _ _ s
  refine wpAny_noted ?_
  rw [turn_out]
  refine wpAny_bind (wpAny_standAt (wpAny_bind (wpAny_mono (turn n s hI) (fun r s₁ h₁ => ?_) fun _ _ h' => h')))
  cases r with
  | none => exact wpAny_pure h₁
  | some v =>
    refine wpAny_bind (wpAny_of_eq (ht v) ?_)
    refine wpAny_bind (wpAny_mono h₁ (fun _ s₂ h₂ => wpAny_bind (wpAny_mono h₂ (fun ok s₃ h₃ => ?_) fun _ _ h' => h')) fun _ _ h' => h')
    cases ok with
    | false => exact wpAny_pure ⟨rfl, h₃⟩
    | true =>
      refine wpAny_bind (wpAny_mono h₃ (fun x s₄ h₄ => wpAny_bind (wpAny_standAt (wpAny_bind (wpAny_of_eq (hs2 x) ?_)))) fun _ _ h' => h')
      refine wpAny_bind (wpAny_holding (wpAny_mono h₄ (fun it2 s₅ h₅ => ?_) fun _ _ h' => h'))
      exact wpAny_bind (wpAny_runOwn (codeAny_mono h₅ fun r s₆ h₆ => by
        cases r with
        | ok f => exact wpAny_pure ⟨rfl, h₆⟩
        | error e => exact h₆))
end
end
section
theorem quiet6 : True := by
  w_top off
  exact True.intro
open LCg in
noncomputable def In2 (prog : Program) (w : World) (A : Around) (h₀ : Heap) (L : Addr) (m : Str → Option Value) (cenv : Env) (elt : Expr) (x y : Str) (s : Shared) (S2 : List (Addr × Obj) → Prop) (C D : Addr) (v : Value) (next : List Value → List (Addr × Obj) → Prop) :
    List Value → List Value → List (Addr × Obj) → Prop
  | [], ys, nw => next ys nw
  | v2 :: r, ys, nw => ∀ I2 oI2 oC m₂ h tk (E' : Value → Shared → Prop), NsObj oC m₂ → m₂ x = some v → m₂ y = some v2 → Fr h₀ L h m → News h₀ L h ((I2, oI2) :: (C, oC) :: (D, lst ys) :: nw) → Off3 I2 C D nw → ((@Ne Nat I2 C) ∧ (@Ne Nat I2 D) ∧ (@Ne Nat C D)) →
      wpAny (model prog w) A (eval elt cenv) (CompEnd h₀ L m { s with heap := h, toks := tk } I2 oI2 C oC D (lst ys) S2 (fun z nw' => In2 prog w A h₀ L m cenv elt x y s S2 C D v next r (ys ++ [z]) nw')) E' { s with heap := h, toks := tk }
open LCg in
noncomputable def Rest2 (prog : Program) (w : World) (A : Around) (h₀ : Heap) (L : Addr) (m : Str → Option Value) (env : Env) (elt ct i2 : Expr) (x y : Str) (scope : Scope) (cl : List (Str × Addr)) (s : Shared) (S : List (Addr × Obj) → Prop) (P : Nat → Value → Prop) (Fin : List Value → List (Addr × Obj) → Prop) :
    Nat → Nat → List Value → List (Addr × Obj) → Prop
  | 0, _, ys, nw => Fin ys nw
  | k + 1, i, ys, nw => ∀ v I oI C oC D m₂ h tk (E' : Value → Shared → Prop), P i v → NsObj oC m₂ → m₂ x = some v → Fr h₀ L h m → News h₀ L h ((I, oI) :: (C, oC) :: (D, lst ys) :: nw) → Off3 I C D nw → ((@Ne Nat I C) ∧ (@Ne Nat I D) ∧ (@Ne Nat C D)) →
      wpAny (model prog w) A (isTrue ct (compEnvC scope cl C env) (eval ct (compEnvC scope cl C env))) (fun ok s' => if ok = true then
        wpAny (model prog w) A (eval i2 (compEnvC scope cl C env)) (fun xv s₁ => ∃ tup vs2 n2 h' tk' all nw', xv = .ref tup ∧ s₁ = { s with heap := h', toks := tk' } ∧ Fr h₀ L h' m ∧ News h₀ L h' all ∧ (∀ p ∈ (I, oI) :: (C, oC) :: (D, lst ys) :: nw', p ∈ all) ∧ Off3 I C D nw' ∧
          (tup, tupO vs2 n2) ∈ nw' ∧ vs2.length ≤ 2 ∧ S nw' ∧
          In2 prog w A h₀ L m (compEnvC scope cl C env) elt x y s (fun nw2 => (I, oI) ∈ nw2 ∧ (tup, tupO vs2 n2) ∈ nw2) C D v (fun ys nw2 => ∃ nw, nw2 = (I, oI) :: nw ∧ Off3 I C D nw ∧ S nw ∧ Rest2 prog w A h₀ L m env elt ct i2 x y scope cl s S P Fin k (i + 1) ys nw) vs2 ys ((I, oI) :: nw')) E' s'
        else CompEnd h₀ L m { s with heap := h, toks := tk } I oI C oC D (lst ys) S (fun _ nw' => Rest2 prog w A h₀ L m env elt ct i2 x y scope cl s S P Fin k (i + 1) ys nw') Value.none s') E' { s with heap := h, toks := tk }

section
variable {prog : Program} {w : World} {A : Around} {E : Value → Shared → Prop} {s : Shared} {h₀ : Heap} {L : Addr} {m : Str → Option Value} {env : Env}
open LCg in
theorem block_2 {elt ct i1 i2 : Expr} {x y : Str} {px py : Pos} {scope : Scope} {cl : List (Str × Addr)} {pos : Pos} {s₂ : Shared} {I : Addr} {fp : List Addr} {n : Nat} {P : Nat → Value → Prop} {St : Nat → Heap → Prop} {S : List (Addr × Obj) → Prop} {news : List (Addr × Obj)}
    {Fin : List Value → List (Addr × Obj) → Prop} {RR : Value → Addr → Result → Shared → Prop} (hh : A.handled = none)
    (W : Walks prog w A I fp [I] n P St) (hsz : n ≤ 1000) (hIo : ∀ i h, St i h → ∃ o, h.get? I = some o)
    (hSt : ∀ i h h' o nw, St i h → h.get? I = some o → h'.get? I = some o → (∀ b o, h₀.get? b = some o → h'.get? b = some o) → News h₀ L h' nw → S nw → St i h')
    (hcell : ∀ z ∈ scope.names, z.2 ≠ .cell) (hkind : scope.kind = .function) (hx : scope.names.lookup x = some .local) (hy : scope.names.lookup y = some .local) (hxy : x ≠ y) (hst : St 0 s₂.heap) (hfp : ∀ b ∈ fp, b < s₂.heap.objs.size)
    (F : Fr h₀ L s₂.heap m) (N : News h₀ L s₂.heap news) (hIL : L ≠ I) (hI₀ : h₀.get? I = none) (off : ∀ p ∈ news, p.1 ≠ I) (hS : S news)
    (R : Rest2 prog w A h₀ L m env elt ct i2 x y scope cl s₂ S P Fin n 0 [] news) (hs2 : ∀ C x, foldedSetIterable i2 (compEnvC scope cl C env) x = pure x)
    (hRR : ∀ D C h tk m' ys news', Fr h₀ L h m → News h₀ L h ((D, lst ys) :: news') → Off1 D news' → h.Ns C m' → h₀.get? C = none → h₀.get? D = none → C ≠ L → D ≠ L → C ≠ D → (∀ p ∈ news', p.1 ≠ C) → Fin ys news' → RR (.ref D) C (.ok .next) { s₂ with heap := h, toks := tk }) :
    wpAny (model prog w) A (newList []) (fun acc s₃ => wpAny (model prog w) A (newFunctionEnv scope env.globals cl [] env.qual none .none (some env)) (fun cenv s₄ =>
      codeAny (model prog w) A (.compStart (two elt (.Name x px) i1 [ct] (.Name y py) i2 scope pos) 0 (.ref I) acc { cenv with scope := relabel scope env }) (RR acc cenv.locals) s₄) E s₃) E s₂ := by
  refine wpAny_newObj_type (wpAny_newFunctionEnv hcell (by intro y hy; simp at hy) (fun h₁ hns₁ hsb₁ => ?_) hkind)
  dsimp only at hns₁ hsb₁ ⊢
  generalize hH2 : s₂.heap.push { cls := .type "list", dict := none, data := .seq ([] : List Value).toArray } = H2 at hns₁ hsb₁ ⊢
  have hC : H2.objs.size = s₂.heap.objs.size + 1 := by rw [← hH2, Heap.size_push]
  have hDC : s₂.heap.objs.size ≠ H2.objs.size := by rw [hC]; exact Nat.ne_of_lt (Nat.lt_succ_self _)
  have below : ∀ b, b < s₂.heap.objs.size → b ≠ H2.objs.size ∧ b ≠ s₂.heap.objs.size := fun b hb => ⟨by rw [hC]; exact Nat.ne_of_lt (Nat.lt_succ_of_lt hb), Nat.ne_of_lt hb⟩
  have hDf : s₂.heap.objs.size ∉ fp := fun hm => Nat.lt_irrefl _ (hfp _ hm)
  have hCf : H2.objs.size ∉ fp := fun hm => by have := hfp _ hm; rw [hC] at this; exact Nat.lt_irrefl _ (Nat.lt_of_succ_lt this)
  have hIf : I ∈ fp := W.sub I (List.mem_singleton.mpr rfl)
  have hIlt : I < s₂.heap.objs.size := hfp I hIf
  have old : ∀ b o, s₂.heap.get? b = some o → h₁.get? b = some o := fun b o e => hsb₁.extBut b o (below b (Heap.lt_size e)).1 (Heap.get?_push_of_some _ (hH2 ▸ Heap.get?_push_of_some _ e))
  have hacc : h₁.get? s₂.heap.objs.size = some (lst []) := hsb₁.extBut _ _ hDC (Heap.get?_push_of_some _ (hH2 ▸ Heap.get?_push_size _ rfl))
  have hst₁ : St 0 h₁ := W.frame _ _ _ hst fun b _ o e => old b o e
  have fresh : ∀ a, s₂.heap.objs.size ≤ a → s₂.heap.get? a = none := fun a ha => by
    cases e : s₂.heap.get? a with
    | none => rfl
    | some o' => exact absurd (Heap.lt_size e) (Nat.not_lt.mpr ha)
  have fresh₀ : ∀ a, s₂.heap.objs.size ≤ a → h₀.get? a = none := fun a ha => by
    cases e : h₀.get? a with
    | none => rfl
    | some o' => have := F.keep a o' e; rw [fresh a ha] at this; cases this
  have hD₀ : h₀.get? s₂.heap.objs.size = none := fresh₀ _ (Nat.le_refl _)
  have hC₀ : h₀.get? H2.objs.size = none := fresh₀ _ (by rw [hC]; exact Nat.le_succ _)
  have hLlt : L < s₂.heap.objs.size := F.ns.lt
  have hDL : s₂.heap.objs.size ≠ L := Ne.symm (below L hLlt).2
  have hCL : H2.objs.size ≠ L := Ne.symm (below L hLlt).1
  have hCI : I ≠ H2.objs.size := (below I hIlt).1
  have hDI : I ≠ s₂.heap.objs.size := (below I hIlt).2
  have off₀ : Off3 I H2.objs.size s₂.heap.objs.size news := Off3.of fun p hp => ⟨off p hp, (below _ (Heap.lt_size (N p hp).1)).1, (below _ (Heap.lt_size (N p hp).1)).2⟩
  generalize hDD : s₂.heap.objs.size = D at *
  generalize hCC : H2.objs.size = Cx at *
  have loop : ∀ s₃ : Shared, s₃ = { s₂ with heap := h₁, toks := s₂.toks + ([] : List (Str × Value)).length } →
      codeAny (model prog w) A (.compLoop (two elt (.Name x px) i1 [ct] (.Name y py) i2 scope pos) 0 (.ref I) (.ref D) (compEnvC scope cl Cx env)) (RR (.ref D) Cx) s₃ := by
    rintro s₃ rfl
    refine code_out
      (fun k s' => ∃ h' tk i ys m' news', s' = { s₂ with heap := h', toks := tk } ∧ i ≤ n ∧ k = n + 1 - i ∧ ys.length ≤ 2 * i ∧ St i h' ∧ Fr h₀ L h' m ∧ h'.Ns Cx m' ∧ News h₀ L h' ((D, lst ys) :: news') ∧
        Off3 I Cx D news' ∧ S news' ∧ Rest2 prog w A h₀ L m env elt ct i2 x y scope cl s₂ S P Fin (n - i) i ys news') ?_ (n + 1)
      ⟨h₁, _, 0, [], _, news, rfl, Nat.zero_le _, rfl, Nat.le_refl _, hst₁, F.keeps old, hns₁, fun p hp => ?_, off₀, hS, R⟩ (by intro _; rfl) (hs2 Cx)
    · rintro k s' ⟨h', tk, i, ys, m', news', rfl, hi, rfl, hyl, hst', F', hn', N', off', hS', R'⟩
      by_cases hlt : i < n
      · obtain ⟨j, hj⟩ : ∃ j, n - i = j + 1 := ⟨n - i - 1, by omega⟩
        rw [hj] at R'
        refine W.item i _ _ _ hlt hst' fun v h₂ tk₂ hPv hst₂ hk₂ => ?_
        refine wpAny_assign_Name (wpAny_storeName_local (lookup_relabel_local hx) (hn'.at' fun o e => hk₂ _ o (by simpa using Ne.symm hCI) e) (fun h₃ hn₃ hs₃ => ?_) (by simp [compEnvC, relabel, hkind]))
        refine wpAny_tests_one ?_
        have hst₃ : St (i + 1) h₃ := W.frame _ _ _ hst₂ fun b hb o e => hs₃.extBut b o (fun q => hCf (by have q' : b = Cx := q; rw [← q']; exact hb)) e
        obtain ⟨oI, heI⟩ := hIo _ _ hst₃
        obtain ⟨oC, heC, hoC⟩ := ns_obj hn₃
        have F₃ : Fr h₀ L h₃ m := (fr_but F' hk₂ hIL hI₀).change hs₃ hCL hC₀
        have off3 := off'.mem
        have N₂ : News h₀ L h₂ ((D, lst ys) :: news') := news_but N' hk₂ fun p hp => by
          rcases List.mem_cons.mp hp with rfl | hp
          · exact Ne.symm hDI
          · exact (off3 p hp).1
        have N₃ : News h₀ L h₃ ((I, oI) :: (Cx, oC) :: (D, lst ys) :: news') := fun p hp => by
          rcases List.mem_cons.mp hp with rfl | hp
          · exact ⟨heI, Ne.symm hIL, hI₀⟩
          · rcases List.mem_cons.mp hp with rfl | hp
            · exact ⟨heC, hCL, hC₀⟩
            · have z := N₂ p hp
              refine ⟨hs₃.extBut _ _ ?_ z.1, z.2⟩
              rcases List.mem_cons.mp hp with rfl | hp
              · exact hDC
              · exact (off3 p hp).2.1
        refine wpAny_mono (R' v I oI Cx oC D _ h₃ _ _ hPv hoC (by simp) F₃ N₃ off' ⟨hCI, hDI, Ne.symm hDC⟩) (fun ok s₄ h₄ => ?_) fun _ _ e => e
        cases ok with
        | true =>
          simp only [if_true] at h₄ ⊢
          refine wpAny_mono h₄ (fun xv s₅ h₅ => ?_) fun _ _ e => e
          obtain ⟨tup, vs2, n2, h₄, tk₄, all, nw4, rfl, rfl, F₄, N₄a, sub₄, off₄, htup, hv2, hS₄, IN⟩ := h₅
          have N₄ : News h₀ L h₄ ((I, oI) :: (Cx, oC) :: (D, lst ys) :: nw4) := News.sub N₄a sub₄
          have htl : h₄.IsTuple tup vs2.toArray := ⟨_, (N₄ _ (List.mem_cons_of_mem _ (List.mem_cons_of_mem _ (List.mem_cons_of_mem _ htup)))).1, rfl, n2, rfl⟩
          refine wpAny_pyIter_tuple htl ?_
          dsimp only
          have hTlt : tup < h₄.objs.size := by obtain ⟨_, e, _⟩ := htl; exact Heap.lt_size e
          have up : ∀ b o, h₄.get? b = some o → (h₄.push { cls := .type "tuple_iterator", data := .fields #[.ref tup, .int 0 0] }).get? b = some o := fun b o e => Heap.get?_push_of_some _ e
          have st0 : (h₄.push { cls := .type "tuple_iterator", data := .fields #[.ref tup, .int 0 0] }).IsTupleIter h₄.objs.size tup 0 ∧ (h₄.push { cls := .type "tuple_iterator", data := .fields #[.ref tup, .int 0 0] }).IsTuple tup vs2.toArray := ⟨⟨_, Heap.get?_push_size _ rfl, rfl, rfl⟩, htl.push _⟩
          have zI4 := N₄ (I, oI) List.mem_cons_self
          have zC4 := N₄ (Cx, oC) (List.mem_cons_of_mem _ List.mem_cons_self)
          have zD4 := N₄ (D, lst ys) (List.mem_cons_of_mem _ (List.mem_cons_of_mem _ List.mem_cons_self))
          have N₄n : News h₀ L h₄ nw4 := fun p hp => N₄ p (List.mem_cons_of_mem _ (List.mem_cons_of_mem _ (List.mem_cons_of_mem _ hp)))
          have hI2C : h₄.objs.size ≠ Cx := Ne.symm (Nat.ne_of_lt (Heap.lt_size zC4.1))
          have hI2D : h₄.objs.size ≠ D := Ne.symm (Nat.ne_of_lt (Heap.lt_size zD4.1))
          have hI2L : L ≠ h₄.objs.size := Nat.ne_of_lt F₄.ns.lt
          have hI20 : h₀.get? h₄.objs.size = none := next_is_new F₄
          have off2 : Off3 h₄.objs.size Cx D ((I, oI) :: nw4) := Off3.of fun p hp => by
            rcases List.mem_cons.mp hp with rfl | hp
            · exact ⟨Nat.ne_of_lt (Heap.lt_size zI4.1), hCI, hDI⟩
            · exact ⟨Nat.ne_of_lt (Heap.lt_size (N₄n p hp).1), (off₄.mem p hp).2⟩
          generalize hI2 : h₄.objs.size = I2 at *
          generalize h₄.push { cls := .type "tuple_iterator", data := .fields #[.ref tup, .int 0 0] } = h4p at *
          have W2 := Walks.tuple (prog := prog) (w := w) hh I2 tup (Nat.ne_of_lt hTlt) vs2.toArray
          have inner : codeAny (model prog w) A (.compLoop (two elt (.Name x px) i1 [ct] (.Name y py) i2 scope pos) 1 (.ref I2) (.ref D) (compEnvC scope cl Cx env))
              (fun r s₆ => match r with | .ok _ => ∃ m_1, m_1 < n + 1 - i ∧ (∃ h' tk i ys m' news', s₆ = { s₂ with heap := h', toks := tk } ∧ i ≤ n ∧ m_1 = n + 1 - i ∧ ys.length ≤ 2 * i ∧ St i h' ∧ Fr h₀ L h' m ∧ h'.Ns Cx m' ∧ News h₀ L h' ((D, lst ys) :: news') ∧
                Off3 I Cx D news' ∧ S news' ∧ Rest2 prog w A h₀ L m env elt ct i2 x y scope cl s₂ S P Fin (n - i) i ys news') | .error e => cameBackBy (model prog w) A (compEnvC scope cl Cx env) (notedBy (model prog w) A (compEnvC scope cl Cx env) fun e s' => RR (.ref D) Cx (.error e) s') e s₆) { s₂ with heap := h4p, toks := tk₄ } := by
            refine code_in (fun kk s' => ∃ h' tk jj ys' mm nw2, s' = { s₂ with heap := h', toks := tk } ∧ jj ≤ vs2.length ∧ kk = vs2.length + 1 - jj ∧ ys'.length ≤ ys.length + jj ∧ (h'.IsTupleIter I2 tup jj ∧ h'.IsTuple tup vs2.toArray) ∧ Fr h₀ L h' m ∧ h'.Ns Cx mm ∧ mm x = some v ∧
              News h₀ L h' ((D, lst ys') :: nw2) ∧ Off3 I2 Cx D nw2 ∧ ((I, oI) ∈ nw2 ∧ (tup, tupO vs2 n2) ∈ nw2) ∧
              In2 prog w A h₀ L m (compEnvC scope cl Cx env) elt x y s₂ (fun nw2 => (I, oI) ∈ nw2 ∧ (tup, tupO vs2 n2) ∈ nw2) Cx D v (fun ys nw2 => ∃ nw, nw2 = (I, oI) :: nw ∧ Off3 I Cx D nw ∧ S nw ∧ Rest2 prog w A h₀ L m env elt ct i2 x y scope cl s₂ S P Fin j (i + 1) ys nw) (vs2.drop jj) ys' nw2) ?_ (vs2.length + 1)
              ⟨h4p, _, 0, ys, _, (I, oI) :: nw4, rfl, Nat.zero_le _, rfl, Nat.le_refl _, st0, F₄.keeps up, (hoC.ns zC4.1).at' fun o e => up _ o e, by simp, fun p hp => ?_, off2, ⟨List.mem_cons_self, List.mem_cons_of_mem _ htup⟩, IN⟩ (by intro _; rfl)
            · rintro kk s' ⟨h5, tk5, jj, ys5, mm, nw5, rfl, hjj, rfl, hy5, st5, F5, hn5, hmx, N5, off5, hS5, IN5⟩
              by_cases hlt5 : jj < vs2.length
              · have edrop : vs2.drop jj = vs2[jj] :: vs2.drop (jj + 1) := List.drop_eq_getElem_cons hlt5
                rw [edrop] at IN5
                refine W2.item jj _ _ _ (by simpa using hlt5) st5 fun v2 h6 tk6 hP6 st6 hk6 => ?_
                have ev2 : vs2[jj] = v2 := by simpa [hlt5] using hP6
                rw [ev2] at IN5
                refine wpAny_assign_Name (wpAny_storeName_local (lookup_relabel_local hy) (hn5.at' fun o e => hk6 _ o (by simpa using Ne.symm hI2C) e) (fun h7 hn7 hs7 => ?_) (by simp [compEnvC, relabel, hkind]))
                have st7 : h7.IsTupleIter I2 tup (jj + 1) ∧ h7.IsTuple tup vs2.toArray := W2.frame (jj + 1) _ _ st6 fun b hb o e => hs7.extBut b o (fun q => by
                  have q' : b = Cx := q
                  rw [q'] at hb
                  rcases List.mem_cons.mp hb with hb | hb
                  · exact hI2C hb.symm
                  · rw [List.mem_singleton] at hb
                    exact (off5.mem _ hS5.2).2.1 hb.symm) e
                obtain ⟨oI2, heI2, hxI2⟩ := id st7.1
                obtain ⟨oC7, heC7, hoC7⟩ := ns_obj hn7
                have F7 : Fr h₀ L h7 m := (fr_but F5 hk6 hI2L hI20).change hs7 hCL hC₀
                have off55 := off5.mem
                have N6 : News h₀ L h6 ((D, lst ys5) :: nw5) := news_but N5 hk6 fun p hp => by
                  rcases List.mem_cons.mp hp with rfl | hp
                  · exact Ne.symm hI2D
                  · exact (off55 p hp).1
                have N7 : News h₀ L h7 ((I2, oI2) :: (Cx, oC7) :: (D, lst ys5) :: nw5) := fun p hp => by
                  rcases List.mem_cons.mp hp with rfl | hp
                  · exact ⟨heI2, Ne.symm hI2L, hI20⟩
                  · rcases List.mem_cons.mp hp with rfl | hp
                    · exact ⟨heC7, hCL, hC₀⟩
                    · have z := N6 p hp
                      refine ⟨hs7.extBut _ _ ?_ z.1, z.2⟩
                      rcases List.mem_cons.mp hp with rfl | hp
                      · exact hDC
                      · exact (off55 p hp).2.1
                refine wpAny_mono (IN5 I2 oI2 oC7 _ h7 _ _ hoC7 (by simp [hxy, hmx]) (by simp) F7 N7 off5 ⟨hI2C, hI2D, Ne.symm hDC⟩) (fun z s8 h8 => ?_) fun _ _ e => e
                obtain ⟨h8, tk8, nw8, rfl, F8, N8, off8, hS8, IN8⟩ := h8
                have zI8 := (N8 (I2, oI2) List.mem_cons_self).1
                have zC8 := (N8 (Cx, oC7) (List.mem_cons_of_mem _ List.mem_cons_self)).1
                have zD8 := (N8 (D, lst ys5) (List.mem_cons_of_mem _ (List.mem_cons_of_mem _ List.mem_cons_self))).1
                have N8' : News h₀ L h8 nw8 := fun p hp => N8 p (List.mem_cons_of_mem _ (List.mem_cons_of_mem _ (List.mem_cons_of_mem _ hp)))
                have st8 : h8.IsTupleIter I2 tup (jj + 1) ∧ h8.IsTuple tup vs2.toArray := ⟨⟨oI2, zI8, hxI2⟩, ⟨_, (N8' _ hS8.2).1, rfl, n2, rfl⟩⟩
                refine append_at (hsz := by show ys5.toArray.size ≤ sizeLine; rw [List.size_toArray, sizeLine_eq]; omega) zD8 fun h9 hs9 hD9 => ?_
                have off88 := off8.mem
                refine ⟨vs2.length + 1 - (jj + 1), by omega, h9, tk8, jj + 1, ys5 ++ [z], _, nw8, rfl, hlt5, rfl, by rw [List.length_append, List.length_singleton]; omega, W2.frame (jj + 1) _ _ st8 fun b hb o e => hs9.extBut b o (fun q => ?_) e, F8.change hs9 hDL hD₀,
                  (hoC7.ns zC8).sameBut hs9 (Ne.symm hDC), by simp [hxy, hmx], fun p hp => ?_, off8, hS8, IN8⟩
                · have q' : b = D := q
                  rw [q'] at hb
                  rcases List.mem_cons.mp hb with hb | hb
                  · exact hI2D hb.symm
                  · rw [List.mem_singleton] at hb
                    exact (off88 _ hS8.2).2.2 hb.symm
                · rcases List.mem_cons.mp hp with rfl | hp
                  · exact ⟨hD9.trans (congrArg some (lst_snoc ys5 z)), hDL, hD₀⟩
                  · exact ⟨hs9.extBut _ _ (off88 p hp).2.2 (N8' p hp).1, (N8' p hp).2⟩
              · obtain rfl : jj = vs2.length := Nat.le_antisymm hjj (Nat.not_lt.mp hlt5)
                rw [List.drop_length] at IN5
                obtain ⟨nw9, rfl, off9, hS9, R9⟩ := IN5
                refine W2.done _ _ _ (by simpa using st5) fun h6 tk6 hk6 => ?_
                have off55 := off5.mem
                have F6 : Fr h₀ L h6 m := fr_but F5 hk6 hI2L hI20
                have N6 : News h₀ L h6 ((D, lst ys5) :: (I, oI) :: nw9) := news_but N5 hk6 fun p hp => by
                  rcases List.mem_cons.mp hp with rfl | hp
                  · exact Ne.symm hI2D
                  · exact (off55 p hp).1
                have N6n : News h₀ L h6 nw9 := fun p hp => N6 p (List.mem_cons_of_mem _ (List.mem_cons_of_mem _ hp))
                have zI6 := (N6 (I, oI) (List.mem_cons_of_mem _ List.mem_cons_self)).1
                refine ⟨n + 1 - (i + 1), by omega, h6, tk6, i + 1, ys5, mm, nw9, rfl, hlt, rfl, by omega, hSt _ _ _ _ _ hst₃ heI zI6 F6.keep N6n hS9, F6, hn5.at' fun o e => hk6 _ o (by simpa using Ne.symm hI2C) e, fun p hp => ?_, off9, hS9, ?_⟩
                · rcases List.mem_cons.mp hp with rfl | hp
                  · exact N6 _ List.mem_cons_self
                  · exact N6n p hp
                · rw [show n - (i + 1) = j by omega]
                  exact R9
            · rcases List.mem_cons.mp hp with rfl | hp
              · exact ⟨up _ _ zD4.1, zD4.2⟩
              · rcases List.mem_cons.mp hp with rfl | hp
                · exact ⟨up _ _ zI4.1, zI4.2⟩
                · exact ⟨up _ _ (N₄n p hp).1, (N₄n p hp).2⟩
          exact start_in inner (W2.self 0 _ _ _ st0 inner)
        | false =>
          simp only [Bool.false_eq_true, if_false] at h₄ ⊢
          obtain ⟨h₅, tk₄, news₄, rfl, F₄, N₄, off₄, hS₄, R₄⟩ := h₄
          have zI := (N₄ (I, oI) List.mem_cons_self).1
          have zC := (N₄ (Cx, oC) (List.mem_cons_of_mem _ List.mem_cons_self)).1
          have N₄' : News h₀ L h₅ news₄ := fun p hp => N₄ p (List.mem_cons_of_mem _ (List.mem_cons_of_mem _ (List.mem_cons_of_mem _ hp)))
          have hst₄ : St (i + 1) h₅ := hSt _ _ _ _ _ hst₃ heI zI F₄.keep N₄' hS₄
          refine ⟨n + 1 - (i + 1), by omega, h₅, tk₄, i + 1, ys, _, news₄, rfl, hlt, rfl, by omega, hst₄, F₄, hoC.ns zC, fun p hp => ?_, off₄, hS₄, ?_⟩
          · rcases List.mem_cons.mp hp with rfl | hp
            · exact N₄ _ (List.mem_cons_of_mem _ (List.mem_cons_of_mem _ List.mem_cons_self))
            · exact N₄' p hp
          · rw [show n - (i + 1) = j by omega]
            exact R₄
      · obtain rfl : i = n := Nat.le_antisymm hi (Nat.not_lt.mp hlt)
        rw [Nat.sub_self] at R'
        refine W.done _ _ _ hst' fun h₂ tk₂ hk₂ => ?_
        have off3 := off'.mem
        exact hRR _ _ h₂ tk₂ _ ys news' (fr_but F' hk₂ hIL hI₀) (news_but N' hk₂ fun p hp => by
          rcases List.mem_cons.mp hp with rfl | hp
          · exact Ne.symm hDI
          · exact (off3 p hp).1) off'.one (hn'.at' fun o e => hk₂ _ o (by simpa using Ne.symm hCI) e) hC₀ hD₀ hCL hDL (Ne.symm hDC) (fun p hp => (off3 p hp).2.1) R'
    · rcases List.mem_cons.mp hp with rfl | hp
      · exact ⟨hacc, hDL, hD₀⟩
      · exact ⟨old _ _ (N p hp).1, (N p hp).2⟩
  exact codeAny_compStart_list (loop _ rfl) (W.self 0 _ _ _ hst₁ (loop _ rfl))

open LCg in
def Src2 (prog : Program) (w : World) (A : Around) (h₀ : Heap) (L : Addr) (m : Str → Option Value) (env : Env) (elt ct i2 : Expr) (x y : Str) (scope : Scope) (cl : List (Str × Addr)) (Q : Value → Shared → Prop) (xv : Value) (s₁ : Shared) : Prop :=
  ∃ ax its k news, xv = .ref ax ∧ A.handled = none ∧ Fr h₀ L s₁.heap m ∧ News h₀ L s₁.heap news ∧ (ax, ({ cls := .type "list", data := .seq its k } : Obj)) ∈ news ∧ its.size ≤ 1000 ∧
    ∀ g, Rest2 prog w A h₀ L m env elt ct i2 x y scope cl { s₁ with heap := g } (SrcAt h₀ ax its) (fun i v => its[i]? = some v) (FinE h₀ L m { s₁ with heap := g } Q) its.size 0 [] news
open LCg in
theorem ListComp_2 {elt ct i1 i2 : Expr} {x y : Str} {px py : Pos} {scope : Scope} {cl : List (Str × Addr)} {pos : Pos} {Q : Value → Shared → Prop}
    (hclos : closureFor scope env = pure cl) (hcell : ∀ z ∈ scope.names, z.2 ≠ .cell) (hkind : scope.kind = .function)
    (hnames : ∀ z ∈ scope.names, z.2 = .local → scope.names.lookup z.1 = some .local) (hx : scope.names.lookup x = some .local) (hy : scope.names.lookup y = some .local) (hxy : x ≠ y)
    (h : wpAny (model prog w) A (eval i1 env) (Src2 prog w A h₀ L m env elt ct i2 x y scope cl Q) E s)
    (hs : ∀ x, foldedSetIterable i1 env x = pure x := by intro _; rfl) (hs2 : ∀ C x, foldedSetIterable i2 (compEnvC scope cl C env) x = pure x := by intro _ _; rfl) :
    wpAny (model prog w) A (eval (two elt (.Name x px) i1 [ct] (.Name y py) i2 scope pos) env) Q E s := by
  rw [eval_ListComp]
  refine wpAny_comprehension_free (use := none) rfl hs hclos hkind hnames (wpAny_mono h (fun xv s₁ h₁ => ?_) fun _ _ e => e)
  obtain ⟨ax, its, k, news, rfl, hh, F, N, hm, hsz, R⟩ := h₁
  have S : SrcAt h₀ ax its news := .inr ⟨_, hm, rfl, _, rfl⟩
  have hl := S.list F.keep N
  have hlt : ax < s₁.heap.objs.size := by obtain ⟨_, e, _⟩ := hl; exact Heap.lt_size e
  refine wpAny_pyIter_list hl ?_
  have up : ∀ b o, s₁.heap.get? b = some o → (s₁.heap.push { cls := .type "list_iterator", data := .fields #[.ref ax, .int 0 0] }).get? b = some o := fun b o e => Heap.get?_push_of_some _ e
  refine block_2 hh (Walks.list hh s₁.heap.objs.size ax (Nat.ne_of_lt hlt) its) hsz (fun i h st => by obtain ⟨o, e, _⟩ := st.1; exact ⟨o, e⟩) list_st hcell hkind hx hy hxy ⟨⟨_, Heap.get?_push_size _ rfl, rfl, rfl⟩, hl.push _⟩ (fun b hb => ?_)
    (F.keeps up) (N.grown up) (Nat.ne_of_lt F.ns.lt) (next_is_new F) (fun p hp => Nat.ne_of_lt (Heap.lt_size (N p hp).1)) S (R _) hs2 ?_
  · show b < (s₁.heap.push _).objs.size
    rw [Heap.size_push]
    rcases List.mem_cons.mp hb with rfl | hb
    · exact Nat.lt_succ_self _
    · rw [List.mem_singleton.mp hb]; exact Nat.lt_succ_of_lt hlt
  · intro D C h tk m' ys news' F' N' o1 hn hC₀ hD₀ hCL hDL hCD offC fin
    refine ⟨m', hn, fun h'' hs'' => fin D h'' tk (F'.change hs'' hCL hC₀) (fun p hp => ?_) o1⟩
    refine ⟨hs''.extBut _ _ ?_ (N' p hp).1, (N' p hp).2⟩
    rcases List.mem_cons.mp hp with rfl | hp
    · exact Ne.symm hCD
    · exact offC p hp
end
end
section
theorem quiet7 : True := by
  w_top off
  exact True.intro
section
variable {prog : Program} {w : World} {A : Around} {h₀ : Heap} {L : Addr} {m : Str → Option Value} {env cenv : Env} {elt ct i2 : Expr} {x y : Str} {scope : Scope} {cl : List (Str × Addr)} {s : Shared} {S S2 : List (Addr × Obj) → Prop} {P : Nat → Value → Prop} {Fin : List Value → List (Addr × Obj) → Prop} {n : Nat} {news : List (Addr × Obj)}
def Hold (P : Prop) : Prop := P
open LCg in
theorem in2_inv {C D : Addr} {v : Value} {next : List Value → List (Addr × Obj) → Prop} {vs2 : List Value} (J : Nat → List Value → List (Addr × Obj) → Prop)
    (turn : ∀ j v2 ys nw I2 oI2 oC m₂ h tk (E' : Value → Shared → Prop), vs2[j]? = some v2 → J j ys nw → NsObj oC m₂ → m₂ x = some v → m₂ y = some v2 → Fr h₀ L h m → News h₀ L h ((I2, oI2) :: (C, oC) :: (D, lst ys) :: nw) → Off3 I2 C D nw → ((@Ne Nat I2 C) ∧ (@Ne Nat I2 D) ∧ (@Ne Nat C D)) →
      wpAny (model prog w) A (eval elt cenv) (CompEnd h₀ L m { s with heap := h, toks := tk } I2 oI2 C oC D (lst ys) S2 (fun z nw' => J (j + 1) (ys ++ [z]) nw')) E' { s with heap := h, toks := tk })
    (fin : ∀ ys nw, J vs2.length ys nw → next ys nw) {ys : List Value} {nw : List (Addr × Obj)} (h0 : J 0 ys nw) : In2 prog w A h₀ L m cenv elt x y s S2 C D v next vs2 ys nw := by
  have key : ∀ (r : List Value) (j : Nat) (ys : List Value) (nw : List (Addr × Obj)), r = vs2.drop j → j ≤ vs2.length → J j ys nw → In2 prog w A h₀ L m cenv elt x y s S2 C D v next r ys nw := by
    intro r
    induction r with
    | nil =>
      intro j ys nw hr hj hJ
      have : j = vs2.length := by
        have := congrArg List.length hr
        simp at this
        omega
      subst this
      exact fin ys nw hJ
    | cons v2 r ih =>
      intro j ys nw hr hj hJ
      have hlt : j < vs2.length := by
        have := congrArg List.length hr
        simp at this
        omega
      have e := List.drop_eq_getElem_cons hlt
      rw [e] at hr
      injection hr with e1 e2
      intro I2 oI2 oC m₂ h tk E' hC hx hy F N off ne
      exact wpAny_mono (turn j v2 ys nw I2 oI2 oC m₂ h tk E' (by rw [e1]; simp [hlt]) hJ hC hx hy F N off ne) (fun z s₂ hq => CompEnd.mono hq fun z nw' hj' => ih (j + 1) _ _ e2 hlt hj') fun _ _ e => e
  exact key vs2 0 ys nw rfl (Nat.zero_le _) h0
open LCg in
theorem comp_2 (J : Nat → List Value → List (Addr × Obj) → Prop) (h0 : J 0 [] news)
    (turn : ∀ i ys nw v I oI C oC D m₂ h tk (E' : Value → Shared → Prop), i < n → J i ys nw → P i v → NsObj oC m₂ → m₂ x = some v → Fr h₀ L h m → News h₀ L h ((I, oI) :: (C, oC) :: (D, lst ys) :: nw) → Off3 I C D nw → ((@Ne Nat I C) ∧ (@Ne Nat I D) ∧ (@Ne Nat C D)) →
      wpAny (model prog w) A (isTrue ct (compEnvC scope cl C env) (eval ct (compEnvC scope cl C env))) (fun ok s' => if ok = true then
        wpAny (model prog w) A (eval i2 (compEnvC scope cl C env)) (fun xv s₁ => Hold (∃ tup vs2 n2 h' tk' all nw', xv = .ref tup ∧ s₁ = { s with heap := h', toks := tk' } ∧ Fr h₀ L h' m ∧ News h₀ L h' all ∧ (∀ p ∈ (I, oI) :: (C, oC) :: (D, lst ys) :: nw', p ∈ all) ∧ Off3 I C D nw' ∧
          (tup, tupO vs2 n2) ∈ nw' ∧ vs2.length ≤ 2 ∧ S nw' ∧
          In2 prog w A h₀ L m (compEnvC scope cl C env) elt x y s (fun nw2 => (I, oI) ∈ nw2 ∧ (tup, tupO vs2 n2) ∈ nw2) C D v (fun ys nw2 => ∃ nw, nw2 = (I, oI) :: nw ∧ Off3 I C D nw ∧ S nw ∧ J (i + 1) ys nw) vs2 ys ((I, oI) :: nw'))) E' s'
        else CompEnd h₀ L m { s with heap := h, toks := tk } I oI C oC D (lst ys) S (fun _ nw' => J (i + 1) ys nw') Value.none s') E' { s with heap := h, toks := tk })
    (fin : ∀ ys nw, J n ys nw → Fin ys nw) : Rest2 prog w A h₀ L m env elt ct i2 x y scope cl s S P Fin n 0 [] news := by
  have mono : ∀ {C D : Addr} {v : Value} {cenv : Env} {S2 : List (Addr × Obj) → Prop} {next next' : List Value → List (Addr × Obj) → Prop} (k : ∀ ys nw, next ys nw → next' ys nw) (r ys : List Value) (nw : List (Addr × Obj)), In2 prog w A h₀ L m cenv elt x y s S2 C D v next r ys nw → In2 prog w A h₀ L m cenv elt x y s S2 C D v next' r ys nw := by
    intro C D v cenv S2 next next' k r
    induction r with
    | nil => exact fun ys nw h => k ys nw h
    | cons v2 r ih =>
      intro ys nw h I2 oI2 oC m₂ hp tk E' hC hx hy F N off ne
      exact wpAny_mono (h I2 oI2 oC m₂ hp tk E' hC hx hy F N off ne) (fun z s₂ hq => CompEnd.mono hq fun z nw' q => ih _ _ q) fun _ _ e => e
  have key : ∀ (k i : Nat) (ys : List Value) (nw : List (Addr × Obj)), i + k = n → J i ys nw → Rest2 prog w A h₀ L m env elt ct i2 x y scope cl s S P Fin k i ys nw := by
    intro k
    induction k with
    | zero =>
      intro i ys nw hi hJ
      have e : i = n := by omega
      subst e
      exact fin ys nw hJ
    | succ k ih =>
      intro i ys nw hi hJ v I oI C oC D m₂ h tk E' hP hC hx F N off ne
      refine wpAny_mono (turn i ys nw v I oI C oC D m₂ h tk E' (by omega) hJ hP hC hx F N off ne) (fun ok s₂ hq => ?_) fun _ _ e => e
      cases ok with
      | true =>
        simp only [if_true] at hq ⊢
        refine wpAny_mono hq (fun xv s₃ hq => ?_) fun _ _ e => e
        obtain ⟨tup, vs2, n2, h', tk', all, nw', e1, e2, F', N', sub, off', ht, hv, hS, IN⟩ := hq
        exact ⟨tup, vs2, n2, h', tk', all, nw', e1, e2, F', N', sub, off', ht, hv, hS, mono (fun ys nw2 ⟨nw9, a, b, c, d⟩ => ⟨nw9, a, b, c, ih (i + 1) _ _ (by omega) d⟩) _ _ _ IN⟩
      | false =>
        simp only [Bool.false_eq_true, if_false] at hq ⊢
        exact CompEnd.mono hq fun y nw' hj => ih (i + 1) _ _ (by omega) hj
  exact key n 0 [] news (by omega) h0
end
section
variable {prog : Program} {w : World} {A : Around} {E : Value → Shared → Prop} {s : Shared} {h₀ : Heap} {L : Addr} {m : Str → Option Value} {news O : List (Addr × Obj)}
theorem tup_len {b : Addr} {r : List Int} {Q : Value → Shared → Prop} (N : News h₀ L s.heap news) (hO : ∀ p ∈ O, p ∈ news) (hR : TupIn O b r) (hf : r.length < 2 ^ 40)
    (h : ∀ t tk, Q (.int (r.length : Int) t) { s with toks := tk }) : wpAny (model prog w) A (call (.builtin "len") [.ref b]) Q E s := by
  obtain ⟨vs, c, hm, hv⟩ := hR
  have e := hv.length
  refine PyProof.Rows.len_tuple (items := vs.toArray) ⟨_, (N _ (hO _ hm)).1, rfl, c, rfl⟩ (by rw [List.size_toArray]; omega) ?_
  rw [List.size_toArray, e]
  exact h _ _
theorem tup_add {t b : Addr} {r : List Int} {k : Int} {tk0 : Tok} {c : Nat} {Q : Value → Shared → Prop} (F : Fr h₀ L s.heap m) (N : News h₀ L s.heap news) (hO : ∀ p ∈ O, p ∈ news) (hR : TupIn O t r) (hb : (b, tupO [.int k tk0] c) ∈ news) (hf : r.length < 1000)
    (hQ : ∀ D o nw' h', Fr h₀ L h' m → News h₀ L h' ((D, o) :: news) → (D = b ∨ ∀ p ∈ news, p.1 < D) → TupIn [(D, o)] D (r ++ [k]) → nw' = (D, o) :: news → Q (.ref D) { s with heap := h' }) : wpAny (model prog w) A (binaryOp .Add (.ref t) (.ref b)) Q E s := by
  obtain ⟨vs, cc, hm, hv⟩ := hR
  have e := hv.length
  refine add_tuples_right (vs := vs) (ws := [.int k tk0]) (ns := r) (ms := [k]) F N ⟨_, (N _ (hO _ hm)).1, rfl, cc, rfl⟩ ⟨_, (N _ hb).1, rfl, c, rfl⟩ hv (.cons k tk0 .nil) (by simp) (fun hr => ?_) (fun h' F' N' hi => ?_) (by rw [sizeLine_eq]; simp; omega)
  · subst hr
    exact hQ b _ _ s.heap F (fun p hp => by
      rcases List.mem_cons.mp hp with rfl | hp
      · exact N _ hb
      · exact N p hp) (.inl rfl) ⟨[.int k tk0], c, List.mem_cons_self, .cons k tk0 .nil⟩ rfl
  · exact hQ _ _ _ h' F' N' (.inr fun p hp => Heap.lt_size (N p hp).1) ⟨vs ++ [.int k tk0], 0, List.mem_cons_self, hi⟩ rfl
end
end
section
theorem quiet8 : True := by
  w_top off
  exact True.intro
section
variable {prog : Program} {w : World} {A : Around} {E : Value → Shared → Prop} {s : Shared} {h₀ : Heap} {L : Addr} {env : Env}
/-- a range's loop whose target may be a cell: the turn begins with the store -/
def LoopC (prog : Program) (w : World) (A : Around) (h₀ : Heap) (L : Addr) (env : Env) (target : Expr) (body : List Stmt) (Q : Flow → Shared → Prop) (xv : Value) (s₁ : Shared) : Prop :=
  ∃ (r : Addr) (a b : Int) (t u v : Tok) (n : Nat) (m : Str → Option Value) (news : List (Addr × Obj)) (J : Nat → (Str → Option Value) → List (Addr × Obj) → Prop),
    xv = .ref r ∧ A.handled = none ∧ IsRange s₁.heap r a b 1 t u v ∧ Builtin.Range.small a b 1 = true ∧ Builtin.Range.rangeSize a b 1 = ((n : Nat) : Int) ∧ Fr h₀ L s₁.heap m ∧ News h₀ L s₁.heap news ∧ J 0 m news ∧
    (∀ (i : Nat) tv m₁ news₁ I oI h tk, i < n → J i m₁ news₁ → (∀ p ∈ news₁, @Ne Nat p.1 I) → Fr h₀ L h m₁ → News h₀ L h ((I, oI) :: news₁) →
      wpAny (model prog w) A (assign target env (.int (a + (i : Int)) tv)) (fun _ s' => wpAny (model prog w) A (execs body env) (TurnE h₀ L I oI (J (i + 1)) s₁ Q) (fun _ _ => False) s') (fun _ _ => False) { s₁ with heap := h, toks := tk }) ∧
    ∀ m₁ news₁ h tk, J n m₁ news₁ → Fr h₀ L h m₁ → News h₀ L h news₁ → Q .next { s₁ with heap := h, toks := tk }
theorem LoopC.intro {target : Expr} {body : List Stmt} {Q : Flow → Shared → Prop} {s₁ : Shared} {r : Addr} {a b : Int} {t u v : Tok} {n : Nat} {m : Str → Option Value} {news : List (Addr × Obj)} (hh : A.handled = none) (F : Fr h₀ L s₁.heap m) (N : News h₀ L s₁.heap news)
    (hr : IsRange s₁.heap r a b 1 t u v) (hsm : Builtin.Range.small a b 1 = true) (hn : Builtin.Range.rangeSize a b 1 = ((n : Nat) : Int)) (J : Nat → (Str → Option Value) → List (Addr × Obj) → Prop) (h0 : J 0 m news)
    (turn : ∀ (i : Nat) tv m₁ news₁ I oI h tk, i < n → J i m₁ news₁ → (∀ p ∈ news₁, @Ne Nat p.1 I) → Fr h₀ L h m₁ → News h₀ L h ((I, oI) :: news₁) →
      wpAny (model prog w) A (assign target env (.int (a + (i : Int)) tv)) (fun _ s' => wpAny (model prog w) A (execs body env) (TurnE h₀ L I oI (J (i + 1)) s₁ Q) (fun _ _ => False) s') (fun _ _ => False) { s₁ with heap := h, toks := tk })
    (done : ∀ m₁ news₁ h tk, J n m₁ news₁ → Fr h₀ L h m₁ → News h₀ L h news₁ → Q .next { s₁ with heap := h, toks := tk }) : LoopC prog w A h₀ L env target body Q (.ref r) s₁ :=
  ⟨r, a, b, t, u, v, n, m, news, J, rfl, hh, hr, hsm, hn, F, N, h0, turn, done⟩
theorem For_cell {target iter : Expr} {body : List Stmt} {pos : Pos} {Q : Flow → Shared → Prop}
    (h : wpAny (model prog w) A (eval iter env) (LoopC prog w A h₀ L env target body Q) (fun _ _ => False) s)
    (ht : ∀ it v, letOwnedTupleGo target it v = pure () := by intro _ _; rfl) (hs : ∀ x, foldedSetIterable iter env x = pure x := by intro _; rfl) :
    wpAny (model prog w) A (exec (.For target iter body [] pos) env) Q E s := by
  refine wpAny_noRaise (wpAny_For (wpAny_mono h (fun xv s₁ h₁ => ?_) fun _ _ e => e) hs)
  obtain ⟨r, a, b, t, u, v, n, m, news, J, rfl, hh, hr, hsm, hn, F, N, h0, turn, done⟩ := h₁
  refine wpAny_pyIter_range hr hsm ?_
  have st0 : IsRangeIter (s₁.heap.push { cls := Value.type "range_iterator", data := Data.fields #[rawInt a, rawInt (Builtin.Range.rangeSize a b 1), rawInt 1] }) s₁.heap.objs.size (a + ((0 : Nat) : Int) * 1) ((n : Int) - ((0 : Nat) : Int)) 1 := by
    show IsRangeIter _ _ _ _ _
    rw [hn]
    simpa using Heap.get?_push_size _ rfl
  have up : ∀ b1 o, s₁.heap.get? b1 = some o → (s₁.heap.push { cls := Value.type "range_iterator", data := Data.fields #[rawInt a, rawInt (Builtin.Range.rangeSize a b 1), rawInt 1] }).get? b1 = some o := fun b1 o e => Heap.get?_push_of_some _ e
  have hIL : L ≠ s₁.heap.objs.size := Nat.ne_of_lt F.ns.lt
  have hI0 : h₀.get? s₁.heap.objs.size = none := next_is_new F
  have hoff : ∀ p ∈ news, @Ne Nat p.1 s₁.heap.objs.size := fun p hp => Nat.ne_of_lt (Heap.lt_size (N p hp).1)
  have W := LCg.range_walks (prog := prog) (w := w) (I := s₁.heap.objs.size) hh a n
  refine codeAny_forLoop (fun k s' => ∃ h' tk i m' nw, s' = { s₁ with heap := h', toks := tk } ∧ i ≤ n ∧ k = n + 1 - i ∧ IsRangeIter h' s₁.heap.objs.size (a + (i : Nat) * 1) ((n : Int) - (i : Nat)) 1 ∧ Fr h₀ L h' m' ∧ News h₀ L h' nw ∧ (∀ p ∈ nw, @Ne Nat p.1 s₁.heap.objs.size) ∧ J i m' nw) ?_ (n + 1)
    ⟨_, s₁.toks, 0, m, news, rfl, Nat.zero_le _, rfl, st0, F.keeps up, N.grown up, hoff, h0⟩ (fun v => ht _ v)
  rintro k s' ⟨h', tk, i, m', nw, rfl, hi, rfl, st, F', N', off', hJ⟩
  by_cases hlt : i < n
  · refine W.item i _ _ _ hlt st fun v h2 tk2 hP st2 hk2 => ?_
    obtain ⟨tv, rfl⟩ := hP
    obtain ⟨oI, hoI, hst2⟩ : ∃ o, h2.get? s₁.heap.objs.size = some o ∧ ∀ h', h'.get? s₁.heap.objs.size = some o → IsRangeIter h' s₁.heap.objs.size (a + ((i + 1 : Nat) : Int) * 1) ((n : Int) - ((i + 1 : Nat) : Int)) 1 := ⟨_, st2, fun h' e => e⟩
    have F2 := LCg.fr_but F' hk2 hIL hI0
    have N2 := LCg.news_but N' hk2 off'
    have N3 : News h₀ L h2 ((s₁.heap.objs.size, oI) :: nw) := fun p hp => by
      rcases List.mem_cons.mp hp with rfl | hp
      · exact ⟨hoI, Ne.symm hIL, hI0⟩
      · exact N2 p hp
    refine wpAny_mono (turn i tv m' nw _ _ h2 tk2 hlt hJ off' F2 N3) (fun _ s4 h4 => wpAny_mono h4 (fun f s5 h5 => ?_) fun _ _ e => e.elim) fun _ _ e => e.elim
    have key : (∃ h' tk m' news', s5 = { s₁ with heap := h', toks := tk } ∧ Fr h₀ L h' m' ∧ News h₀ L h' ((s₁.heap.objs.size, oI) :: news') ∧ (∀ p ∈ news', @Ne Nat p.1 s₁.heap.objs.size) ∧ J (i + 1) m' news') → ∃ m, m < n + 1 - i ∧ (∃ h' tk i m' nw, s5 = { s₁ with heap := h', toks := tk } ∧ i ≤ n ∧ m = n + 1 - i ∧ IsRangeIter h' s₁.heap.objs.size (a + (i : Nat) * 1) ((n : Int) - (i : Nat)) 1 ∧ Fr h₀ L h' m' ∧ News h₀ L h' nw ∧ (∀ p ∈ nw, @Ne Nat p.1 s₁.heap.objs.size) ∧ J i m' nw) := by
      rintro ⟨h6, tk6, m6, nw6, rfl, F6, N6, off6, J6⟩
      exact ⟨n + 1 - (i + 1), by omega, h6, tk6, i + 1, m6, nw6, rfl, hlt, rfl, hst2 _ (N6 _ List.mem_cons_self).1, F6, fun p hp => N6 p (List.mem_cons_of_mem _ hp), off6, J6⟩
    cases f with
    | next => exact key h5
    | cont => exact key h5
    | brk => exact h5
    | ret v => exact h5
  · obtain rfl : i = n := Nat.le_antisymm hi (Nat.not_lt.mp hlt)
    refine W.done _ _ _ st fun h2 tk2 hk2 => ?_
    rw [show execs [] env = pure Flow.next from rfl]
    exact wpAny_pure (done m' nw h2 tk2 hJ (LCg.fr_but F' hk2 hIL hI0) (LCg.news_but N' hk2 off'))
end
end
section
set_option compiler.extract_closed false
local macro_rules | `(tactic| k_mem) => `(tactic| k_extra "mm1")
local macro_rules | `(tactic| walk_at "eval Name") => `(tactic| k_extra "mm2")
local macro_rules | `(tactic| walk_at "eval Name") => `(tactic| k_extra "mm3")
local macro_rules | `(tactic| walk_at "call builtin:len") => `(tactic| k_extra "mm4")
local macro_rules | `(tactic| walk_at "subscriptTail") => `(tactic| k_extra "mm5")
local macro_rules | `(tactic| walk_at "setItem ref int") => `(tactic| k_extra "mm6")
local macro_rules | `(tactic| walk_at "truthy ref") => `(tactic| k_extra "mm7")
local macro_rules | `(tactic| walk_at "call builtin:list.append") => `(tactic| k_extra "mm8")
local macro_rules | `(tactic| walk_at "call builtin:list.reverse") => `(tactic| k_extra "mm9")
local macro_rules | `(tactic| walk_at "call type:range") => `(tactic| (k_here; (with_reducible rename Fr _ _ _ _ => lF'); (with_reducible rename News _ _ _ _ => lN'); k_dflt (first | refine range1_rows lF' lN' ?_ | refine range2_rows lF' lN' ?_); intro h' tk' t1' u1' v1' hRg' F' N' hkp'; clear hkp'; (try clear lF' lN')))
local macro_rules | `(tactic| walk_at "setItem ref int") => `(tactic| k_extra "mm10")
local macro_rules | `(tactic| walk_at "binaryOp Mult ref int") => `(tactic| (k_extra "mm11"; intro D' h' F' N' l1; (try k_lt l1); (try k_sweep)))
local macro_rules | `(tactic| walk_at "call type:list") => `(tactic| (k_extra "mm12"; intro D' c' h' F' N' l1; (try k_lt l1); (try k_sweep)))
local macro_rules | `(tactic| walk_at "call builtin:list.pop") => `(tactic| k_extra "mm13")
local macro_rules | `(tactic| k_all) => `(tactic| k_extra "mm14")
local macro_rules | `(tactic| walk_at "eval ListComp") => `(tactic| k_extra "mm15")
local macro_rules | `(tactic| walk_at "exec Assign cons ListComp") => `(tactic| k_extra "mm16")
local macro_rules | `(tactic| walk_at "compareOp In int ref") => `(tactic| k_extra "mm17")
local macro_rules | `(tactic| walk_at "subscriptTail Name Slice ref ref") => `(tactic| (k_extra "mm18"; intro D' ws' h' F' N' l1 hI' hL'; (try k_lt l1); (try k_sweep)))
local macro_rules | `(tactic| k_all) => `(tactic| k_extra "mm19")
local macro_rules | `(tactic| walk_at "call type:tuple") => `(tactic| (k_extra "mm20"; intro D' h' F' N' l1; (try k_lt l1); (try k_sweep)))
theorem lines : True := by
  k_with "mm1" =>
    first | assumption | (refine List.mem_append_right _ ?_; first | assumption | k_mem) | (refine List.mem_append_left _ ?_; assumption)
  k_with "m sub" =>
    first | exact mem_self | assumption | exact mem_app_r | (refine mem_cons' ?_; walk_at "m sub")
  k_with "m get" =>
    first | exact rfl | assumption | exact if_pos rfl | (refine Eq.trans (if_neg (by decide)) ?_; walk_at "m get")
  k_with "m step" =>
    first | (k_unfold; (try dsimp only)) | (walk1; (try dsimp only)) | (dsimp only; walk1; (try dsimp only))
  k_with "m noFor" =>
    fail_if_success (with_reducible show wpAny _ _ (exec (Stmt.For _ _ _ _ _) _) _ _ _)
  k_with "m noWhile" =>
    fail_if_success (with_reducible show wpAny _ _ (exec (Stmt.While _ _ _ _) _) _ _ _)
  k_with "m go" =>
    repeat' (walk_at "m noFor"; walk_at "m noWhile"; walk_at "m step")
  k_with "mm2" =>
    (k_here; (with_reducible show wpAny _ _ (eval (Expr.Name _ _) (envOf _ _ _ _ _)) _ _ _); k_dflt (refine' ld ?zzk1 ?zzk2 ?_; (case zzk1 => k_asm); (case zzk2 => walk_at "m get"); k_whole))
  k_with "mm3" =>
    (k_here; (with_reducible show wpAny _ _ (eval (Expr.Name _ _) (envOfC _ _ _ _ _)) _ _ _); k_dflt (refine' ldLoc ?zzk1 ?zzk2 ?_; (case zzk1 => k_asm); (case zzk2 => walk_at "m get"); k_whole))
  k_with "mm4" =>
    (k_here; (with_reducible show wpAny _ _ (call (Value.builtin "len") [Value.ref _]) _ _ _); k_dflt (first
      | (refine' row_len ?zzk1 ?zzk2 ?zzk3 ?zzk4 ?_; (case zzk1 => k_asm); (case zzk3 => with_reducible assumption); (case zzk2 => walk_at "m sub"); (case zzk4 => omega); k_whole)
      | (refine' rows_len ?zzk1 ?zzk2 ?zzk3 ?zzk4 ?_; (case zzk1 => k_asm); (case zzk3 => with_reducible assumption); (case zzk2 => walk_at "m sub"); (case zzk4 => omega); k_whole)
      | (refine' tup_len ?zzk1 ?zzk2 ?zzk3 ?zzk4 ?_; (case zzk1 => k_asm); (case zzk3 => with_reducible assumption); (case zzk2 => walk_at "m sub"); (case zzk4 => omega); k_whole)
      | (refine' len_ints ?zzk1 ?zzk2 ?zzk3 ?zzk4 ?_; (case zzk1 => k_asm); (case zzk2 => k_mem); (case zzk3 => assumption); (case zzk4 => omega); k_whole)); intro _ _)
  k_with "mm5" =>
    (k_here; (with_reducible show wpAny _ _ (subscriptTail _ _ (Value.ref _) (Value.int _ _)) _ _ _); k_dflt (first
      | (refine' rows_tail ?zzk1 ?zzk2 ?zzk3 ?zzk4 ?zzk5 ?zzk6 ?_ ?zzk7; (case zzk1 => k_asm); (case zzk3 => with_reducible assumption); (case zzk2 => walk_at "m sub"); (case zzk4 => omega); (case zzk5 => omega); (case zzk6 => with_reducible assumption); (case zzk7 => with_unfolding_all rfl); k_whole; intro _ _ _)
      | (refine' tags_tail ?zzk1 ?zzk2 ?zzk3 ?zzk4 ?zzk5 ?zzk6 ?_ ?zzk7; (case zzk1 => k_asm); (case zzk3 => with_reducible assumption); (case zzk2 => walk_at "m sub"); (case zzk4 => omega); (case zzk5 => omega); (case zzk6 => omega); (case zzk7 => with_unfolding_all rfl); k_whole; intro _ _)
      | (refine' refs_tail ?zzk1 ?zzk2 ?zzk3 ?zzk4 ?zzk5 ?_ ?zzk7; (case zzk1 => k_asm); (case zzk2 => k_mem); (case zzk3 => omega); (case zzk4 => omega); (case zzk5 => omega); (case zzk7 => with_unfolding_all rfl); k_whole; intro _ _)
      | (refine' bools_tail ?zzk1 ?zzk2 ?zzk3 ?zzk4 ?zzk5 ?_ ?zzk7; (case zzk1 => k_asm); (case zzk2 => k_mem); (case zzk3 => omega); (case zzk4 => omega); (case zzk5 => omega); (case zzk7 => with_unfolding_all rfl); k_whole)
      | (refine' rows_tail0 ?zzk1 ?zzk2 ?zzk3 ?zzk4 ?zzk5 ?zzk6 ?_ ?zzk7; (case zzk1 => k_asm); (case zzk3 => with_reducible assumption); (case zzk2 => walk_at "m sub"); (case zzk4 => omega); (case zzk5 => omega); (case zzk6 => omega); (case zzk7 => with_unfolding_all rfl); k_whole; intro _ _)
      | (refine' row_tail ?zzk1 ?zzk2 ?zzk3 ?zzk4 ?zzk5 ?zzk6 ?_ ?zzk7; (case zzk1 => k_asm); (case zzk3 => with_reducible assumption); (case zzk2 => walk_at "m sub"); (case zzk4 => omega); (case zzk5 => omega); (case zzk6 => omega); (case zzk7 => with_unfolding_all rfl); k_whole; intro _)
      | (refine' item_ints ?zzk1 ?zzk2 ?zzk3 ?zzk4 ?zzk5 ?zzk6 ?_ ?zzk7; (case zzk1 => k_asm); (case zzk2 => k_mem); (case zzk3 => assumption); (case zzk4 => omega); (case zzk5 => omega); (case zzk6 => omega); (case zzk7 => with_unfolding_all rfl); k_whole; intro _ _ _)))
  k_with "mm6" =>
    (k_here; (with_reducible show wpAny _ _ (PySem.setItem (Value.ref _) (Value.int 2 _) (Value.int _ _)) _ _ _); k_dflt (refine' pen_set2 ?zzF ?zzN ?zzU ?zzz ?_; (case zzF => k_asm); (case zzN => k_asm); (case zzU => (intro _ _; k_upd)); (case zzz => first | omega | (refine Int.add_nonneg (Int.add_nonneg (Int.add_nonneg ?_ ?_) ?_) ?_ <;> first | omega | exact Int.mul_nonneg (Int.mul_nonneg (by omega) (by omega)) (by omega)) | exact Int.fdiv_nonneg (by omega) (by omega)); k_whole); intro _ _ _ _ _; (try k_sweep))
  k_with "m ctx" =>
    exact Ctx.le (by with_reducible assumption) (by decide)
  k_with "m size" =>
    (rw [sizeLine_eq]; (try simp only [List.size_toArray, List.length_map]); omega)
  k_with "mm7" =>
    (k_here; (with_reducible show wpAny _ _ (truthy (Value.ref _)) _ _ _); k_dflt (first
      | (refine' refs_truthy ?zzk1 ?zzk2 ?zzk3 ?_; (case zzk1 => k_asm); (case zzk2 => k_mem); (case zzk3 => omega); k_whole; intro _)
      | (refine' ints_truthy ?zzk1 ?zzk2 ?zzk3 ?zzk4 ?_; (case zzk1 => k_asm); (case zzk2 => k_mem); (case zzk3 => with_reducible assumption); (case zzk4 => omega); k_whole; intro _)
      | (refine' tup_truthy ?zzk1 ?zzk2 ?zzk3 ?zzk4 ?_; (case zzk1 => k_asm); (case zzk3 => with_reducible assumption); (case zzk2 => walk_at "m sub"); (case zzk4 => first | exact Short.at (by with_reducible assumption) _ | omega); k_whole; intro _)))
  k_with "mm8" =>
    (k_here; (with_reducible show wpAny _ _ (call (Value.builtin _) [Value.ref _, _]) _ _ _); k_dflt (refine' append_K ?zzk1 ?zzk2 ?zzk3 ?_ ?zzz; (case zzk1 => k_asm); (case zzk2 => k_asm); (case zzk3 => k_upd); (case zzz => walk_at "m size"); k_whole; intro _ _ _; (try k_sweep)))
  k_with "mm9" =>
    (k_here; (with_reducible show wpAny _ _ (call (Value.builtin _) [Value.ref _]) _ _ _); k_dflt (refine' kl_reverse ?zzF ?zzN ?zze ?zzU ?zzz ?_; (case zzF => k_asm); (case zzN => k_asm); (case zze => first | exact rev_map | exact rfl); (case zzU => k_upd); (case zzz => walk_at "m size"); k_whole; intro _ _ _; (try k_sweep)))
  k_with "m noIter" =>
    fail_if_success (with_reducible show wpAny _ _ (pyIter _) _ _ _)
  k_with "m goI" =>
    repeat' (walk_at "m noFor"; walk_at "m noWhile"; walk_at "m noIter"; walk_at "m step")
  k_with "mm10" =>
    (k_here; (with_reducible show wpAny _ _ (PySem.setItem (Value.ref _) (Value.int _ _) (Value.bool _)) _ _ _); k_dflt (refine' bools_set ?zzF ?zzN ?zzU ?zzz ?zzy ?zzx ?_; (case zzF => k_asm); (case zzN => k_asm); (case zzU => k_upd); (case zzz => omega); (case zzy => omega); (case zzx => omega); k_whole); intro _ _ _; (try k_sweep))
  k_with "mm11" =>
    (k_here; (with_reducible show wpAny _ _ (binaryOp Operator.Mult (Value.ref _) (Value.int _ _)) _ _ _); k_dflt (refine' falses ?zzF ?zzN ?zzm ?zzz ?zzy ?_; (case zzF => k_asm); (case zzN => k_asm); (case zzm => k_mem); (case zzz => omega); (case zzy => omega); k_whole))
  k_with "mm12" =>
    (k_here; (with_reducible show wpAny _ _ (call (Value.type "list") [Value.ref _]) _ _ _); k_dflt (refine' list_copyK ?zzF ?zzN ?zzl ?_ ?zzz; (case zzF => k_asm); (case zzN => k_asm); (case zzl => exact islist_of (by k_asm) (by k_mem)); (case zzz => walk_at "m size"); k_whole))
  k_with "mm13" =>
    (k_here; (with_reducible show wpAny _ _ (call (Value.builtin _) [Value.ref _]) _ _ _); k_dflt (refine' kpa_pop ?zzF ?zzN ?zzU ?zzi ?zzl ?zzz ?_; (case zzF => k_asm); (case zzN => k_asm); (case zzU => k_upd); (case zzi => with_reducible assumption); (case zzl => omega); (case zzz => walk_at "m size"); k_whole); intro _ _ _ _ _; (try k_sweep))
  k_with "mm14" =>
    first | exact off_of_allLt (by assumption) | exact off_of_lt (by assumption)
  k_with "m clos" =>
    first | exact closureFor_none (by decide) | with_unfolding_all rfl
  k_with "mm15" =>
    (k_here; k_dflt (first
      | ((with_reducible show wpAny _ _ (eval (Expr.ListComp _ [⟨_, _, [], _⟩] _ _) _) _ _ _); (refine LCg.ListComp_U (F₀ := by k_asm) (by walk_at "m clos") (by decide) (by rfl) (by decide) (by rfl) ?_))
      | ((with_reducible show wpAny _ _ (eval (Expr.ListComp _ [⟨_, _, [_], _⟩] _ _) _) _ _ _); (refine LCt.ListComp_T (F₀ := by k_asm) (by walk_at "m clos") (by decide) (by rfl) (by decide) (by rfl) ?_))))
  k_with "mm16" =>
    (k_here; k_dflt (first
      | ((with_reducible show wpAny _ _ (exec (Stmt.Assign _ (Expr.ListComp _ [⟨_, _, [], _⟩] _ _) _) _) _ _ _); (refine LCg.Assign_ListComp_U (F₀ := by k_asm) (by rfl) (by with_unfolding_all rfl) (by walk_at "m clos") (by decide) (by rfl) (by decide) (by rfl) (by rfl) (by rfl) ?_))
      | ((with_reducible show wpAny _ _ (exec (Stmt.Assign _ (Expr.ListComp _ [⟨_, _, [_], _⟩] _ _) _) _) _ _ _); (refine LCt.Assign_ListComp_T (F₀ := by k_asm) (by rfl) (by with_unfolding_all rfl) (by walk_at "m clos") (by decide) (by rfl) (by decide) (by rfl) (by rfl) (by rfl) ?_))))
  k_with "m noSrc" =>
    ((fail_if_success (with_reducible show LCg.CompSrc _ _ _ _ _ _ _ _ _ _ _ _ _ _)); (fail_if_success (with_reducible show LCt.CompSrcT _ _ _ _ _ _ _ _ _ _ _ _ _ _ _)); (fail_if_success (with_reducible show LCg.CompEnd _ _ _ _ _ _ _ _ _ _ _ _ _ _)))
  k_with "m goC" =>
    repeat' (walk_at "m noFor"; walk_at "m noWhile"; walk_at "m noIter"; walk_at "m noSrc"; walk_at "m step")
  k_with "mm17" =>
    (k_here; k_dflt (refine' row_in ?zzk1 ?zzk2 ?zzk3 ?_; (case zzk1 => k_asm); (case zzk3 => with_reducible assumption); (case zzk2 => walk_at "m sub"); k_whole))
  k_with "mm18" =>
    (k_here; (with_reducible show wpAny _ _ (subscriptTail _ (PySem.Expr.Slice _ _ none _) (Value.ref _) (Value.ref _)) _ _ _); k_dflt (refine' slice_ok ?zzF ?zzN ?zzl ?zzp ?zzq ?zzi ?zzm ?zzz ?_ ?zzs ?zzt; (case zzF => k_asm); (case zzN => k_asm); (case zzl => first | exact islist_of (by k_asm) (by k_mem) | exact Fr.lst (by k_asm) (by with_reducible assumption)); (case zzp => kmk_part); (case zzq => kmk_part); (case zzi => with_reducible assumption); (case zzm => first | exact kmk_upto (by with_reducible assumption) (by omega) | exact kmk_run (by with_reducible assumption) (by omega) (by omega)); (case zzz => omega); (case zzs => with_unfolding_all rfl); (case zzt => kmk_pure)))
  k_with "m all" =>
    repeat' (first | (refine List.forall_mem_cons.mpr ⟨by k_mem, ?_⟩) | exact fun _ h => nomatch h)
  k_with "m off" =>
    repeat' (first | (refine List.forall_mem_cons.mpr ⟨⟨by dsimp only; omega, by dsimp only; omega⟩, ?_⟩) | exact fun _ h => nomatch h)
  k_with "m noRest" =>
    fail_if_success (with_reducible show wpAny _ _ (execs _ (envOfC _ _ _ _ _)) _ _ _)
  k_with "m goR" =>
    ((try dsimp only); (walk_at "m step"); (repeat' (walk_at "m noRest"; walk_at "m noFor"; walk_at "m noWhile"; walk_at "m noIter"; walk_at "m noSrc"; walk_at "m step")))
  k_with "mm19" =>
    (refine OwnOff.ne (by with_reducible assumption) ?_; repeat' (first | exact List.mem_cons_self | refine List.mem_cons_of_mem _ ?_))
  k_with "m noNe" =>
    ((fail_if_success (with_reducible show wpAny _ _ (compareOp CmpOp.NotEq (Value.ref _) (Value.ref _)) _ _ _)); (fail_if_success (with_reducible show wpAny _ _ (compareOp CmpOp.Eq (Value.ref _) (Value.ref _)) _ _ _)))
  k_with "m goN" =>
    repeat' (walk_at "m noNe"; walk_at "m noFor"; walk_at "m noWhile"; walk_at "m noIter"; walk_at "m noSrc"; walk_at "m step")
  k_with "mm20" =>
    (k_here; (with_reducible show wpAny _ _ (call (Value.type _) [Value.ref _]) _ _ _); k_dflt (refine' kde_tupleOf ?zzk1 ?zzk2 ?zzk3 ?zzk4 ?zzk5 ?_; (case zzk1 => k_asm); (case zzk2 => k_asm); (case zzk3 => exact News.isList (by k_asm) (by k_mem)); (case zzk4 => (simp only [List.size_toArray, List.length_map]; omega)); (case zzk5 => exact List.toList_toArray); k_whole))
  k_with "m perm" =>
    first | (refine List.forall_mem_cons.mpr ⟨by k_mem, ?_⟩; walk_at "m perm") | (intro _ _; k_mem)
  exact True.intro
section
theorem quiet9 : True := by
  w_top off
  exact True.intro
def DrawPost (pen inner : Addr) (p q many : Int) (vs : List Value) (k : Nat) (v : Value) (O' : List (Addr × Obj)) : Prop :=
  ∃ d td p' tp' q' tq' n', v = .int d td ∧ 0 ≤ d ∧ d < many ∧ 0 ≤ p' ∧ p' ≤ p + 1 ∧ 0 ≤ q' ∧ O' = [(pen, penObj inner p' tp' q' tq' n'), (inner, listOf vs.toArray k)]


set_option maxRecDepth 100000 in
set_option maxHeartbeats 8000000 in
theorem draw_ok {w : World} {A : Around} {s : Shared} {h₀ : Heap} {L : Addr} {m : Str → Option Value} {news : List (Addr × Obj)} {pen inner : Addr} {p q : Int} {tp tq tm : Tok} {n k : Nat} {vs : List Value} {ns : List Int} {many : Int} {Q : Value → Shared → Prop} {E : Value → Shared → Prop}
    (C : Ctx w A 2 h₀) (F : Fr h₀ L s.heap m) (N : News h₀ L s.heap news) (hp : (pen, penObj inner p tp q tq n) ∈ news) (hi : (inner, listOf vs.toArray k) ∈ news) (hv : IntsAre vs ns) (hne : ns ≠ [])
    (hp0 : 0 ≤ p) (hp1 : p < 1000) (hq : 0 ≤ q) (hm0 : 0 < many) (hm1 : many < 100) (hpi : @Ne Nat pen inner) (hlen : vs.length ≤ 100)
    (hQ : ∀ d td p' tp' q' tq' n' h' tk, 0 ≤ d → d < many → 0 ≤ p' → p' ≤ p + 1 → 0 ≤ q' → Fr h₀ L h' m → News h₀ L h' [(pen, penObj inner p' tp' q' tq' n'), (inner, W.listOf vs.toArray k)] →
      (∀ b o, b ∉ [pen, inner] → s.heap.get? b = some o → h'.get? b = some o) → Q (.int d td) { s with heap := h', toks := tk }) :
    wpAny (model PySem.Challenge.rw_pq0568_01.prog w) A (call (.ref 123) [.ref pen, .int many tm]) Q E s := by
  have X := C.X
  revert X
  k_fill
  intro X
  refine' call_U (O := [(pen, penObj inner p tp q tq n), (inner, listOf vs.toArray k)]) (DrawPost pen inner p q many vs k) C F N ?hO ?ho ?hcd ?hb ?hl ?h ?hQ ?_ ?_ ?_ ?_
  case ho => k_is
  case hcd => k_is
  case hb => exact BindsTo.of_eq rfl
  case hl => exact locs rfl
  case hO => simp [hp, hi]
  case h =>
    intro g L' h₁ tk C' F' N'
    obtain ⟨hh, hd, hu, X', T'⟩ := C'
    obtain ⟨p', l, me, mg, mb, T'⟩ := T'
    have hlen' := hv.length
    have hpos : 0 < ns.length := List.length_pos_iff.mpr hne
    have hmod := fmod_lo p (n := (ns.length : Int)) (by omega)
    have hmod2 := fmod_hi p (n := (ns.length : Int)) (by omega)
    k_unmd
    k_fold
    repeat' (first | (k_unfold; (try dsimp only)) | (walk1; (try dsimp only)) | (dsimp only; walk1; (try dsimp only)))
    all_goals (refine ⟨_, _, _, _, _, rfl, by k_asm, by k_asm, _, _, _, _, _, _, _, rfl, fmod_lo _ (by omega), fmod_hi _ (by omega), by omega, by omega, by omega, rfl⟩)
  case hQ =>
    rintro v O' h' tk F' N' kp ⟨d, td, p', tp', q', tq', n', rfl, d0, d1, p0, p1, q0, rfl⟩
    exact hQ d td p' tp' q' tq' n' h' tk d0 d1 p0 p1 q0 F' N' kp
  all_goals first | rfl | decide
end
section
theorem quiet10 : True := by
  w_top off
  exact True.intro
set_option maxRecDepth 100000 in
set_option maxHeartbeats 8000000 in
theorem walk_ok {w : World} {A : Around} {s : Shared} {h₀ : Heap} {L : Addr} {m : Str → Option Value} {news O : List (Addr × Obj)} {ra wa : Addr} {rows : Rows} {word : List Int} {c : Nat} {vs : List Value} {Q : Value → Shared → Prop} {E : Value → Shared → Prop}
    (C : Ctx w A 2 h₀) (F : Fr h₀ L s.heap m) (N : News h₀ L s.heap news) (hO : ∀ p ∈ O, p ∈ news) (hR : RowsIn O ra rows) (hW : Wf rows) (hw : (wa, tupO vs c) ∈ O) (hv : IntsAre vs word) (hb : ∀ k ∈ word, 0 ≤ k ∧ k < 2)
    (hQ : ∀ t h' tk, Fr h₀ L h' m → News h₀ L h' news → Q (.int (walkF rows word) t) { s with heap := h', toks := tk }) :
    wpAny (model PySem.Challenge.rw_pq0568_01.prog w) A (call (.ref 130) [.ref ra, .ref wa]) Q E s := by
  have X := C.X
  revert X
  k_fill
  intro X
  refine' call_O (O := O) (fun v O' => O' = [] ∧ ∃ t, v = .int (walkF rows word) t) C F N hO ?ho ?hcd ?hb ?hl ?h ?hQ ?_ ?_ ?_ ?_
  case ho => k_is
  case hcd => k_is
  case hb => exact BindsTo.of_eq rfl
  case hl => exact locs rfl
  case h =>
    intro g L' h₁ tk C' F' N'
    obtain ⟨hh, hd, hu, X', T'⟩ := C'
    obtain ⟨p', l, me, mg, mb, T'⟩ := T'
    have hW1 := hW.1
    have hW2 := hW.2.1
    k_unmd
    k_fold
    walk_at "m go"
    refine wpAny_noRaise (For_invV g (by rfl) (by rfl) ?_ (hE := PassesOwn.never))
    walk_at "m step"
    refine loop_tuple hh (by k_asm) (by k_asm) hw (fun i m' nw => (∃ t, m' "state" = some (.int (walkF rows (word.take i)) t)) ∧ m' "rows" = some (.ref ra) ∧ nw = O) (fun i m' nw hJ => by rw [hJ.2.2]; exact hw) ⟨⟨_, rfl⟩, rfl, rfl⟩ ?_ ?_
    · rintro i v m₁ news₁ I oI h tk hi ⟨⟨t, hst⟩, hrows, rfl⟩ hoff F' N'
      obtain ⟨k, tk2, rfl, hk⟩ := hv.at i v (by simpa using hi)
      have hkb := hb k (List.mem_of_getElem? hk)
      have hbd := walkF_bounds hW (word := word.take i) (fun k hk => hb k (List.mem_of_mem_take hk))
      k_unmd
      k_fold
      walk_at "m go"
      all_goals (refine TurnE.intro news₁ (by k_asm) (by k_asm) mem_self hoff ⟨?_, by walk_at "m get", rfl⟩)
      · exact ⟨_, by rw [walkF_take hk, stepW, if_pos (show 0 ≤ walkF rows (word.take i) by omega)]; rfl⟩
      · exact ⟨_, by rw [walkF_take hk, stepW, if_neg (show ¬ 0 ≤ walkF rows (word.take i) by omega)]; rfl⟩
    · rintro m₁ news₁ h tk ⟨⟨t, hst⟩, hrows, rfl⟩ F' N'
      rw [List.size_toArray, hv.length, List.take_length] at hst
      dsimp only
      walk_at "m go"
      exact ⟨_, _, [], _, _, rfl, by k_asm, by k_asm, rfl, _, rfl⟩
  case hQ =>
    rintro v O' h' tk F' N' kp ⟨rfl, t, rfl⟩
    exact hQ t h' tk F' N'
  all_goals first | rfl | decide
end
section
theorem quiet11 : True := by
  w_top off
  exact True.intro
set_option maxRecDepth 100000 in
set_option maxHeartbeats 8000000 in
theorem new_ok {w : World} {A : Around} {s : Shared} {h₀ : Heap} {L : Addr} {m : Str → Option Value} {news : List (Addr × Obj)} {ra ta : Addr} {Q : Value → Shared → Prop} {E : Value → Shared → Prop}
    (C : Ctx w A 3 h₀) (F : Fr h₀ L s.heap m) (N : News h₀ L s.heap news)
    (hQ : ∀ x dx t1 t2 h' tk, Fr h₀ L h' m → News h₀ L h' ((x, instObj 76 dx) :: (dx, dfaD w.params ra ta t1 t2) :: news) → (∀ p ∈ news, p.1 < dx) → dx < x → Q (.ref x) { s with heap := h', toks := tk }) :
    wpAny (model PySem.Challenge.rw_pq0568_01.prog w) A (call (.ref 76) [.ref ra, .ref ta]) Q E s := by
  have X := C.X
  revert X
  k_fill
  intro X
  refine' call_cls (fI := 42) F X N ?h1 ?h2 ?h3 ?h
  case h1 => k_is
  case h2 => k_is
  case h3 => k_is
  case h =>
    intro x dx h' F' N' l1 l2
    have l0 := l2
    replace l2 := ltN l2
    have C' : Ctx w (A.under (.builtin "type.__call__" ⟨[.ref 76, .ref ra, .ref ta], []⟩)) 2 h₀ :=
      ⟨C.hh, by have := C.hd; show A.depth + 1 + 2 < _; omega, by have := C.hu; show A.units + 1 + 10 * 2 < _; omega, C.X, C.T⟩
    refine' code_U (O := [(x, instObj 76 dx), (dx, dictOf [] 0)]) (fun v O' => v = .none ∧ ∃ t1 t2, O' = [(x, instObj 76 dx), (dx, dfaD w.params ra ta t1 t2)]) C' F' N' ?hO ?ho ?hcd ?hb ?hl ?h ?hQ ?_ ?_ ?_ ?_
    case ho => k_is
    case hcd => k_is
    case hb => exact BindsTo.of_eq rfl
    case hl => exact locs rfl
    case hO => simp
    case h =>
      intro g L' h₁ tk C' F' N'
      obtain ⟨hh, hd, hu, X', T'⟩ := C'
      obtain ⟨p', l, me, mg, mb, T'⟩ := T'
      k_unmd
      k_fold
      walk_at "m go"
      exact ⟨_, _, _, _, _, rfl, by k_asm, by k_asm, rfl, _, _, rfl⟩
    case hQ =>
      rintro v O' h2 tk F2 N2 kp ⟨rfl, t1, t2, rfl⟩
      refine ⟨rfl, hQ x dx t1 t2 h2 tk F2 (fun p hp => ?_) l1 l0⟩
      rcases List.mem_cons.mp hp with rfl | hp
      · exact N2 _ (by simp)
      · rcases List.mem_cons.mp hp with rfl | hp
        · exact N2 _ (by simp)
        · have z := N' p (List.mem_cons_of_mem _ (List.mem_cons_of_mem _ hp))
          have lt := l1 p hp
          refine ⟨kp _ _ (fun hm => ?_) z.1, z.2⟩
          simp only [List.map_cons, List.map_nil, List.mem_cons, List.not_mem_nil, or_false] at hm
          rcases hm with q | q
          · rw [q] at lt; exact absurd (Nat.lt_trans lt l0) (Nat.lt_irrefl _)
          · rw [q] at lt; exact absurd lt (Nat.lt_irrefl _)
    all_goals first | rfl | decide
end
section
theorem quiet12 : True := by
  w_top off
  exact True.intro
/-- the ledger of the law's frame: five cells, the pen and its list, and what was made -/
abbrev led (L : Addr) (o1 o2 o3 o4 o5 : Obj) (pen inner : Addr) (p : Int) (tp : Tok) (q : Int) (tq : Tok) (np : Nat) (pv : List Value) (k : Nat) (O : List (Addr × Obj)) : List (Addr × Obj) :=
  (L + 1 + 1 + 1 + 1 + 1, o5) :: (L + 1 + 1 + 1 + 1, o4) :: (L + 1 + 1 + 1, o3) :: (L + 1 + 1, o2) :: (L + 1, o1) :: (pen, penObj inner p tp q tq np) :: (inner, W.listOf pv.toArray k) :: O
structure PenOk (L pen inner : Addr) (p q : Int) (pv : List Value) (B : Nat) (O : List (Addr × Obj)) : Prop where
  pens : ∃ pn, IntsAre pv pn ∧ pn ≠ []
  len : pv.length ≤ 100
  p0 : 0 ≤ p
  pB : p ≤ B
  q0 : 0 ≤ q
  ne : @Ne Nat pen inner
  above : L + 1 + 1 + 1 + 1 + 1 < pen ∧ L + 1 + 1 + 1 + 1 + 1 < inner
  off : OwnOff O [pen, inner, L + 1 + 1 + 1 + 1 + 1, L + 1 + 1 + 1 + 1, L + 1 + 1 + 1, L + 1 + 1, L + 1]
theorem redraw {h₀ h h' : Heap} {L pen inner : Addr} {o o' oi : Obj} {R R2 : List (Addr × Obj)} (N : News h₀ L h (R ++ (pen, o) :: (inner, oi) :: R2)) (N' : News h₀ L h' [(pen, o'), (inner, oi)])
    (kp : ∀ b o, b ∉ [pen, inner] → h.get? b = some o → h'.get? b = some o) (h1 : ∀ x ∈ R, @Ne Nat x.1 pen ∧ @Ne Nat x.1 inner) (h2 : ∀ x ∈ R2, @Ne Nat x.1 pen ∧ @Ne Nat x.1 inner) : News h₀ L h' (R ++ (pen, o') :: (inner, oi) :: R2) := by
  have key : ∀ x, (x ∈ R ∨ x ∈ R2) → x ∈ R ++ (pen, o) :: (inner, oi) :: R2 → h'.get? x.1 = some x.2 ∧ x.1 ≠ L ∧ h₀.get? x.1 = none := fun x hx hm => by
    have hh := hx.elim (h1 x) (h2 x)
    exact ⟨kp _ _ (by simp only [List.mem_cons, List.not_mem_nil, or_false, not_or]; exact hh) (N x hm).1, (N x hm).2⟩
  intro x hx
  rcases List.mem_append.mp hx with hx | hx
  · exact key x (.inl hx) (List.mem_append_left _ hx)
  · rcases List.mem_cons.mp hx with rfl | hx
    · exact N' _ List.mem_cons_self
    · rcases List.mem_cons.mp hx with rfl | hx
      · exact N' _ (List.mem_cons_of_mem _ List.mem_cons_self)
      · exact key x (.inr hx) (List.mem_append_right _ (List.mem_cons_of_mem _ (List.mem_cons_of_mem _ hx)))

theorem OwnOff.cons {a : Addr} {o : Obj} {O : List (Addr × Obj)} {adr : List Addr} (h : OwnOff O adr) (ha : ∀ b ∈ adr, @Ne Nat a b) : OwnOff ((a, o) :: O) adr := fun x hx b hb => by
  rcases List.mem_cons.mp hx with rfl | hx
  · exact ha b hb
  · exact h x hx b hb
theorem OwnOff.mono {O : List (Addr × Obj)} {adr adr' : List Addr} (h : OwnOff O adr) (k : ∀ b ∈ adr', b ∈ adr) : OwnOff O adr' := fun x hx b hb => h x hx b (k b hb)
theorem PenOk.cons {L pen inner : Addr} {p q : Int} {pv : List Value} {B : Nat} {O : List (Addr × Obj)} {a : Addr} {o : Obj} (h : PenOk L pen inner p q pv B O) (ha : ∀ b ∈ [pen, inner, L + 1 + 1 + 1 + 1 + 1, L + 1 + 1 + 1 + 1, L + 1 + 1 + 1, L + 1 + 1, L + 1], @Ne Nat a b) :
    PenOk L pen inner p q pv B ((a, o) :: O) := { h with off := OwnOff.cons h.off ha }
theorem PenOk.le {L pen inner : Addr} {p q : Int} {pv : List Value} {B B' : Nat} {O : List (Addr × Obj)} (h : PenOk L pen inner p q pv B O) (hb : B ≤ B') : PenOk L pen inner p q pv B' O := { h with pB := by have := h.pB; omega }
theorem PenOk.cells {L pen inner : Addr} {p q : Int} {pv : List Value} {B : Nat} {O : List (Addr × Obj)} (h : PenOk L pen inner p q pv B O) : OwnOff O [L + 1 + 1 + 1 + 1 + 1, L + 1 + 1 + 1 + 1, L + 1 + 1 + 1, L + 1 + 1, L + 1] :=
  OwnOff.mono h.off fun b hb => List.mem_cons_of_mem _ (List.mem_cons_of_mem _ hb)
theorem PenOk.lts {L pen inner : Addr} {p q : Int} {pv : List Value} {B : Nat} {O : List (Addr × Obj)} (h : PenOk L pen inner p q pv B O) :
    (@LT.lt Nat _ (L + 1 + 1 + 1 + 1 + 1) pen ∧ @LT.lt Nat _ (L + 1 + 1 + 1 + 1) pen ∧ @LT.lt Nat _ (L + 1 + 1 + 1) pen ∧ @LT.lt Nat _ (L + 1 + 1) pen ∧ @LT.lt Nat _ (L + 1) pen) ∧ (@LT.lt Nat _ (L + 1 + 1 + 1 + 1 + 1) inner ∧ @LT.lt Nat _ (L + 1 + 1 + 1 + 1) inner ∧ @LT.lt Nat _ (L + 1 + 1 + 1) inner ∧ @LT.lt Nat _ (L + 1 + 1) inner ∧ @LT.lt Nat _ (L + 1) inner) := by
  have go : ∀ {a b : Nat}, a + 1 < b → a < b := fun h => Nat.lt_trans (Nat.lt_succ_self _) h
  obtain ⟨h1, h2⟩ := h.above
  exact ⟨⟨h1, go h1, go (go h1), go (go (go h1)), go (go (go (go h1)))⟩, ⟨h2, go h2, go (go h2), go (go (go h2)), go (go (go (go h2)))⟩⟩
theorem off3_addr {I C D : Addr} {l l' : List (Addr × Obj)} (e : l.map (·.1) = l'.map (·.1)) (o : LCg.Off3 I C D l) : LCg.Off3 I C D l' := LCg.Off3.of fun x hx => by
  have h : x.1 ∈ l.map (·.1) := e ▸ List.mem_map_of_mem hx
  obtain ⟨y, hy, e2⟩ := List.mem_map.mp h
  rw [← e2]
  exact LCg.Off3.mem o y hy

theorem law_draw {w : World} {A : Around} {s : Shared} {h₀ : Heap} {L : Addr} {m : Str → Option Value} {news R O : List (Addr × Obj)} {o1 o2 o3 o4 o5 : Obj} {pen inner : Addr} {p q : Int} {tp tq tm : Tok} {np k B : Nat} {pv : List Value} {many : Int} {Q : Value → Shared → Prop} {E : Value → Shared → Prop}
    (C : Ctx w A 2 h₀) (F : Fr h₀ L s.heap m) (N : News h₀ L s.heap news) (sub : ∀ x ∈ R ++ led L o1 o2 o3 o4 o5 pen inner p tp q tq np pv k O, x ∈ news) (hP : PenOk L pen inner p q pv B O) (hB : B < 900) (hR : ∀ x ∈ R, @Ne Nat x.1 pen ∧ @Ne Nat x.1 inner)
    (hm0 : 0 < many) (hm1 : many < 100)
    (hQ : ∀ d td p' tp' q' tq' np' h' tk, 0 ≤ d → d < many → PenOk L pen inner p' q' pv (B + 1) O → Fr h₀ L h' m → News h₀ L h' (R ++ led L o1 o2 o3 o4 o5 pen inner p' tp' q' tq' np' pv k O) → Q (.int d td) { s with heap := h', toks := tk }) :
    wpAny (model PySem.Challenge.rw_pq0568_01.prog w) A (call (.ref 123) [.ref pen, .int many tm]) Q E s := by
  have N1 := News.sub N sub
  have hP' := hP
  obtain ⟨⟨pn, hpn, hne⟩, hlen, hp0, hpB, hq0, hpi, hab, hoff⟩ := hP
  have hpB' : p < 1000 := by omega
  refine draw_ok (ns := pn) (vs := pv) (k := k) (tp := tp) (tq := tq) (n := np) C F N1 (List.mem_append_right _ (by unfold led; simp)) (List.mem_append_right _ (by unfold led; simp)) hpn hne hp0 hpB' hq0 hm0 hm1 hpi hlen ?_
  intro d td p' tp' q' tq' n' h' tk hd0 hd1 h1 h2 h3 F' N' kp
  refine hQ d td p' tp' q' tq' n' h' tk hd0 hd1 ⟨⟨pn, hpn, hne⟩, hlen, h1, by push_cast; omega, h3, hpi, hab, hoff⟩ F' ?_
  have hlt : ∀ {a b : Nat}, a < b → a ≠ b := fun h => Nat.ne_of_lt h
  have hc : ∀ x ∈ R ++ [(L + 1 + 1 + 1 + 1 + 1, o5), (L + 1 + 1 + 1 + 1, o4), (L + 1 + 1 + 1, o3), (L + 1 + 1, o2), (L + 1, o1)], @Ne Nat x.1 pen ∧ @Ne Nat x.1 inner := by
    intro x hx
    rcases List.mem_append.mp hx with hx | hx
    · exact hR x hx
    · have hxl : @LE.le Nat _ x.1 (L + 1 + 1 + 1 + 1 + 1) := by
        simp only [List.mem_cons, List.not_mem_nil, or_false] at hx
        rcases hx with rfl | rfl | rfl | rfl | rfl <;> simp
      exact ⟨Nat.ne_of_lt (Nat.lt_of_le_of_lt hxl hab.1), Nat.ne_of_lt (Nat.lt_of_le_of_lt hxl hab.2)⟩
  have N2 := redraw (R := R ++ [(L + 1 + 1 + 1 + 1 + 1, o5), (L + 1 + 1 + 1 + 1, o4), (L + 1 + 1 + 1, o3), (L + 1 + 1, o2), (L + 1, o1)]) (R2 := O) (o := penObj inner p tp q tq np) (h := s.heap) (by rw [List.append_assoc]; exact N1) N' kp hc
    (fun x hx => ⟨hoff x hx pen List.mem_cons_self, hoff x hx inner (List.mem_cons_of_mem _ List.mem_cons_self)⟩)
  rw [List.append_assoc] at N2
  exact N2
theorem nat_a {n : Int} {i i2 : Nat} (h4 : n ≤ 4) (hi : i < n.toNat) (h2 : i2 < 2) : 1 + 2 * i + i2 < 900 := by omega
theorem nat_b {n : Int} (h1 : 1 ≤ n) : ((n.toNat : Nat) : Int) = n := Int.toNat_of_nonneg (by omega)
theorem nat_c {n : Int} (h4 : n ≤ 4) : 1 + 2 * n.toNat ≤ 9 := by omega
theorem nat_d {n : Int} (h4 : n ≤ 4) : 9 + n.toNat ≤ 13 := by omega
theorem nat_e {n : Int} {i : Nat} (h4 : n ≤ 4) (hi : i < n.toNat) : 9 + i < 900 := by omega
theorem nat_f {a j l : Nat} (h : a + j ≤ l) : min ((a : Int) + (j : Int)).toNat l - a = j := by
  rw [← Int.natCast_add, Int.toNat_natCast, Nat.min_eq_left h, Nat.add_sub_cancel_left]
end
section
theorem quiet13 : True := by
  w_top off
  exact True.intro
set_option maxRecDepth 100000 in
set_option maxHeartbeats 8000000 in
theorem step_ok {w : World} {A : Around} {s : Shared} {h₀ : Heap} {L : Addr} {m : Str → Option Value} {news O : List (Addr × Obj)} {d : Addr} {rows tags : Rows} {st k : Int} {t1 t2 : Tok} {Q : Value → Shared → Prop} {E : Value → Shared → Prop}
    (C : Ctx w A 2 h₀) (F : Fr h₀ L s.heap m) (N : News h₀ L s.heap news) (hO : ∀ p ∈ O, p ∈ news) (hD : DfaIn w.params O d rows tags) (hW : Wf rows) (hs : -1 ≤ st) (hs1 : st < rows.length) (hk : 0 ≤ k) (hk1 : k < 2)
    (hQ : ∀ t h' tk, Fr h₀ L h' m → News h₀ L h' news → Q (.int (stepW rows st k) t) { s with heap := h', toks := tk }) :
    wpAny (model PySem.Challenge.rw_pq0568_01.prog w) A (call (.ref 63) [.ref d, .int st t1, .int k t2]) Q E s := by
  have X := C.X
  revert X
  k_fill
  intro X
  refine' call_O (O := O) (fun v O' => O' = [] ∧ ∃ t, v = .int (stepW rows st k) t) C F N hO ?ho ?hcd ?hb ?hl ?h ?hQ ?_ ?_ ?_ ?_
  case ho => k_is
  case hcd => k_is
  case hb => exact BindsTo.of_eq rfl
  case hl => exact locs rfl
  case h =>
    intro g L' h₁ tk C' F' N'
    obtain ⟨hh, hd, hu, X', T'⟩ := C'
    obtain ⟨p', l, me, mg, mb, T'⟩ := T'
    obtain ⟨dx, ra, ta, u1, u2, hd1, hd2, hR, hT⟩ := hD
    have hW1 := hW.1
    have hW2 := hW.2.1
    k_unmd
    k_fold
    walk_at "m go"
    · have e : stepW rows st k = -1 := if_neg (by omega)
      rw [e]
      exact ⟨_, _, [], _, _, rfl, by k_asm, by k_asm, rfl, _, rfl⟩
    · have e : stepW rows st k = cellOf rows st k := if_pos (by omega)
      rw [e]
      exact ⟨_, _, [], _, _, rfl, by k_asm, by k_asm, rfl, _, rfl⟩
  case hQ =>
    rintro v O' h' tk F' N' kp ⟨rfl, t, rfl⟩
    exact hQ t h' tk F' N'
  all_goals first | rfl | decide
end
section
theorem quiet15 : True := by
  w_top off
  exact True.intro
local macro_rules | `(tactic| walk_at "call ref") => `(tactic| (k_here; (with_reducible show wpAny _ _ (call (Value.ref 63) _) _ _ _); k_dflt (refine' step_ok ?k1 ?k2 ?k3 ?k4 ?k5 ?k6 ?k7 ?k8 ?k9 ?k10 ?_; (case k1 => walk_at "m ctx"); (case k2 => k_asm); (case k3 => k_asm); (case k5 => with_reducible assumption); (case k4 => walk_at "m sub"); (case k6 => with_reducible assumption); (case k7 => omega); (case k8 => omega); (case k9 => omega); (case k10 => omega); k_whole; intro t' h' tk' F' N'; (try k_sweep))))
def runF (rows : Rows) (st : Int) (word : List Int) : Int := word.foldl (stepW rows) st
theorem runF_take {rows : Rows} {st : Int} {word : List Int} {i : Nat} {k : Int} (h : word[i]? = some k) : runF rows st (word.take (i + 1)) = stepW rows (runF rows st (word.take i)) k := by
  unfold runF; rw [List.take_add_one, h]; simp
theorem runF_bounds {rows : Rows} (h : Wf rows) {word : List Int} {st : Int} (h0 : -1 ≤ st) (h1 : st < rows.length) (hb : ∀ k ∈ word, 0 ≤ k ∧ k < 2) : -1 ≤ runF rows st word ∧ runF rows st word < rows.length := by
  unfold runF
  induction word generalizing st with
  | nil => exact ⟨h0, h1⟩
  | cons k r ih =>
    have hk := hb k (by simp)
    have := stepW_bounds h h1 hk.1 hk.2
    exact ih this.1 this.2 fun k hk => hb k (List.mem_cons_of_mem _ hk)
set_option maxRecDepth 100000 in
set_option maxHeartbeats 8000000 in
theorem run_ok {w : World} {A : Around} {s : Shared} {h₀ : Heap} {L : Addr} {m : Str → Option Value} {news O : List (Addr × Obj)} {d na : Addr} {rows tags : Rows} {word : List Int} {Q : Value → Shared → Prop} {E : Value → Shared → Prop}
    (C : Ctx w A 4 h₀) (F : Fr h₀ L s.heap m) (N : News h₀ L s.heap news) (hO : ∀ p ∈ O, p ∈ news) (hD : DfaIn w.params O d rows tags) (hW : Wf rows) (hn : RowIn O na word) (hb : ∀ k ∈ word, 0 ≤ k ∧ k < 2)
    (hQ : ∀ t h' tk, Fr h₀ L h' m → News h₀ L h' news → Q (.int (runF rows 0 word) t) { s with heap := h', toks := tk }) :
    wpAny (model PySem.Challenge.rw_pq0568_01.prog w) A (call (.ref 88) [.ref d, .ref na]) Q E s := by
  have X := C.X
  revert X
  k_fill
  intro X
  refine' call_O (O := O) (fun v O' => O' = [] ∧ ∃ t, v = .int (runF rows 0 word) t) C F N hO ?ho ?hcd ?hb ?hl ?h ?hQ ?_ ?_ ?_ ?_
  case ho => k_is
  case hcd => k_is
  case hb => exact binds_K (by k_in) rfl (by k_is) rfl rfl rfl
  case hl => exact locs rfl
  case h =>
    intro g L' h₁ tk C' F' N'
    have C2 := C'
    obtain ⟨hh, hd, hu, X', T'⟩ := C'
    obtain ⟨p', l, me, mg, mb, T'⟩ := T'
    have hD' := hD
    obtain ⟨dx, ra, ta, u1, u2, hd1, hd2, hR, hT⟩ := hD'
    obtain ⟨vs, c, hm, hv⟩ := hn
    have hW1 := hW.1
    have hW2 := hW.2.1
    k_unmd
    k_fold
    walk_at "m go"
    refine wpAny_noRaise (For_invV g (by rfl) (by rfl) ?_ (hE := PassesOwn.never))
    walk_at "m step"
    refine loop_list hh (by k_asm) (by k_asm) hm (fun i m' nw => (∃ t, m' "state" = some (.int (runF rows 0 (word.take i)) t)) ∧ m' "dfa" = some (.ref d) ∧ nw = O) (fun i m' nw hJ => by rw [hJ.2.2]; exact hm) ⟨⟨_, rfl⟩, rfl, rfl⟩ ?_ ?_
    · rintro i v m₁ news₁ I oI h tk hi ⟨⟨t, hst⟩, hdf, rfl⟩ hoff F' N'
      obtain ⟨k, tk2, rfl, hk⟩ := hv.at i v (by simpa using hi)
      have hkb := hb k (List.mem_of_getElem? hk)
      have hbd := runF_bounds hW (word := word.take i) (st := 0) (by omega) (by omega) (fun k hk => hb k (List.mem_of_mem_take hk))
      k_unmd
      k_fold
      walk_at "m go"
      refine TurnE.intro news₁ (by k_asm) (by k_asm) mem_self hoff ⟨?_, by walk_at "m get", rfl⟩
      exact ⟨_, by rw [runF_take hk]; rfl⟩
    · rintro m₁ news₁ h tk ⟨⟨t, hst⟩, hdf, rfl⟩ F' N'
      rw [List.size_toArray, hv.length, List.take_length] at hst
      dsimp only
      walk_at "m go"
      exact ⟨_, _, [], _, _, rfl, by k_asm, by k_asm, rfl, _, rfl⟩
  case hQ =>
    rintro v O' h' tk F' N' kp ⟨rfl, t, rfl⟩
    exact hQ t h' tk F' N'
  all_goals first | rfl | decide
theorem quiet14 : True := by
  w_top off
  exact True.intro
def tagged (tags : Rows) (st : Int) : Bool := decide (0 < (rowOf tags st).length)
def endsP (rows tags : Rows) (at0 : Int) (w : List Int) (i : Nat) : List Int := ((List.range i).filter fun j => tagged tags (runF rows 0 (w.take (j + 1)))).map fun (j : Nat) => at0 + (j : Int) + 1
theorem endsP_succ {rows tags : Rows} {at0 : Int} {w : List Int} {i : Nat} : endsP rows tags at0 w (i + 1) = endsP rows tags at0 w i ++ (if tagged tags (runF rows 0 (w.take (i + 1))) = true then [at0 + (i : Int) + 1] else []) := by
  unfold endsP
  rw [List.range_succ, List.filter_append, List.map_append]
  congr 1
  by_cases h : tagged tags (runF rows 0 (w.take (i + 1))) = true
  · simp [h]
  · simp [h]
theorem endsP_length {rows tags : Rows} {at0 : Int} {w : List Int} (i : Nat) : (endsP rows tags at0 w i).length ≤ i := by
  unfold endsP
  rw [List.length_map]
  exact Nat.le_trans (List.length_filter_le _ _) (by simp)
def EndsAre (T : List (Addr × Obj)) (ts : List Addr) (ps : List Int) : Prop :=
  ts.length = ps.length ∧ ∀ (j : Nat) (t : Addr) (p : Int), ts[j]? = some t → ps[j]? = some p → ∃ u v c, (t, tupO [.int p u, v] c) ∈ T

theorem EndsAre.nil : EndsAre [] [] [] := ⟨rfl, fun j t p h => by simp at h⟩
theorem EndsAre.snoc {T : List (Addr × Obj)} {ts : List Addr} {ps : List Int} (h : EndsAre T ts ps) {x : Addr} {p : Int} {u : Tok} {v : Value} {c : Nat} {o : Obj} (ho : o = tupO [.int p u, v] c) : EndsAre ((x, o) :: T) (ts ++ [x]) (ps ++ [p]) := by
  subst ho
  refine ⟨by simp [h.1], fun j t q h1 h2 => ?_⟩
  rcases Nat.lt_trichotomy j ts.length with q1 | q1 | q1
  · rw [List.getElem?_append_left q1] at h1
    rw [List.getElem?_append_left (by rw [← h.1]; exact q1)] at h2
    obtain ⟨u, v, c, z⟩ := h.2 j t q h1 h2
    exact ⟨u, v, c, List.mem_cons_of_mem _ z⟩
  · subst q1
    have e1 : x = t := by simpa using h1
    have e2 : p = q := by
      rw [h.1] at h2
      simpa using h2
    subst e1 e2
    exact ⟨u, v, c, List.mem_cons_self⟩
  · rw [List.getElem?_eq_none (by simp; omega)] at h1
    cases h1
theorem EndsAre.rev {T : List (Addr × Obj)} {ts : List Addr} {ps : List Int} (h : EndsAre T ts ps) : EndsAre T ts.reverse ps.reverse := by
  refine ⟨by simp [h.1], fun j t p h1 h2 => ?_⟩
  have hj : j < ts.length := by
    rcases Nat.lt_or_ge j ts.length with q | q
    · exact q
    · rw [List.getElem?_eq_none (by simpa using q)] at h1; cases h1
  rw [List.getElem?_reverse hj] at h1
  rw [List.getElem?_reverse (by rw [← h.1]; exact hj), ← h.1] at h2
  exact h.2 _ t p h1 h2
theorem EndsAre.mono {T T' : List (Addr × Obj)} {ts : List Addr} {ps : List Int} (h : EndsAre T ts ps) (k : ∀ p ∈ T, p ∈ T') : EndsAre T' ts ps := ⟨h.1, fun j t p h1 h2 => let ⟨u, v, c, z⟩ := h.2 j t p h1 h2; ⟨u, v, c, k _ z⟩⟩
def EndsJ (rows tags : Rows) (wd : List Int) (at0 : Int) (d na fa : Addr) (O : List (Addr × Obj)) (i : Nat) (m' : Str → Option Value) (nw : List (Addr × Obj)) : Prop :=
  (∃ t, m' "state" = some (.int (runF rows 0 (wd.take i)) t)) ∧ m' "dfa" = some (.ref d) ∧ m' "numbers" = some (.ref na) ∧ m' "found" = some (.ref fa) ∧ (∀ j < i, runF rows 0 (wd.take (j + 1)) ≠ -1) ∧
    ∃ ts T c, nw = (fa, W.listOf (ts.map Value.ref).toArray c) :: (T ++ O) ∧ EndsAre T ts (endsP rows tags at0 wd i) ∧ OwnOff (T ++ O) [fa]
theorem ends_turn {rows tags : Rows} {wd : List Int} {at0 : Int} {d na fa : Addr} {O : List (Addr × Obj)} {i : Nat} {g h : Heap} {L I x : Addr} {oI : Obj} {s : Shared} {Q : Flow → Shared → Prop} {tk : Nat} {m' : Str → Option Value} {ts : List Addr} {T : List (Addr × Obj)} {c c0 : Nat} {u t : Tok} {v : Value} {st : Int}
    (F : Fr g L h m') (N : News g L h ((x, tupO [.int (at0 + (i : Int) + 1) u, v] c0) :: (I, oI) :: (fa, W.listOf ((ts.map Value.ref).toArray.push (.ref x)) (c + 1)) :: (T ++ O))) (hxI : @Ne Nat x I) (hxf : @Ne Nat x fa)
    (hoff : ∀ p ∈ (fa, W.listOf (ts.map Value.ref).toArray c) :: (T ++ O), @Ne Nat p.1 I) (hE : EndsAre T ts (endsP rows tags at0 wd i)) (hTO : OwnOff (T ++ O) [fa]) (hst : m' "state" = some (.int st t)) (hrt : runF rows 0 (wd.take (i + 1)) = st)
    (hd : m' "dfa" = some (.ref d)) (hn : m' "numbers" = some (.ref na)) (hf : m' "found" = some (.ref fa)) (hal : ∀ j < i, runF rows 0 (wd.take (j + 1)) ≠ -1) (hne : st ≠ -1) (htg : 0 < (rowOf tags st).length) :
    TurnE g L I oI (EndsJ rows tags wd at0 d na fa O (i + 1)) s Q .next { s with heap := h, toks := tk } := by
  refine TurnE.intro ((fa, W.listOf ((ts ++ [x]).map Value.ref).toArray (c + 1)) :: (((x, tupO [.int (at0 + (i : Int) + 1) u, v] c0) :: T) ++ O)) F N ?_ ?_ ⟨⟨t, by rw [hrt]; exact hst⟩, hd, hn, hf, ?_, ts ++ [x], _, _, rfl, ?_, ?_⟩
  · have e : ((ts ++ [x]).map Value.ref).toArray = (ts.map Value.ref).toArray.push (.ref x) := by simp
    rw [e]
    intro p hp
    simp only [List.mem_cons, List.cons_append] at hp ⊢
    rcases hp with h | h | h | h
    · exact .inr (.inl h)
    · exact .inr (.inr (.inl h))
    · exact .inl h
    · exact .inr (.inr (.inr h))
  · intro p hp
    simp only [List.mem_cons, List.cons_append] at hp
    rcases hp with h | h | h
    · rw [h]; exact hoff (fa, W.listOf (ts.map Value.ref).toArray c) List.mem_cons_self
    · rw [h]; exact hxI
    · exact hoff p (List.mem_cons_of_mem _ h)
  · intro j hj
    rcases Nat.lt_succ_iff_lt_or_eq.mp hj with q | q
    · exact hal j q
    · rw [q, hrt]; exact hne
  · rw [endsP_succ, hrt, if_pos (by simpa [tagged] using htg)]
    exact hE.snoc rfl
  · intro p hp b hb
    simp only [List.mem_cons, List.cons_append] at hp
    rcases hp with h | h
    · rw [h, List.mem_singleton.mp hb]; exact hxf
    · exact hTO p h b hb
theorem ends_turn0 {rows tags : Rows} {wd : List Int} {at0 : Int} {d na fa : Addr} {O : List (Addr × Obj)} {i : Nat} {g h : Heap} {L I : Addr} {oI : Obj} {s : Shared} {Q : Flow → Shared → Prop} {tk : Nat} {m' : Str → Option Value} {ts : List Addr} {T : List (Addr × Obj)} {c : Nat} {t : Tok} {st : Int}
    (F : Fr g L h m') (N : News g L h ((I, oI) :: (fa, W.listOf (ts.map Value.ref).toArray c) :: (T ++ O)))
    (hoff : ∀ p ∈ (fa, W.listOf (ts.map Value.ref).toArray c) :: (T ++ O), @Ne Nat p.1 I) (hE : EndsAre T ts (endsP rows tags at0 wd i)) (hTO : OwnOff (T ++ O) [fa]) (hst : m' "state" = some (.int st t)) (hrt : runF rows 0 (wd.take (i + 1)) = st)
    (hd : m' "dfa" = some (.ref d)) (hn : m' "numbers" = some (.ref na)) (hf : m' "found" = some (.ref fa)) (hal : ∀ j < i, runF rows 0 (wd.take (j + 1)) ≠ -1) (hne : st ≠ -1) (htg : ¬ 0 < (rowOf tags st).length) :
    TurnE g L I oI (EndsJ rows tags wd at0 d na fa O (i + 1)) s Q .next { s with heap := h, toks := tk } := by
  refine TurnE.intro _ F N mem_self hoff ⟨⟨t, by rw [hrt]; exact hst⟩, hd, hn, hf, ?_, ts, _, _, rfl, ?_, hTO⟩
  · intro j hj
    rcases Nat.lt_succ_iff_lt_or_eq.mp hj with q | q
    · exact hal j q
    · rw [q, hrt]; exact hne
  · rw [endsP_succ, hrt, if_neg (by simpa [tagged] using htg), List.append_nil]
    exact hE
set_option maxRecDepth 100000 in
set_option maxHeartbeats 8000000 in
theorem ends_ok {w : World} {A : Around} {s : Shared} {h₀ : Heap} {L : Addr} {m : Str → Option Value} {news O : List (Addr × Obj)} {d na : Addr} {rows tags : Rows} {word wd : List Int} {at0 : Int} {t0 t1 : Tok} {Q : Value → Shared → Prop} {E : Value → Shared → Prop}
    (C : Ctx w A 4 h₀) (F : Fr h₀ L s.heap m) (N : News h₀ L s.heap news) (hO : ∀ p ∈ O, p ∈ news) (hD : DfaIn w.params O d rows tags) (hW : Wf rows) (hTl : tags.length = rows.length) (hSh : Short tags) (hn : RowIn O na word) (hb : ∀ k ∈ word, 0 ≤ k ∧ k < 2) (hwl : word.length = 8)
    (ha0 : 0 ≤ at0) (ha1 : at0 < 8) (hWd : word.drop at0.toNat = wd)
    (hQ : ∀ fa ts T c i h' tk, Fr h₀ L h' m → News h₀ L h' ((fa, W.listOf (ts.map Value.ref).toArray c) :: T ++ news) → EndsAre T ts (endsP rows tags at0 wd i).reverse →
      i ≤ wd.length → (∀ j < i, runF rows 0 (wd.take (j + 1)) ≠ -1) → (i = wd.length ∨ runF rows 0 (wd.take (i + 1)) = -1) → Q (.ref fa) { s with heap := h', toks := tk }) :
    wpAny (model PySem.Challenge.rw_pq0568_01.prog w) A (call (.ref 104) [.ref d, .ref na, .int at0 t0, .int 0 t1]) Q E s := by
  have X := C.X
  revert X
  k_fill
  intro X
  refine' call_O (O := O) (fun v O' => ∃ fa ts T c i, v = .ref fa ∧ O' = (fa, W.listOf (ts.map Value.ref).toArray c) :: T ∧ EndsAre T ts (endsP rows tags at0 wd i).reverse ∧
      i ≤ wd.length ∧ (∀ j < i, runF rows 0 (wd.take (j + 1)) ≠ -1) ∧ (i = wd.length ∨ runF rows 0 (wd.take (i + 1)) = -1)) C F N hO ?ho ?hcd ?hb ?hl ?h ?hQ ?_ ?_ ?_ ?_
  case ho => k_is
  case hcd => k_is
  case hb => exact binds_K (by k_in) rfl (by k_is) rfl rfl rfl
  case hl => exact locs rfl
  case h =>
    intro g L' h₁ tk C' F' N'
    have C2 := C'
    obtain ⟨hh, hd, hu, X', T'⟩ := C'
    obtain ⟨p', l, me, mg, mb, T'⟩ := T'
    have hD' := hD
    obtain ⟨dx, ra, ta, u1, u2, hd1, hd2, hR, hT⟩ := hD'
    have hW1 := hW.1
    have hW2 := hW.2.1
    k_unmd
    k_fold
    walk_at "m go"
    refine wpAny_noRaise (For_invV g (by rfl) (by rfl) ?_ (hE := PassesOwn.never))
    walk_at "m goI"
    rename_i fa hA lfa hB tA tkA hC tkC t1 u1 v1 hRg F1 N1
    have hWl : wd.length = 8 - at0.toNat := by rw [← hWd, List.length_drop, hwl]
    have hWm : ∀ k ∈ wd, 0 ≤ k ∧ k < 2 := fun k hk => hb k (List.mem_of_mem_drop (hWd ▸ hk))
    refine loop_range hh (by k_asm) (by k_asm) hRg (small_one (by omega) (by omega) (by omega) (by omega)) (rangeSize_nat _ _)
      (EndsJ rows tags wd at0 d na fa O) ⟨⟨_, rfl⟩, rfl, rfl, rfl, fun j hj => absurd hj (Nat.not_lt_zero _), [], [], 0, rfl, EndsAre.nil, ?_⟩ ?_ ?_
    · intro p hp b hb
      rw [List.mem_singleton.mp hb]
      exact Nat.ne_of_lt (lfa p hp)
    · rintro i tv m₁ news₁ I oI h tk hi ⟨⟨t, hst⟩, hdf, hnu, hfo, hal, ts, T, c, rfl, hE, hTO⟩ hoff F' N'
      have hi8 : i < wd.length := by omega
      have hk : wd[i]? = some (word.getD (at0 + (i : Int)).toNat 0) := by
        have e : (at0 + (i : Int)).toNat = at0.toNat + i := by omega
        rw [← hWd, List.getElem?_drop, e, List.getD]
        have : at0.toNat + i < word.length := by omega
        simp [this]
      have hkb := hWm _ (List.mem_of_getElem? hk)
      have hbd := runF_bounds hW (word := wd.take i) (st := 0) (by omega) (by omega) (fun k hk => hWm k (List.mem_of_mem_take hk))
      have hbd2 := stepW_bounds hW hbd.2 hkb.1 hkb.2
      have hrt := runF_take (rows := rows) (st := 0) hk
      have hel := endsP_length (rows := rows) (tags := tags) (at0 := at0) (w := wd) i
      have hE1 := hE.1
      have hfI : @Ne Nat fa I := hoff _ List.mem_cons_self
      have hes := endsP_succ (rows := rows) (tags := tags) (at0 := at0) (w := wd) (i := i)
      k_unmd
      k_fold
      walk_at "m go"
      · refine TurnE.brk ?_
        dsimp only
        walk_at "m go"
        exact ⟨_, _, (fa, _) :: T, _, _, rfl, by k_asm, by rw [← rev_map]; exact News.sub (by k_asm) (fun p hp => List.mem_cons_of_mem _ hp), fa, ts.reverse, T, _, i, rfl, rfl, hE.rev, by omega, hal, .inr (hrt.trans (by assumption))⟩
      · exact ends_turn (by k_asm) (by k_asm) (by omega) (by omega) hoff hE hTO rfl hrt (by walk_at "m get") (by walk_at "m get") (by walk_at "m get") hal (by assumption) (by assumption)
      · exact ends_turn0 (by k_asm) (by k_asm) hoff hE hTO rfl hrt (by walk_at "m get") (by walk_at "m get") (by walk_at "m get") hal (by assumption) (by assumption)
    · rintro m₁ news₁ h tk ⟨⟨t, hst⟩, hdf, hnu, hfo, hal, ts, T, c, rfl, hE, hTO⟩ F' N'
      have hE1 := hE.1
      have hel := endsP_length (rows := rows) (tags := tags) (at0 := at0) (w := wd) ((word.length : Int) - at0).toNat
      dsimp only
      walk_at "m go"
      exact ⟨_, _, (fa, _) :: T, _, _, rfl, by k_asm, by rw [← rev_map]; k_asm, fa, ts.reverse, T, _, _, rfl, rfl, hE.rev, by omega, hal, .inl (by omega)⟩
  case hQ =>
    rintro v O' h' tk F' N' kp ⟨fa, ts, T, c, i, rfl, rfl, e1, e2, e3, e4⟩
    exact hQ fa ts T c i h' tk F' N' e1 e2 e3 e4
  all_goals first | rfl | decide
end
section
theorem quiet16 : True := by
  w_top off
  exact True.intro
set_option maxRecDepth 100000 in
set_option maxHeartbeats 8000000 in
theorem longest_ok {w : World} {A : Around} {s : Shared} {h₀ : Heap} {L : Addr} {m : Str → Option Value} {news O : List (Addr × Obj)} {d na : Addr} {rows tags : Rows} {word wd : List Int} {at0 : Int} {t0 : Tok} {Q : Value → Shared → Prop} {E : Value → Shared → Prop}
    (C : Ctx w A 6 h₀) (F : Fr h₀ L s.heap m) (N : News h₀ L s.heap news) (hO : ∀ p ∈ O, p ∈ news) (hD : DfaIn w.params O d rows tags) (hW : Wf rows) (hTl : tags.length = rows.length) (hSh : Short tags) (hn : RowIn O na word) (hb : ∀ k ∈ word, 0 ≤ k ∧ k < 2) (hwl : word.length = 8)
    (ha0 : 0 ≤ at0) (ha1 : at0 < 8) (hWd : word.drop at0.toNat = wd)
    (hQ0 : ∀ i h' tk, Fr h₀ L h' m → News h₀ L h' news → endsP rows tags at0 wd i = [] →
      i ≤ wd.length → (∀ j < i, runF rows 0 (wd.take (j + 1)) ≠ -1) → (i = wd.length ∨ runF rows 0 (wd.take (i + 1)) = -1) → Q .none { s with heap := h', toks := tk })
    (hQ1 : ∀ x u v c p i h' tk, Fr h₀ L h' m → News h₀ L h' ((x, tupO [.int p u, v] c) :: news) → (endsP rows tags at0 wd i).getLast? = some p →
      i ≤ wd.length → (∀ j < i, runF rows 0 (wd.take (j + 1)) ≠ -1) → (i = wd.length ∨ runF rows 0 (wd.take (i + 1)) = -1) → Q (.ref x) { s with heap := h', toks := tk }) :
    wpAny (model PySem.Challenge.rw_pq0568_01.prog w) A (call (.ref 96) [.ref d, .ref na, .int at0 t0]) Q E s := by
  have X := C.X
  revert X
  k_fill
  intro X
  refine' call_O (O := O) (fun v O' => ∃ i, i ≤ wd.length ∧ (∀ j < i, runF rows 0 (wd.take (j + 1)) ≠ -1) ∧ (i = wd.length ∨ runF rows 0 (wd.take (i + 1)) = -1) ∧
    ((v = .none ∧ O' = [] ∧ endsP rows tags at0 wd i = []) ∨ ∃ x u w2 c p, v = .ref x ∧ O' = [(x, tupO [.int p u, w2] c)] ∧ (endsP rows tags at0 wd i).getLast? = some p)) C F N hO ?ho ?hcd ?hb ?hl ?h ?hQ ?_ ?_ ?_ ?_
  case ho => k_is
  case hcd => k_is
  case hb => exact binds_K (by k_in) rfl (by k_is) rfl rfl rfl
  case hl => exact locs rfl
  case h =>
    intro g L' h₁ tk C' F' N'
    have C2 := C'
    obtain ⟨hh, hd, hu, X', T'⟩ := C'
    obtain ⟨p', l, me, mg, mb, T'⟩ := T'
    k_unmd
    k_fold
    walk_at "m go"
    refine ends_ok (Ctx.le C2 (by decide)) (by k_asm) (by k_asm) mem_self hD hW hTl hSh hn hb hwl ha0 ha1 hWd ?_
    intro fa ts T c i h' tk F' N' hE e1 e2 e3
    have hE1 := hE.1
    rw [List.length_reverse] at hE1
    have hel := endsP_length (rows := rows) (tags := tags) (at0 := at0) (w := wd) i
    have hWl : wd.length = 8 - at0.toNat := by rw [← hWd, List.length_drop, hwl]
    walk_at "m go"
    rotate_left
    · refine ⟨_, _, [], _, _, rfl, by k_asm, News.sub (by k_asm) (fun p hp => List.mem_cons_of_mem _ (List.mem_append_right _ hp)), i, e1, e2, e3, .inl ⟨rfl, rfl, List.eq_nil_of_length_eq_zero (by omega)⟩⟩
    · rename_i b hb0
      have hp0 : 0 < (endsP rows tags at0 wd i).length := by omega
      obtain ⟨p, hp9⟩ : ∃ p, (endsP rows tags at0 wd i).getLast? = some p := ⟨_, List.getLast?_eq_some_getLast (List.ne_nil_of_length_pos hp0)⟩
      have e9 : (endsP rows tags at0 wd i).reverse[0]? = some p := by
        rw [← List.head?_eq_getElem?, List.head?_reverse]; exact hp9
      obtain ⟨u, v, c9, hx⟩ := hE.2 0 b p hb0 e9
      refine ⟨_, _, [(b, tupO [.int p u, v] c9)], _, _, rfl, by k_asm, News.sub (by k_asm) (fun q hq => ?_), i, e1, e2, e3, .inr ⟨b, u, v, c9, p, rfl, rfl, hp9⟩⟩
      rcases List.mem_cons.mp hq with h | h
      · rw [h]; exact List.mem_cons_of_mem _ (List.mem_append_left _ hx)
      · exact List.mem_cons_of_mem _ (List.mem_append_right _ h)
  case hQ =>
    rintro v O' h' tk F' N' kp ⟨i, e1, e2, e3, ⟨rfl, rfl, e4⟩ | ⟨x, u, w2, c, p, rfl, rfl, e4⟩⟩
    · exact hQ0 i h' tk F' N' e4 e1 e2 e3
    · exact hQ1 x u w2 c p i h' tk F' N' e4 e1 e2 e3
  all_goals first | rfl | decide
end
section
theorem quiet17 : True := by
  w_top off
  exact True.intro
inductive Reach (links : Rows) : Int → Prop
  | zero : Reach links 0
  | step {i j : Int} : Reach links i → j ∈ rowOf links i → Reach links j
def Wfl (links : Rows) : Prop := 0 < links.length ∧ links.length ≤ 8 ∧ ∀ i : Int, (rowOf links i).length ≤ 8 ∧ ∀ j ∈ rowOf links i, 0 ≤ j ∧ j < links.length
def on (bs : List Bool) (i : Int) : Prop := bs.getD i.toNat false = true
structure Sp (links : Rows) (bs : List Bool) (wl : List Int) (ex : Int → Prop) : Prop where
  len : bs.length = links.length
  sound : ∀ i : Int, 0 ≤ i → on bs i → Reach links i
  wseen : ∀ p ∈ wl, 0 ≤ p ∧ p < links.length ∧ on bs p
  zero : on bs 0
  closed : ∀ i : Int, 0 ≤ i → on bs i → i ∈ wl ∨ ex i ∨ ∀ j ∈ rowOf links i, on bs j
theorem on_set {bs : List Bool} {i j : Int} (hi : 0 ≤ i) (hi1 : i < bs.length) (hj : 0 ≤ j) : on (bs.set i.toNat true) j ↔ (j = i ∨ on bs j) := by
  unfold on
  by_cases h : j = i
  · subst h
    simp [List.getD, List.getElem?_set, show j.toNat < bs.length by omega]
  · have : i.toNat ≠ j.toNat := by omega
    simp [List.getD, List.getElem?_set, this, h]
theorem not_on {bs : List Bool} {i : Int} : ¬ on bs i ↔ bs.getD i.toNat false = false := by
  unfold on; simp
theorem count_set {bs : List Bool} {k : Nat} (h : k < bs.length) (hf : bs.getD k false = false) : (bs.set k true).count false + 1 = bs.count false := by
  induction bs generalizing k with
  | nil => simp at h
  | cons b r ih =>
    cases k with
    | zero =>
      have : b = false := by simpa using hf
      subst this
      simp
    | succ k =>
      have h' : k < r.length := by simpa using h
      have hf' : r.getD k false = false := by simpa using hf
      have := ih h' hf'
      simp only [List.set_cons_succ, List.count_cons]
      omega
/-- a goal newly seen -/
theorem Sp.push {links : Rows} {bs : List Bool} {wl : List Int} {ex : Int → Prop} (h : Sp links bs wl ex) {j : Int} (h0 : 0 ≤ j) (h1 : j < links.length) (hr : Reach links j) : Sp links (bs.set j.toNat true) (wl ++ [j]) ex := by
  have hl := h.len
  refine ⟨by rw [List.length_set]; exact h.len, fun i hi ho => ?_, fun p hp => ?_, ?_, fun i hi ho => ?_⟩
  · rcases (on_set h0 (by omega) hi).mp ho with q | q
    · subst q; exact hr
    · exact h.sound i hi q
  · rcases List.mem_append.mp hp with q | q
    · have z := h.wseen p q
      exact ⟨z.1, z.2.1, (on_set h0 (by omega) z.1).mpr (.inr z.2.2)⟩
    · rw [List.mem_singleton.mp q]
      exact ⟨h0, h1, (on_set h0 (by omega) h0).mpr (.inl rfl)⟩
  · exact (on_set h0 (by omega) (Int.le_refl 0)).mpr (.inr h.zero)
  · have up : ∀ x : Int, on bs x → on (bs.set j.toNat true) x := fun x hx => by
      unfold on at hx ⊢
      rw [List.getD_eq_getElem?_getD, List.getElem?_set]
      split
      · split <;> simp_all
      · rw [← List.getD_eq_getElem?_getD]; exact hx
    rcases (on_set h0 (by omega) hi).mp ho with q | q
    · exact .inl (List.mem_append_right _ (by rw [q]; simp))
    · rcases h.closed i hi q with z | z | z
      · exact .inl (List.mem_append_left _ z)
      · exact .inr (.inl z)
      · exact .inr (.inr fun x hx => up x (z x hx))
theorem Sp.pop {links : Rows} {bs : List Bool} {wl : List Int} (h : Sp links bs wl (fun _ => False)) (hne : 0 < wl.length) :
    Sp links bs wl.dropLast (fun i => i = wl.getLastD 0) ∧ 0 ≤ wl.getLastD 0 ∧ wl.getLastD 0 < links.length ∧ Reach links (wl.getLastD 0) := by
  have hm : wl.getLastD 0 ∈ wl := by
    rw [List.getLastD_eq_getLast?, List.getLast?_eq_some_getLast (List.ne_nil_of_length_pos hne)]
    exact List.getLast_mem _
  have e : wl = wl.dropLast ++ [wl.getLastD 0] := by
    rw [List.getLastD_eq_getLast?, List.getLast?_eq_some_getLast (List.ne_nil_of_length_pos hne)]
    exact (List.dropLast_concat_getLast _).symm
  have z := h.wseen _ hm
  refine ⟨⟨h.len, h.sound, fun p hp => h.wseen p (List.dropLast_subset _ hp), h.zero, fun i hi ho => ?_⟩, z.1, z.2.1, h.sound _ z.1 z.2.2⟩
  rcases h.closed i hi ho with q | q | q
  · rw [e] at q
    rcases List.mem_append.mp q with q | q
    · exact .inl q
    · exact .inr (.inl (List.mem_singleton.mp q))
  · exact q.elim
  · exact .inr (.inr q)
theorem Sp.done {links : Rows} {bs : List Bool} {wl : List Int} {p : Int} (h : Sp links bs wl (fun i => i = p)) (hp : ∀ j ∈ rowOf links p, on bs j) : Sp links bs wl (fun _ => False) :=
  ⟨h.len, h.sound, h.wseen, h.zero, fun i hi ho => by
    rcases h.closed i hi ho with q | q | q
    · exact .inl q
    · right; right; rw [q]; exact hp
    · exact .inr (.inr q)⟩
theorem Sp.fin {links : Rows} {bs : List Bool} (hW : Wfl links) (h : Sp links bs [] (fun _ => False)) : bs.length = links.length ∧ ∀ i : Int, 0 ≤ i → (on bs i ↔ Reach links i) := by
  refine ⟨h.len, fun i hi => ⟨h.sound i hi, fun hr => ?_⟩⟩
  have key : ∀ i : Int, Reach links i → 0 ≤ i ∧ on bs i := by
    intro i hr
    induction hr with
    | zero => exact ⟨Int.le_refl 0, h.zero⟩
    | step hr hj ih =>
      refine ⟨((hW.2.2 _).2 _ hj).1, ?_⟩
      rcases h.closed _ ih.1 ih.2 with q | q | q
      · cases q
      · exact q.elim
      · exact q _ hj
  exact (key i hr).2
theorem Sp.start {links : Rows} (hW : Wfl links) : Sp links ((List.replicate links.length false).set 0 true) [0] (fun _ => False) := by
  have hn : ∀ i : Int, ¬ on (List.replicate links.length false) i := fun i => by
    rw [not_on, List.getD, List.getElem?_replicate]; split <;> rfl
  have hl := hW.1
  have hs : ∀ i : Int, 0 ≤ i → (on ((List.replicate links.length false).set 0 true) i ↔ i = 0) := fun i hi => by
    have := on_set (bs := List.replicate links.length false) (i := 0) (j := i) (by omega) (by simp; omega) hi
    rw [show (0 : Int).toNat = 0 from rfl] at this
    rw [this]
    exact ⟨fun h => h.elim id fun h => absurd h (hn i), .inl⟩
  refine ⟨by simp, fun i hi ho => by rw [(hs i hi).mp ho]; exact .zero, fun p hp => ?_, (hs 0 (by omega)).mpr rfl, fun i hi ho => .inl (by rw [(hs i hi).mp ho]; simp)⟩
  rw [List.mem_singleton.mp hp]
  exact ⟨by omega, by omega, (hs 0 (by omega)).mpr rfl⟩

set_option maxRecDepth 100000 in
set_option maxHeartbeats 8000000 in
theorem spread_ok {w : World} {A : Around} {s : Shared} {h₀ : Heap} {L : Addr} {m : Str → Option Value} {news O : List (Addr × Obj)} {la sa : Addr} {links : Rows} {t0 : Tok} {c0 : Nat} {Q : Value → Shared → Prop} {E : Value → Shared → Prop}
    (C : Ctx w A 2 h₀) (F : Fr h₀ L s.heap m) (N : News h₀ L s.heap news) (hO : ∀ p ∈ O, p ∈ news) (hR : RowsIn O la links) (hW : Wfl links) (hs : (sa, W.listOf [Value.int 0 t0].toArray c0) ∈ O)
    (hQ : ∀ sn bs c h' tk, Fr h₀ L h' m → News h₀ L h' ((sn, W.listOf (bs.map Value.bool).toArray c) :: news) → bs.length = links.length → (∀ i : Int, 0 ≤ i → (on bs i ↔ Reach links i)) → Q (.ref sn) { s with heap := h', toks := tk }) :
    wpAny (model PySem.Challenge.rw_pq0568_01.prog w) A (call (.ref 28) [.ref la, .ref sa]) Q E s := by
  have X := C.X
  revert X
  k_fill
  intro X
  refine' call_O (O := O) (fun v O' => ∃ sn bs c, v = .ref sn ∧ O' = [(sn, W.listOf (bs.map Value.bool).toArray c)] ∧ bs.length = links.length ∧ ∀ i : Int, 0 ≤ i → (on bs i ↔ Reach links i)) C F N hO ?ho ?hcd ?hb ?hl ?h ?hQ ?_ ?_ ?_ ?_
  case ho => k_is
  case hcd => k_is
  case hb => exact BindsTo.of_eq rfl
  case hl => exact locs rfl
  case h =>
    intro g L' h₁ tk C' F' N'
    have C2 := C'
    obtain ⟨hh, hd, hu, X', T'⟩ := C'
    obtain ⟨p', l, me, mg, mb, T'⟩ := T'
    have hW1 := hW.1
    have hW2 := hW.2.1
    k_unmd
    k_fold
    walk_at "m go"
    rename_i l9 hA9 lA9 tA9 tkA9 sn hB9 lB9 hC9 F9 N9
    refine wpAny_noRaise (For_invV g (by rfl) (by rfl) ?_ (hE := PassesOwn.never))
    walk_at "m step"
    refine loop_list hh F9 (News.sub (O := (sn, W.listOf ((List.replicate links.length false).map Value.bool).toArray 0) :: O) N9 (fun p hp => by
        rcases List.mem_cons.mp hp with h | h
        · rw [h]; exact List.mem_cons_self
        · exact List.mem_cons_of_mem _ (List.mem_cons_of_mem _ h))) (List.mem_cons_of_mem _ hs)
      (fun i m' nw => m' "seen" = some (.ref sn) ∧ m' "links" = some (.ref la) ∧ m' "seeds" = some (.ref sa) ∧ nw = (sn, W.listOf ((if i = 0 then List.replicate links.length false else (List.replicate links.length false).set 0 true).map Value.bool).toArray 0) :: O)
      (fun i m' nw hJ => by rw [hJ.2.2.2]; exact List.mem_cons_of_mem _ hs) ⟨rfl, rfl, rfl, rfl⟩ ?_ ?_
    · rintro i v m₁ news₁ I oI h tk hi ⟨hse, hli, hsd, rfl⟩ hoff F' N'
      have hi0 : i = 0 ∧ v = .int 0 t0 := by
        cases i with
        | zero => simpa using hi.symm
        | succ i => simp at hi
      obtain ⟨rfl, rfl⟩ := hi0
      have hfI : @Ne Nat sn I := hoff _ List.mem_cons_self
      have hlen : (List.replicate links.length false).length = links.length := by simp
      rw [if_pos rfl] at N' hoff
      k_unmd
      k_fold
      walk_at "m go"
      refine TurnE.intro ((sn, W.listOf (((List.replicate links.length false).set 0 true).map Value.bool).toArray 0) :: O) (by k_asm) (by k_asm) mem_self (fun p hp => ?_) ⟨by walk_at "m get", by walk_at "m get", by walk_at "m get", rfl⟩
      rcases List.mem_cons.mp hp with h | h
      · rw [h]; exact hfI
      · exact hoff p (List.mem_cons_of_mem _ h)
    · rintro m₁ news₁ h tk ⟨hse, hli, hsd, rfl⟩ F' N'
      rw [if_neg (by simp)] at N'
      dsimp only
      walk_at "m go"
      rename_i wa cw hA F0 N0 lw hB F1 N1
      have hOw : OwnOff O [wa, sn] := fun p hp b hb => by
        rcases List.mem_cons.mp hb with rfl | hb
        · exact off_of_allLt lw.2 p hp
        · rw [List.mem_singleton.mp hb]; exact off_of_allLt lB9.2 p hp
      have hws : @Ne Nat wa sn := by omega
      have hst := Sp.start hW
      have hc0 : ((List.replicate links.length false).set 0 true).count false + 1 = links.length := by
        have := count_set (bs := List.replicate links.length false) (k := 0) (by simpa using hW1) (by simp [List.getD, List.getElem?_replicate, hW1])
        rw [this]; simp
      refine wpAny_noRaise (While_inv (fun n m' nw => m' "seen" = some (.ref sn) ∧ m' "links" = some (.ref la) ∧ m' "waiting" = some (.ref wa) ∧ ∃ bs us wl c1 c2, nw = (wa, W.listOf us.toArray c2) :: (sn, W.listOf (bs.map Value.bool).toArray c1) :: O ∧ IntsAre us wl ∧ Sp links bs wl (fun _ => False) ∧
        n = 2 * bs.count false + wl.length ∧ n ≤ 17) F1 N1 ⟨by walk_at "m get", by walk_at "m get", by walk_at "m get", _, _, _, _, _, rfl, .cons 0 t0 .nil, hst, rfl, ?_⟩ ?_ (hE := PassesOwn.never))
      · simp only [List.length_cons, List.length_nil]; omega
      · rintro n m₂ news₂ h2 tk2 F' N' ⟨hse, hli, hwt, bs, us, wl, c1, c2, rfl, hus, hSp, hn, hn17⟩
        have hul := hus.length
        have hbl := hSp.len
        have hgl := Sp.pop hSp
        k_unmd
        k_fold
        walk_at "m go"
        · rename_i hpos hA2 tp hI2 hB2 F2 N2
          obtain ⟨hSp2, hp0, hp1, hpr⟩ := hgl hpos
          have hdl : wl.dropLast.length = wl.length - 1 := List.length_dropLast
          generalize hpd : wl.getLastD 0 = p at *
          refine wpAny_noRaise (For_invV g (by rfl) (by rfl) ?_ (hE := PassesOwn.never))
          walk_at "m goI"
          rename_i b hb
          obtain ⟨vs, c, hm, hv⟩ := hb
          refine loop_list hh (by k_asm) (by k_asm) (List.mem_cons_of_mem _ (List.mem_cons_of_mem _ hm))
            (fun i m' nw => m' "seen" = some (.ref sn) ∧ m' "links" = some (.ref la) ∧ m' "waiting" = some (.ref wa) ∧ ∃ bs us wl c1 c2, nw = (wa, W.listOf us.toArray c2) :: (sn, W.listOf (bs.map Value.bool).toArray c1) :: O ∧ IntsAre us wl ∧ Sp links bs wl (fun i => i = p) ∧
              (∀ j ∈ (rowOf links p).take i, on bs j) ∧ 2 * bs.count false + wl.length + 1 ≤ n)
            (fun i m' nw hJ => by obtain ⟨_, _, _, bs, us, wl, c1, c2, rfl, _⟩ := hJ; exact List.mem_cons_of_mem _ (List.mem_cons_of_mem _ hm))
            ⟨by walk_at "m get", by walk_at "m get", by walk_at "m get", _, _, _, _, _, rfl, hI2, hSp2, by simp, by omega⟩ ?_ ?_
          · rintro i v m₃ news₃ I oI h3 tk3 hi ⟨hse, hli, hwt, bs3, us3, wl3, c31, c32, rfl, hus3, hSp3, hpre, hn3⟩ hoff F' N'
            obtain ⟨j, tj, rfl, hj⟩ := hv.at i v (by simpa using hi)
            have hjm := List.mem_of_getElem? hj
            have hjb := (hW.2.2 p).2 j hjm
            have hbl3 := hSp3.len
            have hul3 := hus3.length
            have hwI : @Ne Nat wa I := hoff _ List.mem_cons_self
            have hsI : @Ne Nat sn I := hoff _ (List.mem_cons_of_mem _ List.mem_cons_self)
            k_unmd
            k_fold
            walk_at "m go"
            · rename_i hon
              refine TurnE.intro _ (by k_asm) (by k_asm) mem_self hoff ⟨by walk_at "m get", by walk_at "m get", by walk_at "m get", bs3, us3, wl3, c31, c32, rfl, hus3, hSp3, ?_, hn3⟩
              intro x hx
              rw [List.take_add_one, hj] at hx
              rcases List.mem_append.mp hx with q | q
              · exact hpre x q
              · have : x = j := by simpa using q
                rw [this]; exact hon
            · rename_i hof _ _ _ _
              have e : (us3 ++ [Value.int j tj]).toArray = us3.toArray.push (.int j tj) := by simp
              have hcs := count_set (bs := bs3) (k := j.toNat) (by omega) hof
              refine TurnE.intro ((wa, W.listOf (us3 ++ [Value.int j tj]).toArray (c32 + 1)) :: (sn, W.listOf ((bs3.set j.toNat true).map Value.bool).toArray c31) :: O) (by k_asm) (by k_asm) (by rw [e]; exact mem_self) (fun q hq => ?_)
                ⟨by walk_at "m get", by walk_at "m get", by walk_at "m get", bs3.set j.toNat true, us3 ++ [.int j tj], wl3 ++ [j], c31, c32 + 1, rfl, IntsAre.append hus3 (.cons j tj .nil), hSp3.push hjb.1 hjb.2 (.step hpr hjm), ?_, ?_⟩
              · rcases List.mem_cons.mp hq with h | hq
                · rw [h]; exact hwI
                · rcases List.mem_cons.mp hq with h | hq
                  · rw [h]; exact hsI
                  · exact hoff q (List.mem_cons_of_mem _ (List.mem_cons_of_mem _ hq))
              · intro x hx
                rw [List.take_add_one, hj] at hx
                have hxb : 0 ≤ x := by
                  rcases List.mem_append.mp hx with q | q
                  · exact ((hW.2.2 p).2 x (List.mem_of_mem_take q)).1
                  · have : x = j := by simpa using q
                    rw [this]; exact hjb.1
                refine (on_set hjb.1 (by omega) hxb).mpr ?_
                rcases List.mem_append.mp hx with q | q
                · exact .inr (hpre x q)
                · exact .inl (by simpa using q)
              · rw [List.length_append, List.length_singleton]
                omega
          · rintro m₃ news₃ h3 tk3 ⟨hse, hli, hwt, bs3, us3, wl3, c31, c32, rfl, hus3, hSp3, hpre, hn3⟩ F' N'
            dsimp only
            walk_at "m go"
            refine WhileStep.intro (by k_asm) (by k_asm) ?_ ⟨by walk_at "m get", by walk_at "m get", by walk_at "m get", bs3, us3, wl3, c31, c32, rfl, hus3, hSp3.done ?_, rfl, ?_⟩
            · omega
            · rw [List.size_toArray, hv.length, List.take_length] at hpre
              exact hpre
            · omega
        · rename_i hnp
          have hw0 : wl = [] := List.eq_nil_of_length_eq_zero (by omega)
          subst hw0
          exact ⟨_, _, [(sn, _)], _, _, rfl, by k_asm, News.sub (by k_asm) (fun p hp => List.mem_cons_of_mem _ hp), sn, bs, c1, rfl, rfl, hSp.fin hW⟩
  case hQ =>
    rintro v O' h' tk F' N' kp ⟨sn, bs, c, rfl, rfl, e1, e2⟩
    exact hQ sn bs c h' tk F' N' e1 e2
  all_goals first | rfl | decide
end
section
theorem quiet18 : True := by
  w_top off
  exact True.intro
def linksOf (rows : Rows) : Rows := rows.map fun r => r.filter (· ≠ -1)
set_option maxRecDepth 100000 in
set_option maxHeartbeats 8000000 in
theorem links_ok {w : World} {A : Around} {s : Shared} {h₀ : Heap} {L : Addr} {m : Str → Option Value} {news O : List (Addr × Obj)} {d : Addr} {rows tags : Rows} {Q : Value → Shared → Prop} {E : Value → Shared → Prop}
    (C : Ctx w A 2 h₀) (F : Fr h₀ L s.heap m) (N : News h₀ L s.heap news) (hO : ∀ p ∈ O, p ∈ news) (hD : DfaIn w.params O d rows tags) (hW : Wf rows)
    (hQ : ∀ la T h' tk, Fr h₀ L h' m → News h₀ L h' (T ++ news) → RowsIn T la (linksOf rows) → Q (.ref la) { s with heap := h', toks := tk }) :
    wpAny (model PySem.Challenge.rw_pq0568_01.prog w) A (call (.ref 68) [.ref d]) Q E s := by
  have X := C.X
  revert X
  k_fill
  intro X
  refine' call_O (O := O) (fun v O' => ∃ la, v = .ref la ∧ RowsIn O' la (linksOf rows)) C F N hO ?ho ?hcd ?hb ?hl ?h ?hQ ?_ ?_ ?_ ?_
  case ho => k_is
  case hcd => k_is
  case hb => exact BindsTo.of_eq rfl
  case hl => exact locs rfl
  case h =>
    intro g L' h₁ tk C' F' N'
    have C2 := C'
    obtain ⟨hh, hd, hu, X', T'⟩ := C'
    obtain ⟨p', l, me, mg, mb, T'⟩ := T'
    have hD' := hD
    obtain ⟨dx, ra, ta, u1, u2, hd1, hd2, hR, hT⟩ := hD'
    have hW1 := hW.1
    have hW2 := hW.2.1
    k_unmd
    k_fold
    walk_at "m goC"
    obtain ⟨as, c, hm, hl, hz⟩ := hR
    refine LCg.CompSrc.ledger hh (by k_asm) (by k_asm) hm (by walk_at "m size") ?_
    intro g9
    refine comp_U (fun i ys nw => ∃ bs T, ys = bs.map Value.ref ∧ nw = T ++ O ∧ bs.length = i ∧ ∀ (j : Nat) (b : Addr) (r : List Int), bs[j]? = some b → rows[j]? = some r → RowIn T b (r.filter (· ≠ -1))) ⟨[], [], rfl, rfl, rfl, by simp⟩ ?_ ?_
    · rintro i ys nw v I oI C oC D m₂ h tk E' hi ⟨bs, T, rfl, rfl, hbl, hbs⟩ hP hC hx F' N' off ne
      have hil : i < rows.length := by rw [List.size_toArray, List.length_map, hl] at hi; exact hi
      have e1 : as[i]? = some as[i] := by simp [hl, hil]
      have hv : v = .ref as[i] := by simpa [hl, hil] using hP.symm
      subst hv
      have hrow := hz i as[i] rows[i] e1 (by simp [hil])
      have hri : rows[i] = rowOf rows (i : Int) := by simp [rowOf, List.getD, hil]
      have hr2 : rows[i].length = 2 := by rw [hri]; exact hW.row (by omega) (by omega)
      obtain ⟨vs, cc, hm2, hv⟩ := hrow
      have hvl := hv.length
      dsimp only
      k_unmd
      k_fold
      walk_at "m goC"
      refine LCt.CompSrcT.ledger hh (by k_asm) (by k_asm) (k := cc) (its := vs.toArray) (by k_mem) (by walk_at "m size") ?_
      intro g10
      refine comp_T (fun i2 ys2 nw2 => nw2 = (I, oI) :: (C, oC) :: (D, LCg.lst (bs.map Value.ref)) :: (T ++ O) ∧ IntsAre ys2 ((rows[i].take i2).filter (· ≠ -1))) ⟨rfl, .nil⟩ ?_ ?_
      · rintro i2 ys2 nw2 v2 I2 oI2 C2 oC2 D2 m3 h3 tk3 E3 hi2 ⟨rfl, hys⟩ hP2 hC2 hx2 F2 N2 off2 ne2
        obtain ⟨k, tkk, rfl, hk⟩ := hv.at i2 v2 (by simpa using hP2)
        dsimp only
        k_unmd
        k_fold
        walk_at "m goC"
        · refine LCg.CompEnd.intro (by k_asm) (by k_asm) _ mem_self off2 (.inr ⟨W.listOf vs.toArray cc, by k_mem, rfl, _, rfl⟩) ⟨rfl, ?_⟩
          rw [List.take_add_one, hk, List.filter_append]
          have e9 : List.filter (fun x => decide (x ≠ -1)) (some k).toList = [k] := by
            have : k ≠ -1 := by assumption
            simp [this]
          rw [e9]
          exact IntsAre.append hys (.cons k tkk .nil)
        · refine LCg.CompEnd.intro (by k_asm) (by k_asm) _ mem_self off2 (.inr ⟨W.listOf vs.toArray cc, by k_mem, rfl, _, rfl⟩) ⟨rfl, ?_⟩
          rw [List.take_add_one, hk, List.filter_append]
          have e9 : List.filter (fun x => decide (x ≠ -1)) (some k).toList = [] := by
            have : k = -1 := by first | assumption | omega
            simp [this]
          rw [e9, List.append_nil]
          exact hys
      · rintro ys2 nw2 ⟨rfl, hys⟩
        intro D2 h4 tk4 F4 N4 o4
        rw [List.size_toArray, hvl, List.take_length] at hys
        have o5 := Off1.mem o4
        refine LCg.CompEnd.intro F4 N4 ((D2, LCg.lst ys2) :: (T ++ O)) (fun p hp => ?_) (LCg.Off3.of fun p hp => ?_) (.inr ⟨_, List.mem_cons_of_mem _ (List.mem_append_right _ hm), rfl, _, rfl⟩)
          ⟨bs ++ [D2], (D2, LCg.lst ys2) :: T, by simp, rfl, by simp [hbl], ?_⟩
        · simp only [List.mem_cons] at hp ⊢
          rcases hp with h | h | h | h | h
          · exact .inr (.inl h)
          · exact .inr (.inr (.inl h))
          · exact .inr (.inr (.inr (.inl h)))
          · exact .inl h
          · exact .inr (.inr (.inr (.inr h)))
        · rcases List.mem_cons.mp hp with h | h
          · rw [h]
            exact ⟨Ne.symm (o5 (I, oI) (by simp)), Ne.symm (o5 (C, oC) (by simp)), Ne.symm (o5 (D, LCg.lst (bs.map Value.ref)) (by simp))⟩
          · exact LCg.Off3.mem off p h
        · intro j b r h1 h2
          rcases Nat.lt_trichotomy j bs.length with q | q | q
          · rw [List.getElem?_append_left q] at h1
            exact (hbs j b r h1 h2).mono fun p hp => List.mem_cons_of_mem _ hp
          · subst q
            have e9 : D2 = b := by simpa using h1
            have e8 : r = rows[i] := by
              rw [hbl] at h2
              simpa [hil] using h2.symm
            subst e9 e8
            exact ⟨ys2, _, List.mem_cons_self, hys⟩
          · rw [List.getElem?_eq_none (by simp; omega)] at h1; cases h1
    · rintro ys nw ⟨bs, T, rfl, rfl, hbl, hbs⟩
      intro D2 h4 tk4 F4 N4 o4
      rw [List.size_toArray, List.length_map, hl] at hbl
      refine ⟨_, _, (D2, LCg.lst (bs.map Value.ref)) :: T, _, _, rfl, F4, N4, D2, rfl, bs, _, List.mem_cons_self, by simp [linksOf, hbl], fun j b r h1 h2 => ?_⟩
      simp only [linksOf, List.getElem?_map, Option.map_eq_some_iff] at h2
      obtain ⟨r0, h3, rfl⟩ := h2
      exact (hbs j b r0 h1 h3).mono fun p hp => List.mem_cons_of_mem _ hp
  case hQ =>
    rintro v O' h' tk F' N' kp ⟨la, rfl, e1⟩
    exact hQ la O' h' tk F' N' e1
  all_goals first | rfl | decide
end
section
theorem quiet19 : True := by
  w_top off
  exact True.intro
theorem rowOf_links {rows : Rows} (i : Int) : rowOf (linksOf rows) i = (rowOf rows i).filter (· ≠ -1) := by
  unfold rowOf linksOf
  rw [List.getD_eq_getElem?_getD, List.getD_eq_getElem?_getD, List.getElem?_map]
  cases rows[i.toNat]? <;> simp
theorem rowOf_big {rows : Rows} {i : Int} (h : rows.length ≤ i.toNat) : rowOf rows i = [] := by
  unfold rowOf; rw [List.getD_eq_getElem?_getD, List.getElem?_eq_none h]; rfl
theorem rowOf_neg {rows : Rows} {i : Int} (h : i < 0) : rowOf rows i = rowOf rows 0 := by
  unfold rowOf; rw [show i.toNat = (0 : Int).toNat by omega]
theorem cell_mem {rows : Rows} (h : Wf rows) {st : Int} (h0 : 0 ≤ st) (h1 : st < rows.length) {c : Int} : c ∈ rowOf rows st ↔ c = cellOf rows st 0 ∨ c = cellOf rows st 1 := by
  have hl := h.row h0 h1
  unfold cellOf
  generalize rowOf rows st = r at *
  match r, hl with
  | [a, b], _ => simp [List.getD]
theorem Wf.mem {rows : Rows} (h : Wf rows) {i c : Int} (hc : c ∈ rowOf rows i) : -1 ≤ c ∧ c < rows.length := by
  have key : ∀ j : Int, 0 ≤ j → c ∈ rowOf rows j → -1 ≤ c ∧ c < rows.length := fun j hj hc => by
    by_cases h1 : j < rows.length
    · rcases (cell_mem h hj h1).mp hc with e | e
      · rw [e]; exact h.cell hj h1 (by omega) (by omega)
      · rw [e]; exact h.cell hj h1 (by omega) (by omega)
    · rw [rowOf_big (by omega)] at hc; cases hc
  by_cases h0 : 0 ≤ i
  · exact key i h0 hc
  · rw [rowOf_neg (by omega)] at hc
    exact key 0 (by omega) hc
theorem wfl_links {rows : Rows} (h : Wf rows) : Wfl (linksOf rows) := by
  refine ⟨by simpa [linksOf] using h.1, by simpa [linksOf] using h.2.1, fun i => ⟨?_, fun j hj => ?_⟩⟩
  · rw [rowOf_links]
    refine Nat.le_trans (List.length_filter_le _ _) ?_
    have key : ∀ j : Int, 0 ≤ j → (rowOf rows j).length ≤ 8 := fun j hj => by
      by_cases h1 : j < rows.length
      · rw [h.row hj h1]; omega
      · rw [rowOf_big (by omega)]; simp
    by_cases h0 : 0 ≤ i
    · exact key i h0
    · rw [rowOf_neg (by omega)]; exact key 0 (by omega)
  · rw [rowOf_links] at hj
    have hm := List.mem_filter.mp hj
    have := h.mem hm.1
    have h2 : j ≠ -1 := by simpa using hm.2
    rw [show (linksOf rows).length = rows.length by simp [linksOf]]
    omega
set_option maxRecDepth 100000 in
set_option maxHeartbeats 8000000 in
theorem reach_ok {w : World} {A : Around} {s : Shared} {h₀ : Heap} {L : Addr} {m : Str → Option Value} {news O : List (Addr × Obj)} {d : Addr} {rows tags : Rows} {Q : Value → Shared → Prop} {E : Value → Shared → Prop}
    (C : Ctx w A 4 h₀) (F : Fr h₀ L s.heap m) (N : News h₀ L s.heap news) (hO : ∀ p ∈ O, p ∈ news) (hD : DfaIn w.params O d rows tags) (hW : Wf rows)
    (hQ : ∀ sn bs c h' tk, Fr h₀ L h' m → News h₀ L h' ((sn, W.listOf (bs.map Value.bool).toArray c) :: news) → bs.length = rows.length → (∀ i : Int, 0 ≤ i → (on bs i ↔ Reach (linksOf rows) i)) → Q (.ref sn) { s with heap := h', toks := tk }) :
    wpAny (model PySem.Challenge.rw_pq0568_01.prog w) A (call (.ref 111) [.ref d]) Q E s := by
  have X := C.X
  revert X
  k_fill
  intro X
  refine' call_O (O := O) (fun v O' => ∃ sn bs c, v = .ref sn ∧ O' = [(sn, W.listOf (bs.map Value.bool).toArray c)] ∧ bs.length = rows.length ∧ ∀ i : Int, 0 ≤ i → (on bs i ↔ Reach (linksOf rows) i)) C F N hO ?ho ?hcd ?hb ?hl ?h ?hQ ?_ ?_ ?_ ?_
  case ho => k_is
  case hcd => k_is
  case hb => exact BindsTo.of_eq rfl
  case hl => exact locs rfl
  case h =>
    intro g L' h₁ tk C' F' N'
    have C2 := C'
    obtain ⟨hh, hd, hu, X', T'⟩ := C'
    obtain ⟨p', l, me, mg, mb, T'⟩ := T'
    have hD' := hD
    obtain ⟨dx, ra, ta, u1, u2, hd1, hd2, hR, hT⟩ := hD'
    k_unmd
    k_fold
    walk_at "m goC"
    refine links_ok (Ctx.le C2 (by decide)) (by k_asm) (by k_asm) mem_self hD hW ?_
    intro la T h' tk' F' N' hRl
    dsimp only
    walk_at "m goC"
    rename_i sa hA lA FA NA
    refine spread_ok (O := (sa, _) :: (T ++ O)) (Ctx.le C2 (by decide)) (by k_asm) (by k_asm) mem_self (hRl.mono fun p hp => List.mem_cons_of_mem _ (List.mem_append_left _ hp)) (wfl_links hW) List.mem_cons_self ?_
    intro sn bs c h' tk' F' N' hbl hbs
    dsimp only
    walk_at "m goC"
    exact ⟨_, _, [(sn, _)], _, _, rfl, by k_asm, News.sub (by k_asm) (fun p hp => by
      rcases List.mem_cons.mp hp with h | h
      · rw [h]; exact List.mem_cons_self
      · exact List.mem_cons_of_mem _ (List.mem_cons_of_mem _ (List.mem_append_right _ h))), sn, bs, c, rfl, rfl, by rw [hbl]; simp [linksOf], hbs⟩
  case hQ =>
    rintro v O' h' tk F' N' kp ⟨sn, bs, c, rfl, rfl, e1, e2⟩
    exact hQ sn bs c h' tk F' N' e1 e2
  all_goals first | rfl | decide
end
section
theorem quiet20 : True := by
  w_top off
  exact True.intro
set_option maxRecDepth 100000 in
set_option maxHeartbeats 8000000 in
theorem count_ok {w : World} {A : Around} {s : Shared} {h₀ : Heap} {L : Addr} {m : Str → Option Value} {news O : List (Addr × Obj)} {d : Addr} {rows tags : Rows} {Q : Value → Shared → Prop} {E : Value → Shared → Prop}
    (C : Ctx w A 2 h₀) (F : Fr h₀ L s.heap m) (N : News h₀ L s.heap news) (hO : ∀ p ∈ O, p ∈ news) (hD : DfaIn w.params O d rows tags) (hW : Wf rows)
    (hQ : ∀ t h' tk, Fr h₀ L h' m → News h₀ L h' news → Q (.int (rows.length : Int) t) { s with heap := h', toks := tk }) :
    wpAny (model PySem.Challenge.rw_pq0568_01.prog w) A (call (.ref 56) [.ref d]) Q E s := by
  have X := C.X
  revert X
  k_fill
  intro X
  refine' call_O (O := O) (fun v O' => O' = [] ∧ ∃ t, v = .int (rows.length : Int) t) C F N hO ?ho ?hcd ?hb ?hl ?h ?hQ ?_ ?_ ?_ ?_
  case ho => k_is
  case hcd => k_is
  case hb => exact BindsTo.of_eq rfl
  case hl => exact locs rfl
  case h =>
    intro g L' h₁ tk C' F' N'
    obtain ⟨hh, hd, hu, X', T'⟩ := C'
    obtain ⟨p', l, me, mg, mb, T'⟩ := T'
    obtain ⟨dx, ra, ta, u1, u2, hd1, hd2, hR, hT⟩ := hD
    have hW2 := hW.2.1
    k_unmd
    k_fold
    walk_at "m go"
    exact ⟨_, _, [], _, _, rfl, by k_asm, by k_asm, rfl, _, rfl⟩
  case hQ =>
    rintro v O' h' tk F' N' kp ⟨rfl, t, rfl⟩
    exact hQ t h' tk F' N'
  all_goals first | rfl | decide

def backsF (rows tags : Rows) (bs : List Bool) (n : Nat) : List Int :=
  ((List.range n).map fun (i : Nat) => (1 : Int) + (i : Int)).filter fun i => bs.getD i.toNat false && (decide (¬ 0 < (rowOf tags i).length) && decide (-1 ∈ rowOf rows i))
theorem backsF_succ {rows tags : Rows} {bs : List Bool} {n : Nat} : backsF rows tags bs (n + 1) = backsF rows tags bs n ++ (if (bs.getD (1 + (n : Int)).toNat false && (decide (¬ 0 < (rowOf tags (1 + (n : Int))).length) && decide (-1 ∈ rowOf rows (1 + (n : Int))))) = true then [1 + (n : Int)] else []) := by
  unfold backsF
  rw [List.range_succ, List.map_append, List.filter_append, List.map_singleton]
  congr 1
  rw [List.filter_cons, List.filter_nil]

set_option maxRecDepth 100000 in
set_option maxHeartbeats 8000000 in
theorem backs_ok {w : World} {A : Around} {s : Shared} {h₀ : Heap} {L : Addr} {m : Str → Option Value} {news O : List (Addr × Obj)} {d : Addr} {rows tags : Rows} {Q : Value → Shared → Prop} {E : Value → Shared → Prop}
    (C : Ctx w A 6 h₀) (F : Fr h₀ L s.heap m) (N : News h₀ L s.heap news) (hO : ∀ p ∈ O, p ∈ news) (hD : DfaIn w.params O d rows tags) (hW : Wf rows) (hTl : tags.length = rows.length) (hSh : Short tags)
    (hQ : ∀ D vs bs c h' tk, Fr h₀ L h' m → News h₀ L h' ((D, W.listOf vs.toArray c) :: news) → IntsAre vs (backsF rows tags bs (rows.length - 1)) → bs.length = rows.length → (∀ i : Int, 0 ≤ i → (on bs i ↔ Reach (linksOf rows) i)) → Q (.ref D) { s with heap := h', toks := tk }) :
    wpAny (model PySem.Challenge.rw_pq0568_01.prog w) A (call (.ref 116) [.ref d]) Q E s := by
  have X := C.X
  revert X
  k_fill
  intro X
  refine' call_OC (O := O) (fun v O' => ∃ D vs bs c, v = .ref D ∧ O' = [(D, W.listOf vs.toArray c)] ∧ IntsAre vs (backsF rows tags bs (rows.length - 1)) ∧ bs.length = rows.length ∧ ∀ i : Int, 0 ≤ i → (on bs i ↔ Reach (linksOf rows) i)) C F N hO ?ho ?hcd ?hb ?hl ?hd ?h ?hQ ?_ ?_ ?_
  case ho => k_is
  case hcd => k_is
  case hb => exact BindsTo.of_eq rfl
  case hl => exact rfl
  case hd => decide +kernel
  case h =>
    intro g L' h₁ tk cells C' F' N' Y' l1
    have C2 := C'
    obtain ⟨hh, hd, hu, X', T'⟩ := C'
    obtain ⟨p', l, me, mg, mb, T'⟩ := T'
    have hD' := hD
    obtain ⟨dx, ra, ta, u1, u2, hd1, hd2, hR, hT⟩ := hD'
    have hY := CellsAre.two Y'
    obtain ⟨oA, oB, hE', dA, dB⟩ := hY
    subst hE'
    clear Y'
    simp only [List.cons_append, List.nil_append] at N'
    k_unmd
    k_fold
    walk_at "m goC"
    have hOO : OwnOff O [L' + 1 + 1, L' + 1] := fun p hp b hb => by
      have := l1 p hp
      rcases List.mem_cons.mp hb with rfl | hb
      · exact Nat.ne_of_lt (Nat.lt_succ_of_lt (Nat.lt_succ_of_lt this))
      · rw [List.mem_singleton.mp hb]; exact Nat.ne_of_lt (Nat.lt_succ_of_lt this)
    refine reach_ok (O := O) (Ctx.le C2 (by decide)) (by k_asm) (by k_asm) (by walk_at "m sub") hD hW ?_
    intro sn bs c h' tk' F' N' hbl hbs
    have hnA : @Ne Nat sn (L' + 1 + 1) := ne_by N' (by k_mem) (by k_mem) (by rw [dA]; exact fun h => nomatch h)
    have hnB : @Ne Nat sn (L' + 1) := ne_by N' (by k_mem) (by k_mem) (by rw [dB]; exact fun h => nomatch h)
    dsimp only
    walk_at "m goC"
    rename_i hA oC FA NA dC
    refine count_ok (O := O) (Ctx.le C2 (by decide)) (by k_asm) (by k_asm) (by walk_at "m sub") hD hW ?_
    intro t1 h' tk' F' N'
    dsimp only
    walk_at "m goC"
    rename_i hB tB u1' u2' u3' hRg FB NB
    have hW1 := hW.1
    have hW2 := hW.2.1
    have hn1 : ((rows.length : Int) - 1).toNat = rows.length - 1 := by omega
    refine LCt.CompSrcT.range hh FB NB hRg (small_one (by omega) (by omega) (by omega) (by omega)) (rangeSize_nat _ _) (by rw [sizeLine_eq]; omega) ?_
    intro g10
    rw [hn1]
    refine comp_T (fun i ys nw => nw = (sn, W.listOf (bs.map Value.bool).toArray c) :: (L' + 1 + 1, oC) :: (L' + 1, oB) :: O ∧ IntsAre ys (backsF rows tags bs i)) ⟨rfl, .nil⟩ ?_ ?_
    · rintro i ys nw v I oI C oC' D m₂ h tk E' hi ⟨rfl, hys⟩ hP hC hx F' N' off ne
      obtain ⟨tv, rfl⟩ := hP
      have hbf := backsF_succ (rows := rows) (tags := tags) (bs := bs) (n := i)
      dsimp only
      k_unmd
      k_fold
      walk_at "m goC"
      · have hf : (bs.getD (1 + (i : Int)).toNat false && (decide (¬ 0 < (rowOf tags (1 + (i : Int))).length) && decide (-1 ∈ rowOf rows (1 + (i : Int))))) = false := by
          have h5 : 0 < (rowOf tags (1 + (i : Int))).length := by assumption
          simp [h5]
        refine LCg.CompEnd.intro (by k_asm) (by k_asm) _ mem_self off True.intro ⟨rfl, ?_⟩
        rw [hbf, hf, if_neg (by decide), List.append_nil]
        exact hys
      · have hf : (bs.getD (1 + (i : Int)).toNat false && (decide (¬ 0 < (rowOf tags (1 + (i : Int))).length) && decide (-1 ∈ rowOf rows (1 + (i : Int))))) = true := by
          have h5 : ¬ 0 < (rowOf tags (1 + (i : Int))).length := by assumption
          have h6 : -1 ∈ rowOf rows (1 + (i : Int)) := by assumption
          have h7 : bs.getD (1 + (i : Int)).toNat false = true := by assumption
          simp only [h5, h6, h7, decide_true, not_false_eq_true, Bool.and_self]
        refine LCg.CompEnd.intro (by k_asm) (by k_asm) _ mem_self off True.intro ⟨rfl, ?_⟩
        rw [hbf, hf, if_pos rfl]
        exact IntsAre.append hys (.cons _ tv .nil)
      · have hf : (bs.getD (1 + (i : Int)).toNat false && (decide (¬ 0 < (rowOf tags (1 + (i : Int))).length) && decide (-1 ∈ rowOf rows (1 + (i : Int))))) = false := by
          have h6 : ¬ -1 ∈ rowOf rows (1 + (i : Int)) := by assumption
          simp only [h6, decide_false, Bool.and_false]
        refine LCg.CompEnd.intro (by k_asm) (by k_asm) _ mem_self off True.intro ⟨rfl, ?_⟩
        rw [hbf, hf, if_neg (by decide), List.append_nil]
        exact hys
      · have hf : (bs.getD (1 + (i : Int)).toNat false && (decide (¬ 0 < (rowOf tags (1 + (i : Int))).length) && decide (-1 ∈ rowOf rows (1 + (i : Int))))) = false := by
          have h7 : bs.getD (1 + (i : Int)).toNat false = false := by assumption
          simp only [h7, Bool.false_and]
        refine LCg.CompEnd.intro (by k_asm) (by k_asm) _ mem_self off True.intro ⟨rfl, ?_⟩
        rw [hbf, hf, if_neg (by decide), List.append_nil]
        exact hys
    · rintro ys nw ⟨rfl, hys⟩
      intro D h4 tk4 F4 N4 o4
      exact ⟨_, _, [(D, _)], _, _, rfl, F4, News.sub N4 (fun p hp => by
        rcases List.mem_cons.mp hp with h | h
        · rw [h]; exact List.mem_cons_self
        · exact List.mem_cons_of_mem _ (List.mem_cons_of_mem _ (List.mem_cons_of_mem _ (List.mem_cons_of_mem _ h)))), D, ys, bs, _, rfl, rfl, hys, hbl, hbs⟩
  case hQ =>
    rintro v O' h' tk F' N' kp ⟨D, vs, bs, c, rfl, rfl, e1, e2, e3⟩
    exact hQ D vs bs c h' tk F' N' e1 e2 e3
  all_goals first | rfl | decide
end
section
theorem quiet21 : True := by
  w_top off
  exact True.intro
def TupsIn (O : List (Addr × Obj)) (a : Addr) (rows : Rows) : Prop :=
  ∃ (as : List Addr) (c : Nat), (a, tupO (as.map Value.ref) c) ∈ O ∧ as.length = rows.length ∧ ∀ (i : Nat) (b : Addr) (r : List Int), as[i]? = some b → rows[i]? = some r → TupIn O b r
def ToldIn (O : List (Addr × Obj)) (a : Addr) (rows tags : Rows) : Prop := ∃ x y c, (a, tupO [.ref x, .ref y] c) ∈ O ∧ TupsIn O x rows ∧ TupsIn O y tags
theorem TupsIn.mono {O O' : List (Addr × Obj)} {a : Addr} {rows : Rows} (h : TupsIn O a rows) (k : ∀ p ∈ O, p ∈ O') : TupsIn O' a rows :=
  let ⟨as, c, x, y, z⟩ := h; ⟨as, c, k _ x, y, fun i b r e1 e2 => (z i b r e1 e2).mono k⟩
theorem ToldIn.mono {O O' : List (Addr × Obj)} {a : Addr} {rows tags : Rows} (h : ToldIn O a rows tags) (k : ∀ p ∈ O, p ∈ O') : ToldIn O' a rows tags :=
  let ⟨x, y, c, e, f, g⟩ := h; ⟨x, y, c, k _ e, f.mono k, g.mono k⟩
def rowD (r : List Int) : PyData := .tuple (r.map PyData.int)
def toldD (rows tags : Rows) : PyData := .tuple [.tuple (rows.map rowD), .tuple (tags.map rowD)]
theorem readsAll_ints {h : Heap} {vs : List Value} {ns : List Int} (H : IntsAre vs ns) : ReadsAll h vs (ns.map PyData.int) [] := by
  induction H with
  | nil => exact .nil
  | cons n t _ ih => exact .cons (bs := []) (.int n t) ih
theorem TupIn.reads {h₀ h : Heap} {L : Addr} {O : List (Addr × Obj)} {b : Addr} {r : List Int} (N : News h₀ L h O) (H : TupIn O b r) : Reads h (.ref b) (rowD r) [] := by
  obtain ⟨vs, c, hm, hv⟩ := H
  exact .tuple (News.get N hm) rfl rfl (readsAll_ints hv)
theorem readsAll_tups {h₀ h : Heap} {L : Addr} {O : List (Addr × Obj)} (N : News h₀ L h O) : ∀ (as : List Addr) (rows : Rows), as.length = rows.length → (∀ (i : Nat) (b : Addr) (r : List Int), as[i]? = some b → rows[i]? = some r → TupIn O b r) → ReadsAll h (as.map Value.ref) (rows.map rowD) []
  | [], [], _, _ => .nil
  | [], _ :: _, e, _ => nomatch e
  | _ :: _, [], e, _ => nomatch e
  | a :: as, r :: rows, e, H => .cons (bs := []) (TupIn.reads N (H 0 a r rfl rfl)) (readsAll_tups N as rows (by simpa using e) fun i b r h1 h2 => H (i + 1) b r (by simpa using h1) (by simpa using h2))
theorem TupsIn.reads {h₀ h : Heap} {L : Addr} {O : List (Addr × Obj)} {b : Addr} {rows : Rows} (N : News h₀ L h O) (H : TupsIn O b rows) : Reads h (.ref b) (.tuple (rows.map rowD)) [] := by
  obtain ⟨as, c, hm, hl, hz⟩ := H
  exact .tuple (News.get N hm) rfl rfl (readsAll_tups N as rows hl hz)
theorem ToldIn.reads {h₀ h : Heap} {L : Addr} {O : List (Addr × Obj)} {b : Addr} {rows tags : Rows} (N : News h₀ L h O) (H : ToldIn O b rows tags) : Reads h (.ref b) (toldD rows tags) [] := by
  obtain ⟨x, y, c, hm, h1, h2⟩ := H
  exact .tuple (News.get N hm) rfl rfl (.cons (bs := []) (TupsIn.reads N h1) (.cons (bs := []) (TupsIn.reads N h2) .nil))
theorem canLay_rowD : ∀ rows : Rows, PyData.canLayAll0 (rows.map rowD) = true
  | [] => rfl
  | r :: rows => by rw [List.map_cons, PyData.canLayAll0, canLay_rowD rows, rowD, PyData.canLay0, ke_canLayAll0]; rfl
theorem depth_rowD : ∀ rows : Rows, PyData.depthAll (rows.map rowD) ≤ 1
  | [] => Nat.zero_le _
  | r :: rows => by
    have := depth_rowD rows
    rw [List.map_cons, PyData.depthAll, rowD, PyData.depth, ke_depthAll]
    omega
theorem canLay_toldD (rows tags : Rows) : (toldD rows tags).canLay0 = true := by
  simp only [toldD, PyData.canLay0, PyData.canLayAll0, canLay_rowD, Bool.and_self]
theorem shaped_toldD (rows tags : Rows) : PySem.SeqAt.shaped (toldD rows tags) = true := by
  have h1 := depth_rowD rows
  have h2 := depth_rowD tags
  have h3 : (toldD rows tags).depth ≤ 64 := by
    simp only [toldD, PyData.depth, PyData.depthAll]
    omega
  simp only [PySem.SeqAt.shaped, canLay_toldD, h3, decide_true, Bool.and_self]
theorem told_ne {prog : Program} {w : World} {A : Around} {E : Value → Shared → Prop} {s : Shared} {h₀ : Heap} {L : Addr} {news O : List (Addr × Obj)} {a b : Addr} {rows tags : Rows} {Q : Value → Shared → Prop} (N : News h₀ L s.heap news) (hO : ∀ p ∈ O, p ∈ news)
    (h1 : ToldIn O a rows tags) (h2 : ToldIn O b rows tags) (hu : A.units + 64 < cLine) (h : Q (.bool false) s) : wpAny (model prog w) A (compareOp .NotEq (.ref a) (.ref b)) Q E s := by
  have N0 := News.sub N hO
  refine ne_dataH (h1.reads N0) (h2.reads N0) (shaped_toldD _ _) (shaped_toldD _ _) hu ?_
  rw [PySem.SeqAt.eqv_refl _ (canLay_toldD _ _)]
  exact h
local macro_rules | `(tactic| walk_at "call type:tuple") => `(tactic| (k_here; (with_reducible show wpAny _ _ (call (Value.type _) [Value.ref _]) _ _ _); k_dflt (refine' kde_tupleOf ?k1 ?k2 ?k3 ?k4 ?k5 ?_; (case k1 => k_asm); (case k2 => k_asm); (case k3 => exact News.isList (by k_asm) (by k_mem)); (case k4 => (simp only [List.size_toArray, List.length_map]; omega)); (case k5 => exact List.toList_toArray); k_whole); intro D' h' F' N' l1; (try k_lt l1); (try k_sweep)))

set_option maxRecDepth 100000 in
set_option maxHeartbeats 8000000 in
theorem told_ok {w : World} {A : Around} {s : Shared} {h₀ : Heap} {L : Addr} {m : Str → Option Value} {news O : List (Addr × Obj)} {d : Addr} {rows tags : Rows} {Q : Value → Shared → Prop} {E : Value → Shared → Prop}
    (C : Ctx w A 2 h₀) (F : Fr h₀ L s.heap m) (N : News h₀ L s.heap news) (hO : ∀ p ∈ O, p ∈ news) (hD : DfaIn w.params O d rows tags) (hW : Wf rows) (hTl : tags.length ≤ 8) (hRl : ∀ r ∈ rows, r.length = 2)
    (hQ : ∀ a T h' tk, Fr h₀ L h' m → News h₀ L h' (T ++ news) → ToldIn (T ++ O) a rows tags → Q (.ref a) { s with heap := h', toks := tk }) :
    wpAny (model PySem.Challenge.rw_pq0568_01.prog w) A (call (.ref 73) [.ref d]) Q E s := by
  have X := C.X
  revert X
  k_fill
  intro X
  refine' call_O (O := O) (fun v O' => ∃ a, v = .ref a ∧ ToldIn (O' ++ O) a rows tags) C F N hO ?ho ?hcd ?hb ?hl ?h ?hQ ?_ ?_ ?_ ?_
  case ho => k_is
  case hcd => k_is
  case hb => exact BindsTo.of_eq rfl
  case hl => exact locs rfl
  case h =>
    intro g L' h₁ tk C' F' N'
    have C2 := C'
    obtain ⟨hh, hd, hu, X', T'⟩ := C'
    obtain ⟨p', l, me, mg, mb, T'⟩ := T'
    have hD' := hD
    obtain ⟨dx, ra, ta, u1, u2, hd1, hd2, hR, hT⟩ := hD'
    have hW1 := hW.1
    have hW2 := hW.2.1
    obtain ⟨as, c, hm, hl, hz⟩ := hR
    obtain ⟨ts, ct, hm2, hl2, hz2⟩ := hT
    k_unmd
    k_fold
    walk_at "m goC"
    refine LCg.CompSrc.ledger hh (by k_asm) (by k_asm) hm (by walk_at "m size") ?_
    intro g9
    refine comp_U (fun i ys nw => ∃ bs T, ys = bs.map Value.ref ∧ nw = T ++ O ∧ bs.length = i ∧ ∀ (j : Nat) (b : Addr) (r : List Int), bs[j]? = some b → rows[j]? = some r → TupIn T b r) ⟨[], [], rfl, rfl, rfl, by simp⟩ ?_ ?_
    · rintro i ys nw v I oI C oC D m₂ h tk E' hi ⟨bs, T, rfl, rfl, hbl, hbs⟩ hP hC hx F' N' off ne
      have hil : i < rows.length := by rw [List.size_toArray, List.length_map, hl] at hi; exact hi
      have e1 : as[i]? = some as[i] := by simp [hl, hil]
      have hv : v = .ref as[i] := by simpa [hl, hil] using hP.symm
      subst hv
      have hrow := hz i as[i] rows[i] e1 (by simp [hil])
      have hr2 : rows[i].length = 2 := hRl _ (List.getElem_mem hil)
      obtain ⟨vs, cc, hm2, hv⟩ := hrow
      have hvl := hv.length
      dsimp only
      k_unmd
      k_fold
      walk_at "m goC"
      rename_i D' h' F4 N4 l1
      refine LCg.CompEnd.intro F4 N4 ((D', { cls := Value.type "tuple", data := Data.seq vs.toArray }) :: (T ++ O)) (fun p hp => ?_) (LCg.Off3.of fun p hp => ?_) (.inr ⟨_, List.mem_cons_of_mem _ (List.mem_append_right _ hm), rfl, _, rfl⟩)
          ⟨bs ++ [D'], (D', { cls := Value.type "tuple", data := Data.seq vs.toArray }) :: T, by simp, rfl, by simp [hbl], ?_⟩
      · simp only [List.mem_cons] at hp ⊢
        rcases hp with h | h | h | h | h
        · exact .inr (.inl h)
        · exact .inr (.inr (.inl h))
        · exact .inr (.inr (.inr (.inl h)))
        · exact .inl h
        · exact .inr (.inr (.inr (.inr h)))
      · rcases List.mem_cons.mp hp with h | h
        · rw [h]
          exact ⟨Ne.symm (Nat.ne_of_lt l1.1), Ne.symm (Nat.ne_of_lt l1.2.1), Ne.symm (Nat.ne_of_lt l1.2.2.1)⟩
        · exact LCg.Off3.mem off p h
      · intro j b r h1 h2
        rcases Nat.lt_trichotomy j bs.length with q | q | q
        · rw [List.getElem?_append_left q] at h1
          exact (hbs j b r h1 h2).mono fun p hp => List.mem_cons_of_mem _ hp
        · subst q
          have e9 : D' = b := by simpa using h1
          have e8 : r = rows[i] := by
            rw [hbl] at h2
            simpa [hil] using h2.symm
          subst e9 e8
          exact ⟨vs, _, List.mem_cons_self, hv⟩
        · rw [List.getElem?_eq_none (by simp; omega)] at h1; cases h1
    · rintro ys nw ⟨bs, T, rfl, rfl, hbl, hbs⟩
      intro D2 h4 tk4 F4 N4 o4
      rw [List.size_toArray, List.length_map, hl] at hbl
      dsimp only
      walk_at "m goC"
      rename_i Da ha la Db hb lb Dc hc Fc Nc lc
      refine ⟨_, _, (Dc, _) :: (Db, _) :: (Da, _) :: (D2, _) :: T, _, _, rfl, Fc, Nc, Dc, rfl, Da, Db, _, List.mem_cons_self, ⟨bs, _, List.mem_cons_of_mem _ (List.mem_cons_of_mem _ List.mem_cons_self), hbl, fun j b r h1 h2 => (hbs j b r h1 h2).mono fun p hp => ?_⟩, ⟨ts, _, List.mem_cons_of_mem _ List.mem_cons_self, hl2, fun j b r h1 h2 => (hz2 j b r h1 h2).mono fun p hp => List.mem_append_right _ hp⟩⟩
      exact List.mem_append_left _ (List.mem_cons_of_mem _ (List.mem_cons_of_mem _ (List.mem_cons_of_mem _ (List.mem_cons_of_mem _ hp))))
  case hQ =>
    rintro v O' h' tk F' N' kp ⟨a, rfl, e1⟩
    exact hQ a O' h' tk F' N' e1
  all_goals first | rfl | decide
end
section
theorem quiet22 : True := by
  w_top off
  exact True.intro
set_option maxRecDepth 100000 in
set_option maxHeartbeats 8000000 in
theorem seg1 {w : World} {A : Around} {s : Shared} {h₀ : Heap} {L fa : Addr} {cd : Value} {m : Str → Option Value} {sl : Addr} {vs : List Value} {ns : List Int} {o1 o2 o3 o4 o5 : Obj} {Q : Flow → Shared → Prop} {E : Value → Shared → Prop}
    (C : Ctx w (A.deeper (lawE L fa cd)) 8 h₀) (F : Fr h₀ L s.heap m) (hm : m (Str.ofString "script") = some (.ref sl)) (N : News h₀ L s.heap [(L + 1 + 1 + 1 + 1 + 1, o5), (L + 1 + 1 + 1 + 1, o4), (L + 1 + 1 + 1, o3), (L + 1 + 1, o2), (L + 1, o1)])
    (d1 : o1.data = .cell none) (d2 : o2.data = .cell none) (d3 : o3.data = .cell none) (d4 : o4.data = .cell none) (d5 : o5.data = .cell none)
    (hL : h₀.IsList sl vs.toArray) (hI : IntsAre vs ns) (hlen : ns.length ≤ 63)
    (K : ∀ pen inner p tp q tq np pv k o1' o2' n t h' tk, Fr h₀ L h' m → News h₀ L h' (led L o1' o2' o3 o4 o5 pen inner p tp q tq np pv k []) → PenOk L pen inner p q pv 1 [] →
      o1'.data = .cell (some (.ref pen)) → o2'.data = .cell (some (.int n t)) → 1 ≤ n → n ≤ 4 →
      wpAny (model PySem.Challenge.rw_pq0568_01.prog w) (A.deeper (lawE L fa cd)) (execs (lawFD.body.drop 2) (lawE L fa cd)) Q E { s with heap := h', toks := tk }) :
    wpAny (model PySem.Challenge.rw_pq0568_01.prog w) (A.deeper (lawE L fa cd)) (execs lawFD.body (lawE L fa cd)) Q E s := by
  have C2 := C
  have X0 := C.X
  revert X0
  k_fill
  intro X0
  obtain ⟨hh, hd, hu, X, T⟩ := C
  obtain ⟨p', l, me, mg, mb, T⟩ := T
  dsimp only [lawE, lawFD]
  k_unmd
  try k_fold
  walk_at "m goR"
  rename_i D1 ws h1 F1 N1 hw hwl l1
  generalize hnm : List.take (Int.toNat 40) ns = nm at hw hwl
  have hn40 : nm.length ≤ 40 := by rw [← hnm, List.length_take]; exact Nat.min_le_left _ _
  have hwn := hw.length
  refine LCg.CompSrc.ledger hh F1 N1 List.mem_cons_self (by walk_at "m size") ?_
  intro g1
  refine comp_U (fun i ys nw => nw = [(D1, W.listOf ws.toArray 0), (L + 1 + 1 + 1 + 1 + 1, o5), (L + 1 + 1 + 1 + 1, o4), (L + 1 + 1 + 1, o3), (L + 1 + 1, o2), (L + 1, o1)] ∧ IntsAre ys (nm.take i)) ⟨rfl, .nil⟩ ?_ ?_
  · rintro i ys nw v I oI Cx oC D m₂ h tk E' hi ⟨rfl, hys⟩ hP hC hx F' N' off ne
    obtain ⟨k, t, rfl, hk⟩ := hw.at i v (by simpa using hP)
    dsimp only
    k_unmd
    try k_fold
    walk_at "m goC"
    refine LCg.CompEnd.intro (by k_asm) (by k_asm) _ mem_self off (by lcg_src) ⟨rfl, ?_⟩
    rw [List.take_add_one, hk]
    exact IntsAre.append hys (.cons k t .nil)
  · rintro ys nw ⟨rfl, hys⟩
    intro Di h4 tk4 F4 N4 o4'
    rw [List.size_toArray, hwn, List.take_length] at hys
    simp only [LCg.Off1, and_true] at o4'
    walk_at "m goR"
    walk_at "m goR"
    walk_at "m goR"
    rename_i x1 x2 x3 inner pv x4 hpv x5 pen x6 x8 hh9 o1' F9 N9 d9
    have hpl := hpv.length
    rw [List.length_append] at hpl
    simp only [List.length_cons, List.length_nil] at hpl
    refine draw_ok (ns := nm ++ [16, 3]) (vs := pv) (Ctx.le C2 (by decide)) F9 N9 (by k_mem) (by k_mem) hpv (by simp) (by omega) (by omega) (by omega) (by omega) (by omega) (Ne.symm (Nat.ne_of_lt x8.1)) (by omega) ?_
    intro d td p2 tp2 q2 tq2 n2 h' tk' hd0 hd4 hp0 hp1 hq0 F' N' kp
    have N2 : News h₀ L h' (led L o1' o2 o3 o4 o5 pen inner p2 tp2 q2 tq2 n2 pv 0 []) := redraw (R := [(L + 1 + 1 + 1 + 1 + 1, o5), (L + 1 + 1 + 1 + 1, o4), (L + 1 + 1 + 1, o3), (L + 1 + 1, o2), (L + 1, o1')]) (R2 := [])
      (o := W.listOf #[Value.ref inner, Value.int 0 (tk4 + 1 + 1), Value.int 0 (tk4 + 1 + 1 + 1)] 0) (News.sub N9 (by walk_at "m all")) N' kp (by walk_at "m off") (fun x hx => nomatch hx)
    have hP : PenOk L pen inner p2 q2 pv 1 [] := ⟨⟨_, hpv, by simp⟩, by omega, hp0, by omega, hq0, Ne.symm (Nat.ne_of_lt x8.1), ⟨x8.2.2.2.2.1, x5.2.2.2.1⟩, fun x hx => nomatch hx⟩
    clear x1 x2 x3 x4 x5 x6 x8 N9 F9 N' kp
    dsimp only
    unfold led at N2
    walk_at "m goR"
    rename_i hX oX FX NX dX
    exact K _ _ _ _ _ _ _ _ _ _ _ _ _ _ _ FX NX hP d9 dX (by omega) (by omega)
end
section
theorem quiet23 : True := by
  w_top off
  exact True.intro
def RowsOk (T : List (Addr × Obj)) (bs : List Addr) (rows : Rows) (n : Int) : Prop :=
  rows.length = bs.length ∧ (∀ (j : Nat) (b : Addr) (r : List Int), bs[j]? = some b → rows[j]? = some r → RowIn T b r) ∧ ∀ r ∈ rows, r.length = 2 ∧ ∀ x ∈ r, -1 ≤ x ∧ x < n
theorem RowsOk.snoc {T : List (Addr × Obj)} {bs : List Addr} {rows : Rows} {n : Int} {D : Addr} {o : Obj} {r : List Int} (h : RowsOk T bs rows n) (hr : RowIn ((D, o) :: T) D r) (h2 : r.length = 2) (hx : ∀ x ∈ r, -1 ≤ x ∧ x < n) : RowsOk ((D, o) :: T) (bs ++ [D]) (rows ++ [r]) n := by
  obtain ⟨a, b, c⟩ := h
  refine ⟨by simp [a], fun j b' r' h1 h2' => ?_, fun r' hr' => ?_⟩
  · rcases Nat.lt_trichotomy j bs.length with q | q | q
    · rw [List.getElem?_append_left q] at h1
      rw [List.getElem?_append_left (by omega)] at h2'
      exact (b j b' r' h1 h2').mono fun p hp => List.mem_cons_of_mem _ hp
    · subst q
      have e9 : D = b' := by simpa using h1
      have e8 : r = r' := by simpa [← a] using h2'
      subst e9 e8
      exact hr
    · rw [List.getElem?_eq_none (by simp; omega)] at h1; cases h1
  · rcases List.mem_append.mp hr' with h | h
    · exact c r' h
    · rw [List.mem_singleton.mp h]; exact ⟨h2, hx⟩
set_option maxRecDepth 100000 in
set_option maxHeartbeats 8000000 in
theorem seg2 {w : World} {A : Around} {s : Shared} {h₀ : Heap} {L fa : Addr} {cd : Value} {m : Str → Option Value} {o1 o2 o3 o4 o5 : Obj} {pen inner : Addr} {p q n : Int} {tp tq t : Tok} {np k : Nat} {pv : List Value} {Q : Flow → Shared → Prop} {E : Value → Shared → Prop}
    (C : Ctx w (A.deeper (lawE L fa cd)) 8 h₀) (F : Fr h₀ L s.heap m) (N : News h₀ L s.heap (led L o1 o2 o3 o4 o5 pen inner p tp q tq np pv k [])) (hP : PenOk L pen inner p q pv 1 [])
    (d1 : o1.data = .cell (some (.ref pen))) (d2 : o2.data = .cell (some (.int n t))) (d3 : o3.data = .cell none) (hn1 : 1 ≤ n) (hn4 : n ≤ 4)
    (K : ∀ p tp q tq np o3' ra rows O h' tk, Fr h₀ L h' m → News h₀ L h' (led L o1 o2 o3' o4 o5 pen inner p tp q tq np pv k O) → PenOk L pen inner p q pv 9 O →
      o3'.data = .cell (some (.ref ra)) → RowsIn O ra rows → rows.length = n → (∀ r ∈ rows, r.length = 2 ∧ ∀ x ∈ r, -1 ≤ x ∧ x < n) →
      wpAny (model PySem.Challenge.rw_pq0568_01.prog w) (A.deeper (lawE L fa cd)) (execs (lawFD.body.drop 3) (lawE L fa cd)) Q E { s with heap := h', toks := tk }) :
    wpAny (model PySem.Challenge.rw_pq0568_01.prog w) (A.deeper (lawE L fa cd)) (execs (lawFD.body.drop 2) (lawE L fa cd)) Q E s := by
  have C2 := C
  have X0 := C.X
  revert X0
  k_fill
  intro X0
  obtain ⟨hh, hd, hu, X, T⟩ := C
  obtain ⟨p', l, me, mg, mb, T⟩ := T
  dsimp only [lawE, lawFD, List.drop_succ_cons, List.drop_zero]
  unfold led at N
  k_unmd
  try k_fold
  walk_at "m goR"
  rename_i hB tB u1' u2' u3' hRg FB NB
  refine LCg.CompSrc.range hh FB NB hRg (small_one (by omega) (by omega) (by omega) (by omega)) (rangeSize_nat _ _) (by rw [sizeLine_eq]; omega) ?_
  intro g1
  have hnn : (n - 0).toNat = n.toNat := by omega
  rw [hnn]
  refine comp_U (fun i ys nw => ∃ bs T p' tp' q' tq' np' rows, ys = bs.map Value.ref ∧ nw = led L o1 o2 o3 o4 o5 pen inner p' tp' q' tq' np' pv k T ∧ PenOk L pen inner p' q' pv (1 + 2 * i) T ∧ bs.length = i ∧ RowsOk T bs rows n)
    ⟨[], [], p, tp, q, tq, np, [], rfl, rfl, hP, rfl, rfl, by simp, by simp⟩ ?_ ?_
  · rintro i ys nw v I oI Cx oC D m₂ h tk E' hi ⟨bs, T2, p2, tp2, q2, tq2, np2, rows, rfl, rfl, hP2, hbl, hro⟩ hPv hC hx F' N' off ne
    obtain ⟨tv, rfl⟩ := hPv
    dsimp only
    unfold led at N'
    k_unmd
    try k_fold
    walk_at "m goC"
    rename_i hB2 tB2 v1' v2' v3' hRg2 FB2 NB2
    refine LCg.CompSrc.range hh FB2 NB2 hRg2 (small_one (by omega) (by omega) (by omega) (by omega)) (rangeSize_nat _ _) (by rw [sizeLine_eq]; omega) ?_
    intro g2
    refine comp_U (fun i2 ys2 nw2 => ∃ p' tp' q' tq' np' r, nw2 = (I, oI) :: (Cx, oC) :: (D, LCg.lst (bs.map Value.ref)) :: led L o1 o2 o3 o4 o5 pen inner p' tp' q' tq' np' pv k T2 ∧ PenOk L pen inner p' q' pv (1 + 2 * i + i2) T2 ∧ IntsAre ys2 r ∧ r.length = i2 ∧ ∀ x ∈ r, -1 ≤ x ∧ x < n)
      ⟨p2, tp2, q2, tq2, np2, [], rfl, hP2, .nil, rfl, by simp⟩ ?_ ?_
    · rintro i2 ys2 nw2 v2 I2 oI2 C2x oC2 D2 m3 h3 tk3 E3 hi2 ⟨p3, tp3, q3, tq3, np3, r, rfl, hP3, hys, hrl, hrx⟩ hPv2 hC2 hx2 F2 N2 off2 ne2
      dsimp only
      unfold led at N2
      k_unmd
      try k_fold
      walk_at "m goC"
      have a2 := LCg.Off3.mem off2 (pen, penObj inner p3 tp3 q3 tq3 np3) (by k_mem)
      have b2 := LCg.Off3.mem off2 (inner, W.listOf pv.toArray k) (by k_mem)
      have a1 := LCg.Off3.mem off (pen, penObj inner p2 tp2 q2 tq2 np2) (by k_mem)
      have b1 := LCg.Off3.mem off (inner, W.listOf pv.toArray k) (by k_mem)
      have hi2' : i2 < 2 := hi2
      have hR2 : ∀ x ∈ [(I2, oI2), (C2x, oC2), (D2, LCg.lst ys2), (I, oI), (Cx, oC), (D, LCg.lst (bs.map Value.ref))], @Ne Nat x.1 pen ∧ @Ne Nat x.1 inner := by
        intro x hx
        simp only [List.mem_cons, List.not_mem_nil, or_false] at hx
        rcases hx with rfl | rfl | rfl | rfl | rfl | rfl
        · exact ⟨Ne.symm a2.1, Ne.symm b2.1⟩
        · exact ⟨Ne.symm a2.2.1, Ne.symm b2.2.1⟩
        · exact ⟨Ne.symm a2.2.2, Ne.symm b2.2.2⟩
        · exact ⟨Ne.symm a1.1, Ne.symm b1.1⟩
        · exact ⟨Ne.symm a1.2.1, Ne.symm b1.2.1⟩
        · exact ⟨Ne.symm a1.2.2, Ne.symm b1.2.2⟩
      refine law_draw (R := [(I2, oI2), (C2x, oC2), (D2, LCg.lst ys2), (I, oI), (Cx, oC), (D, LCg.lst (bs.map Value.ref))]) (tp := tp3) (tq := tq3) (np := np3) (Ctx.le C2 (by decide)) F2 N2 (fun x hx => hx) hP3 (nat_a hn4 hi hi2) hR2 (by omega) (by omega) ?_
      intro d td p4 tp4 q4 tq4 np4 h' tk' hd0 hd1 hP4 F' N'
      dsimp only
      walk_at "m goC"
      refine LCg.CompEnd.intro (by k_asm) (by k_asm) ((I, oI) :: (Cx, oC) :: (D, LCg.lst (bs.map Value.ref)) :: led L o1 o2 o3 o4 o5 pen inner p4 tp4 q4 tq4 np4 pv k T2) (fun x hx => hx) (off3_addr (by rfl) off2) True.intro
        ⟨p4, tp4, q4, tq4, np4, r ++ [d - 1], rfl, hP4, IntsAre.append hys (.cons _ _ .nil), by simp [hrl], fun x hx => ?_⟩
      rcases List.mem_append.mp hx with hx | hx
      · exact hrx x hx
      · rw [List.mem_singleton.mp hx]; omega
    · rintro ys2 nw2 ⟨p3, tp3, q3, tq3, np3, r, rfl, hP3, hys, hrl, hrx⟩
      intro D2 h4 tk4 F4 N4 o4'
      have ofs := Off1.mem o4'
      have hrl2 : r.length = 2 := hrl
      refine LCg.CompEnd.intro F4 N4 (led L o1 o2 o3 o4 o5 pen inner p3 tp3 q3 tq3 np3 pv k ((D2, LCg.lst ys2) :: T2)) (fun x hx => ?_) (LCg.Off3.of fun x hx => ?_) True.intro
        ⟨bs ++ [D2], (D2, LCg.lst ys2) :: T2, p3, tp3, q3, tq3, np3, rows ++ [r], by simp, rfl, (hP3.le (by show 1 + 2 * i + 2 ≤ _; omega)).cons (fun b hb => ?_), by simp [hbl], RowsOk.snoc hro ⟨ys2, _, List.mem_cons_self, hys⟩ hrl2 hrx⟩
      · revert hx
        revert x
        walk_at "m perm"
      · have hx2 : x = (D2, LCg.lst ys2) ∨ x ∈ led L o1 o2 o3 o4 o5 pen inner p3 tp3 q3 tq3 np3 pv k T2 := by
          refine List.mem_cons.mp ?_
          revert hx
          revert x
          walk_at "m perm"
        rcases hx2 with rfl | hx2
        · exact ⟨Ne.symm (ofs (I, oI) (by k_mem)), Ne.symm (ofs (Cx, oC) (by k_mem)), Ne.symm (ofs (D, LCg.lst (bs.map Value.ref)) (by k_mem))⟩
        · exact LCg.Off3.mem (off3_addr (l' := led L o1 o2 o3 o4 o5 pen inner p3 tp3 q3 tq3 np3 pv k T2) (by rfl) off) x hx2
      · simp only [List.mem_cons, List.not_mem_nil, or_false] at hb
        rcases hb with rfl | rfl | rfl | rfl | rfl | rfl | rfl
        · exact Ne.symm (ofs (b, penObj inner p3 tp3 q3 tq3 np3) (by k_mem))
        · exact Ne.symm (ofs (b, W.listOf pv.toArray k) (by k_mem))
        · exact Ne.symm (ofs (_, o5) (by k_mem))
        · exact Ne.symm (ofs (_, o4) (by k_mem))
        · exact Ne.symm (ofs (_, o3) (by k_mem))
        · exact Ne.symm (ofs (_, o2) (by k_mem))
        · exact Ne.symm (ofs (_, o1) (by k_mem))
  · rintro ys nw ⟨bs, T2, p2, tp2, q2, tq2, np2, rows, rfl, rfl, hP2, hbl, hro⟩
    intro Di h4 tk4 F4 N4 o4'
    have ofs := Off1.mem o4'
    have hOO : OwnOff T2 [L + 1 + 1 + 1 + 1 + 1, L + 1 + 1 + 1 + 1, L + 1 + 1 + 1, L + 1 + 1, L + 1] := hP2.cells
    obtain ⟨⟨a1, a2, a3, a4, a5⟩, b1, b2, b3, b4, b5⟩ := hP2.lts
    unfold led at N4 o4'
    simp only [LCg.Off1] at o4'
    walk_at "m goR"
    rename_i hX oX FX NX dX
    refine K p2 tp2 q2 tq2 np2 oX Di rows ((Di, LCg.lst (bs.map Value.ref)) :: T2) _ _ FX (News.sub NX fun x hx => ?_) ((hP2.le (nat_c hn4)).cons fun b hb => ?_) dX ⟨bs, _, List.mem_cons_self, hro.1.symm, fun j b r h1 h2 => (hro.2.1 j b r h1 h2).mono fun x hx => List.mem_cons_of_mem _ hx⟩ (by rw [hro.1, hbl]; exact nat_b hn1) hro.2.2
    · revert hx
      revert x
      walk_at "m perm"
    · simp only [List.mem_cons, List.not_mem_nil, or_false] at hb
      rcases hb with rfl | rfl | rfl | rfl | rfl | rfl | rfl
      · exact Ne.symm (ofs (b, penObj inner p2 tp2 q2 tq2 np2) (by k_mem))
      · exact Ne.symm (ofs (b, W.listOf pv.toArray k) (by k_mem))
      · exact Ne.symm (ofs (_, o5) (by k_mem))
      · exact Ne.symm (ofs (_, o4) (by k_mem))
      · exact Ne.symm (ofs (_, o3) (by k_mem))
      · exact Ne.symm (ofs (_, o2) (by k_mem))
      · exact Ne.symm (ofs (_, o1) (by k_mem))
end
section
theorem quiet24 : True := by
  w_top off
  exact True.intro
def TagsOk (T : List (Addr × Obj)) (bs : List Addr) (tags : Rows) : Prop :=
  tags.length = bs.length ∧ (∀ (j : Nat) (b : Addr) (r : List Int), bs[j]? = some b → tags[j]? = some r → TupIn T b r) ∧ ∀ r ∈ tags, r = [] ∨ r = [0]
theorem TagsOk.snoc {T T' : List (Addr × Obj)} {bs : List Addr} {tags : Rows} {D : Addr} {r : List Int} (h : TagsOk T bs tags) (k : ∀ p ∈ T, p ∈ T') (hr : TupIn T' D r) (hx : r = [] ∨ r = [0]) : TagsOk T' (bs ++ [D]) (tags ++ [r]) := by
  obtain ⟨a, b, c⟩ := h
  refine ⟨by simp [a], fun j b' r' h1 h2' => ?_, fun r' hr' => ?_⟩
  · rcases Nat.lt_trichotomy j bs.length with q | q | q
    · rw [List.getElem?_append_left q] at h1
      rw [List.getElem?_append_left (by omega)] at h2'
      exact (b j b' r' h1 h2').mono k
    · subst q
      have e9 : D = b' := by simpa using h1
      have e8 : r = r' := by simpa [← a] using h2'
      subst e9 e8
      exact hr
    · rw [List.getElem?_eq_none (by simp; omega)] at h1; cases h1
  · rcases List.mem_append.mp hr' with h | h
    · exact c r' h
    · rw [List.mem_singleton.mp h]; exact hx
set_option maxRecDepth 100000 in
set_option maxHeartbeats 8000000 in
theorem seg3 {w : World} {A : Around} {s : Shared} {h₀ : Heap} {L fa : Addr} {cd : Value} {m : Str → Option Value} {o1 o2 o3 o4 o5 : Obj} {pen inner : Addr} {p q n : Int} {tp tq t : Tok} {np k : Nat} {pv : List Value} {O : List (Addr × Obj)} {Q : Flow → Shared → Prop} {E : Value → Shared → Prop}
    (C : Ctx w (A.deeper (lawE L fa cd)) 8 h₀) (F : Fr h₀ L s.heap m) (N : News h₀ L s.heap (led L o1 o2 o3 o4 o5 pen inner p tp q tq np pv k O)) (hP : PenOk L pen inner p q pv 9 O)
    (d1 : o1.data = .cell (some (.ref pen))) (d2 : o2.data = .cell (some (.int n t))) (d4 : o4.data = .cell none) (hn1 : 1 ≤ n) (hn4 : n ≤ 4)
    (K : ∀ p tp q tq np o4' ta tags T h' tk, Fr h₀ L h' m → News h₀ L h' (led L o1 o2 o3 o4' o5 pen inner p tp q tq np pv k (T ++ O)) → PenOk L pen inner p q pv 13 (T ++ O) →
      o4'.data = .cell (some (.ref ta)) → TagsIn (T ++ O) ta tags → tags.length = n → (∀ r ∈ tags, r = [] ∨ r = [0]) →
      wpAny (model PySem.Challenge.rw_pq0568_01.prog w) (A.deeper (lawE L fa cd)) (execs (lawFD.body.drop 4) (lawE L fa cd)) Q E { s with heap := h', toks := tk }) :
    wpAny (model PySem.Challenge.rw_pq0568_01.prog w) (A.deeper (lawE L fa cd)) (execs (lawFD.body.drop 3) (lawE L fa cd)) Q E s := by
  have C2 := C
  have X0 := C.X
  revert X0
  k_fill
  intro X0
  obtain ⟨hh, hd, hu, X, T⟩ := C
  obtain ⟨p', l, me, mg, mb, T⟩ := T
  dsimp only [lawE, lawFD, List.drop_succ_cons, List.drop_zero]
  unfold led at N
  k_unmd
  try k_fold
  walk_at "m goR"
  rename_i hB tB u1' u2' u3' hRg FB NB
  refine LCg.CompSrc.range hh FB NB hRg (small_one (by omega) (by omega) (by omega) (by omega)) (rangeSize_nat _ _) (by rw [sizeLine_eq]; omega) ?_
  intro g1
  have hnn : (n - 0).toNat = n.toNat := by omega
  rw [hnn]
  refine comp_U (fun i ys nw => ∃ bs T p' tp' q' tq' np' tags, ys = bs.map Value.ref ∧ nw = led L o1 o2 o3 o4 o5 pen inner p' tp' q' tq' np' pv k (T ++ O) ∧ PenOk L pen inner p' q' pv (9 + i) (T ++ O) ∧ bs.length = i ∧ TagsOk T bs tags)
    ⟨[], [], p, tp, q, tq, np, [], rfl, rfl, hP, rfl, rfl, by simp, by simp⟩ ?_ ?_
  · rintro i ys nw v I oI Cx oC D m₂ h tk E' hi ⟨bs, T2, p2, tp2, q2, tq2, np2, tags, rfl, rfl, hP2, hbl, hro⟩ hPv hC hx F' N' off ne
    obtain ⟨tv, rfl⟩ := hPv
    dsimp only
    unfold led at N'
    k_unmd
    try k_fold
    walk_at "m goC"
    rename_i T1 x1 l1 T2' x2 l2 T3 x3 l3 Dt hx9 FX NX l4 cE
    have a1 := LCg.Off3.mem off (pen, penObj inner p2 tp2 q2 tq2 np2) (by k_mem)
    have b1 := LCg.Off3.mem off (inner, W.listOf pv.toArray k) (by k_mem)
    obtain ⟨e11, e12, e13, e14, e15, e16, e17, e18, e19, e1a, e1b⟩ := l1
    obtain ⟨e20, e21, e22, e23, e24, e25, e26, e27, e28, e29, e2a, e2b⟩ := l2
    obtain ⟨e3z, e30, e31, e32, e33, e34, e35, e36, e37, e38, e39, e3a, e3b⟩ := l3
    obtain ⟨e4y, e4z, e40, e41, e42, e43, e44, e45, e46, e47, e48, e49, e4a, e4b⟩ := l4
    have hT1 : ∀ b ∈ [pen, inner, L + 1 + 1 + 1 + 1 + 1, L + 1 + 1 + 1 + 1, L + 1 + 1 + 1, L + 1 + 1, L + 1], @Ne Nat T1 b := by
      intro b hb
      simp only [List.mem_cons, List.not_mem_nil, or_false] at hb
      rcases hb with rfl | rfl | rfl | rfl | rfl | rfl | rfl <;> exact Ne.symm (Nat.ne_of_lt (by assumption))
    have hT2 : ∀ b ∈ [pen, inner, L + 1 + 1 + 1 + 1 + 1, L + 1 + 1 + 1 + 1, L + 1 + 1 + 1, L + 1 + 1, L + 1], @Ne Nat T2' b := by
      intro b hb
      simp only [List.mem_cons, List.not_mem_nil, or_false] at hb
      rcases hb with rfl | rfl | rfl | rfl | rfl | rfl | rfl <;> exact Ne.symm (Nat.ne_of_lt (by assumption))
    have hT3 : ∀ b ∈ [pen, inner, L + 1 + 1 + 1 + 1 + 1, L + 1 + 1 + 1 + 1, L + 1 + 1 + 1, L + 1 + 1, L + 1], @Ne Nat T3 b := by
      intro b hb
      simp only [List.mem_cons, List.not_mem_nil, or_false] at hb
      rcases hb with rfl | rfl | rfl | rfl | rfl | rfl | rfl <;> exact Ne.symm (Nat.ne_of_lt (by assumption))
    have hRR : ∀ x ∈ [(Dt, ({ cls := .type "tuple", data := .seq #[.ref T1, .ref T2', .ref T3] } : Obj)), (T3, { cls := .type "tuple", data := .seq #[] }), (T2', { cls := .type "tuple", data := .seq #[.int 0 tk] }), (T1, { cls := .type "tuple", data := .seq #[] }), (I, oI), (Cx, oC), (D, LCg.lst (bs.map Value.ref))], @Ne Nat x.1 pen ∧ @Ne Nat x.1 inner := by
      intro x hx
      simp only [List.mem_cons, List.not_mem_nil, or_false] at hx
      rcases hx with rfl | rfl | rfl | rfl | rfl | rfl | rfl
      · exact ⟨Ne.symm (Nat.ne_of_lt e49), Ne.symm (Nat.ne_of_lt e4a)⟩
      · exact ⟨Ne.symm (Nat.ne_of_lt e39), Ne.symm (Nat.ne_of_lt e3a)⟩
      · exact ⟨Ne.symm (Nat.ne_of_lt e29), Ne.symm (Nat.ne_of_lt e2a)⟩
      · exact ⟨Ne.symm (Nat.ne_of_lt e19), Ne.symm (Nat.ne_of_lt e1a)⟩
      · exact ⟨Ne.symm a1.1, Ne.symm b1.1⟩
      · exact ⟨Ne.symm a1.2.1, Ne.symm b1.2.1⟩
      · exact ⟨Ne.symm a1.2.2, Ne.symm b1.2.2⟩
    refine law_draw (R := [(Dt, ({ cls := .type "tuple", data := .seq #[.ref T1, .ref T2', .ref T3] } : Obj)), (T3, { cls := .type "tuple", data := .seq #[] }), (T2', { cls := .type "tuple", data := .seq #[.int 0 tk] }), (T1, { cls := .type "tuple", data := .seq #[] }), (I, oI), (Cx, oC), (D, LCg.lst (bs.map Value.ref))])
      (tp := tp2) (tq := tq2) (np := np2) (Ctx.le C2 (by decide)) FX NX (fun x hx => hx) hP2 (nat_e hn4 hi) hRR (by omega) (by omega) ?_
    intro d td p4 tp4 q4 tq4 np4 h' tk' hd0 hd1 hP4 F' N'
    have hfin : ∀ (h'' : Heap) (tk'' : Nat) (Te : Addr) (r : List Int), Fr h₀ L h'' m → News h₀ L h'' ([(Dt, ({ cls := .type "tuple", data := .seq #[.ref T1, .ref T2', .ref T3] } : Obj)), (T3, { cls := .type "tuple", data := .seq #[] }), (T2', { cls := .type "tuple", data := .seq #[.int 0 tk] }), (T1, { cls := .type "tuple", data := .seq #[] }), (I, oI), (Cx, oC), (D, LCg.lst (bs.map Value.ref))] ++ led L o1 o2 o3 o4 o5 pen inner p4 tp4 q4 tq4 np4 pv k (T2 ++ O)) →
        TupIn ((T3, ({ cls := .type "tuple", data := .seq #[] } : Obj)) :: (T2', { cls := .type "tuple", data := .seq #[.int 0 tk] }) :: (T1, { cls := .type "tuple", data := .seq #[] }) :: T2) Te r → (r = [] ∨ r = [0]) →
        LCg.CompEnd h₀ L m { heap := h, gens := s.gens, drawn := s.drawn, toks := tk, os := s.os } I oI Cx oC D (LCg.lst (bs.map Value.ref)) (fun _ => True) (fun y nw' => ∃ bs_1 T p' tp' q' tq' np' tags, bs.map Value.ref ++ [y] = bs_1.map Value.ref ∧ nw' = led L o1 o2 o3 o4 o5 pen inner p' tp' q' tq' np' pv k (T ++ O) ∧ PenOk L pen inner p' q' pv (9 + (i + 1)) (T ++ O) ∧ bs_1.length = i + 1 ∧ TagsOk T bs_1 tags) (.ref Te) { heap := h'', gens := s.gens, drawn := s.drawn, toks := tk'', os := s.os } := by
      intro h'' tk'' Te r F9 N9 hTe hr
      refine LCg.CompEnd.intro F9 N9 (led L o1 o2 o3 o4 o5 pen inner p4 tp4 q4 tq4 np4 pv k ((T3, ({ cls := .type "tuple", data := .seq #[] } : Obj)) :: (T2', { cls := .type "tuple", data := .seq #[.int 0 tk] }) :: (T1, { cls := .type "tuple", data := .seq #[] }) :: (T2 ++ O))) (fun x hx => ?_) (LCg.Off3.of fun x hx => ?_) True.intro
        ⟨bs ++ [Te], (T3, ({ cls := .type "tuple", data := .seq #[] } : Obj)) :: (T2', { cls := .type "tuple", data := .seq #[.int 0 tk] }) :: (T1, { cls := .type "tuple", data := .seq #[] }) :: T2, p4, tp4, q4, tq4, np4, tags ++ [r], by simp, rfl, ((hP4.cons hT1).cons hT2).cons hT3, by simp [hbl], TagsOk.snoc hro (fun p hp => List.mem_cons_of_mem _ (List.mem_cons_of_mem _ (List.mem_cons_of_mem _ hp))) hTe hr⟩
      · revert hx
        revert x
        walk_at "m perm"
      · have hx2 : x = (T3, ({ cls := .type "tuple", data := .seq #[] } : Obj)) ∨ x = (T2', { cls := .type "tuple", data := .seq #[.int 0 tk] }) ∨ x = (T1, { cls := .type "tuple", data := .seq #[] }) ∨ x ∈ led L o1 o2 o3 o4 o5 pen inner p4 tp4 q4 tq4 np4 pv k (T2 ++ O) := by
          refine (List.mem_cons.mp ?_).imp_right fun z => (List.mem_cons.mp z).imp_right List.mem_cons.mp
          revert hx
          revert x
          walk_at "m perm"
        rcases hx2 with rfl | rfl | rfl | hx2
        · exact ⟨Ne.symm (Nat.ne_of_lt e31), Ne.symm (Nat.ne_of_lt e32), Ne.symm (Nat.ne_of_lt e33)⟩
        · exact ⟨Ne.symm (Nat.ne_of_lt e21), Ne.symm (Nat.ne_of_lt e22), Ne.symm (Nat.ne_of_lt e23)⟩
        · exact ⟨Ne.symm (Nat.ne_of_lt e11), Ne.symm (Nat.ne_of_lt e12), Ne.symm (Nat.ne_of_lt e13)⟩
        · exact LCg.Off3.mem (off3_addr (l' := led L o1 o2 o3 o4 o5 pen inner p4 tp4 q4 tq4 np4 pv k (T2 ++ O)) (by rfl) off) x hx2
    have hd3 : d = 0 ∨ d = 1 ∨ d = 2 := by omega
    rcases hd3 with rfl | rfl | rfl
    · dsimp only
      walk_at "m goC"
      exact hfin _ _ T1 [] (by k_asm) (by k_asm) ⟨[], 0, by simp, .nil⟩ (.inl rfl)
    · dsimp only
      walk_at "m goC"
      exact hfin _ _ T2' [0] (by k_asm) (by k_asm) ⟨[.int 0 tk], 0, by simp, .cons 0 tk .nil⟩ (.inr rfl)
    · dsimp only
      walk_at "m goC"
      exact hfin _ _ T3 [] (by k_asm) (by k_asm) ⟨[], 0, by simp, .nil⟩ (.inl rfl)
  · rintro ys nw ⟨bs, T2, p2, tp2, q2, tq2, np2, tags, rfl, rfl, hP2, hbl, hro⟩
    intro Di h4 tk4 F4 N4 o4'
    have ofs := Off1.mem o4'
    have hOO : OwnOff (T2 ++ O) [L + 1 + 1 + 1 + 1 + 1, L + 1 + 1 + 1 + 1, L + 1 + 1 + 1, L + 1 + 1, L + 1] := hP2.cells
    obtain ⟨⟨a1, a2, a3, a4, a5⟩, b1, b2, b3, b4, b5⟩ := hP2.lts
    unfold led at N4 o4'
    simp only [LCg.Off1] at o4'
    walk_at "m goR"
    rename_i hX oX FX NX dX
    refine K p2 tp2 q2 tq2 np2 oX Di tags ((Di, LCg.lst (bs.map Value.ref)) :: T2) _ _ FX (News.sub NX fun x hx => ?_) ((hP2.le (nat_d hn4)).cons fun b hb => ?_) dX ⟨bs, _, List.mem_cons_self, hro.1.symm, fun j b r h1 h2 => (hro.2.1 j b r h1 h2).mono fun x hx => List.mem_cons_of_mem _ (List.mem_append_left _ hx)⟩ (by rw [hro.1, hbl]; exact nat_b hn1) hro.2.2
    · revert hx
      revert x
      walk_at "m perm"
    · simp only [List.mem_cons, List.not_mem_nil, or_false] at hb
      rcases hb with rfl | rfl | rfl | rfl | rfl | rfl | rfl
      · exact Ne.symm (ofs (b, penObj inner p2 tp2 q2 tq2 np2) (by k_mem))
      · exact Ne.symm (ofs (b, W.listOf pv.toArray k) (by k_mem))
      · exact Ne.symm (ofs (_, o5) (by k_mem))
      · exact Ne.symm (ofs (_, o4) (by k_mem))
      · exact Ne.symm (ofs (_, o3) (by k_mem))
      · exact Ne.symm (ofs (_, o2) (by k_mem))
      · exact Ne.symm (ofs (_, o1) (by k_mem))
end
section
theorem quiet25 : True := by
  w_top off
  exact True.intro
def WordsOk (T : List (Addr × Obj)) (bs : List Addr) (ws : Rows) : Prop :=
  ws.length = bs.length ∧ ∀ (j : Nat) (b : Addr) (r : List Int), bs[j]? = some b → ws[j]? = some r → TupIn T b r
def grow (i : Nat) (w : List Int) : Rows := if w.length = i then [w ++ [0], w ++ [1]] else []
noncomputable def wordsUp : Nat → Rows
  | 0 => [[]]
  | i + 1 => wordsUp i ++ (wordsUp i).flatMap (grow i)
theorem wordsUp_small : ∀ i ≤ 3, (wordsUp i).length ≤ 15 ∧ ∀ w ∈ wordsUp i, w.length ≤ 3 := by decide +kernel
theorem WordsOk.snoc {T : List (Addr × Obj)} {bs : List Addr} {ws : Rows} {D : Addr} {o : Obj} {r : List Int} (h : WordsOk T bs ws) (hr : TupIn [(D, o)] D r) : WordsOk ((D, o) :: T) (bs ++ [D]) (ws ++ [r]) := by
  obtain ⟨a, b⟩ := h
  refine ⟨by simp [a], fun j b' r' h1 h2' => ?_⟩
  rcases Nat.lt_trichotomy j bs.length with q | q | q
  · rw [List.getElem?_append_left q] at h1
    rw [List.getElem?_append_left (by omega)] at h2'
    exact (b j b' r' h1 h2').mono fun p hp => List.mem_cons_of_mem _ hp
  · subst q
    have e9 : D = b' := by simpa using h1
    have e8 : r = r' := by simpa [← a] using h2'
    subst e9 e8
    exact hr.mono fun p hp => by rw [List.mem_singleton.mp hp]; exact List.mem_cons_self
  · rw [List.getElem?_eq_none (by simp; omega)] at h1; cases h1
theorem WordsOk.mono {T T' : List (Addr × Obj)} {bs : List Addr} {ws : Rows} (h : WordsOk T bs ws) (k : ∀ p ∈ T, p ∈ T') : WordsOk T' bs ws := ⟨h.1, fun j b r h1 h2 => (h.2 j b r h1 h2).mono k⟩
set_option maxRecDepth 100000 in
set_option maxHeartbeats 8000000 in
theorem seg4 {w : World} {A : Around} {s : Shared} {h₀ : Heap} {L fa : Addr} {cd : Value} {m : Str → Option Value} {o1 o2 o3 o4 o5 : Obj} {pen inner : Addr} {p q : Int} {tp tq : Tok} {np k : Nat} {pv : List Value} {O : List (Addr × Obj)} {Q : Flow → Shared → Prop} {E : Value → Shared → Prop}
    (C : Ctx w (A.deeper (lawE L fa cd)) 8 h₀) (F : Fr h₀ L s.heap m) (N : News h₀ L s.heap (led L o1 o2 o3 o4 o5 pen inner p tp q tq np pv k O)) (hP : PenOk L pen inner p q pv 13 O)
    (d5 : o5.data = .cell none)
    (K : ∀ o5' wa T m' h' tk, Fr h₀ L h' m' → m' (Str.ofString "words") = some (.ref wa) → News h₀ L h' (led L o1 o2 o3 o4 o5' pen inner p tp q tq np pv k (T ++ O)) → PenOk L pen inner p q pv 13 (T ++ O) → TagsIn T wa (wordsUp 3) →
      wpAny (model PySem.Challenge.rw_pq0568_01.prog w) (A.deeper (lawE L fa cd)) (execs (lawFD.body.drop 6) (lawE L fa cd)) Q E { s with heap := h', toks := tk }) :
    wpAny (model PySem.Challenge.rw_pq0568_01.prog w) (A.deeper (lawE L fa cd)) (execs (lawFD.body.drop 4) (lawE L fa cd)) Q E s := by
  have C2 := C
  have X0 := C.X
  revert X0
  k_fill
  intro X0
  obtain ⟨hh, hd, hu, X, T⟩ := C
  obtain ⟨p', l, me, mg, mb, T⟩ := T
  dsimp only [lawE, lawFD, List.drop_succ_cons, List.drop_zero]
  have hOO : OwnOff O [L + 1 + 1 + 1 + 1 + 1, L + 1 + 1 + 1 + 1, L + 1 + 1 + 1, L + 1 + 1, L + 1] := hP.cells
  obtain ⟨⟨a1, a2, a3, a4, a5⟩, b1, b2, b3, b4, b5⟩ := hP.lts
  unfold led at N
  k_unmd
  try k_fold
  walk_at "m goR"
  walk_at "m goR"
  walk_at "m goR"
  rename_i W0 x1 l1 wa x2 l2 hB FB NB
  obtain ⟨e11, e12, e13, e14, e15, e16, e17, e18⟩ := l1
  obtain ⟨e20, e21, e22, e23, e24, e25, e26, e27, e28⟩ := l2
  have hW0 : ∀ b ∈ [pen, inner, L + 1 + 1 + 1 + 1 + 1, L + 1 + 1 + 1 + 1, L + 1 + 1 + 1, L + 1 + 1, L + 1], @Ne Nat W0 b := by
    intro b hb
    simp only [List.mem_cons, List.not_mem_nil, or_false] at hb
    rcases hb with rfl | rfl | rfl | rfl | rfl | rfl | rfl <;> exact Ne.symm (Nat.ne_of_lt (by assumption))
  have hwa : ∀ b ∈ [pen, inner, L + 1 + 1 + 1 + 1 + 1, L + 1 + 1 + 1 + 1, L + 1 + 1 + 1, L + 1 + 1, L + 1], @Ne Nat wa b := by
    intro b hb
    simp only [List.mem_cons, List.not_mem_nil, or_false] at hb
    rcases hb with rfl | rfl | rfl | rfl | rfl | rfl | rfl <;> exact Ne.symm (Nat.ne_of_lt (by assumption))
  refine For_cell (h₀ := h₀) (L := L) ?_
  walk_at "m goC"
  rename_i hC tC u1' u2' u3' hRg FC NC
  refine LoopC.intro hh FC NC hRg (small_one (by omega) (by omega) (by omega) (by omega)) (n := 3) (by rfl)
    (fun i m' nw => ∃ o5' wa T, m' (Str.ofString "words") = some (.ref wa) ∧ (∀ x ∈ led L o1 o2 o3 o4 o5' pen inner p tp q tq np pv k (T ++ O), x ∈ nw) ∧ PenOk L pen inner p q pv 13 (T ++ O) ∧ TagsIn T wa (wordsUp i) ∧ ∃ v, o5'.data = .cell v)
    ⟨o5, wa, [(wa, W.listOf #[.ref W0] 0), (W0, { cls := .type "tuple", data := .seq #[] })], if_pos rfl, fun x hx => ?h0, (hP.cons hW0).cons hwa, ⟨[W0], 0, List.mem_cons_self, rfl, fun j b r h1 h2 => ?h1⟩, _, d5⟩ ?_ ?_
  case h0 =>
    revert hx
    revert x
    walk_at "m perm"
  case h1 =>
    cases j with
    | zero =>
      have e1 : W0 = b := by simpa using h1
      have e2 : r = [] := by simpa [wordsUp] using h2.symm
      subst e1 e2
      exact ⟨[], 0, List.mem_cons_of_mem _ List.mem_cons_self, .nil⟩
    | succ j => simp at h1
  · rintro i tv m₁ nw I oI h tk hi ⟨o5', wa', T4, hm, hnw, hP4, hwd, v5, d5'⟩ hnI F1 N1
    have N2 : News h₀ L h ((I, oI) :: led L o1 o2 o3 o4 o5' pen inner p tp q tq np pv k (T4 ++ O)) := News.sub N1 fun x hx => by
      rcases List.mem_cons.mp hx with rfl | hx
      · exact List.mem_cons_self
      · exact List.mem_cons_of_mem _ (hnw x hx)
    have n5 : @Ne Nat (L + 1 + 1 + 1 + 1 + 1) I := hnI (_, o5') (hnw _ (by k_mem))
    have n4 : @Ne Nat (L + 1 + 1 + 1 + 1) I := hnI (_, o4) (hnw _ (by k_mem))
    have n3 : @Ne Nat (L + 1 + 1 + 1) I := hnI (_, o3) (hnw _ (by k_mem))
    have n2 : @Ne Nat (L + 1 + 1) I := hnI (_, o2) (hnw _ (by k_mem))
    have n1 : @Ne Nat (L + 1) I := hnI (_, o1) (hnw _ (by k_mem))
    have n6 : @Ne Nat pen I := hnI (pen, penObj inner p tp q tq np) (hnw _ (by k_mem))
    have n7 : @Ne Nat inner I := hnI (inner, W.listOf pv.toArray k) (hnw _ (by k_mem))
    have nT : ∀ x ∈ T4 ++ O, @Ne Nat x.1 I := fun x hx => hnI x (hnw x (by
      unfold led
      exact List.mem_cons_of_mem _ (List.mem_cons_of_mem _ (List.mem_cons_of_mem _ (List.mem_cons_of_mem _ (List.mem_cons_of_mem _ (List.mem_cons_of_mem _ (List.mem_cons_of_mem _ hx))))))))
    have hOO4 : OwnOff (T4 ++ O) [L + 1 + 1 + 1 + 1 + 1, L + 1 + 1 + 1 + 1, L + 1 + 1 + 1, L + 1 + 1, L + 1] := hP4.cells
    have hws := wordsUp_small i (by omega)
    obtain ⟨as, cw, hmw, hlw, hzw⟩ := hwd
    clear hRg FC NC N1 hnw hW0 hwa e11 e12 e13 e14 e15 e16 e17 e18 e20 e21 e22 e23 e24 e25 e26 e27 e28 hnI
    unfold led at N2
    k_unmd
    try k_fold
    dsimp only
    walk_at "m goC"
    rename_i hQ oL FQ NQ dL
    refine ListComp_2 (m := m₁) (h₀ := h₀) (L := L) (by walk_at "m clos") (by decide) (by rfl) (by decide) (by rfl) (by rfl) (by decide) ?_
    walk_at "m goC"
    have hasz : (as.map Value.ref).toArray.size = (wordsUp i).length := by rw [List.size_toArray, List.length_map, hlw]
    refine ⟨wa', (as.map Value.ref).toArray, cw, _, rfl, hh, FQ, NQ, List.mem_cons_of_mem _ (List.mem_cons_of_mem _ (List.mem_cons_of_mem _ (List.mem_cons_of_mem _ (List.mem_cons_of_mem _ (List.mem_cons_of_mem _ (List.mem_cons_of_mem _ (List.mem_cons_of_mem _ (List.mem_append_left _ hmw)))))))), by rw [hasz]; omega, ?_⟩
    intro g
    refine comp_2 (fun i2 ys nw => ∃ bs T5, ys = bs.map Value.ref ∧ nw = (I, oI) :: led L o1 o2 o3 o4 oL pen inner p tp q tq np pv k (T5 ++ (T4 ++ O)) ∧ PenOk L pen inner p q pv 13 (T5 ++ (T4 ++ O)) ∧ WordsOk T5 bs (((wordsUp i).take i2).flatMap (grow i)) ∧ ∀ x ∈ T5, @Ne Nat x.1 I)
      ⟨[], [], rfl, rfl, hP4, ⟨rfl, by simp⟩, by simp⟩ ?_ ?_
    · rintro i2 ys nw v I2 oI2 Cx oC D m₂ h tk E' hi2 ⟨bs, T5, rfl, rfl, hP5, hwo, hT5I⟩ hPv hC hx F' N' off ne
      have hil : i2 < (wordsUp i).length := by omega
      have e1 : as[i2]? = some as[i2] := by simp [hlw, hil]
      have hv : v = .ref as[i2] := by simpa [hlw, hil] using hPv.symm
      subst hv
      have htup := hzw i2 as[i2] (wordsUp i)[i2] e1 (by simp [hil])
      have hr3 : (wordsUp i)[i2].length ≤ 3 := hws.2 _ (List.getElem_mem hil)
      have etake : (wordsUp i).take (i2 + 1) = (wordsUp i).take i2 ++ [(wordsUp i)[i2]] := by rw [List.take_add_one]; simp [hil]
      generalize hrr : (wordsUp i)[i2] = r at *
      have hs4 : ∀ p ∈ T4, p ∈ T5 ++ (T4 ++ O) := fun p hp => List.mem_append_right _ (List.mem_append_left _ hp)
      dsimp only
      unfold led at N'
      k_unmd
      try k_fold
      walk_at "m goC"
      · rename_i t8 tk8 hrl Dt h8 F8 N8 l8
        have hri : r.length = i := by omega
        have hall : AllLt Dt ((I2, oI2) :: (Cx, oC) :: (D, LCg.lst (bs.map Value.ref)) :: (I, oI) :: led L o1 o2 o3 o4 oL pen inner p tp q tq np pv k (T5 ++ (T4 ++ O))) := l8
        have hDt := off_of_allLt hall
        have hsrc : ∀ T6 : List (Addr × Obj), LCg.SrcAt h₀ wa' (as.map Value.ref).toArray ((I, oI) :: led L o1 o2 o3 o4 oL pen inner p tp q tq np pv k (T6 ++ (T4 ++ O))) := fun T6 =>
          .inr ⟨W.listOf (as.map Value.ref).toArray cw, by unfold led; exact List.mem_cons_of_mem _ (List.mem_cons_of_mem _ (List.mem_cons_of_mem _ (List.mem_cons_of_mem _ (List.mem_cons_of_mem _ (List.mem_cons_of_mem _ (List.mem_cons_of_mem _ (List.mem_cons_of_mem _ (List.mem_append_right _ (List.mem_append_left _ hmw))))))))), rfl, _, rfl⟩
        have hoffDt : LCg.Off3 I2 Cx D ((I, oI) :: led L o1 o2 o3 o4 oL pen inner p tp q tq np pv k ((Dt, tupO [.int 0 tk8, .int 1 (tk8 + 1)] 0) :: (T5 ++ (T4 ++ O)))) := LCg.Off3.of fun x hx => by
          have hx2 : x = (Dt, tupO [.int 0 tk8, .int 1 (tk8 + 1)] 0) ∨ x ∈ (I, oI) :: led L o1 o2 o3 o4 oL pen inner p tp q tq np pv k (T5 ++ (T4 ++ O)) := by
            refine List.mem_cons.mp ?_
            revert hx
            revert x
            walk_at "m perm"
          rcases hx2 with rfl | hx2
          · exact ⟨Ne.symm (hDt (I2, oI2) (by k_mem)), Ne.symm (hDt (Cx, oC) (by k_mem)), Ne.symm (hDt (D, LCg.lst (bs.map Value.ref)) (by k_mem))⟩
          · exact LCg.Off3.mem off x hx2
        unfold Hold
        refine ⟨Dt, [.int 0 tk8, .int 1 (tk8 + 1)], 0, h8, _, _, (I, oI) :: led L o1 o2 o3 o4 oL pen inner p tp q tq np pv k ((Dt, tupO [.int 0 tk8, .int 1 (tk8 + 1)] 0) :: (T5 ++ (T4 ++ O))), rfl, rfl, F8, N8, fun x hx => ?sub, hoffDt, ?mem, Nat.le_refl _, hsrc ((Dt, tupO [.int 0 tk8, .int 1 (tk8 + 1)] 0) :: T5), in2_inv
          (fun j ys nw2 => ∃ bs6 T6, ys = bs6.map Value.ref ∧ nw2 = (I2, oI2) :: (I, oI) :: led L o1 o2 o3 o4 oL pen inner p tp q tq np pv k (T6 ++ (T4 ++ O)) ∧ (Dt, tupO [.int 0 tk8, .int 1 (tk8 + 1)] 0) ∈ T6 ∧ PenOk L pen inner p q pv 13 (T6 ++ (T4 ++ O)) ∧
            WordsOk T6 bs6 (((wordsUp i).take i2).flatMap (grow i) ++ [r ++ [0], r ++ [1]].take j) ∧ (∀ x ∈ T6, @Ne Nat x.1 I) ∧ LCg.Off3 I2 Cx D ((I, oI) :: led L o1 o2 o3 o4 oL pen inner p tp q tq np pv k (T6 ++ (T4 ++ O)))) ?turn ?fin ⟨bs, (Dt, tupO [.int 0 tk8, .int 1 (tk8 + 1)] 0) :: T5, rfl, rfl, List.mem_cons_self, hP5.cons ?pc, ?w0, ?ti, hoffDt⟩⟩
        case sub =>
          revert hx
          revert x
          walk_at "m perm"
        case mem => unfold led; simp
        case pc =>
          intro b hb
          simp only [List.mem_cons, List.not_mem_nil, or_false] at hb
          rcases hb with rfl | rfl | rfl | rfl | rfl | rfl | rfl
          · exact Ne.symm (hDt (b, penObj inner p tp q tq np) (by k_mem))
          · exact Ne.symm (hDt (b, W.listOf pv.toArray k) (by k_mem))
          · exact Ne.symm (hDt (_, oL) (by k_mem))
          · exact Ne.symm (hDt (_, o4) (by k_mem))
          · exact Ne.symm (hDt (_, o3) (by k_mem))
          · exact Ne.symm (hDt (_, o2) (by k_mem))
          · exact Ne.symm (hDt (_, o1) (by k_mem))
        case w0 =>
          rw [List.take_zero, List.append_nil]
          exact hwo.mono fun p hp => List.mem_cons_of_mem _ hp
        case ti =>
          intro x hx
          rcases List.mem_cons.mp hx with rfl | hx
          · exact Ne.symm (hDt (I, oI) (by k_mem))
          · exact hT5I x hx
        case fin =>
          rintro ys2 nw2 ⟨bs6, T6, rfl, rfl, hDt6, hP6, hwo6, hT6I, off6⟩
          refine ⟨_, rfl, off6, hsrc T6, bs6, T6, rfl, rfl, hP6, ?_, hT6I⟩
          rw [etake, List.flatMap_append]
          simpa [grow, hri] using hwo6
        case turn =>
          rintro j v2 ys2 nw2 I3 oI3 oC3 m3 h3 tk3 E3 hv2 ⟨bs6, T6, rfl, rfl, hDt6, hP6, hwo6, hT6I, off6⟩ hC3 hx3 hy3 F3 N3 off3 ne3
          have hj2 : ∃ t2, v2 = .int (j : Int) t2 ∧ (j = 0 ∨ j = 1) := by
            match j, hv2 with
            | 0, hv2 => exact ⟨_, (by simpa using hv2.symm), .inl rfl⟩
            | 1, hv2 => exact ⟨_, (by simpa using hv2.symm), .inr rfl⟩
          obtain ⟨t2, rfl, hj2⟩ := hj2
          dsimp only
          unfold led at N3
          k_unmd
          try k_fold
          walk_at "m goC"
          rename_i Db h5 F5 N5 l5
          have hall3 : AllLt Db ((I3, oI3) :: (Cx, oC3) :: (D, LCg.lst (bs6.map Value.ref)) :: (I2, oI2) :: (I, oI) :: led L o1 o2 o3 o4 oL pen inner p tp q tq np pv k (T6 ++ (T4 ++ O))) := l5
          refine tup_add (O := T4) (r := r) (k := (j : Int)) F5 N5 (fun x hx => ?ta) htup List.mem_cons_self (by omega) ?_
          case ta => exact List.mem_cons_of_mem _ (List.mem_cons_of_mem _ (List.mem_cons_of_mem _ (List.mem_cons_of_mem _ (List.mem_cons_of_mem _ (List.mem_cons_of_mem _ (List.mem_cons_of_mem _ (List.mem_cons_of_mem _ (List.mem_cons_of_mem _ (List.mem_cons_of_mem _ (List.mem_cons_of_mem _ (List.mem_cons_of_mem _ (List.mem_cons_of_mem _ (List.mem_append_right _ (List.mem_append_left _ hx))))))))))))))
          intro De oe nw9 h9 F9 N9 hDe hTe hnw9
          have hne : ∀ x ∈ (I3, oI3) :: (Cx, oC3) :: (D, LCg.lst (bs6.map Value.ref)) :: (I2, oI2) :: (I, oI) :: led L o1 o2 o3 o4 oL pen inner p tp q tq np pv k (T6 ++ (T4 ++ O)), @Ne Nat x.1 De := by
            intro x hx
            rcases hDe with rfl | hlt
            · exact off_of_allLt hall3 x hx
            · exact Nat.ne_of_lt (hlt x (List.mem_cons_of_mem _ hx))
          refine LCg.CompEnd.intro F9 N9 ((I2, oI2) :: (I, oI) :: led L o1 o2 o3 o4 oL pen inner p tp q tq np pv k ((De, oe) :: (T6 ++ (T4 ++ O)))) (fun x hx => ?sub) (LCg.Off3.of fun x hx => ?off) ⟨List.mem_cons_self, ?tm⟩
            ⟨bs6 ++ [De], (De, oe) :: T6, by simp, rfl, List.mem_cons_of_mem _ hDt6, hP6.cons ?pc, ?wo, ?ti, LCg.Off3.of fun x hx => ?off2⟩
          case sub =>
            revert hx
            revert x
            walk_at "m perm"
          case tm =>
            unfold led
            exact List.mem_cons_of_mem _ (List.mem_cons_of_mem _ (List.mem_cons_of_mem _ (List.mem_cons_of_mem _ (List.mem_cons_of_mem _ (List.mem_cons_of_mem _ (List.mem_cons_of_mem _ (List.mem_cons_of_mem _ (List.mem_cons_of_mem _ (List.mem_cons_of_mem _ (List.mem_append_left _ hDt6))))))))))
          case off =>
            have hx2 : x = (De, oe) ∨ x ∈ (I2, oI2) :: (I, oI) :: led L o1 o2 o3 o4 oL pen inner p tp q tq np pv k (T6 ++ (T4 ++ O)) := by
              refine List.mem_cons.mp ?_
              revert hx
              revert x
              walk_at "m perm"
            rcases hx2 with rfl | hx2
            · exact ⟨Ne.symm (hne (I3, oI3) (by k_mem)), Ne.symm (hne (Cx, oC3) (by k_mem)), Ne.symm (hne (D, LCg.lst (bs6.map Value.ref)) (by k_mem))⟩
            · exact LCg.Off3.mem off3 x hx2
          case off2 =>
            have hx2 : x = (De, oe) ∨ x ∈ (I, oI) :: led L o1 o2 o3 o4 oL pen inner p tp q tq np pv k (T6 ++ (T4 ++ O)) := by
              refine List.mem_cons.mp ?_
              revert hx
              revert x
              walk_at "m perm"
            rcases hx2 with rfl | hx2
            · exact ⟨Ne.symm (hne (I2, oI2) (by k_mem)), Ne.symm (hne (Cx, oC3) (by k_mem)), Ne.symm (hne (D, LCg.lst (bs6.map Value.ref)) (by k_mem))⟩
            · exact LCg.Off3.mem off6 x hx2
          case pc =>
            intro b hb
            simp only [List.mem_cons, List.not_mem_nil, or_false] at hb
            rcases hb with rfl | rfl | rfl | rfl | rfl | rfl | rfl
            · exact Ne.symm (hne (b, penObj inner p tp q tq np) (by k_mem))
            · exact Ne.symm (hne (b, W.listOf pv.toArray k) (by k_mem))
            · exact Ne.symm (hne (_, oL) (by k_mem))
            · exact Ne.symm (hne (_, o4) (by k_mem))
            · exact Ne.symm (hne (_, o3) (by k_mem))
            · exact Ne.symm (hne (_, o2) (by k_mem))
            · exact Ne.symm (hne (_, o1) (by k_mem))
          case ti =>
            intro x hx
            rcases List.mem_cons.mp hx with rfl | hx
            · exact Ne.symm (hne (I, oI) (by k_mem))
            · exact hT6I x hx
          case wo =>
            have hs9 := hwo6.snoc hTe
            rw [List.append_assoc] at hs9
            rcases hj2 with rfl | rfl
            · simpa using hs9
            · simpa using hs9
      · have hri : r.length ≠ i := by
          have hq : ((r.length : Nat) : Int) ≠ 0 + (i : Int) := by assumption
          omega
        refine LCg.CompEnd.intro (by k_asm) (by k_asm) ((I, oI) :: led L o1 o2 o3 o4 oL pen inner p tp q tq np pv k (T5 ++ (T4 ++ O))) mem_self off (.inr ⟨W.listOf (as.map Value.ref).toArray cw, by unfold led; exact List.mem_cons_of_mem _ (List.mem_cons_of_mem _ (List.mem_cons_of_mem _ (List.mem_cons_of_mem _ (List.mem_cons_of_mem _ (List.mem_cons_of_mem _ (List.mem_cons_of_mem _ (List.mem_cons_of_mem _ (List.mem_append_right _ (List.mem_append_left _ hmw))))))))), rfl, _, rfl⟩) ⟨bs, T5, rfl, rfl, hP5, ?_, hT5I⟩
        rw [etake, List.flatMap_append]
        simpa [grow, hri] using hwo
    · rintro ys nw ⟨bs, T5, rfl, rfl, hP5, hwo, hT5I⟩
      intro D h4 tk4 F4 N4 o4'
      have ofs := Off1.mem o4'
      rw [hasz, List.take_length] at hwo
      unfold led at N4 o4'
      simp only [LCg.Off1] at o4'
      dsimp only
      walk_at "m goC"
      refine add_lists (vs := as.map Value.ref) (ws := bs.map Value.ref) F4 N4 (islist_of N4 (List.mem_cons_of_mem _ (List.mem_cons_of_mem _ (List.mem_cons_of_mem _ (List.mem_cons_of_mem _ (List.mem_cons_of_mem _ (List.mem_cons_of_mem _ (List.mem_cons_of_mem _ (List.mem_cons_of_mem _ (List.mem_cons_of_mem _ (List.mem_append_right _ (List.mem_append_left _ hmw)))))))))))) (islist_of N4 List.mem_cons_self) ?_ (by rw [sizeLine_eq, List.length_map, List.length_map, hlw, ← hwo.1]; have := (wordsUp_small (i + 1) (by omega)).1; simp only [wordsUp, List.length_append] at this; omega)
      intro h5 F5 N5
      have hlt : ∀ x ∈ (D, LCg.lst (bs.map Value.ref)) :: (I, oI) :: led L o1 o2 o3 o4 oL pen inner p tp q tq np pv k (T5 ++ (T4 ++ O)), @LT.lt Nat _ x.1 h4.objs.size := fun x hx => Heap.lt_size (N4 x hx).1
      dsimp only at N5
      generalize h4.objs.size = Dn at hlt N5 ⊢
      rw [← List.map_append] at N5
      dsimp only
      walk_at "m goC"
      rename_i h6 F6 N6
      refine TurnE.intro (led L o1 o2 o3 o4 oL pen inner p tp q tq np pv k ((Dn, W.listOf ((as ++ bs).map Value.ref).toArray 0) :: (T5 ++ (T4 ++ O)))) F6 N6 (fun x hx => ?sub) (fun x hx => ?nI) ⟨oL, Dn, (Dn, W.listOf ((as ++ bs).map Value.ref).toArray 0) :: (T5 ++ T4), if_pos rfl, fun x hx => by rw [List.cons_append, List.append_assoc] at hx; exact hx, ?pok, ⟨as ++ bs, 0, List.mem_cons_self, ?len, fun j b r h1 h2 => ?items⟩, _, dL⟩
      case sub =>
        revert hx
        revert x
        walk_at "m perm"
      case nI =>
        have hx2 : x = (Dn, W.listOf ((as ++ bs).map Value.ref).toArray 0) ∨ x ∈ led L o1 o2 o3 o4 oL pen inner p tp q tq np pv k (T5 ++ (T4 ++ O)) := by
          refine List.mem_cons.mp ?_
          revert hx
          revert x
          walk_at "m perm"
        rcases hx2 with rfl | hx2
        · exact Ne.symm (Nat.ne_of_lt (hlt (I, oI) (by k_mem)))
        · simp only [led, List.mem_cons] at hx2
          rcases hx2 with rfl | rfl | rfl | rfl | rfl | rfl | rfl | hx2
          · exact n5
          · exact n4
          · exact n3
          · exact n2
          · exact n1
          · exact n6
          · exact n7
          · rcases List.mem_append.mp hx2 with hx2 | hx2
            · exact hT5I x hx2
            · exact nT x hx2
      case pok =>
        have := hP5.cons (a := Dn) (o := W.listOf ((as ++ bs).map Value.ref).toArray 0) (by
          intro b hb
          simp only [List.mem_cons, List.not_mem_nil, or_false] at hb
          rcases hb with rfl | rfl | rfl | rfl | rfl | rfl | rfl
          · exact Ne.symm (Nat.ne_of_lt (hlt (b, penObj inner p tp q tq np) (by k_mem)))
          · exact Ne.symm (Nat.ne_of_lt (hlt (b, W.listOf pv.toArray k) (by k_mem)))
          · exact Ne.symm (Nat.ne_of_lt (hlt (_, oL) (by k_mem)))
          · exact Ne.symm (Nat.ne_of_lt (hlt (_, o4) (by k_mem)))
          · exact Ne.symm (Nat.ne_of_lt (hlt (_, o3) (by k_mem)))
          · exact Ne.symm (Nat.ne_of_lt (hlt (_, o2) (by k_mem)))
          · exact Ne.symm (Nat.ne_of_lt (hlt (_, o1) (by k_mem))))
        rw [List.cons_append, List.append_assoc]
        exact this
      case len =>
        rw [List.length_append, hlw, ← hwo.1, wordsUp, List.length_append]
      case items =>
        rw [wordsUp] at h2
        rcases Nat.lt_or_ge j as.length with q | q
        · rw [List.getElem?_append_left q] at h1
          rw [List.getElem?_append_left (by omega)] at h2
          exact (hzw j b r h1 h2).mono fun x hx => List.mem_cons_of_mem _ (List.mem_append_right _ hx)
        · rw [List.getElem?_append_right q] at h1
          rw [List.getElem?_append_right (by omega)] at h2
          rw [hlw] at h1
          exact (hwo.2 _ b r h1 h2).mono fun x hx => List.mem_cons_of_mem _ (List.mem_append_left _ hx)
  · rintro m₁ nw h tk ⟨o5', wa', T4, hm, hnw, hP4, hwd, v5, d5'⟩ F1 N1
    dsimp only
    exact K o5' wa' T4 m₁ h tk F1 hm (News.sub N1 hnw) hP4 hwd
end
section
theorem quiet26 : True := by
  w_top off
  exact True.intro
theorem tup_eq_nil {prog : Program} {w : World} {A : Around} {E : Value → Shared → Prop} {s : Shared} {h₀ : Heap} {L : Addr} {news O : List (Addr × Obj)} {a b : Addr} {r : List Int} {Q : Value → Shared → Prop} (N : News h₀ L s.heap news) (hO : ∀ p ∈ O, p ∈ news)
    (h1 : TupIn O a r) (h2 : (b, ({ cls := .type "tuple", data := .seq #[] } : Obj)) ∈ news) (hu : A.units + 64 < cLine) (h : Q (.bool (decide (r = []))) s) : wpAny (model prog w) A (compareOp .Eq (.ref a) (.ref b)) Q E s := by
  have N0 := News.sub N hO
  have hb : Reads s.heap (.ref b) (rowD []) [] := .tuple (News.get N h2) rfl rfl .nil
  have hs : ∀ r : List Int, PySem.SeqAt.shaped (rowD r) = true := fun r => by
    simp only [PySem.SeqAt.shaped, rowD, PyData.canLay0, ke_canLayAll0, PyData.depth, ke_depthAll]
    decide
  refine eq_dataH (h1.reads N0) hb (hs _) (hs _) hu ?_
  have e : PyData.eqv (rowD r) (rowD []) = decide (r = []) := by
    rw [rowD, rowD, PyData.eqv]
    exact ked_eqvAll r []
  rw [e]
  exact h
def dueRaw (rows tags : Rows) (l : List Int) : List Int := l.filter fun k => decide (0 < k) && (decide (rowOf tags k = []) && decide (-1 ∈ rowOf rows k))
theorem dueRaw_snoc {rows tags : Rows} {l : List Int} {k : Int} : dueRaw rows tags (l ++ [k]) = dueRaw rows tags l ++ (if (decide (0 < k) && (decide (rowOf tags k = []) && decide (-1 ∈ rowOf rows k))) = true then [k] else []) := by
  unfold dueRaw
  rw [List.filter_append, List.filter_cons, List.filter_nil]
noncomputable def dueF (rows tags : Rows) : List Nat := insAll (dueRaw rows tags ((wordsUp 3).map (walkF rows))) []
theorem words_bits : ∀ w ∈ wordsUp 3, ∀ k ∈ w, 0 ≤ k ∧ k < 2 := by decide +kernel
local macro_rules | `(tactic| walk_at "compareOp Eq ref ref") => `(tactic| (k_here; (with_reducible show wpAny _ _ (compareOp CmpOp.Eq (Value.ref _) (Value.ref _)) _ _ _); k_dflt (refine' tup_eq_nil ?k1 ?k2 ?k3 ?k4 ?k5 ?_; (case k1 => k_asm); (case k3 => with_reducible assumption); (case k2 => walk_at "m sub"); (case k4 => k_mem); (case k5 => omega); k_whole)))
set_option maxRecDepth 100000 in
set_option maxHeartbeats 8000000 in
theorem seg5 {w : World} {A : Around} {s : Shared} {h₀ : Heap} {L fa : Addr} {cd : Value} {m : Str → Option Value} {o1 o2 o3 o4 o5 : Obj} {pen inner ra ta wa : Addr} {p q : Int} {tp tq : Tok} {np k : Nat} {pv : List Value} {O : List (Addr × Obj)} {rows tags : Rows} {Q : Flow → Shared → Prop} {E : Value → Shared → Prop}
    (C : Ctx w (A.deeper (lawE L fa cd)) 8 h₀) (F : Fr h₀ L s.heap m) (hm : m (Str.ofString "words") = some (.ref wa)) (N : News h₀ L s.heap (led L o1 o2 o3 o4 o5 pen inner p tp q tq np pv k O)) (hP : PenOk L pen inner p q pv 13 O)
    (d3 : o3.data = .cell (some (.ref ra))) (d4 : o4.data = .cell (some (.ref ta))) (hR : RowsIn O ra rows) (hT : TagsIn O ta tags) (hWd : TagsIn O wa (wordsUp 3)) (hW : Wf rows) (hW4 : rows.length ≤ 4) (hTl : tags.length = rows.length) (hu64 : (A.deeper (lawE L fa cd)).units + 64 < cLine)
    (K : ∀ du dvs c m' h' tk, Fr h₀ L h' m' → m' (Str.ofString "due") = some (.ref du) → News h₀ L h' (led L o1 o2 o3 o4 o5 pen inner p tp q tq np pv k ((du, W.listOf dvs.toArray c) :: O)) → PenOk L pen inner p q pv 13 ((du, W.listOf dvs.toArray c) :: O) → IntsAre dvs ((dueF rows tags).map fun k : Nat => (k : Int)) → dueF rows tags ∈ Pls →
      wpAny (model PySem.Challenge.rw_pq0568_01.prog w) (A.deeper (lawE L fa cd)) (execs (lawFD.body.drop 8) (lawE L fa cd)) Q E { s with heap := h', toks := tk }) :
    wpAny (model PySem.Challenge.rw_pq0568_01.prog w) (A.deeper (lawE L fa cd)) (execs (lawFD.body.drop 6) (lawE L fa cd)) Q E s := by
  have C2 := C
  have X0 := C.X
  revert X0
  k_fill
  intro X0
  obtain ⟨hh, hd, hu, X, T⟩ := C
  obtain ⟨p', l, me, mg, mb, T⟩ := T
  dsimp only [lawE, lawFD, List.drop_succ_cons, List.drop_zero]
  dsimp only [lawE, lawFD] at hu64 hh
  obtain ⟨as, cw, hmw, hlw, hzw⟩ := hWd
  have hl15 : (wordsUp 3).length = 15 := by decide +kernel
  have hW1 := hW.1
  unfold led at N
  k_unmd
  try k_fold
  walk_at "m goR"
  refine LCg.CompSrc.ledger hh (by k_asm) (by k_asm) (k := cw) (its := (as.map Value.ref).toArray) (by k_mem) (by rw [List.size_toArray, List.length_map, hlw, sizeLine_eq]; omega) ?_
  intro g1
  have hasz : (as.map Value.ref).toArray.size = (wordsUp 3).length := by rw [List.size_toArray, List.length_map, hlw]
  rw [hasz]
  refine comp_U (fun i ys nw => nw = led L o1 o2 o3 o4 o5 pen inner p tp q tq np pv k O ∧ IntsAre ys (((wordsUp 3).take i).map (walkF rows))) ⟨rfl, .nil⟩ ?_ ?_
  · rintro i ys nw v I oI Cx oC D m₂ h tk E' hi ⟨rfl, hys⟩ hPv hC hx F' N' off ne
    have e1 : as[i]? = some as[i] := by simp [hlw, hi]
    have hv : v = .ref as[i] := by simpa [hlw, hi] using hPv.symm
    subst hv
    obtain ⟨wvs, wc, hmwd, hwi⟩ := hzw i as[i] (wordsUp 3)[i] e1 (by simp [hi])
    dsimp only
    unfold led at N'
    k_unmd
    try k_fold
    walk_at "m goC"
    refine walk_ok (O := O) (word := (wordsUp 3)[i]) (Ctx.le C2 (by decide)) (by k_asm) (by k_asm) (by walk_at "m sub") hR hW hmwd hwi (fun k hk => words_bits _ (List.getElem_mem hi) k hk) ?_
    intro t h' tk' F' N'
    refine LCg.CompEnd.intro F' N' (led L o1 o2 o3 o4 o5 pen inner p tp q tq np pv k O) (fun x hx => hx) off (.inr ⟨W.listOf (as.map Value.ref).toArray cw, by unfold led; exact List.mem_cons_of_mem _ (List.mem_cons_of_mem _ (List.mem_cons_of_mem _ (List.mem_cons_of_mem _ (List.mem_cons_of_mem _ (List.mem_cons_of_mem _ (List.mem_cons_of_mem _ (hmw))))))), rfl, _, rfl⟩) ⟨rfl, ?_⟩
    rw [List.take_add_one, List.map_append]
    have e9 : (wordsUp 3)[i]?.toList = [(wordsUp 3)[i]] := by simp [hi]
    rw [e9]
    exact IntsAre.append hys (.cons _ t .nil)
  · rintro ys nw ⟨rfl, hys⟩
    intro Dh h4 tk4 F4 N4 o4'
    rw [List.take_length] at hys
    unfold led at N4
    walk_at "m goR"
    have hysl := hys.length
    rw [List.length_map, hl15] at hysl
    refine LCt.CompSrcT.ledger hh (by k_asm) (by k_asm) (k := ys.length) (its := ys.toArray) List.mem_cons_self (by rw [List.size_toArray, hysl, sizeLine_eq]; omega) ?_
    intro g2
    rw [List.size_toArray]
    generalize hheld : (wordsUp 3).map (walkF rows) = held at hys
    have hheldb : ∀ k ∈ held, -1 ≤ k ∧ k < rows.length := by
      intro k hk
      rw [← hheld] at hk
      obtain ⟨wd, hwd, rfl⟩ := List.mem_map.mp hk
      exact walkF_bounds hW (fun j hj => words_bits wd hwd j hj)
    refine comp_T (fun i ys2 nw => nw = (Dh, LCg.lst ys) :: led L o1 o2 o3 o4 o5 pen inner p tp q tq np pv k O ∧ IntsAre ys2 (dueRaw rows tags (held.take i))) ⟨rfl, .nil⟩ ?_ ?_
    · rintro i ys2 nw v I oI Cx oC D m₂ h tk E' hi ⟨rfl, hys2⟩ hPv hC hx F' N' off ne
      obtain ⟨kk, tk2, rfl, hkk⟩ := hys.at i v (by simpa using hPv)
      obtain ⟨hb1, hb2⟩ := hheldb kk (List.mem_of_getElem? hkk)
      have etk : held.take (i + 1) = held.take i ++ [kk] := by rw [List.take_add_one, hkk]; rfl
      dsimp only
      unfold led at N'
      k_unmd
      try k_fold
      walk_at "m goC"
      · have hf : (decide (0 < kk) && (decide (rowOf tags kk = []) && decide (-1 ∈ rowOf rows kk))) = true := by
          have q1 : 0 < kk := by assumption
          have q2 : rowOf tags kk = [] := by assumption
          have q3 : -1 ∈ rowOf rows kk := by assumption
          simp [q1, q2, q3]
        refine LCg.CompEnd.intro (by k_asm) (by k_asm) ((Dh, LCg.lst ys) :: led L o1 o2 o3 o4 o5 pen inner p tp q tq np pv k O) (fun x hx => List.mem_cons_of_mem _ hx) off (.inr ⟨LCg.lst ys, List.mem_cons_self, rfl, _, rfl⟩) ⟨rfl, ?_⟩
        rw [etk, dueRaw_snoc, hf, if_pos rfl]
        exact IntsAre.append hys2 (.cons _ _ .nil)
      · have hf : (decide (0 < kk) && (decide (rowOf tags kk = []) && decide (-1 ∈ rowOf rows kk))) = false := by
          have q3 : ¬ -1 ∈ rowOf rows kk := by assumption
          simp [q3]
        refine LCg.CompEnd.intro (by k_asm) (by k_asm) ((Dh, LCg.lst ys) :: led L o1 o2 o3 o4 o5 pen inner p tp q tq np pv k O) (fun x hx => List.mem_cons_of_mem _ hx) off (.inr ⟨LCg.lst ys, List.mem_cons_self, rfl, _, rfl⟩) ⟨rfl, ?_⟩
        rw [etk, dueRaw_snoc, hf, if_neg (by decide), List.append_nil]
        exact hys2
      · have hf : (decide (0 < kk) && (decide (rowOf tags kk = []) && decide (-1 ∈ rowOf rows kk))) = false := by
          have q2 : ¬ rowOf tags kk = [] := by assumption
          simp [q2]
        refine LCg.CompEnd.intro (by k_asm) (by k_asm) ((Dh, LCg.lst ys) :: led L o1 o2 o3 o4 o5 pen inner p tp q tq np pv k O) (fun x hx => List.mem_cons_of_mem _ hx) off (.inr ⟨LCg.lst ys, List.mem_cons_self, rfl, _, rfl⟩) ⟨rfl, ?_⟩
        rw [etk, dueRaw_snoc, hf, if_neg (by decide), List.append_nil]
        exact hys2
      · have hf : (decide (0 < kk) && (decide (rowOf tags kk = []) && decide (-1 ∈ rowOf rows kk))) = false := by
          have q1 : ¬ 0 < kk := by assumption
          simp [q1]
        refine LCg.CompEnd.intro (by k_asm) (by k_asm) ((Dh, LCg.lst ys) :: led L o1 o2 o3 o4 o5 pen inner p tp q tq np pv k O) (fun x hx => hx) off (.inr ⟨LCg.lst ys, List.mem_cons_self, rfl, _, rfl⟩) ⟨rfl, ?_⟩
        rw [etk, dueRaw_snoc, hf, if_neg (by decide), List.append_nil]
        exact hys2
    · rintro ys2 nw ⟨rfl, hys2⟩
      intro Dd h6 tk6 F6 N6 o6
      have hyl2 : held.length = ys.length := hys.length.symm
      rw [← hyl2, List.take_length] at hys2
      have hsm : Smalls (dueRaw rows tags held) := by
        intro n hn
        have h1 := List.mem_filter.mp hn
        obtain ⟨hb1, hb2⟩ := hheldb n h1.1
        have h2 : 0 < n := by
          have := h1.2
          simp only [Bool.and_eq_true, decide_eq_true_eq] at this
          exact this.1
        refine ⟨n.toNat, ?_, by omega⟩
        have : n.toNat = 1 ∨ n.toNat = 2 ∨ n.toNat = 3 := by omega
        rcases this with e | e | e <;> rw [e] <;> simp
      dsimp only
      unfold led at N6
      walk_at "m goC"
      refine' set_ok (c := ys2.length) (vs := ys2) (ns := dueRaw rows tags held) ?hh ?FF ?NN ?mm ?ii ?ss ?_
      case hh => exact hh
      case FF => k_asm
      case NN => k_asm
      case mm => k_mem
      case ii => exact hys2
      case ss => exact hsm
      intro Xs oX h7 tk7 F7 N7 l7 hSO hPl
      dsimp only
      walk_at "m goC"
      refine sorted_ok (a := Xs) (o := oX) hh (by k_asm) (by k_asm) (by k_mem) hSO hPl ?_
      intro Ds dvs cD h8 tk8 F8 N8 l8 hdi
      dsimp only
      walk_at "m goR"
      rename_i h9 F9 N9
      have hne : ∀ x ∈ led L o1 o2 o3 o4 o5 pen inner p tp q tq np pv k O, @Ne Nat x.1 Ds := fun x hx => Nat.ne_of_lt (l8 x (List.mem_cons_of_mem _ (List.mem_cons_of_mem _ (List.mem_cons_of_mem _ hx))))
      have hdue : insAll (dueRaw rows tags held) [] = dueF rows tags := by rw [dueF, hheld]
      rw [hdue] at hdi hPl
      refine K Ds dvs cD _ h9 _ F9 (if_pos rfl) (News.sub N9 fun x hx => ?_) (hP.cons fun b hb => ?_) hdi hPl
      · revert hx
        revert x
        walk_at "m perm"
      · simp only [List.mem_cons, List.not_mem_nil, or_false] at hb
        rcases hb with rfl | rfl | rfl | rfl | rfl | rfl | rfl
        · exact Ne.symm (hne (b, penObj inner p tp q tq np) (by k_mem))
        · exact Ne.symm (hne (b, W.listOf pv.toArray k) (by k_mem))
        · exact Ne.symm (hne (_, o5) (by k_mem))
        · exact Ne.symm (hne (_, o4) (by k_mem))
        · exact Ne.symm (hne (_, o3) (by k_mem))
        · exact Ne.symm (hne (_, o2) (by k_mem))
        · exact Ne.symm (hne (_, o1) (by k_mem))
end
section
theorem quiet27 : True := by
  w_top off
  exact True.intro
theorem pen_ne {L : Addr} {o1 o2 o3 o4 o5 : Obj} {pen inner : Addr} {p q : Int} {tp tq : Tok} {np k : Nat} {pv : List Value} {O : List (Addr × Obj)} {D : Addr} (hne : ∀ x ∈ led L o1 o2 o3 o4 o5 pen inner p tp q tq np pv k O, @Ne Nat x.1 D) :
    ∀ b ∈ [pen, inner, L + 1 + 1 + 1 + 1 + 1, L + 1 + 1 + 1 + 1, L + 1 + 1 + 1, L + 1 + 1, L + 1], @Ne Nat D b := by
  intro b hb
  simp only [List.mem_cons, List.not_mem_nil, or_false] at hb
  rcases hb with rfl | rfl | rfl | rfl | rfl | rfl | rfl
  · exact Ne.symm (hne (b, penObj inner p tp q tq np) (by k_mem))
  · exact Ne.symm (hne (b, W.listOf pv.toArray k) (by k_mem))
  · exact Ne.symm (hne (_, o5) (by k_mem))
  · exact Ne.symm (hne (_, o4) (by k_mem))
  · exact Ne.symm (hne (_, o3) (by k_mem))
  · exact Ne.symm (hne (_, o2) (by k_mem))
  · exact Ne.symm (hne (_, o1) (by k_mem))
theorem led_cons {L : Addr} {o1 o2 o3 o4 o5 : Obj} {pen inner : Addr} {p q : Int} {tp tq : Tok} {np k : Nat} {pv : List Value} {O O' : List (Addr × Obj)} {x : Addr × Obj} (h : x ∈ led L o1 o2 o3 o4 o5 pen inner p tp q tq np pv k (O' ++ O)) :
    x ∈ O' ∨ x ∈ led L o1 o2 o3 o4 o5 pen inner p tp q tq np pv k O := by
  simp only [led, List.mem_cons, List.mem_append] at h ⊢
  rcases h with h | h | h | h | h | h | h | h | h <;> simp [h]
theorem led_tail {L : Addr} {o1 o2 o3 o4 o5 : Obj} {pen inner : Addr} {p q : Int} {tp tq : Tok} {np k : Nat} {pv : List Value} {O : List (Addr × Obj)} {x : Addr × Obj} (h : x ∈ O) : x ∈ led L o1 o2 o3 o4 o5 pen inner p tp q tq np pv k O := by
  simp only [led, List.mem_cons]
  simp [h]
set_option maxRecDepth 100000 in
set_option maxHeartbeats 8000000 in
theorem seg6 {w : World} {A : Around} {s : Shared} {h₀ : Heap} {L fa : Addr} {cd : Value} {m : Str → Option Value} {o1 o2 o3 o4 o5 : Obj} {pen inner ra ta du : Addr} {p q : Int} {tp tq : Tok} {np k : Nat} {pv : List Value} {O : List (Addr × Obj)} {rows tags : Rows} {Q : Flow → Shared → Prop} {E : Value → Shared → Prop}
    (C : Ctx w (A.deeper (lawE L fa cd)) 8 h₀) (F : Fr h₀ L s.heap m) (hm : m (Str.ofString "due") = some (.ref du)) (N : News h₀ L s.heap (led L o1 o2 o3 o4 o5 pen inner p tp q tq np pv k O)) (hP : PenOk L pen inner p q pv 13 O)
    (d3 : o3.data = .cell (some (.ref ra))) (d4 : o4.data = .cell (some (.ref ta))) (hR : RowsIn O ra rows) (hT : TagsIn O ta tags) (hW : Wf rows) (hW4 : rows.length ≤ 4) (hTl : tags.length = rows.length) (hrl : ∀ r ∈ rows, r.length = 2)
    (K : ∀ mc T m' h' tk, Fr h₀ L h' m' → m' (Str.ofString "due") = some (.ref du) → m' (Str.ofString "machine") = some (.ref mc) → News h₀ L h' (led L o1 o2 o3 o4 o5 pen inner p tp q tq np pv k (T ++ O)) → PenOk L pen inner p q pv 13 (T ++ O) → DfaIn w.params (T ++ O) mc rows tags →
      wpAny (model PySem.Challenge.rw_pq0568_01.prog w) (A.deeper (lawE L fa cd)) (execs (lawFD.body.drop 9) (lawE L fa cd)) Q E { s with heap := h', toks := tk }) :
    wpAny (model PySem.Challenge.rw_pq0568_01.prog w) (A.deeper (lawE L fa cd)) (execs (lawFD.body.drop 8) (lawE L fa cd)) Q E s := by
  have C2 := C
  have X0 := C.X
  revert X0
  k_fill
  intro X0
  obtain ⟨hh, hd, hu, X, T⟩ := C
  obtain ⟨p', l, me, mg, mb, T⟩ := T
  dsimp only [lawE, lawFD, List.drop_succ_cons, List.drop_zero]
  dsimp only [lawE, lawFD] at hh
  obtain ⟨as, cw, hmw, hlw, hzw⟩ := hR
  obtain ⟨ts, ct, hmt, hlt, hzt⟩ := hT
  have hW1 := hW.1
  unfold led at N
  k_unmd
  try k_fold
  walk_at "m goR"
  refine LCg.CompSrc.ledger hh (by k_asm) (by k_asm) (k := cw) (its := (as.map Value.ref).toArray) (by k_mem) (by rw [List.size_toArray, List.length_map, hlw, sizeLine_eq]; omega) ?_
  intro g1
  have hasz : (as.map Value.ref).toArray.size = rows.length := by rw [List.size_toArray, List.length_map, hlw]
  rw [hasz]
  refine comp_U (fun i ys nw => ∃ bs T2, ys = bs.map Value.ref ∧ nw = led L o1 o2 o3 o4 o5 pen inner p tp q tq np pv k (T2 ++ O) ∧ PenOk L pen inner p q pv 13 (T2 ++ O) ∧ bs.length = i ∧ ∀ (j : Nat) (b : Addr) (r : List Int), bs[j]? = some b → rows[j]? = some r → RowIn T2 b r) ⟨[], [], rfl, rfl, hP, rfl, by simp⟩ ?_ ?_
  · rintro i ys nw v I oI Cx oC D m₂ h tk E' hi ⟨bs, T2, rfl, rfl, hP2, hbl, hbs⟩ hPv hC hx F' N' off ne
    have e1 : as[i]? = some as[i] := by simp [hlw, hi]
    have hv : v = .ref as[i] := by simpa [hlw, hi] using hPv.symm
    subst hv
    obtain ⟨rvs, rc, hmr, hri⟩ := hzw i as[i] rows[i] e1 (by simp [hi])
    have hrl2 : rows[i].length = 2 := hrl _ (List.getElem_mem hi)
    have hrvl := hri.length
    dsimp only
    unfold led at N'
    k_unmd
    try k_fold
    walk_at "m goC"
    rename_i Dn c9 h9 F9 N9 l9
    have hall : AllLt Dn ((I, oI) :: (Cx, oC) :: (D, LCg.lst (bs.map Value.ref)) :: led L o1 o2 o3 o4 o5 pen inner p tp q tq np pv k (T2 ++ O)) := l9
    have hn := off_of_allLt hall
    refine LCg.CompEnd.intro F9 N9 (led L o1 o2 o3 o4 o5 pen inner p tp q tq np pv k ((Dn, W.listOf rvs.toArray c9) :: T2 ++ O)) (fun x hx => ?_) (LCg.Off3.of fun x hx => ?_) (.inr ⟨W.listOf (as.map Value.ref).toArray cw, led_tail (List.mem_append_right _ hmw), rfl, _, rfl⟩)
      ⟨bs ++ [Dn], (Dn, W.listOf rvs.toArray c9) :: T2, by simp, rfl, hP2.cons (pen_ne fun x hx => hn x (List.mem_cons_of_mem _ (List.mem_cons_of_mem _ (List.mem_cons_of_mem _ hx)))), by simp [hbl], fun j b r h1 h2 => ?_⟩
    · rcases List.mem_cons.mp hx with rfl | hx
      · simp
      · rcases List.mem_cons.mp hx with rfl | hx
        · simp
        · rcases List.mem_cons.mp hx with rfl | hx
          · simp
          · rcases led_cons (O' := [(Dn, W.listOf rvs.toArray c9)]) hx with h | h
            · rw [List.mem_singleton.mp h]; exact List.mem_cons_self
            · exact List.mem_cons_of_mem _ (List.mem_cons_of_mem _ (List.mem_cons_of_mem _ (List.mem_cons_of_mem _ h)))
    · rcases led_cons (O' := [(Dn, W.listOf rvs.toArray c9)]) hx with h | h
      · rw [List.mem_singleton.mp h]
        exact ⟨Ne.symm (hn (I, oI) (by k_mem)), Ne.symm (hn (Cx, oC) (by k_mem)), Ne.symm (hn (D, LCg.lst (bs.map Value.ref)) (by k_mem))⟩
      · exact LCg.Off3.mem off x h
    · rcases Nat.lt_trichotomy j bs.length with qq | qq | qq
      · rw [List.getElem?_append_left qq] at h1
        exact (hbs j b r h1 h2).mono fun x hx => List.mem_cons_of_mem _ hx
      · subst qq
        have e9 : Dn = b := by simpa using h1
        have e8 : rows[i] = r := by
          rw [hbl] at h2
          simpa [hi] using h2
        subst e9 e8
        exact ⟨rvs, c9, List.mem_cons_self, hri⟩
      · rw [List.getElem?_eq_none (by simp; omega)] at h1; cases h1
  · rintro ys nw ⟨bs, T2, rfl, rfl, hP2, hbl, hbs⟩
    intro Dr h4 tk4 F4 N4 o4'
    unfold led at N4
    dsimp only
    walk_at "m goC"
    rename_i Dt c9 h9 F9 N9 l9
    have ofs := Off1.mem o4'
    have hall : AllLt Dt ((Dr, LCg.lst (bs.map Value.ref)) :: led L o1 o2 o3 o4 o5 pen inner p tp q tq np pv k (T2 ++ O)) := l9
    have hn := off_of_allLt hall
    refine new_ok (ra := Dr) (ta := Dt) (Ctx.le C2 (by decide)) F9 N9 ?_
    intro x dx t1 t2 h' tk' F' N' lt1 lt2
    dsimp only
    walk_at "m goR"
    rename_i hX FX NX
    have hn2 : ∀ y ∈ (Dt, W.listOf (ts.map Value.ref).toArray c9) :: (Dr, LCg.lst (bs.map Value.ref)) :: led L o1 o2 o3 o4 o5 pen inner p tp q tq np pv k (T2 ++ O), @Ne Nat y.1 dx := fun y hy => Nat.ne_of_lt (lt1 y hy)
    have hn3 : ∀ y ∈ (Dt, W.listOf (ts.map Value.ref).toArray c9) :: (Dr, LCg.lst (bs.map Value.ref)) :: led L o1 o2 o3 o4 o5 pen inner p tp q tq np pv k (T2 ++ O), @Ne Nat y.1 x := fun y hy => Nat.ne_of_lt (Nat.lt_trans (lt1 y hy) lt2)
    refine K x ((x, instObj 76 dx) :: (dx, dfaD w.params Dr Dt t1 t2) :: (Dt, W.listOf (ts.map Value.ref).toArray c9) :: (Dr, LCg.lst (bs.map Value.ref)) :: T2) _ hX _ FX ?_ (if_pos rfl) (News.sub NX fun y hy => ?_) ((((hP2.cons (pen_ne ofs)).cons (pen_ne fun y hy => hn y (List.mem_cons_of_mem _ hy))).cons (pen_ne fun y hy => hn2 y (List.mem_cons_of_mem _ (List.mem_cons_of_mem _ hy)))).cons (pen_ne fun y hy => hn3 y (List.mem_cons_of_mem _ (List.mem_cons_of_mem _ hy)))) ?_
    · exact Eq.trans (if_neg (by decide)) hm
    · rcases led_cons (O' := [(x, instObj 76 dx), (dx, dfaD w.params Dr Dt t1 t2), (Dt, W.listOf (ts.map Value.ref).toArray c9), (Dr, LCg.lst (bs.map Value.ref))]) hy with h | h
      · simp only [List.mem_cons, List.not_mem_nil, or_false] at h
        rcases h with rfl | rfl | rfl | rfl <;> simp
      · exact List.mem_cons_of_mem _ (List.mem_cons_of_mem _ (List.mem_cons_of_mem _ (List.mem_cons_of_mem _ h)))
    · exact ⟨dx, Dr, Dt, t1, t2, by simp, by simp, ⟨bs, _, List.mem_append_left _ (List.mem_cons_of_mem _ (List.mem_cons_of_mem _ (List.mem_cons_of_mem _ List.mem_cons_self))), hbl, fun j b r h1 h2 => (hbs j b r h1 h2).mono fun y hy => by simp [hy]⟩,
        ⟨ts, c9, by simp, hlt, fun j b r h1 h2 => (hzt j b r h1 h2).mono fun y hy => by simp [hy]⟩⟩
end
section
theorem quiet28 : True := by
  w_top off
  exact True.intro
set_option maxRecDepth 100000 in
set_option maxHeartbeats 8000000 in
theorem seg7 {w : World} {A : Around} {s : Shared} {h₀ : Heap} {L fa : Addr} {cd : Value} {m : Str → Option Value} {o1 o2 o3 o4 o5 : Obj} {pen inner ra ta du mc : Addr} {p q : Int} {tp tq : Tok} {np k cdu : Nat} {pv dvs : List Value} {O : List (Addr × Obj)} {rows tags : Rows} {Q : Flow → Shared → Prop} {E : Value → Shared → Prop}
    (C : Ctx w (A.deeper (lawE L fa cd)) 8 h₀) (F : Fr h₀ L s.heap m) (hm : m (Str.ofString "due") = some (.ref du)) (hm2 : m (Str.ofString "machine") = some (.ref mc)) (N : News h₀ L s.heap (led L o1 o2 o3 o4 o5 pen inner p tp q tq np pv k O)) (hP : PenOk L pen inner p q pv 13 O)
    (d3 : o3.data = .cell (some (.ref ra))) (d4 : o4.data = .cell (some (.ref ta))) (hR : RowsIn O ra rows) (hT : TagsIn O ta tags) (hW : Wf rows) (hW4 : rows.length ≤ 4) (hTl : tags.length = rows.length) (hrl : ∀ r ∈ rows, r.length = 2) (hSh : Short tags)
    (hdu : (du, W.listOf dvs.toArray cdu) ∈ O) (hdi : IntsAre dvs ((dueF rows tags).map fun k : Nat => (k : Int))) (hD : DfaIn w.params O mc rows tags) (hu64 : (A.deeper (lawE L fa cd)).units + 64 < cLine)
    (hdue : ∀ bs : List Bool, bs.length = rows.length → (∀ i : Int, 0 ≤ i → (on bs i ↔ Reach (linksOf rows) i)) → backsF rows tags bs (rows.length - 1) = (dueF rows tags).map fun k : Nat => (k : Int))
    (K : ∀ h' tk, Fr h₀ L h' m → News h₀ L h' (led L o1 o2 o3 o4 o5 pen inner p tp q tq np pv k O) →
      wpAny (model PySem.Challenge.rw_pq0568_01.prog w) (A.deeper (lawE L fa cd)) (execs (lawFD.body.drop 10) (lawE L fa cd)) Q E { s with heap := h', toks := tk }) :
    wpAny (model PySem.Challenge.rw_pq0568_01.prog w) (A.deeper (lawE L fa cd)) (execs (lawFD.body.drop 9) (lawE L fa cd)) Q E s := by
  have C2 := C
  have X0 := C.X
  revert X0
  k_fill
  intro X0
  obtain ⟨hh, hd, hu, X, T⟩ := C
  obtain ⟨p', l, me, mg, mb, T⟩ := T
  dsimp only [lawE, lawFD, List.drop_succ_cons, List.drop_zero]
  dsimp only [lawE, lawFD] at hh hu64
  have hR' := hR
  have hT' := hT
  have hD' := hD
  obtain ⟨as, cw, hmw, hlw, hzw⟩ := hR'
  obtain ⟨ts, ct, hmt, hlt, hzt⟩ := hT'
  obtain ⟨dx, ra2, ta2, u1, u2, hd1, hd2, hR2, hT2⟩ := hD'
  have hW1 := hW.1
  unfold led at N
  k_unmd
  try k_fold
  walk_at "m goR"
  refine backs_ok (O := O) (Ctx.le C2 (by decide)) (by k_asm) (by k_asm) (by walk_at "m sub") hD hW hTl hSh ?_
  intro D vs bs c h' tk' F' N' hiv hbl hbs
  rw [hdue bs hbl hbs] at hiv
  try dsimp only
  walk_at "m goN"
  refine ke_ne_ints (by exact islist_of N' List.mem_cons_self) (by exact islist_of N' (by k_mem)) hiv hdi hu64 ?_
  rw [decide_eq_true rfl, Bool.not_true]
  walk_at "m goN"
  refine told_ok (O := O) (Ctx.le C2 (by decide)) (by k_asm) (by k_asm) (by walk_at "m sub") hD hW (by omega) hrl ?_
  intro a Ta h2 tk2 F2 N2 hTo
  have N3 : News h₀ L h2 (led L o1 o2 o3 o4 o5 pen inner p tp q tq np pv k (Ta ++ O)) := News.sub N2 fun x hx => by
    rcases led_cons hx with h | h
    · exact List.mem_append_left _ h
    · exact List.mem_append_right _ (List.mem_cons_of_mem _ h)
  clear N2 N' F'
  unfold led at N3
  try dsimp only
  walk_at "m goN"
  refine LCg.CompSrc.ledger hh (by k_asm) (by k_asm) (k := cw) (its := (as.map Value.ref).toArray) (by k_mem) (by rw [List.size_toArray, List.length_map, hlw, sizeLine_eq]; omega) ?_
  intro g1
  have hasz : (as.map Value.ref).toArray.size = rows.length := by rw [List.size_toArray, List.length_map, hlw]
  rw [hasz]
  refine comp_U (fun i ys nw => ∃ bs T2, ys = bs.map Value.ref ∧ nw = led L o1 o2 o3 o4 o5 pen inner p tp q tq np pv k (T2 ++ (Ta ++ O)) ∧ bs.length = i ∧ ∀ (j : Nat) (b : Addr) (r : List Int), bs[j]? = some b → rows[j]? = some r → TupIn T2 b r) ⟨[], [], rfl, rfl, rfl, by simp⟩ ?_ ?_
  · rintro i ys nw v I oI Cx oC D3 m₂ h tk E' hi ⟨bs3, T2, rfl, rfl, hbl3, hbs3⟩ hPv hC hx F' N' off ne
    have e1 : as[i]? = some as[i] := by simp [hlw, hi]
    have hv : v = .ref as[i] := by simpa [hlw, hi] using hPv.symm
    subst hv
    obtain ⟨rvs, rc, hmr, hri⟩ := hzw i as[i] rows[i] e1 (by simp [hi])
    have hrl2 : rows[i].length = 2 := hrl _ (List.getElem_mem hi)
    have hrvl := hri.length
    dsimp only
    unfold led at N'
    k_unmd
    try k_fold
    walk_at "m goN"
    rename_i Dn h9 F9 N9 l9
    have hall : AllLt Dn ((I, oI) :: (Cx, oC) :: (D3, LCg.lst (bs3.map Value.ref)) :: led L o1 o2 o3 o4 o5 pen inner p tp q tq np pv k (T2 ++ (Ta ++ O))) := l9
    have hn := off_of_allLt hall
    refine LCg.CompEnd.intro F9 N9 (led L o1 o2 o3 o4 o5 pen inner p tp q tq np pv k ([(Dn, ({ cls := .type "tuple", data := .seq rvs.toArray } : Obj))] ++ (T2 ++ (Ta ++ O)))) (fun x hx => ?_) (LCg.Off3.of fun x hx => ?_) (.inr ⟨W.listOf (as.map Value.ref).toArray cw, led_tail (List.mem_append_right _ (List.mem_append_right _ (List.mem_append_right _ hmw))), rfl, _, rfl⟩)
      ⟨bs3 ++ [Dn], (Dn, ({ cls := .type "tuple", data := .seq rvs.toArray } : Obj)) :: T2, by simp, rfl, by simp [hbl3], fun j b r h1 h2 => ?_⟩
    · rcases List.mem_cons.mp hx with rfl | hx
      · simp
      · rcases List.mem_cons.mp hx with rfl | hx
        · simp
        · rcases List.mem_cons.mp hx with rfl | hx
          · simp
          · rcases led_cons hx with h | h
            · rw [List.mem_singleton.mp h]; exact List.mem_cons_self
            · exact List.mem_cons_of_mem _ (List.mem_cons_of_mem _ (List.mem_cons_of_mem _ (List.mem_cons_of_mem _ h)))
    · rcases led_cons hx with h | h
      · rw [List.mem_singleton.mp h]
        exact ⟨Ne.symm (hn (I, oI) (by k_mem)), Ne.symm (hn (Cx, oC) (by k_mem)), Ne.symm (hn (D3, LCg.lst (bs3.map Value.ref)) (by k_mem))⟩
      · exact LCg.Off3.mem off x h
    · rcases Nat.lt_trichotomy j bs3.length with qq | qq | qq
      · rw [List.getElem?_append_left qq] at h1
        exact (hbs3 j b r h1 h2).mono fun x hx => List.mem_cons_of_mem _ hx
      · subst qq
        have e9 : Dn = b := by simpa using h1
        have e8 : rows[i] = r := by
          rw [hbl3] at h2
          simpa [hi] using h2
        subst e9 e8
        exact ⟨rvs, 0, List.mem_cons_self, hri⟩
      · rw [List.getElem?_eq_none (by simp; omega)] at h1; cases h1
  · rintro ys nw ⟨bs3, T2, rfl, rfl, hbl3, hbs3⟩
    intro Dr h4 tk4 F4 N4 o4'
    unfold led at N4
    try dsimp only
    walk_at "m goN"
    rename_i Da xa la Db xb lb Dc xc FX NX lc
    have hmono : ∀ x ∈ T2 ++ (Ta ++ O), x ∈ (Dc, ({ cls := .type "tuple", data := .seq #[.ref Da, .ref Db] } : Obj)) :: (Db, { cls := .type "tuple", data := .seq (ts.map Value.ref).toArray }) :: (Da, { cls := .type "tuple", data := .seq (bs3.map Value.ref).toArray }) :: (Dr, LCg.lst (bs3.map Value.ref)) :: led L o1 o2 o3 o4 o5 pen inner p tp q tq np pv k (T2 ++ (Ta ++ O)) :=
      fun x hx => List.mem_cons_of_mem _ (List.mem_cons_of_mem _ (List.mem_cons_of_mem _ (List.mem_cons_of_mem _ (led_tail hx))))
    refine told_ne (rows := rows) (tags := tags) (O := (Dc, ({ cls := .type "tuple", data := .seq #[.ref Da, .ref Db] } : Obj)) :: (Db, { cls := .type "tuple", data := .seq (ts.map Value.ref).toArray }) :: (Da, { cls := .type "tuple", data := .seq (bs3.map Value.ref).toArray }) :: (Dr, LCg.lst (bs3.map Value.ref)) :: led L o1 o2 o3 o4 o5 pen inner p tp q tq np pv k (T2 ++ (Ta ++ O)))
      (by k_asm) (by exact mem_self) (hTo.mono fun x hx => hmono x (List.mem_append_right _ hx))
      ⟨Da, Db, 0, List.mem_cons_self, ⟨bs3, 0, List.mem_cons_of_mem _ (List.mem_cons_of_mem _ List.mem_cons_self), hbl3, fun j b r h1 h2 => (hbs3 j b r h1 h2).mono fun x hx => hmono x (List.mem_append_left _ hx)⟩,
        ⟨ts, 0, List.mem_cons_of_mem _ List.mem_cons_self, hlt, fun j b r h1 h2 => (hzt j b r h1 h2).mono fun x hx => hmono x (List.mem_append_right _ (List.mem_append_right _ hx))⟩⟩ hu64 ?_
    walk_at "m goR"
    walk_at "m goR"
    refine K _ _ FX (News.sub NX fun x hx => ?_)
    refine List.mem_cons_of_mem _ (List.mem_cons_of_mem _ (List.mem_cons_of_mem _ (List.mem_cons_of_mem _ ?_)))
    revert hx
    revert x
    walk_at "m perm"
end
section
theorem quiet29 : True := by
  w_top off
  exact True.intro
set_option maxRecDepth 100000 in
set_option maxHeartbeats 8000000 in
theorem seg8 {w : World} {A : Around} {s : Shared} {h₀ : Heap} {L fa : Addr} {cd : Value} {m : Str → Option Value} {o1 o2 o3 o4 o5 : Obj} {pen inner : Addr} {p q : Int} {tp tq : Tok} {np k : Nat} {pv : List Value} {O : List (Addr × Obj)} {Q : Flow → Shared → Prop} {E : Value → Shared → Prop}
    (C : Ctx w (A.deeper (lawE L fa cd)) 8 h₀) (F : Fr h₀ L s.heap m) (N : News h₀ L s.heap (led L o1 o2 o3 o4 o5 pen inner p tp q tq np pv k O)) (hP : PenOk L pen inner p q pv 13 O)
    (d1 : o1.data = .cell (some (.ref pen)))
    (K : ∀ p tp q tq np tx tvs txt c h' tk, Fr h₀ L h' (fun y => if y = Str.ofString "text" then some (.ref tx) else m y) → News h₀ L h' (led L o1 o2 o3 o4 o5 pen inner p tp q tq np pv k ((tx, W.listOf (List.toArray tvs) c) :: O)) → PenOk L pen inner p q pv 21 ((tx, W.listOf tvs.toArray c) :: O) →
      IntsAre tvs txt → txt.length = 8 → (∀ x ∈ txt, 0 ≤ x ∧ x < 2) →
      wpAny (model PySem.Challenge.rw_pq0568_01.prog w) (A.deeper (lawE L fa cd)) (execs (lawFD.body.drop 11) (lawE L fa cd)) Q E { s with heap := h', toks := tk }) :
    wpAny (model PySem.Challenge.rw_pq0568_01.prog w) (A.deeper (lawE L fa cd)) (execs (lawFD.body.drop 10) (lawE L fa cd)) Q E s := by
  have C2 := C
  have X0 := C.X
  revert X0
  k_fill
  intro X0
  obtain ⟨hh, hd, hu, X, T⟩ := C
  obtain ⟨p', l, me, mg, mb, T⟩ := T
  dsimp only [lawE, lawFD, List.drop_succ_cons, List.drop_zero]
  dsimp only [lawE, lawFD] at hh
  unfold led at N
  k_unmd
  try k_fold
  walk_at "m goR"
  rename_i hB tB u1' u2' u3' hRg FB NB
  refine LCg.CompSrc.range hh FB NB hRg (small_one (by omega) (by omega) (by omega) (by omega)) (rangeSize_nat _ _) (by rw [sizeLine_eq]; decide) ?_
  intro g1
  refine comp_U (fun i ys nw => ∃ p' tp' q' tq' np' r, nw = led L o1 o2 o3 o4 o5 pen inner p' tp' q' tq' np' pv k O ∧ PenOk L pen inner p' q' pv (13 + i) O ∧ IntsAre ys r ∧ r.length = i ∧ ∀ x ∈ r, 0 ≤ x ∧ x < 2)
    ⟨p, tp, q, tq, np, [], rfl, hP, .nil, rfl, by simp⟩ ?_ ?_
  · rintro i ys nw v I oI Cx oC D m₂ h tk E' hi ⟨p3, tp3, q3, tq3, np3, r, rfl, hP3, hys, hrl, hrx⟩ hPv hC hx F' N' off ne
    have hi8 : i < 8 := hi
    dsimp only
    unfold led at N'
    k_unmd
    try k_fold
    walk_at "m goC"
    have a1 := LCg.Off3.mem off (pen, penObj inner p3 tp3 q3 tq3 np3) (by k_mem)
    have b1 := LCg.Off3.mem off (inner, W.listOf pv.toArray k) (by k_mem)
    have hR2 : ∀ x ∈ [(I, oI), (Cx, oC), (D, LCg.lst ys)], @Ne Nat x.1 pen ∧ @Ne Nat x.1 inner := by
      intro x hx
      simp only [List.mem_cons, List.not_mem_nil, or_false] at hx
      rcases hx with rfl | rfl | rfl
      · exact ⟨Ne.symm a1.1, Ne.symm b1.1⟩
      · exact ⟨Ne.symm a1.2.1, Ne.symm b1.2.1⟩
      · exact ⟨Ne.symm a1.2.2, Ne.symm b1.2.2⟩
    refine law_draw (R := [(I, oI), (Cx, oC), (D, LCg.lst ys)]) (tp := tp3) (tq := tq3) (np := np3) (Ctx.le C2 (by decide)) F' N' (fun x hx => hx) hP3 (by omega) hR2 (by omega) (by omega) ?_
    intro d td p4 tp4 q4 tq4 np4 h' tk' hd0 hd1 hP4 F9 N9
    refine LCg.CompEnd.intro F9 N9 (led L o1 o2 o3 o4 o5 pen inner p4 tp4 q4 tq4 np4 pv k O) (fun x hx => hx) (off3_addr (by rfl) off) True.intro
      ⟨p4, tp4, q4, tq4, np4, r ++ [d], rfl, hP4, IntsAre.append hys (.cons _ _ .nil), by simp [hrl], fun x hx => ?_⟩
    rcases List.mem_append.mp hx with hx | hx
    · exact hrx x hx
    · rw [List.mem_singleton.mp hx]; exact ⟨hd0, hd1⟩
  · rintro ys nw ⟨p3, tp3, q3, tq3, np3, r, rfl, hP3, hys, hrl, hrx⟩
    intro Dt h4 tk4 F4 N4 o4'
    have ofs := Off1.mem o4'
    dsimp only
    refine K p3 tp3 q3 tq3 np3 Dt ys r ys.length h4 _ F4 (News.sub N4 fun x hx => ?_) ((hP3.le (by decide)).cons (pen_ne ofs)) hys hrl hrx
    rcases led_cons (O' := [(Dt, LCg.lst ys)]) hx with h | h
    · rw [List.mem_singleton.mp h]; exact List.mem_cons_self
    · exact List.mem_cons_of_mem _ h
end
section
theorem quiet30 : True := by
  w_top off
  exact True.intro
theorem pigeon_fin : ∀ a b c d : Fin 4, a.val = 0 ∨ b.val = 0 ∨ c.val = 0 ∨ d.val = 0 ∨ b.val = a.val ∨ c.val = a.val ∨ d.val = a.val ∨ c.val = b.val ∨ d.val = b.val ∨ d.val = c.val := by decide +kernel
theorem pigeon {l : Nat} {y1 y2 y3 y4 : Int} (h4 : l ≤ 4) (p1 : 0 ≤ y1) (p2 : 0 ≤ y2) (p3 : 0 ≤ y3) (p4 : 0 ≤ y4) (s1 : y1 < l) (s2 : y2 < l) (s3 : y3 < l) (s4 : y4 < l) :
    y1 = 0 ∨ y2 = 0 ∨ y3 = 0 ∨ y4 = 0 ∨ y2 = y1 ∨ y3 = y1 ∨ y4 = y1 ∨ y3 = y2 ∨ y4 = y2 ∨ y4 = y3 := by
  obtain ⟨a, rfl⟩ := Int.eq_ofNat_of_zero_le p1
  obtain ⟨b, rfl⟩ := Int.eq_ofNat_of_zero_le p2
  obtain ⟨c, rfl⟩ := Int.eq_ofNat_of_zero_le p3
  obtain ⟨d, rfl⟩ := Int.eq_ofNat_of_zero_le p4
  have lt : ∀ x : Nat, (x : Int) < (l : Int) → x < 4 := fun x h => Nat.lt_of_lt_of_le (Int.ofNat_lt.mp h) h4
  have := pigeon_fin ⟨a, lt a s1⟩ ⟨b, lt b s2⟩ ⟨c, lt c s3⟩ ⟨d, lt d s4⟩
  simpa only [Int.natCast_eq_zero, Int.natCast_inj] using this
theorem wordsUp_mem : ∀ a ∈ [(0 : Int), 1], ∀ b ∈ [(0 : Int), 1], ∀ c ∈ [(0 : Int), 1], [] ∈ wordsUp 3 ∧ [a] ∈ wordsUp 3 ∧ [a, b] ∈ wordsUp 3 ∧ [a, b, c] ∈ wordsUp 3 := by decide +kernel
theorem bit_mem {k : Int} (h : 0 ≤ k ∧ k < 2) : k ∈ [(0 : Int), 1] := by
  have : k = 0 ∨ k = 1 := by omega
  rcases this with rfl | rfl <;> simp
/-- a state met by a word of at most three signs -/
def Met (rows : Rows) (i : Int) : Prop := ∃ w ∈ wordsUp 3, walkF rows w = i
theorem met_step {rows : Rows} (hW : Wf rows) (h4 : rows.length ≤ 4) {a b c d : Int} (ha : 0 ≤ a ∧ a < 2) (hb : 0 ≤ b ∧ b < 2) (hc : 0 ≤ c ∧ c < 2) (hd : 0 ≤ d ∧ d < 2) (h0 : 0 ≤ walkF rows [a, b, c, d]) : Met rows (walkF rows [a, b, c, d]) := by
  have s1 := stepW_bounds hW (st := 0) (by have := hW.1; omega) ha.1 ha.2
  generalize e1 : stepW rows 0 a = y1 at s1
  have s2 := stepW_bounds hW s1.2 hb.1 hb.2
  generalize e2 : stepW rows y1 b = y2 at s2
  have s3 := stepW_bounds hW s2.2 hc.1 hc.2
  generalize e3 : stepW rows y2 c = y3 at s3
  have s4 := stepW_bounds hW s3.2 hd.1 hd.2
  generalize e4 : stepW rows y3 d = y4 at s4
  have ew : walkF rows [a, b, c, d] = y4 := by simp [walkF, e1, e2, e3, e4]
  rw [ew] at h0 ⊢
  have neg : ∀ y k z : Int, stepW rows y k = z → 0 ≤ z → 0 ≤ y := fun y k z e hz => by
    rcases Int.lt_or_le y 0 with q | q
    · rw [stepW, if_neg (by omega)] at e; omega
    · exact q
  have p3 := neg _ _ _ e4 h0
  have p2 := neg _ _ _ e3 p3
  have p1 := neg _ _ _ e2 p2
  have wa := wordsUp_mem
  have ha' := bit_mem ha
  have hb' := bit_mem hb
  have hc' := bit_mem hc
  have hd' := bit_mem hd
  have hcase := pigeon h4 p1 p2 p3 h0 s1.2 s2.2 s3.2 s4.2
  rcases hcase with q | q | q | q | q | q | q | q | q | q
  · exact ⟨[b, c, d], (wa b hb' c hc' d hd').2.2.2, by simp [walkF]; rw [← q, e2, e3, e4]⟩
  · exact ⟨[c, d], (wa c hc' d hd' d hd').2.2.1, by simp [walkF]; rw [← q, e3, e4]⟩
  · exact ⟨[d], (wa d hd' d hd' d hd').2.1, by simp [walkF]; rw [← q, e4]⟩
  · exact ⟨[], (wa a ha' a ha' a ha').1, by simp [walkF]; omega⟩
  · exact ⟨[a, c, d], (wa a ha' c hc' d hd').2.2.2, by simp [walkF]; rw [e1, ← q, e3, e4]⟩
  · exact ⟨[a, d], (wa a ha' d hd' d hd').2.2.1, by simp [walkF]; rw [e1, ← q, e4]⟩
  · exact ⟨[a], (wa a ha' a ha' a ha').2.1, by simp [walkF]; rw [e1, ← q]⟩
  · exact ⟨[a, b, d], (wa a ha' b hb' d hd').2.2.2, by simp [walkF]; rw [e1, e2, ← q, e4]⟩
  · exact ⟨[a, b], (wa a ha' b hb' b hb').2.2.1, by simp [walkF]; rw [e1, e2, ← q]⟩
  · exact ⟨[a, b, c], (wa a ha' b hb' c hc').2.2.2, by simp [walkF]; rw [e1, e2, e3, ← q]⟩
theorem words_ext : ∀ w ∈ wordsUp 3, ∀ k ∈ [(0 : Int), 1], w.length < 3 → w ++ [k] ∈ wordsUp 3 := by decide +kernel
theorem words_three : ∀ w ∈ wordsUp 3, w.length = 3 → w = [w.getD 0 0, w.getD 1 0, w.getD 2 0] ∧ (0 ≤ w.getD 0 0 ∧ w.getD 0 0 < 2) ∧ (0 ≤ w.getD 1 0 ∧ w.getD 1 0 < 2) ∧ (0 ≤ w.getD 2 0 ∧ w.getD 2 0 < 2) := by decide +kernel
theorem walkF_snoc {rows : Rows} {w : List Int} {k : Int} : walkF rows (w ++ [k]) = stepW rows (walkF rows w) k := by simp [walkF]
theorem met_next {rows : Rows} (hW : Wf rows) (h4 : rows.length ≤ 4) {i k : Int} (hi : Met rows i) (hk : 0 ≤ k ∧ k < 2) (hj : 0 ≤ stepW rows i k) : Met rows (stepW rows i k) := by
  obtain ⟨w, hw, rfl⟩ := hi
  have hl := (wordsUp_small 3 (by omega)).2 w hw
  rcases Nat.lt_or_ge w.length 3 with q | q
  · exact ⟨w ++ [k], words_ext w hw k (bit_mem hk) q, walkF_snoc⟩
  · have h3 : w.length = 3 := by omega
    obtain ⟨e, ha, hb, hc⟩ := words_three w hw h3
    rw [← walkF_snoc] at hj ⊢
    rw [e] at hj ⊢
    exact met_step hW h4 ha hb hc hk hj
theorem reach_met {rows : Rows} (hW : Wf rows) (h4 : rows.length ≤ 4) {i : Int} (h : Reach (linksOf rows) i) : 0 ≤ i ∧ Met rows i := by
  induction h with
  | zero => exact ⟨Int.le_refl 0, [], (wordsUp_mem 0 (by simp) 0 (by simp) 0 (by simp)).1, rfl⟩
  | @step i j hi hj ih =>
    obtain ⟨i0, hm⟩ := ih
    have hil : i < rows.length := by
      obtain ⟨w, hw, rfl⟩ := hm
      exact (walkF_bounds hW (fun k hk => words_bits w hw k hk)).2
    rw [rowOf_links] at hj
    have hm2 := List.mem_filter.mp hj
    have hne : j ≠ -1 := by simpa using hm2.2
    have hb := hW.mem hm2.1
    have hj0 : 0 ≤ j := by omega
    refine ⟨hj0, ?_⟩
    rcases (cell_mem hW i0 hil).mp hm2.1 with e | e
    · have e2 : j = stepW rows i 0 := by rw [stepW, if_pos i0, e]
      rw [e2] at hj0 ⊢
      exact met_next hW h4 hm (by omega) hj0
    · have e2 : j = stepW rows i 1 := by rw [stepW, if_pos i0, e]
      rw [e2] at hj0 ⊢
      exact met_next hW h4 hm (by omega) hj0
theorem walk_reach {rows : Rows} (hW : Wf rows) : ∀ (n : Nat) (w : List Int), w.length = n → (∀ k ∈ w, 0 ≤ k ∧ k < 2) → 0 ≤ walkF rows w → Reach (linksOf rows) (walkF rows w) := by
  intro n
  induction n with
  | zero =>
    intro w hw _ _
    rw [List.length_eq_zero_iff.mp hw]
    exact .zero
  | succ n ih =>
    intro w hw hb h0
    have hne : w ≠ [] := fun e => by rw [e] at hw; cases hw
    have e : w = w.dropLast ++ [w.getLast hne] := (List.dropLast_concat_getLast hne).symm
    have e5 : walkF rows w = stepW rows (walkF rows w.dropLast) (w.getLast hne) := by rw [← walkF_snoc, ← e]
    rw [e5] at h0 ⊢
    have hbl : ∀ k ∈ w.dropLast, 0 ≤ k ∧ k < 2 := fun k hk => hb k (List.dropLast_subset w hk)
    have hbk := hb _ (List.getLast_mem hne)
    have hp : 0 ≤ walkF rows w.dropLast := by
      rcases Int.lt_or_le (walkF rows w.dropLast) 0 with q | q
      · rw [stepW, if_neg (by omega)] at h0; omega
      · exact q
    have hr := ih w.dropLast (by rw [List.length_dropLast, hw]; rfl) hbl hp
    have hl := (walkF_bounds hW hbl).2
    refine .step hr ?_
    rw [rowOf_links]
    refine List.mem_filter.mpr ⟨(cell_mem hW hp hl).mpr ?_, ?_⟩
    · rw [stepW, if_pos hp]
      have : w.getLast hne = 0 ∨ w.getLast hne = 1 := by omega
      rcases this with e | e <;> rw [e] <;> simp
    · have : stepW rows (walkF rows w.dropLast) (w.getLast hne) ≠ -1 := by omega
      simpa using this
theorem met_reach {rows : Rows} (hW : Wf rows) {i : Int} (h0 : 0 ≤ i) (h : Met rows i) : Reach (linksOf rows) i := by
  obtain ⟨w, hw, rfl⟩ := h
  exact walk_reach hW _ w rfl (fun k hk => words_bits w hw k hk) h0
theorem ins_mem {pl : List Nat} {k x : Nat} : x ∈ ins pl k ↔ x ∈ pl ∨ x = k := by
  unfold ins
  simp only [List.mem_append, List.mem_filter, List.mem_cons, decide_eq_true_eq]
  constructor
  · rintro (⟨h, _⟩ | h | ⟨h, _⟩)
    · exact .inl h
    · exact .inr h
    · exact .inl h
  · rintro (h | h)
    · rcases Nat.lt_trichotomy x k with q | q | q
      · exact .inl ⟨h, q⟩
      · exact .inr (.inl q)
      · exact .inr (.inr ⟨h, q⟩)
    · exact .inr (.inl h)
theorem insAll_mem : ∀ {ns : List Int} {pl : List Nat} {x : Nat}, x ∈ insAll ns pl ↔ x ∈ pl ∨ ∃ n ∈ ns, n.toNat = x
  | [], pl, x => by simp [insAll]
  | n :: ns, pl, x => by
    have e : insAll (n :: ns) pl = insAll ns (ins pl n.toNat) := rfl
    rw [e, insAll_mem, ins_mem]
    simp only [List.mem_cons, exists_eq_or_imp]
    constructor
    · rintro ((h | h) | h)
      · exact .inl h
      · exact .inr (.inl h.symm)
      · exact .inr (.inr h)
    · rintro (h | h | h)
      · exact .inl (.inl h)
      · exact .inl (.inr h.symm)
      · exact .inr h
theorem pls_lt : ∀ pl ∈ Pls, (pl.map fun k : Nat => (k : Int)).Pairwise (· < ·) := by decide +kernel
theorem same_rising : ∀ {a b : List Int}, a.Pairwise (· < ·) → b.Pairwise (· < ·) → (∀ x, x ∈ a ↔ x ∈ b) → a = b := by
  intro a b ha hb h
  have na : a.Nodup := ha.imp fun h => Int.ne_of_lt h
  have nb : b.Nodup := hb.imp fun h => Int.ne_of_lt h
  have hp : a.Perm b := (List.perm_ext_iff_of_nodup na nb).mpr h
  exact ksm_same hp (ha.imp fun h => Int.le_of_lt h) (hb.imp fun h => Int.le_of_lt h)
theorem backsF_rising {rows tags : Rows} {bs : List Bool} {n : Nat} : (backsF rows tags bs n).Pairwise (· < ·) := by
  unfold backsF
  refine List.Pairwise.filter _ ?_
  rw [List.pairwise_map]
  exact (List.pairwise_lt_range (n := n)).imp fun h => by omega
theorem due_eq {rows tags : Rows} {bs : List Bool} (hW : Wf rows) (h4 : rows.length ≤ 4) (hTl : tags.length = rows.length) (hp : dueF rows tags ∈ Pls) (hbs : ∀ i : Int, 0 ≤ i → (on bs i ↔ Reach (linksOf rows) i)) :
    backsF rows tags bs (rows.length - 1) = (dueF rows tags).map fun k : Nat => (k : Int) := by
  have hW1 := hW.1
  refine same_rising backsF_rising (pls_lt _ hp) fun x => ?_
  have e1 : x ∈ backsF rows tags bs (rows.length - 1) ↔ (1 ≤ x ∧ x < rows.length) ∧ on bs x ∧ rowOf tags x = [] ∧ -1 ∈ rowOf rows x := by
    unfold backsF
    rw [List.mem_filter, List.mem_map]
    simp only [List.mem_range, Bool.and_eq_true, decide_eq_true_eq, on, Nat.not_lt, Nat.le_zero, List.length_eq_zero_iff]
    constructor
    · rintro ⟨⟨i, hi, rfl⟩, h1, h2, h3⟩
      exact ⟨by omega, h1, h2, h3⟩
    · rintro ⟨⟨h0, h1⟩, h2, h3, h5⟩
      exact ⟨⟨(x - 1).toNat, by omega, by omega⟩, h2, h3, h5⟩
  have e2 : x ∈ ((dueF rows tags).map fun k : Nat => (k : Int)) ↔ 0 < x ∧ rowOf tags x = [] ∧ -1 ∈ rowOf rows x ∧ Met rows x := by
    rw [List.mem_map]
    constructor
    · rintro ⟨k, hk, rfl⟩
      rw [dueF, insAll_mem] at hk
      rcases hk with hk | ⟨n, hn, hnk⟩
      · cases hk
      · have hm := List.mem_filter.mp hn
        simp only [Bool.and_eq_true, decide_eq_true_eq] at hm
        obtain ⟨h1, h2, h3, h5⟩ := hm
        have : n = (k : Int) := by omega
        subst this
        obtain ⟨w, hw, e⟩ := List.mem_map.mp h1
        exact ⟨h2, h3, h5, w, hw, e⟩
    · rintro ⟨h2, h3, h5, w, hw, e⟩
      refine ⟨x.toNat, ?_, by omega⟩
      rw [dueF, insAll_mem]
      refine .inr ⟨x, List.mem_filter.mpr ⟨List.mem_map.mpr ⟨w, hw, e⟩, ?_⟩, rfl⟩
      simp [h2, h3, h5]
  rw [e1, e2]
  constructor
  · rintro ⟨⟨h0, h1⟩, h2, h3, h5⟩
    exact ⟨by omega, h3, h5, (reach_met hW h4 ((hbs x (by omega)).mp h2)).2⟩
  · rintro ⟨h0, h3, h5, hm⟩
    have hl : x < rows.length := by
      obtain ⟨w, hw, rfl⟩ := hm
      exact (walkF_bounds hW (fun k hk => words_bits w hw k hk)).2
    exact ⟨⟨by omega, hl⟩, (hbs x (by omega)).mpr (met_reach hW (by omega) hm), h3, h5⟩
end
section
theorem quiet31 : True := by
  w_top off
  exact True.intro
theorem due_mem {rows tags : Rows} {x : Int} : x ∈ ((dueF rows tags).map fun k : Nat => (k : Int)) ↔ 0 < x ∧ rowOf tags x = [] ∧ -1 ∈ rowOf rows x ∧ Met rows x := by
  rw [List.mem_map]
  constructor
  · rintro ⟨k, hk, rfl⟩
    rw [dueF, insAll_mem] at hk
    rcases hk with hk | ⟨n, hn, hnk⟩
    · cases hk
    · have hm := List.mem_filter.mp hn
      simp only [Bool.and_eq_true, decide_eq_true_eq] at hm
      obtain ⟨h1, h2, h3, h5⟩ := hm
      have : n = (k : Int) := by omega
      subst this
      obtain ⟨w, hw, e⟩ := List.mem_map.mp h1
      exact ⟨h2, h3, h5, w, hw, e⟩
  · rintro ⟨h2, h3, h5, w, hw, e⟩
    refine ⟨x.toNat, ?_, by omega⟩
    rw [dueF, insAll_mem]
    refine .inr ⟨x, List.mem_filter.mpr ⟨List.mem_map.mpr ⟨w, hw, e⟩, ?_⟩, rfl⟩
    simp [h2, h3, h5]
/-- where the scan from a place stops: the first j signs have a way, the sign behind them has none -/
structure Scan (rows : Rows) (wd : List Int) (j : Nat) : Prop where
  le : j ≤ wd.length
  way : ∀ i, i ≤ j → 0 ≤ runF rows 0 (wd.take i)
  stop : j = wd.length ∨ runF rows 0 (wd.take (j + 1)) = -1
theorem Scan.same {rows : Rows} {wd : List Int} {j i : Nat} (h : Scan rows wd j) (h1 : i ≤ wd.length) (h2 : ∀ k < i, runF rows 0 (wd.take (k + 1)) ≠ -1) (h3 : i = wd.length ∨ runF rows 0 (wd.take (i + 1)) = -1) : i = j := by
  obtain ⟨a, b, c⟩ := h
  rcases Nat.lt_trichotomy i j with q | q | q
  · rcases h3 with h3 | h3
    · omega
    · have := b (i + 1) (by omega); omega
  · exact q
  · rcases c with c | c
    · omega
    · exact absurd c (h2 j q)
/-- the end of the longest match, or the place itself -/
def matchF (rows tags : Rows) (at0 : Int) (wd : List Int) (j : Nat) : Int := (endsP rows tags at0 wd j).getLast?.getD at0
theorem match_end {rows tags : Rows} {at0 : Int} {wd : List Int} {j : Nat} : matchF rows tags at0 wd j = at0 + (j : Int) ↔ j = 0 ∨ tagged tags (runF rows 0 (wd.take j)) = true := by
  unfold matchF
  cases j with
  | zero => simp [endsP]
  | succ j =>
    rw [endsP_succ]
    by_cases h : tagged tags (runF rows 0 (wd.take (j + 1))) = true
    · simp only [h, if_true, List.getLast?_append, List.getLast?_singleton, Option.some_or, Option.getD_some]
      simp; omega
    · rw [if_neg h, List.append_nil]
      simp only [Nat.add_eq_zero_iff, Nat.one_ne_zero, and_false, h, or_false, false_or, iff_false]
      cases e : (endsP rows tags at0 wd j).getLast? with
      | none => simp; omega
      | some p =>
        have hm := List.mem_of_getLast? e
        unfold endsP at hm
        obtain ⟨i, hi, e2⟩ := List.mem_map.mp hm
        have := List.mem_range.mp (List.mem_filter.mp hi).1
        simp; omega
theorem tagged_not {tags : Rows} {st : Int} : tagged tags st = false ↔ rowOf tags st = [] := by
  unfold tagged
  simp
theorem scan_due {rows tags : Rows} {wd : List Int} {j : Nat} (hW : Wf rows) (h4 : rows.length ≤ 4) (hb : ∀ k ∈ wd, 0 ≤ k ∧ k < 2) (h : Scan rows wd j) (hj : j < wd.length) (h0 : runF rows 0 (wd.take j) ≠ 0) (ht : tagged tags (runF rows 0 (wd.take j)) = false) :
    runF rows 0 (wd.take j) ∈ ((dueF rows tags).map fun k : Nat => (k : Int)) := by
  have hp := h.way j (Nat.le_refl _)
  have hbt : ∀ k ∈ wd.take j, 0 ≤ k ∧ k < 2 := fun k hk => hb k (List.mem_of_mem_take hk)
  have hl := (runF_bounds hW (word := wd.take j) (st := 0) (by omega) (by have := hW.1; omega) hbt).2
  have hm := (reach_met hW h4 (walk_reach hW _ (wd.take j) rfl hbt hp)).2
  have hs : runF rows 0 (wd.take (j + 1)) = -1 := by
    rcases h.stop with q | q
    · omega
    · exact q
  have hk : wd[j]? = some wd[j] := List.getElem?_eq_getElem hj
  rw [runF_take hk, stepW, if_pos hp] at hs
  refine due_mem.mpr ⟨by omega, tagged_not.mp ht, ?_, hm⟩
  refine (cell_mem hW hp hl).mpr ?_
  have hkb := hb _ (List.getElem_mem hj)
  have : wd[j] = 0 ∨ wd[j] = 1 := by omega
  rcases this with e | e <;> rw [e] at hs <;> simp [hs]
/-- neither of the two «return False» is taken -/
theorem scan_told {rows tags : Rows} {at0 : Int} {wd : List Int} {j : Nat} (hd : runF rows 0 (wd.take j) ∈ ((dueF rows tags).map fun k : Nat => (k : Int))) :
    matchF rows tags at0 wd j ≠ at0 + (j : Int) ∧ (j : Int) ≠ 0 := by
  obtain ⟨h0, h1, _, _⟩ := due_mem.mp hd
  have hj : j ≠ 0 := by
    intro e
    rw [e, List.take_zero] at h0
    exact absurd h0 (by simp [runF])
  refine ⟨fun e => ?_, by omega⟩
  rcases match_end.mp e with q | q
  · exact hj q
  · rw [tagged_not.mpr h1] at q; cases q
theorem scan_else {rows tags : Rows} {at0 : Int} {wd : List Int} {j : Nat} (hW : Wf rows) (h4 : rows.length ≤ 4) (hb : ∀ k ∈ wd, 0 ≤ k ∧ k < 2) (h : Scan rows wd j) (hj : j < wd.length) (h0 : runF rows 0 (wd.take j) ≠ 0)
    (hd : runF rows 0 (wd.take j) ∉ ((dueF rows tags).map fun k : Nat => (k : Int))) : matchF rows tags at0 wd j = at0 + (j : Int) := by
  refine match_end.mpr (.inr ?_)
  cases e : tagged tags (runF rows 0 (wd.take j)) with
  | true => rfl
  | false => exact absurd (scan_due hW h4 hb h hj h0 e) hd
end
section
theorem quiet32 : True := by
  w_top off
  exact True.intro
def forBodyOf : Stmt → List Stmt
  | .For _ _ b _ _ => b
  | _ => []
noncomputable def atBody : List Stmt := by
  refine (fun (l : List Stmt) (_ : l = forBodyOf (lawFD.body.getD 11 (.Pass default))) => l) ?l ?h
  case h => conv => { rhs; whnf }
end
section
theorem quiet33 : True := by
  w_top off
  exact True.intro
/-- the names that the loop over the places reads -/
def AtM (m : Str → Option Value) (du mc tx : Addr) (at0 : Int) (ta : Tok) : Prop :=
  m (Str.ofString "due") = some (.ref du) ∧ m (Str.ofString "machine") = some (.ref mc) ∧ m (Str.ofString "text") = some (.ref tx) ∧ m (Str.ofString "at") = some (.int at0 ta)
set_option maxRecDepth 100000 in
set_option maxHeartbeats 8000000 in
theorem at_while {w : World} {A : Around} {s : Shared} {h₀ : Heap} {L fa : Addr} {cd : Value} {m : Str → Option Value} {o1 o2 o3 o4 o5 oI : Obj} {I pen inner ra du mc tx : Addr} {p q : Int} {tp tq tt te ts : Tok} {np k ctx at0 : Nat} {pv tvs : List Value} {txt wd : List Int} {O : List (Addr × Obj)} {rows : Rows} {Q : Flow → Shared → Prop} {E : Value → Shared → Prop}
    (C : Ctx w (A.deeper (lawE L fa cd)) 8 h₀) (F : Fr h₀ L s.heap m) (hm : AtM m du mc tx (at0 : Int) tt) (hme : m (Str.ofString "end") = some (.int (at0 : Int) te)) (hms : m (Str.ofString "state") = some (.int 0 ts))
    (N : News h₀ L s.heap ((I, oI) :: led L o1 o2 o3 o4 o5 pen inner p tp q tq np pv k O))
    (d3 : o3.data = .cell (some (.ref ra))) (hR : RowsIn O ra rows) (hW : Wf rows)
    (htx : (tx, W.listOf tvs.toArray ctx) ∈ O) (hti : IntsAre tvs txt) (htl : txt.length = 8) (htb : ∀ x ∈ txt, 0 ≤ x ∧ x < 2) (ha : at0 < 8) (hwd : txt.drop at0 = wd)
    (K : ∀ (j : Nat) m' te' ts' h' tk, Fr h₀ L h' m' → AtM m' du mc tx (at0 : Int) tt → m' (Str.ofString "end") = some (.int ((at0 : Int) + (j : Int)) te') → m' (Str.ofString "state") = some (.int (runF rows 0 (wd.take j)) ts') →
      News h₀ L h' ((I, oI) :: led L o1 o2 o3 o4 o5 pen inner p tp q tq np pv k O) → Scan rows wd j →
      Q .next { s with heap := h', toks := tk }) :
    wpAny (model PySem.Challenge.rw_pq0568_01.prog w) (A.deeper (lawE L fa cd)) (exec (atBody.getD 1 (.Pass default)) (lawE L fa cd)) Q E s := by
  have C2 := C
  have X0 := C.X
  revert X0
  k_fill
  intro X0
  obtain ⟨hh, hd, hu, X, T⟩ := C
  obtain ⟨p', l, me, mg, mb, T⟩ := T
  have hwl : wd.length = 8 - at0 := by rw [← hwd, List.length_drop, htl]
  have hwb : ∀ x ∈ wd, 0 ≤ x ∧ x < 2 := fun x hx => htb x (List.mem_of_mem_drop (hwd ▸ hx))
  have hW1 := hW.1
  have hW2 := hW.2.1
  dsimp only [lawE, lawFD, atBody, List.getD_cons_succ, List.getD_cons_zero]
  dsimp only [lawE, lawFD] at hh
  k_unmd
  try k_fold
  refine wpAny_noRaise (While_inv (fun n m' nw => AtM m' du mc tx (at0 : Int) tt ∧ nw = (I, oI) :: led L o1 o2 o3 o4 o5 pen inner p tp q tq np pv k O ∧ ∃ (j : Nat), ∃ te' ts', m' (Str.ofString "end") = some (.int ((at0 : Int) + (j : Int)) te') ∧ m' (Str.ofString "state") = some (.int (runF rows 0 (wd.take j)) ts') ∧
      (∀ i, i ≤ j → 0 ≤ runF rows 0 (wd.take i)) ∧ j ≤ wd.length ∧ n = wd.length - j) F N ⟨hm, rfl, 0, te, ts, by rw [hme]; simp, by rw [hms]; rfl, ?_, Nat.zero_le _, rfl⟩ ?_ (hE := PassesOwn.never))
  · intro i hi
    have : i = 0 := by omega
    subst this
    simp [runF]
  · rintro n m₁ news₁ h1 tk1 F1 N1 ⟨hm1, rfl, j, te', ts', hme1, hms1, hway, hj, rfl⟩
    obtain ⟨g1, g2, g3, g4⟩ := hm1
    have hbd := runF_bounds hW (word := wd.take j) (st := 0) (by omega) (by omega) (fun k hk => hwb k (List.mem_of_mem_take hk))
    have hst0 := hway j (Nat.le_refl _)
    unfold led at N1
    k_unmd
    try k_fold
    try dsimp only
    walk_at "m goN"
    · rename_i hlt b1 hb1 hl1 n1 t1 hn1
      have hn1b := htb _ (List.mem_of_getElem? hn1)
      have hk : wd[j]? = some n1 := by
        have e : ((at0 : Int) + (j : Int)).toNat = at0 + j := by omega
        rw [e] at hn1
        rw [← hwd, List.getElem?_drop]
        exact hn1
      have hrt := runF_take (rows := rows) (st := 0) hk
      have hsw : stepW rows (runF rows 0 (wd.take j)) n1 = cellOf rows (runF rows 0 (wd.take j)) n1 := if_pos hst0
      have hbd2 := stepW_bounds hW hbd.2 hn1b.1 hn1b.2
      walk_at "m goN"
      · rename_i hge b2 hb2 hl2 n2 t2 hn2
        have e2 : n2 = n1 := by rw [hn1] at hn2; cases hn2; rfl
        subst e2
        walk_at "m goN"
        refine WhileStep.intro (n' := wd.length - (j + 1)) (by k_asm) (by k_asm) (by omega) ⟨⟨by walk_at "m get", by walk_at "m get", by walk_at "m get", by walk_at "m get"⟩, rfl, j + 1, ?te, ?ts, ?e1, ?e2, ?e3, by omega, rfl⟩
        case e1 =>
          have e : (at0 : Int) + ((j + 1 : Nat) : Int) = (at0 : Int) + (j : Int) + 1 := by omega
          rw [e]; walk_at "m get"
        case e2 => rw [hrt, hsw]; walk_at "m get"
        case e3 =>
          intro i hi
          rcases Nat.lt_or_ge j i with q9 | q9
          · have : i = j + 1 := by omega
            rw [this, hrt, hsw]; exact hge
          · exact hway i q9
      · rename_i hge
        exact K j m₁ _ _ h1 _ F1 ⟨g1, g2, g3, g4⟩ hme1 hms1 N1 ⟨hj, hway, .inr (by rw [hrt, hsw]; rw [hsw] at hbd2; have hce : cellOf rows (runF rows 0 (wd.take j)) n1 = (rowOf rows (runF rows 0 (wd.take j))).getD n1.toNat 0 := rfl; omega)⟩
    · exact K j m₁ _ _ h1 _ F1 ⟨g1, g2, g3, g4⟩ hme1 hms1 N1 ⟨hj, hway, .inl (by omega)⟩
end
section
theorem quiet34 : True := by
  w_top off
  exact True.intro
set_option maxRecDepth 100000 in
set_option maxHeartbeats 8000000 in
theorem at_heard {w : World} {A : Around} {s : Shared} {h₀ : Heap} {L fa : Addr} {cd : Value} {m : Str → Option Value} {o1 o2 o3 o4 o5 oI : Obj} {I pen inner du mc tx : Addr} {p q st : Int} {tp tq tt te ts : Tok} {np k ctx at0 j : Nat} {pv tvs : List Value} {txt wd : List Int} {O : List (Addr × Obj)} {rows tags : Rows} {Q : Flow → Shared → Prop} {E : Value → Shared → Prop}
    (C : Ctx w (A.deeper (lawE L fa cd)) 8 h₀) (F : Fr h₀ L s.heap m) (hm : AtM m du mc tx (at0 : Int) tt) (hme : m (Str.ofString "end") = some (.int ((at0 : Int) + (j : Int)) te)) (hms : m (Str.ofString "state") = some (.int st ts))
    (N : News h₀ L s.heap ((I, oI) :: led L o1 o2 o3 o4 o5 pen inner p tp q tq np pv k O))
    (hW : Wf rows) (hTl : tags.length = rows.length) (hSh : Short tags) (hD : DfaIn w.params O mc rows tags)
    (htx : (tx, W.listOf tvs.toArray ctx) ∈ O) (hti : IntsAre tvs txt) (htl : txt.length = 8) (htb : ∀ x ∈ txt, 0 ≤ x ∧ x < 2) (ha : at0 < 8) (hwd : txt.drop at0 = wd) (hS : Scan rows wd j)
    (K : ∀ m' tm h' tk, Fr h₀ L h' m' → AtM m' du mc tx (at0 : Int) tt → m' (Str.ofString "end") = some (.int ((at0 : Int) + (j : Int)) te) → m' (Str.ofString "state") = some (.int st ts) → m' (Str.ofString "matched") = some (.int (matchF rows tags (at0 : Int) wd j) tm) →
      News h₀ L h' ((I, oI) :: led L o1 o2 o3 o4 o5 pen inner p tp q tq np pv k O) →
      wpAny (model PySem.Challenge.rw_pq0568_01.prog w) (A.deeper (lawE L fa cd)) (execs (atBody.drop 4) (lawE L fa cd)) Q E { s with heap := h', toks := tk }) :
    wpAny (model PySem.Challenge.rw_pq0568_01.prog w) (A.deeper (lawE L fa cd)) (execs (atBody.drop 2) (lawE L fa cd)) Q E s := by
  have C2 := C
  have X0 := C.X
  revert X0
  k_fill
  intro X0
  obtain ⟨hh, hd, hu, X, T⟩ := C
  obtain ⟨p', l, me, mg, mb, T⟩ := T
  obtain ⟨g1, g2, g3, g4⟩ := hm
  have hn : RowIn O tx txt := ⟨tvs, ctx, htx, hti⟩
  dsimp only [lawE, lawFD, atBody, List.drop_succ_cons, List.drop_zero] at K ⊢
  dsimp only [lawE, lawFD] at hh
  unfold led at N
  k_unmd
  try k_fold
  walk_at "m goR"
  refine longest_ok (O := O) (wd := wd) (Ctx.le C2 (by decide)) (by k_asm) (by k_asm) (by walk_at "m sub") hD hW hTl hSh hn htb htl (by omega) (by omega) (by simpa using hwd) ?_ ?_
  · intro i h' tk F' N' he h1 h2 h3
    have hij := hS.same h1 h2 h3
    subst hij
    have hM : matchF rows tags (at0 : Int) wd i = (at0 : Int) := by unfold matchF; rw [he]; rfl
    try dsimp only
    walk_at "m goR"
    walk_at "m goR"
    walk_at "m goR"
    walk_at "m goR"
    refine K _ _ _ _ (by k_asm) ⟨by walk_at "m get", by walk_at "m get", by walk_at "m get", by walk_at "m get"⟩ (by walk_at "m get") (by walk_at "m get") (by rw [hM]; walk_at "m get") (by k_asm)
  · intro x u v c pm i h' tk F' N' he h1 h2 h3
    have hij := hS.same h1 h2 h3
    subst hij
    have hM : matchF rows tags (at0 : Int) wd i = pm := by unfold matchF; rw [he]; rfl
    try dsimp only
    walk_at "m goR"
    walk_at "m goR"
    walk_at "m goR"
    walk_at "m goR"
    refine K _ _ _ _ (by k_asm) ⟨by walk_at "m get", by walk_at "m get", by walk_at "m get", by walk_at "m get"⟩ (by walk_at "m get") (by walk_at "m get") (by rw [hM]; walk_at "m get") (News.sub (by k_asm) fun x hx => List.mem_cons_of_mem _ hx)
end
section
theorem quiet35 : True := by
  w_top off
  exact True.intro
theorem cons_sub {α : Type} {a : α} {O O' : List α} (h : ∀ p ∈ O, p ∈ O') : ∀ p ∈ a :: O, p ∈ a :: O' := fun p hp => by
  rcases List.mem_cons.mp hp with rfl | hp
  · exact List.mem_cons_self
  · exact List.mem_cons_of_mem _ (h p hp)
set_option maxRecDepth 100000 in
set_option maxHeartbeats 8000000 in
theorem at_if1 {w : World} {A : Around} {s : Shared} {h₀ : Heap} {L fa : Addr} {cd : Value} {m : Str → Option Value} {o1 o2 o3 o4 o5 oI : Obj} {I pen inner du mc tx : Addr} {p q mt : Int} {tp tq tt te ts tm : Tok} {np k ctx at0 j : Nat} {pv tvs : List Value} {txt wd : List Int} {O : List (Addr × Obj)} {rows tags : Rows} {Q : Flow → Shared → Prop} {E : Value → Shared → Prop}
    (C : Ctx w (A.deeper (lawE L fa cd)) 8 h₀) (F : Fr h₀ L s.heap m) (hm : AtM m du mc tx (at0 : Int) tt) (hme : m (Str.ofString "end") = some (.int ((at0 : Int) + (j : Int)) te)) (hms : m (Str.ofString "state") = some (.int (runF rows 0 (wd.take j)) ts)) (hmm : m (Str.ofString "matched") = some (.int mt tm))
    (N : News h₀ L s.heap ((I, oI) :: led L o1 o2 o3 o4 o5 pen inner p tp q tq np pv k O))
    (hW : Wf rows) (hD : DfaIn w.params O mc rows tags)
    (htx : (tx, W.listOf tvs.toArray ctx) ∈ O) (hti : IntsAre tvs txt) (htl : txt.length = 8) (htb : ∀ x ∈ txt, 0 ≤ x ∧ x < 2) (ha : at0 < 8) (hwd : txt.drop at0 = wd) (hS : Scan rows wd j)
    (K : ∀ h' tk, Fr h₀ L h' m → News h₀ L h' ((I, oI) :: led L o1 o2 o3 o4 o5 pen inner p tp q tq np pv k O) →
      wpAny (model PySem.Challenge.rw_pq0568_01.prog w) (A.deeper (lawE L fa cd)) (execs (atBody.drop 5) (lawE L fa cd)) Q E { s with heap := h', toks := tk }) :
    wpAny (model PySem.Challenge.rw_pq0568_01.prog w) (A.deeper (lawE L fa cd)) (execs (atBody.drop 4) (lawE L fa cd)) Q E s := by
  have C2 := C
  have X0 := C.X
  revert X0
  k_fill
  intro X0
  obtain ⟨hh, hd, hu, X, T⟩ := C
  obtain ⟨p', l, me, mg, mb, T⟩ := T
  obtain ⟨g1, g2, g3, g4⟩ := hm
  have hn : RowIn O tx txt := ⟨tvs, ctx, htx, hti⟩
  have hwl : wd.length = 8 - at0 := by rw [← hwd, List.length_drop, htl]
  have hjl := hS.le
  dsimp only [lawE, lawFD, atBody, List.drop_succ_cons, List.drop_zero] at K ⊢
  dsimp only [lawE, lawFD] at hh
  unfold led at N
  k_unmd
  try k_fold
  walk_at "m goR"
  rename_i D1 ws1 h1 F1 N1 hI1 hL1 l1
  have e1 : List.take (min ((at0 : Int) + (j : Int)).toNat txt.length - ((at0 : Int)).toNat) (List.drop ((at0 : Int)).toNat txt) = wd.take j := by
    rw [show ((at0 : Int)).toNat = at0 from Int.toNat_natCast _, hwd, nat_f (by omega)]
  rw [e1] at hI1
  have hwb : ∀ x ∈ wd, 0 ≤ x ∧ x < 2 := fun x hx => htb x (List.mem_of_mem_drop (hwd ▸ hx))
  refine run_ok (O := (D1, W.listOf ws1.toArray 0) :: O) (word := wd.take j) (Ctx.le C2 (by decide)) (by k_asm) (by k_asm) (cons_sub (by walk_at "m sub")) (hD.mono (mem_cons' mem_self)) hW ⟨ws1, 0, List.mem_cons_self, hI1⟩ (fun k hk => hwb k (List.mem_of_mem_take hk)) ?_
  intro t2 h2 tk2 F2 N2
  try dsimp only
  walk_at "m goR"
  · exact absurd rfl (by assumption)
  · rename_i hlt D3 ws3 h3 F3 N3 hI3 hL3 l3
    have hjw : j < wd.length := by omega
    have hr : runF rows 0 (wd.take (j + 1)) = -1 := by
      rcases hS.stop with q | q
      · omega
      · exact q
    have e3 : List.take (min ((at0 : Int) + (j : Int) + 1).toNat txt.length - ((at0 : Int)).toNat) (List.drop ((at0 : Int)).toNat txt) = wd.take (j + 1) := by
      rw [show ((at0 : Int)).toNat = at0 from Int.toNat_natCast _, hwd, show (at0 : Int) + (j : Int) + 1 = (at0 : Int) + ((j + 1 : Nat) : Int) from Int.add_assoc _ _ _, nat_f (by omega)]
    rw [e3] at hI3
    refine run_ok (O := (D3, W.listOf ws3.toArray 0) :: O) (word := wd.take (j + 1)) (Ctx.le C2 (by decide)) (by k_asm) (by k_asm) (cons_sub (by walk_at "m sub")) (hD.mono (mem_cons' mem_self)) hW ⟨ws3, 0, List.mem_cons_self, hI3⟩ (fun k hk => hwb k (List.mem_of_mem_take hk)) ?_
    intro t4 h4 tk4 F4 N4
    rw [hr]
    try dsimp only
    walk_at "m goR"
    walk_at "m goR"
    exact K _ _ F4 (News.sub N4 fun x hx => List.mem_cons_of_mem _ (List.mem_cons_of_mem _ hx))
  · walk_at "m goR"
    walk_at "m goR"
    exact K _ _ F2 (News.sub N2 fun x hx => List.mem_cons_of_mem _ hx)
end
section
theorem quiet36 : True := by
  w_top off
  exact True.intro
theorem row_notin {prog : Program} {w : World} {A : Around} {E : Value → Shared → Prop} {s : Shared} {h₀ : Heap} {L : Addr} {news O : List (Addr × Obj)} {b : Addr} {r : List Int} {k : Int} {u : Tok} {Q : Value → Shared → Prop} (N : News h₀ L s.heap news) (hO : ∀ p ∈ O, p ∈ news) (hR : RowIn O b r)
    (h : Q (.bool (!decide (k ∈ r))) s) : wpAny (model prog w) A (compareOp .NotIn (.int k u) (.ref b)) Q E s := by
  obtain ⟨vs, c, hm, hv⟩ := hR
  have e : (r.any fun x => x == k) = decide (k ∈ r) := by rw [Bool.eq_iff_iff]; simp
  exact notin_list_ints (islist_of N (hO _ hm)) hv (by rw [e]; exact h)
local macro_rules | `(tactic| walk_at "compareOp NotIn int ref") => `(tactic| (k_here; k_dflt (refine' row_notin ?k1 ?k2 ?k3 ?_; (case k1 => k_asm); (case k3 => with_reducible assumption); (case k2 => walk_at "m sub"); k_whole)))
set_option maxRecDepth 100000 in
set_option maxHeartbeats 8000000 in
theorem at_if2 {w : World} {A : Around} {s : Shared} {h₀ : Heap} {L fa : Addr} {cd : Value} {m : Str → Option Value} {o1 o2 o3 o4 o5 oI : Obj} {I pen inner du mc tx : Addr} {p q mt st : Int} {tp tq tt te ts tm : Tok} {np k at0 j : Nat} {pv : List Value} {dl : List Int} {O : List (Addr × Obj)} {Q : Flow → Shared → Prop} {E : Value → Shared → Prop}
    (C : Ctx w (A.deeper (lawE L fa cd)) 8 h₀) (F : Fr h₀ L s.heap m) (hm : AtM m du mc tx (at0 : Int) tt) (hme : m (Str.ofString "end") = some (.int ((at0 : Int) + (j : Int)) te)) (hms : m (Str.ofString "state") = some (.int st ts)) (hmm : m (Str.ofString "matched") = some (.int mt tm))
    (N : News h₀ L s.heap ((I, oI) :: led L o1 o2 o3 o4 o5 pen inner p tp q tq np pv k O))
    (hdu : RowIn O du dl) (hH : st ∈ dl → mt ≠ (at0 : Int) + (j : Int) ∧ (j : Int) ≠ 0)
    (K : ∀ h' tk, Fr h₀ L h' m → News h₀ L h' ((I, oI) :: led L o1 o2 o3 o4 o5 pen inner p tp q tq np pv k O) →
      wpAny (model PySem.Challenge.rw_pq0568_01.prog w) (A.deeper (lawE L fa cd)) (execs (atBody.drop 6) (lawE L fa cd)) Q E { s with heap := h', toks := tk }) :
    wpAny (model PySem.Challenge.rw_pq0568_01.prog w) (A.deeper (lawE L fa cd)) (execs (atBody.drop 5) (lawE L fa cd)) Q E s := by
  have C2 := C
  have X0 := C.X
  revert X0
  k_fill
  intro X0
  obtain ⟨hh, hd, hu, X, T⟩ := C
  obtain ⟨p', l, me, mg, mb, T⟩ := T
  obtain ⟨g1, g2, g3, g4⟩ := hm
  dsimp only [lawE, lawFD, atBody, List.drop_succ_cons, List.drop_zero] at K ⊢
  dsimp only [lawE, lawFD] at hh
  unfold led at N
  k_unmd
  try k_fold
  walk_at "m goR"
  · rename_i hin hx
    obtain ⟨e1, e2⟩ := hH hin
    have e1 : (mt == (at0 : Int) + (j : Int)) = false := beq_false_of_ne e1
    have e2 : ((at0 : Int) + (j : Int) == (at0 : Int)) = false := beq_false_of_ne (by omega)
    rw [e1, e2] at hx
    cases hx
  · walk_at "m goR"
    repeat' (first | exact K _ _ F N | walk_at "m goR")
  · walk_at "m goR"
    repeat' (first | exact K _ _ F N | walk_at "m goR")
set_option maxRecDepth 100000 in
set_option maxHeartbeats 8000000 in
theorem at_if3 {w : World} {A : Around} {s : Shared} {h₀ : Heap} {L fa : Addr} {cd : Value} {m : Str → Option Value} {o1 o2 o3 o4 o5 oI : Obj} {I pen inner du mc tx : Addr} {p q mt st : Int} {tp tq tt te ts tm : Tok} {np k at0 j : Nat} {pv : List Value} {dl : List Int} {O : List (Addr × Obj)} {Q : Flow → Shared → Prop} {E : Value → Shared → Prop}
    (C : Ctx w (A.deeper (lawE L fa cd)) 8 h₀) (F : Fr h₀ L s.heap m) (hm : AtM m du mc tx (at0 : Int) tt) (hme : m (Str.ofString "end") = some (.int ((at0 : Int) + (j : Int)) te)) (hms : m (Str.ofString "state") = some (.int st ts)) (hmm : m (Str.ofString "matched") = some (.int mt tm))
    (N : News h₀ L s.heap ((I, oI) :: led L o1 o2 o3 o4 o5 pen inner p tp q tq np pv k O))
    (hdu : RowIn O du dl) (hH : (at0 : Int) + (j : Int) < 8 → st ∉ dl → st ≠ 0 → mt = (at0 : Int) + (j : Int))
    (K : ∀ h' tk, Fr h₀ L h' m → News h₀ L h' ((I, oI) :: led L o1 o2 o3 o4 o5 pen inner p tp q tq np pv k O) →
      Q .next { s with heap := h', toks := tk }) :
    wpAny (model PySem.Challenge.rw_pq0568_01.prog w) (A.deeper (lawE L fa cd)) (execs (atBody.drop 6) (lawE L fa cd)) Q E s := by
  have C2 := C
  have X0 := C.X
  revert X0
  k_fill
  intro X0
  obtain ⟨hh, hd, hu, X, T⟩ := C
  obtain ⟨p', l, me, mg, mb, T⟩ := T
  obtain ⟨g1, g2, g3, g4⟩ := hm
  dsimp only [lawE, lawFD, atBody, List.drop_succ_cons, List.drop_zero]
  dsimp only [lawE, lawFD] at hh
  unfold led at N
  k_unmd
  try k_fold
  walk_at "m goR"
  · walk_at "m goR"
    repeat (walk_at "m goR")
    exact K _ _ F N
  · rename_i h1 h2 h3 h4
    exact absurd (hH h1 h2 h3) h4
  · walk_at "m goR"
    repeat (walk_at "m goR")
    exact K _ _ F N
  · walk_at "m goR"
    repeat (walk_at "m goR")
    exact K _ _ F N
  · walk_at "m goR"
    repeat (walk_at "m goR")
    exact K _ _ F N
end
section
theorem quiet37 : True := by
  w_top off
  exact True.intro
set_option maxRecDepth 100000 in
set_option maxHeartbeats 8000000 in
theorem at_assign {w : World} {A : Around} {s : Shared} {h₀ : Heap} {L fa : Addr} {cd : Value} {m : Str → Option Value} {o1 o2 o3 o4 o5 oI : Obj} {I pen inner du mc tx : Addr} {p q : Int} {tp tq tt : Tok} {np k at0 : Nat} {pv : List Value} {O : List (Addr × Obj)} {Q : Flow → Shared → Prop} {E : Value → Shared → Prop}
    (C : Ctx w (A.deeper (lawE L fa cd)) 8 h₀) (F : Fr h₀ L s.heap m) (hm : AtM m du mc tx (at0 : Int) tt)
    (N : News h₀ L s.heap ((I, oI) :: led L o1 o2 o3 o4 o5 pen inner p tp q tq np pv k O))
    (K : ∀ m' te ts h' tk, Fr h₀ L h' m' → AtM m' du mc tx (at0 : Int) tt → m' (Str.ofString "end") = some (.int (at0 : Int) te) → m' (Str.ofString "state") = some (.int 0 ts) → News h₀ L h' ((I, oI) :: led L o1 o2 o3 o4 o5 pen inner p tp q tq np pv k O) →
      wpAny (model PySem.Challenge.rw_pq0568_01.prog w) (A.deeper (lawE L fa cd)) (execs (atBody.drop 1) (lawE L fa cd)) Q E { s with heap := h', toks := tk }) :
    wpAny (model PySem.Challenge.rw_pq0568_01.prog w) (A.deeper (lawE L fa cd)) (execs atBody (lawE L fa cd)) Q E s := by
  have C2 := C
  have X0 := C.X
  revert X0
  k_fill
  intro X0
  obtain ⟨hh, hd, hu, X, T⟩ := C
  obtain ⟨p', l, me, mg, mb, T⟩ := T
  obtain ⟨g1, g2, g3, g4⟩ := hm
  dsimp only [lawE, lawFD, atBody, List.drop_succ_cons, List.drop_zero] at K ⊢
  dsimp only [lawE, lawFD] at hh
  unfold led at N
  k_unmd
  try k_fold
  walk_at "m goR"
  refine unpackItemsN_ (by k_asm) (by k_asm) (News.isTup (by k_asm) (by exact .head _)) hh (by rfl) ?_
  intro h4 F4 N4
  dsimp only
  walk_at "m goR"
  refine K _ _ _ _ _ (by k_asm) ⟨by walk_at "m get", by walk_at "m get", by walk_at "m get", by walk_at "m get"⟩ (by walk_at "m get") (by walk_at "m get") (News.sub (by k_asm) fun x hx => List.mem_cons_of_mem _ hx)
theorem at_turn {w : World} {A : Around} {s : Shared} {h₀ : Heap} {L fa : Addr} {cd : Value} {m : Str → Option Value} {o1 o2 o3 o4 o5 oI : Obj} {I pen inner ra du mc tx : Addr} {p q : Int} {tp tq tt : Tok} {np k ctx at0 : Nat} {pv tvs : List Value} {txt : List Int} {O : List (Addr × Obj)} {rows tags : Rows} {Q : Flow → Shared → Prop} {E : Value → Shared → Prop}
    (C : Ctx w (A.deeper (lawE L fa cd)) 8 h₀) (F : Fr h₀ L s.heap m) (hm : AtM m du mc tx (at0 : Int) tt)
    (N : News h₀ L s.heap ((I, oI) :: led L o1 o2 o3 o4 o5 pen inner p tp q tq np pv k O))
    (d3 : o3.data = .cell (some (.ref ra))) (hR : RowsIn O ra rows) (hW : Wf rows) (hW4 : rows.length ≤ 4) (hTl : tags.length = rows.length) (hSh : Short tags) (hD : DfaIn w.params O mc rows tags)
    (hdu : RowIn O du ((dueF rows tags).map fun k : Nat => (k : Int)))
    (htx : (tx, W.listOf tvs.toArray ctx) ∈ O) (hti : IntsAre tvs txt) (htl : txt.length = 8) (htb : ∀ x ∈ txt, 0 ≤ x ∧ x < 2) (ha : at0 < 8)
    (K : ∀ m' h' tk, Fr h₀ L h' m' → AtM m' du mc tx (at0 : Int) tt → News h₀ L h' ((I, oI) :: led L o1 o2 o3 o4 o5 pen inner p tp q tq np pv k O) → Q .next { s with heap := h', toks := tk }) :
    wpAny (model PySem.Challenge.rw_pq0568_01.prog w) (A.deeper (lawE L fa cd)) (execs atBody (lawE L fa cd)) Q E s := by
  refine at_assign C F hm N ?_
  intro m1 te1 ts1 h1 tk1 F1 hm1 he1 hs1 N1
  have e1 : atBody.drop 1 = atBody.getD 1 (.Pass default) :: atBody.drop 2 := rfl
  rw [e1]
  refine wpAny_execs_cons ?_
  refine at_while C F1 hm1 he1 hs1 N1 d3 hR hW htx hti htl htb ha rfl ?_
  intro j m2 te2 ts2 h2 tk2 F2 hm2 he2 hs2 N2 hS
  refine at_heard (tags := tags) C F2 hm2 he2 hs2 N2 hW hTl hSh hD htx hti htl htb ha rfl hS ?_
  intro m3 tm3 h3 tk3 F3 hm3 he3 hs3 hmm3 N3
  refine at_if1 C F3 hm3 he3 hs3 hmm3 N3 hW hD htx hti htl htb ha rfl hS ?_
  intro h4 tk4 F4 N4
  refine at_if2 C F4 hm3 he3 hs3 hmm3 N4 hdu (fun hd => scan_told hd) ?_
  intro h5 tk5 F5 N5
  have hwl : (txt.drop at0).length = 8 - at0 := by rw [List.length_drop, htl]
  have hwb : ∀ x ∈ txt.drop at0, 0 ≤ x ∧ x < 2 := fun x hx => htb x (List.mem_of_mem_drop hx)
  refine at_if3 C F5 hm3 he3 hs3 hmm3 N5 hdu (fun h8 hn h0 => scan_else hW hW4 hwb hS (by omega) h0 hn) ?_
  intro h6 tk6 F6 N6
  exact K m3 h6 tk6 F6 hm3 N6
end
section
theorem quiet38 : True := by
  w_top off
  exact True.intro
set_option maxRecDepth 100000 in
set_option maxHeartbeats 8000000 in
theorem seg9 {w : World} {A : Around} {s : Shared} {h₀ : Heap} {L fa : Addr} {cd : Value} {m : Str → Option Value} {o1 o2 o3 o4 o5 : Obj} {pen inner ra ta du mc tx : Addr} {p q : Int} {tp tq : Tok} {np k cdu ctx : Nat} {pv dvs tvs : List Value} {txt : List Int} {O : List (Addr × Obj)} {rows tags : Rows} {Q : Flow → Shared → Prop} {E : Value → Shared → Prop}
    (C : Ctx w (A.deeper (lawE L fa cd)) 8 h₀) (F : Fr h₀ L s.heap m) (hm : m (Str.ofString "due") = some (.ref du)) (hm2 : m (Str.ofString "machine") = some (.ref mc)) (hm3 : m (Str.ofString "text") = some (.ref tx)) (N : News h₀ L s.heap (led L o1 o2 o3 o4 o5 pen inner p tp q tq np pv k O))
    (d3 : o3.data = .cell (some (.ref ra))) (hR : RowsIn O ra rows) (hW : Wf rows) (hW4 : rows.length ≤ 4) (hTl : tags.length = rows.length) (hSh : Short tags)
    (hdu : (du, W.listOf dvs.toArray cdu) ∈ O) (hdi : IntsAre dvs ((dueF rows tags).map fun k : Nat => (k : Int))) (hD : DfaIn w.params O mc rows tags)
    (htx : (tx, W.listOf tvs.toArray ctx) ∈ O) (hti : IntsAre tvs txt) (htl : txt.length = 8) (htb : ∀ x ∈ txt, 0 ≤ x ∧ x < 2)
    (K : ∀ m' h' tk, Fr h₀ L h' m' → m' (Str.ofString "due") = some (.ref du) → News h₀ L h' (led L o1 o2 o3 o4 o5 pen inner p tp q tq np pv k O) →
      wpAny (model PySem.Challenge.rw_pq0568_01.prog w) (A.deeper (lawE L fa cd)) (execs (lawFD.body.drop 12) (lawE L fa cd)) Q E { s with heap := h', toks := tk }) :
    wpAny (model PySem.Challenge.rw_pq0568_01.prog w) (A.deeper (lawE L fa cd)) (execs (lawFD.body.drop 11) (lawE L fa cd)) Q E s := by
  have C2 := C
  have X0 := C.X
  revert X0
  k_fill
  intro X0
  obtain ⟨hh, hd, hu, X, T⟩ := C
  obtain ⟨p', l, me, mg, mb, T⟩ := T
  dsimp only [lawE, lawFD, List.drop_succ_cons, List.drop_zero]
  dsimp only [lawE, lawFD] at hh
  unfold led at N
  k_unmd
  try k_fold
  walk_at "m goR"
  refine wpAny_noRaise (For_invV h₀ (by rfl) (by rfl) ?_ (hE := PassesOwn.never))
  walk_at "m goI"
  rename_i hB tB u1' u2' u3' hRg FB NB
  refine loop_range (env := envOfC lawFD.name lawFD.scope L fa cd) hh FB NB hRg (small_one (by omega) (by omega) (by omega) (by omega)) (n := 8) (by rfl)
    (fun i m' nw => m' (Str.ofString "due") = some (.ref du) ∧ m' (Str.ofString "machine") = some (.ref mc) ∧ m' (Str.ofString "text") = some (.ref tx) ∧ ∀ x ∈ led L o1 o2 o3 o4 o5 pen inner p tp q tq np pv k O, x ∈ nw) ⟨hm, hm2, hm3, fun x hx => hx⟩ ?_ ?_
  · rintro i tv m₁ nw I oI h tk hi ⟨hm, hm2, hm3, hnw⟩ hnI F1 N1
    have N2 : News h₀ L h ((I, oI) :: led L o1 o2 o3 o4 o5 pen inner p tp q tq np pv k O) := News.sub N1 fun x hx => by
      rcases List.mem_cons.mp hx with rfl | hx
      · exact List.mem_cons_self
      · exact List.mem_cons_of_mem _ (hnw x hx)
    have hLI : ∀ x ∈ led L o1 o2 o3 o4 o5 pen inner p tp q tq np pv k O, @Ne Nat x.1 I := fun x hx => hnI x (hnw x hx)
    clear N1
    refine at_turn (at0 := i) (tt := tv) (du := du) (mc := mc) (tx := tx) C2 F1 ⟨by walk_at "m get", by walk_at "m get", by walk_at "m get", ?_⟩ N2 d3 hR hW hW4 hTl hSh hD ⟨dvs, cdu, hdu, hdi⟩ htx hti htl htb hi ?_
    · rw [Int.zero_add]; walk_at "m get"
    · intro m' h' tk' F' hm' N'
      exact TurnE.intro _ F' N' mem_self hLI ⟨hm'.1, hm'.2.1, hm'.2.2.1, fun x hx => hx⟩
  · rintro m₁ nw h tk ⟨hm, hm2, hm3, hnw⟩ F1 N1
    exact K m₁ h tk F1 hm (News.sub N1 hnw)
end
section
theorem quiet39 : True := by
  w_top off
  exact True.intro
theorem rowOf_app {rows : Rows} {r : List Int} {i : Int} (h0 : 0 ≤ i) (h1 : i < rows.length) : rowOf (rows ++ [r]) i = rowOf rows i := by
  unfold rowOf
  rw [List.getD_eq_getElem?_getD, List.getD_eq_getElem?_getD, List.getElem?_append_left (by omega)]
theorem rowOf_last {rows : Rows} {r : List Int} {i : Int} (h1 : i = rows.length) : rowOf (rows ++ [r]) i = r := by
  subst h1
  unfold rowOf
  simp
theorem rowOf_far {rows : Rows} {i : Int} (h0 : (rows.length : Int) ≤ i) : rowOf rows i = [] := by
  unfold rowOf
  rw [List.getD_eq_getElem?_getD, List.getElem?_eq_none (by omega)]
  rfl
theorem wider_wf {rows : Rows} (h : Wf rows) (h4 : rows.length ≤ 4) : Wf (rows ++ [[-1, 0]]) := by
  have hl : (rows ++ [[-1, 0]]).length = rows.length + 1 := by simp
  refine ⟨by omega, by omega, fun st h0 h1 => ?_⟩
  rw [hl] at h1 ⊢
  rcases Int.lt_or_le st rows.length with q | q
  · have z := h.2.2 st h0 q
    unfold cellOf
    rw [rowOf_app h0 q]
    refine ⟨z.1, fun k k0 k1 => ?_⟩
    have := z.2 k k0 k1
    unfold cellOf at this
    omega
  · unfold cellOf
    rw [rowOf_last (by omega)]
    refine ⟨rfl, fun k k0 k1 => ?_⟩
    have : k = 0 ∨ k = 1 := by omega
    rcases this with rfl | rfl <;> simp <;> omega
theorem wider_short {tags : Rows} (h : Short tags) : Short (tags ++ [[]]) := fun st => by
  rcases Int.lt_or_le st 0 with q | q
  · have := h st
    have e : st.toNat = 0 := by omega
    unfold rowOf at this ⊢
    rw [e] at this ⊢
    cases tags with
    | nil => simp
    | cons a r => simpa using this
  · rcases Int.lt_or_le st tags.length with q2 | q2
    · rw [rowOf_app q q2]; exact h st
    · rcases Int.lt_or_le (tags.length : Int) st with q3 | q3
      · rw [rowOf_far (by rw [List.length_append, List.length_singleton]; omega)]; simp
      · rw [rowOf_last (by omega)]; simp
theorem reach_in {rows : Rows} (hW : Wf rows) {i : Int} (h : Reach (linksOf rows) i) : 0 ≤ i ∧ i < rows.length := by
  cases h with
  | zero => have := hW.1; omega
  | @step i2 _ hi hj =>
    rw [rowOf_links] at hj
    have hm2 := List.mem_filter.mp hj
    have hne : i ≠ -1 := by simpa using hm2.2
    have hb := hW.mem hm2.1
    omega
theorem wider_reach {rows : Rows} (hW : Wf rows) {i : Int} : Reach (linksOf (rows ++ [[-1, 0]])) i ↔ Reach (linksOf rows) i := by
  constructor
  · intro h
    induction h with
    | zero => exact .zero
    | @step i j hi hj ih =>
      have hb := reach_in hW ih
      refine .step ih ?_
      rw [rowOf_links] at hj ⊢
      rwa [rowOf_app hb.1 hb.2] at hj
  · intro h
    induction h with
    | zero => exact .zero
    | @step i j hi hj ih =>
      have hb := reach_in hW hi
      refine .step ih ?_
      rw [rowOf_links] at hj ⊢
      rwa [rowOf_app hb.1 hb.2]
theorem wider_due {rows tags : Rows} {bs : List Bool} (hW : Wf rows) (h4 : rows.length ≤ 4) (hTl : tags.length = rows.length) (hp : dueF rows tags ∈ Pls) (hbs : ∀ i : Int, 0 ≤ i → (on bs i ↔ Reach (linksOf (rows ++ [[-1, 0]])) i)) :
    backsF (rows ++ [[-1, 0]]) (tags ++ [[]]) bs ((rows ++ [[-1, 0]]).length - 1) = (dueF rows tags).map fun k : Nat => (k : Int) := by
  have hbs' : ∀ i : Int, 0 ≤ i → (on bs i ↔ Reach (linksOf rows) i) := fun i hi => (hbs i hi).trans (wider_reach hW)
  rw [← due_eq hW h4 hTl hp hbs']
  have hW1 := hW.1
  obtain ⟨n, hn⟩ : ∃ n, rows.length = n + 1 := ⟨rows.length - 1, by omega⟩
  have e1 : List.length (rows ++ [[-1, 0]]) - 1 = n + 1 := by simp [hn]
  have e2 : List.length rows - 1 = n := by omega
  rw [e1, e2, backsF_succ]
  have hoff : bs.getD (1 + (n : Int)).toNat false = false := by
    refine not_on.mp fun h => ?_
    have := (reach_in hW ((hbs' _ (by omega)).mp h)).2
    omega
  rw [hoff, Bool.false_and, if_neg (by decide), List.append_nil]
  unfold backsF
  refine List.filter_congr fun i hi => ?_
  obtain ⟨k, hk, rfl⟩ := List.mem_map.mp hi
  have := List.mem_range.mp hk
  rw [rowOf_app (by omega) (by omega), rowOf_app (by omega) (by omega)]
end
section
theorem quiet40 : True := by
  w_top off
  exact True.intro
local macro_rules | `(tactic| walk_at "m mem") => `(tactic| ((try refine List.mem_append_left _ ?_); (repeat (first | assumption | exact List.mem_cons_self | refine List.mem_cons_of_mem _ ?_))))
theorem snoc_at {T : List (Addr × Obj)} {P : Addr → List Int → Prop} {bs : List Addr} {rows : Rows} {l : Addr} {r : List Int} (hl : bs.length = rows.length)
    (h : ∀ (j : Nat) (b : Addr) (r : List Int), bs[j]? = some b → rows[j]? = some r → P b r) (hr : P l r) : ∀ (j : Nat) (b : Addr) (r' : List Int), (bs ++ [l])[j]? = some b → (rows ++ [r])[j]? = some r' → P b r' := by
  intro j b r' h1 h2
  rcases Nat.lt_trichotomy j bs.length with q | q | q
  · rw [List.getElem?_append_left q] at h1
    rw [List.getElem?_append_left (by omega)] at h2
    exact h j b r' h1 h2
  · subst q
    have e1 : l = b := by simpa using h1
    have e2 : r = r' := by rw [hl] at h2; simpa using h2
    subst e1 e2
    exact hr
  · rw [List.getElem?_eq_none (by simp; omega)] at h1; cases h1
theorem rowsIn_snoc {T : List (Addr × Obj)} {R l : Addr} {bs : List Addr} {rows : Rows} {r : List Int} {c : Nat} (hm : (R, W.listOf (bs.map Value.ref ++ [Value.ref l]).toArray c) ∈ T) (hl : bs.length = rows.length)
    (h : ∀ (j : Nat) (b : Addr) (r : List Int), bs[j]? = some b → rows[j]? = some r → RowIn T b r) (hr : RowIn T l r) : RowsIn T R (rows ++ [r]) :=
  ⟨bs ++ [l], c, by rw [List.map_append, List.map_singleton]; exact hm, by simp [hl], snoc_at (T := T) hl h hr⟩
theorem tagsIn_snoc {T : List (Addr × Obj)} {R l : Addr} {bs : List Addr} {rows : Rows} {r : List Int} {c : Nat} (hm : (R, W.listOf (bs.map Value.ref ++ [Value.ref l]).toArray c) ∈ T) (hl : bs.length = rows.length)
    (h : ∀ (j : Nat) (b : Addr) (r : List Int), bs[j]? = some b → rows[j]? = some r → TupIn T b r) (hr : TupIn T l r) : TagsIn T R (rows ++ [r]) :=
  ⟨bs ++ [l], c, by rw [List.map_append, List.map_singleton]; exact hm, by simp [hl], snoc_at (T := T) hl h hr⟩
set_option maxRecDepth 100000 in
set_option maxHeartbeats 8000000 in
theorem seg10a {w : World} {A : Around} {s : Shared} {h₀ : Heap} {L fa : Addr} {cd : Value} {m : Str → Option Value} {o1 o2 o3 o4 o5 : Obj} {pen inner ra ta du : Addr} {p q : Int} {tp tq : Tok} {np k : Nat} {pv : List Value} {O : List (Addr × Obj)} {rows tags : Rows} {Q : Flow → Shared → Prop} {E : Value → Shared → Prop}
    (C : Ctx w (A.deeper (lawE L fa cd)) 8 h₀) (F : Fr h₀ L s.heap m) (hm : m (Str.ofString "due") = some (.ref du)) (N : News h₀ L s.heap (led L o1 o2 o3 o4 o5 pen inner p tp q tq np pv k O))
    (d3 : o3.data = .cell (some (.ref ra))) (d4 : o4.data = .cell (some (.ref ta))) (hR : RowsIn O ra rows) (hT : TagsIn O ta tags) (hW : Wf rows) (hW4 : rows.length ≤ 4) (hTl : tags.length = rows.length) (hrl : ∀ r ∈ rows, r.length = 2)
    (K : ∀ wi T m' h' tk, Fr h₀ L h' m' → m' (Str.ofString "due") = some (.ref du) → m' (Str.ofString "wider") = some (.ref wi) → News h₀ L h' (T ++ led L o1 o2 o3 o4 o5 pen inner p tp q tq np pv k O) → DfaIn w.params (T ++ O) wi (rows ++ [[-1, 0]]) (tags ++ [[]]) →
      wpAny (model PySem.Challenge.rw_pq0568_01.prog w) (A.deeper (lawE L fa cd)) (execs (lawFD.body.drop 13) (lawE L fa cd)) Q E { s with heap := h', toks := tk }) :
    wpAny (model PySem.Challenge.rw_pq0568_01.prog w) (A.deeper (lawE L fa cd)) (execs (lawFD.body.drop 12) (lawE L fa cd)) Q E s := by
  have C2 := C
  have X0 := C.X
  revert X0
  k_fill
  intro X0
  obtain ⟨hh, hd, hu, X, T⟩ := C
  obtain ⟨p', l, me, mg, mb, T⟩ := T
  dsimp only [lawE, lawFD, List.drop_succ_cons, List.drop_zero] at K ⊢
  dsimp only [lawE, lawFD] at hh
  obtain ⟨as, cw, hmw, hlw, hzw⟩ := hR
  obtain ⟨ts, ct, hmt, hlt, hzt⟩ := hT
  have hW1 := hW.1
  unfold led at N
  k_unmd
  try k_fold
  walk_at "m goR"
  refine LCg.CompSrc.ledger hh (by k_asm) (by k_asm) (k := cw) (its := (as.map Value.ref).toArray) (by k_mem) (by rw [List.size_toArray, List.length_map, hlw, sizeLine_eq]; omega) ?_
  intro g1
  have hasz : (as.map Value.ref).toArray.size = rows.length := by rw [List.size_toArray, List.length_map, hlw]
  rw [hasz]
  refine comp_U (fun i ys nw => ∃ bs T2, ys = bs.map Value.ref ∧ nw = T2 ++ led L o1 o2 o3 o4 o5 pen inner p tp q tq np pv k O ∧ bs.length = i ∧ ∀ (j : Nat) (b : Addr) (r : List Int), bs[j]? = some b → rows[j]? = some r → RowIn T2 b r) ⟨[], [], rfl, rfl, rfl, by simp⟩ ?_ ?_
  · rintro i ys nw v I oI Cx oC D m₂ h tk E' hi ⟨bs, T2, rfl, rfl, hbl, hbs⟩ hPv hC hx F' N' off ne
    have e1 : as[i]? = some as[i] := by simp [hlw, hi]
    have hv : v = .ref as[i] := by simpa [hlw, hi] using hPv.symm
    subst hv
    obtain ⟨rvs, rc, hmr, hri⟩ := hzw i as[i] rows[i] e1 (by simp [hi])
    have hrl2 : rows[i].length = 2 := hrl _ (List.getElem_mem hi)
    have hrvl := hri.length
    have hmr2 : (as[i], W.listOf rvs.toArray rc) ∈ T2 ++ led L o1 o2 o3 o4 o5 pen inner p tp q tq np pv k O := List.mem_append_right _ (led_tail hmr)
    dsimp only
    k_unmd
    try k_fold
    walk_at "m goC"
    rename_i cE Dn c9 h9 F9 N9 l9
    have hall : AllLt Dn ((I, oI) :: (Cx, oC) :: (D, LCg.lst (bs.map Value.ref)) :: (T2 ++ led L o1 o2 o3 o4 o5 pen inner p tp q tq np pv k O)) := l9
    have hn := off_of_allLt hall
    refine LCg.CompEnd.intro F9 N9 ((Dn, W.listOf rvs.toArray c9) :: T2 ++ led L o1 o2 o3 o4 o5 pen inner p tp q tq np pv k O) (fun x hx => ?_) (LCg.Off3.of fun x hx => ?_) (.inr ⟨W.listOf (as.map Value.ref).toArray cw, List.mem_append_right _ (led_tail hmw), rfl, _, rfl⟩)
      ⟨bs ++ [Dn], (Dn, W.listOf rvs.toArray c9) :: T2, by simp, rfl, by simp [hbl], fun j b r h1 h2 => ?_⟩
    · simp only [List.mem_cons, List.cons_append] at hx ⊢
      rcases hx with h | h | h | h | h
      · exact .inr (.inl h)
      · exact .inr (.inr (.inl h))
      · exact .inr (.inr (.inr (.inl h)))
      · exact .inl h
      · exact .inr (.inr (.inr (.inr h)))
    · rcases List.mem_cons.mp hx with h | h
      · rw [h]
        exact ⟨Ne.symm (hn (I, oI) (by k_mem)), Ne.symm (hn (Cx, oC) (by k_mem)), Ne.symm (hn (D, LCg.lst (bs.map Value.ref)) (by k_mem))⟩
      · exact LCg.Off3.mem off x h
    · rcases Nat.lt_trichotomy j bs.length with qq | qq | qq
      · rw [List.getElem?_append_left qq] at h1
        exact (hbs j b r h1 h2).mono fun x hx => List.mem_cons_of_mem _ hx
      · subst qq
        have e9 : Dn = b := by simpa using h1
        have e8 : rows[i] = r := by
          rw [hbl] at h2
          simpa [hi] using h2
        subst e9 e8
        exact ⟨rvs, c9, List.mem_cons_self, hri⟩
      · rw [List.getElem?_eq_none (by simp; omega)] at h1; cases h1
  · rintro ys nw ⟨bs, T2, rfl, rfl, hbl, hbs⟩
    intro Dr h4 tk4 F4 N4 o4'
    dsimp only
    walk_at "m goC"
    rename_i FL NL
    refine new_ok (Ctx.le C2 (by decide)) FL NL ?_
    intro x dx t1 t2 h' tk' F' N' lt1 lt2
    dsimp only
    walk_at "m goR"
    rename_i hX FX NX
    refine K x (_ :: _ :: _ :: _ :: _ :: _ :: _ :: _ :: _ :: _ :: T2) _ hX _ FX (Eq.trans (if_neg (by decide)) hm) (if_pos rfl) NX ?_
    have sO : ∀ y ∈ O, y ∈ T2 ++ O := fun y hy => List.mem_append_right _ hy
    refine ⟨dx, _, _, t1, t2, by walk_at "m mem", by walk_at "m mem", rowsIn_snoc (by walk_at "m mem") hbl (fun j b r h1 h2 => (hbs j b r h1 h2).mono fun y hy => by walk_at "m mem") ⟨[_, _], 0, by walk_at "m mem", .cons _ _ (.cons _ _ .nil)⟩,
      tagsIn_snoc (by walk_at "m mem") hlt (fun j b r h1 h2 => (hzt j b r h1 h2).mono fun y hy => List.mem_append_right _ hy) ⟨[], 0, by walk_at "m mem", .nil⟩⟩
end
section
theorem quiet41 : True := by
  w_top off
  exact True.intro
set_option maxRecDepth 100000 in
set_option maxHeartbeats 8000000 in
theorem seg10b {w : World} {A : Around} {s : Shared} {h₀ : Heap} {L fa : Addr} {cd : Value} {m : Str → Option Value} {o1 o2 o3 o4 o5 : Obj} {pen inner du wi : Addr} {p q : Int} {tp tq : Tok} {np k cdu : Nat} {pv dvs : List Value} {O T : List (Addr × Obj)} {rows tags : Rows} {dl : List Int} {Q : Flow → Shared → Prop} {E : Value → Shared → Prop}
    (C : Ctx w (A.deeper (lawE L fa cd)) 8 h₀) (F : Fr h₀ L s.heap m) (hm : m (Str.ofString "due") = some (.ref du)) (hmw : m (Str.ofString "wider") = some (.ref wi)) (N : News h₀ L s.heap (T ++ led L o1 o2 o3 o4 o5 pen inner p tp q tq np pv k O))
    (hD : DfaIn w.params (T ++ O) wi rows tags) (hW : Wf rows) (hTl : tags.length = rows.length) (hSh : Short tags) (hdu : (du, W.listOf dvs.toArray cdu) ∈ O) (hdi : IntsAre dvs dl)
    (hu64 : (A.deeper (lawE L fa cd)).units + 64 < cLine)
    (hdue : ∀ bs : List Bool, (∀ i : Int, 0 ≤ i → (on bs i ↔ Reach (linksOf rows) i)) → backsF rows tags bs (rows.length - 1) = dl)
    (K : ∀ h' tk m', Fr h₀ L h' m' → Q (.ret (.bool true)) { s with heap := h', toks := tk }) :
    wpAny (model PySem.Challenge.rw_pq0568_01.prog w) (A.deeper (lawE L fa cd)) (execs (lawFD.body.drop 13) (lawE L fa cd)) Q E s := by
  have C2 := C
  have X0 := C.X
  revert X0
  k_fill
  intro X0
  obtain ⟨hh, hd, hu, X, T'⟩ := C
  obtain ⟨p', l, me, mg, mb, T'⟩ := T'
  dsimp only [lawE, lawFD, List.drop_succ_cons, List.drop_zero]
  dsimp only [lawE, lawFD] at hh hu64
  have hduN : (du, W.listOf dvs.toArray cdu) ∈ T ++ led L o1 o2 o3 o4 o5 pen inner p tp q tq np pv k O := List.mem_append_right _ (led_tail hdu)
  have hsub : ∀ x ∈ T ++ O, x ∈ T ++ led L o1 o2 o3 o4 o5 pen inner p tp q tq np pv k O := fun x hx => by
    rcases List.mem_append.mp hx with h | h
    · exact List.mem_append_left _ h
    · exact List.mem_append_right _ (led_tail h)
  k_unmd
  try k_fold
  walk_at "m goR"
  refine backs_ok (O := T ++ O) (Ctx.le C2 (by decide)) F N hsub hD hW hTl hSh ?_
  intro D vs bs c h' tk' F' N' hiv hbl hbs
  rw [hdue bs hbs] at hiv
  try dsimp only
  walk_at "m goN"
  refine ke_eq_ints (by exact islist_of N' List.mem_cons_self) (by exact islist_of N' (List.mem_cons_of_mem _ hduN)) hiv hdi hu64 ?_
  rw [decide_eq_true rfl]
  try dsimp only
  walk_at "m goN"
  exact K _ _ _ F'
end
section
theorem quiet42 : True := by
  w_top off
  exact True.intro
theorem wf_of {rows : Rows} {n : Int} (hl : (rows.length : Int) = n) (h1 : 1 ≤ n) (h4 : n ≤ 4) (h : ∀ r ∈ rows, r.length = 2 ∧ ∀ x ∈ r, -1 ≤ x ∧ x < n) : Wf rows := by
  refine ⟨by omega, by omega, fun st s0 s1 => ?_⟩
  have e : rowOf rows st = rows[st.toNat]'(by omega) := by
    unfold rowOf
    rw [List.getD_eq_getElem?_getD, List.getElem?_eq_getElem (by omega)]
    rfl
  have hr := h _ (List.getElem_mem (l := rows) (n := st.toNat) (by omega))
  rw [← e] at hr
  refine ⟨hr.1, fun k k0 k1 => ?_⟩
  have ec : cellOf rows st k = (rowOf rows st)[k.toNat]'(by omega) := by
    unfold cellOf
    rw [List.getD_eq_getElem?_getD, List.getElem?_eq_getElem (by omega)]
    rfl
  have := hr.2 _ (List.getElem_mem (l := rowOf rows st) (n := k.toNat) (by omega))
  rw [← ec] at this
  omega
theorem short_of {tags : Rows} (h : ∀ r ∈ tags, r = [] ∨ r = [0]) : Short tags := fun st => by
  unfold rowOf
  rw [List.getD_eq_getElem?_getD]
  cases e : tags[st.toNat]? with
  | none => simp
  | some r =>
    rcases h r (List.mem_of_getElem? e) with rfl | rfl <;> simp
set_option maxHeartbeats 4000000 in
theorem law_all {w : World} {A : Around} {s : Shared} {h₀ : Heap} {L fa : Addr} {cd : Value} {m : Str → Option Value} {sl : Addr} {vs : List Value} {ns : List Int} {o1 o2 o3 o4 o5 : Obj} {Q : Flow → Shared → Prop} {E : Value → Shared → Prop}
    (C : Ctx w (A.deeper (lawE L fa cd)) 8 h₀) (F : Fr h₀ L s.heap m) (hm : m (Str.ofString "script") = some (.ref sl)) (N : News h₀ L s.heap [(L + 1 + 1 + 1 + 1 + 1, o5), (L + 1 + 1 + 1 + 1, o4), (L + 1 + 1 + 1, o3), (L + 1 + 1, o2), (L + 1, o1)])
    (d1 : o1.data = .cell none) (d2 : o2.data = .cell none) (d3 : o3.data = .cell none) (d4 : o4.data = .cell none) (d5 : o5.data = .cell none)
    (hL : h₀.IsList sl vs.toArray) (hI : IntsAre vs ns) (hlen : ns.length ≤ 63) (hu64 : (A.deeper (lawE L fa cd)).units + 64 < cLine)
    (K : ∀ h' tk m', Fr h₀ L h' m' → Q (.ret (.bool true)) { s with heap := h', toks := tk }) :
    wpAny (model PySem.Challenge.rw_pq0568_01.prog w) (A.deeper (lawE L fa cd)) (execs lawFD.body (lawE L fa cd)) Q E s := by
  refine seg1 C F hm N d1 d2 d3 d4 d5 hL hI hlen ?_
  intro pen inner p1 tp1 q1 tq1 np1 pv k o1' o2' n t h1 tk1 F1 N1 P1 d1 d2 hn1 hn4
  refine seg2 C F1 N1 P1 d1 d2 d3 hn1 hn4 ?_
  intro p2 tp2 q2 tq2 np2 o3' ra rows O2 h2 tk2 F2 N2 P2 d3 hR hrn hrows
  have hW : Wf rows := wf_of hrn hn1 hn4 hrows
  have hW4 : rows.length ≤ 4 := by omega
  have hrl : ∀ r ∈ rows, r.length = 2 := fun r hr => (hrows r hr).1
  refine seg3 C F2 N2 P2 d1 d2 d4 hn1 hn4 ?_
  intro p3 tp3 q3 tq3 np3 o4' ta tags T3 h3 tk3 F3 N3 P3 d4 hT htn htags
  have hR := hR.mono (O' := T3 ++ O2) fun x hx => List.mem_append_right _ hx
  have hTl : tags.length = rows.length := by omega
  have hSh : Short tags := short_of htags
  refine seg4 C F3 N3 P3 d5 ?_
  intro o5' wa T4 m4 h4 tk4 F4 hm4 N4 P4 hWd
  have hR := hR.mono (O' := T4 ++ (T3 ++ O2)) fun x hx => List.mem_append_right _ hx
  have hT := hT.mono (O' := T4 ++ (T3 ++ O2)) fun x hx => List.mem_append_right _ hx
  have hWd := hWd.mono (O' := T4 ++ (T3 ++ O2)) fun x hx => List.mem_append_left _ hx
  generalize hO4 : T4 ++ (T3 ++ O2) = O4 at *
  refine seg5 C F4 hm4 N4 P4 d3 d4 hR hT hWd hW hW4 hTl hu64 ?_
  intro du dvs cdu m5 h5 tk5 F5 hm5 N5 P5 hdi hPl
  have hR := hR.mono (O' := (du, W.listOf dvs.toArray cdu) :: O4) fun x hx => List.mem_cons_of_mem _ hx
  have hT := hT.mono (O' := (du, W.listOf dvs.toArray cdu) :: O4) fun x hx => List.mem_cons_of_mem _ hx
  have hdu : (du, W.listOf dvs.toArray cdu) ∈ (du, W.listOf dvs.toArray cdu) :: O4 := List.mem_cons_self
  generalize hO5 : (du, W.listOf dvs.toArray cdu) :: O4 = O5 at *
  refine seg6 C F5 hm5 N5 P5 d3 d4 hR hT hW hW4 hTl hrl ?_
  intro mc T6 m6 h6 tk6 F6 hm6 hm6b N6 P6 hD
  have hR := hR.mono (O' := T6 ++ O5) fun x hx => List.mem_append_right _ hx
  have hT := hT.mono (O' := T6 ++ O5) fun x hx => List.mem_append_right _ hx
  have hdu : (du, W.listOf dvs.toArray cdu) ∈ T6 ++ O5 := List.mem_append_right _ hdu
  generalize hO6 : T6 ++ O5 = O6 at *
  refine seg7 C F6 hm6 hm6b N6 P6 d3 d4 hR hT hW hW4 hTl hrl hSh hdu hdi hD hu64 (fun bs _ hbs => due_eq hW hW4 hTl hPl hbs) ?_
  intro h7 tk7 F7 N7
  refine seg8 C F7 N7 P6 d1 ?_
  intro p8 tp8 q8 tq8 np8 tx tvs txt ctx h8 tk8 F8 N8 P8 hti htl htb
  have hR := hR.mono (O' := (tx, W.listOf tvs.toArray ctx) :: O6) fun x hx => List.mem_cons_of_mem _ hx
  have hT := hT.mono (O' := (tx, W.listOf tvs.toArray ctx) :: O6) fun x hx => List.mem_cons_of_mem _ hx
  have hD := hD.mono (O' := (tx, W.listOf tvs.toArray ctx) :: O6) fun x hx => List.mem_cons_of_mem _ hx
  have hdu : (du, W.listOf dvs.toArray cdu) ∈ (tx, W.listOf tvs.toArray ctx) :: O6 := List.mem_cons_of_mem _ hdu
  have htx : (tx, W.listOf tvs.toArray ctx) ∈ (tx, W.listOf tvs.toArray ctx) :: O6 := List.mem_cons_self
  generalize hO8 : (tx, W.listOf tvs.toArray ctx) :: O6 = O8 at *
  refine seg9 (ta := ta) (du := du) (mc := mc) (tx := tx) C F8 (Eq.trans (if_neg (by decide)) hm6) (Eq.trans (if_neg (by decide)) hm6b) (if_pos rfl) N8 d3 hR hW hW4 hTl hSh hdu hdi hD htx hti htl htb ?_
  intro m9 h9 tk9 F9 hm9 N9
  refine seg10a C F9 hm9 N9 d3 d4 hR hT hW hW4 hTl hrl ?_
  intro wi T10 m10 h10 tk10 F10 hm10 hm10b N10 hD10
  refine seg10b C F10 hm10 hm10b N10 hD10 (wider_wf hW hW4) (by simp [hTl]) (wider_short hSh) hdu hdi hu64 (fun bs hbs => wider_due hW hW4 hTl hPl hbs) ?_
  intro h11 tk11 m11 F11
  exact K h11 tk11 m11 F11
end
section
theorem quiet43 : True := by
  w_top off
  exact True.intro
set_option maxRecDepth 100000 in
set_option maxHeartbeats 8000000 in
theorem X : PySem.Challenge.rw_pq0568_01.Holds := by
  refine Mine.hd ?_
  k_go0
  rename_i KX X' V GL T B TE TW md mdo M ad3 ad4 hcd ns hs hlay0 hL1 hr1 hl2 ad1 ad2 sl vs ad5 hL ra w1 r0 hI hr hc hc' K0 hD h1 tk1 F o5 o4 o3 o2 o1 e5 e4 e3 e2 e1 N0 X0
  refine law_all (sl := sl) (vs := vs) (ns := ns) ⟨rfl, by show callerA.depth + 1 + 8 < recursionLimit; decide, by show callerA.units + 3 + 10 * 8 < cLine; decide, KX, ⟨_, _, _, _, _, T⟩⟩ F (by rfl) N0 ?_ ?_ ?_ ?_ ?_ hL hI (by omega) (by show callerA.units + 3 + 64 < cLine; decide) ?_
  all_goals first | exact e1 | exact e2 | exact e3 | exact e4 | exact e5 | skip
  intro h' tk m' F'
  refine goodW_bool F' (by assumption) (raisesW_false ?_) ?_
  · wrow_none_raised
  · wrow_post
end
end
end Mine
theorem PySem.Challenge.cw_pq0568_01_holds : PySem.Challenge.rw_pq0568_01.Holds :=
  Mine.X
