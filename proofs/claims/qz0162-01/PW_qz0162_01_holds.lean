import PyProof.Rows.All
import Wide.All
import OpenK.AllK
import Wide.FinOn
import Lean
import PySem.Challenge.RW_qz0162_01
open PySem PySem.W PySem.Spec PySem.Calls PyProof.Rows
set_option Elab.async false
set_option maxRecDepth 100000
set_option maxHeartbeats 8000000
set_option linter.all false
set_option genInjectivity false
set_option genSizeOfSpec false
set_option genSizeOf false
namespace Mine
section
/-- the head's hook, with the written part of the heap as its own constant: laid without the head -/
theorem capt {H : Hook} {P : Prop} (x : False ∧ H = H) (H' : Hook) (_ : H = H') : P := x.1.elim
@[reducible] def pick {P : Prop} (H : Hook) (_ : (False ∧ H = H) → P) : Hook := H
local macro_rules | `(tactic| o_head $t) => `(tactic| (refine capt (by assumption) $t ?_; rfl))
@[reducible] noncomputable def hok : Hook := by
  refine' pick (P := PySem.Challenge.rw_qz0162_01.row.Holds) _ (fun x => ?pf)
  (case pf => k_head)
end
end Mine
namespace Mine

def Has (h : Heap) (l : List (Addr × Obj)) : Prop := ∀ p ∈ l, h.get? p.1 = some p.2

def LeaveC (g : Heap) (R : Value → Shared → Prop) (v : Value) (s' : Shared) : Prop :=
  ∃ L' m' news', Fr g L' s'.heap m' ∧ News g L' s'.heap news' ∧ (g.StaysIn s'.heap → Has s'.heap news' → (∀ p ∈ news', g.get? p.1 = none) → R v s')

theorem leaveC_ {g : Heap} {L' : Addr} {m' : Str → Option Value} {news' : List (Addr × Obj)} {R : Value → Shared → Prop} {v : Value} {s' : Shared} (F' : Fr g L' s'.heap m') (N' : News g L' s'.heap news')
    (k : g.StaysIn s'.heap → Has s'.heap news' → (∀ p ∈ news', g.get? p.1 = none) → R v s') : LeaveC g R v s' := ⟨L', m', news', F', N', k⟩

theorem LeaveC.out {g : Heap} {R : Value → Shared → Prop} {v : Value} {s' : Shared} (h : LeaveC g R v s') : R v s' := by
  obtain ⟨L', m', news', F', N', k⟩ := h
  exact k F'.keep (fun p hp => (N' p hp).1) (fun p hp => (N' p hp).2.2)

/-- the facts that a call finds: the frames below, the written part, the top -/
structure At (w : World) (loose : List Str) (mean : ExcName → Option Value) (mg mb : Str → Option Value) (A : Around) (base : Heap) (outer : List Env) (g : Heap) : Prop where
  B : Below A base outer g
  X : (hok.heap_1 w.params).In g
  T : Top topProg loose mean mg mb g


/-- a contract of a def: over the objects rel (hidden in g), it gives R and leaves post -/
def Ctr (w : World) (f : Addr) (vs : List Value) (rel : List (Addr × Obj)) (D U : Nat) (Post : Value → List (Addr × Obj) → Prop) : Prop :=
  ∀ (loose : List Str) (mean : ExcName → Option Value) (mg mb : Str → Option Value) (dp un : Nat) (gd : Option (List Code)) (cn : Str) (cs : Scope) (ad : Addr) (ccd : Value) (cl : List (Str × Addr)) (outer : List Env) (base : Heap) (L : Addr) (s : Shared) (Rr : Result → Shared → Prop),
    At w loose mean mg mb (ktrTop dp un gd cn cs L ad ccd cl outer) base (envX cn cs L ad ccd cl :: outer) (hideAll s.heap (rel.map (·.1))) →
    Has s.heap rel → dp + D < recursionLimit → un + U < cLine →
    (∀ v news' h' tk', (hideAll s.heap (rel.map (·.1))).StaysIn h' → Has h' news' → (∀ p ∈ news', (hideAll s.heap (rel.map (·.1))).get? p.1 = none) → Post v news' → Rr (.ok (.ret v)) { s with heap := h', toks := tk' }) →
    codeAny (model PySem.Challenge.rw_qz0162_01.row.prog w) (ktrTop dp un gd cn cs L ad ccd cl outer) (.call (.ref f) ⟨vs, []⟩) Rr s

theorem code_ctr {w : World} {A : Around} {s : Shared} {base g : Heap} {env : Env} {outer : List Env} {K : Frag} {p : Program} {loose : List Str} {mean : ExcName → Option Value} {mg mb : Str → Option Value}
    {R : Result → Shared → Prop} {rel : List (Addr × Obj)} {name qual : Str} {params : Arguments} {body : List Stmt} {scope : Scope} {dV kV doc pm cdv ct oc : Value} {an od : Option Addr} {osl : Array (Option Value)} {f : Addr} {args : Args} {binds : List (Str × Value)}
    (B : Below A base (env :: outer) g) (hg : g = hideAll s.heap (rel.map (·.1))) (X : K.In g) (T : Top p loose mean mg mb g) (H : Has s.heap rel)
    (ho : K.lookup f = some ⟨oc, od, .func (fnOf name qual params body scope dV kV doc pm an cdv ct), osl⟩) (hcd : codeIn K cdv qual = true) (hroom : A.depth < recursionLimit)
    (hbind : BindsTo s (fnOf name qual params body scope dV kV doc pm an cdv ct) args binds) (hloc : ∀ y ∈ binds, scope.names.lookup y.1 = some .local)
    (h : ∀ L' h₁, Fr g L' h₁ (fun y => binds.reverse.lookup y) → News g L' h₁ rel →
      wpAny (model PySem.Challenge.rw_qz0162_01.row.prog w) (A.deeper (envOf qual scope L' f cdv)) (execs body (envOf qual scope L' f cdv))
        (fun fl s' => LeaveC g (fun v s' => R (.ok (.ret v)) s') (match fl with | .ret v => v | _ => .none) s')
        (fun e s' => wpAny (model PySem.Challenge.rw_qz0162_01.row.prog w) (A.deeper (envOf qual scope L' f cdv)) (leaving (envOf qual scope L' f cdv) e) (fun _ s'' => R (.error e) s'') (fun e' s'' => R (.error e') s'') s')
        { s with heap := h₁, toks := s.toks + binds.length })
    (hco : scope.isCoroutine = false) (hgen : scope.isGenerator = false) (hk : scope.kind = .function)
    (hcell : ∀ x ∈ scope.names, x.2 ≠ .cell) : codeAny (model PySem.Challenge.rw_qz0162_01.row.prog w) A (.call (.ref f) args) R s := by
  subst hg
  have st : (hideAll s.heap (rel.map (·.1))).StaysIn s.heap := fun b o e => of_hideAll _ e
  refine codeAny_call_def (fd := fnOf name qual params body scope dV kV doc pm an cdv ct) (body := body) (binds := binds) hroom (st _ _ (X _ _ ho)) rfl (T.nolimit.keeps st) (codeRec_of (X.keeps st) hcd) rfl hbind hcell hloc (fun h₁ hns hk₁ => ?_) hco hgen hk
  refine wpAny_mono (h s.heap.objs.size h₁ ⟨hns, fun b o e => hk₁ b o (of_hideAll _ e), Nat.le_of_eq (hideAll_size _ _)⟩
    (fun p hp => ⟨hk₁ _ _ (H p hp), Nat.ne_of_lt (Heap.lt_size (H p hp)), hideAll_none _ (List.mem_map_of_mem hp)⟩)) (fun fl s' hl => ?_) fun _ _ y => y
  exact hl.out

theorem code_ctrC {w : World} {A : Around} {s : Shared} {base g : Heap} {env : Env} {outer : List Env} {K : Frag} {p : Program} {loose : List Str} {mean : ExcName → Option Value} {mg mb : Str → Option Value}
    {R : Result → Shared → Prop} {rel : List (Addr × Obj)} {name qual : Str} {params : Arguments} {body : List Stmt} {scope : Scope} {dV kV doc pm cdv ct oc : Value} {an od : Option Addr} {osl : Array (Option Value)} {f : Addr} {args : Args} {binds : List (Str × Value)}
    (B : Below A base (env :: outer) g) (hg : g = hideAll s.heap (rel.map (·.1))) (X : K.In g) (T : Top p loose mean mg mb g) (H : Has s.heap rel)
    (ho : K.lookup f = some ⟨oc, od, .func (fnOf name qual params body scope dV kV doc pm an cdv ct), osl⟩) (hcd : codeIn K cdv qual = true) (hroom : A.depth < recursionLimit)
    (hbind : BindsTo s (fnOf name qual params body scope dV kV doc pm an cdv ct) args binds) (hkind : (binds.all fun y => scope.names.lookup y.1 == some .local || scope.names.lookup y.1 == some .cell) = true)
    (hnd : ((cellsFrom 0 scope.names []).map (·.1)).Nodup)
    (h : ∀ L' h₁ tk cells, Fr g L' h₁ (bindL (envOfC qual scope L' f cdv).kindOf binds fun _ => none) → News g L' h₁ (cells ++ rel) →
      CellsAre (bindC (envOfC qual scope L' f cdv).kindOf binds fun _ => none) (cellsFrom (L' + 1) scope.names []) cells → (∀ p ∈ rel, p.1 < L') →
      wpAny (model PySem.Challenge.rw_qz0162_01.row.prog w) (A.deeper (envOfC qual scope L' f cdv)) (execs body (envOfC qual scope L' f cdv))
        (fun fl s' => LeaveC g (fun v s' => R (.ok (.ret v)) s') (match fl with | .ret v => v | _ => .none) s')
        (fun e s' => wpAny (model PySem.Challenge.rw_qz0162_01.row.prog w) (A.deeper (envOfC qual scope L' f cdv)) (leaving (envOfC qual scope L' f cdv) e) (fun _ s'' => R (.error e) s'') (fun e' s'' => R (.error e') s'') s')
        { s with heap := h₁, toks := tk })
    (hco : scope.isCoroutine = false) (hgen : scope.isGenerator = false) (hk : scope.kind = .function) : codeAny (model PySem.Challenge.rw_qz0162_01.row.prog w) A (.call (.ref f) args) R s := by
  subst hg
  have st : (hideAll s.heap (rel.map (·.1))).StaysIn s.heap := fun b o e => of_hideAll _ e
  refine codeAny_call_function (fd := fnOf name qual params body scope dV kV doc pm an cdv ct) (body := body) hroom (st _ _ (X _ _ ho)) rfl hco hgen rfl (codeRec_of (X.keeps st) hcd) (hbind _ _ _ _ ?_)
  refine wpAny_newFunctionEnv_cells hk (kindsX hkind _) fun env' he s' x => ?_
  subst he
  refine ⟨(T.nolimit.keeps st).keeps x.toInCall.keep, codeAny_func ?_⟩
  obtain ⟨h₁, tk, rfl, _⟩ := x.done
  have hk₁ := x.toInCall.keep
  obtain ⟨cells, NC, Y⟩ := Cl.news (h₀ := s.heap) (Nat.le_refl _) fun n c hm => ⟨x.cell n c (lookup_of_mem_nodup (cellsFrom_names scope.names 0 (s.heap.objs.size + 1) [] [] rfl ▸ hnd) hm), x.above n c hm⟩
  refine wpAny_mono (h s.heap.objs.size h₁ tk cells ⟨x.toInCall.ns, fun b o e => hk₁ b o (of_hideAll _ e), Nat.le_of_eq (hideAll_size _ _)⟩ (fun p hp => ?_) Y (fun p hp => Heap.lt_size (H p hp))) (fun fl s' hl => hl.out) fun _ _ y => y
  rcases List.mem_append.mp hp with hp | hp
  · refine ⟨(NC p hp).1, (NC p hp).2.1, ?_⟩
    cases q : (hideAll s.heap (rel.map (·.1))).get? p.1 with
    | none => rfl
    | some o => have := of_hideAll _ q; rw [(NC p hp).2.2] at this; cases this
  · exact ⟨hk₁ _ _ (H p hp), Nat.ne_of_lt (Heap.lt_size (H p hp)), hideAll_none _ (List.mem_map_of_mem hp)⟩

section
variable {w : World} {f : Addr} {vs : List Value} {rel : List (Addr × Obj)} {D U : Nat} {Post : Value → List (Addr × Obj) → Prop}
    {loose : List Str} {mean : ExcName → Option Value} {mg mb : Str → Option Value} {dp un : Nat} {gd : Option (List Code)} {cn : Str} {cs : Scope} {ad : Addr} {ccd : Value} {cl : List (Str × Addr)} {outer : List Env} {A₀ : Around} {base h₀ : Heap} {L : Addr} {m : Str → Option Value} {s : Shared} {news : List (Addr × Obj)} {Q E : Value → Shared → Prop}

/-- a call's core: what the caller knows of the rest stays -/
theorem use_codeC {R : Result → Shared → Prop} (C : ∀ Rr : Result → Shared → Prop, At w loose mean mg mb (ktrTop dp un gd cn cs L ad ccd cl outer) base (envX cn cs L ad ccd cl :: outer) (hideAll s.heap (rel.map (·.1))) → Has s.heap rel →
      (∀ v news' h' tk', (hideAll s.heap (rel.map (·.1))).StaysIn h' → Has h' news' → (∀ p ∈ news', (hideAll s.heap (rel.map (·.1))).get? p.1 = none) → Post v news' → Rr (.ok (.ret v)) { s with heap := h', toks := tk' }) →
      codeAny (model PySem.Challenge.rw_qz0162_01.row.prog w) (ktrTop dp un gd cn cs L ad ccd cl outer) (.call (.ref f) ⟨vs, []⟩) Rr s)
    (B : Below A₀ base outer h₀) (F : Fr h₀ L s.heap m) (X : (hok.heap_1 w.params).In h₀) (N : News h₀ L s.heap news) (T : Top topProg loose mean mg mb h₀) (hk : cs.kind = .function)
    (hrel : ∀ p ∈ rel, p ∈ news)
    (h : ∀ v news' h' tk', Fr h₀ L h' m → News h₀ L h' news' → (∀ p ∈ news, (∀ q ∈ rel, p.1 ≠ q.1) → (h'.get? p.1 = some p.2 ∧ p.1 ≠ L ∧ h₀.get? p.1 = none) ∧ ∀ q ∈ news', p.1 ≠ q.1) → Post v news' → R (.ok (.ret v)) { s with heap := h', toks := tk' }) :
    codeAny (model PySem.Challenge.rw_qz0162_01.row.prog w) (ktrTop dp un gd cn cs L ad ccd cl outer) (.call (.ref f) ⟨vs, []⟩) R s := by
  have nm : ∀ b o, h₀.get? b = some o → b ∉ rel.map (·.1) := fun b o e q => by
    obtain ⟨p, hp, rfl⟩ := List.mem_map.mp q
    rw [(N p (hrel p hp)).2.2] at e; cases e
  have st : h₀.StaysIn (hideAll s.heap (rel.map (·.1))) := fun b o e => hideAll_get _ (F.keep b o e) (nm b o e)
  obtain ⟨oL, es, ep, hL, hLd, hLk, hLf⟩ := F.ns
  have nL : L ∉ rel.map (·.1) := fun q => by
    obtain ⟨p, hp, e⟩ := List.mem_map.mp q
    exact (N p (hrel p hp)).2.1 e
  have hLg := hideAll_get (rel.map (·.1)) hL nL
  refine (C _ ⟨?_, X.keeps st, T.keeps st⟩ (fun p hp => (N p (hrel p hp)).1) (fun v news' h' tk' sk hH hN hP => ?_))
  · exact (groundX (R := fun _ _ => True) B F (fun p hp => N p (hrel p hp)) rfl rfl hk).2.1
  · refine h v news' h' tk' ⟨⟨oL, es, ep, sk L oL hLg, hLd, hLk, hLf⟩, fun b o e => sk b o (st b o e), F.above⟩ (fun p hp => ⟨hH p hp, fun e => ?_, ?_⟩) (fun p hp hn => ?_) hP
    · have := hN p hp; rw [e, hLg] at this; cases this
    · cases q : h₀.get? p.1 with
      | none => rfl
      | some o => have := hN p hp; rw [st _ _ q] at this; cases this
    · have hn' : p.1 ∉ rel.map (·.1) := fun q => by
        obtain ⟨r, hr, e⟩ := List.mem_map.mp q
        exact hn r hr e.symm
      have hg := hideAll_get (rel.map (·.1)) (N p hp).1 hn'
      exact ⟨⟨sk _ _ hg, (N p hp).2⟩, fun q hq e => by have := hN q hq; rw [← e, hg] at this; cases this⟩

theorem use_core (C : ∀ Rr : Result → Shared → Prop, At w loose mean mg mb (ktrTop dp un gd cn cs L ad ccd cl outer) base (envX cn cs L ad ccd cl :: outer) (hideAll s.heap (rel.map (·.1))) → Has s.heap rel →
      (∀ v news' h' tk', (hideAll s.heap (rel.map (·.1))).StaysIn h' → Has h' news' → (∀ p ∈ news', (hideAll s.heap (rel.map (·.1))).get? p.1 = none) → Post v news' → Rr (.ok (.ret v)) { s with heap := h', toks := tk' }) →
      codeAny (model PySem.Challenge.rw_qz0162_01.row.prog w) (ktrTop dp un gd cn cs L ad ccd cl outer) (.call (.ref f) ⟨vs, []⟩) Rr s)
    (B : Below A₀ base outer h₀) (F : Fr h₀ L s.heap m) (X : (hok.heap_1 w.params).In h₀) (N : News h₀ L s.heap news) (T : Top topProg loose mean mg mb h₀) (hk : cs.kind = .function)
    (hrel : ∀ p ∈ rel, p ∈ news)
    (h : ∀ v news' h' tk', Fr h₀ L h' m → News h₀ L h' news' → (∀ p ∈ news, (∀ q ∈ rel, p.1 ≠ q.1) → (h'.get? p.1 = some p.2 ∧ p.1 ≠ L ∧ h₀.get? p.1 = none) ∧ ∀ q ∈ news', p.1 ≠ q.1) → Post v news' → Q v { s with heap := h', toks := tk' }) :
    wpAny (model PySem.Challenge.rw_qz0162_01.row.prog w) (ktrTop dp un gd cn cs L ad ccd cl outer) (call (.ref f) vs) Q E s := 
  wpAny_call (use_codeC C B F X N T hk hrel h)
/-- a contract at a call -/
theorem ctr_use (C : Ctr w f vs rel D U Post)
    (B : Below A₀ base outer h₀) (F : Fr h₀ L s.heap m) (X : (hok.heap_1 w.params).In h₀) (N : News h₀ L s.heap news) (T : Top topProg loose mean mg mb h₀) (hk : cs.kind = .function)
    (hrel : ∀ p ∈ rel, p ∈ news) (hd1 : dp + D < recursionLimit) (hu : un + U < cLine)
    (h : ∀ v news' h' tk', Fr h₀ L h' m → News h₀ L h' news' → (∀ p ∈ news, (∀ q ∈ rel, p.1 ≠ q.1) → (h'.get? p.1 = some p.2 ∧ p.1 ≠ L ∧ h₀.get? p.1 = none) ∧ ∀ q ∈ news', p.1 ≠ q.1) → Post v news' → Q v { s with heap := h', toks := tk' }) :
    wpAny (model PySem.Challenge.rw_qz0162_01.row.prog w) (ktrTop dp un gd cn cs L ad ccd cl outer) (call (.ref f) vs) Q E s :=
  use_core (Post := Post) (fun Rr a b c => C loose mean mg mb dp un gd cn cs ad ccd cl outer base L s Rr a b hd1 hu c) B F X N T hk hrel h

/-- a contract that reads alone -/
theorem use_r {hp : Heap} {gn : Array GenState} {dr : Drawn} {nk : Nat} {os : OsState} {α : Type} {mk : α → Value} (C : Ctr w f vs rel D U (fun v n' => ∃ t, v = mk t ∧ n' = rel))
    (B : Below A₀ base outer h₀) (F : Fr h₀ L hp m) (X : (hok.heap_1 w.params).In h₀) (N : News h₀ L hp news) (T : Top topProg loose mean mg mb h₀) (hk : cs.kind = .function)
    (hrel : ∀ p ∈ rel, p ∈ news) (hd1 : dp + D < recursionLimit) (hu : un + U < cLine)
    (h : ∀ t h' tk', Fr h₀ L h' m → News h₀ L h' news → Q (mk t) ⟨h', gn, dr, tk', os⟩) :
    wpAny (model PySem.Challenge.rw_qz0162_01.row.prog w) (ktrTop dp un gd cn cs L ad ccd cl outer) (call (.ref f) vs) Q E ⟨hp, gn, dr, nk, os⟩ := by
  refine ctr_use C B F X N T hk hrel hd1 hu fun v n' h' tk' F' N' hr hP => ?_
  obtain ⟨t, rfl, rfl⟩ := hP
  refine h t h' tk' F' fun p hp => ?_
  by_cases hq : ∃ q ∈ n', p.1 = q.1
  · obtain ⟨q, hq, e⟩ := hq
    have h1 := (N p hp).1
    have h2 := (N q (hrel q hq)).1
    rw [e, h2] at h1
    have e2 : p = q := Prod.ext e (Option.some.inj h1).symm
    rw [e2]; exact N' q hq
  · exact (hr p hp fun q hq' e => hq ⟨q, hq', e⟩).1

/-- a contract that writes one object -/
theorem use_u {hp : Heap} {gn : Array GenState} {dr : Drawn} {nk : Nat} {os : OsState} {α : Type} {mk : α → Value} {oth : List (Addr × Obj)} {news' : α → List (Addr × Obj)} {dx : Addr} {od : Obj} {od' : α → Obj} (C : Ctr w f vs ((dx, od) :: oth) D U (fun v n' => ∃ t, v = mk t ∧ n' = (dx, od' t) :: oth))
    (B : Below A₀ base outer h₀) (F : Fr h₀ L hp m) (X : (hok.heap_1 w.params).In h₀) (N : News h₀ L hp news) (T : Top topProg loose mean mg mb h₀) (hk : cs.kind = .function)
    (hrel : ∀ p ∈ (dx, od) :: oth, p ∈ news) (hU : ∀ t, Upd dx od (od' t) news (news' t)) (hd1 : dp + D < recursionLimit) (hu : un + U < cLine)
    (h : ∀ t h' tk', Fr h₀ L h' m → News h₀ L h' (news' t) → Q (mk t) ⟨h', gn, dr, tk', os⟩) :
    wpAny (model PySem.Challenge.rw_qz0162_01.row.prog w) (ktrTop dp un gd cn cs L ad ccd cl outer) (call (.ref f) vs) Q E ⟨hp, gn, dr, nk, os⟩ := by
  refine ctr_use C B F X N T hk hrel hd1 hu fun v n' h' tk' F' N' hr hP => ?_
  obtain ⟨t, rfl, rfl⟩ := hP
  refine h t h' tk' F' fun p hp => ?_
  obtain ⟨pre, post, e1, e2, h1, h2⟩ := (hU t).split
  have old : p.1 ≠ dx → p ∈ news → h'.get? p.1 = some p.2 ∧ p.1 ≠ L ∧ h₀.get? p.1 = none := fun hne hm => by
    by_cases hq : ∃ q ∈ (dx, od) :: oth, p.1 = q.1
    · obtain ⟨q, hq, e⟩ := hq
      have a1 := (N p hm).1
      have a2 := (N q (hrel q hq)).1
      rw [e, a2] at a1
      have e3 : p = q := Prod.ext e (Option.some.inj a1).symm
      rcases List.mem_cons.mp hq with z | z
      · exact absurd (by rw [e, z]) hne
      · rw [e3]; exact N' q (.tail _ z)
    · exact (hr p hm fun q hq' e => hq ⟨q, hq', e⟩).1
  rw [e2] at hp
  rcases List.mem_append.mp hp with q | q
  · exact old (h1 p q) (by rw [e1]; exact List.mem_append_left _ q)
  · rcases List.mem_cons.mp q with rfl | q
    · exact N' _ (.head _)
    · exact old (h2 p q) (by rw [e1]; exact List.mem_append_right _ (.tail _ q))

/-- a contract that writes one object and gives a new one -/
theorem use_un {hp : Heap} {gn : Array GenState} {dr : Drawn} {nk : Nat} {os : OsState} {α : Type} {mk : α → Value} {oth : List (Addr × Obj)} {news' : α → List (Addr × Obj)} {dx : Addr} {od : Obj} {od' : α → Obj} {na : α → Addr} {no : α → Obj} (C : Ctr w f vs ((dx, od) :: oth) D U (fun v n' => ∃ t, v = mk t ∧ n' = (na t, no t) :: (dx, od' t) :: oth))
    (B : Below A₀ base outer h₀) (F : Fr h₀ L hp m) (X : (hok.heap_1 w.params).In h₀) (N : News h₀ L hp news) (T : Top topProg loose mean mg mb h₀) (hk : cs.kind = .function)
    (hrel : ∀ p ∈ (dx, od) :: oth, p ∈ news) (hU : ∀ t, Upd dx od (od' t) news (news' t)) (hne : ∀ t, ∀ z ∈ ((dx, od) :: oth).map (·.1), z ≠ na t) (hd1 : dp + D < recursionLimit) (hu : un + U < cLine)
    (h : ∀ t h' tk', Fr h₀ L h' m → News h₀ L h' ((na t, no t) :: news' t) → (∀ p ∈ news, @Ne Nat p.1 (na t)) → Q (mk t) ⟨h', gn, dr, tk', os⟩) :
    wpAny (model PySem.Challenge.rw_qz0162_01.row.prog w) (ktrTop dp un gd cn cs L ad ccd cl outer) (call (.ref f) vs) Q E ⟨hp, gn, dr, nk, os⟩ := by
  refine ctr_use C B F X N T hk hrel hd1 hu fun v n' h' tk' F' N' hr hP => ?_
  obtain ⟨t, rfl, rfl⟩ := hP
  obtain ⟨pre, post, e1, e2, h1, h2⟩ := (hU t).split
  have old : ∀ p : Addr × Obj, p.1 ≠ dx → p ∈ news → h'.get? p.1 = some p.2 ∧ p.1 ≠ L ∧ h₀.get? p.1 = none := fun p hne hm => by
    by_cases hq : ∃ q ∈ (dx, od) :: oth, p.1 = q.1
    · obtain ⟨q, hq, e⟩ := hq
      have a1 := (N p hm).1
      have a2 := (N q (hrel q hq)).1
      rw [e, a2] at a1
      have e3 : p = q := Prod.ext e (Option.some.inj a1).symm
      rcases List.mem_cons.mp hq with z | z
      · exact absurd (by rw [e, z]) hne
      · rw [e3]; exact N' q (.tail _ (.tail _ z))
    · exact (hr p hm fun q hq' e => hq ⟨q, hq', e⟩).1
  refine h t h' tk' F' (fun p hp => ?_) (fun p hp => ?_)
  · rcases List.mem_cons.mp hp with rfl | hp
    · exact N' _ (.head _)
    rw [e2] at hp
    rcases List.mem_append.mp hp with q | q
    · exact old p (h1 p q) (by rw [e1]; exact List.mem_append_left _ q)
    · rcases List.mem_cons.mp q with rfl | q
      · exact N' _ (.tail _ (.head _))
      · exact old p (h2 p q) (by rw [e1]; exact List.mem_append_right _ (.tail _ q))
  · by_cases hq : ∃ q ∈ (dx, od) :: oth, p.1 = q.1
    · obtain ⟨q, hq, e⟩ := hq
      have := hne t q.1 (List.mem_map_of_mem hq)
      rw [e]; exact this
    · exact (hr p hp fun q hq' e => hq ⟨q, hq', e⟩).2 _ (.head _)

/-- a contract that writes two objects -/
theorem use_u2 {hp : Heap} {gn : Array GenState} {dr : Drawn} {nk : Nat} {os : OsState} {α : Type} {mk : α → Value} {oth : List (Addr × Obj)} {mid news' : α → List (Addr × Obj)} {dx dy : Addr} {od oe : Obj} {od' oe' : α → Obj} (C : Ctr w f vs ((dx, od) :: (dy, oe) :: oth) D U (fun v n' => ∃ t, v = mk t ∧ n' = (dx, od' t) :: (dy, oe' t) :: oth))
    (B : Below A₀ base outer h₀) (F : Fr h₀ L hp m) (X : (hok.heap_1 w.params).In h₀) (N : News h₀ L hp news) (T : Top topProg loose mean mg mb h₀) (hk : cs.kind = .function)
    (hrel : ∀ p ∈ (dx, od) :: (dy, oe) :: oth, p ∈ news) (hU : ∀ t, Upd dx od (od' t) news (mid t)) (hV : ∀ t, Upd dy oe (oe' t) (mid t) (news' t)) (hd1 : dp + D < recursionLimit) (hu : un + U < cLine)
    (h : ∀ t h' tk', Fr h₀ L h' m → News h₀ L h' (news' t) → Q (mk t) ⟨h', gn, dr, tk', os⟩) :
    wpAny (model PySem.Challenge.rw_qz0162_01.row.prog w) (ktrTop dp un gd cn cs L ad ccd cl outer) (call (.ref f) vs) Q E ⟨hp, gn, dr, nk, os⟩ := by
  refine ctr_use C B F X N T hk hrel hd1 hu fun v n' h' tk' F' N' hr hP => ?_
  obtain ⟨t, rfl, rfl⟩ := hP
  refine h t h' tk' F' fun p hp => ?_
  obtain ⟨pre, post, e1, e2, h1, h2⟩ := (hU t).split
  obtain ⟨pre2, post2, e3, e4, h3, h4⟩ := (hV t).split
  have old : p.1 ≠ dx → p.1 ≠ dy → p ∈ news → h'.get? p.1 = some p.2 ∧ p.1 ≠ L ∧ h₀.get? p.1 = none := fun hne hne2 hm => by
    by_cases hq : ∃ q ∈ (dx, od) :: (dy, oe) :: oth, p.1 = q.1
    · obtain ⟨q, hq, e⟩ := hq
      have a1 := (N p hm).1
      have a2 := (N q (hrel q hq)).1
      rw [e, a2] at a1
      have e3 : p = q := Prod.ext e (Option.some.inj a1).symm
      rcases List.mem_cons.mp hq with z | z
      · exact absurd (by rw [e, z]) hne
      · rcases List.mem_cons.mp z with z | z
        · exact absurd (by rw [e, z]) hne2
        · rw [e3]; exact N' q (.tail _ (.tail _ z))
    · exact (hr p hm fun q hq' e => hq ⟨q, hq', e⟩).1
  have inmid : p.1 ≠ dy → p ∈ mid t → h'.get? p.1 = some p.2 ∧ p.1 ≠ L ∧ h₀.get? p.1 = none := fun hne hm => by
    rw [e2] at hm
    rcases List.mem_append.mp hm with q | q
    · exact old (h1 p q) hne (by rw [e1]; exact List.mem_append_left _ q)
    · rcases List.mem_cons.mp q with rfl | q
      · exact N' _ (.head _)
      · exact old (h2 p q) hne (by rw [e1]; exact List.mem_append_right _ (.tail _ q))
  rw [e4] at hp
  rcases List.mem_append.mp hp with q | q
  · exact inmid (h3 p q) (by rw [e3]; exact List.mem_append_left _ q)
  · rcases List.mem_cons.mp q with rfl | q
    · exact N' _ (.tail _ (.head _))
    · exact inmid (h4 p q) (by rw [e3]; exact List.mem_append_right _ (.tail _ q))
end

/-- a contract of a def that asks something of the heap -/
def CtrP (w : World) (f : Addr) (vs : List Value) (rel : List (Addr × Obj)) (Pre : Heap → Prop) (D U : Nat) (Post : Value → List (Addr × Obj) → Prop) : Prop :=
  ∀ (loose : List Str) (mean : ExcName → Option Value) (mg mb : Str → Option Value) (dp un : Nat) (gd : Option (List Code)) (cn : Str) (cs : Scope) (ad : Addr) (ccd : Value) (cl : List (Str × Addr)) (outer : List Env) (base : Heap) (L : Addr) (s : Shared) (Rr : Result → Shared → Prop),
    At w loose mean mg mb (ktrTop dp un gd cn cs L ad ccd cl outer) base (envX cn cs L ad ccd cl :: outer) (hideAll s.heap (rel.map (·.1))) →
    Has s.heap rel → Pre (hideAll s.heap (rel.map (·.1))) → dp + D < recursionLimit → un + U < cLine →
    (∀ v news' h' tk', (hideAll s.heap (rel.map (·.1))).StaysIn h' → Has h' news' → (∀ p ∈ news', (hideAll s.heap (rel.map (·.1))).get? p.1 = none) → Post v news' → Rr (.ok (.ret v)) { s with heap := h', toks := tk' }) →
    codeAny (model PySem.Challenge.rw_qz0162_01.row.prog w) (ktrTop dp un gd cn cs L ad ccd cl outer) (.call (.ref f) ⟨vs, []⟩) Rr s
section
variable {w : World} {f : Addr} {vs : List Value} {rel : List (Addr × Obj)} {Pre : Heap → Prop} {D U : Nat} {Post : Value → List (Addr × Obj) → Prop}
    {loose : List Str} {mean : ExcName → Option Value} {mg mb : Str → Option Value} {dp un : Nat} {gd : Option (List Code)} {cn : Str} {cs : Scope} {ad : Addr} {ccd : Value} {cl : List (Str × Addr)} {outer : List Env} {A₀ : Around} {base h₀ : Heap} {L : Addr} {m : Str → Option Value} {s : Shared} {news : List (Addr × Obj)} {Q E : Value → Shared → Prop}
/-- a contract over no object, at a call: new objects come on top -/
theorem ctrN_use (C : CtrP w f vs [] Pre D U Post)
    (B : Below A₀ base outer h₀) (F : Fr h₀ L s.heap m) (X : (hok.heap_1 w.params).In h₀) (N : News h₀ L s.heap news) (T : Top topProg loose mean mg mb h₀) (hk : cs.kind = .function)
    (hpre : Pre s.heap) (hd1 : dp + D < recursionLimit) (hu : un + U < cLine)
    (h : ∀ v news' h' tk', Fr h₀ L h' m → News h₀ L h' (news' ++ news) → (∀ p ∈ news, ∀ q ∈ news', @Ne Nat p.1 q.1) → Post v news' → Q v { s with heap := h', toks := tk' }) :
    wpAny (model PySem.Challenge.rw_qz0162_01.row.prog w) (ktrTop dp un gd cn cs L ad ccd cl outer) (call (.ref f) vs) Q E s := by
  refine use_core (rel := []) (Post := Post) (fun Rr a b c => C loose mean mg mb dp un gd cn cs ad ccd cl outer base L s Rr a b hpre hd1 hu c) B F X N T hk (fun _ hp => (nomatch hp)) fun v n' h' tk' F' N' hr hP => h v n' h' tk' F' (fun p hp => ?_) (fun p hp q hq => (hr p hp fun _ hq => (nomatch hq)).2 q hq) hP
  rcases List.mem_append.mp hp with hp | hp
  · exact N' p hp
  · exact (hr p hp fun _ hq => (nomatch hq)).1
end

theorem end_u {α : Type} {mk : α → Value} {rel' : α → List (Addr × Obj)} {g : Heap} {s : Shared} {Rr : Result → Shared → Prop}
    (hret : ∀ v news' h' tk', g.StaysIn h' → Has h' news' → (∀ p ∈ news', g.get? p.1 = none) → (∃ t, v = mk t ∧ news' = rel' t) → Rr (.ok (.ret v)) { s with heap := h', toks := tk' })
    (t : α) {L' : Addr} {m' : Str → Option Value} {news'' : List (Addr × Obj)} {v : Value} {h' : Heap} {tk' : Nat} (hv : v = mk t) (F' : Fr g L' h' m') (N' : News g L' h' news'') (hsub : ∀ p ∈ rel' t, p ∈ news'') :
    LeaveC g (fun v s' => Rr (.ok (.ret v)) s') v { s with heap := h', toks := tk' } :=
  leaveC_ F' N' fun kS kH kN => hret v (rel' t) h' tk' kS (fun p hp => kH p (hsub p hp)) (fun p hp => kN p (hsub p hp)) ⟨t, hv, rfl⟩
theorem int_eq {a b : Int} {t : Tok} (h : a = b) : Value.int a t = Value.int b t := by rw [h]
theorem bool_eq {a b : Bool} (h : a = b) : Value.bool a = Value.bool b := by rw [h]
end Mine
-- part Rul
namespace Mine
/-- ev counts b; kept out of omega's sight -/
def EvIs (ev : Int) (b : Bool) : Prop := ev = if b then 1 else 0
theorem EvIs.f : EvIs 0 false := rfl
theorem EvIs.t : EvIs 1 true := rfl
theorem EvIs.rng {ev : Int} {b : Bool} (h : EvIs ev b) : 0 ≤ ev ∧ ev ≤ 1 := by
  unfold EvIs at h
  subst h
  cases b <;> decide
section
variable {M : Model} {A : Around} {h₀ : Heap} {L : Addr} {m : Str → Option Value} {E : Value → Shared → Prop}
/-- the state anew: the count of tokens is let go -/
theorem nst {α : Type} {T : Sem α} {Q : α → Shared → Prop} {s s0 : Shared} {h : Heap} {n : Nat} (e : s = { s0 with heap := h, toks := n }) (k : wpAny M A T Q E { s0 with heap := h, toks := n }) : wpAny M A T Q E s := by
  subst e; exact k
theorem cint {i : Int} {k pos} {env : Env} {Q : Value → Shared → Prop} {h : Heap} {gn : Array GenState} {dr : _} {n : Nat} {os : OsState} (c : Q (.int i n) ⟨h, gn, dr, n + 1, os⟩) : wpAny M A (eval (.Constant (.int i) k pos) env) Q E ⟨h, gn, dr, n, os⟩ :=
  wpAny_Constant_int c
theorem cbytes {x : List UInt8} {k pos} {env : Env} {Q : Value → Shared → Prop} {h : Heap} {gn : Array GenState} {dr : _} {n : Nat} {os : OsState} (c : Q (.bytes x.toArray n) ⟨h, gn, dr, n + 1, os⟩) : wpAny M A (eval (.Constant (.bytes x) k pos) env) Q E ⟨h, gn, dr, n, os⟩ :=
  Constant_bytes c
theorem execs_T {st : Stmt} {rest : List Stmt} {env : Env} {Q : Flow → Shared → Prop} {h : Heap} {gn : Array GenState} {dr : Drawn} {n : Nat} {os : OsState}
    (k : ∀ tk, wpAny M A (exec st env) (fun f s' => match f with | .next => wpAny M A (execs rest env) Q E s' | f => Q f s') E ⟨h, gn, dr, tk, os⟩) : wpAny M A (execs (st :: rest) env) Q E ⟨h, gn, dr, n, os⟩ :=
  wpAny_execs_cons (k n)
theorem A_let {α : Type} {T : Sem α} {Q : α → Shared → Prop} {s : Shared} (k : let A' := A; wpAny M A' T Q E s) : wpAny M A T Q E s := k
theorem fr_let {P : Prop} {h : Heap} (F : Fr h₀ L h m) (k : let m' := m; Fr h₀ L h m' → P) : P := k F
end
section
variable {prog : Program} {w : World} {A : Around} {E : Value → Shared → Prop} {s : Shared} {h₀ : Heap} {L : Addr} {m : Str → Option Value} {news : List (Addr × Obj)}
theorem mod_pos {hp : Heap} {gn : Array GenState} {dr : Drawn} {nk : Nat} {os : OsState} {a b : Int} {t u : Tok} {Q : Value → Shared → Prop} (hb : 0 < b) (h : ∀ t' tk', Q (.int (a % b) t') ⟨hp, gn, dr, tk', os⟩) :
    wpAny (model prog w) A (binaryOp .Mod (.int a t) (.int b u)) Q E ⟨hp, gn, dr, nk, os⟩ :=
  mod_int' (by omega) (by rw [Int.fmod_eq_emod_of_nonneg _ (by omega)]; exact h _ _)
theorem div_pos {hp : Heap} {gn : Array GenState} {dr : Drawn} {nk : Nat} {os : OsState} {a b : Int} {t u : Tok} {Q : Value → Shared → Prop} (hb : 0 < b) (ha : b < 1000) (h : ∀ t' tk', Q (.int (a / b) t') ⟨hp, gn, dr, tk', os⟩) :
    wpAny (model prog w) A (binaryOp .FloorDiv (.int a t) (.int b u)) Q E ⟨hp, gn, dr, nk, os⟩ :=
  floordiv_int (by omega) (by rw [Int.fdiv_eq_ediv_of_nonneg _ (by omega)]; exact h _ _) (.inl (PyProof.noPylong_small (by omega)))
theorem mul_small {hp : Heap} {gn : Array GenState} {dr : Drawn} {nk : Nat} {os : OsState} {a b : Int} {t u : Tok} {Q : Value → Shared → Prop} (ha : -1000000000000000000 < a ∧ a < 1000000000000000000) (h : ∀ t' tk', Q (.int (a * b) t') ⟨hp, gn, dr, tk', os⟩) :
    wpAny (model prog w) A (binaryOp .Mult (.int a t) (.int b u)) Q E ⟨hp, gn, dr, nk, os⟩ :=
  mul_int (h _ _) (.of_left (PySem.intBits_le_iff.mpr (by omega)))
theorem item_lit {value slice : PySem.Expr} {l : Addr} {items : Array Value} {c : Nat} {k : Int} {u : Tok} {v : Value} {Q : Value → Shared → Prop} (N : News h₀ L s.heap news) (hm : (l, listOf items c) ∈ news)
    (h0 : 0 ≤ k) (hhi : k < 2 ^ 63) (hx : items[k.toNat]? = some v) (h : Q v s)
    (hs : subscripted slice false (.ref l) (.int k u) = operate [.ref l, .int k u] (getItem (.ref l) (.int k u)) := by with_unfolding_all rfl) :
    wpAny (model prog w) A (subscriptTail value slice (.ref l) (.int k u)) Q E s :=
  tail_any (News.isList N hm).typeIs slot_list_getitem.lookup (wpAny_getItem_list (News.isList N hm) h0 hhi hx h) hs
theorem item_0 {value slice : PySem.Expr} {l : Addr} {r : List Value} {c : Nat} {u : Tok} {v : Value} {Q : Value → Shared → Prop} (N : News h₀ L s.heap news) (hm : (l, listOf (v :: r).toArray c) ∈ news) (h : Q v s)
    (hs : subscripted slice false (.ref l) (.int 0 u) = operate [.ref l, .int 0 u] (getItem (.ref l) (.int 0 u)) := by with_unfolding_all rfl) :
    wpAny (model prog w) A (subscriptTail value slice (.ref l) (.int 0 u)) Q E s := item_lit N hm (by decide) (by decide) rfl h hs
theorem item_1 {value slice : PySem.Expr} {l : Addr} {x : Value} {r : List Value} {c : Nat} {u : Tok} {v : Value} {Q : Value → Shared → Prop} (N : News h₀ L s.heap news) (hm : (l, listOf (x :: v :: r).toArray c) ∈ news) (h : Q v s)
    (hs : subscripted slice false (.ref l) (.int 1 u) = operate [.ref l, .int 1 u] (getItem (.ref l) (.int 1 u)) := by with_unfolding_all rfl) :
    wpAny (model prog w) A (subscriptTail value slice (.ref l) (.int 1 u)) Q E s := item_lit N hm (by decide) (by decide) rfl h hs
theorem int_bb {hp : Heap} {gn : Array GenState} {dr : Drawn} {nk : Nat} {os : OsState} {b : Bool} {r : Int} {Q : Value → Shared → Prop} (hr : EvIs r b) (h : ∀ t' tk', Q (.int r t') ⟨hp, gn, dr, tk', os⟩) : wpAny (model prog w) A (call (.type "int") [.bool b]) Q E ⟨hp, gn, dr, nk, os⟩ :=
  call_int_bool (by rw [← (show r = if b then 1 else 0 from hr)]; exact h _ _)
theorem int_bf {hp : Heap} {gn : Array GenState} {dr : Drawn} {nk : Nat} {os : OsState} {Q : Value → Shared → Prop} (h : ∀ t' tk', Q (.int 0 t') ⟨hp, gn, dr, tk', os⟩) : wpAny (model prog w) A (call (.type "int") [.bool false]) Q E ⟨hp, gn, dr, nk, os⟩ := int_bb rfl h
theorem int_bt {hp : Heap} {gn : Array GenState} {dr : Drawn} {nk : Nat} {os : OsState} {Q : Value → Shared → Prop} (h : ∀ t' tk', Q (.int 1 t') ⟨hp, gn, dr, tk', os⟩) : wpAny (model prog w) A (call (.type "int") [.bool true]) Q E ⟨hp, gn, dr, nk, os⟩ := int_bb rfl h
theorem ceq_t {a b : Int} {t u : Tok} {Q : Value → Shared → Prop} (h : a = b) (hq : Q (.bool true) s) : wpAny (model prog w) A (compareOp .Eq (.int a t) (.int b u)) Q E s :=
  PyProof.Rows.eq_int (by have e : (a == b) = true := (by first | (simp only [beq_iff_eq, bne_iff_ne, decide_eq_true_eq, beq_eq_false_iff_ne, bne_eq_false_iff_eq, decide_eq_false_iff_not, ne_eq]; omega)); rw [e]; exact hq)
theorem ceq_f {a b : Int} {t u : Tok} {Q : Value → Shared → Prop} (h : ¬ a = b) (hq : Q (.bool false) s) : wpAny (model prog w) A (compareOp .Eq (.int a t) (.int b u)) Q E s :=
  PyProof.Rows.eq_int (by have e : (a == b) = false := (by first | (simp only [beq_iff_eq, bne_iff_ne, decide_eq_true_eq, beq_eq_false_iff_ne, bne_eq_false_iff_eq, decide_eq_false_iff_not, ne_eq]; omega)); rw [e]; exact hq)
theorem cne_t {a b : Int} {t u : Tok} {Q : Value → Shared → Prop} (h : ¬ a = b) (hq : Q (.bool true) s) : wpAny (model prog w) A (compareOp .NotEq (.int a t) (.int b u)) Q E s :=
  PyProof.Rows.ne_int (by have e : (a != b) = true := (by first | (simp only [beq_iff_eq, bne_iff_ne, decide_eq_true_eq, beq_eq_false_iff_ne, bne_eq_false_iff_eq, decide_eq_false_iff_not, ne_eq]; omega)); rw [e]; exact hq)
theorem cne_f {a b : Int} {t u : Tok} {Q : Value → Shared → Prop} (h : a = b) (hq : Q (.bool false) s) : wpAny (model prog w) A (compareOp .NotEq (.int a t) (.int b u)) Q E s :=
  PyProof.Rows.ne_int (by have e : (a != b) = false := (by first | (simp only [beq_iff_eq, bne_iff_ne, decide_eq_true_eq, beq_eq_false_iff_ne, bne_eq_false_iff_eq, decide_eq_false_iff_not, ne_eq]; omega)); rw [e]; exact hq)
theorem clt_t {a b : Int} {t u : Tok} {Q : Value → Shared → Prop} (h : a < b) (hq : Q (.bool true) s) : wpAny (model prog w) A (compareOp .Lt (.int a t) (.int b u)) Q E s :=
  PyProof.Rows.lt_int (by have e : decide (a < b) = true := (by first | (simp only [beq_iff_eq, bne_iff_ne, decide_eq_true_eq, beq_eq_false_iff_ne, bne_eq_false_iff_eq, decide_eq_false_iff_not, ne_eq]; omega)); rw [e]; exact hq)
theorem clt_f {a b : Int} {t u : Tok} {Q : Value → Shared → Prop} (h : b ≤ a) (hq : Q (.bool false) s) : wpAny (model prog w) A (compareOp .Lt (.int a t) (.int b u)) Q E s :=
  PyProof.Rows.lt_int (by have e : decide (a < b) = false := (by first | (simp only [beq_iff_eq, bne_iff_ne, decide_eq_true_eq, beq_eq_false_iff_ne, bne_eq_false_iff_eq, decide_eq_false_iff_not, ne_eq]; omega)); rw [e]; exact hq)
theorem cle_t {a b : Int} {t u : Tok} {Q : Value → Shared → Prop} (h : a ≤ b) (hq : Q (.bool true) s) : wpAny (model prog w) A (compareOp .LtE (.int a t) (.int b u)) Q E s :=
  PyProof.Rows.le_int (by have e : decide (a ≤ b) = true := (by first | (simp only [beq_iff_eq, bne_iff_ne, decide_eq_true_eq, beq_eq_false_iff_ne, bne_eq_false_iff_eq, decide_eq_false_iff_not, ne_eq]; omega)); rw [e]; exact hq)
theorem cle_f {a b : Int} {t u : Tok} {Q : Value → Shared → Prop} (h : b < a) (hq : Q (.bool false) s) : wpAny (model prog w) A (compareOp .LtE (.int a t) (.int b u)) Q E s :=
  PyProof.Rows.le_int (by have e : decide (a ≤ b) = false := (by first | (simp only [beq_iff_eq, bne_iff_ne, decide_eq_true_eq, beq_eq_false_iff_ne, bne_eq_false_iff_eq, decide_eq_false_iff_not, ne_eq]; omega)); rw [e]; exact hq)
theorem cgt_t {a b : Int} {t u : Tok} {Q : Value → Shared → Prop} (h : b < a) (hq : Q (.bool true) s) : wpAny (model prog w) A (compareOp .Gt (.int a t) (.int b u)) Q E s :=
  PyProof.Rows.gt_int (by have e : decide (b < a) = true := (by first | (simp only [beq_iff_eq, bne_iff_ne, decide_eq_true_eq, beq_eq_false_iff_ne, bne_eq_false_iff_eq, decide_eq_false_iff_not, ne_eq]; omega)); rw [e]; exact hq)
theorem cgt_f {a b : Int} {t u : Tok} {Q : Value → Shared → Prop} (h : a ≤ b) (hq : Q (.bool false) s) : wpAny (model prog w) A (compareOp .Gt (.int a t) (.int b u)) Q E s :=
  PyProof.Rows.gt_int (by have e : decide (b < a) = false := (by first | (simp only [beq_iff_eq, bne_iff_ne, decide_eq_true_eq, beq_eq_false_iff_ne, bne_eq_false_iff_eq, decide_eq_false_iff_not, ne_eq]; omega)); rw [e]; exact hq)
theorem cge_t {a b : Int} {t u : Tok} {Q : Value → Shared → Prop} (h : b ≤ a) (hq : Q (.bool true) s) : wpAny (model prog w) A (compareOp .GtE (.int a t) (.int b u)) Q E s :=
  PyProof.Rows.ge_int (by have e : decide (b ≤ a) = true := (by first | (simp only [beq_iff_eq, bne_iff_ne, decide_eq_true_eq, beq_eq_false_iff_ne, bne_eq_false_iff_eq, decide_eq_false_iff_not, ne_eq]; omega)); rw [e]; exact hq)
theorem cge_f {a b : Int} {t u : Tok} {Q : Value → Shared → Prop} (h : a < b) (hq : Q (.bool false) s) : wpAny (model prog w) A (compareOp .GtE (.int a t) (.int b u)) Q E s :=
  PyProof.Rows.ge_int (by have e : decide (b ≤ a) = false := (by first | (simp only [beq_iff_eq, bne_iff_ne, decide_eq_true_eq, beq_eq_false_iff_ne, bne_eq_false_iff_eq, decide_eq_false_iff_not, ne_eq]; omega)); rw [e]; exact hq)
theorem max2 {hp : Heap} {gn : Array GenState} {dr : Drawn} {nk : Nat} {os : OsState} {a b r : Int} {t u : Tok} {Q : Value → Shared → Prop} (hh : A.handled = none) (F : Fr h₀ L hp m) (N : News h₀ L hp news) (hr : r = max a b)
    (h : ∀ t' h' tk', Fr h₀ L h' m → News h₀ L h' news → Q (.int r t') ⟨h', gn, dr, tk', os⟩) :
    wpAny (model prog w) A (call (.builtin "max") [.int a t, .int b u]) Q E ⟨hp, gn, dr, nk, os⟩ :=
  max_two_N hh F N fun h' tk F' N' => by
    have e : (if b > a then b else a) = r := by rw [hr]; split <;> omega
    rw [e]; exact h _ _ _ F' N'
theorem min2 {hp : Heap} {gn : Array GenState} {dr : Drawn} {nk : Nat} {os : OsState} {a b r : Int} {t u : Tok} {Q : Value → Shared → Prop} (hh : A.handled = none) (F : Fr h₀ L hp m) (N : News h₀ L hp news) (hr : r = min a b)
    (h : ∀ t' h' tk', Fr h₀ L h' m → News h₀ L h' news → Q (.int r t') ⟨h', gn, dr, tk', os⟩) :
    wpAny (model prog w) A (call (.builtin "min") [.int a t, .int b u]) Q E ⟨hp, gn, dr, nk, os⟩ :=
  min_two_N hh F N fun h' tk F' N' => by
    have e : (if b < a then b else a) = r := by rw [hr]; split <;> omega
    rw [e]; exact h _ _ _ F' N'
theorem min3 {hp : Heap} {gn : Array GenState} {dr : Drawn} {nk : Nat} {os : OsState} {a b c r : Int} {t u x : Tok} {Q : Value → Shared → Prop} (hh : A.handled = none) (F : Fr h₀ L hp m) (N : News h₀ L hp news) (hr : r = min a (min b c))
    (h : ∀ t' h' tk', Fr h₀ L h' m → News h₀ L h' news → Q (.int r t') ⟨h', gn, dr, tk', os⟩) :
    wpAny (model prog w) A (call (.builtin "min") [.int a t, .int b u, .int c x]) Q E ⟨hp, gn, dr, nk, os⟩ :=
  min_three_ints hh fun h' tk hk => by
    have F' := F.grownK hk
    have N' := N.grown hk
    by_cases h1 : b < a
    · rw [if_pos h1]
      by_cases h2 : c < b
      · rw [if_pos h2]
        have e : c = r := by rw [hr]; omega
        rw [e]; exact h _ _ _ F' N'
      · rw [if_neg h2]
        have e : b = r := by rw [hr]; omega
        rw [e]; exact h _ _ _ F' N'
    · rw [if_neg h1]
      by_cases h2 : c < a
      · rw [if_pos h2]
        have e : c = r := by rw [hr]; omega
        rw [e]; exact h _ _ _ F' N'
      · rw [if_neg h2]
        have e : a = r := by rw [hr]; omega
        rw [e]; exact h _ _ _ F' N'
theorem m3a {a b c : Int} (h : a ≤ b ∧ a ≤ c) : a = min a (min b c) := by omega
theorem m3b {a b c : Int} (h : b ≤ a ∧ b ≤ c) : b = min a (min b c) := by omega
theorem m3c {a b c : Int} (h : c ≤ a ∧ c ≤ b) : c = min a (min b c) := by omega
end
section
variable {w : World} {prog : Program} {K : Frag} {A : Around} {h₀ : Heap} {L : Addr} {m : Str → Option Value} {E : Value → Shared → Prop} {hp : Heap} {gn : Array GenState} {dr : Drawn} {nk : Nat} {os : OsState}
  {x C : Addr} {ox : Obj} {es : List DictEntry} {n : Nat} {name : Str} {v : Value} {news : List (Addr × Obj)}
theorem oget {expr : Bool} {Q : Value → Shared → Prop} {attr : Option Value} (F : Fr h₀ L hp m) (X₀ : K.In h₀) (I : InstAt hp x ox C (some (dictOf es n))) (hg : plainGet K C name = true) (hh : hasDictIn K C = true)
    (ha : findIn K (.ref C) name = some attr) (hn : noGet K attr = true) (hl : getL name es = some (some v)) (hv : handedIn v = true) (h : Q v ⟨hp, gn, dr, nk + 1, os⟩) :
    wpAny (model prog w) A (getAttr (.ref x) name expr) Q E ⟨hp, gn, dr, nk, os⟩ := get_own F X₀ I hg hh ha hn hl hv h
theorem ostore {M : Model} {cn : Str} {cs : Scope} {a : Addr} {ccd : Value} {cl : List (Str × Addr)} {x : Str} {Q : Unit → Shared → Prop} (F : Fr h₀ L hp m) (N : News h₀ L hp news)
    (h : ∀ h', let m' := fun y => if y = x then some v else m y; Fr h₀ L h' m' → News h₀ L h' news → Q () ⟨h', gn, dr, nk + 1, os⟩)
    (hk : cs.kind = .function) (hx : (envX cn cs L a ccd cl).kindOf x = some .local) : wpAny M A (storeName (envX cn cs L a ccd cl) x v) Q E ⟨hp, gn, dr, nk, os⟩ :=
  storeX_L F N (fun h' F' N' => h h' F' N') hk hx
end
theorem subN {news : List (Addr × Obj)} : ∀ p ∈ ([] : List (Addr × Obj)), p ∈ news := fun _ h => nomatch h
theorem subC {r : Addr × Obj} {rel news : List (Addr × Obj)} (h : r ∈ news) (t : ∀ p ∈ rel, p ∈ news) : ∀ p ∈ r :: rel, p ∈ news := fun p hp => by
  rcases List.mem_cons.mp hp with e | hp
  · rw [e]; exact h
  · exact t p hp
theorem neNil {d : Addr} : ∀ p ∈ ([] : List (Addr × Obj)), p.1 ≠ d := fun _ h => nomatch h
theorem neC {r : Addr × Obj} {l : List (Addr × Obj)} {d : Addr} (h : @Ne Nat r.1 d) (t : ∀ p ∈ l, p.1 ≠ d) : ∀ p ∈ r :: l, p.1 ≠ d := fun p hp => by
  rcases List.mem_cons.mp hp with e | hp
  · rw [e]; exact h
  · exact t p hp
/-- addresses that all differ, looked up by their places -/
def DifO (as : List Addr) : Prop := ∀ (i j : Nat) (a b : Nat), as[i]? = some a → as[j]? = some b → Nat.beq i j = false → a ≠ b
/-- an order kept out of omega's sight -/
def LtH (a b : Nat) : Prop := a < b
theorem LtH.tr {a b c : Nat} (h : LtH a b) (k : LtH b c) : LtH a c := Nat.lt_trans (show a < b from h) k
theorem difO_cons {a b : Addr} {r : List Addr} (h : LtH a b) (hl : ∀ (i x : Nat), (b :: r)[i]? = some x → b ≤ x) (t : DifO (b :: r)) : DifO (a :: b :: r) := by
  have ha : ∀ (i x : Nat), (b :: r)[i]? = some x → a < x := fun i x e => Nat.lt_of_lt_of_le (show a < b from h) (hl i x e)
  intro i j x y hx hy hij
  match i, j, hx, hy, hij with
  | 0, 0, _, _, hij => exact absurd hij (by decide)
  | 0, j + 1, hx, hy, _ =>
    obtain rfl : a = x := Option.some.inj hx
    exact Nat.ne_of_lt (ha j y hy)
  | i + 1, 0, hx, hy, _ =>
    obtain rfl : a = y := Option.some.inj hy
    exact Nat.ne_of_gt (ha i x hx)
  | i + 1, j + 1, hx, hy, hij => exact t i j x y hx hy hij
theorem leO_cons {a b : Addr} {r : List Addr} (h : LtH a b) (hl : ∀ (i x : Nat), (b :: r)[i]? = some x → b ≤ x) : ∀ (i x : Nat), (a :: b :: r)[i]? = some x → a ≤ x
  | 0, x, e => Nat.le_of_eq (Option.some.inj e)
  | i + 1, x, e => Nat.le_of_lt (Nat.lt_of_lt_of_le (show a < b from h) (hl i x e))
theorem leO_one {a : Addr} : ∀ (i x : Nat), [a][i]? = some x → a ≤ x
  | 0, x, e => Nat.le_of_eq (Option.some.inj e)
  | i + 1, x, e => by simp at e
theorem difO_one {a : Addr} : DifO [a] := by
  intro i j x y hx hy hij
  match i, j, hx, hy, hij with
  | 0, 0, _, _, hij => exact absurd hij (by decide)
  | 0, j + 1, _, hy, _ => simp at hy
  | i + 1, _, hx, _, _ => simp at hx
theorem difO2 {a b : Addr} (h : LtH a b) : DifO [a, b] := difO_cons h leO_one difO_one
theorem difO4 {a b c d : Addr} (h : LtH a b ∧ LtH b c ∧ LtH c d) : DifO [a, b, c, d] :=
  difO_cons h.1 (leO_cons h.2.1 (leO_cons h.2.2 leO_one)) (difO_cons h.2.1 (leO_cons h.2.2 leO_one) (difO2 h.2.2))
theorem difO_of {a b c d e f : Addr} (h : LtH a b ∧ LtH b c ∧ LtH c d ∧ LtH d e ∧ LtH e f) : DifO [a, b, c, d, e, f] :=
  have l4 := leO_cons h.2.2.1 (leO_cons h.2.2.2.1 (leO_cons h.2.2.2.2 leO_one))
  difO_cons h.1 (leO_cons h.2.1 l4) (difO_cons h.2.1 l4 (difO4 h.2.2))
theorem part_ok {n : Nat} {ds many us M : Int} (hz : n ≤ 12) (h1 : 0 < many) (h2 : many ≤ us) (hd : ds = min (n : Int) (max 0 M)) (hu : us = (n : Int) - min (n : Int) (max 0 M)) : 0 ≤ ds ∧ 0 ≤ many ∧ ds + many ≤ n ∧ n ≤ 12 := by
  have a : 0 ≤ min (n : Int) (max 0 M) := Int.le_min.mpr ⟨Int.natCast_nonneg n, Int.le_max_left _ _⟩
  rw [← hd] at a hu
  exact ⟨a, Int.le_of_lt h1, by omega, hz⟩
theorem many_ok {n : Nat} {many us M : Int} (hz : n ≤ 12) (h2 : many ≤ us) (hu : us = (n : Int) - min (n : Int) (max 0 M)) : many ≤ 12 := by
  have a : 0 ≤ min (n : Int) (max 0 M) := Int.le_min.mpr ⟨Int.natCast_nonneg n, Int.le_max_left _ _⟩
  generalize min (n : Int) (max 0 M) = q at *
  omega
theorem mm_d {n : Nat} {d M : Int} (h : M = d) (h0 : 0 ≤ d) (h1 : d ≤ n) : d = min (n : Int) (max 0 M) := by
  rw [h, Int.max_eq_right h0, Int.min_eq_right h1]
theorem mm_u {n : Nat} {d M : Int} (h : M = d) (h0 : 0 ≤ d) (h1 : d ≤ n) : (n : Int) - d = (n : Int) - min (n : Int) (max 0 M) := by
  rw [← mm_d h h0 h1]
theorem mm_z {n : Nat} {M : Int} (h : (n : Int) ≤ M) : (0 : Int) = (n : Int) - min (n : Int) (max 0 M) := by
  rw [Int.max_eq_right (Int.le_trans (Int.natCast_nonneg n) h), Int.min_eq_left h, Int.sub_self]
theorem mm_b {d M : Int} (h : M = d) (h0 : d ≤ 20) : 20 - d = max 0 (min 20 20 - M) := by
  rw [h]; exact (Int.max_eq_right (Int.sub_nonneg_of_le h0)).symm
theorem mod_d {f d nx : Int} (h0 : 0 ≤ f ∧ f < 256) (hd : 0 ≤ d ∧ d < 256) (hn : nx = (f + d) % 256) : (nx - f) % 256 = d := by omega
theorem mod_r {f a : Int} (h : f = a % 256) : 0 ≤ f ∧ f < 256 := by omega
theorem back_r {n : Nat} {back ev : Int} (hb : 0 ≤ back ∧ back ≤ (n : Int) + ev) (hz : 1 ≤ n ∧ n ≤ 12) (he : 0 ≤ ev ∧ ev ≤ 1) : 0 ≤ back ∧ back < 256 := by omega
theorem back_s {n : Nat} {back ev : Int} (hb : 0 ≤ back ∧ back ≤ (n : Int) + ev) (hz : 1 ≤ n ∧ n ≤ 12) (he : 0 ≤ ev ∧ ev ≤ 1) : 0 ≤ back ∧ back ≤ 13 := by omega
theorem len_r {n : Nat} {ev : Int} (hz : 1 ≤ n ∧ n ≤ 12) (he : 0 ≤ ev ∧ ev ≤ 1) : 0 ≤ (n : Int) + ev ∧ (n : Int) + ev < 256 := by omega
theorem drop_len {n : Nat} {back : Int} (h : 0 ≤ back) : ((n - back.toNat : Nat) : Int) = (n : Int) - min back (n : Int) := by
  obtain ⟨k, rfl⟩ := Int.eq_ofNat_of_zero_le h
  rw [Int.toNat_natCast]
  rcases Nat.le_total k n with q | q
  · rw [Int.min_eq_left (Int.ofNat_le.mpr q), Int.natCast_sub q]
  · rw [Int.min_eq_right (Int.ofNat_le.mpr q), Int.sub_self, Nat.sub_eq_zero_of_le q]; rfl
theorem data_ok {n : Nat} {ds a : Int} (hd : ds = min (n : Int) (max 0 (a % 256))) : min (n : Int) (a % 256 - 0) = ds := by
  rw [hd, Int.sub_zero, Int.max_eq_right (Int.emod_nonneg a (by decide))]
theorem room_ {dp D k D' R : Nat} (h : dp + D < R) (e : Nat.ble (k + D') D = true) : dp + k + D' < R := by
  have := Nat.le_of_ble_eq_true e
  omega
theorem room0 {dp D k R : Nat} (h : dp + D < R) (e : Nat.ble k D = true) : dp + k < R := by
  have := Nat.le_of_ble_eq_true e
  omega
/-- the tokens of a sender, a peer's window, a queue that do not change -/
structure STk where
  a0 : Tok
  a1 : Tok
  a2 : Tok
  a3 : Tok
  a4 : Tok
  a5 : Tok
  a6 : Tok
  a7 : Tok
  a8 : Tok
  a9 : Tok
  a10 : Tok
  b0 : Tok
  b1 : Tok
  b2 : Tok
structure PTk where
  c0 : Tok
  c1 : Tok
  c2 : Tok
  c3 : Tok
  c4 : Tok
  d0 : Tok
structure QTk where
  e0 : Tok
  e1 : Tok
  g0 : Tok
abbrev sndE (w : World) (T : STk) (p q : Addr) (is un nx gr : Int) (sy fa fs : Bool) (tu tn tg : Tok) : List DictEntry := [⟨PyData.keyHash w.params (Str.ofString "iss"), .str (Str.ofString "iss") T.a0, .int is T.b0⟩, ⟨PyData.keyHash w.params (Str.ofString "ring"), .str (Str.ofString "ring") T.a1, .int 256 T.b1⟩, ⟨PyData.keyHash w.params (Str.ofString "mss"), .str (Str.ofString "mss") T.a2, .int 4 T.b2⟩, ⟨PyData.keyHash w.params (Str.ofString "una"), .str (Str.ofString "una") T.a3, .int un tu⟩, ⟨PyData.keyHash w.params (Str.ofString "next"), .str (Str.ofString "next") T.a4, .int nx tn⟩, ⟨PyData.keyHash w.params (Str.ofString "greatest"), .str (Str.ofString "greatest") T.a5, .int gr tg⟩, ⟨PyData.keyHash w.params (Str.ofString "peer"), .str (Str.ofString "peer") T.a6, .ref p⟩, ⟨PyData.keyHash w.params (Str.ofString "queue"), .str (Str.ofString "queue") T.a7, .ref q⟩, ⟨PyData.keyHash w.params (Str.ofString "syn_pending"), .str (Str.ofString "syn_pending") T.a8, .bool sy⟩, ⟨PyData.keyHash w.params (Str.ofString "fin_asked"), .str (Str.ofString "fin_asked") T.a9, .bool fa⟩, ⟨PyData.keyHash w.params (Str.ofString "fin_sent"), .str (Str.ofString "fin_sent") T.a10, .bool fs⟩]
abbrev peerE (w : World) (T : PTk) (sz : Int) (ds : Tok) (mo : Int) (dm : Tok) (sq ak : Value) : List DictEntry := [⟨PyData.keyHash w.params (Str.ofString "ring"), .str (Str.ofString "ring") T.c0, .int 256 T.d0⟩, ⟨PyData.keyHash w.params (Str.ofString "size"), .str (Str.ofString "size") T.c1, .int sz ds⟩, ⟨PyData.keyHash w.params (Str.ofString "most"), .str (Str.ofString "most") T.c2, .int mo dm⟩, ⟨PyData.keyHash w.params (Str.ofString "told_seq"), .str (Str.ofString "told_seq") T.c3, sq⟩, ⟨PyData.keyHash w.params (Str.ofString "told_ack"), .str (Str.ofString "told_ack") T.c4, ak⟩]
abbrev queE (w : World) (T : QTk) (rm : Int) (xs : Array UInt8) (th : Tok) : List DictEntry := [⟨PyData.keyHash w.params (Str.ofString "room"), .str (Str.ofString "room") T.e0, .int rm T.g0⟩, ⟨PyData.keyHash w.params (Str.ofString "held"), .str (Str.ofString "held") T.e1, .bytes xs th⟩]
end Mine
local macro_rules | `(tactic| walk_at $s:str) => `(tactic| k_extra $s)
local macro_rules | `(tactic| ktr_room) => `(tactic| k_extra "room")
local macro_rules | `(tactic| ktr_units) => `(tactic| k_extra "units")
local macro_rules | `(tactic| k_room) => `(tactic| k_extra "room")
local macro_rules | `(tactic| k_units) => `(tactic| k_extra "units")
local macro_rules | `(tactic| ke_room) => `(tactic| k_extra "units")
local macro_rules | `(tactic| k_all) => `(tactic| k_extra "all")
local macro_rules | `(tactic| k_ne) => `(tactic| k_extra "ne")
-- part Inf2
namespace Mine
section
theorem ln1_d8acc2 : True := by
  k_with_none
  k_with "callWith ref" => (k_here; (with_reducible rename Fr _ _ _ _ => kF); (with_reducible rename Frag.In _ _ => kX); first | ((with_reducible show wpAny _ _ (callWith _ _ _ (backTo _ (starEach [] _)) []) _ _ _); k_dflt (refine' callWith_K0 (Frag.In.keeps kX (Fr.keep kF)) ?k2w1 ?_; (case k2w1 => k_is); k_whole)) | ((with_reducible show wpAny _ _ (callWith _ _ _ (backTo _ (starEach (_ :: _) _)) []) _ _ _); k_dflt (refine' callWith_K kX ?k2w1 ?_; (case k2w1 => k_is); k_whole)))
  k_with "eval Name" => (k_here; (fail_if_success (with_reducible show wpAny _ _ (eval (Expr.Name _ _) (compEnvC _ _ _ _)) _ _ _)); k_dflt (first | (refine' nameX_L ?Fw2 ?vw2 ?_ ?aw2 ?bw2; (case bw2 => kernel_rfl!); (case aw2 => kernel_rfl!); (case Fw2 => k_asm); (case vw2 => rfl); k_whole) | (refine' nameX_K ?Fw2 ?Xw2 ?Tw2 ?ew2 ?_ ?aw2 ?bw2; (case bw2 => kernel_rfl!); (case aw2 => kernel_rfl!); (case Fw2 => k_asm); (case Xw2 => k_asm); (case Tw2 => k_asm); (case ew2 => k_is); k_whole) | (refine' nameX_B ?Fw2 ?Xw2 ?Tw2 ?ew2 ?vw2 ?nw2 ?_ ?aw2 ?bw2; (case bw2 => kernel_rfl!); (case aw2 => kernel_rfl!); (case Fw2 => k_asm); (case Xw2 => k_asm); (case Tw2 => k_asm); (case ew2 => k_is); (case vw2 => boot_fast); (case nw2 => decide); k_whole) | (refine' nameX_C ?Nw2 ?cw2 ?mw2 ?dw2 ?_ ?aw2 ?bw2; (case bw2 => kernel_rfl!); (case aw2 => kernel_rfl!); (case Nw2 => k_asm); (case cw2 => rfl); (case mw2 => k_mem); (case dw2 => k_asm); k_whole) | (refine' nameX_F ?Nw2 ?cw2 ?mw2 ?dw2 ?_ ?aw2 ?bw2; (case bw2 => kernel_rfl!); (case aw2 => kernel_rfl!); (case Nw2 => k_asm); (case cw2 => rfl); (case mw2 => k_mem); (case dw2 => k_asm); k_whole)))
  k_with "ord" => ((with_reducible rename DifO _ => hO9); (first | refine' hO9 0 _ _ _ rfl ?hbw3 ?hcw3 | refine' hO9 1 _ _ _ rfl ?hbw3 ?hcw3 | refine' hO9 2 _ _ _ rfl ?hbw3 ?hcw3 | refine' hO9 3 _ _ _ rfl ?hbw3 ?hcw3 | refine' hO9 4 _ _ _ rfl ?hbw3 ?hcw3 | refine' hO9 5 _ _ _ rfl ?hbw3 ?hcw3); (case hbw3 => first | exact (rfl : (_ : List Addr)[0]? = _) | exact (rfl : (_ : List Addr)[1]? = _) | exact (rfl : (_ : List Addr)[2]? = _) | exact (rfl : (_ : List Addr)[3]? = _) | exact (rfl : (_ : List Addr)[4]? = _) | exact (rfl : (_ : List Addr)[5]? = _)); (case hcw3 => exact rfl))
  k_with "nst" => ((with_reducible show wpAny _ _ _ _ _ (Shared.mk _ _ _ _ _)); refine' nst ?kew4 ?_; (case kew4 => (dsimp only; exact rfl)))
  k_with "all" => (first | exact neNil | (refine' neC ?aw5 ?bw5; (case aw5 => k_ne); (case bw5 => k_all)))
  k_with "room" => (first | exact room_ (by assumption) (by exact rfl) | exact room0 (by assumption) (by exact rfl) | ((try simp only [depth_under_make, depth_under_kw, depth_in1, depth_deeper, depth_caller]); (try dsimp only [ktrTop]); omega))
  k_with "units" => (first | exact room_ (by assumption) (by exact rfl) | exact room0 (by assumption) (by exact rfl) | ((try simp only [units_in1, units_deeper, Around.mark_units, units_caller]); (try dsimp only [ktrTop]); omega))
  k_with "execs cons" => ((first | (with_reducible refine execs_T ?_; intro tk) | refine wpAny_execs_cons ?_); (try k_fold))
  k_with "getAttr ref" => (k_here; k_dflt (refine' oget ?k1w9 ?k2w9 ?k3w9 ?k4w9 ?k5w9 ?k6w9 ?k7w9 ?k8w9 ?k9w9 ?_; (case k1w9 => k_asm); (case k2w9 => k_asm); (case k3w9 => k_inst); (case k4w9 => k_is); (case k5w9 => k_is); (case k6w9 => k_is); (case k7w9 => k_is); (case k8w9 => k_get); (case k9w9 => k_handed); k_whole))
  k_with "storeName" => (k_here; k_dflt (refine' ostore ?kFw10 ?kNw10 ?_ ?kaw10 ?kbw10; (case kaw10 => rfl); (case kbw10 => rfl); (case kFw10 => k_asm); (case kNw10 => k_asm); k_whole; intro h' m9 F' N'; (try k_sweep)))
  k_with "eval Constant int" => (refine cint ?_)
  k_with "eval Constant bytes" => (refine cbytes ?_)
  k_with "binaryOp Mod int int" => (k_here; (with_reducible refine mod_pos ?kbw13 ?_); (case kbw13 => omega); intro t' tk')
  k_with "binaryOp FloorDiv int int" => (k_here; (with_reducible refine div_pos ?kbw14 ?kpw14 ?_); (case kbw14 => omega); (case kpw14 => omega); intro t' tk')
  k_with "binaryOp Mult int int" => (k_here; (with_reducible refine mul_small ?kbw15 ?_); (case kbw15 => omega); intro t' tk')
  k_with "subscriptTail Name Constant ref int" => (k_here; (with_reducible show wpAny _ _ (subscriptTail _ _ (Value.ref _) (Value.int _ _)) _ _ _); k_dflt (first | ((with_reducible show wpAny _ _ (subscriptTail _ _ (Value.ref _) (Value.int 0 _)) _ _ _); refine' item_0 ?Nw16 ?mw16 ?_ ?hsw16; (case Nw16 => k_asm); (case mw16 => k_mem); (case hsw16 => with_unfolding_all rfl); k_whole) | ((with_reducible show wpAny _ _ (subscriptTail _ _ (Value.ref _) (Value.int 1 _)) _ _ _); refine' item_1 ?Nw16 ?mw16 ?_ ?hsw16; (case Nw16 => k_asm); (case mw16 => k_mem); (case hsw16 => with_unfolding_all rfl); k_whole)))
  k_with "compareOp Eq int int" => (k_here; first | (with_reducible refine ceq_t ?chw17 ?_; (case chw17 => omega)) | (with_reducible refine ceq_f ?chw17 ?_; (case chw17 => omega)))
  k_with "compareOp NotEq int int" => (k_here; first | (with_reducible refine cne_t ?chw18 ?_; (case chw18 => omega)) | (with_reducible refine cne_f ?chw18 ?_; (case chw18 => omega)))
  k_with "compareOp Lt int int" => (k_here; first | (with_reducible refine clt_t ?chw19 ?_; (case chw19 => omega)) | (with_reducible refine clt_f ?chw19 ?_; (case chw19 => omega)))
  k_with "compareOp LtE int int" => (k_here; first | (with_reducible refine cle_t ?chw20 ?_; (case chw20 => omega)) | (with_reducible refine cle_f ?chw20 ?_; (case chw20 => omega)))
  k_with "compareOp Gt int int" => (k_here; first | (with_reducible refine cgt_t ?chw21 ?_; (case chw21 => omega)) | (with_reducible refine cgt_f ?chw21 ?_; (case chw21 => omega)))
  k_with "compareOp GtE int int" => (k_here; first | (with_reducible refine cge_t ?chw22 ?_; (case chw22 => omega)) | (with_reducible refine cge_f ?chw22 ?_; (case chw22 => omega)))
  k_with "call type:int" => (k_here; (with_reducible show wpAny _ _ (call (Value.type "int") [Value.bool _]) _ _ _); (first | (with_reducible refine int_bf ?_) | (with_reducible refine int_bt ?_) | (with_reducible refine int_bb (by assumption) ?_)); intro t' tk')
  k_with "call builtin:max" => (k_here; (with_reducible show wpAny _ _ (call (Value.builtin _) [Value.int _ _, Value.int _ _]) _ _ _); k_dflt (refine' max2 ?hhw24 ?k1w24 ?k2w24 ?k3w24 ?_; (case hhw24 => with_unfolding_all rfl); (case k1w24 => k_asm); (case k2w24 => k_asm); (case k3w24 => first | exact (Int.max_eq_left (by omega)).symm | exact (Int.max_eq_right (by omega)).symm | exact rfl); k_whole); intro t' h' tk' F' N'; (try k_sweep))
  k_with "call builtin:min" => (k_here; (with_reducible show wpAny _ _ (call (Value.builtin _) [Value.int _ _, Value.int _ _]) _ _ _); k_dflt (refine' min2 ?hhw25 ?k1w25 ?k2w25 ?k3w25 ?_; (case hhw25 => with_unfolding_all rfl); (case k1w25 => k_asm); (case k2w25 => k_asm); (case k3w25 => first | exact (Int.min_eq_left (by omega)).symm | exact (Int.min_eq_right (by omega)).symm | exact rfl); k_whole); intro t' h' tk' F' N'; (try k_sweep))
  k_with "call builtin:min" => (k_here; (with_reducible show wpAny _ _ (call (Value.builtin _) [Value.int _ _, Value.int _ _, Value.int _ _]) _ _ _); k_dflt (refine' min3 ?hhw26 ?k1w26 ?k2w26 ?k3w26 ?_; (case hhw26 => with_unfolding_all rfl); (case k1w26 => k_asm); (case k2w26 => k_asm); (case k3w26 => first | exact m3a (by omega) | exact m3b (by omega) | exact m3c (by omega) | exact rfl); k_whole); intro t' h' tk' F' N'; (try k_sweep))
  k_with "ne" => (refine neN ?_; (try dsimp only); first | (k_extra "ord") | omega)
  trivial
section
variable {w : World} {f : Addr} {vs : List Value} {rel : List (Addr × Obj)} {D U : Nat}
    {loose : List Str} {mean : ExcName → Option Value} {mg mb : Str → Option Value} {dp un : Nat} {gd : Option (List Code)} {cn : Str} {cs : Scope} {ad : Addr} {ccd : Value} {cl : List (Str × Addr)} {outer : List Env} {A₀ : Around} {base h₀ : Heap} {L : Addr} {m : Str → Option Value} {s : Shared} {news : List (Addr × Obj)} {Q E : Value → Shared → Prop}
/-- a contract at a call, all else let go -/
theorem use_d {hp : Heap} {gn : Array GenState} {dr : Drawn} {nk : Nat} {os : OsState} {α : Type} {mk : α → Value} {rel' : α → List (Addr × Obj)} (C : Ctr w f vs rel D U (fun v n' => ∃ t, v = mk t ∧ n' = rel' t))
    (B : Below A₀ base outer h₀) (F : Fr h₀ L hp m) (X : (hok.heap_1 w.params).In h₀) (N : News h₀ L hp news) (T : Top topProg loose mean mg mb h₀) (hk : cs.kind = .function)
    (hrel : ∀ p ∈ rel, p ∈ news) (hd1 : dp + D < recursionLimit) (hu : un + U < cLine)
    (h : ∀ t h' tk', Fr h₀ L h' m → News h₀ L h' (rel' t) → Q (mk t) ⟨h', gn, dr, tk', os⟩) :
    wpAny (model PySem.Challenge.rw_qz0162_01.row.prog w) (ktrTop dp un gd cn cs L ad ccd cl outer) (call (.ref f) vs) Q E ⟨hp, gn, dr, nk, os⟩ := by
  refine ctr_use C B F X N T hk hrel hd1 hu fun v n' h' tk' F' N' hr hP => ?_
  obtain ⟨t, rfl, rfl⟩ := hP
  exact h t h' tk' F' N'
theorem ev_of {ev : Int} {he b : Bool} (h : EvIs ev he) (e : he = b) : EvIs ev b := e ▸ h
end
end
end Mine
-- part Byt
namespace Mine
section
theorem ln1_c6c13c : True := by
  k_with_none
  k_with "callWith ref" => (k_here; (with_reducible rename Fr _ _ _ _ => kF); (with_reducible rename Frag.In _ _ => kX); first | ((with_reducible show wpAny _ _ (callWith _ _ _ (backTo _ (starEach [] _)) []) _ _ _); k_dflt (refine' callWith_K0 (Frag.In.keeps kX (Fr.keep kF)) ?k2w1 ?_; (case k2w1 => k_is); k_whole)) | ((with_reducible show wpAny _ _ (callWith _ _ _ (backTo _ (starEach (_ :: _) _)) []) _ _ _); k_dflt (refine' callWith_K kX ?k2w1 ?_; (case k2w1 => k_is); k_whole)))
  k_with "eval Name" => (k_here; (fail_if_success (with_reducible show wpAny _ _ (eval (Expr.Name _ _) (compEnvC _ _ _ _)) _ _ _)); k_dflt (first | (refine' nameX_L ?Fw2 ?vw2 ?_ ?aw2 ?bw2; (case bw2 => kernel_rfl!); (case aw2 => kernel_rfl!); (case Fw2 => k_asm); (case vw2 => rfl); k_whole) | (refine' nameX_K ?Fw2 ?Xw2 ?Tw2 ?ew2 ?_ ?aw2 ?bw2; (case bw2 => kernel_rfl!); (case aw2 => kernel_rfl!); (case Fw2 => k_asm); (case Xw2 => k_asm); (case Tw2 => k_asm); (case ew2 => k_is); k_whole) | (refine' nameX_B ?Fw2 ?Xw2 ?Tw2 ?ew2 ?vw2 ?nw2 ?_ ?aw2 ?bw2; (case bw2 => kernel_rfl!); (case aw2 => kernel_rfl!); (case Fw2 => k_asm); (case Xw2 => k_asm); (case Tw2 => k_asm); (case ew2 => k_is); (case vw2 => boot_fast); (case nw2 => decide); k_whole) | (refine' nameX_C ?Nw2 ?cw2 ?mw2 ?dw2 ?_ ?aw2 ?bw2; (case bw2 => kernel_rfl!); (case aw2 => kernel_rfl!); (case Nw2 => k_asm); (case cw2 => rfl); (case mw2 => k_mem); (case dw2 => k_asm); k_whole) | (refine' nameX_F ?Nw2 ?cw2 ?mw2 ?dw2 ?_ ?aw2 ?bw2; (case bw2 => kernel_rfl!); (case aw2 => kernel_rfl!); (case Nw2 => k_asm); (case cw2 => rfl); (case mw2 => k_mem); (case dw2 => k_asm); k_whole)))
  k_with "ord" => ((with_reducible rename DifO _ => hO9); (first | refine' hO9 0 _ _ _ rfl ?hbw3 ?hcw3 | refine' hO9 1 _ _ _ rfl ?hbw3 ?hcw3 | refine' hO9 2 _ _ _ rfl ?hbw3 ?hcw3 | refine' hO9 3 _ _ _ rfl ?hbw3 ?hcw3 | refine' hO9 4 _ _ _ rfl ?hbw3 ?hcw3 | refine' hO9 5 _ _ _ rfl ?hbw3 ?hcw3); (case hbw3 => first | exact (rfl : (_ : List Addr)[0]? = _) | exact (rfl : (_ : List Addr)[1]? = _) | exact (rfl : (_ : List Addr)[2]? = _) | exact (rfl : (_ : List Addr)[3]? = _) | exact (rfl : (_ : List Addr)[4]? = _) | exact (rfl : (_ : List Addr)[5]? = _)); (case hcw3 => exact rfl))
  k_with "nst" => ((with_reducible show wpAny _ _ _ _ _ (Shared.mk _ _ _ _ _)); refine' nst ?kew4 ?_; (case kew4 => (dsimp only; exact rfl)))
  k_with "all" => (first | exact neNil | (refine' neC ?aw5 ?bw5; (case aw5 => k_ne); (case bw5 => k_all)))
  k_with "room" => (first | exact room_ (by assumption) (by exact rfl) | exact room0 (by assumption) (by exact rfl) | ((try simp only [depth_under_make, depth_under_kw, depth_in1, depth_deeper, depth_caller]); (try dsimp only [ktrTop]); omega))
  k_with "units" => (first | exact room_ (by assumption) (by exact rfl) | exact room0 (by assumption) (by exact rfl) | ((try simp only [units_in1, units_deeper, Around.mark_units, units_caller]); (try dsimp only [ktrTop]); omega))
  k_with "execs cons" => ((first | (with_reducible refine execs_T ?_; intro tk) | refine wpAny_execs_cons ?_); (try k_fold))
  k_with "getAttr ref" => (k_here; k_dflt (refine' oget ?k1w9 ?k2w9 ?k3w9 ?k4w9 ?k5w9 ?k6w9 ?k7w9 ?k8w9 ?k9w9 ?_; (case k1w9 => k_asm); (case k2w9 => k_asm); (case k3w9 => k_inst); (case k4w9 => k_is); (case k5w9 => k_is); (case k6w9 => k_is); (case k7w9 => k_is); (case k8w9 => k_get); (case k9w9 => k_handed); k_whole))
  k_with "storeName" => (k_here; k_dflt (refine' ostore ?kFw10 ?kNw10 ?_ ?kaw10 ?kbw10; (case kaw10 => rfl); (case kbw10 => rfl); (case kFw10 => k_asm); (case kNw10 => k_asm); k_whole; intro h' m9 F' N'; (try k_sweep)))
  k_with "eval Constant int" => (refine cint ?_)
  k_with "eval Constant bytes" => (refine cbytes ?_)
  k_with "binaryOp Mod int int" => (k_here; (with_reducible refine mod_pos ?kbw13 ?_); (case kbw13 => omega); intro t' tk')
  k_with "binaryOp FloorDiv int int" => (k_here; (with_reducible refine div_pos ?kbw14 ?kpw14 ?_); (case kbw14 => omega); (case kpw14 => omega); intro t' tk')
  k_with "binaryOp Mult int int" => (k_here; (with_reducible refine mul_small ?kbw15 ?_); (case kbw15 => omega); intro t' tk')
  k_with "subscriptTail Name Constant ref int" => (k_here; (with_reducible show wpAny _ _ (subscriptTail _ _ (Value.ref _) (Value.int _ _)) _ _ _); k_dflt (first | ((with_reducible show wpAny _ _ (subscriptTail _ _ (Value.ref _) (Value.int 0 _)) _ _ _); refine' item_0 ?Nw16 ?mw16 ?_ ?hsw16; (case Nw16 => k_asm); (case mw16 => k_mem); (case hsw16 => with_unfolding_all rfl); k_whole) | ((with_reducible show wpAny _ _ (subscriptTail _ _ (Value.ref _) (Value.int 1 _)) _ _ _); refine' item_1 ?Nw16 ?mw16 ?_ ?hsw16; (case Nw16 => k_asm); (case mw16 => k_mem); (case hsw16 => with_unfolding_all rfl); k_whole)))
  k_with "compareOp Eq int int" => (k_here; first | (with_reducible refine ceq_t ?chw17 ?_; (case chw17 => omega)) | (with_reducible refine ceq_f ?chw17 ?_; (case chw17 => omega)))
  k_with "compareOp NotEq int int" => (k_here; first | (with_reducible refine cne_t ?chw18 ?_; (case chw18 => omega)) | (with_reducible refine cne_f ?chw18 ?_; (case chw18 => omega)))
  k_with "compareOp Lt int int" => (k_here; first | (with_reducible refine clt_t ?chw19 ?_; (case chw19 => omega)) | (with_reducible refine clt_f ?chw19 ?_; (case chw19 => omega)))
  k_with "compareOp LtE int int" => (k_here; first | (with_reducible refine cle_t ?chw20 ?_; (case chw20 => omega)) | (with_reducible refine cle_f ?chw20 ?_; (case chw20 => omega)))
  k_with "compareOp Gt int int" => (k_here; first | (with_reducible refine cgt_t ?chw21 ?_; (case chw21 => omega)) | (with_reducible refine cgt_f ?chw21 ?_; (case chw21 => omega)))
  k_with "compareOp GtE int int" => (k_here; first | (with_reducible refine cge_t ?chw22 ?_; (case chw22 => omega)) | (with_reducible refine cge_f ?chw22 ?_; (case chw22 => omega)))
  k_with "call type:int" => (k_here; (with_reducible show wpAny _ _ (call (Value.type "int") [Value.bool _]) _ _ _); (first | (with_reducible refine int_bf ?_) | (with_reducible refine int_bt ?_) | (with_reducible refine int_bb (by assumption) ?_)); intro t' tk')
  k_with "call builtin:max" => (k_here; (with_reducible show wpAny _ _ (call (Value.builtin _) [Value.int _ _, Value.int _ _]) _ _ _); k_dflt (refine' max2 ?hhw24 ?k1w24 ?k2w24 ?k3w24 ?_; (case hhw24 => with_unfolding_all rfl); (case k1w24 => k_asm); (case k2w24 => k_asm); (case k3w24 => first | exact (Int.max_eq_left (by omega)).symm | exact (Int.max_eq_right (by omega)).symm | exact rfl); k_whole); intro t' h' tk' F' N'; (try k_sweep))
  k_with "call builtin:min" => (k_here; (with_reducible show wpAny _ _ (call (Value.builtin _) [Value.int _ _, Value.int _ _]) _ _ _); k_dflt (refine' min2 ?hhw25 ?k1w25 ?k2w25 ?k3w25 ?_; (case hhw25 => with_unfolding_all rfl); (case k1w25 => k_asm); (case k2w25 => k_asm); (case k3w25 => first | exact (Int.min_eq_left (by omega)).symm | exact (Int.min_eq_right (by omega)).symm | exact rfl); k_whole); intro t' h' tk' F' N'; (try k_sweep))
  k_with "call builtin:min" => (k_here; (with_reducible show wpAny _ _ (call (Value.builtin _) [Value.int _ _, Value.int _ _, Value.int _ _]) _ _ _); k_dflt (refine' min3 ?hhw26 ?k1w26 ?k2w26 ?k3w26 ?_; (case hhw26 => with_unfolding_all rfl); (case k1w26 => k_asm); (case k2w26 => k_asm); (case k3w26 => first | exact m3a (by omega) | exact m3b (by omega) | exact m3c (by omega) | exact rfl); k_whole); intro t' h' tk' F' N'; (try k_sweep))
  k_with "ne" => (refine neN ?_; (try dsimp only); first | (k_extra "ord") | omega)
  trivial
section
variable {prog : Program} {w : World} {A : Around} {E : Value → Shared → Prop} {s : Shared} {h₀ : Heap} {L : Addr} {m : Str → Option Value} {news : List (Addr × Obj)}
theorem blen {hp : Heap} {gn : Array GenState} {dr : Drawn} {nk : Nat} {os : OsState} {xs : List UInt8} {t : Tok} {Q : Value → Shared → Prop} (hz : xs.length ≤ 1000) (h : ∀ t' tk', Q (.int (xs.length : Nat) t') ⟨hp, gn, dr, tk', os⟩) :
    wpAny (model prog w) A (call (.builtin "len") [.bytes xs.toArray t]) Q E ⟨hp, gn, dr, nk, os⟩ := by
  refine len_bytes (by rw [List.size_toArray]; omega) ?_
  rw [List.size_toArray]; exact h _ _
theorem b_clip {n : Nat} {i : Int} (h : 0 ≤ i) : clipAt n i = min i.toNat n := by
  unfold clipAt
  rw [if_neg (by omega)]
  omega
theorem bslice {value slice : PySem.Expr} {xs ys : List UInt8} {t : Tok} {l u : Value} {lo hi : Option Int} {Q : Value → Shared → Prop} (hF : Fr h₀ L s.heap m) (hN : News h₀ L s.heap news) (hl : IsPart l lo) (hu : IsPart u hi) (hz : xs.length ≤ 1000)
    (he : (xs.drop (lo.elim 0 (clipAt xs.length))).take (hi.elim xs.length (clipAt xs.length) - lo.elim 0 (clipAt xs.length)) = ys)
    (h : ∀ t' h' k, Fr h₀ L h' m → News h₀ L h' news → Q (.bytes ys.toArray t') { s with heap := h', toks := k })
    (hs : subscripted slice false (.bytes xs.toArray t) (.ref s.heap.objs.size) = operate [.ref s.heap.objs.size, .bytes xs.toArray t] (getItem (.bytes xs.toArray t) (.ref s.heap.objs.size)) := by with_unfolding_all rfl)
    (ht : ∀ r, letTemporaryGo value (.bytes xs.toArray t) r = pure () := by intro _; with_unfolding_all rfl) :
    wpAny (model prog w) A (subscriptTail value slice (.bytes xs.toArray t) (.ref s.heap.objs.size)) Q E { s with heap := s.heap.push { cls := .type "slice", data := .fields #[l, u, .none] } } :=
  KBc.slice_K (ks := KBw.bInts xs.toArray) hF hN rfl hl hu (by rw [KBw.ints_length, List.size_toArray]; omega) (fun h' t' k F' N' _ => by
    have e : KBy.picked xs.toArray lo hi = ys.toArray := by
      rw [KBc.picked_eq, ← he, List.size_toArray]
    rw [e]; exact h _ _ _ F' N') hs ht
theorem b_all {xs : List UInt8} {j : Int} (h : (xs.length : Int) ≤ j) : (xs.drop ((none : Option Int).elim 0 (clipAt xs.length))).take ((some j).elim xs.length (clipAt xs.length) - (none : Option Int).elim 0 (clipAt xs.length)) = xs := by
  simp only [Option.elim, List.drop_zero, Nat.sub_zero]
  rw [b_clip (by omega), List.take_of_length_le (by omega)]
theorem b_to {xs : List UInt8} {j : Int} (h : 0 ≤ j) : (xs.drop ((none : Option Int).elim 0 (clipAt xs.length))).take ((some j).elim xs.length (clipAt xs.length) - (none : Option Int).elim 0 (clipAt xs.length)) = xs.take j.toNat := by
  simp only [Option.elim, List.drop_zero, Nat.sub_zero]
  rw [b_clip h, List.take_eq_take_min, Nat.min_assoc]
  conv => rhs; rw [List.take_eq_take_min]
  rw [Nat.min_self]
theorem b_from {xs : List UInt8} {i : Int} (h : 0 ≤ i) : (xs.drop ((some i).elim 0 (clipAt xs.length))).take ((none : Option Int).elim xs.length (clipAt xs.length) - (some i).elim 0 (clipAt xs.length)) = xs.drop i.toNat := by
  simp only [Option.elim]
  rw [b_clip h, List.take_of_length_le (by rw [List.length_drop]; omega)]
  by_cases q : i.toNat ≤ xs.length
  · rw [Nat.min_eq_left q]
  · rw [Nat.min_eq_right (by omega), List.drop_length, List.drop_of_length_le (by omega)]
theorem b_mid {xs : List UInt8} {i j : Int} (h : 0 ≤ i) (hj : i ≤ j) (hn : j ≤ xs.length) : (xs.drop ((some i).elim 0 (clipAt xs.length))).take ((some j).elim xs.length (clipAt xs.length) - (some i).elim 0 (clipAt xs.length)) = (xs.drop i.toNat).take (j.toNat - i.toNat) := by
  simp only [Option.elim]
  rw [b_clip h, b_clip (by omega), Nat.min_eq_left (by omega), Nat.min_eq_left (by omega)]
theorem bne_f {xs ys : List UInt8} {t u : Tok} {Q : Value → Shared → Prop} (e : xs = ys) (h : Q (.bool false) s) : wpAny (model prog w) A (compareOp .NotEq (.bytes xs.toArray t) (.bytes ys.toArray u)) Q E s :=
  ne_bytes (by subst e; simpa using h)
theorem beq_t {xs ys : List UInt8} {t u : Tok} {Q : Value → Shared → Prop} (e : xs = ys) (h : Q (.bool true) s) : wpAny (model prog w) A (compareOp .Eq (.bytes xs.toArray t) (.bytes ys.toArray u)) Q E s :=
  eq_bytes (by subst e; simpa using h)
theorem badd0 {hp : Heap} {gn : Array GenState} {dr : Drawn} {nk : Nat} {os : OsState} {ys : List UInt8} {t u : Tok} {Q : Value → Shared → Prop} (hz : ys.length ≤ 1000) (h : ∀ t' tk', Q (.bytes ys.toArray t') ⟨hp, gn, dr, tk', os⟩) :
    wpAny (model prog w) A (binaryOp .Add (.bytes (#[] : Array UInt8) t) (.bytes ys.toArray u)) Q E ⟨hp, gn, dr, nk, os⟩ :=
  KBy.add_bytes (by rw [List.size_toArray]; simp; omega) (fun t' k => by rw [Array.empty_append]; exact h t' k)
theorem bb_meth : typeLookup (.type "bytes") "__bytes__" = pure (some (.builtin "bytes.__bytes__")) := by rw [typeLookup_type, builtinLookup_eq_fast]; kernel_rfl
theorem bb_new {b : Array UInt8} {t : Tok} {Q : Value → Shared → Prop} (hQ : Q (.bytes b t) s) :
    codeAny (model prog w) A (.call (.builtin "bytes.__new__") ⟨[.type "bytes", .bytes b t], []⟩) (wants Q E) s := by
  refine codeAny_of_tree ?_
  show wpAny _ A.in1 (do checkBuiltinCall "bytes.__new__" ⟨[.type "bytes", .bytes b t], []⟩; again (.builtin "bytes.__new__" ⟨[.type "bytes", .bytes b t], []⟩)) _ _ s
  refine wpAny_bind (wpAny_of_eq (F.bm_newCall _) (wpAny_pure ⟨plainId_quiet F.bm_plain _, codeAny_builtin F.bm_entry ?_⟩))
  rw [Around.under_plainId F.bm_plain _]
  unfold Builtin.«bytes.__new__»
  refine wpAny_bind (wpAny_of_eq (a := true) rfl ?_)
  refine bm_if_false rfl ?_
  refine wpAny_bind (wpAny_of_eq F.bm_sub ?_)
  refine bm_if_false rfl ?_
  refine wpAny_bind (wpAny_of_eq (F.bm_bind _) ?_)
  refine wpAny_bind (wpAny_of_eq (a := ()) rfl ?_)
  refine wpAny_bind (wpAny_of_eq (a := ()) rfl ?_)
  refine bm_if_false rfl ?_
  refine wpAny_bind (wpAny_of_eq (KBy.special_eq bb_meth) ?_)
  refine wpAny_bind (wpAny_rule ?_)
  refine wpAny_bind (wpAny_of_eq (a := .type "bytes") rfl ?_)
  refine bm_if_true rfl ?_
  refine wpAny_bind (wpAny_pure ?_)
  exact wpAny_pure hQ
theorem bb_call {b : Array UInt8} {t : Tok} {Q : Value → Shared → Prop} (h : Q (.bytes b t) s) : wpAny (model prog w) A (call (.type "bytes") [.bytes b t]) Q E s := by
  refine callType_codes (Q₁ := fun obj s₁ => s₁.TypeIs obj "bytes" ∧ Q obj s₁) F.bm_called (F.bm_typeCall _) F.entry_object_init
    (bb_new ⟨PySem.W.typeIs_bytes _ _ _, h⟩) fun obj s₁ h₁ => ?_
  exact ⟨h₁.1, F.args_object_init_2 obj _, object_init_meets F.bm_called.init.lookup F.bm_called.made (by decide) prog w A.in1 _ s₁ ⟨h₁.1, rfl, h₁.2⟩⟩
end
end
end Mine
-- part C1
namespace Mine
section
theorem ln1_949ca7 : True := by
  k_with_none
  k_with "callWith ref" => (k_here; (with_reducible rename Fr _ _ _ _ => kF); (with_reducible rename Frag.In _ _ => kX); first | ((with_reducible show wpAny _ _ (callWith _ _ _ (backTo _ (starEach [] _)) []) _ _ _); k_dflt (refine' callWith_K0 (Frag.In.keeps kX (Fr.keep kF)) ?k2w1 ?_; (case k2w1 => k_is); k_whole)) | ((with_reducible show wpAny _ _ (callWith _ _ _ (backTo _ (starEach (_ :: _) _)) []) _ _ _); k_dflt (refine' callWith_K kX ?k2w1 ?_; (case k2w1 => k_is); k_whole)))
  k_with "eval Name" => (k_here; (fail_if_success (with_reducible show wpAny _ _ (eval (Expr.Name _ _) (compEnvC _ _ _ _)) _ _ _)); k_dflt (first | (refine' nameX_L ?Fw2 ?vw2 ?_ ?aw2 ?bw2; (case bw2 => kernel_rfl!); (case aw2 => kernel_rfl!); (case Fw2 => k_asm); (case vw2 => rfl); k_whole) | (refine' nameX_K ?Fw2 ?Xw2 ?Tw2 ?ew2 ?_ ?aw2 ?bw2; (case bw2 => kernel_rfl!); (case aw2 => kernel_rfl!); (case Fw2 => k_asm); (case Xw2 => k_asm); (case Tw2 => k_asm); (case ew2 => k_is); k_whole) | (refine' nameX_B ?Fw2 ?Xw2 ?Tw2 ?ew2 ?vw2 ?nw2 ?_ ?aw2 ?bw2; (case bw2 => kernel_rfl!); (case aw2 => kernel_rfl!); (case Fw2 => k_asm); (case Xw2 => k_asm); (case Tw2 => k_asm); (case ew2 => k_is); (case vw2 => boot_fast); (case nw2 => decide); k_whole) | (refine' nameX_C ?Nw2 ?cw2 ?mw2 ?dw2 ?_ ?aw2 ?bw2; (case bw2 => kernel_rfl!); (case aw2 => kernel_rfl!); (case Nw2 => k_asm); (case cw2 => rfl); (case mw2 => k_mem); (case dw2 => k_asm); k_whole) | (refine' nameX_F ?Nw2 ?cw2 ?mw2 ?dw2 ?_ ?aw2 ?bw2; (case bw2 => kernel_rfl!); (case aw2 => kernel_rfl!); (case Nw2 => k_asm); (case cw2 => rfl); (case mw2 => k_mem); (case dw2 => k_asm); k_whole)))
  k_with "ord" => ((with_reducible rename DifO _ => hO9); (first | refine' hO9 0 _ _ _ rfl ?hbw3 ?hcw3 | refine' hO9 1 _ _ _ rfl ?hbw3 ?hcw3 | refine' hO9 2 _ _ _ rfl ?hbw3 ?hcw3 | refine' hO9 3 _ _ _ rfl ?hbw3 ?hcw3 | refine' hO9 4 _ _ _ rfl ?hbw3 ?hcw3 | refine' hO9 5 _ _ _ rfl ?hbw3 ?hcw3); (case hbw3 => first | exact (rfl : (_ : List Addr)[0]? = _) | exact (rfl : (_ : List Addr)[1]? = _) | exact (rfl : (_ : List Addr)[2]? = _) | exact (rfl : (_ : List Addr)[3]? = _) | exact (rfl : (_ : List Addr)[4]? = _) | exact (rfl : (_ : List Addr)[5]? = _)); (case hcw3 => exact rfl))
  k_with "nst" => ((with_reducible show wpAny _ _ _ _ _ (Shared.mk _ _ _ _ _)); refine' nst ?kew4 ?_; (case kew4 => (dsimp only; exact rfl)))
  k_with "all" => (first | exact neNil | (refine' neC ?aw5 ?bw5; (case aw5 => k_ne); (case bw5 => k_all)))
  k_with "room" => (first | exact room_ (by assumption) (by exact rfl) | exact room0 (by assumption) (by exact rfl) | ((try simp only [depth_under_make, depth_under_kw, depth_in1, depth_deeper, depth_caller]); (try dsimp only [ktrTop]); omega))
  k_with "units" => (first | exact room_ (by assumption) (by exact rfl) | exact room0 (by assumption) (by exact rfl) | ((try simp only [units_in1, units_deeper, Around.mark_units, units_caller]); (try dsimp only [ktrTop]); omega))
  k_with "execs cons" => ((first | (with_reducible refine execs_T ?_; intro tk) | refine wpAny_execs_cons ?_); (try k_fold))
  k_with "getAttr ref" => (k_here; k_dflt (refine' oget ?k1w9 ?k2w9 ?k3w9 ?k4w9 ?k5w9 ?k6w9 ?k7w9 ?k8w9 ?k9w9 ?_; (case k1w9 => k_asm); (case k2w9 => k_asm); (case k3w9 => k_inst); (case k4w9 => k_is); (case k5w9 => k_is); (case k6w9 => k_is); (case k7w9 => k_is); (case k8w9 => k_get); (case k9w9 => k_handed); k_whole))
  k_with "storeName" => (k_here; k_dflt (refine' ostore ?kFw10 ?kNw10 ?_ ?kaw10 ?kbw10; (case kaw10 => rfl); (case kbw10 => rfl); (case kFw10 => k_asm); (case kNw10 => k_asm); k_whole; intro h' m9 F' N'; (try k_sweep)))
  k_with "eval Constant int" => (refine cint ?_)
  k_with "eval Constant bytes" => (refine cbytes ?_)
  k_with "binaryOp Mod int int" => (k_here; (with_reducible refine mod_pos ?kbw13 ?_); (case kbw13 => omega); intro t' tk')
  k_with "binaryOp FloorDiv int int" => (k_here; (with_reducible refine div_pos ?kbw14 ?kpw14 ?_); (case kbw14 => omega); (case kpw14 => omega); intro t' tk')
  k_with "binaryOp Mult int int" => (k_here; (with_reducible refine mul_small ?kbw15 ?_); (case kbw15 => omega); intro t' tk')
  k_with "subscriptTail Name Constant ref int" => (k_here; (with_reducible show wpAny _ _ (subscriptTail _ _ (Value.ref _) (Value.int _ _)) _ _ _); k_dflt (first | ((with_reducible show wpAny _ _ (subscriptTail _ _ (Value.ref _) (Value.int 0 _)) _ _ _); refine' item_0 ?Nw16 ?mw16 ?_ ?hsw16; (case Nw16 => k_asm); (case mw16 => k_mem); (case hsw16 => with_unfolding_all rfl); k_whole) | ((with_reducible show wpAny _ _ (subscriptTail _ _ (Value.ref _) (Value.int 1 _)) _ _ _); refine' item_1 ?Nw16 ?mw16 ?_ ?hsw16; (case Nw16 => k_asm); (case mw16 => k_mem); (case hsw16 => with_unfolding_all rfl); k_whole)))
  k_with "compareOp Eq int int" => (k_here; first | (with_reducible refine ceq_t ?chw17 ?_; (case chw17 => omega)) | (with_reducible refine ceq_f ?chw17 ?_; (case chw17 => omega)))
  k_with "compareOp NotEq int int" => (k_here; first | (with_reducible refine cne_t ?chw18 ?_; (case chw18 => omega)) | (with_reducible refine cne_f ?chw18 ?_; (case chw18 => omega)))
  k_with "compareOp Lt int int" => (k_here; first | (with_reducible refine clt_t ?chw19 ?_; (case chw19 => omega)) | (with_reducible refine clt_f ?chw19 ?_; (case chw19 => omega)))
  k_with "compareOp LtE int int" => (k_here; first | (with_reducible refine cle_t ?chw20 ?_; (case chw20 => omega)) | (with_reducible refine cle_f ?chw20 ?_; (case chw20 => omega)))
  k_with "compareOp Gt int int" => (k_here; first | (with_reducible refine cgt_t ?chw21 ?_; (case chw21 => omega)) | (with_reducible refine cgt_f ?chw21 ?_; (case chw21 => omega)))
  k_with "compareOp GtE int int" => (k_here; first | (with_reducible refine cge_t ?chw22 ?_; (case chw22 => omega)) | (with_reducible refine cge_f ?chw22 ?_; (case chw22 => omega)))
  k_with "call type:int" => (k_here; (with_reducible show wpAny _ _ (call (Value.type "int") [Value.bool _]) _ _ _); (first | (with_reducible refine int_bf ?_) | (with_reducible refine int_bt ?_) | (with_reducible refine int_bb (by assumption) ?_)); intro t' tk')
  k_with "call builtin:max" => (k_here; (with_reducible show wpAny _ _ (call (Value.builtin _) [Value.int _ _, Value.int _ _]) _ _ _); k_dflt (refine' max2 ?hhw24 ?k1w24 ?k2w24 ?k3w24 ?_; (case hhw24 => with_unfolding_all rfl); (case k1w24 => k_asm); (case k2w24 => k_asm); (case k3w24 => first | exact (Int.max_eq_left (by omega)).symm | exact (Int.max_eq_right (by omega)).symm | exact rfl); k_whole); intro t' h' tk' F' N'; (try k_sweep))
  k_with "call builtin:min" => (k_here; (with_reducible show wpAny _ _ (call (Value.builtin _) [Value.int _ _, Value.int _ _]) _ _ _); k_dflt (refine' min2 ?hhw25 ?k1w25 ?k2w25 ?k3w25 ?_; (case hhw25 => with_unfolding_all rfl); (case k1w25 => k_asm); (case k2w25 => k_asm); (case k3w25 => first | exact (Int.min_eq_left (by omega)).symm | exact (Int.min_eq_right (by omega)).symm | exact rfl); k_whole); intro t' h' tk' F' N'; (try k_sweep))
  k_with "call builtin:min" => (k_here; (with_reducible show wpAny _ _ (call (Value.builtin _) [Value.int _ _, Value.int _ _, Value.int _ _]) _ _ _); k_dflt (refine' min3 ?hhw26 ?k1w26 ?k2w26 ?k3w26 ?_; (case hhw26 => with_unfolding_all rfl); (case k1w26 => k_asm); (case k2w26 => k_asm); (case k3w26 => first | exact m3a (by omega) | exact m3b (by omega) | exact m3c (by omega) | exact rfl); k_whole); intro t' h' tk' F' N'; (try k_sweep))
  k_with "ne" => (refine neN ?_; (try dsimp only); first | (k_extra "ord") | omega)
  trivial
theorem c_distance {w : World} {a b : Int} {ta tb tr : Tok} :
    Ctr w 135 [.int a ta, .int b tb, .int 256 tr] [] 1 9 (fun v n' => ∃ t : Tok, v = (fun t => .int ((b - a) % 256) t) t ∧ n' = []) := by
  intro loose mean mg mb dp un gd cn cs ad ccd cl outer base L s Rr H0 hH hd1 hu hret
  obtain ⟨B, X, T⟩ := H0
  try have hO9 := difO_of ho
  try have hO9 := difO4 ho
  try have hO9 := difO2 ho
  generalize hg : hideAll s.heap (List.map Prod.fst _) = g at *
  replace hg := hg.symm
  revert X; k_fill; intro X
  k_dflt (
    refine' code_ctr ?k1 ?kg ?k3 ?k5 ?kH ?k6 ?k7 ?k8 ?k9 ?kB ?_ ?c2 ?c3 ?c4 ?c5
    (case kg => exact hg)
    (case k1 => assumption)
    (case k3 => assumption)
    (case k5 => assumption)
    (case kH => assumption)
    (case k6 => k_is)
    (case k7 => k_is)
    (case k8 => ktr_room)
    (case k9 => first | exact BindsTo.of_eq rfl | exact binds_K (Frag.In.keeps X (by rw [hg]; exact fun b o e => of_hideAll _ e)) rfl (by k_is) rfl rfl rfl)
    (case c5 => decide)
    (case kB => exact locs rfl)
    (case c2 => exact rfl)
    (case c3 => exact rfl)
    (case c4 => exact rfl)
    k_whole
    intro L' h' F' N'
    (try dsimp only)
    (refine A_let ?_; intro A9; have dA9 : A9.depth = dp + 1 := rfl; have uA9 : A9.units = un + 3 := rfl)
    (try k_fold)
    (refine fr_let F' ?_; clear F'; intro m9 F'))
  (repeat' (first | (k_extra "nst") | (k_unfold; (try dsimp only)) | (k_end; kc_close) | walk1 | (dsimp only; walk1) | (leave1; walk_say "STEP leave1"; (try dsimp only)) | fail "no step"))
  all_goals (first
    | exact end_u (s := s) hret _ (by first | rfl | rfl) (by assumption) (by assumption) (by first | exact List.forall_mem_nil _ | kcj_all)
    | exact end_u (s := s) hret (0 : Nat) (by first | rfl | rfl) (by assumption) (by assumption) (by first | exact List.forall_mem_nil _ | kcj_all)
    | (exfalso; (rename ((_ : Bool) = _) => hx); (simp at hx); omega)
    | (exfalso; (rename ((_ : Bool) = _) => hx); (simp at hx); done))
theorem c_plus {w : World} {a b : Int} {ta tb tr : Tok} :
    Ctr w 128 [.int a ta, .int b tb, .int 256 tr] [] 1 9 (fun v n' => ∃ t : Tok, v = (fun t => .int ((a + b) % 256) t) t ∧ n' = []) := by
  intro loose mean mg mb dp un gd cn cs ad ccd cl outer base L s Rr H0 hH hd1 hu hret
  obtain ⟨B, X, T⟩ := H0
  try have hO9 := difO_of ho
  try have hO9 := difO4 ho
  try have hO9 := difO2 ho
  generalize hg : hideAll s.heap (List.map Prod.fst _) = g at *
  replace hg := hg.symm
  revert X; k_fill; intro X
  k_dflt (
    refine' code_ctr ?k1 ?kg ?k3 ?k5 ?kH ?k6 ?k7 ?k8 ?k9 ?kB ?_ ?c2 ?c3 ?c4 ?c5
    (case kg => exact hg)
    (case k1 => assumption)
    (case k3 => assumption)
    (case k5 => assumption)
    (case kH => assumption)
    (case k6 => k_is)
    (case k7 => k_is)
    (case k8 => ktr_room)
    (case k9 => first | exact BindsTo.of_eq rfl | exact binds_K (Frag.In.keeps X (by rw [hg]; exact fun b o e => of_hideAll _ e)) rfl (by k_is) rfl rfl rfl)
    (case c5 => decide)
    (case kB => exact locs rfl)
    (case c2 => exact rfl)
    (case c3 => exact rfl)
    (case c4 => exact rfl)
    k_whole
    intro L' h' F' N'
    (try dsimp only)
    (refine A_let ?_; intro A9; have dA9 : A9.depth = dp + 1 := rfl; have uA9 : A9.units = un + 3 := rfl)
    (try k_fold)
    (refine fr_let F' ?_; clear F'; intro m9 F'))
  (repeat' (first | (k_extra "nst") | (k_unfold; (try dsimp only)) | (k_end; kc_close) | walk1 | (dsimp only; walk1) | (leave1; walk_say "STEP leave1"; (try dsimp only)) | fail "no step"))
  all_goals (first
    | exact end_u (s := s) hret _ (by first | rfl | rfl) (by assumption) (by assumption) (by first | exact List.forall_mem_nil _ | kcj_all)
    | exact end_u (s := s) hret (0 : Nat) (by first | rfl | rfl) (by assumption) (by assumption) (by first | exact List.forall_mem_nil _ | kcj_all)
    | (exfalso; (rename ((_ : Bool) = _) => hx); (simp at hx); omega)
    | (exfalso; (rename ((_ : Bool) = _) => hx); (simp at hx); done))
theorem ln2_949ca7 : True := by
  k_with "call ref" => (k_here; (with_reducible show wpAny _ _ (call (Value.ref 135) [Value.int _ _, Value.int _ _, Value.int _ _]) _ _ _); k_dflt (refine' use_r c_distance ?kBw28 ?kFw28 ?kXw28 ?kNw28 ?kTw28 ?kkw28 ?krw28 ?kdw28 ?kuw28 ?_; (case kBw28 => k_asm); (case kFw28 => k_asm); (case kXw28 => k_asm); (case kNw28 => k_asm); (case kTw28 => k_asm); (case kkw28 => first | exact rfl | assumption); (case krw28 => exact subN); (case kdw28 => ktr_room); (case kuw28 => ktr_units); k_whole); intro t' h' tk' F' N'; (try dsimp only); (try k_sweep))
  trivial
theorem c_later {w : World} {a b : Int} {ta tb tr : Tok} (h : 0 < (b - a) % 256 ∧ 2 * ((b - a) % 256) < 256) :
    Ctr w 149 [.int a ta, .int b tb, .int 256 tr] [] 3 30 (fun v n' => ∃ t : Tok, v = (fun _ => .int b tb) t ∧ n' = []) := by
  intro loose mean mg mb dp un gd cn cs ad ccd cl outer base L s Rr H0 hH hd1 hu hret
  obtain ⟨B, X, T⟩ := H0
  try have hO9 := difO_of ho
  try have hO9 := difO4 ho
  try have hO9 := difO2 ho
  generalize hg : hideAll s.heap (List.map Prod.fst _) = g at *
  replace hg := hg.symm
  revert X; k_fill; intro X
  k_dflt (
    refine' code_ctr ?k1 ?kg ?k3 ?k5 ?kH ?k6 ?k7 ?k8 ?k9 ?kB ?_ ?c2 ?c3 ?c4 ?c5
    (case kg => exact hg)
    (case k1 => assumption)
    (case k3 => assumption)
    (case k5 => assumption)
    (case kH => assumption)
    (case k6 => k_is)
    (case k7 => k_is)
    (case k8 => ktr_room)
    (case k9 => first | exact BindsTo.of_eq rfl | exact binds_K (Frag.In.keeps X (by rw [hg]; exact fun b o e => of_hideAll _ e)) rfl (by k_is) rfl rfl rfl)
    (case c5 => decide)
    (case kB => exact locs rfl)
    (case c2 => exact rfl)
    (case c3 => exact rfl)
    (case c4 => exact rfl)
    k_whole
    intro L' h' F' N'
    (try dsimp only)
    (refine A_let ?_; intro A9; have dA9 : A9.depth = dp + 1 := rfl; have uA9 : A9.units = un + 3 := rfl)
    (try k_fold)
    (refine fr_let F' ?_; clear F'; intro m9 F'))
  (repeat' (first | (k_extra "nst") | (k_unfold; (try dsimp only)) | (k_end; kc_close) | walk1 | (dsimp only; walk1) | (leave1; walk_say "STEP leave1"; (try dsimp only)) | fail "no step"))
  all_goals (first
    | exact end_u (s := s) hret _ (by first | rfl | rfl) (by assumption) (by assumption) (by first | exact List.forall_mem_nil _ | kcj_all)
    | exact end_u (s := s) hret (0 : Nat) (by first | rfl | rfl) (by assumption) (by assumption) (by first | exact List.forall_mem_nil _ | kcj_all)
    | (exfalso; (rename ((_ : Bool) = _) => hx); (simp at hx); omega)
    | (exfalso; (rename ((_ : Bool) = _) => hx); (simp at hx); done))
theorem c_stay {w : World} {a b : Int} {ta tb tr : Tok} (h : (b - a) % 256 ≤ 0 ∨ 256 ≤ 2 * ((b - a) % 256)) :
    Ctr w 149 [.int a ta, .int b tb, .int 256 tr] [] 3 30 (fun v n' => ∃ t : Tok, v = (fun _ => .int a ta) t ∧ n' = []) := by
  intro loose mean mg mb dp un gd cn cs ad ccd cl outer base L s Rr H0 hH hd1 hu hret
  obtain ⟨B, X, T⟩ := H0
  try have hO9 := difO_of ho
  try have hO9 := difO4 ho
  try have hO9 := difO2 ho
  generalize hg : hideAll s.heap (List.map Prod.fst _) = g at *
  replace hg := hg.symm
  revert X; k_fill; intro X
  k_dflt (
    refine' code_ctr ?k1 ?kg ?k3 ?k5 ?kH ?k6 ?k7 ?k8 ?k9 ?kB ?_ ?c2 ?c3 ?c4 ?c5
    (case kg => exact hg)
    (case k1 => assumption)
    (case k3 => assumption)
    (case k5 => assumption)
    (case kH => assumption)
    (case k6 => k_is)
    (case k7 => k_is)
    (case k8 => ktr_room)
    (case k9 => first | exact BindsTo.of_eq rfl | exact binds_K (Frag.In.keeps X (by rw [hg]; exact fun b o e => of_hideAll _ e)) rfl (by k_is) rfl rfl rfl)
    (case c5 => decide)
    (case kB => exact locs rfl)
    (case c2 => exact rfl)
    (case c3 => exact rfl)
    (case c4 => exact rfl)
    k_whole
    intro L' h' F' N'
    (try dsimp only)
    (refine A_let ?_; intro A9; have dA9 : A9.depth = dp + 1 := rfl; have uA9 : A9.units = un + 3 := rfl)
    (try k_fold)
    (refine fr_let F' ?_; clear F'; intro m9 F'))
  (repeat' (first | (k_extra "nst") | (k_unfold; (try dsimp only)) | (k_end; kc_close) | walk1 | (dsimp only; walk1) | (leave1; walk_say "STEP leave1"; (try dsimp only)) | fail "no step"))
  all_goals (try (exfalso; (rename (ite _ _ _ = true) => hx); (split at hx) <;> simp only [decide_eq_true_eq] at hx <;> omega))
  all_goals (first
    | exact end_u (s := s) hret _ (by first | rfl | rfl) (by assumption) (by assumption) (by first | exact List.forall_mem_nil _ | kcj_all)
    | exact end_u (s := s) hret (0 : Nat) (by first | rfl | rfl) (by assumption) (by assumption) (by first | exact List.forall_mem_nil _ | kcj_all)
    | (exfalso; (rename ((_ : Bool) = _) => hx); (simp at hx); omega)
    | (exfalso; (rename ((_ : Bool) = _) => hx); (simp at hx); done))
end
end Mine
-- part C2
namespace Mine
section
theorem ln1_3212c1 : True := by
  k_with_none
  k_with "callWith ref" => (k_here; (with_reducible rename Fr _ _ _ _ => kF); (with_reducible rename Frag.In _ _ => kX); first | ((with_reducible show wpAny _ _ (callWith _ _ _ (backTo _ (starEach [] _)) []) _ _ _); k_dflt (refine' callWith_K0 (Frag.In.keeps kX (Fr.keep kF)) ?k2w1 ?_; (case k2w1 => k_is); k_whole)) | ((with_reducible show wpAny _ _ (callWith _ _ _ (backTo _ (starEach (_ :: _) _)) []) _ _ _); k_dflt (refine' callWith_K kX ?k2w1 ?_; (case k2w1 => k_is); k_whole)))
  k_with "eval Name" => (k_here; (fail_if_success (with_reducible show wpAny _ _ (eval (Expr.Name _ _) (compEnvC _ _ _ _)) _ _ _)); k_dflt (first | (refine' nameX_L ?Fw2 ?vw2 ?_ ?aw2 ?bw2; (case bw2 => kernel_rfl!); (case aw2 => kernel_rfl!); (case Fw2 => k_asm); (case vw2 => rfl); k_whole) | (refine' nameX_K ?Fw2 ?Xw2 ?Tw2 ?ew2 ?_ ?aw2 ?bw2; (case bw2 => kernel_rfl!); (case aw2 => kernel_rfl!); (case Fw2 => k_asm); (case Xw2 => k_asm); (case Tw2 => k_asm); (case ew2 => k_is); k_whole) | (refine' nameX_B ?Fw2 ?Xw2 ?Tw2 ?ew2 ?vw2 ?nw2 ?_ ?aw2 ?bw2; (case bw2 => kernel_rfl!); (case aw2 => kernel_rfl!); (case Fw2 => k_asm); (case Xw2 => k_asm); (case Tw2 => k_asm); (case ew2 => k_is); (case vw2 => boot_fast); (case nw2 => decide); k_whole) | (refine' nameX_C ?Nw2 ?cw2 ?mw2 ?dw2 ?_ ?aw2 ?bw2; (case bw2 => kernel_rfl!); (case aw2 => kernel_rfl!); (case Nw2 => k_asm); (case cw2 => rfl); (case mw2 => k_mem); (case dw2 => k_asm); k_whole) | (refine' nameX_F ?Nw2 ?cw2 ?mw2 ?dw2 ?_ ?aw2 ?bw2; (case bw2 => kernel_rfl!); (case aw2 => kernel_rfl!); (case Nw2 => k_asm); (case cw2 => rfl); (case mw2 => k_mem); (case dw2 => k_asm); k_whole)))
  k_with "ord" => ((with_reducible rename DifO _ => hO9); (first | refine' hO9 0 _ _ _ rfl ?hbw3 ?hcw3 | refine' hO9 1 _ _ _ rfl ?hbw3 ?hcw3 | refine' hO9 2 _ _ _ rfl ?hbw3 ?hcw3 | refine' hO9 3 _ _ _ rfl ?hbw3 ?hcw3 | refine' hO9 4 _ _ _ rfl ?hbw3 ?hcw3 | refine' hO9 5 _ _ _ rfl ?hbw3 ?hcw3); (case hbw3 => first | exact (rfl : (_ : List Addr)[0]? = _) | exact (rfl : (_ : List Addr)[1]? = _) | exact (rfl : (_ : List Addr)[2]? = _) | exact (rfl : (_ : List Addr)[3]? = _) | exact (rfl : (_ : List Addr)[4]? = _) | exact (rfl : (_ : List Addr)[5]? = _)); (case hcw3 => exact rfl))
  k_with "nst" => ((with_reducible show wpAny _ _ _ _ _ (Shared.mk _ _ _ _ _)); refine' nst ?kew4 ?_; (case kew4 => (dsimp only; exact rfl)))
  k_with "all" => (first | exact neNil | (refine' neC ?aw5 ?bw5; (case aw5 => k_ne); (case bw5 => k_all)))
  k_with "room" => (first | exact room_ (by assumption) (by exact rfl) | exact room0 (by assumption) (by exact rfl) | ((try simp only [depth_under_make, depth_under_kw, depth_in1, depth_deeper, depth_caller]); (try dsimp only [ktrTop]); omega))
  k_with "units" => (first | exact room_ (by assumption) (by exact rfl) | exact room0 (by assumption) (by exact rfl) | ((try simp only [units_in1, units_deeper, Around.mark_units, units_caller]); (try dsimp only [ktrTop]); omega))
  k_with "execs cons" => ((first | (with_reducible refine execs_T ?_; intro tk) | refine wpAny_execs_cons ?_); (try k_fold))
  k_with "getAttr ref" => (k_here; k_dflt (refine' oget ?k1w9 ?k2w9 ?k3w9 ?k4w9 ?k5w9 ?k6w9 ?k7w9 ?k8w9 ?k9w9 ?_; (case k1w9 => k_asm); (case k2w9 => k_asm); (case k3w9 => k_inst); (case k4w9 => k_is); (case k5w9 => k_is); (case k6w9 => k_is); (case k7w9 => k_is); (case k8w9 => k_get); (case k9w9 => k_handed); k_whole))
  k_with "storeName" => (k_here; k_dflt (refine' ostore ?kFw10 ?kNw10 ?_ ?kaw10 ?kbw10; (case kaw10 => rfl); (case kbw10 => rfl); (case kFw10 => k_asm); (case kNw10 => k_asm); k_whole; intro h' m9 F' N'; (try k_sweep)))
  k_with "eval Constant int" => (refine cint ?_)
  k_with "eval Constant bytes" => (refine cbytes ?_)
  k_with "binaryOp Mod int int" => (k_here; (with_reducible refine mod_pos ?kbw13 ?_); (case kbw13 => omega); intro t' tk')
  k_with "binaryOp FloorDiv int int" => (k_here; (with_reducible refine div_pos ?kbw14 ?kpw14 ?_); (case kbw14 => omega); (case kpw14 => omega); intro t' tk')
  k_with "binaryOp Mult int int" => (k_here; (with_reducible refine mul_small ?kbw15 ?_); (case kbw15 => omega); intro t' tk')
  k_with "subscriptTail Name Constant ref int" => (k_here; (with_reducible show wpAny _ _ (subscriptTail _ _ (Value.ref _) (Value.int _ _)) _ _ _); k_dflt (first | ((with_reducible show wpAny _ _ (subscriptTail _ _ (Value.ref _) (Value.int 0 _)) _ _ _); refine' item_0 ?Nw16 ?mw16 ?_ ?hsw16; (case Nw16 => k_asm); (case mw16 => k_mem); (case hsw16 => with_unfolding_all rfl); k_whole) | ((with_reducible show wpAny _ _ (subscriptTail _ _ (Value.ref _) (Value.int 1 _)) _ _ _); refine' item_1 ?Nw16 ?mw16 ?_ ?hsw16; (case Nw16 => k_asm); (case mw16 => k_mem); (case hsw16 => with_unfolding_all rfl); k_whole)))
  k_with "compareOp Eq int int" => (k_here; first | (with_reducible refine ceq_t ?chw17 ?_; (case chw17 => omega)) | (with_reducible refine ceq_f ?chw17 ?_; (case chw17 => omega)))
  k_with "compareOp NotEq int int" => (k_here; first | (with_reducible refine cne_t ?chw18 ?_; (case chw18 => omega)) | (with_reducible refine cne_f ?chw18 ?_; (case chw18 => omega)))
  k_with "compareOp Lt int int" => (k_here; first | (with_reducible refine clt_t ?chw19 ?_; (case chw19 => omega)) | (with_reducible refine clt_f ?chw19 ?_; (case chw19 => omega)))
  k_with "compareOp LtE int int" => (k_here; first | (with_reducible refine cle_t ?chw20 ?_; (case chw20 => omega)) | (with_reducible refine cle_f ?chw20 ?_; (case chw20 => omega)))
  k_with "compareOp Gt int int" => (k_here; first | (with_reducible refine cgt_t ?chw21 ?_; (case chw21 => omega)) | (with_reducible refine cgt_f ?chw21 ?_; (case chw21 => omega)))
  k_with "compareOp GtE int int" => (k_here; first | (with_reducible refine cge_t ?chw22 ?_; (case chw22 => omega)) | (with_reducible refine cge_f ?chw22 ?_; (case chw22 => omega)))
  k_with "call type:int" => (k_here; (with_reducible show wpAny _ _ (call (Value.type "int") [Value.bool _]) _ _ _); (first | (with_reducible refine int_bf ?_) | (with_reducible refine int_bt ?_) | (with_reducible refine int_bb (by assumption) ?_)); intro t' tk')
  k_with "call builtin:max" => (k_here; (with_reducible show wpAny _ _ (call (Value.builtin _) [Value.int _ _, Value.int _ _]) _ _ _); k_dflt (refine' max2 ?hhw24 ?k1w24 ?k2w24 ?k3w24 ?_; (case hhw24 => with_unfolding_all rfl); (case k1w24 => k_asm); (case k2w24 => k_asm); (case k3w24 => first | exact (Int.max_eq_left (by omega)).symm | exact (Int.max_eq_right (by omega)).symm | exact rfl); k_whole); intro t' h' tk' F' N'; (try k_sweep))
  k_with "call builtin:min" => (k_here; (with_reducible show wpAny _ _ (call (Value.builtin _) [Value.int _ _, Value.int _ _]) _ _ _); k_dflt (refine' min2 ?hhw25 ?k1w25 ?k2w25 ?k3w25 ?_; (case hhw25 => with_unfolding_all rfl); (case k1w25 => k_asm); (case k2w25 => k_asm); (case k3w25 => first | exact (Int.min_eq_left (by omega)).symm | exact (Int.min_eq_right (by omega)).symm | exact rfl); k_whole); intro t' h' tk' F' N'; (try k_sweep))
  k_with "call builtin:min" => (k_here; (with_reducible show wpAny _ _ (call (Value.builtin _) [Value.int _ _, Value.int _ _, Value.int _ _]) _ _ _); k_dflt (refine' min3 ?hhw26 ?k1w26 ?k2w26 ?k3w26 ?_; (case hhw26 => with_unfolding_all rfl); (case k1w26 => k_asm); (case k2w26 => k_asm); (case k3w26 => first | exact m3a (by omega) | exact m3b (by omega) | exact m3c (by omega) | exact rfl); k_whole); intro t' h' tk' F' N'; (try k_sweep))
  k_with "ne" => (refine neN ?_; (try dsimp only); first | (k_extra "ord") | omega)
  k_with "call ref" => (k_here; (with_reducible show wpAny _ _ (call (Value.ref 135) [Value.int _ _, Value.int _ _, Value.int _ _]) _ _ _); k_dflt (refine' use_r c_distance ?kBw28 ?kFw28 ?kXw28 ?kNw28 ?kTw28 ?kkw28 ?krw28 ?kdw28 ?kuw28 ?_; (case kBw28 => k_asm); (case kFw28 => k_asm); (case kXw28 => k_asm); (case kNw28 => k_asm); (case kTw28 => k_asm); (case kkw28 => first | exact rfl | assumption); (case krw28 => exact subN); (case kdw28 => ktr_room); (case kuw28 => ktr_units); k_whole); intro t' h' tk' F' N'; (try dsimp only); (try k_sweep))
  trivial
theorem c_take_no {w : World} {p pd : Addr} {K2 : PTk} {d1 d2 d3 d4 : Tok} {sz mo ts ta seq ack size : Int} {t1 t2 t3 : Tok} (h1 : ((seq - ts) % 256 = 0 ∧ 128 ≤ (ack - ta) % 256) ∨ 128 ≤ (seq - ts) % 256) :
    Ctr w 177 [.ref p, .int seq t1, .int ack t2, .int size t3] [(pd, dictOf (peerE w K2 sz d1 mo d2 (.int ts d3) (.int ta d4)) 5), (p, instObj 187 pd)] 4 40 (fun v n' => ∃ t : Tok, v = (fun _ => .bool false) t ∧ n' = [(pd, dictOf (peerE w K2 sz d1 mo d2 (.int ts d3) (.int ta d4)) 5), (p, instObj 187 pd)]) := by
  intro loose mean mg mb dp un gd cn cs ad ccd cl outer base L s Rr H0 hH hd1 hu hret
  obtain ⟨B, X, T⟩ := H0
  try have hO9 := difO_of ho
  try have hO9 := difO4 ho
  try have hO9 := difO2 ho
  generalize hg : hideAll s.heap (List.map Prod.fst _) = g at *
  replace hg := hg.symm
  revert X; k_fill; intro X
  k_dflt (
    refine' code_ctr ?k1 ?kg ?k3 ?k5 ?kH ?k6 ?k7 ?k8 ?k9 ?kB ?_ ?c2 ?c3 ?c4 ?c5
    (case kg => exact hg)
    (case k1 => assumption)
    (case k3 => assumption)
    (case k5 => assumption)
    (case kH => assumption)
    (case k6 => k_is)
    (case k7 => k_is)
    (case k8 => ktr_room)
    (case k9 => first | exact BindsTo.of_eq rfl | exact binds_K (Frag.In.keeps X (by rw [hg]; exact fun b o e => of_hideAll _ e)) rfl (by k_is) rfl rfl rfl)
    (case c5 => decide)
    (case kB => exact locs rfl)
    (case c2 => exact rfl)
    (case c3 => exact rfl)
    (case c4 => exact rfl)
    k_whole
    intro L' h' F' N'
    (try dsimp only)
    (refine A_let ?_; intro A9; have dA9 : A9.depth = dp + 1 := rfl; have uA9 : A9.units = un + 3 := rfl)
    (try k_fold)
    (refine fr_let F' ?_; clear F'; intro m9 F'))
  (repeat' (first | (k_extra "nst") | (k_unfold; (try dsimp only)) | (k_end; kc_close) | walk1 | (dsimp only; walk1) | (leave1; walk_say "STEP leave1"; (try dsimp only)) | fail "no step"))
  all_goals (first
    | exact end_u (s := s) hret _ (by first | rfl | rfl) (by assumption) (by assumption) (by first | exact List.forall_mem_nil _ | kcj_all)
    | exact end_u (s := s) hret (0 : Nat) (by first | rfl | rfl) (by assumption) (by assumption) (by first | exact List.forall_mem_nil _ | kcj_all)
    | (exfalso; (rename ((_ : Bool) = _) => hx); (simp at hx); omega)
    | (exfalso; (rename ((_ : Bool) = _) => hx); (simp at hx); done))
theorem c_take_yes {w : World} {p pd : Addr} {K2 : PTk} {d1 d2 d3 d4 : Tok} {sz mo ts ta seq ack size mo' : Int} {t1 t2 t3 : Tok} (hne : (p : Nat) ≠ pd) (h1 : ((seq - ts) % 256 = 0 ∧ (ack - ta) % 256 < 128) ∨ (0 < (seq - ts) % 256 ∧ (seq - ts) % 256 < 128)) (h3 : mo' = max mo size) :
    Ctr w 177 [.ref p, .int seq t1, .int ack t2, .int size t3] [(pd, dictOf (peerE w K2 sz d1 mo d2 (.int ts d3) (.int ta d4)) 5), (p, instObj 187 pd)] 4 40 (fun v n' => ∃ t : Tok, v = (fun _ => .bool true) t ∧ n' = [(pd, dictOf (peerE w K2 size t3 mo' t (.int seq t1) (.int ack t2)) 5), (p, instObj 187 pd)]) := by
  intro loose mean mg mb dp un gd cn cs ad ccd cl outer base L s Rr H0 hH hd1 hu hret
  obtain ⟨B, X, T⟩ := H0
  try have hO9 := difO_of ho
  try have hO9 := difO4 ho
  try have hO9 := difO2 ho
  generalize hg : hideAll s.heap (List.map Prod.fst _) = g at *
  replace hg := hg.symm
  revert X; k_fill; intro X
  k_dflt (
    refine' code_ctr ?k1 ?kg ?k3 ?k5 ?kH ?k6 ?k7 ?k8 ?k9 ?kB ?_ ?c2 ?c3 ?c4 ?c5
    (case kg => exact hg)
    (case k1 => assumption)
    (case k3 => assumption)
    (case k5 => assumption)
    (case kH => assumption)
    (case k6 => k_is)
    (case k7 => k_is)
    (case k8 => ktr_room)
    (case k9 => first | exact BindsTo.of_eq rfl | exact binds_K (Frag.In.keeps X (by rw [hg]; exact fun b o e => of_hideAll _ e)) rfl (by k_is) rfl rfl rfl)
    (case c5 => decide)
    (case kB => exact locs rfl)
    (case c2 => exact rfl)
    (case c3 => exact rfl)
    (case c4 => exact rfl)
    k_whole
    intro L' h' F' N'
    (try dsimp only)
    (refine A_let ?_; intro A9; have dA9 : A9.depth = dp + 1 := rfl; have uA9 : A9.units = un + 3 := rfl)
    (try k_fold)
    (refine fr_let F' ?_; clear F'; intro m9 F'))
  subst h3
  (repeat' (first | (k_extra "nst") | (k_unfold; (try dsimp only)) | (k_end; kc_close) | walk1 | (dsimp only; walk1) | (leave1; walk_say "STEP leave1"; (try dsimp only)) | fail "no step"))
  all_goals (first
    | exact end_u (s := s) hret _ (by first | rfl | rfl) (by assumption) (by assumption) (by first | exact List.forall_mem_nil _ | kcj_all)
    | exact end_u (s := s) hret (0 : Nat) (by first | rfl | rfl) (by assumption) (by assumption) (by first | exact List.forall_mem_nil _ | kcj_all)
    | (exfalso; (rename ((_ : Bool) = _) => hx); (simp at hx); omega)
    | (exfalso; (rename ((_ : Bool) = _) => hx); (simp at hx); done))
theorem c_take_first {w : World} {p pd : Addr} {K2 : PTk} {d1 d2 d4 : Tok} {sz mo ta seq ack size mo' : Int} {t1 t2 t3 : Tok} (hne : (p : Nat) ≠ pd) (h3 : mo' = max mo size) :
    Ctr w 177 [.ref p, .int seq t1, .int ack t2, .int size t3] [(pd, dictOf (peerE w K2 sz d1 mo d2 (.none) (.int ta d4)) 5), (p, instObj 187 pd)] 4 40 (fun v n' => ∃ t : Tok, v = (fun _ => .bool true) t ∧ n' = [(pd, dictOf (peerE w K2 size t3 mo' t (.int seq t1) (.int ack t2)) 5), (p, instObj 187 pd)]) := by
  intro loose mean mg mb dp un gd cn cs ad ccd cl outer base L s Rr H0 hH hd1 hu hret
  obtain ⟨B, X, T⟩ := H0
  try have hO9 := difO_of ho
  try have hO9 := difO4 ho
  try have hO9 := difO2 ho
  generalize hg : hideAll s.heap (List.map Prod.fst _) = g at *
  replace hg := hg.symm
  revert X; k_fill; intro X
  k_dflt (
    refine' code_ctr ?k1 ?kg ?k3 ?k5 ?kH ?k6 ?k7 ?k8 ?k9 ?kB ?_ ?c2 ?c3 ?c4 ?c5
    (case kg => exact hg)
    (case k1 => assumption)
    (case k3 => assumption)
    (case k5 => assumption)
    (case kH => assumption)
    (case k6 => k_is)
    (case k7 => k_is)
    (case k8 => ktr_room)
    (case k9 => first | exact BindsTo.of_eq rfl | exact binds_K (Frag.In.keeps X (by rw [hg]; exact fun b o e => of_hideAll _ e)) rfl (by k_is) rfl rfl rfl)
    (case c5 => decide)
    (case kB => exact locs rfl)
    (case c2 => exact rfl)
    (case c3 => exact rfl)
    (case c4 => exact rfl)
    k_whole
    intro L' h' F' N'
    (try dsimp only)
    (refine A_let ?_; intro A9; have dA9 : A9.depth = dp + 1 := rfl; have uA9 : A9.units = un + 3 := rfl)
    (try k_fold)
    (refine fr_let F' ?_; clear F'; intro m9 F'))
  subst h3
  (repeat' (first | (k_extra "nst") | (k_unfold; (try dsimp only)) | (k_end; kc_close) | walk1 | (dsimp only; walk1) | (leave1; walk_say "STEP leave1"; (try dsimp only)) | fail "no step"))
  all_goals (first
    | exact end_u (s := s) hret _ (by first | rfl | rfl) (by assumption) (by assumption) (by first | exact List.forall_mem_nil _ | kcj_all)
    | exact end_u (s := s) hret (0 : Nat) (by first | rfl | rfl) (by assumption) (by assumption) (by first | exact List.forall_mem_nil _ | kcj_all)
    | (exfalso; (rename ((_ : Bool) = _) => hx); (simp at hx); omega)
    | (exfalso; (rename ((_ : Bool) = _) => hx); (simp at hx); done))
end
end Mine
-- part Eqb
namespace Mine
section
theorem ln1_934966 : True := by
  k_with_none
  k_with "callWith ref" => (k_here; (with_reducible rename Fr _ _ _ _ => kF); (with_reducible rename Frag.In _ _ => kX); first | ((with_reducible show wpAny _ _ (callWith _ _ _ (backTo _ (starEach [] _)) []) _ _ _); k_dflt (refine' callWith_K0 (Frag.In.keeps kX (Fr.keep kF)) ?k2w1 ?_; (case k2w1 => k_is); k_whole)) | ((with_reducible show wpAny _ _ (callWith _ _ _ (backTo _ (starEach (_ :: _) _)) []) _ _ _); k_dflt (refine' callWith_K kX ?k2w1 ?_; (case k2w1 => k_is); k_whole)))
  k_with "eval Name" => (k_here; (fail_if_success (with_reducible show wpAny _ _ (eval (Expr.Name _ _) (compEnvC _ _ _ _)) _ _ _)); k_dflt (first | (refine' nameX_L ?Fw2 ?vw2 ?_ ?aw2 ?bw2; (case bw2 => kernel_rfl!); (case aw2 => kernel_rfl!); (case Fw2 => k_asm); (case vw2 => rfl); k_whole) | (refine' nameX_K ?Fw2 ?Xw2 ?Tw2 ?ew2 ?_ ?aw2 ?bw2; (case bw2 => kernel_rfl!); (case aw2 => kernel_rfl!); (case Fw2 => k_asm); (case Xw2 => k_asm); (case Tw2 => k_asm); (case ew2 => k_is); k_whole) | (refine' nameX_B ?Fw2 ?Xw2 ?Tw2 ?ew2 ?vw2 ?nw2 ?_ ?aw2 ?bw2; (case bw2 => kernel_rfl!); (case aw2 => kernel_rfl!); (case Fw2 => k_asm); (case Xw2 => k_asm); (case Tw2 => k_asm); (case ew2 => k_is); (case vw2 => boot_fast); (case nw2 => decide); k_whole) | (refine' nameX_C ?Nw2 ?cw2 ?mw2 ?dw2 ?_ ?aw2 ?bw2; (case bw2 => kernel_rfl!); (case aw2 => kernel_rfl!); (case Nw2 => k_asm); (case cw2 => rfl); (case mw2 => k_mem); (case dw2 => k_asm); k_whole) | (refine' nameX_F ?Nw2 ?cw2 ?mw2 ?dw2 ?_ ?aw2 ?bw2; (case bw2 => kernel_rfl!); (case aw2 => kernel_rfl!); (case Nw2 => k_asm); (case cw2 => rfl); (case mw2 => k_mem); (case dw2 => k_asm); k_whole)))
  k_with "ord" => ((with_reducible rename DifO _ => hO9); (first | refine' hO9 0 _ _ _ rfl ?hbw3 ?hcw3 | refine' hO9 1 _ _ _ rfl ?hbw3 ?hcw3 | refine' hO9 2 _ _ _ rfl ?hbw3 ?hcw3 | refine' hO9 3 _ _ _ rfl ?hbw3 ?hcw3 | refine' hO9 4 _ _ _ rfl ?hbw3 ?hcw3 | refine' hO9 5 _ _ _ rfl ?hbw3 ?hcw3); (case hbw3 => first | exact (rfl : (_ : List Addr)[0]? = _) | exact (rfl : (_ : List Addr)[1]? = _) | exact (rfl : (_ : List Addr)[2]? = _) | exact (rfl : (_ : List Addr)[3]? = _) | exact (rfl : (_ : List Addr)[4]? = _) | exact (rfl : (_ : List Addr)[5]? = _)); (case hcw3 => exact rfl))
  k_with "nst" => ((with_reducible show wpAny _ _ _ _ _ (Shared.mk _ _ _ _ _)); refine' nst ?kew4 ?_; (case kew4 => (dsimp only; exact rfl)))
  k_with "all" => (first | exact neNil | (refine' neC ?aw5 ?bw5; (case aw5 => k_ne); (case bw5 => k_all)))
  k_with "room" => (first | exact room_ (by assumption) (by exact rfl) | exact room0 (by assumption) (by exact rfl) | ((try simp only [depth_under_make, depth_under_kw, depth_in1, depth_deeper, depth_caller]); (try dsimp only [ktrTop]); omega))
  k_with "units" => (first | exact room_ (by assumption) (by exact rfl) | exact room0 (by assumption) (by exact rfl) | ((try simp only [units_in1, units_deeper, Around.mark_units, units_caller]); (try dsimp only [ktrTop]); omega))
  k_with "execs cons" => ((first | (with_reducible refine execs_T ?_; intro tk) | refine wpAny_execs_cons ?_); (try k_fold))
  k_with "getAttr ref" => (k_here; k_dflt (refine' oget ?k1w9 ?k2w9 ?k3w9 ?k4w9 ?k5w9 ?k6w9 ?k7w9 ?k8w9 ?k9w9 ?_; (case k1w9 => k_asm); (case k2w9 => k_asm); (case k3w9 => k_inst); (case k4w9 => k_is); (case k5w9 => k_is); (case k6w9 => k_is); (case k7w9 => k_is); (case k8w9 => k_get); (case k9w9 => k_handed); k_whole))
  k_with "storeName" => (k_here; k_dflt (refine' ostore ?kFw10 ?kNw10 ?_ ?kaw10 ?kbw10; (case kaw10 => rfl); (case kbw10 => rfl); (case kFw10 => k_asm); (case kNw10 => k_asm); k_whole; intro h' m9 F' N'; (try k_sweep)))
  k_with "eval Constant int" => (refine cint ?_)
  k_with "eval Constant bytes" => (refine cbytes ?_)
  k_with "binaryOp Mod int int" => (k_here; (with_reducible refine mod_pos ?kbw13 ?_); (case kbw13 => omega); intro t' tk')
  k_with "binaryOp FloorDiv int int" => (k_here; (with_reducible refine div_pos ?kbw14 ?kpw14 ?_); (case kbw14 => omega); (case kpw14 => omega); intro t' tk')
  k_with "binaryOp Mult int int" => (k_here; (with_reducible refine mul_small ?kbw15 ?_); (case kbw15 => omega); intro t' tk')
  k_with "subscriptTail Name Constant ref int" => (k_here; (with_reducible show wpAny _ _ (subscriptTail _ _ (Value.ref _) (Value.int _ _)) _ _ _); k_dflt (first | ((with_reducible show wpAny _ _ (subscriptTail _ _ (Value.ref _) (Value.int 0 _)) _ _ _); refine' item_0 ?Nw16 ?mw16 ?_ ?hsw16; (case Nw16 => k_asm); (case mw16 => k_mem); (case hsw16 => with_unfolding_all rfl); k_whole) | ((with_reducible show wpAny _ _ (subscriptTail _ _ (Value.ref _) (Value.int 1 _)) _ _ _); refine' item_1 ?Nw16 ?mw16 ?_ ?hsw16; (case Nw16 => k_asm); (case mw16 => k_mem); (case hsw16 => with_unfolding_all rfl); k_whole)))
  k_with "compareOp Eq int int" => (k_here; first | (with_reducible refine ceq_t ?chw17 ?_; (case chw17 => omega)) | (with_reducible refine ceq_f ?chw17 ?_; (case chw17 => omega)))
  k_with "compareOp NotEq int int" => (k_here; first | (with_reducible refine cne_t ?chw18 ?_; (case chw18 => omega)) | (with_reducible refine cne_f ?chw18 ?_; (case chw18 => omega)))
  k_with "compareOp Lt int int" => (k_here; first | (with_reducible refine clt_t ?chw19 ?_; (case chw19 => omega)) | (with_reducible refine clt_f ?chw19 ?_; (case chw19 => omega)))
  k_with "compareOp LtE int int" => (k_here; first | (with_reducible refine cle_t ?chw20 ?_; (case chw20 => omega)) | (with_reducible refine cle_f ?chw20 ?_; (case chw20 => omega)))
  k_with "compareOp Gt int int" => (k_here; first | (with_reducible refine cgt_t ?chw21 ?_; (case chw21 => omega)) | (with_reducible refine cgt_f ?chw21 ?_; (case chw21 => omega)))
  k_with "compareOp GtE int int" => (k_here; first | (with_reducible refine cge_t ?chw22 ?_; (case chw22 => omega)) | (with_reducible refine cge_f ?chw22 ?_; (case chw22 => omega)))
  k_with "call type:int" => (k_here; (with_reducible show wpAny _ _ (call (Value.type "int") [Value.bool _]) _ _ _); (first | (with_reducible refine int_bf ?_) | (with_reducible refine int_bt ?_) | (with_reducible refine int_bb (by assumption) ?_)); intro t' tk')
  k_with "call builtin:max" => (k_here; (with_reducible show wpAny _ _ (call (Value.builtin _) [Value.int _ _, Value.int _ _]) _ _ _); k_dflt (refine' max2 ?hhw24 ?k1w24 ?k2w24 ?k3w24 ?_; (case hhw24 => with_unfolding_all rfl); (case k1w24 => k_asm); (case k2w24 => k_asm); (case k3w24 => first | exact (Int.max_eq_left (by omega)).symm | exact (Int.max_eq_right (by omega)).symm | exact rfl); k_whole); intro t' h' tk' F' N'; (try k_sweep))
  k_with "call builtin:min" => (k_here; (with_reducible show wpAny _ _ (call (Value.builtin _) [Value.int _ _, Value.int _ _]) _ _ _); k_dflt (refine' min2 ?hhw25 ?k1w25 ?k2w25 ?k3w25 ?_; (case hhw25 => with_unfolding_all rfl); (case k1w25 => k_asm); (case k2w25 => k_asm); (case k3w25 => first | exact (Int.min_eq_left (by omega)).symm | exact (Int.min_eq_right (by omega)).symm | exact rfl); k_whole); intro t' h' tk' F' N'; (try k_sweep))
  k_with "call builtin:min" => (k_here; (with_reducible show wpAny _ _ (call (Value.builtin _) [Value.int _ _, Value.int _ _, Value.int _ _]) _ _ _); k_dflt (refine' min3 ?hhw26 ?k1w26 ?k2w26 ?k3w26 ?_; (case hhw26 => with_unfolding_all rfl); (case k1w26 => k_asm); (case k2w26 => k_asm); (case k3w26 => first | exact m3a (by omega) | exact m3b (by omega) | exact m3c (by omega) | exact rfl); k_whole); intro t' h' tk' F' N'; (try k_sweep))
  k_with "ne" => (refine neN ?_; (try dsimp only); first | (k_extra "ord") | omega)
  trivial
open PySem.SeqAt
section
variable {A : Around} {s : Shared}
theorem eqAt_bytes {xs ys : List UInt8} (t u : Tok) (h : xs = ys) : EqAt A s (.bytes xs.toArray t) (.bytes ys.toArray u) true := fun prog w E Q hq => by
  subst h
  unfold eqBool
  refine wpAny_holding ?_
  refine wpAny_ite_split (fun _ => ?_) (fun _ => ?_)
  · exact wpAny_bind (wpAny_rule (wpAny_pure hq))
  · refine wpAny_bind (m := richCompare .Eq (.bytes xs.toArray t) (.bytes xs.toArray u)) (eq_bytes (prog := prog) (w := w) ?_)
    have e : (xs.toArray.toList == xs.toArray.toList) = true := beq_self_eq_true _
    rw [e]
    exact wpAny_truthy_bool hq
theorem eqAt_int {a b : Int} (t u : Tok) (h : a = b) : EqAt A s (.int a t) (.int b u) true := by
  subst h
  have := EqAt.int_int (A := A) (s := s) a t a u
  rwa [beq_self_eq_true] at this
theorem eqAt_bool {a b : Bool} (h : a = b) : EqAt A s (.bool a) (.bool b) true := by
  subst h
  have := EqAt.bool_bool (A := A) (s := s) a a
  rwa [beq_self_eq_true] at this
end
/-- two values that are equal, by their kind -/
inductive EqV : Value → Value → Prop
  | bytes {xs ys : List UInt8} {t u : Tok} (h : xs = ys) : EqV (.bytes xs.toArray t) (.bytes ys.toArray u)
  | int {a b : Int} {t u : Tok} (h : a = b) : EqV (.int a t) (.int b u)
  | bool {a b : Bool} (h : a = b) : EqV (.bool a) (.bool b)
theorem EqV.at {A : Around} {s : Shared} {v w : Value} (h : EqV v w) : EqAt A s v w true := by
  cases h with
  | bytes h => exact eqAt_bytes _ _ h
  | int h => exact eqAt_int _ _ h
  | bool h => exact eqAt_bool h
inductive EqVs : List Value → List Value → Prop
  | nil : EqVs [] []
  | cons {v w : Value} {vs ws : List Value} (h : EqV v w) (r : EqVs vs ws) : EqVs (v :: vs) (w :: ws)
theorem EqVs.len {vs ws : List Value} (h : EqVs vs ws) : vs.length = ws.length := by
  induction h with
  | nil => rfl
  | cons _ _ ih => simp [ih]
theorem EqVs.get {vs ws : List Value} (h : EqVs vs ws) : ∀ (j : Nat) (h1 : j < vs.length) (h2 : j < ws.length), EqV vs[j] ws[j] := by
  induction h with
  | nil => intro j h1; exact absurd h1 (Nat.not_lt_zero _)
  | cons h _ ih =>
    intro j h1 h2
    cases j with
    | zero => exact h
    | succ j => exact ih j (by simpa using h1) (by simpa using h2)
section
variable {prog : Program} {w : World} {A : Around} {E : Value → Shared → Prop} {s : Shared} {h₀ : Heap} {L : Addr} {m : Str → Option Value} {news : List (Addr × Obj)}
theorem eq_lists {l b : Addr} {vs ws : List Value} {c e : Nat} {Q : Value → Shared → Prop} (N : News h₀ L s.heap news) (h1 : (l, listOf vs.toArray c) ∈ news) (h2 : (b, listOf ws.toArray e) ∈ news) (hu : A.units < cLine) (hq : EqVs vs ws) (h : Q (.bool true) s) :
    wpAny (model prog w) A (compareOp .Eq (.ref l) (.ref b)) Q E s := by
  refine eq_listAt (e := fun _ => true) (News.isList N h1) (News.isList N h2) (by simp [hq.len]) hu (fun j j1 j2 => ?_) ?_
  · have := hq.get j (by simpa using j1) (by simpa using j2)
    simpa using this.at
  · have e : ((List.range vs.toArray.size).all fun _ => true) = true := by simp
    rw [e]; exact h
theorem ne_tuples {l b : Addr} {vs ws : List Value} {Q : Value → Shared → Prop} (N : News h₀ L s.heap news) (h1 : (l, { cls := .type "tuple", data := .seq vs.toArray }) ∈ news) (h2 : (b, { cls := .type "tuple", data := .seq ws.toArray }) ∈ news) (hu : A.units < cLine) (hq : EqVs vs ws) (h : Q (.bool false) s) :
    wpAny (model prog w) A (compareOp .NotEq (.ref l) (.ref b)) Q E s := by
  refine RcNeAt.tuples (e := fun _ => true) ⟨_, (N _ h1).1, rfl, _, rfl⟩ ⟨_, (N _ h2).1, rfl, _, rfl⟩ hu (fun j j1 j2 => ?_) prog w E _ ?_
  · have := hq.get j (by simpa using j1) (by simpa using j2)
    simpa using this.at
  · have e : (!((List.range (min vs.toArray.size ws.toArray.size)).all (fun _ => true) && vs.toArray.size == ws.toArray.size)) = false := by simp [hq.len]
    rw [e]; exact h
end
/-- a list's values are bytes -/
inductive BytsAre : List Value → List (List UInt8) → Prop
  | nil : BytsAre [] []
  | cons (xs : List UInt8) (t : Tok) {vs : List Value} {l : List (List UInt8)} (r : BytsAre vs l) : BytsAre (.bytes xs.toArray t :: vs) (xs :: l)
theorem BytsAre.snoc {y : List UInt8} {t : Tok} : ∀ {vs : List Value} {ys : List (List UInt8)}, BytsAre vs ys → BytsAre (vs ++ [.bytes y.toArray t]) (ys ++ [y])
  | _, _, .nil => .cons y t .nil
  | _, _, .cons z u r => .cons z u (BytsAre.snoc r)
theorem BytsAre.eqv : ∀ {vs ws : List Value} {l : List (List UInt8)}, BytsAre vs l → BytsAre ws l → EqVs vs ws
  | _, _, _, .nil, .nil => .nil
  | _, _, _, .cons _ _ r, .cons _ _ r' => .cons (.bytes rfl) (BytsAre.eqv r r')
def KCbEl (news : List (Addr × Obj)) (r : List UInt8) (y : Value) (news' : List (Addr × Obj)) : Prop := news' = news ∧ ∃ t : Tok, y = .bytes r.toArray t
theorem kcb_el {news news' : List (Addr × Obj)} {r r' : List UInt8} {y : Value} {t : Tok} (e : r = r') (hn : news' = news) (hy : y = .bytes r'.toArray t) : KCbEl news r y news' := by subst e; exact ⟨hn, t, hy⟩
section
variable {prog : Program} {w : World} {A : Around} {h₀ : Heap} {L : Addr} {m : Str → Option Value} {env : Env} {elt : Expr} {x : Str} {scope : Scope} {cl : List (Str × Addr)} {s : Shared} {S : List (Addr × Obj) → Prop} {P : Nat → Value → Prop} {Fin : List Value → List (Addr × Obj) → Prop} {news : List (Addr × Obj)}
theorem kcb_gen {α : Type} {n : Nat} {ks : List α} (g : α → List UInt8) (R : α → Value → Prop) (hks : ks.length = n) (hP : ∀ i v, i < n → P i v → ∃ k, ks[i]? = some k ∧ R k v)
    (turn : ∀ k v I oI C oC D m₂ ys h tk (E' : Value → Shared → Prop), k ∈ ks → R k v → LCg.NsObj oC m₂ → m₂ x = some v → Fr h₀ L h m → News h₀ L h ((I, oI) :: (C, oC) :: (D, LCg.lst ys) :: news) → LCg.Off3 I C D news → ((@Ne Nat I C) ∧ (@Ne Nat I D) ∧ (@Ne Nat C D)) →
      wpAny (model prog w) A (eval elt (compEnvC scope cl C env)) (LCg.CompEnd h₀ L m { s with heap := h, toks := tk } I oI C oC D (LCg.lst ys) S (fun y news' => KCbEl news (g k) y news')) E' { s with heap := h, toks := tk })
    (fin : ∀ ys, BytsAre ys (ks.map g) → Fin ys news) : LCg.CompRest prog w A h₀ L m env elt x scope cl s S P Fin n 0 [] news := by
  have key : ∀ (j i : Nat) (ys : List Value), i + j = n → BytsAre ys ((ks.take i).map g) → LCg.CompRest prog w A h₀ L m env elt x scope cl s S P Fin j i ys news := by
    intro j
    induction j with
    | zero =>
      intro i ys hi hy
      have e : i = ks.length := by omega
      subst e
      rw [List.take_length] at hy
      exact LCg.CompRest.zero (fin ys hy)
    | succ j ih =>
      intro i ys hi hy
      refine LCg.CompRest.succ ?_
      intro v I oI C oC D m₂ h tk E' hv hC hx F N off ne
      obtain ⟨k, hk, hv'⟩ := hP i v (by omega) hv
      refine wpAny_mono (turn k v I oI C oC D m₂ ys h tk E' (List.mem_of_getElem? hk) hv' hC hx F N off ne) (fun y s₂ hq => ?_) fun _ _ e => e
      obtain ⟨h', tk', nw, e, F', N', off', hS, hn, t', hy'⟩ := hq
      rw [hn] at N' off' hS
      refine ⟨h', tk', news, e, F', N', off', hS, ?_⟩
      rw [hy']
      refine ih (i + 1) _ (by omega) ?_
      rw [List.take_add_one, hk]
      simpa using BytsAre.snoc hy
  exact key n 0 [] (by omega) (by simp only [List.take_zero, List.map_nil]; exact .nil)
theorem kcb_range {n : Nat} {a : Int} (g : Int → List UInt8)
    (turn : ∀ k t I oI C oC D m₂ ys h tk (E' : Value → Shared → Prop), a ≤ k → k < a + (n : Int) → LCg.NsObj oC m₂ → m₂ x = some (.int k t) → Fr h₀ L h m → News h₀ L h ((I, oI) :: (C, oC) :: (D, LCg.lst ys) :: news) → LCg.Off3 I C D news → ((@Ne Nat I C) ∧ (@Ne Nat I D) ∧ (@Ne Nat C D)) → KPfMark →
      wpAny (model prog w) A (eval elt (compEnvC scope cl C env)) (LCg.CompEnd h₀ L m { s with heap := h, toks := tk } I oI C oC D (LCg.lst ys) S (fun y news' => KCbEl news (g k) y news')) E' { s with heap := h, toks := tk })
    (fin : ∀ ys, BytsAre ys ((rangeKs a n).map g) → Fin ys news) : LCg.CompRest prog w A h₀ L m env elt x scope cl s S (fun i v => ∃ t, v = .int (a + (i : Int)) t) Fin n 0 [] news :=
  kcb_gen (ks := rangeKs a n) g (fun k v => ∃ t, v = .int k t) (rangeKs_length a n) (fun i v hi hv => by
    obtain ⟨t, e⟩ := hv
    exact ⟨a + (i : Int), by simp [rangeKs, hi], t, e⟩)
    (fun k v I oI C oC D m₂ ys h tk E' hk hv hC hx F N off ne => by
      obtain ⟨t, rfl⟩ := hv
      exact turn k t I oI C oC D m₂ ys h tk E' (mem_rangeKs hk).1 (mem_rangeKs hk).2 hC hx F N off ne True.intro) fin
/-- the tails of ys -/
theorem kcb_tails {n : Nat} {ys' xs' : List UInt8} {d : Nat} (_hy : xs'.drop d = ys')
    (turn : ∀ k t I oI C oC D m₂ ys h tk (E' : Value → Shared → Prop), 0 ≤ k → k < 0 + (n : Int) → LCg.NsObj oC m₂ → m₂ x = some (.int k t) → Fr h₀ L h m → News h₀ L h ((I, oI) :: (C, oC) :: (D, LCg.lst ys) :: news) → LCg.Off3 I C D news → ((@Ne Nat I C) ∧ (@Ne Nat I D) ∧ (@Ne Nat C D)) → KPfMark →
      wpAny (model prog w) A (eval elt (compEnvC scope cl C env)) (LCg.CompEnd h₀ L m { s with heap := h, toks := tk } I oI C oC D (LCg.lst ys) S (fun y news' => KCbEl news (ys'.drop k.toNat) y news')) E' { s with heap := h, toks := tk })
    (fin : KPfDone (∀ ys, BytsAre ys ((rangeKs 0 n).map fun k => ys'.drop k.toNat) → Fin ys news)) : LCg.CompRest prog w A h₀ L m env elt x scope cl s S (fun i v => ∃ t, v = .int (0 + (i : Int)) t) Fin n 0 [] news :=
  kcb_range (fun k => ys'.drop k.toNat) turn fin
theorem tail_a {ys : List UInt8} {k : Int} (h : 0 ≤ k ∧ k ≤ ys.length) : ys.drop k.toNat = (ys.drop k.toNat).take ((k + ((ys.length : Int) - k)).toNat - k.toNat) := by
  rw [List.take_of_length_le]
  rw [List.length_drop]; omega
theorem tail_b {ys : List UInt8} {k : Int} (h : 0 ≤ k) (h2 : k < 0 + (((ys.length : Int) + 1 - 0).toNat : Int)) : ys.drop k.toNat = (ys.drop k.toNat).take ((k + ((ys.length : Int) - k)).toNat - k.toNat) := tail_a ⟨h, by omega⟩
theorem part_b {ys : List UInt8} {k : Int} (h : 0 ≤ k) (h2 : k < 0 + (((ys.length : Int) + 1 - 0).toNat : Int)) (h3 : ys.length ≤ 12) : 0 ≤ k ∧ 0 ≤ (ys.length : Int) - k ∧ k + ((ys.length : Int) - k) ≤ ys.length ∧ ys.length ≤ 12 := by omega
end
end
end Mine
-- part Dif0
namespace Mine
section
theorem ln1_b74f8f : True := by
  k_with_none
  k_with "callWith ref" => (k_here; (with_reducible rename Fr _ _ _ _ => kF); (with_reducible rename Frag.In _ _ => kX); first | ((with_reducible show wpAny _ _ (callWith _ _ _ (backTo _ (starEach [] _)) []) _ _ _); k_dflt (refine' callWith_K0 (Frag.In.keeps kX (Fr.keep kF)) ?k2w1 ?_; (case k2w1 => k_is); k_whole)) | ((with_reducible show wpAny _ _ (callWith _ _ _ (backTo _ (starEach (_ :: _) _)) []) _ _ _); k_dflt (refine' callWith_K kX ?k2w1 ?_; (case k2w1 => k_is); k_whole)))
  k_with "eval Name" => (k_here; (fail_if_success (with_reducible show wpAny _ _ (eval (Expr.Name _ _) (compEnvC _ _ _ _)) _ _ _)); k_dflt (first | (refine' nameX_L ?Fw2 ?vw2 ?_ ?aw2 ?bw2; (case bw2 => kernel_rfl!); (case aw2 => kernel_rfl!); (case Fw2 => k_asm); (case vw2 => rfl); k_whole) | (refine' nameX_K ?Fw2 ?Xw2 ?Tw2 ?ew2 ?_ ?aw2 ?bw2; (case bw2 => kernel_rfl!); (case aw2 => kernel_rfl!); (case Fw2 => k_asm); (case Xw2 => k_asm); (case Tw2 => k_asm); (case ew2 => k_is); k_whole) | (refine' nameX_B ?Fw2 ?Xw2 ?Tw2 ?ew2 ?vw2 ?nw2 ?_ ?aw2 ?bw2; (case bw2 => kernel_rfl!); (case aw2 => kernel_rfl!); (case Fw2 => k_asm); (case Xw2 => k_asm); (case Tw2 => k_asm); (case ew2 => k_is); (case vw2 => boot_fast); (case nw2 => decide); k_whole) | (refine' nameX_C ?Nw2 ?cw2 ?mw2 ?dw2 ?_ ?aw2 ?bw2; (case bw2 => kernel_rfl!); (case aw2 => kernel_rfl!); (case Nw2 => k_asm); (case cw2 => rfl); (case mw2 => k_mem); (case dw2 => k_asm); k_whole) | (refine' nameX_F ?Nw2 ?cw2 ?mw2 ?dw2 ?_ ?aw2 ?bw2; (case bw2 => kernel_rfl!); (case aw2 => kernel_rfl!); (case Nw2 => k_asm); (case cw2 => rfl); (case mw2 => k_mem); (case dw2 => k_asm); k_whole)))
  k_with "ord" => ((with_reducible rename DifO _ => hO9); (first | refine' hO9 0 _ _ _ rfl ?hbw3 ?hcw3 | refine' hO9 1 _ _ _ rfl ?hbw3 ?hcw3 | refine' hO9 2 _ _ _ rfl ?hbw3 ?hcw3 | refine' hO9 3 _ _ _ rfl ?hbw3 ?hcw3 | refine' hO9 4 _ _ _ rfl ?hbw3 ?hcw3 | refine' hO9 5 _ _ _ rfl ?hbw3 ?hcw3); (case hbw3 => first | exact (rfl : (_ : List Addr)[0]? = _) | exact (rfl : (_ : List Addr)[1]? = _) | exact (rfl : (_ : List Addr)[2]? = _) | exact (rfl : (_ : List Addr)[3]? = _) | exact (rfl : (_ : List Addr)[4]? = _) | exact (rfl : (_ : List Addr)[5]? = _)); (case hcw3 => exact rfl))
  k_with "nst" => ((with_reducible show wpAny _ _ _ _ _ (Shared.mk _ _ _ _ _)); refine' nst ?kew4 ?_; (case kew4 => (dsimp only; exact rfl)))
  k_with "all" => (first | exact neNil | (refine' neC ?aw5 ?bw5; (case aw5 => k_ne); (case bw5 => k_all)))
  k_with "room" => (first | exact room_ (by assumption) (by exact rfl) | exact room0 (by assumption) (by exact rfl) | ((try simp only [depth_under_make, depth_under_kw, depth_in1, depth_deeper, depth_caller]); (try dsimp only [ktrTop]); omega))
  k_with "units" => (first | exact room_ (by assumption) (by exact rfl) | exact room0 (by assumption) (by exact rfl) | ((try simp only [units_in1, units_deeper, Around.mark_units, units_caller]); (try dsimp only [ktrTop]); omega))
  k_with "execs cons" => ((first | (with_reducible refine execs_T ?_; intro tk) | refine wpAny_execs_cons ?_); (try k_fold))
  k_with "getAttr ref" => (k_here; k_dflt (refine' oget ?k1w9 ?k2w9 ?k3w9 ?k4w9 ?k5w9 ?k6w9 ?k7w9 ?k8w9 ?k9w9 ?_; (case k1w9 => k_asm); (case k2w9 => k_asm); (case k3w9 => k_inst); (case k4w9 => k_is); (case k5w9 => k_is); (case k6w9 => k_is); (case k7w9 => k_is); (case k8w9 => k_get); (case k9w9 => k_handed); k_whole))
  k_with "storeName" => (k_here; k_dflt (refine' ostore ?kFw10 ?kNw10 ?_ ?kaw10 ?kbw10; (case kaw10 => rfl); (case kbw10 => rfl); (case kFw10 => k_asm); (case kNw10 => k_asm); k_whole; intro h' m9 F' N'; (try k_sweep)))
  k_with "eval Constant int" => (refine cint ?_)
  k_with "eval Constant bytes" => (refine cbytes ?_)
  k_with "binaryOp Mod int int" => (k_here; (with_reducible refine mod_pos ?kbw13 ?_); (case kbw13 => omega); intro t' tk')
  k_with "binaryOp FloorDiv int int" => (k_here; (with_reducible refine div_pos ?kbw14 ?kpw14 ?_); (case kbw14 => omega); (case kpw14 => omega); intro t' tk')
  k_with "binaryOp Mult int int" => (k_here; (with_reducible refine mul_small ?kbw15 ?_); (case kbw15 => omega); intro t' tk')
  k_with "subscriptTail Name Constant ref int" => (k_here; (with_reducible show wpAny _ _ (subscriptTail _ _ (Value.ref _) (Value.int _ _)) _ _ _); k_dflt (first | ((with_reducible show wpAny _ _ (subscriptTail _ _ (Value.ref _) (Value.int 0 _)) _ _ _); refine' item_0 ?Nw16 ?mw16 ?_ ?hsw16; (case Nw16 => k_asm); (case mw16 => k_mem); (case hsw16 => with_unfolding_all rfl); k_whole) | ((with_reducible show wpAny _ _ (subscriptTail _ _ (Value.ref _) (Value.int 1 _)) _ _ _); refine' item_1 ?Nw16 ?mw16 ?_ ?hsw16; (case Nw16 => k_asm); (case mw16 => k_mem); (case hsw16 => with_unfolding_all rfl); k_whole)))
  k_with "compareOp Eq int int" => (k_here; first | (with_reducible refine ceq_t ?chw17 ?_; (case chw17 => omega)) | (with_reducible refine ceq_f ?chw17 ?_; (case chw17 => omega)))
  k_with "compareOp NotEq int int" => (k_here; first | (with_reducible refine cne_t ?chw18 ?_; (case chw18 => omega)) | (with_reducible refine cne_f ?chw18 ?_; (case chw18 => omega)))
  k_with "compareOp Lt int int" => (k_here; first | (with_reducible refine clt_t ?chw19 ?_; (case chw19 => omega)) | (with_reducible refine clt_f ?chw19 ?_; (case chw19 => omega)))
  k_with "compareOp LtE int int" => (k_here; first | (with_reducible refine cle_t ?chw20 ?_; (case chw20 => omega)) | (with_reducible refine cle_f ?chw20 ?_; (case chw20 => omega)))
  k_with "compareOp Gt int int" => (k_here; first | (with_reducible refine cgt_t ?chw21 ?_; (case chw21 => omega)) | (with_reducible refine cgt_f ?chw21 ?_; (case chw21 => omega)))
  k_with "compareOp GtE int int" => (k_here; first | (with_reducible refine cge_t ?chw22 ?_; (case chw22 => omega)) | (with_reducible refine cge_f ?chw22 ?_; (case chw22 => omega)))
  k_with "call type:int" => (k_here; (with_reducible show wpAny _ _ (call (Value.type "int") [Value.bool _]) _ _ _); (first | (with_reducible refine int_bf ?_) | (with_reducible refine int_bt ?_) | (with_reducible refine int_bb (by assumption) ?_)); intro t' tk')
  k_with "call builtin:max" => (k_here; (with_reducible show wpAny _ _ (call (Value.builtin _) [Value.int _ _, Value.int _ _]) _ _ _); k_dflt (refine' max2 ?hhw24 ?k1w24 ?k2w24 ?k3w24 ?_; (case hhw24 => with_unfolding_all rfl); (case k1w24 => k_asm); (case k2w24 => k_asm); (case k3w24 => first | exact (Int.max_eq_left (by omega)).symm | exact (Int.max_eq_right (by omega)).symm | exact rfl); k_whole); intro t' h' tk' F' N'; (try k_sweep))
  k_with "call builtin:min" => (k_here; (with_reducible show wpAny _ _ (call (Value.builtin _) [Value.int _ _, Value.int _ _]) _ _ _); k_dflt (refine' min2 ?hhw25 ?k1w25 ?k2w25 ?k3w25 ?_; (case hhw25 => with_unfolding_all rfl); (case k1w25 => k_asm); (case k2w25 => k_asm); (case k3w25 => first | exact (Int.min_eq_left (by omega)).symm | exact (Int.min_eq_right (by omega)).symm | exact rfl); k_whole); intro t' h' tk' F' N'; (try k_sweep))
  k_with "call builtin:min" => (k_here; (with_reducible show wpAny _ _ (call (Value.builtin _) [Value.int _ _, Value.int _ _, Value.int _ _]) _ _ _); k_dflt (refine' min3 ?hhw26 ?k1w26 ?k2w26 ?k3w26 ?_; (case hhw26 => with_unfolding_all rfl); (case k1w26 => k_asm); (case k2w26 => k_asm); (case k3w26 => first | exact m3a (by omega) | exact m3b (by omega) | exact m3c (by omega) | exact rfl); k_whole); intro t' h' tk' F' N'; (try k_sweep))
  k_with "ne" => (refine neN ?_; (try dsimp only); first | (k_extra "ord") | omega)
  trivial
/-- two addresses that differ, kept out of omega's sight -/
def Dif (a b : Nat) : Prop := a ≠ b
structure AndD (a b : Prop) : Prop where
  l : a
  r : b
theorem Dif.l {a b : Nat} (h : Dif a b) : a ≠ b := h
theorem Dif.r {a b : Nat} (h : Dif b a) : a ≠ b := Ne.symm h
def DifR (a : Nat) : List (Addr × Obj) → Prop
  | [] => True
  | q :: r => AndD (Dif a q.1) (DifR a r)
def DifAll : List (Addr × Obj) → List (Addr × Obj) → Prop
  | [], _ => True
  | p :: r, l => AndD (DifR p.1 l) (DifAll r l)
theorem difR_of {a : Nat} : ∀ {l : List (Addr × Obj)}, (∀ q ∈ l, @Ne Nat a q.1) → DifR a l
  | [], _ => trivial
  | q :: _, h => ⟨h q (.head _), difR_of fun p hp => h p (.tail _ hp)⟩
theorem difAll_of : ∀ {l k : List (Addr × Obj)}, (∀ p ∈ l, ∀ q ∈ k, @Ne Nat p.1 q.1) → DifAll l k
  | [], _, _ => trivial
  | p :: _, _, h => ⟨difR_of (h p (.head _)), difAll_of fun q hq => h q (.tail _ hq)⟩
theorem difR_lt {d : Addr} {l : List (Addr × Obj)} (h : ∀ p ∈ l, p.1 < d) : DifR d l := difR_of fun q hq => Nat.ne_of_gt (h q hq)
/-- the facts spread out ahead of a goal, all at once -/
def SpR (a : Nat) : List (Addr × Obj) → Prop → Prop
  | [], G => G
  | q :: r, G => Dif a q.1 → SpR a r G
def SpA : List (Addr × Obj) → List (Addr × Obj) → Prop → Prop
  | [], _, G => G
  | p :: l, k, G => SpR p.1 k (SpA l k G)
theorem spR {a : Nat} {l : List (Addr × Obj)} {G : Prop} (h : DifR a l) (k : SpR a l G) : G := by
  induction l with
  | nil => exact k
  | cons q r ih => exact ih h.r (k h.l)
theorem spA {l k : List (Addr × Obj)} {G : Prop} (h : DifAll l k) (c : SpA l k G) : G := by
  induction l with
  | nil => exact c
  | cons p l ih => exact ih h.r (spR h.l c)
section
variable {w : World} {f : Addr} {vs : List Value} {rel : List (Addr × Obj)} {D U : Nat}
    {loose : List Str} {mean : ExcName → Option Value} {mg mb : Str → Option Value} {dp un : Nat} {gd : Option (List Code)} {cn : Str} {cs : Scope} {ad : Addr} {ccd : Value} {cl : List (Str × Addr)} {outer : List Env} {A₀ : Around} {base h₀ : Heap} {L : Addr} {m : Str → Option Value} {s : Shared} {news : List (Addr × Obj)} {Q E : Value → Shared → Prop}
/-- use_un, the new address told apart by hidden facts -/
theorem use_und {hp : Heap} {gn : Array GenState} {dr : Drawn} {nk : Nat} {os : OsState} {α : Type} {mk : α → Value} {oth : List (Addr × Obj)} {news' : α → List (Addr × Obj)} {dx : Addr} {od : Obj} {od' : α → Obj} {na : α → Addr} {no : α → Obj} (C : Ctr w f vs ((dx, od) :: oth) D U (fun v n' => ∃ t, v = mk t ∧ n' = (na t, no t) :: (dx, od' t) :: oth))
    (B : Below A₀ base outer h₀) (F : Fr h₀ L hp m) (X : (hok.heap_1 w.params).In h₀) (N : News h₀ L hp news) (T : Top topProg loose mean mg mb h₀) (hk : cs.kind = .function)
    (hrel : ∀ p ∈ (dx, od) :: oth, p ∈ news) (hU : ∀ t, Upd dx od (od' t) news (news' t)) (hne : ∀ t, ∀ z ∈ ((dx, od) :: oth).map (·.1), z ≠ na t) (hd1 : dp + D < recursionLimit) (hu : un + U < cLine)
    (h : ∀ t h' tk', Fr h₀ L h' m → News h₀ L h' ((na t, no t) :: news' t) → DifR (na t) news → Q (mk t) ⟨h', gn, dr, tk', os⟩) :
    wpAny (model PySem.Challenge.rw_qz0162_01.row.prog w) (ktrTop dp un gd cn cs L ad ccd cl outer) (call (.ref f) vs) Q E ⟨hp, gn, dr, nk, os⟩ :=
  use_un C B F X N T hk hrel hU hne hd1 hu fun t h' tk' F' N' nw => h t h' tk' F' N' (difR_of fun q hq => Ne.symm (nw q hq))
end
end
end Mine
local macro_rules | `(tactic| k_lt $h:ident) => `(tactic| first | ((k_extra "klt"); refine Mine.spR (Mine.difR_lt $h) ?_; clear $h; dsimp only [Mine.SpR, List.cons_append, List.nil_append]; intros; (fail_if_success (with_reducible show Mine.SpR _ _ _))) | (replace $h := allLt_of $h; simp only [AllLt, and_true] at $h:ident))
-- part DifB
namespace Mine
section
theorem ln1_08e220 : True := by
  k_with_none
  k_with "callWith ref" => (k_here; (with_reducible rename Fr _ _ _ _ => kF); (with_reducible rename Frag.In _ _ => kX); first | ((with_reducible show wpAny _ _ (callWith _ _ _ (backTo _ (starEach [] _)) []) _ _ _); k_dflt (refine' callWith_K0 (Frag.In.keeps kX (Fr.keep kF)) ?k2w1 ?_; (case k2w1 => k_is); k_whole)) | ((with_reducible show wpAny _ _ (callWith _ _ _ (backTo _ (starEach (_ :: _) _)) []) _ _ _); k_dflt (refine' callWith_K kX ?k2w1 ?_; (case k2w1 => k_is); k_whole)))
  k_with "eval Name" => (k_here; (fail_if_success (with_reducible show wpAny _ _ (eval (Expr.Name _ _) (compEnvC _ _ _ _)) _ _ _)); k_dflt (first | (refine' nameX_L ?Fw2 ?vw2 ?_ ?aw2 ?bw2; (case bw2 => kernel_rfl!); (case aw2 => kernel_rfl!); (case Fw2 => k_asm); (case vw2 => rfl); k_whole) | (refine' nameX_K ?Fw2 ?Xw2 ?Tw2 ?ew2 ?_ ?aw2 ?bw2; (case bw2 => kernel_rfl!); (case aw2 => kernel_rfl!); (case Fw2 => k_asm); (case Xw2 => k_asm); (case Tw2 => k_asm); (case ew2 => k_is); k_whole) | (refine' nameX_B ?Fw2 ?Xw2 ?Tw2 ?ew2 ?vw2 ?nw2 ?_ ?aw2 ?bw2; (case bw2 => kernel_rfl!); (case aw2 => kernel_rfl!); (case Fw2 => k_asm); (case Xw2 => k_asm); (case Tw2 => k_asm); (case ew2 => k_is); (case vw2 => boot_fast); (case nw2 => decide); k_whole) | (refine' nameX_C ?Nw2 ?cw2 ?mw2 ?dw2 ?_ ?aw2 ?bw2; (case bw2 => kernel_rfl!); (case aw2 => kernel_rfl!); (case Nw2 => k_asm); (case cw2 => rfl); (case mw2 => k_mem); (case dw2 => k_asm); k_whole) | (refine' nameX_F ?Nw2 ?cw2 ?mw2 ?dw2 ?_ ?aw2 ?bw2; (case bw2 => kernel_rfl!); (case aw2 => kernel_rfl!); (case Nw2 => k_asm); (case cw2 => rfl); (case mw2 => k_mem); (case dw2 => k_asm); k_whole)))
  k_with "ord" => ((with_reducible rename DifO _ => hO9); (first | refine' hO9 0 _ _ _ rfl ?hbw3 ?hcw3 | refine' hO9 1 _ _ _ rfl ?hbw3 ?hcw3 | refine' hO9 2 _ _ _ rfl ?hbw3 ?hcw3 | refine' hO9 3 _ _ _ rfl ?hbw3 ?hcw3 | refine' hO9 4 _ _ _ rfl ?hbw3 ?hcw3 | refine' hO9 5 _ _ _ rfl ?hbw3 ?hcw3); (case hbw3 => first | exact (rfl : (_ : List Addr)[0]? = _) | exact (rfl : (_ : List Addr)[1]? = _) | exact (rfl : (_ : List Addr)[2]? = _) | exact (rfl : (_ : List Addr)[3]? = _) | exact (rfl : (_ : List Addr)[4]? = _) | exact (rfl : (_ : List Addr)[5]? = _)); (case hcw3 => exact rfl))
  k_with "nst" => ((with_reducible show wpAny _ _ _ _ _ (Shared.mk _ _ _ _ _)); refine' nst ?kew4 ?_; (case kew4 => (dsimp only; exact rfl)))
  k_with "all" => (first | exact neNil | (refine' neC ?aw5 ?bw5; (case aw5 => k_ne); (case bw5 => k_all)))
  k_with "room" => (first | exact room_ (by assumption) (by exact rfl) | exact room0 (by assumption) (by exact rfl) | ((try simp only [depth_under_make, depth_under_kw, depth_in1, depth_deeper, depth_caller]); (try dsimp only [ktrTop]); omega))
  k_with "units" => (first | exact room_ (by assumption) (by exact rfl) | exact room0 (by assumption) (by exact rfl) | ((try simp only [units_in1, units_deeper, Around.mark_units, units_caller]); (try dsimp only [ktrTop]); omega))
  k_with "execs cons" => ((first | (with_reducible refine execs_T ?_; intro tk) | refine wpAny_execs_cons ?_); (try k_fold))
  k_with "getAttr ref" => (k_here; k_dflt (refine' oget ?k1w9 ?k2w9 ?k3w9 ?k4w9 ?k5w9 ?k6w9 ?k7w9 ?k8w9 ?k9w9 ?_; (case k1w9 => k_asm); (case k2w9 => k_asm); (case k3w9 => k_inst); (case k4w9 => k_is); (case k5w9 => k_is); (case k6w9 => k_is); (case k7w9 => k_is); (case k8w9 => k_get); (case k9w9 => k_handed); k_whole))
  k_with "storeName" => (k_here; k_dflt (refine' ostore ?kFw10 ?kNw10 ?_ ?kaw10 ?kbw10; (case kaw10 => rfl); (case kbw10 => rfl); (case kFw10 => k_asm); (case kNw10 => k_asm); k_whole; intro h' m9 F' N'; (try k_sweep)))
  k_with "eval Constant int" => (refine cint ?_)
  k_with "eval Constant bytes" => (refine cbytes ?_)
  k_with "binaryOp Mod int int" => (k_here; (with_reducible refine mod_pos ?kbw13 ?_); (case kbw13 => omega); intro t' tk')
  k_with "binaryOp FloorDiv int int" => (k_here; (with_reducible refine div_pos ?kbw14 ?kpw14 ?_); (case kbw14 => omega); (case kpw14 => omega); intro t' tk')
  k_with "binaryOp Mult int int" => (k_here; (with_reducible refine mul_small ?kbw15 ?_); (case kbw15 => omega); intro t' tk')
  k_with "subscriptTail Name Constant ref int" => (k_here; (with_reducible show wpAny _ _ (subscriptTail _ _ (Value.ref _) (Value.int _ _)) _ _ _); k_dflt (first | ((with_reducible show wpAny _ _ (subscriptTail _ _ (Value.ref _) (Value.int 0 _)) _ _ _); refine' item_0 ?Nw16 ?mw16 ?_ ?hsw16; (case Nw16 => k_asm); (case mw16 => k_mem); (case hsw16 => with_unfolding_all rfl); k_whole) | ((with_reducible show wpAny _ _ (subscriptTail _ _ (Value.ref _) (Value.int 1 _)) _ _ _); refine' item_1 ?Nw16 ?mw16 ?_ ?hsw16; (case Nw16 => k_asm); (case mw16 => k_mem); (case hsw16 => with_unfolding_all rfl); k_whole)))
  k_with "compareOp Eq int int" => (k_here; first | (with_reducible refine ceq_t ?chw17 ?_; (case chw17 => omega)) | (with_reducible refine ceq_f ?chw17 ?_; (case chw17 => omega)))
  k_with "compareOp NotEq int int" => (k_here; first | (with_reducible refine cne_t ?chw18 ?_; (case chw18 => omega)) | (with_reducible refine cne_f ?chw18 ?_; (case chw18 => omega)))
  k_with "compareOp Lt int int" => (k_here; first | (with_reducible refine clt_t ?chw19 ?_; (case chw19 => omega)) | (with_reducible refine clt_f ?chw19 ?_; (case chw19 => omega)))
  k_with "compareOp LtE int int" => (k_here; first | (with_reducible refine cle_t ?chw20 ?_; (case chw20 => omega)) | (with_reducible refine cle_f ?chw20 ?_; (case chw20 => omega)))
  k_with "compareOp Gt int int" => (k_here; first | (with_reducible refine cgt_t ?chw21 ?_; (case chw21 => omega)) | (with_reducible refine cgt_f ?chw21 ?_; (case chw21 => omega)))
  k_with "compareOp GtE int int" => (k_here; first | (with_reducible refine cge_t ?chw22 ?_; (case chw22 => omega)) | (with_reducible refine cge_f ?chw22 ?_; (case chw22 => omega)))
  k_with "call type:int" => (k_here; (with_reducible show wpAny _ _ (call (Value.type "int") [Value.bool _]) _ _ _); (first | (with_reducible refine int_bf ?_) | (with_reducible refine int_bt ?_) | (with_reducible refine int_bb (by assumption) ?_)); intro t' tk')
  k_with "call builtin:max" => (k_here; (with_reducible show wpAny _ _ (call (Value.builtin _) [Value.int _ _, Value.int _ _]) _ _ _); k_dflt (refine' max2 ?hhw24 ?k1w24 ?k2w24 ?k3w24 ?_; (case hhw24 => with_unfolding_all rfl); (case k1w24 => k_asm); (case k2w24 => k_asm); (case k3w24 => first | exact (Int.max_eq_left (by omega)).symm | exact (Int.max_eq_right (by omega)).symm | exact rfl); k_whole); intro t' h' tk' F' N'; (try k_sweep))
  k_with "call builtin:min" => (k_here; (with_reducible show wpAny _ _ (call (Value.builtin _) [Value.int _ _, Value.int _ _]) _ _ _); k_dflt (refine' min2 ?hhw25 ?k1w25 ?k2w25 ?k3w25 ?_; (case hhw25 => with_unfolding_all rfl); (case k1w25 => k_asm); (case k2w25 => k_asm); (case k3w25 => first | exact (Int.min_eq_left (by omega)).symm | exact (Int.min_eq_right (by omega)).symm | exact rfl); k_whole); intro t' h' tk' F' N'; (try k_sweep))
  k_with "call builtin:min" => (k_here; (with_reducible show wpAny _ _ (call (Value.builtin _) [Value.int _ _, Value.int _ _, Value.int _ _]) _ _ _); k_dflt (refine' min3 ?hhw26 ?k1w26 ?k2w26 ?k3w26 ?_; (case hhw26 => with_unfolding_all rfl); (case k1w26 => k_asm); (case k2w26 => k_asm); (case k3w26 => first | exact m3a (by omega) | exact m3b (by omega) | exact m3c (by omega) | exact rfl); k_whole); intro t' h' tk' F' N'; (try k_sweep))
  trivial
theorem ln2_08e220 : True := by
  k_with "klt" => (skip)
  k_with "ne" => (refine neN ?_; (try dsimp only); first | exact Dif.l (by with_reducible assumption) | exact Dif.r (by with_reducible assumption) | (k_extra "ord") | omega)
  trivial
section
variable {w : World} {f : Addr} {vs : List Value} {rel : List (Addr × Obj)} {D U : Nat}
    {loose : List Str} {mean : ExcName → Option Value} {mg mb : Str → Option Value} {dp un : Nat} {gd : Option (List Code)} {cn : Str} {cs : Scope} {ad : Addr} {ccd : Value} {cl : List (Str × Addr)} {outer : List Env} {A₀ : Around} {base h₀ : Heap} {L : Addr} {m : Str → Option Value} {s : Shared} {news : List (Addr × Obj)} {Q E : Value → Shared → Prop}
/-- a contract over no object, at a call: new objects come on top -/
theorem use_n {hp : Heap} {gn : Array GenState} {dr : Drawn} {nk : Nat} {os : OsState} {α : Type} {mk : α → Value} {rel' : α → List (Addr × Obj)} (C : Ctr w f vs [] D U (fun v n' => ∃ t, v = mk t ∧ n' = rel' t))
    (B : Below A₀ base outer h₀) (F : Fr h₀ L hp m) (X : (hok.heap_1 w.params).In h₀) (N : News h₀ L hp news) (T : Top topProg loose mean mg mb h₀) (hk : cs.kind = .function)
    (hd1 : dp + D < recursionLimit) (hu : un + U < cLine)
    (h : ∀ t h' tk', Fr h₀ L h' m → News h₀ L h' (rel' t ++ news) → DifAll news (rel' t) → Q (mk t) ⟨h', gn, dr, tk', os⟩) :
    wpAny (model PySem.Challenge.rw_qz0162_01.row.prog w) (ktrTop dp un gd cn cs L ad ccd cl outer) (call (.ref f) vs) Q E ⟨hp, gn, dr, nk, os⟩ := by
  refine ctr_use C B F X N T hk (fun _ hp => (nomatch hp)) hd1 hu fun v n' h' tk' F' N' hr hP => ?_
  obtain ⟨t, rfl, rfl⟩ := hP
  refine h t h' tk' F' (fun p hp => ?_) (difAll_of fun p hp q hq => (hr p hp fun _ hq => (nomatch hq)).2 q hq)
  rcases List.mem_append.mp hp with hp | hp
  · exact N' p hp
  · exact (hr p hp fun _ hq => (nomatch hq)).1
end
/-- a cut between the statements of a body -/
def CutEnd (I : Shared → Prop) (f : Flow) (s' : Shared) : Prop := f = .next ∧ I s'
theorem cut_stmts {M : Model} {A : Around} {env : Env} {Q : Flow → Shared → Prop} {E : Value → Shared → Prop} {I : Shared → Prop} {a b : List Stmt} {s : Shared} (h2 : ∀ s', I s' → wpAny M A (execs b env) Q E s')
    (h1 : wpAny M A (execs a env) (CutEnd I) E s) : wpAny M A (execs (a ++ b) env) Q E s := fun Γ p hΓ => by
  have key : ∀ (a : List Stmt) (p : Pos) (s : Shared), Sem.wp M Γ (execs a env) (fun f _ s' => CutEnd I f s') (fun e _ s' => E e s') p s → Sem.wp M Γ (execs (a ++ b) env) (fun f _ s' => Q f s') (fun e _ s' => E e s') p s := by
    intro a
    induction a with
    | nil => intro p s h; exact h2 s (show CutEnd I .next s from h).2 Γ p hΓ
    | cons st r ih =>
      intro p s h
      rw [execs_cons, Sem.wp_bind'] at h
      show Sem.wp M Γ (execs (st :: (r ++ b)) env) _ _ p s
      rw [execs_cons, Sem.wp_bind']
      refine Sem.wp_mono M Γ _ (fun f p' s' h' => ?_) (fun _ _ _ h' => h') _ _ h
      cases f with
      | next => exact ih p' s' h'
      | ret v => exact absurd (show CutEnd I (.ret v) s' from h').1 (by nofun)
      | brk => exact absurd (show CutEnd I .brk s' from h').1 (by nofun)
      | cont => exact absurd (show CutEnd I .cont s' from h').1 (by nofun)
  exact key a p s (h1 Γ p hΓ)
theorem cut_stmts_e {M : Model} {A : Around} {env : Env} {Q : Flow → Shared → Prop} {E : Value → Shared → Prop} {I : Shared → Prop} {a b l : List Stmt} {s : Shared} (e : l = a ++ b) (h2 : ∀ s', I s' → wpAny M A (execs b env) Q E s')
    (h1 : wpAny M A (execs a env) (CutEnd I) E s) : wpAny M A (execs l env) Q E s := e ▸ cut_stmts h2 h1
theorem compEnd_here {h₀ : Heap} {L I C D : Addr} {m : Str → Option Value} {s₁ : Shared} {oI oC oD : Obj} {S : List (Addr × Obj) → Prop} {rest : Value → List (Addr × Obj) → Prop} {y : Value} {h' : Heap} {tk : Nat} {news' : List (Addr × Obj)}
    (F : Fr h₀ L h' m) (N : News h₀ L h' ((I, oI) :: (C, oC) :: (D, oD) :: news')) (off : LCg.Off3 I C D news') (hS : S news') (r : rest y news') :
    LCg.CompEnd h₀ L m s₁ I oI C oC D oD S rest y { s₁ with heap := h', toks := tk } := LCg.CompEnd.intro F N news' (fun _ hp => hp) off hS r
theorem newsSub {g h : Heap} {L : Addr} {all l : List (Addr × Obj)} (N : News g L h all) (sub : ∀ p ∈ l, p ∈ all) : News g L h l := fun p hp => N p (sub p hp)
theorem cell_int {o : Obj} {a b : Int} {t : Tok} (h : o.data = .cell (some (.int a t))) (e : a = b) : o.data = .cell (some (.int b t)) := by rw [h, e]
theorem ne_lists {prog : Program} {w : World} {A : Around} {E : Value → Shared → Prop} {s : Shared} {h₀ : Heap} {L : Addr} {news : List (Addr × Obj)} {l b : Addr} {vs ws : List Value} {c e : Nat} {Q : Value → Shared → Prop} (N : News h₀ L s.heap news) (h1 : (l, listOf vs.toArray c) ∈ news) (h2 : (b, listOf ws.toArray e) ∈ news) (hu : A.units < cLine) (hq : EqVs vs ws) (h : Q (.bool false) s) :
    wpAny (model prog w) A (compareOp .NotEq (.ref l) (.ref b)) Q E s := by
  refine PySem.SeqAt.RcNeAt.lists (e := fun _ => true) (News.isList N h1) (News.isList N h2) (by simp [hq.len]) hu (fun j j1 j2 => ?_) prog w E _ ?_
  · have := hq.get j (by simpa using j1) (by simpa using j2)
    simpa using this.at
  · have e : (!((List.range vs.toArray.size).all (fun _ => true))) = false := by simp
    rw [e]; exact h
theorem part_y {ys : List UInt8} : (ys.drop (0 : Int).toNat).take (((0 : Int) + (ys.length : Int)).toNat - (0 : Int).toNat) = ys := by
  show (ys.drop 0).take _ = ys
  rw [List.drop_zero]; exact List.take_of_length_le (by show _ ≤ ((0 : Int) + (ys.length : Int)).toNat - 0; omega)
theorem part_x {xs ys : List UInt8} {b : Int} (hy : xs.drop b.toNat = ys) (h : b = 0) : (xs.drop (0 : Int).toNat).take (((0 : Int) + (ys.length : Int)).toNat - (0 : Int).toNat) = ys := by
  subst h
  have e : xs = ys := hy
  subst e
  exact part_y
theorem drop_min {xs ys : List UInt8} {f back : Int} (hy : xs.drop back.toNat = ys) (h0 : 0 ≤ f ∧ f < 256) (hb : 0 ≤ back ∧ back ≤ 13) : xs.drop (min (((f + back) % 256 - f) % 256 - 0) (xs.length : Int)).toNat = ys := by
  have e : ((f + back) % 256 - f) % 256 - 0 = back := by omega
  rw [e, ← hy]
  rcases Int.le_total back xs.length with h | h
  · rw [Int.min_eq_left h]
  · rw [Int.min_eq_right h, List.drop_of_length_le (by omega), List.drop_of_length_le (by omega)]
end
end Mine
-- part Mak
namespace Mine
section
theorem ln1_fd24bf : True := by
  k_with_none
  k_with "callWith ref" => (k_here; (with_reducible rename Fr _ _ _ _ => kF); (with_reducible rename Frag.In _ _ => kX); first | ((with_reducible show wpAny _ _ (callWith _ _ _ (backTo _ (starEach [] _)) []) _ _ _); k_dflt (refine' callWith_K0 (Frag.In.keeps kX (Fr.keep kF)) ?k2w1 ?_; (case k2w1 => k_is); k_whole)) | ((with_reducible show wpAny _ _ (callWith _ _ _ (backTo _ (starEach (_ :: _) _)) []) _ _ _); k_dflt (refine' callWith_K kX ?k2w1 ?_; (case k2w1 => k_is); k_whole)))
  k_with "eval Name" => (k_here; (fail_if_success (with_reducible show wpAny _ _ (eval (Expr.Name _ _) (compEnvC _ _ _ _)) _ _ _)); k_dflt (first | (refine' nameX_L ?Fw2 ?vw2 ?_ ?aw2 ?bw2; (case bw2 => kernel_rfl!); (case aw2 => kernel_rfl!); (case Fw2 => k_asm); (case vw2 => rfl); k_whole) | (refine' nameX_K ?Fw2 ?Xw2 ?Tw2 ?ew2 ?_ ?aw2 ?bw2; (case bw2 => kernel_rfl!); (case aw2 => kernel_rfl!); (case Fw2 => k_asm); (case Xw2 => k_asm); (case Tw2 => k_asm); (case ew2 => k_is); k_whole) | (refine' nameX_B ?Fw2 ?Xw2 ?Tw2 ?ew2 ?vw2 ?nw2 ?_ ?aw2 ?bw2; (case bw2 => kernel_rfl!); (case aw2 => kernel_rfl!); (case Fw2 => k_asm); (case Xw2 => k_asm); (case Tw2 => k_asm); (case ew2 => k_is); (case vw2 => boot_fast); (case nw2 => decide); k_whole) | (refine' nameX_C ?Nw2 ?cw2 ?mw2 ?dw2 ?_ ?aw2 ?bw2; (case bw2 => kernel_rfl!); (case aw2 => kernel_rfl!); (case Nw2 => k_asm); (case cw2 => rfl); (case mw2 => k_mem); (case dw2 => k_asm); k_whole) | (refine' nameX_F ?Nw2 ?cw2 ?mw2 ?dw2 ?_ ?aw2 ?bw2; (case bw2 => kernel_rfl!); (case aw2 => kernel_rfl!); (case Nw2 => k_asm); (case cw2 => rfl); (case mw2 => k_mem); (case dw2 => k_asm); k_whole)))
  k_with "ord" => ((with_reducible rename DifO _ => hO9); (first | refine' hO9 0 _ _ _ rfl ?hbw3 ?hcw3 | refine' hO9 1 _ _ _ rfl ?hbw3 ?hcw3 | refine' hO9 2 _ _ _ rfl ?hbw3 ?hcw3 | refine' hO9 3 _ _ _ rfl ?hbw3 ?hcw3 | refine' hO9 4 _ _ _ rfl ?hbw3 ?hcw3 | refine' hO9 5 _ _ _ rfl ?hbw3 ?hcw3); (case hbw3 => first | exact (rfl : (_ : List Addr)[0]? = _) | exact (rfl : (_ : List Addr)[1]? = _) | exact (rfl : (_ : List Addr)[2]? = _) | exact (rfl : (_ : List Addr)[3]? = _) | exact (rfl : (_ : List Addr)[4]? = _) | exact (rfl : (_ : List Addr)[5]? = _)); (case hcw3 => exact rfl))
  k_with "nst" => ((with_reducible show wpAny _ _ _ _ _ (Shared.mk _ _ _ _ _)); refine' nst ?kew4 ?_; (case kew4 => (dsimp only; exact rfl)))
  k_with "all" => (first | exact neNil | (refine' neC ?aw5 ?bw5; (case aw5 => k_ne); (case bw5 => k_all)))
  k_with "room" => (first | exact room_ (by assumption) (by exact rfl) | exact room0 (by assumption) (by exact rfl) | ((try simp only [depth_under_make, depth_under_kw, depth_in1, depth_deeper, depth_caller]); (try dsimp only [ktrTop]); omega))
  k_with "units" => (first | exact room_ (by assumption) (by exact rfl) | exact room0 (by assumption) (by exact rfl) | ((try simp only [units_in1, units_deeper, Around.mark_units, units_caller]); (try dsimp only [ktrTop]); omega))
  k_with "execs cons" => ((first | (with_reducible refine execs_T ?_; intro tk) | refine wpAny_execs_cons ?_); (try k_fold))
  k_with "getAttr ref" => (k_here; k_dflt (refine' oget ?k1w9 ?k2w9 ?k3w9 ?k4w9 ?k5w9 ?k6w9 ?k7w9 ?k8w9 ?k9w9 ?_; (case k1w9 => k_asm); (case k2w9 => k_asm); (case k3w9 => k_inst); (case k4w9 => k_is); (case k5w9 => k_is); (case k6w9 => k_is); (case k7w9 => k_is); (case k8w9 => k_get); (case k9w9 => k_handed); k_whole))
  k_with "storeName" => (k_here; k_dflt (refine' ostore ?kFw10 ?kNw10 ?_ ?kaw10 ?kbw10; (case kaw10 => rfl); (case kbw10 => rfl); (case kFw10 => k_asm); (case kNw10 => k_asm); k_whole; intro h' m9 F' N'; (try k_sweep)))
  k_with "eval Constant int" => (refine cint ?_)
  k_with "eval Constant bytes" => (refine cbytes ?_)
  k_with "binaryOp Mod int int" => (k_here; (with_reducible refine mod_pos ?kbw13 ?_); (case kbw13 => omega); intro t' tk')
  k_with "binaryOp FloorDiv int int" => (k_here; (with_reducible refine div_pos ?kbw14 ?kpw14 ?_); (case kbw14 => omega); (case kpw14 => omega); intro t' tk')
  k_with "binaryOp Mult int int" => (k_here; (with_reducible refine mul_small ?kbw15 ?_); (case kbw15 => omega); intro t' tk')
  k_with "subscriptTail Name Constant ref int" => (k_here; (with_reducible show wpAny _ _ (subscriptTail _ _ (Value.ref _) (Value.int _ _)) _ _ _); k_dflt (first | ((with_reducible show wpAny _ _ (subscriptTail _ _ (Value.ref _) (Value.int 0 _)) _ _ _); refine' item_0 ?Nw16 ?mw16 ?_ ?hsw16; (case Nw16 => k_asm); (case mw16 => k_mem); (case hsw16 => with_unfolding_all rfl); k_whole) | ((with_reducible show wpAny _ _ (subscriptTail _ _ (Value.ref _) (Value.int 1 _)) _ _ _); refine' item_1 ?Nw16 ?mw16 ?_ ?hsw16; (case Nw16 => k_asm); (case mw16 => k_mem); (case hsw16 => with_unfolding_all rfl); k_whole)))
  k_with "compareOp Eq int int" => (k_here; first | (with_reducible refine ceq_t ?chw17 ?_; (case chw17 => omega)) | (with_reducible refine ceq_f ?chw17 ?_; (case chw17 => omega)))
  k_with "compareOp NotEq int int" => (k_here; first | (with_reducible refine cne_t ?chw18 ?_; (case chw18 => omega)) | (with_reducible refine cne_f ?chw18 ?_; (case chw18 => omega)))
  k_with "compareOp Lt int int" => (k_here; first | (with_reducible refine clt_t ?chw19 ?_; (case chw19 => omega)) | (with_reducible refine clt_f ?chw19 ?_; (case chw19 => omega)))
  k_with "compareOp LtE int int" => (k_here; first | (with_reducible refine cle_t ?chw20 ?_; (case chw20 => omega)) | (with_reducible refine cle_f ?chw20 ?_; (case chw20 => omega)))
  k_with "compareOp Gt int int" => (k_here; first | (with_reducible refine cgt_t ?chw21 ?_; (case chw21 => omega)) | (with_reducible refine cgt_f ?chw21 ?_; (case chw21 => omega)))
  k_with "compareOp GtE int int" => (k_here; first | (with_reducible refine cge_t ?chw22 ?_; (case chw22 => omega)) | (with_reducible refine cge_f ?chw22 ?_; (case chw22 => omega)))
  k_with "call type:int" => (k_here; (with_reducible show wpAny _ _ (call (Value.type "int") [Value.bool _]) _ _ _); (first | (with_reducible refine int_bf ?_) | (with_reducible refine int_bt ?_) | (with_reducible refine int_bb (by assumption) ?_)); intro t' tk')
  k_with "call builtin:max" => (k_here; (with_reducible show wpAny _ _ (call (Value.builtin _) [Value.int _ _, Value.int _ _]) _ _ _); k_dflt (refine' max2 ?hhw24 ?k1w24 ?k2w24 ?k3w24 ?_; (case hhw24 => with_unfolding_all rfl); (case k1w24 => k_asm); (case k2w24 => k_asm); (case k3w24 => first | exact (Int.max_eq_left (by omega)).symm | exact (Int.max_eq_right (by omega)).symm | exact rfl); k_whole); intro t' h' tk' F' N'; (try k_sweep))
  k_with "call builtin:min" => (k_here; (with_reducible show wpAny _ _ (call (Value.builtin _) [Value.int _ _, Value.int _ _]) _ _ _); k_dflt (refine' min2 ?hhw25 ?k1w25 ?k2w25 ?k3w25 ?_; (case hhw25 => with_unfolding_all rfl); (case k1w25 => k_asm); (case k2w25 => k_asm); (case k3w25 => first | exact (Int.min_eq_left (by omega)).symm | exact (Int.min_eq_right (by omega)).symm | exact rfl); k_whole); intro t' h' tk' F' N'; (try k_sweep))
  k_with "call builtin:min" => (k_here; (with_reducible show wpAny _ _ (call (Value.builtin _) [Value.int _ _, Value.int _ _, Value.int _ _]) _ _ _); k_dflt (refine' min3 ?hhw26 ?k1w26 ?k2w26 ?k3w26 ?_; (case hhw26 => with_unfolding_all rfl); (case k1w26 => k_asm); (case k2w26 => k_asm); (case k3w26 => first | exact m3a (by omega) | exact m3b (by omega) | exact m3c (by omega) | exact rfl); k_whole); intro t' h' tk' F' N'; (try k_sweep))
  trivial
theorem ln2_fd24bf : True := by
  k_with "klt" => (skip)
  k_with "ne" => (refine neN ?_; (try dsimp only); first | exact Dif.l (by with_reducible assumption) | exact Dif.r (by with_reducible assumption) | (k_extra "ord") | omega)
  trivial
section
variable {w : World} {C fI : Addr} {pos : List Value} {D U : Nat}
    {loose : List Str} {mean : ExcName → Option Value} {mg mb : Str → Option Value} {dp un : Nat} {gd : Option (List Code)} {cn : Str} {cs : Scope} {ad : Addr} {ccd : Value} {cl : List (Str × Addr)} {outer : List Env} {A₀ : Around} {base h₀ : Heap} {L : Addr} {m : Str → Option Value} {news : List (Addr × Obj)} {Q E : Value → Shared → Prop}
    {hp : Heap} {gn : Array GenState} {dr : Drawn} {nk : Nat} {os : OsState}
theorem under_make : (ktrTop dp un gd cn cs L ad ccd cl outer).under (.builtin "type.__call__" ⟨.ref C :: pos, []⟩) = ktrTop (dp + 1) (un + 1) (pushGuards (Code.guards (.builtin "type.__call__" ⟨.ref C :: pos, []⟩)) gd) cn cs L ad ccd cl outer := rfl
/-- an object made by the contract of its `__init__` -/
theorem make_ctr {α : Addr → Addr → Type} {rel' : ∀ x dx : Addr, α x dx → List (Addr × Obj)} (CI : ∀ x dx, @LT.lt Nat _ dx x → Ctr w fI (.ref x :: pos) [(dx, dictOf [] 0), (x, instObj C dx)] D U (fun v n' => ∃ t : α x dx, v = (fun _ => .none) t ∧ n' = rel' x dx t))
    (B : Below A₀ base outer h₀) (F : Fr h₀ L hp m) (X : (hok.heap_1 w.params).In h₀) (N : News h₀ L hp news) (T : Top topProg loose mean mg mb h₀) (hk : cs.kind = .function)
    (hm : makesIn (hok.heap_1 w.params) C = true) (hi : findIn (hok.heap_1 w.params) (.ref C) "__init__" = some (some (.ref fI))) (hf : isFn (hok.heap_1 w.params) (.ref fI) = true)
    (hd1 : dp + (1 + D) < recursionLimit) (hu : un + (1 + U) < cLine)
    (h : ∀ x dx t h' tk', AllLt dx news → @LT.lt Nat _ dx x → Fr h₀ L h' m → News h₀ L h' (rel' x dx t ++ news) → DifAll news (rel' x dx t) → Q (.ref x) ⟨h', gn, dr, tk', os⟩) :
    wpAny (model PySem.Challenge.rw_qz0162_01.row.prog w) (ktrTop dp un gd cn cs L ad ccd cl outer) (call (.ref C) pos) Q E ⟨hp, gn, dr, nk, os⟩ := by
  refine call_cls F X N hm hi hf fun x dx h₁ F₁ N₁ l1 l2 => ?_
  rw [under_make]
  refine use_codeC (s := ⟨h₁, gn, dr, nk, os⟩) (fun Rr a b c => CI x dx l2 loose mean mg mb (dp + 1) (un + 1) _ cn cs ad ccd cl outer base L _ Rr a b (by omega) (by omega) c) B F₁ X N₁ T hk (fun p hp => ?_) fun v n' h' tk' F' N' hr hP => ?_
  · rcases List.mem_cons.mp hp with rfl | hp
    · exact .tail _ (.head _)
    · rcases List.mem_cons.mp hp with rfl | hp
      · exact .head _
      · cases hp
  · obtain ⟨t, rfl, rfl⟩ := hP
    have off : ∀ p ∈ news, ∀ q ∈ [(dx, dictOf [] 0), (x, instObj C dx)], p.1 ≠ q.1 := fun p hp q hq e => by
      have l3 := l1 p hp
      rcases List.mem_cons.mp hq with rfl | hq
      · rw [e] at l3; exact Nat.lt_irrefl _ l3
      · rcases List.mem_cons.mp hq with rfl | hq
        · rw [e] at l3; exact Nat.lt_irrefl _ (Nat.lt_trans l2 l3)
        · cases hq
    refine ⟨rfl, h x dx t h' tk' (allLt_of l1) l2 F' (fun p hp => ?_) (difAll_of fun p hp q hq => (hr p (.tail _ (.tail _ hp)) (off p hp)).2 q hq)⟩
    rcases List.mem_append.mp hp with hp | hp
    · exact N' p hp
    · exact (hr p (.tail _ (.tail _ hp)) (off p hp)).1
end
end
end Mine
-- part Ini
namespace Mine
section
theorem ln1_d516d8 : True := by
  k_with_none
  k_with "callWith ref" => (k_here; (with_reducible rename Fr _ _ _ _ => kF); (with_reducible rename Frag.In _ _ => kX); first | ((with_reducible show wpAny _ _ (callWith _ _ _ (backTo _ (starEach [] _)) []) _ _ _); k_dflt (refine' callWith_K0 (Frag.In.keeps kX (Fr.keep kF)) ?k2w1 ?_; (case k2w1 => k_is); k_whole)) | ((with_reducible show wpAny _ _ (callWith _ _ _ (backTo _ (starEach (_ :: _) _)) []) _ _ _); k_dflt (refine' callWith_K kX ?k2w1 ?_; (case k2w1 => k_is); k_whole)))
  k_with "eval Name" => (k_here; (fail_if_success (with_reducible show wpAny _ _ (eval (Expr.Name _ _) (compEnvC _ _ _ _)) _ _ _)); k_dflt (first | (refine' nameX_L ?Fw2 ?vw2 ?_ ?aw2 ?bw2; (case bw2 => kernel_rfl!); (case aw2 => kernel_rfl!); (case Fw2 => k_asm); (case vw2 => rfl); k_whole) | (refine' nameX_K ?Fw2 ?Xw2 ?Tw2 ?ew2 ?_ ?aw2 ?bw2; (case bw2 => kernel_rfl!); (case aw2 => kernel_rfl!); (case Fw2 => k_asm); (case Xw2 => k_asm); (case Tw2 => k_asm); (case ew2 => k_is); k_whole) | (refine' nameX_B ?Fw2 ?Xw2 ?Tw2 ?ew2 ?vw2 ?nw2 ?_ ?aw2 ?bw2; (case bw2 => kernel_rfl!); (case aw2 => kernel_rfl!); (case Fw2 => k_asm); (case Xw2 => k_asm); (case Tw2 => k_asm); (case ew2 => k_is); (case vw2 => boot_fast); (case nw2 => decide); k_whole) | (refine' nameX_C ?Nw2 ?cw2 ?mw2 ?dw2 ?_ ?aw2 ?bw2; (case bw2 => kernel_rfl!); (case aw2 => kernel_rfl!); (case Nw2 => k_asm); (case cw2 => rfl); (case mw2 => k_mem); (case dw2 => k_asm); k_whole) | (refine' nameX_F ?Nw2 ?cw2 ?mw2 ?dw2 ?_ ?aw2 ?bw2; (case bw2 => kernel_rfl!); (case aw2 => kernel_rfl!); (case Nw2 => k_asm); (case cw2 => rfl); (case mw2 => k_mem); (case dw2 => k_asm); k_whole)))
  k_with "ord" => ((with_reducible rename DifO _ => hO9); (first | refine' hO9 0 _ _ _ rfl ?hbw3 ?hcw3 | refine' hO9 1 _ _ _ rfl ?hbw3 ?hcw3 | refine' hO9 2 _ _ _ rfl ?hbw3 ?hcw3 | refine' hO9 3 _ _ _ rfl ?hbw3 ?hcw3 | refine' hO9 4 _ _ _ rfl ?hbw3 ?hcw3 | refine' hO9 5 _ _ _ rfl ?hbw3 ?hcw3); (case hbw3 => first | exact (rfl : (_ : List Addr)[0]? = _) | exact (rfl : (_ : List Addr)[1]? = _) | exact (rfl : (_ : List Addr)[2]? = _) | exact (rfl : (_ : List Addr)[3]? = _) | exact (rfl : (_ : List Addr)[4]? = _) | exact (rfl : (_ : List Addr)[5]? = _)); (case hcw3 => exact rfl))
  k_with "nst" => ((with_reducible show wpAny _ _ _ _ _ (Shared.mk _ _ _ _ _)); refine' nst ?kew4 ?_; (case kew4 => (dsimp only; exact rfl)))
  k_with "all" => (first | exact neNil | (refine' neC ?aw5 ?bw5; (case aw5 => k_ne); (case bw5 => k_all)))
  k_with "room" => (first | exact room_ (by assumption) (by exact rfl) | exact room0 (by assumption) (by exact rfl) | ((try simp only [depth_under_make, depth_under_kw, depth_in1, depth_deeper, depth_caller]); (try dsimp only [ktrTop]); omega))
  k_with "units" => (first | exact room_ (by assumption) (by exact rfl) | exact room0 (by assumption) (by exact rfl) | ((try simp only [units_in1, units_deeper, Around.mark_units, units_caller]); (try dsimp only [ktrTop]); omega))
  k_with "execs cons" => ((first | (with_reducible refine execs_T ?_; intro tk) | refine wpAny_execs_cons ?_); (try k_fold))
  k_with "getAttr ref" => (k_here; k_dflt (refine' oget ?k1w9 ?k2w9 ?k3w9 ?k4w9 ?k5w9 ?k6w9 ?k7w9 ?k8w9 ?k9w9 ?_; (case k1w9 => k_asm); (case k2w9 => k_asm); (case k3w9 => k_inst); (case k4w9 => k_is); (case k5w9 => k_is); (case k6w9 => k_is); (case k7w9 => k_is); (case k8w9 => k_get); (case k9w9 => k_handed); k_whole))
  k_with "storeName" => (k_here; k_dflt (refine' ostore ?kFw10 ?kNw10 ?_ ?kaw10 ?kbw10; (case kaw10 => rfl); (case kbw10 => rfl); (case kFw10 => k_asm); (case kNw10 => k_asm); k_whole; intro h' m9 F' N'; (try k_sweep)))
  k_with "eval Constant int" => (refine cint ?_)
  k_with "eval Constant bytes" => (refine cbytes ?_)
  k_with "binaryOp Mod int int" => (k_here; (with_reducible refine mod_pos ?kbw13 ?_); (case kbw13 => omega); intro t' tk')
  k_with "binaryOp FloorDiv int int" => (k_here; (with_reducible refine div_pos ?kbw14 ?kpw14 ?_); (case kbw14 => omega); (case kpw14 => omega); intro t' tk')
  k_with "binaryOp Mult int int" => (k_here; (with_reducible refine mul_small ?kbw15 ?_); (case kbw15 => omega); intro t' tk')
  k_with "subscriptTail Name Constant ref int" => (k_here; (with_reducible show wpAny _ _ (subscriptTail _ _ (Value.ref _) (Value.int _ _)) _ _ _); k_dflt (first | ((with_reducible show wpAny _ _ (subscriptTail _ _ (Value.ref _) (Value.int 0 _)) _ _ _); refine' item_0 ?Nw16 ?mw16 ?_ ?hsw16; (case Nw16 => k_asm); (case mw16 => k_mem); (case hsw16 => with_unfolding_all rfl); k_whole) | ((with_reducible show wpAny _ _ (subscriptTail _ _ (Value.ref _) (Value.int 1 _)) _ _ _); refine' item_1 ?Nw16 ?mw16 ?_ ?hsw16; (case Nw16 => k_asm); (case mw16 => k_mem); (case hsw16 => with_unfolding_all rfl); k_whole)))
  k_with "compareOp Eq int int" => (k_here; first | (with_reducible refine ceq_t ?chw17 ?_; (case chw17 => omega)) | (with_reducible refine ceq_f ?chw17 ?_; (case chw17 => omega)))
  k_with "compareOp NotEq int int" => (k_here; first | (with_reducible refine cne_t ?chw18 ?_; (case chw18 => omega)) | (with_reducible refine cne_f ?chw18 ?_; (case chw18 => omega)))
  k_with "compareOp Lt int int" => (k_here; first | (with_reducible refine clt_t ?chw19 ?_; (case chw19 => omega)) | (with_reducible refine clt_f ?chw19 ?_; (case chw19 => omega)))
  k_with "compareOp LtE int int" => (k_here; first | (with_reducible refine cle_t ?chw20 ?_; (case chw20 => omega)) | (with_reducible refine cle_f ?chw20 ?_; (case chw20 => omega)))
  k_with "compareOp Gt int int" => (k_here; first | (with_reducible refine cgt_t ?chw21 ?_; (case chw21 => omega)) | (with_reducible refine cgt_f ?chw21 ?_; (case chw21 => omega)))
  k_with "compareOp GtE int int" => (k_here; first | (with_reducible refine cge_t ?chw22 ?_; (case chw22 => omega)) | (with_reducible refine cge_f ?chw22 ?_; (case chw22 => omega)))
  k_with "call type:int" => (k_here; (with_reducible show wpAny _ _ (call (Value.type "int") [Value.bool _]) _ _ _); (first | (with_reducible refine int_bf ?_) | (with_reducible refine int_bt ?_) | (with_reducible refine int_bb (by assumption) ?_)); intro t' tk')
  k_with "call builtin:max" => (k_here; (with_reducible show wpAny _ _ (call (Value.builtin _) [Value.int _ _, Value.int _ _]) _ _ _); k_dflt (refine' max2 ?hhw24 ?k1w24 ?k2w24 ?k3w24 ?_; (case hhw24 => with_unfolding_all rfl); (case k1w24 => k_asm); (case k2w24 => k_asm); (case k3w24 => first | exact (Int.max_eq_left (by omega)).symm | exact (Int.max_eq_right (by omega)).symm | exact rfl); k_whole); intro t' h' tk' F' N'; (try k_sweep))
  k_with "call builtin:min" => (k_here; (with_reducible show wpAny _ _ (call (Value.builtin _) [Value.int _ _, Value.int _ _]) _ _ _); k_dflt (refine' min2 ?hhw25 ?k1w25 ?k2w25 ?k3w25 ?_; (case hhw25 => with_unfolding_all rfl); (case k1w25 => k_asm); (case k2w25 => k_asm); (case k3w25 => first | exact (Int.min_eq_left (by omega)).symm | exact (Int.min_eq_right (by omega)).symm | exact rfl); k_whole); intro t' h' tk' F' N'; (try k_sweep))
  k_with "call builtin:min" => (k_here; (with_reducible show wpAny _ _ (call (Value.builtin _) [Value.int _ _, Value.int _ _, Value.int _ _]) _ _ _); k_dflt (refine' min3 ?hhw26 ?k1w26 ?k2w26 ?k3w26 ?_; (case hhw26 => with_unfolding_all rfl); (case k1w26 => k_asm); (case k2w26 => k_asm); (case k3w26 => first | exact m3a (by omega) | exact m3b (by omega) | exact m3c (by omega) | exact rfl); k_whole); intro t' h' tk' F' N'; (try k_sweep))
  trivial
theorem ln2_d516d8 : True := by
  k_with "klt" => (skip)
  k_with "ne" => (refine neN ?_; (try dsimp only); first | exact Dif.l (by with_reducible assumption) | exact Dif.r (by with_reducible assumption) | (k_extra "ord") | omega)
  k_with "call builtin:len" => (k_here; (with_reducible show wpAny _ _ (call (Value.builtin "len") [Value.bytes (List.toArray _) _]) _ _ _); (refine blen ?kzw29 ?_); (case kzw29 => first | omega | decide); intro t' tk'; (try simp only [List.length_nil]))
  k_with "call type:bytes" => (k_here; (with_reducible show wpAny _ _ (call (Value.type "bytes") [Value.bytes _ _]) _ _ _); (refine bb_call ?_))
  k_with "binaryOp Add bytes bytes" => (k_here; (with_reducible show wpAny _ _ (binaryOp Operator.Add (Value.bytes _ _) (Value.bytes (List.toArray _) _)) _ _ _); (refine badd0 ?kzw31 ?_); (case kzw31 => omega); intro t' tk')
  k_with "subscriptTail Name Slice bytes ref" => (k_here; (with_reducible show wpAny _ _ (subscriptTail _ (Expr.Slice _ _ none _) (Value.bytes _ _) (Value.ref _)) _ _ _); (with_reducible rename Fr _ _ _ _ => F'); (with_reducible rename News _ _ _ _ => N'); (refine' bslice (s := ⟨_, _, _, _, _⟩) F' N' ?klw32 ?kuw32 ?kzw32 ?kew32 ?_ ?ksw32 ?ktw32; (case klw32 => constructor); (case kuw32 => constructor); (case ksw32 => with_unfolding_all rfl); (case ktw32 => intro _; with_unfolding_all rfl); (case kzw32 => first | with_reducible assumption | omega); (case kew32 => first | exact b_all (by omega) | exact b_to (by omega) | exact (b_from (by first | with_reducible assumption | omega)).trans (by assumption) | exact b_from (by first | with_reducible assumption | omega) | exact b_mid (by omega) (by omega) (by omega)); k_whole); intro t' h' tk' F' N')
  k_with "subscriptTail Attribute Slice bytes ref" => (k_here; (with_reducible show wpAny _ _ (subscriptTail _ (Expr.Slice _ _ none _) (Value.bytes _ _) (Value.ref _)) _ _ _); (with_reducible rename Fr _ _ _ _ => F'); (with_reducible rename News _ _ _ _ => N'); (refine' bslice (s := ⟨_, _, _, _, _⟩) F' N' ?klw33 ?kuw33 ?kzw33 ?kew33 ?_ ?ksw33 ?ktw33; (case klw33 => constructor); (case kuw33 => constructor); (case ksw33 => with_unfolding_all rfl); (case ktw33 => intro _; with_unfolding_all rfl); (case kzw33 => first | with_reducible assumption | omega); (case kew33 => first | exact b_all (by omega) | exact b_to (by omega) | exact (b_from (by first | with_reducible assumption | omega)).trans (by assumption) | exact b_from (by first | with_reducible assumption | omega) | exact b_mid (by omega) (by omega) (by omega)); k_whole); intro t' h' tk' F' N')
  trivial
structure IniP where
  K : PTk
  d1 : Tok
  d2 : Tok
  d4 : Tok
structure IniQ where
  K : QTk
  g1 : Tok
structure IniS (xd x : Addr) where
  p : Addr
  pd : Addr
  q : Addr
  qd : Addr
  K1 : STk
  K2 : PTk
  K3 : QTk
  b3 : Tok
  b4 : Tok
  b5 : Tok
  d1 : Tok
  d2 : Tok
  d4 : Tok
  g1 : Tok
  ho : LtH xd x ∧ LtH x pd ∧ LtH pd p ∧ LtH p qd ∧ LtH qd q
theorem c_initP {w : World} {x dx : Addr} {tr : Tok} (hx : @LT.lt Nat _ dx x) :
    Ctr w 163 [.ref x, .int 256 tr] [(dx, dictOf [] 0), (x, instObj 187 dx)] 1 20 (fun v n' => ∃ t : IniP, v = (fun _ => .none) t ∧ n' = [(dx, dictOf (peerE w t.K 0 t.d1 0 t.d2 .none (.int 0 t.d4)) 5), (x, instObj 187 dx)]) := by
  intro loose mean mg mb dp un gd cn cs ad ccd cl outer base L s Rr H0 hH hd1 hu hret
  obtain ⟨B, X, T⟩ := H0
  try have hO9 := difO_of ho
  try have hO9 := difO4 ho
  try have hO9 := difO2 ho
  generalize hg : hideAll s.heap (List.map Prod.fst _) = g at *
  replace hg := hg.symm
  revert X; k_fill; intro X
  k_dflt (
    refine' code_ctr ?k1 ?kg ?k3 ?k5 ?kH ?k6 ?k7 ?k8 ?k9 ?kB ?_ ?c2 ?c3 ?c4 ?c5
    (case kg => exact hg)
    (case k1 => assumption)
    (case k3 => assumption)
    (case k5 => assumption)
    (case kH => assumption)
    (case k6 => k_is)
    (case k7 => k_is)
    (case k8 => ktr_room)
    (case k9 => first | exact BindsTo.of_eq rfl | exact binds_K (Frag.In.keeps X (by rw [hg]; exact fun b o e => of_hideAll _ e)) rfl (by k_is) rfl rfl rfl)
    (case c5 => decide)
    (case kB => exact locs rfl)
    (case c2 => exact rfl)
    (case c3 => exact rfl)
    (case c4 => exact rfl)
    k_whole
    intro L' h' F' N'
    (try dsimp only)
    (refine A_let ?_; intro A9; have dA9 : A9.depth = dp + 1 := rfl; have uA9 : A9.units = un + 3 := rfl)
    (try k_fold)
    (refine fr_let F' ?_; clear F'; intro m9 F'))
  (repeat' (first | (k_extra "nst") | (k_unfold; (try dsimp only)) | (k_end; kc_close) | walk1 | (dsimp only; walk1) | (leave1; walk_say "STEP leave1"; (try dsimp only)) | fail "no step"))
  all_goals (refine' end_u (s := s) hret (IniP.mk (PTk.mk _ _ _ _ _ _) _ _ _) rfl (by assumption) (by assumption) (by exact fun _ hp => hp))
theorem c_initQ {w : World} {x dx : Addr} {rm : Int} {tr : Tok} (hx : @LT.lt Nat _ dx x) (hr : 1 ≤ rm) :
    Ctr w 79 [.ref x, .int rm tr] [(dx, dictOf [] 0), (x, instObj 117 dx)] 1 20 (fun v n' => ∃ t : IniQ, v = (fun _ => .none) t ∧ n' = [(dx, dictOf (queE w t.K rm (#[] : Array UInt8) t.g1) 2), (x, instObj 117 dx)]) := by
  intro loose mean mg mb dp un gd cn cs ad ccd cl outer base L s Rr H0 hH hd1 hu hret
  obtain ⟨B, X, T⟩ := H0
  try have hO9 := difO_of ho
  try have hO9 := difO4 ho
  try have hO9 := difO2 ho
  generalize hg : hideAll s.heap (List.map Prod.fst _) = g at *
  replace hg := hg.symm
  revert X; k_fill; intro X
  k_dflt (
    refine' code_ctr ?k1 ?kg ?k3 ?k5 ?kH ?k6 ?k7 ?k8 ?k9 ?kB ?_ ?c2 ?c3 ?c4 ?c5
    (case kg => exact hg)
    (case k1 => assumption)
    (case k3 => assumption)
    (case k5 => assumption)
    (case kH => assumption)
    (case k6 => k_is)
    (case k7 => k_is)
    (case k8 => ktr_room)
    (case k9 => first | exact BindsTo.of_eq rfl | exact binds_K (Frag.In.keeps X (by rw [hg]; exact fun b o e => of_hideAll _ e)) rfl (by k_is) rfl rfl rfl)
    (case c5 => decide)
    (case kB => exact locs rfl)
    (case c2 => exact rfl)
    (case c3 => exact rfl)
    (case c4 => exact rfl)
    k_whole
    intro L' h' F' N'
    (try dsimp only)
    (refine A_let ?_; intro A9; have dA9 : A9.depth = dp + 1 := rfl; have uA9 : A9.units = un + 3 := rfl)
    (try k_fold)
    (refine fr_let F' ?_; clear F'; intro m9 F'))
  (repeat' (first | (k_extra "nst") | (k_unfold; (try dsimp only)) | (k_end; kc_close) | walk1 | (dsimp only; walk1) | (leave1; walk_say "STEP leave1"; (try dsimp only)) | fail "no step"))
  all_goals (refine' end_u (s := s) hret (IniQ.mk (QTk.mk _ _ _) _) rfl (by assumption) (by assumption) (by exact fun _ hp => hp))
theorem ln3_d516d8 : True := by
  k_with "call ref" => (k_here; (with_reducible show wpAny _ _ (call (Value.ref 187) [Value.int _ _]) _ _ _); k_dflt (refine' make_ctr (fun x dx hl => c_initP hl) ?kBw34 ?kFw34 ?kXw34 ?kNw34 ?kTw34 ?kkw34 ?kmw34 ?kiw34 ?kfw34 ?kdw34 ?kuw34 ?_; (case kBw34 => k_asm); (case kFw34 => k_asm); (case kXw34 => k_asm); (case kNw34 => k_asm); (case kTw34 => k_asm); (case kkw34 => first | exact rfl | assumption); (case kmw34 => k_is); (case kiw34 => k_is); (case kfw34 => k_is); (case kdw34 => ktr_room); (case kuw34 => ktr_units); k_whole); intro x' dx' ⟨K', d1', d2', d4'⟩ h' tk' l1 l2 F' N' df'; (simp only [AllLt, and_true] at l1); (replace l2 := ltN l2); (try dsimp only at N' df'); (try simp only [List.cons_append, List.nil_append] at N' df'); (try simp only [DifAll, DifR] at df'); (repeat' (rename AndD _ _ => hc'; obtain ⟨_, _⟩ := hc')); (try k_sweep))
  k_with "call ref" => (k_here; (with_reducible show wpAny _ _ (call (Value.ref 117) [Value.int _ _]) _ _ _); k_dflt (refine' make_ctr (fun x dx hl => c_initQ hl (by omega)) ?kBw35 ?kFw35 ?kXw35 ?kNw35 ?kTw35 ?kkw35 ?kmw35 ?kiw35 ?kfw35 ?kdw35 ?kuw35 ?_; (case kBw35 => k_asm); (case kFw35 => k_asm); (case kXw35 => k_asm); (case kNw35 => k_asm); (case kTw35 => k_asm); (case kkw35 => first | exact rfl | assumption); (case kmw35 => k_is); (case kiw35 => k_is); (case kfw35 => k_is); (case kdw35 => ktr_room); (case kuw35 => ktr_units); k_whole); intro x' dx' ⟨K', g1'⟩ h' tk' l1 l2 F' N' df'; (simp only [AllLt, and_true] at l1); (replace l2 := ltN l2); (try dsimp only at N' df'); (try simp only [List.cons_append, List.nil_append] at N' df'); (try simp only [DifAll, DifR] at df'); (repeat' (rename AndD _ _ => hc'; obtain ⟨_, _⟩ := hc')); (try k_sweep))
  trivial
theorem c_initS {w : World} {x xd : Addr} {is : Int} {ti tr tm to : Tok} (hx : @LT.lt Nat _ xd x) :
    Ctr w 205 [.ref x, .int is ti, .int 256 tr, .int 4 tm, .int 20 to] [(xd, dictOf [] 0), (x, instObj 378 xd)] 3 60 (fun v n' => ∃ t : IniS xd x, v = (fun _ => .none) t ∧ n' = [(t.qd, dictOf (queE w t.K3 20 (#[] : Array UInt8) t.g1) 2), (t.q, instObj 117 t.qd), (t.pd, dictOf (peerE w t.K2 0 t.d1 0 t.d2 (.none) (.int 0 t.d4)) 5), (t.p, instObj 187 t.pd), (xd, dictOf (sndE w t.K1 t.p t.q is is is is true false false t.b3 t.b4 t.b5) 11), (x, instObj 378 xd)]) := by
  intro loose mean mg mb dp un gd cn cs ad ccd cl outer base L s Rr H0 hH hd1 hu hret
  obtain ⟨B, X, T⟩ := H0
  try have hO9 := difO_of ho
  try have hO9 := difO4 ho
  try have hO9 := difO2 ho
  generalize hg : hideAll s.heap (List.map Prod.fst _) = g at *
  replace hg := hg.symm
  revert X; k_fill; intro X
  k_dflt (
    refine' code_ctr ?k1 ?kg ?k3 ?k5 ?kH ?k6 ?k7 ?k8 ?k9 ?kB ?_ ?c2 ?c3 ?c4 ?c5
    (case kg => exact hg)
    (case k1 => assumption)
    (case k3 => assumption)
    (case k5 => assumption)
    (case kH => assumption)
    (case k6 => k_is)
    (case k7 => k_is)
    (case k8 => ktr_room)
    (case k9 => first | exact BindsTo.of_eq rfl | exact binds_K (Frag.In.keeps X (by rw [hg]; exact fun b o e => of_hideAll _ e)) rfl (by k_is) rfl rfl rfl)
    (case c5 => decide)
    (case kB => exact locs rfl)
    (case c2 => exact rfl)
    (case c3 => exact rfl)
    (case c4 => exact rfl)
    k_whole
    intro L' h' F' N'
    (try dsimp only)
    (refine A_let ?_; intro A9; have dA9 : A9.depth = dp + 1 := rfl; have uA9 : A9.units = un + 3 := rfl)
    (try k_fold)
    (refine fr_let F' ?_; clear F'; intro m9 F'))
  (repeat' (first | (k_extra "nst") | (k_unfold; (try dsimp only)) | (k_end; kc_close) | walk1 | (dsimp only; walk1) | (leave1; walk_say "STEP leave1"; (try dsimp only)) | fail "no step"))
  all_goals (refine' end_u (s := s) hret (IniS.mk _ _ _ _ (STk.mk _ _ _ _ _ _ _ _ _ _ _ _ _ _) _ _ _ _ _ _ _ _ _ ?ho) rfl (by assumption) (by assumption) (by exact fun _ hp => hp))
  all_goals exact ⟨ltN (by omega), ltN (by omega), ltN (by omega), ltN (by omega), ltN (by omega)⟩
end
end Mine
-- part C3
namespace Mine
section
theorem ln1_0221d2 : True := by
  k_with_none
  k_with "callWith ref" => (k_here; (with_reducible rename Fr _ _ _ _ => kF); (with_reducible rename Frag.In _ _ => kX); first | ((with_reducible show wpAny _ _ (callWith _ _ _ (backTo _ (starEach [] _)) []) _ _ _); k_dflt (refine' callWith_K0 (Frag.In.keeps kX (Fr.keep kF)) ?k2w1 ?_; (case k2w1 => k_is); k_whole)) | ((with_reducible show wpAny _ _ (callWith _ _ _ (backTo _ (starEach (_ :: _) _)) []) _ _ _); k_dflt (refine' callWith_K kX ?k2w1 ?_; (case k2w1 => k_is); k_whole)))
  k_with "eval Name" => (k_here; (fail_if_success (with_reducible show wpAny _ _ (eval (Expr.Name _ _) (compEnvC _ _ _ _)) _ _ _)); k_dflt (first | (refine' nameX_L ?Fw2 ?vw2 ?_ ?aw2 ?bw2; (case bw2 => kernel_rfl!); (case aw2 => kernel_rfl!); (case Fw2 => k_asm); (case vw2 => rfl); k_whole) | (refine' nameX_K ?Fw2 ?Xw2 ?Tw2 ?ew2 ?_ ?aw2 ?bw2; (case bw2 => kernel_rfl!); (case aw2 => kernel_rfl!); (case Fw2 => k_asm); (case Xw2 => k_asm); (case Tw2 => k_asm); (case ew2 => k_is); k_whole) | (refine' nameX_B ?Fw2 ?Xw2 ?Tw2 ?ew2 ?vw2 ?nw2 ?_ ?aw2 ?bw2; (case bw2 => kernel_rfl!); (case aw2 => kernel_rfl!); (case Fw2 => k_asm); (case Xw2 => k_asm); (case Tw2 => k_asm); (case ew2 => k_is); (case vw2 => boot_fast); (case nw2 => decide); k_whole) | (refine' nameX_C ?Nw2 ?cw2 ?mw2 ?dw2 ?_ ?aw2 ?bw2; (case bw2 => kernel_rfl!); (case aw2 => kernel_rfl!); (case Nw2 => k_asm); (case cw2 => rfl); (case mw2 => k_mem); (case dw2 => k_asm); k_whole) | (refine' nameX_F ?Nw2 ?cw2 ?mw2 ?dw2 ?_ ?aw2 ?bw2; (case bw2 => kernel_rfl!); (case aw2 => kernel_rfl!); (case Nw2 => k_asm); (case cw2 => rfl); (case mw2 => k_mem); (case dw2 => k_asm); k_whole)))
  k_with "ord" => ((with_reducible rename DifO _ => hO9); (first | refine' hO9 0 _ _ _ rfl ?hbw3 ?hcw3 | refine' hO9 1 _ _ _ rfl ?hbw3 ?hcw3 | refine' hO9 2 _ _ _ rfl ?hbw3 ?hcw3 | refine' hO9 3 _ _ _ rfl ?hbw3 ?hcw3 | refine' hO9 4 _ _ _ rfl ?hbw3 ?hcw3 | refine' hO9 5 _ _ _ rfl ?hbw3 ?hcw3); (case hbw3 => first | exact (rfl : (_ : List Addr)[0]? = _) | exact (rfl : (_ : List Addr)[1]? = _) | exact (rfl : (_ : List Addr)[2]? = _) | exact (rfl : (_ : List Addr)[3]? = _) | exact (rfl : (_ : List Addr)[4]? = _) | exact (rfl : (_ : List Addr)[5]? = _)); (case hcw3 => exact rfl))
  k_with "nst" => ((with_reducible show wpAny _ _ _ _ _ (Shared.mk _ _ _ _ _)); refine' nst ?kew4 ?_; (case kew4 => (dsimp only; exact rfl)))
  k_with "all" => (first | exact neNil | (refine' neC ?aw5 ?bw5; (case aw5 => k_ne); (case bw5 => k_all)))
  k_with "room" => (first | exact room_ (by assumption) (by exact rfl) | exact room0 (by assumption) (by exact rfl) | ((try simp only [depth_under_make, depth_under_kw, depth_in1, depth_deeper, depth_caller]); (try dsimp only [ktrTop]); omega))
  k_with "units" => (first | exact room_ (by assumption) (by exact rfl) | exact room0 (by assumption) (by exact rfl) | ((try simp only [units_in1, units_deeper, Around.mark_units, units_caller]); (try dsimp only [ktrTop]); omega))
  k_with "execs cons" => ((first | (with_reducible refine execs_T ?_; intro tk) | refine wpAny_execs_cons ?_); (try k_fold))
  k_with "getAttr ref" => (k_here; k_dflt (refine' oget ?k1w9 ?k2w9 ?k3w9 ?k4w9 ?k5w9 ?k6w9 ?k7w9 ?k8w9 ?k9w9 ?_; (case k1w9 => k_asm); (case k2w9 => k_asm); (case k3w9 => k_inst); (case k4w9 => k_is); (case k5w9 => k_is); (case k6w9 => k_is); (case k7w9 => k_is); (case k8w9 => k_get); (case k9w9 => k_handed); k_whole))
  k_with "storeName" => (k_here; k_dflt (refine' ostore ?kFw10 ?kNw10 ?_ ?kaw10 ?kbw10; (case kaw10 => rfl); (case kbw10 => rfl); (case kFw10 => k_asm); (case kNw10 => k_asm); k_whole; intro h' m9 F' N'; (try k_sweep)))
  k_with "eval Constant int" => (refine cint ?_)
  k_with "eval Constant bytes" => (refine cbytes ?_)
  k_with "binaryOp Mod int int" => (k_here; (with_reducible refine mod_pos ?kbw13 ?_); (case kbw13 => omega); intro t' tk')
  k_with "binaryOp FloorDiv int int" => (k_here; (with_reducible refine div_pos ?kbw14 ?kpw14 ?_); (case kbw14 => omega); (case kpw14 => omega); intro t' tk')
  k_with "binaryOp Mult int int" => (k_here; (with_reducible refine mul_small ?kbw15 ?_); (case kbw15 => omega); intro t' tk')
  k_with "subscriptTail Name Constant ref int" => (k_here; (with_reducible show wpAny _ _ (subscriptTail _ _ (Value.ref _) (Value.int _ _)) _ _ _); k_dflt (first | ((with_reducible show wpAny _ _ (subscriptTail _ _ (Value.ref _) (Value.int 0 _)) _ _ _); refine' item_0 ?Nw16 ?mw16 ?_ ?hsw16; (case Nw16 => k_asm); (case mw16 => k_mem); (case hsw16 => with_unfolding_all rfl); k_whole) | ((with_reducible show wpAny _ _ (subscriptTail _ _ (Value.ref _) (Value.int 1 _)) _ _ _); refine' item_1 ?Nw16 ?mw16 ?_ ?hsw16; (case Nw16 => k_asm); (case mw16 => k_mem); (case hsw16 => with_unfolding_all rfl); k_whole)))
  k_with "compareOp Eq int int" => (k_here; first | (with_reducible refine ceq_t ?chw17 ?_; (case chw17 => omega)) | (with_reducible refine ceq_f ?chw17 ?_; (case chw17 => omega)))
  k_with "compareOp NotEq int int" => (k_here; first | (with_reducible refine cne_t ?chw18 ?_; (case chw18 => omega)) | (with_reducible refine cne_f ?chw18 ?_; (case chw18 => omega)))
  k_with "compareOp Lt int int" => (k_here; first | (with_reducible refine clt_t ?chw19 ?_; (case chw19 => omega)) | (with_reducible refine clt_f ?chw19 ?_; (case chw19 => omega)))
  k_with "compareOp LtE int int" => (k_here; first | (with_reducible refine cle_t ?chw20 ?_; (case chw20 => omega)) | (with_reducible refine cle_f ?chw20 ?_; (case chw20 => omega)))
  k_with "compareOp Gt int int" => (k_here; first | (with_reducible refine cgt_t ?chw21 ?_; (case chw21 => omega)) | (with_reducible refine cgt_f ?chw21 ?_; (case chw21 => omega)))
  k_with "compareOp GtE int int" => (k_here; first | (with_reducible refine cge_t ?chw22 ?_; (case chw22 => omega)) | (with_reducible refine cge_f ?chw22 ?_; (case chw22 => omega)))
  k_with "call type:int" => (k_here; (with_reducible show wpAny _ _ (call (Value.type "int") [Value.bool _]) _ _ _); (first | (with_reducible refine int_bf ?_) | (with_reducible refine int_bt ?_) | (with_reducible refine int_bb (by assumption) ?_)); intro t' tk')
  k_with "call builtin:max" => (k_here; (with_reducible show wpAny _ _ (call (Value.builtin _) [Value.int _ _, Value.int _ _]) _ _ _); k_dflt (refine' max2 ?hhw24 ?k1w24 ?k2w24 ?k3w24 ?_; (case hhw24 => with_unfolding_all rfl); (case k1w24 => k_asm); (case k2w24 => k_asm); (case k3w24 => first | exact (Int.max_eq_left (by omega)).symm | exact (Int.max_eq_right (by omega)).symm | exact rfl); k_whole); intro t' h' tk' F' N'; (try k_sweep))
  k_with "call builtin:min" => (k_here; (with_reducible show wpAny _ _ (call (Value.builtin _) [Value.int _ _, Value.int _ _]) _ _ _); k_dflt (refine' min2 ?hhw25 ?k1w25 ?k2w25 ?k3w25 ?_; (case hhw25 => with_unfolding_all rfl); (case k1w25 => k_asm); (case k2w25 => k_asm); (case k3w25 => first | exact (Int.min_eq_left (by omega)).symm | exact (Int.min_eq_right (by omega)).symm | exact rfl); k_whole); intro t' h' tk' F' N'; (try k_sweep))
  k_with "call builtin:min" => (k_here; (with_reducible show wpAny _ _ (call (Value.builtin _) [Value.int _ _, Value.int _ _, Value.int _ _]) _ _ _); k_dflt (refine' min3 ?hhw26 ?k1w26 ?k2w26 ?k3w26 ?_; (case hhw26 => with_unfolding_all rfl); (case k1w26 => k_asm); (case k2w26 => k_asm); (case k3w26 => first | exact m3a (by omega) | exact m3b (by omega) | exact m3c (by omega) | exact rfl); k_whole); intro t' h' tk' F' N'; (try k_sweep))
  trivial
theorem ln2_0221d2 : True := by
  k_with "klt" => (skip)
  k_with "ne" => (refine neN ?_; (try dsimp only); first | exact Dif.l (by with_reducible assumption) | exact Dif.r (by with_reducible assumption) | (k_extra "ord") | omega)
  k_with "getMethod bytes" => (k_here; (with_reducible show wpAny _ _ (getMethod (Value.bytes _ _) (PySem.Str.ofString "join") _) _ _ _); (refine join_meth ?_))
  k_with "call builtin:bytes.join" => (k_here; (with_reducible show wpAny _ _ (call (Value.builtin _) [Value.bytes _ _, Value.ref _]) _ _ _); k_dflt (refine' join_fl ?kNw30 ?kmw30 ?kzw30 ?kew30 ?_; (case kNw30 => k_asm); (case kmw30 => k_mem); (case kew30 => with_reducible assumption); (case kzw30 => omega); k_whole); intro t' tk')
  k_with "eval ListComp" => (k_here; k_dflt (refine LCg.ListComp_U (F₀ := by k_asm) (by with_unfolding_all rfl) (by decide) (by rfl) (by decide) (by rfl) ?_))
  k_with "CompSrc" => (k_here; (with_reducible rename Sh _ _ _ _ _ _ _ _ => sh9); k_dflt (refine LCg.CompSrc.ledger (by rfl) (by k_asm) (by k_asm) (by k_mem) (by have := sh9.size.2; rw [PySem.sizeLine_eq]; omega) ?_; intro g'; (refine' rows_rest sh9 ?m1w32 ?m2w32 ?m3w32 (fun r' f' a' y' b' c' e' I' oI' C' oC' D' m' ys' h' tk' E' hr' hC' hx' F' N' off' ne' => ?_) ?_); (case m1w32 => k_mem); (case m2w32 => k_mem); (case m3w32 => k_mem); (all_goals (try (simp only [LCg.Off3, and_true] at off'))); kcf_last))
  k_with "KPfDone" => ((show ∀ _, BytF _ _ → _); intro ys' hb')
  k_with "CompEnd" => ((refine' LCg.CompEnd.intro ?kFw34 ?kNw34 _ ?ksw34 ?kow34 ?kSw34 (kcb_el rfl rfl rfl)); (case kFw34 => with_reducible assumption); (case kNw34 => with_reducible assumption); (case ksw34 => exact fun _ hp => hp); (case kow34 => (simp only [LCg.Off3, and_true]; with_reducible assumption)); (case kSw34 => lcg_src))
  k_with "subscriptTail Name Constant ref int" => (k_here; k_dflt (first | ((with_reducible show wpAny _ _ (subscriptTail _ _ (Value.ref _) (Value.int 1 _)) _ _ _); refine' row_1 ?kN2w35 ?km2w35 ?_ ?hs2w35; (case kN2w35 => k_asm); (case km2w35 => with_reducible assumption); (case hs2w35 => with_unfolding_all rfl); k_whole) | ((with_reducible show wpAny _ _ (subscriptTail _ _ (Value.ref _) (Value.int 0 _)) _ _ _); refine' rows_0 ?kNw35 ?kshw35 ?kmw35 ?_ ?hsw35; (case kshw35 => with_reducible assumption); (case kNw35 => k_asm); (case kmw35 => k_mem); (case hsw35 => with_unfolding_all rfl); k_whole)))
  k_with "subscriptTail Name UnaryOp ref int" => (k_here; k_dflt (refine' rows_L ?kNw36 ?kshw36 ?kmw36 ?_ ?hsw36; (case kshw36 => with_reducible assumption); (case kNw36 => k_asm); (case kmw36 => k_mem); (case hsw36 => with_unfolding_all rfl); k_whole))
  k_with "compareOp NotEq bytes bytes" => (k_here; (refine bne_f ?kew37 ?_); (case kew37 => first | rfl | exact part_y | exact part_x (by with_reducible assumption) (by omega)))
  k_with "call ref" => (k_here; (with_reducible show wpAny _ _ (call (Value.ref 135) [Value.int _ _, Value.int _ _, Value.int _ _]) _ _ _); k_dflt (refine' use_r c_distance ?kBw38 ?kFw38 ?kXw38 ?kNw38 ?kTw38 ?kkw38 ?krw38 ?kdw38 ?kuw38 ?_; (case kBw38 => k_asm); (case kFw38 => k_asm); (case kXw38 => k_asm); (case kNw38 => k_asm); (case kTw38 => k_asm); (case kkw38 => first | exact rfl | assumption); (case krw38 => exact subN); (case kdw38 => ktr_room); (case kuw38 => ktr_units); k_whole); intro t' h' tk' F' N'; (try dsimp only); (try k_sweep))
  k_with "call ref" => (k_here; (with_reducible show wpAny _ _ (call (Value.ref 177) [Value.ref _, Value.int _ _, Value.int _ _, Value.int _ _]) _ _ _); k_dflt (refine' use_r (c_take_no ?h1w39) ?kBw39 ?kFw39 ?kXw39 ?kNw39 ?kTw39 ?kkw39 ?krw39 ?kdw39 ?kuw39 ?_; (case kBw39 => k_asm); (case kFw39 => k_asm); (case kXw39 => k_asm); (case kNw39 => k_asm); (case kTw39 => k_asm); (case kkw39 => first | exact rfl | assumption); (case krw39 => (refine' (subC ?m1w39 (subC ?m2w39 subN)); (case m1w39 => k_mem); (case m2w39 => k_mem))); (case kdw39 => ktr_room); (case kuw39 => ktr_units); (case h1w39 => omega); k_whole); intro t' h' tk' F' N'; (try dsimp only); (try k_sweep))
  k_with "call ref" => (k_here; (with_reducible show wpAny _ _ (call (Value.ref 177) [Value.ref _, Value.int _ _, Value.int _ _, Value.int _ _]) _ _ _); k_dflt (refine' use_u (c_take_yes ?hnw40 ?h1w40 ?h3w40) ?kBw40 ?kFw40 ?kXw40 ?kNw40 ?kTw40 ?kkw40 ?krw40 ?kUw40 ?kdw40 ?kuw40 ?_; (case kBw40 => k_asm); (case kFw40 => k_asm); (case kXw40 => k_asm); (case kNw40 => k_asm); (case kTw40 => k_asm); (case kkw40 => first | exact rfl | assumption); (case krw40 => (refine' (subC ?m1w40 (subC ?m2w40 subN)); (case m1w40 => k_mem); (case m2w40 => k_mem))); (case kUw40 => intro t'; k_upd); (case kdw40 => ktr_room); (case kuw40 => ktr_units); (case hnw40 => k_ne); (case h1w40 => omega); (case h3w40 => first | exact (Int.max_eq_left (by omega)).symm | exact (Int.max_eq_right (by omega)).symm | exact rfl); k_whole); intro t' h' tk' F' N'; (try dsimp only); (try k_sweep))
  k_with "call ref" => (k_here; (with_reducible show wpAny _ _ (call (Value.ref 177) [Value.ref _, Value.int _ _, Value.int _ _, Value.int _ _]) _ _ _); k_dflt (refine' use_u (c_take_first ?hnw41 ?h3w41) ?kBw41 ?kFw41 ?kXw41 ?kNw41 ?kTw41 ?kkw41 ?krw41 ?kUw41 ?kdw41 ?kuw41 ?_; (case kBw41 => k_asm); (case kFw41 => k_asm); (case kXw41 => k_asm); (case kNw41 => k_asm); (case kTw41 => k_asm); (case kkw41 => first | exact rfl | assumption); (case krw41 => (refine' (subC ?m1w41 (subC ?m2w41 subN)); (case m1w41 => k_mem); (case m2w41 => k_mem))); (case kUw41 => intro t'; k_upd); (case kdw41 => ktr_room); (case kuw41 => ktr_units); (case hnw41 => k_ne); (case h3w41 => first | exact (Int.max_eq_left (by omega)).symm | exact (Int.max_eq_right (by omega)).symm | exact rfl); k_whole); intro t' h' tk' F' N'; (try dsimp only); (try k_sweep))
  k_with "call ref" => (k_here; (with_reducible show wpAny _ _ (call (Value.ref 187) [Value.int _ _]) _ _ _); k_dflt (refine' make_ctr (fun x dx hl => c_initP hl) ?kBw42 ?kFw42 ?kXw42 ?kNw42 ?kTw42 ?kkw42 ?kmw42 ?kiw42 ?kfw42 ?kdw42 ?kuw42 ?_; (case kBw42 => k_asm); (case kFw42 => k_asm); (case kXw42 => k_asm); (case kNw42 => k_asm); (case kTw42 => k_asm); (case kkw42 => first | exact rfl | assumption); (case kmw42 => k_is); (case kiw42 => k_is); (case kfw42 => k_is); (case kdw42 => ktr_room); (case kuw42 => ktr_units); k_whole); intro x' dx' ⟨K', d1', d2', d4'⟩ h' tk' l1 l2 F' N' df'; (simp only [AllLt, and_true] at l1); (replace l2 := ltN l2); (try dsimp only at N' df'); (try simp only [List.cons_append, List.nil_append] at N' df'); (try simp only [DifAll, DifR] at df'); (repeat' (rename AndD _ _ => hc'; obtain ⟨_, _⟩ := hc')); (try k_sweep))
  k_with "eval Name" => (k_here; k_dflt (refine' nameX_L ?Fw43 ?vw43 ?_ ?aw43 ?bw43; (case bw43 => kernel_rfl!); (case aw43 => kernel_rfl!); (case Fw43 => k_asm); (case vw43 => first | with_reducible assumption | exact (if_neg (by decide)).trans (by with_reducible assumption) | exact (if_neg (by decide)).trans ((if_neg (by decide)).trans (by with_reducible assumption)) | rfl); k_whole))
  trivial
inductive TJ (w : World) (g : Heap) (L' : Addr) (s : Shared) (seq ack step near : Int) (t1 t2 t3 t4 : Tok) : Shared → Prop
  | mk {p pd : Addr} {K2 : PTk} {d1 d2 : Tok} {h' : Heap} {tk' : Nat} {m : Str → Option Value} (pn : LtH pd p) (F : Fr g L' h' m) (N : News g L' h' [(pd, dictOf (peerE w K2 5 d1 5 d2 (.int seq t1) (.int ack t2)) 5), (p, instObj 187 pd)]) (m1 : m (Str.ofString "seq") = some (.int seq t1)) (m2 : m (Str.ofString "ack") = some (.int ack t2)) (m3 : m (Str.ofString "step") = some (.int step t3)) (m4 : m (Str.ofString "near") = some (.int near t4)) (m5 : m (Str.ofString "window") = some (.ref p)) : TJ w g L' s seq ack step near t1 t2 t3 t4 { s with heap := h', toks := tk' }
theorem c_told {w : World} {seq ack step near : Int} {t1 t2 t3 t4 : Tok} (h1 : 0 ≤ seq ∧ seq < 256) (h2 : 0 ≤ ack ∧ ack < 256) (h3 : 1 ≤ step ∧ step ≤ 101) (h4 : -1 ≤ near ∧ near ≤ 9) :
  Ctr w 410 [.int seq t1, .int ack t2, .int step t3, .int near t4] [] 8 300 (fun v n' => ∃ t : Tok, v = (fun _ => .bool true) t ∧ n' = []) := by
  intro loose mean mg mb dp un gd cn cs ad ccd cl outer base L s Rr H0 hH hd1 hu hret
  obtain ⟨B, X, T⟩ := H0
  try have hO9 := difO_of ho
  try have hO9 := difO4 ho
  try have hO9 := difO2 ho
  generalize hg : hideAll s.heap (List.map Prod.fst _) = g at *
  replace hg := hg.symm
  revert X; k_fill; intro X
  k_dflt (
    refine' code_ctr ?k1 ?kg ?k3 ?k5 ?kH ?k6 ?k7 ?k8 ?k9 ?kB ?_ ?c2 ?c3 ?c4 ?c5
    (case kg => exact hg)
    (case k1 => assumption)
    (case k3 => assumption)
    (case k5 => assumption)
    (case kH => assumption)
    (case k6 => k_is)
    (case k7 => k_is)
    (case k8 => ktr_room)
    (case k9 => first | exact BindsTo.of_eq rfl | exact binds_K (Frag.In.keeps X (by rw [hg]; exact fun b o e => of_hideAll _ e)) rfl (by k_is) rfl rfl rfl)
    (case c5 => decide)
    (case kB => exact locs rfl)
    (case c2 => exact rfl)
    (case c3 => exact rfl)
    (case c4 => exact rfl)
    k_whole
    intro L' h' F' N'
    (try dsimp only)
    (refine A_let ?_; intro A9; have dA9 : A9.depth = dp + 1 := rfl; have uA9 : A9.units = un + 3 := rfl)
    (try k_fold)
    (refine fr_let F' ?_; clear F'; intro m9 F'))
  with_reducible refine' cut_stmts_e (a := [_, _, _]) (I := TJ w g L' s seq ack step near t1 t2 t3 t4) ?ce (fun s' hI => ?tail) ?head
  case ce => exact rfl
  case head =>
    (repeat' (first | (k_extra "nst") | (k_unfold; (try dsimp only)) | (k_end; kc_close) | walk1 | (dsimp only; walk1) | (leave1; walk_say "STEP leave1"; (try dsimp only)) | fail "no step"))
    all_goals (first
      | (refine' And.intro rfl (TJ.mk (F := ?F) (N := newsSub ?N ?sub) (pn := ?pn) (m1 := ?m1) (m2 := ?m2) (m3 := ?m3) (m4 := ?m4) (m5 := ?m5)); (case F => k_asm); (case N => k_asm); (case m5 => rfl); (case sub => exact subC (by k_mem) (subC (by k_mem) subN)); (case m1 => rfl); (case m2 => rfl); (case m3 => rfl); (case m4 => rfl); (case pn => (show @LT.lt Nat _ _ _; omega)))
      | (exfalso; (rename ((_ : Bool) = _) => hx); (simp at hx); omega)
      | (exfalso; (rename ((_ : Bool) = _) => hx); (simp at hx); done))
  case tail =>
    obtain ⟨pn, F8, N8, m1, m2, m3, m4, m5⟩ := hI
    clear F' N'
    have hO9 := difO2 pn
    by_cases h5 : 1 < step ∨ near = -1
    · (repeat' (first | (k_extra "nst") | (k_unfold; (try dsimp only)) | (k_end; kc_close) | walk1 | (dsimp only; walk1) | (leave1; walk_say "STEP leave1"; (try dsimp only)) | fail "no step"))
      all_goals (first
          | exact end_u (s := s) hret (0 : Nat) (by first | rfl) (by assumption) (by assumption) (by exact List.forall_mem_nil _)
          | (exfalso; (rename ((_ : Bool) = _) => hx); (simp at hx); omega)
          | (exfalso; (rename ((_ : Bool) = _) => hx); (simp at hx); done))
    · obtain rfl : step = 1 := by omega
      have h6 : 0 ≤ near ∧ near ≤ 9 := by omega
      clear h4 h5
      (repeat' (first | (k_extra "nst") | (k_unfold; (try dsimp only)) | (k_end; kc_close) | walk1 | (dsimp only; walk1) | (leave1; walk_say "STEP leave1"; (try dsimp only)) | fail "no step"))
      all_goals (first
          | exact end_u (s := s) hret (0 : Nat) (by first | rfl) (by assumption) (by assumption) (by exact List.forall_mem_nil _)
          | (exfalso; (rename ((_ : Bool) = _) => hx); (simp at hx); omega)
          | (exfalso; (rename ((_ : Bool) = _) => hx); (simp at hx); done))
end
end Mine
-- part C4
namespace Mine
section
theorem ln1_fd1804 : True := by
  k_with_none
  k_with "callWith ref" => (k_here; (with_reducible rename Fr _ _ _ _ => kF); (with_reducible rename Frag.In _ _ => kX); first | ((with_reducible show wpAny _ _ (callWith _ _ _ (backTo _ (starEach [] _)) []) _ _ _); k_dflt (refine' callWith_K0 (Frag.In.keeps kX (Fr.keep kF)) ?k2w1 ?_; (case k2w1 => k_is); k_whole)) | ((with_reducible show wpAny _ _ (callWith _ _ _ (backTo _ (starEach (_ :: _) _)) []) _ _ _); k_dflt (refine' callWith_K kX ?k2w1 ?_; (case k2w1 => k_is); k_whole)))
  k_with "eval Name" => (k_here; (fail_if_success (with_reducible show wpAny _ _ (eval (Expr.Name _ _) (compEnvC _ _ _ _)) _ _ _)); k_dflt (first | (refine' nameX_L ?Fw2 ?vw2 ?_ ?aw2 ?bw2; (case bw2 => kernel_rfl!); (case aw2 => kernel_rfl!); (case Fw2 => k_asm); (case vw2 => rfl); k_whole) | (refine' nameX_K ?Fw2 ?Xw2 ?Tw2 ?ew2 ?_ ?aw2 ?bw2; (case bw2 => kernel_rfl!); (case aw2 => kernel_rfl!); (case Fw2 => k_asm); (case Xw2 => k_asm); (case Tw2 => k_asm); (case ew2 => k_is); k_whole) | (refine' nameX_B ?Fw2 ?Xw2 ?Tw2 ?ew2 ?vw2 ?nw2 ?_ ?aw2 ?bw2; (case bw2 => kernel_rfl!); (case aw2 => kernel_rfl!); (case Fw2 => k_asm); (case Xw2 => k_asm); (case Tw2 => k_asm); (case ew2 => k_is); (case vw2 => boot_fast); (case nw2 => decide); k_whole) | (refine' nameX_C ?Nw2 ?cw2 ?mw2 ?dw2 ?_ ?aw2 ?bw2; (case bw2 => kernel_rfl!); (case aw2 => kernel_rfl!); (case Nw2 => k_asm); (case cw2 => rfl); (case mw2 => k_mem); (case dw2 => k_asm); k_whole) | (refine' nameX_F ?Nw2 ?cw2 ?mw2 ?dw2 ?_ ?aw2 ?bw2; (case bw2 => kernel_rfl!); (case aw2 => kernel_rfl!); (case Nw2 => k_asm); (case cw2 => rfl); (case mw2 => k_mem); (case dw2 => k_asm); k_whole)))
  k_with "ord" => ((with_reducible rename DifO _ => hO9); (first | refine' hO9 0 _ _ _ rfl ?hbw3 ?hcw3 | refine' hO9 1 _ _ _ rfl ?hbw3 ?hcw3 | refine' hO9 2 _ _ _ rfl ?hbw3 ?hcw3 | refine' hO9 3 _ _ _ rfl ?hbw3 ?hcw3 | refine' hO9 4 _ _ _ rfl ?hbw3 ?hcw3 | refine' hO9 5 _ _ _ rfl ?hbw3 ?hcw3); (case hbw3 => first | exact (rfl : (_ : List Addr)[0]? = _) | exact (rfl : (_ : List Addr)[1]? = _) | exact (rfl : (_ : List Addr)[2]? = _) | exact (rfl : (_ : List Addr)[3]? = _) | exact (rfl : (_ : List Addr)[4]? = _) | exact (rfl : (_ : List Addr)[5]? = _)); (case hcw3 => exact rfl))
  k_with "nst" => ((with_reducible show wpAny _ _ _ _ _ (Shared.mk _ _ _ _ _)); refine' nst ?kew4 ?_; (case kew4 => (dsimp only; exact rfl)))
  k_with "all" => (first | exact neNil | (refine' neC ?aw5 ?bw5; (case aw5 => k_ne); (case bw5 => k_all)))
  k_with "room" => (first | exact room_ (by assumption) (by exact rfl) | exact room0 (by assumption) (by exact rfl) | ((try simp only [depth_under_make, depth_under_kw, depth_in1, depth_deeper, depth_caller]); (try dsimp only [ktrTop]); omega))
  k_with "units" => (first | exact room_ (by assumption) (by exact rfl) | exact room0 (by assumption) (by exact rfl) | ((try simp only [units_in1, units_deeper, Around.mark_units, units_caller]); (try dsimp only [ktrTop]); omega))
  k_with "execs cons" => ((first | (with_reducible refine execs_T ?_; intro tk) | refine wpAny_execs_cons ?_); (try k_fold))
  k_with "getAttr ref" => (k_here; k_dflt (refine' oget ?k1w9 ?k2w9 ?k3w9 ?k4w9 ?k5w9 ?k6w9 ?k7w9 ?k8w9 ?k9w9 ?_; (case k1w9 => k_asm); (case k2w9 => k_asm); (case k3w9 => k_inst); (case k4w9 => k_is); (case k5w9 => k_is); (case k6w9 => k_is); (case k7w9 => k_is); (case k8w9 => k_get); (case k9w9 => k_handed); k_whole))
  k_with "storeName" => (k_here; k_dflt (refine' ostore ?kFw10 ?kNw10 ?_ ?kaw10 ?kbw10; (case kaw10 => rfl); (case kbw10 => rfl); (case kFw10 => k_asm); (case kNw10 => k_asm); k_whole; intro h' m9 F' N'; (try k_sweep)))
  k_with "eval Constant int" => (refine cint ?_)
  k_with "eval Constant bytes" => (refine cbytes ?_)
  k_with "binaryOp Mod int int" => (k_here; (with_reducible refine mod_pos ?kbw13 ?_); (case kbw13 => omega); intro t' tk')
  k_with "binaryOp FloorDiv int int" => (k_here; (with_reducible refine div_pos ?kbw14 ?kpw14 ?_); (case kbw14 => omega); (case kpw14 => omega); intro t' tk')
  k_with "binaryOp Mult int int" => (k_here; (with_reducible refine mul_small ?kbw15 ?_); (case kbw15 => omega); intro t' tk')
  k_with "subscriptTail Name Constant ref int" => (k_here; (with_reducible show wpAny _ _ (subscriptTail _ _ (Value.ref _) (Value.int _ _)) _ _ _); k_dflt (first | ((with_reducible show wpAny _ _ (subscriptTail _ _ (Value.ref _) (Value.int 0 _)) _ _ _); refine' item_0 ?Nw16 ?mw16 ?_ ?hsw16; (case Nw16 => k_asm); (case mw16 => k_mem); (case hsw16 => with_unfolding_all rfl); k_whole) | ((with_reducible show wpAny _ _ (subscriptTail _ _ (Value.ref _) (Value.int 1 _)) _ _ _); refine' item_1 ?Nw16 ?mw16 ?_ ?hsw16; (case Nw16 => k_asm); (case mw16 => k_mem); (case hsw16 => with_unfolding_all rfl); k_whole)))
  k_with "compareOp Eq int int" => (k_here; first | (with_reducible refine ceq_t ?chw17 ?_; (case chw17 => omega)) | (with_reducible refine ceq_f ?chw17 ?_; (case chw17 => omega)))
  k_with "compareOp NotEq int int" => (k_here; first | (with_reducible refine cne_t ?chw18 ?_; (case chw18 => omega)) | (with_reducible refine cne_f ?chw18 ?_; (case chw18 => omega)))
  k_with "compareOp Lt int int" => (k_here; first | (with_reducible refine clt_t ?chw19 ?_; (case chw19 => omega)) | (with_reducible refine clt_f ?chw19 ?_; (case chw19 => omega)))
  k_with "compareOp LtE int int" => (k_here; first | (with_reducible refine cle_t ?chw20 ?_; (case chw20 => omega)) | (with_reducible refine cle_f ?chw20 ?_; (case chw20 => omega)))
  k_with "compareOp Gt int int" => (k_here; first | (with_reducible refine cgt_t ?chw21 ?_; (case chw21 => omega)) | (with_reducible refine cgt_f ?chw21 ?_; (case chw21 => omega)))
  k_with "compareOp GtE int int" => (k_here; first | (with_reducible refine cge_t ?chw22 ?_; (case chw22 => omega)) | (with_reducible refine cge_f ?chw22 ?_; (case chw22 => omega)))
  k_with "call type:int" => (k_here; (with_reducible show wpAny _ _ (call (Value.type "int") [Value.bool _]) _ _ _); (first | (with_reducible refine int_bf ?_) | (with_reducible refine int_bt ?_) | (with_reducible refine int_bb (by assumption) ?_)); intro t' tk')
  k_with "call builtin:max" => (k_here; (with_reducible show wpAny _ _ (call (Value.builtin _) [Value.int _ _, Value.int _ _]) _ _ _); k_dflt (refine' max2 ?hhw24 ?k1w24 ?k2w24 ?k3w24 ?_; (case hhw24 => with_unfolding_all rfl); (case k1w24 => k_asm); (case k2w24 => k_asm); (case k3w24 => first | exact (Int.max_eq_left (by omega)).symm | exact (Int.max_eq_right (by omega)).symm | exact rfl); k_whole); intro t' h' tk' F' N'; (try k_sweep))
  k_with "call builtin:min" => (k_here; (with_reducible show wpAny _ _ (call (Value.builtin _) [Value.int _ _, Value.int _ _]) _ _ _); k_dflt (refine' min2 ?hhw25 ?k1w25 ?k2w25 ?k3w25 ?_; (case hhw25 => with_unfolding_all rfl); (case k1w25 => k_asm); (case k2w25 => k_asm); (case k3w25 => first | exact (Int.min_eq_left (by omega)).symm | exact (Int.min_eq_right (by omega)).symm | exact rfl); k_whole); intro t' h' tk' F' N'; (try k_sweep))
  k_with "call builtin:min" => (k_here; (with_reducible show wpAny _ _ (call (Value.builtin _) [Value.int _ _, Value.int _ _, Value.int _ _]) _ _ _); k_dflt (refine' min3 ?hhw26 ?k1w26 ?k2w26 ?k3w26 ?_; (case hhw26 => with_unfolding_all rfl); (case k1w26 => k_asm); (case k2w26 => k_asm); (case k3w26 => first | exact m3a (by omega) | exact m3b (by omega) | exact m3c (by omega) | exact rfl); k_whole); intro t' h' tk' F' N'; (try k_sweep))
  k_with "ne" => (refine neN ?_; (try dsimp only); first | (k_extra "ord") | omega)
  trivial
structure Drw (top : Int) where
  d : Int
  a : Int
  b : Int
  td : Tok
  ta : Tok
  tb : Tok
  hd : 0 ≤ d ∧ d < top
  ha : 0 ≤ a
  hb : 0 ≤ b ∧ b < 2147483647
theorem c_take {w : World} {l : Addr} {a b top : Int} {ta tb tt : Tok} {c : Nat} (h1 : 0 < top ∧ top < 1000) (h2 : 0 ≤ a) (h3 : 0 ≤ b ∧ b < 2147483647) :
    Ctr w 396 [.ref l, .int top tt] [(l, listOf #[.int a ta, .int b tb] c)] 4 80 (fun v n' => ∃ t : Drw top, v = (fun t => .int t.d t.td) t ∧ n' = [(l, listOf #[.int t.a t.ta, .int t.b t.tb] c)]) := by
  intro loose mean mg mb dp un gd cn cs ad ccd cl outer base L s Rr H0 hH hd1 hu hret
  obtain ⟨B, X, T⟩ := H0
  try have hO9 := difO_of ho
  try have hO9 := difO4 ho
  try have hO9 := difO2 ho
  generalize hg : hideAll s.heap (List.map Prod.fst _) = g at *
  replace hg := hg.symm
  revert X; k_fill; intro X
  k_dflt (
    refine' code_ctr ?k1 ?kg ?k3 ?k5 ?kH ?k6 ?k7 ?k8 ?k9 ?kB ?_ ?c2 ?c3 ?c4 ?c5
    (case kg => exact hg)
    (case k1 => assumption)
    (case k3 => assumption)
    (case k5 => assumption)
    (case kH => assumption)
    (case k6 => k_is)
    (case k7 => k_is)
    (case k8 => ktr_room)
    (case k9 => first | exact BindsTo.of_eq rfl | exact binds_K (Frag.In.keeps X (by rw [hg]; exact fun b o e => of_hideAll _ e)) rfl (by k_is) rfl rfl rfl)
    (case c5 => decide)
    (case kB => exact locs rfl)
    (case c2 => exact rfl)
    (case c3 => exact rfl)
    (case c4 => exact rfl)
    k_whole
    intro L' h' F' N'
    (try dsimp only)
    (refine A_let ?_; intro A9; have dA9 : A9.depth = dp + 1 := rfl; have uA9 : A9.units = un + 3 := rfl)
    (try k_fold)
    (refine fr_let F' ?_; clear F'; intro m9 F'))
  (repeat' (first | (k_extra "nst") | (k_unfold; (try dsimp only)) | (k_end; kc_close) | walk1 | (dsimp only; walk1) | (leave1; walk_say "STEP leave1"; (try dsimp only)) | fail "no step"))
  all_goals (refine' end_u (s := s) hret (Drw.mk _ _ _ _ _ _ ⟨Int.emod_nonneg _ ?_, Int.emod_lt_of_pos _ ?_⟩ ?_ ?_) rfl (by assumption) (by assumption) (by exact fun _ hp => hp) <;> first | omega | exact Int.ediv_nonneg (by omega) (by omega))
theorem ln2_fd1804 : True := by
  k_with "call ref" => (k_here; (with_reducible show wpAny _ _ (call (Value.ref 396) [Value.ref _, Value.int _ _]) _ _ _); k_dflt (refine' use_u (c_take ?h1w28 ?h2w28 ?h3w28) ?kBw28 ?kFw28 ?kXw28 ?kNw28 ?kTw28 ?kkw28 ?krw28 ?kUw28 ?kdw28 ?kuw28 ?_; (case kBw28 => k_asm); (case kFw28 => k_asm); (case kXw28 => k_asm); (case kNw28 => k_asm); (case kTw28 => k_asm); (case kkw28 => first | exact rfl | assumption); (case krw28 => (refine' (subC ?m1w28 subN); (case m1w28 => k_mem))); (case kUw28 => intro t'; k_upd); (case kdw28 => ktr_room); (case kuw28 => ktr_units); (case h1w28 => omega); (case h2w28 => omega); (case h3w28 => omega); k_whole); intro ⟨d', a', b', td', ta', tb', hd', ha', hb'⟩ h' tk' F' N'; (try dsimp only); (try k_sweep))
  trivial
structure Drw4 (x0 x1 x2 x3 : Int) where
  r : Int
  a : Int
  b : Int
  tr : Tok
  ta : Tok
  tb : Tok
  hr : r = x0 ∨ r = x1 ∨ r = x2 ∨ r = x3
  ha : 0 ≤ a
  hb : 0 ≤ b ∧ b < 2147483647
theorem getD4 {x0 x1 x2 x3 d : Int} (h : 0 ≤ d ∧ d < 4) : [x0, x1, x2, x3].getD d.toNat 0 = x0 ∨ [x0, x1, x2, x3].getD d.toNat 0 = x1 ∨ [x0, x1, x2, x3].getD d.toNat 0 = x2 ∨ [x0, x1, x2, x3].getD d.toNat 0 = x3 := by
  have e : d.toNat = 0 ∨ d.toNat = 1 ∨ d.toNat = 2 ∨ d.toNat = 3 := by omega
  rcases e with e | e | e | e <;> simp [e]
theorem c_one {w : World} {l k : Addr} {a b x0 x1 x2 x3 : Int} {ta tb t0 t1 t2 t3 : Tok} {c e : Nat} (h0 : (k : Nat) ≠ l) (h2 : 0 ≤ a) (h3 : 0 ≤ b ∧ b < 2147483647) :
    Ctr w 403 [.ref l, .ref k] [(l, listOf #[.int a ta, .int b tb] c), (k, listOf #[.int x0 t0, .int x1 t1, .int x2 t2, .int x3 t3] e)] 6 100
      (fun v n' => ∃ t : Drw4 x0 x1 x2 x3, v = (fun t => .int t.r t.tr) t ∧ n' = [(l, listOf #[.int t.a t.ta, .int t.b t.tb] c), (k, listOf #[.int x0 t0, .int x1 t1, .int x2 t2, .int x3 t3] e)]) := by
  intro loose mean mg mb dp un gd cn cs ad ccd cl outer base L s Rr H0 hH hd1 hu hret
  obtain ⟨B, X, T⟩ := H0
  try have hO9 := difO_of ho
  try have hO9 := difO4 ho
  try have hO9 := difO2 ho
  generalize hg : hideAll s.heap (List.map Prod.fst _) = g at *
  replace hg := hg.symm
  revert X; k_fill; intro X
  k_dflt (
    refine' code_ctr ?k1 ?kg ?k3 ?k5 ?kH ?k6 ?k7 ?k8 ?k9 ?kB ?_ ?c2 ?c3 ?c4 ?c5
    (case kg => exact hg)
    (case k1 => assumption)
    (case k3 => assumption)
    (case k5 => assumption)
    (case kH => assumption)
    (case k6 => k_is)
    (case k7 => k_is)
    (case k8 => ktr_room)
    (case k9 => first | exact BindsTo.of_eq rfl | exact binds_K (Frag.In.keeps X (by rw [hg]; exact fun b o e => of_hideAll _ e)) rfl (by k_is) rfl rfl rfl)
    (case c5 => decide)
    (case kB => exact locs rfl)
    (case c2 => exact rfl)
    (case c3 => exact rfl)
    (case c4 => exact rfl)
    k_whole
    intro L' h' F' N'
    (try dsimp only)
    (refine A_let ?_; intro A9; have dA9 : A9.depth = dp + 1 := rfl; have uA9 : A9.units = un + 3 := rfl)
    (try k_fold)
    (refine fr_let F' ?_; clear F'; intro m9 F'))
  (repeat' (first | (k_extra "nst") | (k_unfold; (try dsimp only)) | (k_end; kc_close) | walk1 | (dsimp only; walk1) | (leave1; walk_say "STEP leave1"; (try dsimp only)) | fail "no step"))
  all_goals exact end_u (s := s) hret (Drw4.mk _ _ _ _ _ _ (getD4 (by assumption)) (by assumption) (by assumption)) rfl (by assumption) (by assumption) (by exact fun _ hp => hp)
end
end Mine
-- part C5
namespace Mine
section
theorem ln1_6e7aae : True := by
  k_with_none
  k_with "callWith ref" => (k_here; (with_reducible rename Fr _ _ _ _ => kF); (with_reducible rename Frag.In _ _ => kX); first | ((with_reducible show wpAny _ _ (callWith _ _ _ (backTo _ (starEach [] _)) []) _ _ _); k_dflt (refine' callWith_K0 (Frag.In.keeps kX (Fr.keep kF)) ?k2w1 ?_; (case k2w1 => k_is); k_whole)) | ((with_reducible show wpAny _ _ (callWith _ _ _ (backTo _ (starEach (_ :: _) _)) []) _ _ _); k_dflt (refine' callWith_K kX ?k2w1 ?_; (case k2w1 => k_is); k_whole)))
  k_with "eval Name" => (k_here; (fail_if_success (with_reducible show wpAny _ _ (eval (Expr.Name _ _) (compEnvC _ _ _ _)) _ _ _)); k_dflt (first | (refine' nameX_L ?Fw2 ?vw2 ?_ ?aw2 ?bw2; (case bw2 => kernel_rfl!); (case aw2 => kernel_rfl!); (case Fw2 => k_asm); (case vw2 => rfl); k_whole) | (refine' nameX_K ?Fw2 ?Xw2 ?Tw2 ?ew2 ?_ ?aw2 ?bw2; (case bw2 => kernel_rfl!); (case aw2 => kernel_rfl!); (case Fw2 => k_asm); (case Xw2 => k_asm); (case Tw2 => k_asm); (case ew2 => k_is); k_whole) | (refine' nameX_B ?Fw2 ?Xw2 ?Tw2 ?ew2 ?vw2 ?nw2 ?_ ?aw2 ?bw2; (case bw2 => kernel_rfl!); (case aw2 => kernel_rfl!); (case Fw2 => k_asm); (case Xw2 => k_asm); (case Tw2 => k_asm); (case ew2 => k_is); (case vw2 => boot_fast); (case nw2 => decide); k_whole) | (refine' nameX_C ?Nw2 ?cw2 ?mw2 ?dw2 ?_ ?aw2 ?bw2; (case bw2 => kernel_rfl!); (case aw2 => kernel_rfl!); (case Nw2 => k_asm); (case cw2 => rfl); (case mw2 => k_mem); (case dw2 => k_asm); k_whole) | (refine' nameX_F ?Nw2 ?cw2 ?mw2 ?dw2 ?_ ?aw2 ?bw2; (case bw2 => kernel_rfl!); (case aw2 => kernel_rfl!); (case Nw2 => k_asm); (case cw2 => rfl); (case mw2 => k_mem); (case dw2 => k_asm); k_whole)))
  k_with "ord" => ((with_reducible rename DifO _ => hO9); (first | refine' hO9 0 _ _ _ rfl ?hbw3 ?hcw3 | refine' hO9 1 _ _ _ rfl ?hbw3 ?hcw3 | refine' hO9 2 _ _ _ rfl ?hbw3 ?hcw3 | refine' hO9 3 _ _ _ rfl ?hbw3 ?hcw3 | refine' hO9 4 _ _ _ rfl ?hbw3 ?hcw3 | refine' hO9 5 _ _ _ rfl ?hbw3 ?hcw3); (case hbw3 => first | exact (rfl : (_ : List Addr)[0]? = _) | exact (rfl : (_ : List Addr)[1]? = _) | exact (rfl : (_ : List Addr)[2]? = _) | exact (rfl : (_ : List Addr)[3]? = _) | exact (rfl : (_ : List Addr)[4]? = _) | exact (rfl : (_ : List Addr)[5]? = _)); (case hcw3 => exact rfl))
  k_with "nst" => ((with_reducible show wpAny _ _ _ _ _ (Shared.mk _ _ _ _ _)); refine' nst ?kew4 ?_; (case kew4 => (dsimp only; exact rfl)))
  k_with "all" => (first | exact neNil | (refine' neC ?aw5 ?bw5; (case aw5 => k_ne); (case bw5 => k_all)))
  k_with "room" => (first | exact room_ (by assumption) (by exact rfl) | exact room0 (by assumption) (by exact rfl) | ((try simp only [depth_under_make, depth_under_kw, depth_in1, depth_deeper, depth_caller]); (try dsimp only [ktrTop]); omega))
  k_with "units" => (first | exact room_ (by assumption) (by exact rfl) | exact room0 (by assumption) (by exact rfl) | ((try simp only [units_in1, units_deeper, Around.mark_units, units_caller]); (try dsimp only [ktrTop]); omega))
  k_with "execs cons" => ((first | (with_reducible refine execs_T ?_; intro tk) | refine wpAny_execs_cons ?_); (try k_fold))
  k_with "getAttr ref" => (k_here; k_dflt (refine' oget ?k1w9 ?k2w9 ?k3w9 ?k4w9 ?k5w9 ?k6w9 ?k7w9 ?k8w9 ?k9w9 ?_; (case k1w9 => k_asm); (case k2w9 => k_asm); (case k3w9 => k_inst); (case k4w9 => k_is); (case k5w9 => k_is); (case k6w9 => k_is); (case k7w9 => k_is); (case k8w9 => k_get); (case k9w9 => k_handed); k_whole))
  k_with "storeName" => (k_here; k_dflt (refine' ostore ?kFw10 ?kNw10 ?_ ?kaw10 ?kbw10; (case kaw10 => rfl); (case kbw10 => rfl); (case kFw10 => k_asm); (case kNw10 => k_asm); k_whole; intro h' m9 F' N'; (try k_sweep)))
  k_with "eval Constant int" => (refine cint ?_)
  k_with "eval Constant bytes" => (refine cbytes ?_)
  k_with "binaryOp Mod int int" => (k_here; (with_reducible refine mod_pos ?kbw13 ?_); (case kbw13 => omega); intro t' tk')
  k_with "binaryOp FloorDiv int int" => (k_here; (with_reducible refine div_pos ?kbw14 ?kpw14 ?_); (case kbw14 => omega); (case kpw14 => omega); intro t' tk')
  k_with "binaryOp Mult int int" => (k_here; (with_reducible refine mul_small ?kbw15 ?_); (case kbw15 => omega); intro t' tk')
  k_with "subscriptTail Name Constant ref int" => (k_here; (with_reducible show wpAny _ _ (subscriptTail _ _ (Value.ref _) (Value.int _ _)) _ _ _); k_dflt (first | ((with_reducible show wpAny _ _ (subscriptTail _ _ (Value.ref _) (Value.int 0 _)) _ _ _); refine' item_0 ?Nw16 ?mw16 ?_ ?hsw16; (case Nw16 => k_asm); (case mw16 => k_mem); (case hsw16 => with_unfolding_all rfl); k_whole) | ((with_reducible show wpAny _ _ (subscriptTail _ _ (Value.ref _) (Value.int 1 _)) _ _ _); refine' item_1 ?Nw16 ?mw16 ?_ ?hsw16; (case Nw16 => k_asm); (case mw16 => k_mem); (case hsw16 => with_unfolding_all rfl); k_whole)))
  k_with "compareOp Eq int int" => (k_here; first | (with_reducible refine ceq_t ?chw17 ?_; (case chw17 => omega)) | (with_reducible refine ceq_f ?chw17 ?_; (case chw17 => omega)))
  k_with "compareOp NotEq int int" => (k_here; first | (with_reducible refine cne_t ?chw18 ?_; (case chw18 => omega)) | (with_reducible refine cne_f ?chw18 ?_; (case chw18 => omega)))
  k_with "compareOp Lt int int" => (k_here; first | (with_reducible refine clt_t ?chw19 ?_; (case chw19 => omega)) | (with_reducible refine clt_f ?chw19 ?_; (case chw19 => omega)))
  k_with "compareOp LtE int int" => (k_here; first | (with_reducible refine cle_t ?chw20 ?_; (case chw20 => omega)) | (with_reducible refine cle_f ?chw20 ?_; (case chw20 => omega)))
  k_with "compareOp Gt int int" => (k_here; first | (with_reducible refine cgt_t ?chw21 ?_; (case chw21 => omega)) | (with_reducible refine cgt_f ?chw21 ?_; (case chw21 => omega)))
  k_with "compareOp GtE int int" => (k_here; first | (with_reducible refine cge_t ?chw22 ?_; (case chw22 => omega)) | (with_reducible refine cge_f ?chw22 ?_; (case chw22 => omega)))
  k_with "call type:int" => (k_here; (with_reducible show wpAny _ _ (call (Value.type "int") [Value.bool _]) _ _ _); (first | (with_reducible refine int_bf ?_) | (with_reducible refine int_bt ?_) | (with_reducible refine int_bb (by assumption) ?_)); intro t' tk')
  k_with "call builtin:max" => (k_here; (with_reducible show wpAny _ _ (call (Value.builtin _) [Value.int _ _, Value.int _ _]) _ _ _); k_dflt (refine' max2 ?hhw24 ?k1w24 ?k2w24 ?k3w24 ?_; (case hhw24 => with_unfolding_all rfl); (case k1w24 => k_asm); (case k2w24 => k_asm); (case k3w24 => first | exact (Int.max_eq_left (by omega)).symm | exact (Int.max_eq_right (by omega)).symm | exact rfl); k_whole); intro t' h' tk' F' N'; (try k_sweep))
  k_with "call builtin:min" => (k_here; (with_reducible show wpAny _ _ (call (Value.builtin _) [Value.int _ _, Value.int _ _]) _ _ _); k_dflt (refine' min2 ?hhw25 ?k1w25 ?k2w25 ?k3w25 ?_; (case hhw25 => with_unfolding_all rfl); (case k1w25 => k_asm); (case k2w25 => k_asm); (case k3w25 => first | exact (Int.min_eq_left (by omega)).symm | exact (Int.min_eq_right (by omega)).symm | exact rfl); k_whole); intro t' h' tk' F' N'; (try k_sweep))
  k_with "call builtin:min" => (k_here; (with_reducible show wpAny _ _ (call (Value.builtin _) [Value.int _ _, Value.int _ _, Value.int _ _]) _ _ _); k_dflt (refine' min3 ?hhw26 ?k1w26 ?k2w26 ?k3w26 ?_; (case hhw26 => with_unfolding_all rfl); (case k1w26 => k_asm); (case k2w26 => k_asm); (case k3w26 => first | exact m3a (by omega) | exact m3b (by omega) | exact m3c (by omega) | exact rfl); k_whole); intro t' h' tk' F' N'; (try k_sweep))
  k_with "ne" => (refine neN ?_; (try dsimp only); first | (k_extra "ord") | omega)
  trivial
theorem mul_ite {g : Int} {c : Prop} [Decidable c] (h : 0 ≤ g) : 0 ≤ g * (if c then 1 else 0) := by
  split <;> omega
structure Pool where
  l : Addr
  a : Int
  b : Int
  ta : Tok
  tb : Tok
  c : Nat
  ha : 0 ≤ a
  hb : 0 ≤ b ∧ b < 2147483647
theorem c_pool {w : World} {l : Addr} {vs : List Value} {ns : List Int} {t0 : Tok} (hi : IntsAre vs ns) (hn : ns.length < 2 ^ 62) :
    CtrP w 389 [.ref l, .int 0 t0] [] (fun h => h.IsList l vs.toArray) 4 80 (fun v n' => ∃ t : Pool, v = .ref t.l ∧ n' = [(t.l, listOf #[.int t.a t.ta, .int t.b t.tb] t.c)]) := by
  intro loose mean mg mb dp un gd cn cs ad ccd cl outer base L s Rr H0 hH hpre hd1 hu hret
  obtain ⟨B, X, T⟩ := H0
  try have hO9 := difO_of ho
  try have hO9 := difO4 ho
  try have hO9 := difO2 ho
  generalize hg : hideAll s.heap (List.map Prod.fst _) = g at *
  replace hg := hg.symm
  revert X; k_fill; intro X
  k_dflt (
    refine' code_ctr ?k1 ?kg ?k3 ?k5 ?kH ?k6 ?k7 ?k8 ?k9 ?kB ?_ ?c2 ?c3 ?c4 ?c5
    (case kg => exact hg)
    (case k1 => assumption)
    (case k3 => assumption)
    (case k5 => assumption)
    (case kH => assumption)
    (case k6 => k_is)
    (case k7 => k_is)
    (case k8 => ktr_room)
    (case k9 => first | exact BindsTo.of_eq rfl | exact binds_K (Frag.In.keeps X (by rw [hg]; exact fun b o e => of_hideAll _ e)) rfl (by k_is) rfl rfl rfl)
    (case c5 => decide)
    (case kB => exact locs rfl)
    (case c2 => exact rfl)
    (case c3 => exact rfl)
    (case c4 => exact rfl)
    k_whole
    intro L' h' F' N'
    (try dsimp only)
    (refine A_let ?_; intro A9; have dA9 : A9.depth = dp + 1 := rfl; have uA9 : A9.units = un + 3 := rfl)
    (try k_fold)
    (refine fr_let F' ?_; clear F'; intro m9 F'))
  have hIL := stays_list (fun b o e => F'.keep b o e) hpre
  (repeat' (first | (k_extra "nst") | (k_unfold; (try dsimp only)) | (k_end; kc_close) | walk1 | (dsimp only; walk1) | (leave1; walk_say "STEP leave1"; (try dsimp only)) | fail "no step"))
  all_goals (refine' end_u (s := s) hret (Pool.mk _ _ _ _ _ _ ?_ ?_) rfl (by assumption) (by assumption) (by exact fun _ hp => hp) <;> first | omega | exact mul_ite (by omega))
end
end Mine
-- part Exc
namespace Mine
section
theorem ln1_146a1c : True := by
  k_with_none
  k_with "callWith ref" => (k_here; (with_reducible rename Fr _ _ _ _ => kF); (with_reducible rename Frag.In _ _ => kX); first | ((with_reducible show wpAny _ _ (callWith _ _ _ (backTo _ (starEach [] _)) []) _ _ _); k_dflt (refine' callWith_K0 (Frag.In.keeps kX (Fr.keep kF)) ?k2w1 ?_; (case k2w1 => k_is); k_whole)) | ((with_reducible show wpAny _ _ (callWith _ _ _ (backTo _ (starEach (_ :: _) _)) []) _ _ _); k_dflt (refine' callWith_K kX ?k2w1 ?_; (case k2w1 => k_is); k_whole)))
  k_with "eval Name" => (k_here; (fail_if_success (with_reducible show wpAny _ _ (eval (Expr.Name _ _) (compEnvC _ _ _ _)) _ _ _)); k_dflt (first | (refine' nameX_L ?Fw2 ?vw2 ?_ ?aw2 ?bw2; (case bw2 => kernel_rfl!); (case aw2 => kernel_rfl!); (case Fw2 => k_asm); (case vw2 => rfl); k_whole) | (refine' nameX_K ?Fw2 ?Xw2 ?Tw2 ?ew2 ?_ ?aw2 ?bw2; (case bw2 => kernel_rfl!); (case aw2 => kernel_rfl!); (case Fw2 => k_asm); (case Xw2 => k_asm); (case Tw2 => k_asm); (case ew2 => k_is); k_whole) | (refine' nameX_B ?Fw2 ?Xw2 ?Tw2 ?ew2 ?vw2 ?nw2 ?_ ?aw2 ?bw2; (case bw2 => kernel_rfl!); (case aw2 => kernel_rfl!); (case Fw2 => k_asm); (case Xw2 => k_asm); (case Tw2 => k_asm); (case ew2 => k_is); (case vw2 => boot_fast); (case nw2 => decide); k_whole) | (refine' nameX_C ?Nw2 ?cw2 ?mw2 ?dw2 ?_ ?aw2 ?bw2; (case bw2 => kernel_rfl!); (case aw2 => kernel_rfl!); (case Nw2 => k_asm); (case cw2 => rfl); (case mw2 => k_mem); (case dw2 => k_asm); k_whole) | (refine' nameX_F ?Nw2 ?cw2 ?mw2 ?dw2 ?_ ?aw2 ?bw2; (case bw2 => kernel_rfl!); (case aw2 => kernel_rfl!); (case Nw2 => k_asm); (case cw2 => rfl); (case mw2 => k_mem); (case dw2 => k_asm); k_whole)))
  k_with "ord" => ((with_reducible rename DifO _ => hO9); (first | refine' hO9 0 _ _ _ rfl ?hbw3 ?hcw3 | refine' hO9 1 _ _ _ rfl ?hbw3 ?hcw3 | refine' hO9 2 _ _ _ rfl ?hbw3 ?hcw3 | refine' hO9 3 _ _ _ rfl ?hbw3 ?hcw3 | refine' hO9 4 _ _ _ rfl ?hbw3 ?hcw3 | refine' hO9 5 _ _ _ rfl ?hbw3 ?hcw3); (case hbw3 => first | exact (rfl : (_ : List Addr)[0]? = _) | exact (rfl : (_ : List Addr)[1]? = _) | exact (rfl : (_ : List Addr)[2]? = _) | exact (rfl : (_ : List Addr)[3]? = _) | exact (rfl : (_ : List Addr)[4]? = _) | exact (rfl : (_ : List Addr)[5]? = _)); (case hcw3 => exact rfl))
  k_with "nst" => ((with_reducible show wpAny _ _ _ _ _ (Shared.mk _ _ _ _ _)); refine' nst ?kew4 ?_; (case kew4 => (dsimp only; exact rfl)))
  k_with "all" => (first | exact neNil | (refine' neC ?aw5 ?bw5; (case aw5 => k_ne); (case bw5 => k_all)))
  k_with "room" => (first | exact room_ (by assumption) (by exact rfl) | exact room0 (by assumption) (by exact rfl) | ((try simp only [depth_under_make, depth_under_kw, depth_in1, depth_deeper, depth_caller]); (try dsimp only [ktrTop]); omega))
  k_with "units" => (first | exact room_ (by assumption) (by exact rfl) | exact room0 (by assumption) (by exact rfl) | ((try simp only [units_in1, units_deeper, Around.mark_units, units_caller]); (try dsimp only [ktrTop]); omega))
  k_with "execs cons" => ((first | (with_reducible refine execs_T ?_; intro tk) | refine wpAny_execs_cons ?_); (try k_fold))
  k_with "getAttr ref" => (k_here; k_dflt (refine' oget ?k1w9 ?k2w9 ?k3w9 ?k4w9 ?k5w9 ?k6w9 ?k7w9 ?k8w9 ?k9w9 ?_; (case k1w9 => k_asm); (case k2w9 => k_asm); (case k3w9 => k_inst); (case k4w9 => k_is); (case k5w9 => k_is); (case k6w9 => k_is); (case k7w9 => k_is); (case k8w9 => k_get); (case k9w9 => k_handed); k_whole))
  k_with "storeName" => (k_here; k_dflt (refine' ostore ?kFw10 ?kNw10 ?_ ?kaw10 ?kbw10; (case kaw10 => rfl); (case kbw10 => rfl); (case kFw10 => k_asm); (case kNw10 => k_asm); k_whole; intro h' m9 F' N'; (try k_sweep)))
  k_with "eval Constant int" => (refine cint ?_)
  k_with "eval Constant bytes" => (refine cbytes ?_)
  k_with "binaryOp Mod int int" => (k_here; (with_reducible refine mod_pos ?kbw13 ?_); (case kbw13 => omega); intro t' tk')
  k_with "binaryOp FloorDiv int int" => (k_here; (with_reducible refine div_pos ?kbw14 ?kpw14 ?_); (case kbw14 => omega); (case kpw14 => omega); intro t' tk')
  k_with "binaryOp Mult int int" => (k_here; (with_reducible refine mul_small ?kbw15 ?_); (case kbw15 => omega); intro t' tk')
  k_with "subscriptTail Name Constant ref int" => (k_here; (with_reducible show wpAny _ _ (subscriptTail _ _ (Value.ref _) (Value.int _ _)) _ _ _); k_dflt (first | ((with_reducible show wpAny _ _ (subscriptTail _ _ (Value.ref _) (Value.int 0 _)) _ _ _); refine' item_0 ?Nw16 ?mw16 ?_ ?hsw16; (case Nw16 => k_asm); (case mw16 => k_mem); (case hsw16 => with_unfolding_all rfl); k_whole) | ((with_reducible show wpAny _ _ (subscriptTail _ _ (Value.ref _) (Value.int 1 _)) _ _ _); refine' item_1 ?Nw16 ?mw16 ?_ ?hsw16; (case Nw16 => k_asm); (case mw16 => k_mem); (case hsw16 => with_unfolding_all rfl); k_whole)))
  k_with "compareOp Eq int int" => (k_here; first | (with_reducible refine ceq_t ?chw17 ?_; (case chw17 => omega)) | (with_reducible refine ceq_f ?chw17 ?_; (case chw17 => omega)))
  k_with "compareOp NotEq int int" => (k_here; first | (with_reducible refine cne_t ?chw18 ?_; (case chw18 => omega)) | (with_reducible refine cne_f ?chw18 ?_; (case chw18 => omega)))
  k_with "compareOp Lt int int" => (k_here; first | (with_reducible refine clt_t ?chw19 ?_; (case chw19 => omega)) | (with_reducible refine clt_f ?chw19 ?_; (case chw19 => omega)))
  k_with "compareOp LtE int int" => (k_here; first | (with_reducible refine cle_t ?chw20 ?_; (case chw20 => omega)) | (with_reducible refine cle_f ?chw20 ?_; (case chw20 => omega)))
  k_with "compareOp Gt int int" => (k_here; first | (with_reducible refine cgt_t ?chw21 ?_; (case chw21 => omega)) | (with_reducible refine cgt_f ?chw21 ?_; (case chw21 => omega)))
  k_with "compareOp GtE int int" => (k_here; first | (with_reducible refine cge_t ?chw22 ?_; (case chw22 => omega)) | (with_reducible refine cge_f ?chw22 ?_; (case chw22 => omega)))
  k_with "call type:int" => (k_here; (with_reducible show wpAny _ _ (call (Value.type "int") [Value.bool _]) _ _ _); (first | (with_reducible refine int_bf ?_) | (with_reducible refine int_bt ?_) | (with_reducible refine int_bb (by assumption) ?_)); intro t' tk')
  k_with "call builtin:max" => (k_here; (with_reducible show wpAny _ _ (call (Value.builtin _) [Value.int _ _, Value.int _ _]) _ _ _); k_dflt (refine' max2 ?hhw24 ?k1w24 ?k2w24 ?k3w24 ?_; (case hhw24 => with_unfolding_all rfl); (case k1w24 => k_asm); (case k2w24 => k_asm); (case k3w24 => first | exact (Int.max_eq_left (by omega)).symm | exact (Int.max_eq_right (by omega)).symm | exact rfl); k_whole); intro t' h' tk' F' N'; (try k_sweep))
  k_with "call builtin:min" => (k_here; (with_reducible show wpAny _ _ (call (Value.builtin _) [Value.int _ _, Value.int _ _]) _ _ _); k_dflt (refine' min2 ?hhw25 ?k1w25 ?k2w25 ?k3w25 ?_; (case hhw25 => with_unfolding_all rfl); (case k1w25 => k_asm); (case k2w25 => k_asm); (case k3w25 => first | exact (Int.min_eq_left (by omega)).symm | exact (Int.min_eq_right (by omega)).symm | exact rfl); k_whole); intro t' h' tk' F' N'; (try k_sweep))
  k_with "call builtin:min" => (k_here; (with_reducible show wpAny _ _ (call (Value.builtin _) [Value.int _ _, Value.int _ _, Value.int _ _]) _ _ _); k_dflt (refine' min3 ?hhw26 ?k1w26 ?k2w26 ?k3w26 ?_; (case hhw26 => with_unfolding_all rfl); (case k1w26 => k_asm); (case k2w26 => k_asm); (case k3w26 => first | exact m3a (by omega) | exact m3b (by omega) | exact m3c (by omega) | exact rfl); k_whole); intro t' h' tk' F' N'; (try k_sweep))
  k_with "ne" => (refine neN ?_; (try dsimp only); first | (k_extra "ord") | omega)
  trivial
open Builtin Builtin.ObjectAttr
abbrev excFresh (C T : Addr) (dx : Option Addr) : Obj := { cls := .ref C, dict := dx, data := .fields #[.ref T, .none, .none, .none, .bool false, .none] }
abbrev tupObj (l : List Value) : Obj := { cls := .type "tuple", data := .seq l.toArray }

section
variable {prog : Program} {w : World} {A : Around} {R : Result → Shared → Prop} {h : Heap} {g : Array GenState} {d : Drawn} {t : Nat} {os : OsState}
variable {nm q : Str} {C N : Addr} {bs bm bmB : List Value} {hdct : Bool} {sn : List Str} {sub : List Value} {ab : Bool} {col : Option Bool} {dd : Option Addr} {k0 k1 k2 k3 k5 : Option Value} {B newId initId : String}

theorem x_new (F : ExcBaseFacts B newId initId bmB) {rest : List Value} (hcB : (Value.ref C :: bm).contains (.type B) = true) (hcA : (Value.ref C :: bm).contains (.type "AttributeError") = false) (hcN : (Value.ref C :: bm).contains (.type "NameError") = false)
    (hC : h.get? C = some (excClassObj nm q C N bs bm hdct sn sub ab col dd k0 k1 k2 k3 k5 newId)) (hrest : rest.length ≤ sizeLine)
    (hq : R (.ok (.ret (.ref (h.objs.size + 1)))) ⟨(h.push (tupObj rest)).push (excFresh C h.objs.size none), g, d, t, os⟩) :
    codeAny (model prog w) A (.call (.builtin newId) ⟨.ref C :: rest, []⟩) R ⟨h, g, d, t, os⟩ := by
  have hstar := F.noStar
  refine codeAny_call_builtin_code (Code.quiet_builtin _ F.quiet) ?_
  simp only [checkBuiltinCall, F.newKind, F.newSplit, F.newRow]
  repeat (first | with_reducible refine wpAny_loadPart_at hC ?_ | (with_reducible refine wpAny_isSubtype_exc hC ?_; rw [hcB]) | with_reducible refine wpAny_staticBase_exc hC ?_ | with_reducible refine wpAny_madeBy_exc hC ?_ | simp only [bne_self_eq_false, Bool.false_eq_true, if_false] | wp_step)
  have hends := F.ends
  refine codeAny_builtinAt F.entry ?_
  unfold Builtin.«BaseException.__new__»
  refine PySem.wpAt_bind ?_
  show PySem.wpAt _ _ _ (stack >>= _) _ _ _
  refine PySem.wpAt_bind (PySem.wpAt_stack fun p below => PySem.wpAt_of_wpAny ?_)
  wp_walk
  refine PySem.wpAt_of_wpAny ?_
  rw [F.owner]
  repeat (first | with_reducible refine wpAny_madeHere_exc F.canon hC ?_ | with_reducible refine wpAny_loadPart_at hC ?_ | (with_reducible refine wpAny_isSubtype_exc hC ?_; first | rw [hcB] | rw [hcA] | rw [hcN]) | wp_step)
  show R _ _
  rw [Heap.size_push]
  exact hq

theorem x_core {rest : List Value} {init : Value} (F : ExcBaseFacts B newId initId bmB) (hcB : (Value.ref C :: bm).contains (.type B) = true) (hcA : (Value.ref C :: bm).contains (.type "AttributeError") = false) (hcN : (Value.ref C :: bm).contains (.type "NameError") = false)
    (hC : h.get? C = some (excClassObj nm q C N bs bm hdct sn sub ab col dd k0 k1 k2 k3 k5 newId)) (hrest : rest.length ≤ sizeLine)
    (call : Looks (model prog w) h (specialOf (.ref C) "__call__") (some (.builtin "type.__call__"))) (typ : Looks (model prog w) h (isInstance (.ref C) (.type "type")) true)
    (hi : Looks (model prog w) h (typeLookup (.ref C) "__init__") (some init)) (hb : ∀ self, Looks (model prog w) h (bindSpecial init self) (init, [self]))
    (hq : codeAny (model prog w) (A.under (.builtin "type.__call__" ⟨.ref C :: rest, []⟩)) (.call init ⟨.ref (h.objs.size + 1) :: rest, []⟩) (InitBack (h.objs.size + 1) R) ⟨(h.push (tupObj rest)).push (excFresh C h.objs.size none), g, d, t, os⟩) :
    codeAny (model prog w) A (.call (.ref C) ⟨rest, []⟩) R ⟨h, g, d, t, os⟩ := by
  refine codeAny_of_tree ?_
  show wpAny _ _ (callAny (.ref C) _) _ _ _
  refine nd_load hC ?_
  show wpAny _ _ (callAny.viaDunder (.ref C) _) _ _ _
  unfold callAny.viaDunder
  refine wpAny_bind (call.at ?_)
  dsimp only
  rw [tc_bind]
  refine wpAny_bind (wpAny_pure (wpAny_bind (wpAny_pure ?_)))
  refine wpAny_pure (a := Fin.again (.call (.builtin "type.__call__") ⟨.ref C :: rest, []⟩)) (And.intro rfl ?_)
  refine codeAny_call_builtin_at (b := Builtin.«type.__call__») ?hq9 entry_typeCall ?_
  case hq9 => exact Code.quiet_builtin _ (by decide +kernel)
  with_reducible refine check_slot (owner := "type") (n := "__call__") tc_kind tc_split typ (tc_args _ _ _) ?_
  unfold Builtin.«type.__call__»
  repeat (first | with_reducible refine wpAny_loadPart_at hC ?_ | with_reducible refine wpAny_madeBy_exc hC ?_ | wp_step)
  refine x_new F hcB hcA hcN hC hrest ?_
  show wpAny _ _ _ _ _ _
  have k : ∀ b o, h.get? b = some o → ((h.push (tupObj rest)).push (excFresh C h.objs.size none)).get? b = some o := fun b o e => Heap.get?_push_of_some _ (Heap.get?_push_of_some _ e)
  have hx : ((h.push (tupObj rest)).push (excFresh C h.objs.size none)).get? (h.objs.size + 1) = some (excFresh C h.objs.size none) := by heap_get
  have t1 : Looks (model prog w) ((h.push (tupObj rest)).push (excFresh C h.objs.size none)) (typeOf (.ref (h.objs.size + 1))) (.ref C) := (Looks.ld hx).andThen .now
  have hcC : (Value.ref C :: bm).contains (.ref C) = true := by simp
  have hC₁ := k _ _ hC
  have i1 := hi.keeps k
  have b1 := (hb (.ref (h.objs.size + 1))).keeps k
  unfold isInstance callSpecial? specialOf
  repeat (first | (with_reducible refine wpAny_isSubtype_exc hC₁ ?_; rw [hcC]) | with_reducible refine wpAny_call ?_ | lk)
  refine codeAny_mono hq fun r s' z => ?_
  rcases r with e | (v | _ | _ | _) <;> first | exact z | exact z.elim | skip
  obtain ⟨rfl, z⟩ := z
  exact wpAny_pure (wpAny_pure z)
end
end
end Mine
-- part Exd
namespace Mine
section
theorem ln1_7abe0c : True := by
  k_with_none
  k_with "callWith ref" => (k_here; (with_reducible rename Fr _ _ _ _ => kF); (with_reducible rename Frag.In _ _ => kX); first | ((with_reducible show wpAny _ _ (callWith _ _ _ (backTo _ (starEach [] _)) []) _ _ _); k_dflt (refine' callWith_K0 (Frag.In.keeps kX (Fr.keep kF)) ?k2w1 ?_; (case k2w1 => k_is); k_whole)) | ((with_reducible show wpAny _ _ (callWith _ _ _ (backTo _ (starEach (_ :: _) _)) []) _ _ _); k_dflt (refine' callWith_K kX ?k2w1 ?_; (case k2w1 => k_is); k_whole)))
  k_with "eval Name" => (k_here; (fail_if_success (with_reducible show wpAny _ _ (eval (Expr.Name _ _) (compEnvC _ _ _ _)) _ _ _)); k_dflt (first | (refine' nameX_L ?Fw2 ?vw2 ?_ ?aw2 ?bw2; (case bw2 => kernel_rfl!); (case aw2 => kernel_rfl!); (case Fw2 => k_asm); (case vw2 => rfl); k_whole) | (refine' nameX_K ?Fw2 ?Xw2 ?Tw2 ?ew2 ?_ ?aw2 ?bw2; (case bw2 => kernel_rfl!); (case aw2 => kernel_rfl!); (case Fw2 => k_asm); (case Xw2 => k_asm); (case Tw2 => k_asm); (case ew2 => k_is); k_whole) | (refine' nameX_B ?Fw2 ?Xw2 ?Tw2 ?ew2 ?vw2 ?nw2 ?_ ?aw2 ?bw2; (case bw2 => kernel_rfl!); (case aw2 => kernel_rfl!); (case Fw2 => k_asm); (case Xw2 => k_asm); (case Tw2 => k_asm); (case ew2 => k_is); (case vw2 => boot_fast); (case nw2 => decide); k_whole) | (refine' nameX_C ?Nw2 ?cw2 ?mw2 ?dw2 ?_ ?aw2 ?bw2; (case bw2 => kernel_rfl!); (case aw2 => kernel_rfl!); (case Nw2 => k_asm); (case cw2 => rfl); (case mw2 => k_mem); (case dw2 => k_asm); k_whole) | (refine' nameX_F ?Nw2 ?cw2 ?mw2 ?dw2 ?_ ?aw2 ?bw2; (case bw2 => kernel_rfl!); (case aw2 => kernel_rfl!); (case Nw2 => k_asm); (case cw2 => rfl); (case mw2 => k_mem); (case dw2 => k_asm); k_whole)))
  k_with "ord" => ((with_reducible rename DifO _ => hO9); (first | refine' hO9 0 _ _ _ rfl ?hbw3 ?hcw3 | refine' hO9 1 _ _ _ rfl ?hbw3 ?hcw3 | refine' hO9 2 _ _ _ rfl ?hbw3 ?hcw3 | refine' hO9 3 _ _ _ rfl ?hbw3 ?hcw3 | refine' hO9 4 _ _ _ rfl ?hbw3 ?hcw3 | refine' hO9 5 _ _ _ rfl ?hbw3 ?hcw3); (case hbw3 => first | exact (rfl : (_ : List Addr)[0]? = _) | exact (rfl : (_ : List Addr)[1]? = _) | exact (rfl : (_ : List Addr)[2]? = _) | exact (rfl : (_ : List Addr)[3]? = _) | exact (rfl : (_ : List Addr)[4]? = _) | exact (rfl : (_ : List Addr)[5]? = _)); (case hcw3 => exact rfl))
  k_with "nst" => ((with_reducible show wpAny _ _ _ _ _ (Shared.mk _ _ _ _ _)); refine' nst ?kew4 ?_; (case kew4 => (dsimp only; exact rfl)))
  k_with "all" => (first | exact neNil | (refine' neC ?aw5 ?bw5; (case aw5 => k_ne); (case bw5 => k_all)))
  k_with "room" => (first | exact room_ (by assumption) (by exact rfl) | exact room0 (by assumption) (by exact rfl) | ((try simp only [depth_under_make, depth_under_kw, depth_in1, depth_deeper, depth_caller]); (try dsimp only [ktrTop]); omega))
  k_with "units" => (first | exact room_ (by assumption) (by exact rfl) | exact room0 (by assumption) (by exact rfl) | ((try simp only [units_in1, units_deeper, Around.mark_units, units_caller]); (try dsimp only [ktrTop]); omega))
  k_with "execs cons" => ((first | (with_reducible refine execs_T ?_; intro tk) | refine wpAny_execs_cons ?_); (try k_fold))
  k_with "getAttr ref" => (k_here; k_dflt (refine' oget ?k1w9 ?k2w9 ?k3w9 ?k4w9 ?k5w9 ?k6w9 ?k7w9 ?k8w9 ?k9w9 ?_; (case k1w9 => k_asm); (case k2w9 => k_asm); (case k3w9 => k_inst); (case k4w9 => k_is); (case k5w9 => k_is); (case k6w9 => k_is); (case k7w9 => k_is); (case k8w9 => k_get); (case k9w9 => k_handed); k_whole))
  k_with "storeName" => (k_here; k_dflt (refine' ostore ?kFw10 ?kNw10 ?_ ?kaw10 ?kbw10; (case kaw10 => rfl); (case kbw10 => rfl); (case kFw10 => k_asm); (case kNw10 => k_asm); k_whole; intro h' m9 F' N'; (try k_sweep)))
  k_with "eval Constant int" => (refine cint ?_)
  k_with "eval Constant bytes" => (refine cbytes ?_)
  k_with "binaryOp Mod int int" => (k_here; (with_reducible refine mod_pos ?kbw13 ?_); (case kbw13 => omega); intro t' tk')
  k_with "binaryOp FloorDiv int int" => (k_here; (with_reducible refine div_pos ?kbw14 ?kpw14 ?_); (case kbw14 => omega); (case kpw14 => omega); intro t' tk')
  k_with "binaryOp Mult int int" => (k_here; (with_reducible refine mul_small ?kbw15 ?_); (case kbw15 => omega); intro t' tk')
  k_with "subscriptTail Name Constant ref int" => (k_here; (with_reducible show wpAny _ _ (subscriptTail _ _ (Value.ref _) (Value.int _ _)) _ _ _); k_dflt (first | ((with_reducible show wpAny _ _ (subscriptTail _ _ (Value.ref _) (Value.int 0 _)) _ _ _); refine' item_0 ?Nw16 ?mw16 ?_ ?hsw16; (case Nw16 => k_asm); (case mw16 => k_mem); (case hsw16 => with_unfolding_all rfl); k_whole) | ((with_reducible show wpAny _ _ (subscriptTail _ _ (Value.ref _) (Value.int 1 _)) _ _ _); refine' item_1 ?Nw16 ?mw16 ?_ ?hsw16; (case Nw16 => k_asm); (case mw16 => k_mem); (case hsw16 => with_unfolding_all rfl); k_whole)))
  k_with "compareOp Eq int int" => (k_here; first | (with_reducible refine ceq_t ?chw17 ?_; (case chw17 => omega)) | (with_reducible refine ceq_f ?chw17 ?_; (case chw17 => omega)))
  k_with "compareOp NotEq int int" => (k_here; first | (with_reducible refine cne_t ?chw18 ?_; (case chw18 => omega)) | (with_reducible refine cne_f ?chw18 ?_; (case chw18 => omega)))
  k_with "compareOp Lt int int" => (k_here; first | (with_reducible refine clt_t ?chw19 ?_; (case chw19 => omega)) | (with_reducible refine clt_f ?chw19 ?_; (case chw19 => omega)))
  k_with "compareOp LtE int int" => (k_here; first | (with_reducible refine cle_t ?chw20 ?_; (case chw20 => omega)) | (with_reducible refine cle_f ?chw20 ?_; (case chw20 => omega)))
  k_with "compareOp Gt int int" => (k_here; first | (with_reducible refine cgt_t ?chw21 ?_; (case chw21 => omega)) | (with_reducible refine cgt_f ?chw21 ?_; (case chw21 => omega)))
  k_with "compareOp GtE int int" => (k_here; first | (with_reducible refine cge_t ?chw22 ?_; (case chw22 => omega)) | (with_reducible refine cge_f ?chw22 ?_; (case chw22 => omega)))
  k_with "call type:int" => (k_here; (with_reducible show wpAny _ _ (call (Value.type "int") [Value.bool _]) _ _ _); (first | (with_reducible refine int_bf ?_) | (with_reducible refine int_bt ?_) | (with_reducible refine int_bb (by assumption) ?_)); intro t' tk')
  k_with "call builtin:max" => (k_here; (with_reducible show wpAny _ _ (call (Value.builtin _) [Value.int _ _, Value.int _ _]) _ _ _); k_dflt (refine' max2 ?hhw24 ?k1w24 ?k2w24 ?k3w24 ?_; (case hhw24 => with_unfolding_all rfl); (case k1w24 => k_asm); (case k2w24 => k_asm); (case k3w24 => first | exact (Int.max_eq_left (by omega)).symm | exact (Int.max_eq_right (by omega)).symm | exact rfl); k_whole); intro t' h' tk' F' N'; (try k_sweep))
  k_with "call builtin:min" => (k_here; (with_reducible show wpAny _ _ (call (Value.builtin _) [Value.int _ _, Value.int _ _]) _ _ _); k_dflt (refine' min2 ?hhw25 ?k1w25 ?k2w25 ?k3w25 ?_; (case hhw25 => with_unfolding_all rfl); (case k1w25 => k_asm); (case k2w25 => k_asm); (case k3w25 => first | exact (Int.min_eq_left (by omega)).symm | exact (Int.min_eq_right (by omega)).symm | exact rfl); k_whole); intro t' h' tk' F' N'; (try k_sweep))
  k_with "call builtin:min" => (k_here; (with_reducible show wpAny _ _ (call (Value.builtin _) [Value.int _ _, Value.int _ _, Value.int _ _]) _ _ _); k_dflt (refine' min3 ?hhw26 ?k1w26 ?k2w26 ?k3w26 ?_; (case hhw26 => with_unfolding_all rfl); (case k1w26 => k_asm); (case k2w26 => k_asm); (case k3w26 => first | exact m3a (by omega) | exact m3b (by omega) | exact m3c (by omega) | exact rfl); k_whole); intro t' h' tk' F' N'; (try k_sweep))
  k_with "ne" => (refine neN ?_; (try dsimp only); first | (k_extra "ord") | omega)
  trivial
open Builtin Builtin.ObjectAttr
section
variable {prog : Program} {w : World} {A : Around} {E : Value → Shared → Prop} {s : Shared} {K : Frag} {x C C2 T : Addr} {name : Str} {v : Value} {Q : Unit → Shared → Prop}

theorem osa_exc {R : Result → Shared → Prop} {tk : Tok} (X : K.In s.heap) (hx : s.heap.get? x = some (excFresh C T none))
    (hc : (clsIn K C).any (fun cd => cd.mro == [.ref C, .ref C2, .type "Exception", .type "BaseException", .type "object"] && cd.hasDict) = true) (ht : takerIn K C name = some none)
    (h : ∀ h' tk' D, (∀ b o, b ≠ x → s.heap.get? b = some o → h'.get? b = some o) → h'.get? x = some (excFresh C T (some D)) → R (.ok (.ret .none)) { s with heap := h', toks := tk' }) :
    codeAny (model prog w) A (.call (.builtin "object.__setattr__") ⟨[.ref x, .str name tk, v], []⟩) R s := by
  have I : InstAt s.heap x (excFresh C T none) C none := ⟨hx, rfl, rfl, trivial⟩
  obtain ⟨cd, hc1, hc2⟩ := any_some hc
  simp only [Bool.and_eq_true, beq_iff_eq] at hc2
  obtain ⟨hm, hd⟩ := hc2
  have SF := PySem.F.store_object
  have sub : Looks (model prog w) s.heap (isInstance (.ref x) (.type "object")) true := I.type.andThen (looks_mroIn X (by unfold mroIn; rw [hc1, Option.bind_some, hm]; simp))
  obtain ⟨hh, g, d, t, os⟩ := s
  refine codeAny_call_builtin SF.slot.plain SF.entry (@check_slot (model prog w) _ _ _ "object.__setattr__" "object" "__setattr__" (.ref x) [.str name _, v] [] _ SF.kind SF.split sub (SF.args _ _ _) ?_)
  obtain ⟨attr, ha, hr⟩ := Option.bind_eq_some_iff.mp ht
  have hm' : Looks (model prog w) hh (mroOf (.ref C)) cd.mro := (looks_clsIn X hc1).andThen .now
  have L3 : Looks (model prog w) hh (storeTaker? attr) none := by
    cases attr with
    | none => exact .now
    | some a =>
      obtain ⟨b, hb, hbn⟩ := Option.map_eq_some_iff.mp hr
      refine (looks_takesIn X hb).andThen ?_
      cases b with
      | false => exact .now
      | true => cases hbn
  rw [osa_eq, refuse_eq]
  refine wpAny_bind (wpAny_bind (I.type.here (wpAny_bind (hm'.here ?_))))
  rw [hm, refuseLoop_ref, refuseLoop_ref, PySem.F.store_Exception.passes]
  refine wpAny_pure (wpAny_bind (I.type.here (wpAny_bind ((looks_findIn X ha).here (wpAny_bind (L3.here ?_))))))
  dsimp only
  unfold storeInOwnDict
  refine wpAny_bind (wpAny_pure (wpAny_bind ?_))
  show wpAny _ _ (instanceDict x true) _ _ _
  unfold instanceDict
  refine wpAny_bind (wpAny_loadPart hx (wpAny_bind ((looks_clsIn X hc1).here ?_)))
  rw [hd]
  dsimp only
  rw [if_neg (by simp [typeHasDict])]
  have hx₁ : (hh.push { cls := .type "dict", data := .dict #[] }).get? x = some (excFresh C T none) := Heap.get?_push_of_some _ hx
  have hxs : x ≠ hh.objs.size := Nat.ne_of_lt (Heap.lt_size hx)
  refine wpAny_bind (wpAny_alloc' ?_)
  refine wpAny_bind (wpAny_update' hx₁ ?_)
  refine wpAny_pure ?_
  have hgd : ((hh.push { cls := .type "dict", data := .dict #[] }).update x fun o => { cls := o.cls, dict := some hh.objs.size, data := o.data, slots := o.slots }).get? hh.objs.size
      = some { cls := .type "dict", data := .dict #[] } :=
    (Heap.get?_update_ne _ _ _ _ hxs.symm).trans (Heap.get?_push_at rfl rfl)
  have hnd : ((hh.push { cls := .type "dict", data := .dict #[] }).update x fun o => { cls := o.cls, dict := some hh.objs.size, data := o.data, slots := o.slots }).Ns hh.objs.size (fun _ => none) :=
    ⟨_, #[], _, hgd, rfl, fun e he => absurd he (by simp), fun _ => rfl⟩
  show wpAny _ _ (storeInDict hh.objs.size (.str name _) name v) _ _ _
  unfold storeInDict newKeyGuard
  refine wpAny_bind (wpAny_pure (wpAny_bind (wpAny_nsSet1 (Heap.Ns1.of_empty hnd) fun h' hn' hs => ?_)))
  obtain ⟨oD, esD, epD, hoD, hdD, hcD⟩ := hn'.count (Within.cons name v Within.nil)
  refine wpAny_bind (wpAny_lookBehind hoD (by rw [hdD]; exact pastItsLine_dict (Nat.le_trans hcD (by rw [List.length_cons, List.length_nil, sizeLine_eq]; omega))) ?_)
  refine wpAny_pure ?_
  refine h h' _ hh.objs.size (fun b ob hbx hb => ?_) ?_
  · exact (hs.2 b (Nat.ne_of_lt (Heap.lt_size hb))).trans ((Heap.get?_update_ne _ _ _ _ hbx).trans (Heap.get?_push_of_some _ hb))
  · exact (hs.2 x hxs).trans (Heap.get?_update_self _ hx₁ rfl)

theorem set_exc (X : K.In s.heap) (hx : s.heap.get? x = some (excFresh C T none)) (hs : findIn K (.ref C) "__setattr__" = some (some (.builtin "object.__setattr__")))
    (hc : (clsIn K C).any (fun cd => cd.mro == [.ref C, .ref C2, .type "Exception", .type "BaseException", .type "object"] && cd.hasDict) = true) (ht : takerIn K C name = some none)
    (h : ∀ h' tk' D, (∀ b o, b ≠ x → s.heap.get? b = some o → h'.get? b = some o) → h'.get? x = some (excFresh C T (some D)) → Q () { s with heap := h', toks := tk' }) :
    wpAny (model prog w) A (setAttr (.ref x) name v) Q E s :=
  set_plain X (⟨hx, rfl, rfl, trivial⟩ : InstAt s.heap x (excFresh C T none) C none) hs (osa_exc (s := { s with toks := s.toks + 1 }) X hx hc ht fun h' tk' D a b => h h' tk' D a b)
end
end
end Mine
-- part Exe
namespace Mine
section
theorem ln1_29d6fb : True := by
  k_with_none
  k_with "callWith ref" => (k_here; (with_reducible rename Fr _ _ _ _ => kF); (with_reducible rename Frag.In _ _ => kX); first | ((with_reducible show wpAny _ _ (callWith _ _ _ (backTo _ (starEach [] _)) []) _ _ _); k_dflt (refine' callWith_K0 (Frag.In.keeps kX (Fr.keep kF)) ?k2w1 ?_; (case k2w1 => k_is); k_whole)) | ((with_reducible show wpAny _ _ (callWith _ _ _ (backTo _ (starEach (_ :: _) _)) []) _ _ _); k_dflt (refine' callWith_K kX ?k2w1 ?_; (case k2w1 => k_is); k_whole)))
  k_with "eval Name" => (k_here; (fail_if_success (with_reducible show wpAny _ _ (eval (Expr.Name _ _) (compEnvC _ _ _ _)) _ _ _)); k_dflt (first | (refine' nameX_L ?Fw2 ?vw2 ?_ ?aw2 ?bw2; (case bw2 => kernel_rfl!); (case aw2 => kernel_rfl!); (case Fw2 => k_asm); (case vw2 => rfl); k_whole) | (refine' nameX_K ?Fw2 ?Xw2 ?Tw2 ?ew2 ?_ ?aw2 ?bw2; (case bw2 => kernel_rfl!); (case aw2 => kernel_rfl!); (case Fw2 => k_asm); (case Xw2 => k_asm); (case Tw2 => k_asm); (case ew2 => k_is); k_whole) | (refine' nameX_B ?Fw2 ?Xw2 ?Tw2 ?ew2 ?vw2 ?nw2 ?_ ?aw2 ?bw2; (case bw2 => kernel_rfl!); (case aw2 => kernel_rfl!); (case Fw2 => k_asm); (case Xw2 => k_asm); (case Tw2 => k_asm); (case ew2 => k_is); (case vw2 => boot_fast); (case nw2 => decide); k_whole) | (refine' nameX_C ?Nw2 ?cw2 ?mw2 ?dw2 ?_ ?aw2 ?bw2; (case bw2 => kernel_rfl!); (case aw2 => kernel_rfl!); (case Nw2 => k_asm); (case cw2 => rfl); (case mw2 => k_mem); (case dw2 => k_asm); k_whole) | (refine' nameX_F ?Nw2 ?cw2 ?mw2 ?dw2 ?_ ?aw2 ?bw2; (case bw2 => kernel_rfl!); (case aw2 => kernel_rfl!); (case Nw2 => k_asm); (case cw2 => rfl); (case mw2 => k_mem); (case dw2 => k_asm); k_whole)))
  k_with "ord" => ((with_reducible rename DifO _ => hO9); (first | refine' hO9 0 _ _ _ rfl ?hbw3 ?hcw3 | refine' hO9 1 _ _ _ rfl ?hbw3 ?hcw3 | refine' hO9 2 _ _ _ rfl ?hbw3 ?hcw3 | refine' hO9 3 _ _ _ rfl ?hbw3 ?hcw3 | refine' hO9 4 _ _ _ rfl ?hbw3 ?hcw3 | refine' hO9 5 _ _ _ rfl ?hbw3 ?hcw3); (case hbw3 => first | exact (rfl : (_ : List Addr)[0]? = _) | exact (rfl : (_ : List Addr)[1]? = _) | exact (rfl : (_ : List Addr)[2]? = _) | exact (rfl : (_ : List Addr)[3]? = _) | exact (rfl : (_ : List Addr)[4]? = _) | exact (rfl : (_ : List Addr)[5]? = _)); (case hcw3 => exact rfl))
  k_with "nst" => ((with_reducible show wpAny _ _ _ _ _ (Shared.mk _ _ _ _ _)); refine' nst ?kew4 ?_; (case kew4 => (dsimp only; exact rfl)))
  k_with "all" => (first | exact neNil | (refine' neC ?aw5 ?bw5; (case aw5 => k_ne); (case bw5 => k_all)))
  k_with "room" => (first | exact room_ (by assumption) (by exact rfl) | exact room0 (by assumption) (by exact rfl) | ((try simp only [depth_under_make, depth_under_kw, depth_in1, depth_deeper, depth_caller]); (try dsimp only [ktrTop]); omega))
  k_with "units" => (first | exact room_ (by assumption) (by exact rfl) | exact room0 (by assumption) (by exact rfl) | ((try simp only [units_in1, units_deeper, Around.mark_units, units_caller]); (try dsimp only [ktrTop]); omega))
  k_with "execs cons" => ((first | (with_reducible refine execs_T ?_; intro tk) | refine wpAny_execs_cons ?_); (try k_fold))
  k_with "getAttr ref" => (k_here; k_dflt (refine' oget ?k1w9 ?k2w9 ?k3w9 ?k4w9 ?k5w9 ?k6w9 ?k7w9 ?k8w9 ?k9w9 ?_; (case k1w9 => k_asm); (case k2w9 => k_asm); (case k3w9 => k_inst); (case k4w9 => k_is); (case k5w9 => k_is); (case k6w9 => k_is); (case k7w9 => k_is); (case k8w9 => k_get); (case k9w9 => k_handed); k_whole))
  k_with "storeName" => (k_here; k_dflt (refine' ostore ?kFw10 ?kNw10 ?_ ?kaw10 ?kbw10; (case kaw10 => rfl); (case kbw10 => rfl); (case kFw10 => k_asm); (case kNw10 => k_asm); k_whole; intro h' m9 F' N'; (try k_sweep)))
  k_with "eval Constant int" => (refine cint ?_)
  k_with "eval Constant bytes" => (refine cbytes ?_)
  k_with "binaryOp Mod int int" => (k_here; (with_reducible refine mod_pos ?kbw13 ?_); (case kbw13 => omega); intro t' tk')
  k_with "binaryOp FloorDiv int int" => (k_here; (with_reducible refine div_pos ?kbw14 ?kpw14 ?_); (case kbw14 => omega); (case kpw14 => omega); intro t' tk')
  k_with "binaryOp Mult int int" => (k_here; (with_reducible refine mul_small ?kbw15 ?_); (case kbw15 => omega); intro t' tk')
  k_with "subscriptTail Name Constant ref int" => (k_here; (with_reducible show wpAny _ _ (subscriptTail _ _ (Value.ref _) (Value.int _ _)) _ _ _); k_dflt (first | ((with_reducible show wpAny _ _ (subscriptTail _ _ (Value.ref _) (Value.int 0 _)) _ _ _); refine' item_0 ?Nw16 ?mw16 ?_ ?hsw16; (case Nw16 => k_asm); (case mw16 => k_mem); (case hsw16 => with_unfolding_all rfl); k_whole) | ((with_reducible show wpAny _ _ (subscriptTail _ _ (Value.ref _) (Value.int 1 _)) _ _ _); refine' item_1 ?Nw16 ?mw16 ?_ ?hsw16; (case Nw16 => k_asm); (case mw16 => k_mem); (case hsw16 => with_unfolding_all rfl); k_whole)))
  k_with "compareOp Eq int int" => (k_here; first | (with_reducible refine ceq_t ?chw17 ?_; (case chw17 => omega)) | (with_reducible refine ceq_f ?chw17 ?_; (case chw17 => omega)))
  k_with "compareOp NotEq int int" => (k_here; first | (with_reducible refine cne_t ?chw18 ?_; (case chw18 => omega)) | (with_reducible refine cne_f ?chw18 ?_; (case chw18 => omega)))
  k_with "compareOp Lt int int" => (k_here; first | (with_reducible refine clt_t ?chw19 ?_; (case chw19 => omega)) | (with_reducible refine clt_f ?chw19 ?_; (case chw19 => omega)))
  k_with "compareOp LtE int int" => (k_here; first | (with_reducible refine cle_t ?chw20 ?_; (case chw20 => omega)) | (with_reducible refine cle_f ?chw20 ?_; (case chw20 => omega)))
  k_with "compareOp Gt int int" => (k_here; first | (with_reducible refine cgt_t ?chw21 ?_; (case chw21 => omega)) | (with_reducible refine cgt_f ?chw21 ?_; (case chw21 => omega)))
  k_with "compareOp GtE int int" => (k_here; first | (with_reducible refine cge_t ?chw22 ?_; (case chw22 => omega)) | (with_reducible refine cge_f ?chw22 ?_; (case chw22 => omega)))
  k_with "call type:int" => (k_here; (with_reducible show wpAny _ _ (call (Value.type "int") [Value.bool _]) _ _ _); (first | (with_reducible refine int_bf ?_) | (with_reducible refine int_bt ?_) | (with_reducible refine int_bb (by assumption) ?_)); intro t' tk')
  k_with "call builtin:max" => (k_here; (with_reducible show wpAny _ _ (call (Value.builtin _) [Value.int _ _, Value.int _ _]) _ _ _); k_dflt (refine' max2 ?hhw24 ?k1w24 ?k2w24 ?k3w24 ?_; (case hhw24 => with_unfolding_all rfl); (case k1w24 => k_asm); (case k2w24 => k_asm); (case k3w24 => first | exact (Int.max_eq_left (by omega)).symm | exact (Int.max_eq_right (by omega)).symm | exact rfl); k_whole); intro t' h' tk' F' N'; (try k_sweep))
  k_with "call builtin:min" => (k_here; (with_reducible show wpAny _ _ (call (Value.builtin _) [Value.int _ _, Value.int _ _]) _ _ _); k_dflt (refine' min2 ?hhw25 ?k1w25 ?k2w25 ?k3w25 ?_; (case hhw25 => with_unfolding_all rfl); (case k1w25 => k_asm); (case k2w25 => k_asm); (case k3w25 => first | exact (Int.min_eq_left (by omega)).symm | exact (Int.min_eq_right (by omega)).symm | exact rfl); k_whole); intro t' h' tk' F' N'; (try k_sweep))
  k_with "call builtin:min" => (k_here; (with_reducible show wpAny _ _ (call (Value.builtin _) [Value.int _ _, Value.int _ _, Value.int _ _]) _ _ _); k_dflt (refine' min3 ?hhw26 ?k1w26 ?k2w26 ?k3w26 ?_; (case hhw26 => with_unfolding_all rfl); (case k1w26 => k_asm); (case k2w26 => k_asm); (case k3w26 => first | exact m3a (by omega) | exact m3b (by omega) | exact m3c (by omega) | exact rfl); k_whole); intro t' h' tk' F' N'; (try k_sweep))
  k_with "ne" => (refine neN ?_; (try dsimp only); first | (k_extra "ord") | omega)
  trivial
open Builtin Builtin.ObjectAttr
def excOwn (K : Frag) (C : Addr) (newId : String) : Prop := ∃ nm q N bs bm hdct sn sub ab col dd k0 k1 k2 k3 k5, K.lookup C = some (excClassObj nm q C N bs bm hdct sn sub ab col dd k0 k1 k2 k3 k5 newId) ∧
    (Value.ref C :: bm).contains (.type "Exception") = true ∧ bm.contains (.type "BaseException") = true ∧ (Value.ref C :: bm).contains (.type "AttributeError") = false ∧ (Value.ref C :: bm).contains (.type "NameError") = false
structure ExcC (h : Heap) (C : Addr) (newId : String) : Prop where
  obj : ∃ nm q N bs bm hdct sn sub ab col dd k0 k1 k2 k3 k5, h.get? C = some (excClassObj nm q C N bs bm hdct sn sub ab col dd k0 k1 k2 k3 k5 newId) ∧
    (Value.ref C :: bm).contains (.type "Exception") = true ∧ bm.contains (.type "BaseException") = true ∧ (Value.ref C :: bm).contains (.type "AttributeError") = false ∧ (Value.ref C :: bm).contains (.type "NameError") = false
theorem excC_of {K : Frag} {h : Heap} {C : Addr} {newId : String} (X : K.In h) (q : excOwn K C newId) : ExcC h C newId := by
  obtain ⟨nm, q, N, bs, bm, hdct, sn, sub, ab, col, dd, k0, k1, k2, k3, k5, ho, e⟩ := q
  exact ⟨nm, q, N, bs, bm, hdct, sn, sub, ab, col, dd, k0, k1, k2, k3, k5, X _ _ ho, e⟩

section
variable {prog : Program} {w : World} {A : Around} {K : Frag} {C x : Addr} {s : Shared} {h₀ : Heap} {L : Addr} {m : Str → Option Value} {news : List (Addr × Obj)} {R : Result → Shared → Prop}

theorem make_X {rest : List Value} {fI : Addr} (F : Fr h₀ L s.heap m) (N : News h₀ L s.heap news) (X : K.In s.heap) (hm : excOwn K C "Exception.__new__")
    (hcall : specialIn K (.ref C) "__call__" = some (some (.builtin "type.__call__"))) (htyp : instIn K (.ref C) (.type "type") = some true)
    (hi : findIn K (.ref C) "__init__" = some (some (.ref fI))) (hf : typeIn K (.ref fI) = some (.type "function")) (hrest : rest.length ≤ sizeLine)
    (h : ∀ x T h', Fr h₀ L h' m → News h₀ L h' ((x, excFresh C T none) :: (T, tupObj rest) :: news) → (∀ p ∈ news, p.1 < T) → T < x →
      codeAny (model prog w) (A.under (.builtin "type.__call__" ⟨.ref C :: rest, []⟩)) (.call (.ref fI) ⟨.ref x :: rest, []⟩) (InitBack x R) { s with heap := h' }) :
    codeAny (model prog w) A (.call (.ref C) ⟨rest, []⟩) R s := by
  obtain ⟨hh, g, d, t, os⟩ := s
  obtain ⟨nm, q, N0, bs, bm, hdct, sn, sub, ab, col, dd, k0, k1, k2, k3, k5, hC, e1, _, e3, e4⟩ := (excC_of X hm).obj
  refine x_core PySem.F.excBase_Exception e1 e3 e4 hC hrest (looks_specialIn X hcall) (looks_instIn X htyp) (looks_findIn X hi) (fun self => bind_fn X self hf)
    (h _ hh.objs.size _ ((F.push _).push _) ?_ (fun p hp => Heap.lt_size (N p hp).1) (Nat.lt_succ_self _))
  have := (N.push F (tupObj rest)).push (F.push _) (excFresh C hh.objs.size none)
  rwa [Heap.size_push] at this

def ExcOut (K : Frag) (C : Addr) (E : Value → Shared → Prop) (v : Value) (s : Shared) : Prop :=
  ∃ e T D, v = .ref e ∧ K.In s.heap ∧ s.heap.get? e = some (excFresh C T (some D)) ∧ E (.ref e) s
def ArgsX (K : Frag) (M : Model) (A : Around) (C : Addr) (E : Value → Shared → Prop) (vs : List Value) (s : Shared) : Prop :=
  K.In s.heap ∧ wpAny M A (call (.ref C) vs) (ExcOut K C E) E s

theorem excOut_ {E : Value → Shared → Prop} {e T D : Addr} (F : Fr h₀ L s.heap m) (X : K.In h₀) (N : News h₀ L s.heap news) (hm : (e, excFresh C T (some D)) ∈ news) (h : E (.ref e) s) : ExcOut K C E (.ref e) s :=
  ⟨e, T, D, rfl, X.keeps F.keep, (N _ hm).1, h⟩
theorem argsX_ {M : Model} {E : Value → Shared → Prop} {vs : List Value} (F : Fr h₀ L s.heap m) (X : K.In h₀) (h : wpAny M A (call (.ref C) vs) (ExcOut K C E) E s) : ArgsX K M A C E vs s := ⟨X.keeps F.keep, h⟩

theorem call_X {rest : List Value} {fI : Addr} {Q E : Value → Shared → Prop} (F : Fr h₀ L s.heap m) (X₀ : K.In h₀) (N : News h₀ L s.heap news) (hm : excOwn K C "Exception.__new__")
    (hcall : specialIn K (.ref C) "__call__" = some (some (.builtin "type.__call__"))) (htyp : instIn K (.ref C) (.type "type") = some true)
    (hi : findIn K (.ref C) "__init__" = some (some (.ref fI))) (hf : isFn K (.ref fI) = true) (hrest : rest.length ≤ sizeLine)
    (h : ∀ x T h', Fr h₀ L h' m → News h₀ L h' ((x, excFresh C T none) :: (T, tupObj rest) :: news) → (∀ p ∈ news, p.1 < T) → T < x →
      codeAny (model prog w) (A.under (.builtin "type.__call__" ⟨.ref C :: rest, []⟩)) (.call (.ref fI) ⟨.ref x :: rest, []⟩) (InitBack x fun r s' => match r with | .ok (.ret v) => Q v s' | .ok _ => False | .error e => E e s') { s with heap := h' }) :
    wpAny (model prog w) A (call (.ref C) rest []) Q E s := wpAny_call (make_X F N (X₀.keeps F.keep) hm hcall htyp hi (beq_iff_eq.mp hf) hrest h)

theorem raise_X {E : Value → Shared → Prop} {name : Str} {scope : Scope} {a : Addr} {cd : Value} {mg mb : Str → Option Value} {p : Program} {loose : List Str} {y : Str} {np cpos pos : Pos} {e₀ : Expr} {rest : List Expr} {Q : Flow → Shared → Prop}
    (F : Fr h₀ L s.heap m) (X₀ : K.In h₀) (T : TopRead p loose mg mb h₀) (ex : nsIn K mainGlobals y = some (some (.ref C))) (hm : excOwn K C "Exception.__new__") (hh : A.handled = none)
    (h : wpAny (model prog w) A (spliced (backTo cpos (starEach (e₀ :: rest) (envOf name scope L a cd)))) (fun vs s₂ => ArgsX K (model prog w) A C E vs s₂) E s)
    (he : starEach (e₀ :: rest) (envOf name scope L a cd) = (false, eval e₀ (envOf name scope L a cd)) :: starEach rest (envOf name scope L a cd) := by rfl)
    (hplain : (backTo cpos (starEach rest (envOf name scope L a cd))).any (·.1) = false := by rfl)
    (hk : scope.kind = .function := by rfl) (hx : (envOf name scope L a cd).kindOf y = some .globalImplicit := by rfl) (hd : (y == ("__debug__" : Str)) = false := by decide) :
    wpAny (model prog w) A (exec (.Raise (some (.Call (.Name y np) (e₀ :: rest) [] cpos)) none pos) (envOf name scope L a cd)) Q E s := by
  have hplain' : (backTo cpos (starEach (e₀ :: rest) (envOf name scope L a cd))).any (·.1) = false := by
    rw [he]; show (false || (backTo cpos (starEach rest (envOf name scope L a cd))).any (·.1)) = false; rw [hplain]; rfl
  rw [arm_exec_Raise]
  refine wpAny_bind (wpAny_standAt ?_)
  unfold raiseStmt
  simp only [evalOpt, Option.map]
  have key : wpAny (model prog w) A (eval (.Call (.Name y np) (e₀ :: rest) [] cpos) (envOf name scope L a cd)) (ExcOut K C E) E s := by
    refine wpAny_Call_ofName (name_K F X₀ T ex ?_ hk hx hd)
    unfold callWith
    refine wpAny_bind (wpAny_holding ?_)
    rw [he] at h ⊢
    refine Calls.evalArgs_plain (wpAny_mono h (fun vs s₂ h₂ => wpAny_bind (wpAny_standAt ?_)) fun _ _ z => z)
    obtain ⟨X₂, h₂⟩ := h₂
    obtain ⟨hp, g, d, tk, os⟩ := s₂
    obtain ⟨nm, q, N0, bs, bm, hdct, sn, sub, ab, col, dd, k0, k1, k2, k3, k5, hC, e1, e2, e3, e4⟩ := (excC_of X₂ hm).obj
    rw [he] at hplain'
    simp only [hplain']
    refine wpAny_bind (wpAny_keeperOf_exc hC ?_)
    exact wpAny_bind (wpAny_mono h₂ (fun v s₃ h₃ => wpAny_bind (wpAny_holding (wpAny_point (wpAny_pure h₃)))) fun _ _ z => z)
  refine wpAny_bind (wpAny_bind (wpAny_mono key (fun v s₁ h₁ => wpAny_bind (wpAny_standAt (wpAny_pure ?_))) fun _ _ z => z))
  obtain ⟨e, T, D, rfl, X₁, he₁, hE⟩ := h₁
  obtain ⟨hp, g, d, tk, os⟩ := s₁
  obtain ⟨nm, q, N0, bs, bm, hdct, sn, sub, ab, col, dd, k0, k1, k2, k3, k5, hC, e1, e2, e3, e4⟩ := (excC_of X₁ hm).obj
  have hcB : (Value.ref C :: bm).contains (.type "BaseException") = true := by rw [List.contains_cons, e2, Bool.or_true]
  repeat (first | with_reducible refine wpAny_loadPart_at he₁ ?_ | with_reducible refine wpAny_loadPart_at hC ?_ | (with_reducible refine wpAny_isSubtype_exc hC ?_; rw [hcB]) | wp_step)
  exact wpAny_raiseNew_none hh hE
end
end
end Mine
-- part Exf
namespace Mine
section
theorem ln1_c3c24c : True := by
  k_with_none
  k_with "callWith ref" => (k_here; (with_reducible rename Fr _ _ _ _ => kF); (with_reducible rename Frag.In _ _ => kX); first | ((with_reducible show wpAny _ _ (callWith _ _ _ (backTo _ (starEach [] _)) []) _ _ _); k_dflt (refine' callWith_K0 (Frag.In.keeps kX (Fr.keep kF)) ?k2w1 ?_; (case k2w1 => k_is); k_whole)) | ((with_reducible show wpAny _ _ (callWith _ _ _ (backTo _ (starEach (_ :: _) _)) []) _ _ _); k_dflt (refine' callWith_K kX ?k2w1 ?_; (case k2w1 => k_is); k_whole)))
  k_with "eval Name" => (k_here; (fail_if_success (with_reducible show wpAny _ _ (eval (Expr.Name _ _) (compEnvC _ _ _ _)) _ _ _)); k_dflt (first | (refine' nameX_L ?Fw2 ?vw2 ?_ ?aw2 ?bw2; (case bw2 => kernel_rfl!); (case aw2 => kernel_rfl!); (case Fw2 => k_asm); (case vw2 => rfl); k_whole) | (refine' nameX_K ?Fw2 ?Xw2 ?Tw2 ?ew2 ?_ ?aw2 ?bw2; (case bw2 => kernel_rfl!); (case aw2 => kernel_rfl!); (case Fw2 => k_asm); (case Xw2 => k_asm); (case Tw2 => k_asm); (case ew2 => k_is); k_whole) | (refine' nameX_B ?Fw2 ?Xw2 ?Tw2 ?ew2 ?vw2 ?nw2 ?_ ?aw2 ?bw2; (case bw2 => kernel_rfl!); (case aw2 => kernel_rfl!); (case Fw2 => k_asm); (case Xw2 => k_asm); (case Tw2 => k_asm); (case ew2 => k_is); (case vw2 => boot_fast); (case nw2 => decide); k_whole) | (refine' nameX_C ?Nw2 ?cw2 ?mw2 ?dw2 ?_ ?aw2 ?bw2; (case bw2 => kernel_rfl!); (case aw2 => kernel_rfl!); (case Nw2 => k_asm); (case cw2 => rfl); (case mw2 => k_mem); (case dw2 => k_asm); k_whole) | (refine' nameX_F ?Nw2 ?cw2 ?mw2 ?dw2 ?_ ?aw2 ?bw2; (case bw2 => kernel_rfl!); (case aw2 => kernel_rfl!); (case Nw2 => k_asm); (case cw2 => rfl); (case mw2 => k_mem); (case dw2 => k_asm); k_whole)))
  k_with "ord" => ((with_reducible rename DifO _ => hO9); (first | refine' hO9 0 _ _ _ rfl ?hbw3 ?hcw3 | refine' hO9 1 _ _ _ rfl ?hbw3 ?hcw3 | refine' hO9 2 _ _ _ rfl ?hbw3 ?hcw3 | refine' hO9 3 _ _ _ rfl ?hbw3 ?hcw3 | refine' hO9 4 _ _ _ rfl ?hbw3 ?hcw3 | refine' hO9 5 _ _ _ rfl ?hbw3 ?hcw3); (case hbw3 => first | exact (rfl : (_ : List Addr)[0]? = _) | exact (rfl : (_ : List Addr)[1]? = _) | exact (rfl : (_ : List Addr)[2]? = _) | exact (rfl : (_ : List Addr)[3]? = _) | exact (rfl : (_ : List Addr)[4]? = _) | exact (rfl : (_ : List Addr)[5]? = _)); (case hcw3 => exact rfl))
  k_with "nst" => ((with_reducible show wpAny _ _ _ _ _ (Shared.mk _ _ _ _ _)); refine' nst ?kew4 ?_; (case kew4 => (dsimp only; exact rfl)))
  k_with "all" => (first | exact neNil | (refine' neC ?aw5 ?bw5; (case aw5 => k_ne); (case bw5 => k_all)))
  k_with "room" => (first | exact room_ (by assumption) (by exact rfl) | exact room0 (by assumption) (by exact rfl) | ((try simp only [depth_under_make, depth_under_kw, depth_in1, depth_deeper, depth_caller]); (try dsimp only [ktrTop]); omega))
  k_with "units" => (first | exact room_ (by assumption) (by exact rfl) | exact room0 (by assumption) (by exact rfl) | ((try simp only [units_in1, units_deeper, Around.mark_units, units_caller]); (try dsimp only [ktrTop]); omega))
  k_with "execs cons" => ((first | (with_reducible refine execs_T ?_; intro tk) | refine wpAny_execs_cons ?_); (try k_fold))
  k_with "getAttr ref" => (k_here; k_dflt (refine' oget ?k1w9 ?k2w9 ?k3w9 ?k4w9 ?k5w9 ?k6w9 ?k7w9 ?k8w9 ?k9w9 ?_; (case k1w9 => k_asm); (case k2w9 => k_asm); (case k3w9 => k_inst); (case k4w9 => k_is); (case k5w9 => k_is); (case k6w9 => k_is); (case k7w9 => k_is); (case k8w9 => k_get); (case k9w9 => k_handed); k_whole))
  k_with "storeName" => (k_here; k_dflt (refine' ostore ?kFw10 ?kNw10 ?_ ?kaw10 ?kbw10; (case kaw10 => rfl); (case kbw10 => rfl); (case kFw10 => k_asm); (case kNw10 => k_asm); k_whole; intro h' m9 F' N'; (try k_sweep)))
  k_with "eval Constant int" => (refine cint ?_)
  k_with "eval Constant bytes" => (refine cbytes ?_)
  k_with "binaryOp Mod int int" => (k_here; (with_reducible refine mod_pos ?kbw13 ?_); (case kbw13 => omega); intro t' tk')
  k_with "binaryOp FloorDiv int int" => (k_here; (with_reducible refine div_pos ?kbw14 ?kpw14 ?_); (case kbw14 => omega); (case kpw14 => omega); intro t' tk')
  k_with "binaryOp Mult int int" => (k_here; (with_reducible refine mul_small ?kbw15 ?_); (case kbw15 => omega); intro t' tk')
  k_with "subscriptTail Name Constant ref int" => (k_here; (with_reducible show wpAny _ _ (subscriptTail _ _ (Value.ref _) (Value.int _ _)) _ _ _); k_dflt (first | ((with_reducible show wpAny _ _ (subscriptTail _ _ (Value.ref _) (Value.int 0 _)) _ _ _); refine' item_0 ?Nw16 ?mw16 ?_ ?hsw16; (case Nw16 => k_asm); (case mw16 => k_mem); (case hsw16 => with_unfolding_all rfl); k_whole) | ((with_reducible show wpAny _ _ (subscriptTail _ _ (Value.ref _) (Value.int 1 _)) _ _ _); refine' item_1 ?Nw16 ?mw16 ?_ ?hsw16; (case Nw16 => k_asm); (case mw16 => k_mem); (case hsw16 => with_unfolding_all rfl); k_whole)))
  k_with "compareOp Eq int int" => (k_here; first | (with_reducible refine ceq_t ?chw17 ?_; (case chw17 => omega)) | (with_reducible refine ceq_f ?chw17 ?_; (case chw17 => omega)))
  k_with "compareOp NotEq int int" => (k_here; first | (with_reducible refine cne_t ?chw18 ?_; (case chw18 => omega)) | (with_reducible refine cne_f ?chw18 ?_; (case chw18 => omega)))
  k_with "compareOp Lt int int" => (k_here; first | (with_reducible refine clt_t ?chw19 ?_; (case chw19 => omega)) | (with_reducible refine clt_f ?chw19 ?_; (case chw19 => omega)))
  k_with "compareOp LtE int int" => (k_here; first | (with_reducible refine cle_t ?chw20 ?_; (case chw20 => omega)) | (with_reducible refine cle_f ?chw20 ?_; (case chw20 => omega)))
  k_with "compareOp Gt int int" => (k_here; first | (with_reducible refine cgt_t ?chw21 ?_; (case chw21 => omega)) | (with_reducible refine cgt_f ?chw21 ?_; (case chw21 => omega)))
  k_with "compareOp GtE int int" => (k_here; first | (with_reducible refine cge_t ?chw22 ?_; (case chw22 => omega)) | (with_reducible refine cge_f ?chw22 ?_; (case chw22 => omega)))
  k_with "call type:int" => (k_here; (with_reducible show wpAny _ _ (call (Value.type "int") [Value.bool _]) _ _ _); (first | (with_reducible refine int_bf ?_) | (with_reducible refine int_bt ?_) | (with_reducible refine int_bb (by assumption) ?_)); intro t' tk')
  k_with "call builtin:max" => (k_here; (with_reducible show wpAny _ _ (call (Value.builtin _) [Value.int _ _, Value.int _ _]) _ _ _); k_dflt (refine' max2 ?hhw24 ?k1w24 ?k2w24 ?k3w24 ?_; (case hhw24 => with_unfolding_all rfl); (case k1w24 => k_asm); (case k2w24 => k_asm); (case k3w24 => first | exact (Int.max_eq_left (by omega)).symm | exact (Int.max_eq_right (by omega)).symm | exact rfl); k_whole); intro t' h' tk' F' N'; (try k_sweep))
  k_with "call builtin:min" => (k_here; (with_reducible show wpAny _ _ (call (Value.builtin _) [Value.int _ _, Value.int _ _]) _ _ _); k_dflt (refine' min2 ?hhw25 ?k1w25 ?k2w25 ?k3w25 ?_; (case hhw25 => with_unfolding_all rfl); (case k1w25 => k_asm); (case k2w25 => k_asm); (case k3w25 => first | exact (Int.min_eq_left (by omega)).symm | exact (Int.min_eq_right (by omega)).symm | exact rfl); k_whole); intro t' h' tk' F' N'; (try k_sweep))
  k_with "call builtin:min" => (k_here; (with_reducible show wpAny _ _ (call (Value.builtin _) [Value.int _ _, Value.int _ _, Value.int _ _]) _ _ _); k_dflt (refine' min3 ?hhw26 ?k1w26 ?k2w26 ?k3w26 ?_; (case hhw26 => with_unfolding_all rfl); (case k1w26 => k_asm); (case k2w26 => k_asm); (case k3w26 => first | exact m3a (by omega) | exact m3b (by omega) | exact m3c (by omega) | exact rfl); k_whole); intro t' h' tk' F' N'; (try k_sweep))
  k_with "ne" => (refine neN ?_; (try dsimp only); first | (k_extra "ord") | omega)
  trivial
section
variable {M : Model} {A : Around} {E : Value → Shared → Prop} {s' : Shared} {base g : Heap} {outer : List Env} {L a e C T D : Addr} {m : Str → Option Value} {name : Str} {scope : Scope} {cd : Value} {Q : Unit → Shared → Prop} {rel : List (Addr × Obj)} {vs : List Value}
theorem leave_X (K : Below A base outer g) (F : Fr g L s'.heap m) (N : News g L s'.heap ((e, excFresh C T (some D)) :: (T, tupObj vs) :: rel)) (hne : ∀ q ∈ rel, @Ne Nat q.1 e ∧ @Ne Nat q.1 T)
    (hQ : ∀ h', RaisedK base outer e (.ref C) T vs rel h' → g.UpToSlots h' → Q () { s' with heap := h' }) (hk : scope.kind = .function := by rfl) :
    wpAny M (A.deeper (envOf name scope L a cd)) (leaving (envOf name scope L a cd) (.ref e)) Q E s' := by
  have K' := K.push (name := name) (a := a) (cd := cd) F hk
  have he := N _ (.head _)
  have hT := N _ (.tail _ (.head _))
  have Nr : ∀ q ∈ rel, s'.heap.get? q.1 = some q.2 ∧ q.1 ≠ L ∧ g.get? q.1 = none := fun q hq => N q (.tail _ (.tail _ hq))
  have hin : ∀ env ∈ (envOf name scope L a cd :: outer), ∀ b, env.frame = some b → b ∈ e :: T :: (envOf name scope L a cd :: outer).filterMap (·.frame) := fun env he b hb => .tail _ (.tail _ (List.mem_filterMap.mpr ⟨env, he, hb⟩))
  have st : base.StaysIn (hideAll s'.heap (e :: T :: (envOf name scope L a cd :: outer).filterMap (·.frame))) := fun b o q => hideAll_get _ (K'.stays b o q) fun hm => by
    rcases List.mem_cons.mp hm with rfl | hm
    · have := K.stays _ _ q; rw [he.2.2] at this; cases this
    rcases List.mem_cons.mp hm with rfl | hm
    · have := K.stays _ _ q; rw [hT.2.2] at this; cases this
    rw [(K'.frames.mem hm).1] at q; cases q
  have hl : ∀ q ∈ rel, (hideAll s'.heap (e :: T :: (envOf name scope L a cd :: outer).filterMap (·.frame))).get? q.1 = some q.2 ∧ base.get? q.1 = none := fun q hq => by
    refine ⟨hideAll_get _ (Nr q hq).1 fun hm => ?_, fresh_of_stays K.stays (Nr q hq).2.2⟩
    rcases List.mem_cons.mp hm with h | hm
    · exact (hne q hq).1 h
    rcases List.mem_cons.mp hm with h | hm
    · exact (hne q hq).2 h
    obtain ⟨env, he, hf⟩ := List.mem_filterMap.mp hm
    rcases List.mem_cons.mp he with rfl | he
    · exact (Nr q hq).2.1 (Option.some.inj hf).symm
    · obtain ⟨o, ho, _⟩ := (K.frames.mem (List.mem_filterMap.mpr ⟨env, he, hf⟩)).2
      rw [(Nr q hq).2.2] at ho; cases ho
  refine wpAny_leaving_firstW (a0 := .ref T) (base := hideAll s'.heap (e :: T :: (envOf name scope L a cd :: outer).filterMap (·.frame))) K'.stack (funFrames_hide K'.frames hin) rfl he.1 (fun b o q => of_hideAll _ q) (hideAll_none _ (.head _)) rfl rfl rfl fun h' hL => ?_
  obtain ⟨k1, ⟨_, _, k2⟩, k3, k4⟩ := hL
  exact hQ h' ⟨⟨_, st, hl, ⟨k1, hideAll_none _ (.head _), k2, k3⟩, hideAll_none _ (.tail _ (.head _))⟩, Heap.TupAt.of_slots ⟨_, _, hT.1, rfl, rfl⟩ k4⟩ ((Heap.UpToSlots.of_keeps F.keep).trans k4)
end
section
variable {prog : Program} {w : World} {A₀ : Around} {E : Value → Shared → Prop} {s' : Shared} {h₀ h : Heap} {outer : List Env} {L a e t : Addr} {m : Str → Option Value} {name : Str} {scope : Scope} {cd : Value}
  {vs : List Value} {b₀ : Stmt} {suite : List Stmt} {pos np : Pos} {rest : List ExceptHandler} {Q : Flow → Shared → Prop} {news : List (Addr × Obj)} {K : Frag} {C : Addr} {x : Str} {newId : String}

theorem caught_L (B : Below A₀ h₀ outer h₀) (F : Fr h₀ L h m) (hsm : h.UpToSlots s'.heap) (R : RaisedK h₀ (envOf name scope L a cd :: outer) e (.ref C) t vs news s'.heap)
    (X : K.In h₀) (hm : excOwn K C newId) (hv : m x = some (.ref C))
    (k : ∀ h', Fr h₀ L h' m → News h₀ L h' news →
      wpAny (model prog w) ((A₀.deeper (envOf name scope L a cd)).mark (some (.ref e))) (execs (b₀ :: suite) (envOf name scope L a cd)) Q E { s' with heap := h' })
    (hk : scope.kind = .function := by rfl) (hx : (envOf name scope L a cd).kindOf x = some .local := by rfl) (hd : (x == ("__debug__" : Str)) = false := by decide)
    (hE : PassesOwnAt (model prog w) ((A₀.deeper (envOf name scope L a cd)).mark (some (.ref e))) (A₀.deeper (envOf name scope L a cd)) (envOf name scope L a cd) E := by passes_own) :
    wpAny (model prog w) (A₀.deeper (envOf name scope L a cd)) (noteFrame (.ref e) (envOf name scope L a cd))
      (fun _ s₂ => wpAny (model prog w) (A₀.deeper (envOf name scope L a cd)) (setFlight (.ref e) none) (fun _ s₃ =>
        wpAny (model prog w) (A₀.deeper (envOf name scope L a cd)) (handleBy (.ref e) (envOf name scope L a cd) (.ExceptHandler (some (.Name x np)) none (b₀ :: suite) pos :: rest)) Q E s₃) E s₂) E s' := by
  obtain ⟨⟨B', hB, hl, hfl, hnew⟩, htup⟩ := R
  have hL : B'.get? L = none := by
    obtain ⟨_, ⟨L', _, hf, hn', _⟩, _⟩ := hfl.2.2.1
    obtain rfl : L = L' := Option.some.inj hf
    exact hn'
  refine wpAny_looks_onW (Around.frames_deeper B.stack) rfl hfl fun h₄ hheld₄ hsm₄ => ?_
  refine wpAny_landsW hheld₄ fun h₅ hheld hsm₅' => ?_
  have hsm₅ := hsm₄.trans hsm₅'
  have hheld' := flyingW_base hB hheld
  have F₅ := F.of_stays hheld'.1 (hsm.trans hsm₅)
  obtain ⟨ob, hob, hobc⟩ := hheld'.there
  refine wpAny_handleBy_cons (codeAny_handlers_test (ld F₅ hv ?_ hk hx hd)) (by intro q; cases q)
  obtain ⟨nm, q, N0, bs, bm, hdct, sn, sub, ab, col, dd, k0, k1, k2, k3, k5, hC, e1, e2, e3, e4⟩ := (excC_of (X.keeps F₅.keep) hm).obj
  refine wpAny_excMatches_sub_self hC hob hobc e2 (codeAny_handlers_suite ?_)
  refine lands_againW hheld fun h₆ hfl₆ hsm₆ => ?_
  have hfl₆' := flyingW_base hB hfl₆
  have F₆ := F.of_stays hfl₆'.1 ((hsm.trans hsm₅).trans hsm₆)
  exact wpAny_passesOwnAt hE (k h₆ F₆ fun q hq => ⟨hfl₆.1 _ _ (hl q hq).1, (fun z => by have := (hl q hq).1; rw [z, hL] at this; cases this), (hl q hq).2⟩)
end
end
end Mine
-- part Exg
namespace Mine
section
theorem ln1_6012ec : True := by
  k_with_none
  k_with "callWith ref" => (k_here; (with_reducible rename Fr _ _ _ _ => kF); (with_reducible rename Frag.In _ _ => kX); first | ((with_reducible show wpAny _ _ (callWith _ _ _ (backTo _ (starEach [] _)) []) _ _ _); k_dflt (refine' callWith_K0 (Frag.In.keeps kX (Fr.keep kF)) ?k2w1 ?_; (case k2w1 => k_is); k_whole)) | ((with_reducible show wpAny _ _ (callWith _ _ _ (backTo _ (starEach (_ :: _) _)) []) _ _ _); k_dflt (refine' callWith_K kX ?k2w1 ?_; (case k2w1 => k_is); k_whole)))
  k_with "eval Name" => (k_here; (fail_if_success (with_reducible show wpAny _ _ (eval (Expr.Name _ _) (compEnvC _ _ _ _)) _ _ _)); k_dflt (first | (refine' nameX_L ?Fw2 ?vw2 ?_ ?aw2 ?bw2; (case bw2 => kernel_rfl!); (case aw2 => kernel_rfl!); (case Fw2 => k_asm); (case vw2 => rfl); k_whole) | (refine' nameX_K ?Fw2 ?Xw2 ?Tw2 ?ew2 ?_ ?aw2 ?bw2; (case bw2 => kernel_rfl!); (case aw2 => kernel_rfl!); (case Fw2 => k_asm); (case Xw2 => k_asm); (case Tw2 => k_asm); (case ew2 => k_is); k_whole) | (refine' nameX_B ?Fw2 ?Xw2 ?Tw2 ?ew2 ?vw2 ?nw2 ?_ ?aw2 ?bw2; (case bw2 => kernel_rfl!); (case aw2 => kernel_rfl!); (case Fw2 => k_asm); (case Xw2 => k_asm); (case Tw2 => k_asm); (case ew2 => k_is); (case vw2 => boot_fast); (case nw2 => decide); k_whole) | (refine' nameX_C ?Nw2 ?cw2 ?mw2 ?dw2 ?_ ?aw2 ?bw2; (case bw2 => kernel_rfl!); (case aw2 => kernel_rfl!); (case Nw2 => k_asm); (case cw2 => rfl); (case mw2 => k_mem); (case dw2 => k_asm); k_whole) | (refine' nameX_F ?Nw2 ?cw2 ?mw2 ?dw2 ?_ ?aw2 ?bw2; (case bw2 => kernel_rfl!); (case aw2 => kernel_rfl!); (case Nw2 => k_asm); (case cw2 => rfl); (case mw2 => k_mem); (case dw2 => k_asm); k_whole)))
  k_with "ord" => ((with_reducible rename DifO _ => hO9); (first | refine' hO9 0 _ _ _ rfl ?hbw3 ?hcw3 | refine' hO9 1 _ _ _ rfl ?hbw3 ?hcw3 | refine' hO9 2 _ _ _ rfl ?hbw3 ?hcw3 | refine' hO9 3 _ _ _ rfl ?hbw3 ?hcw3 | refine' hO9 4 _ _ _ rfl ?hbw3 ?hcw3 | refine' hO9 5 _ _ _ rfl ?hbw3 ?hcw3); (case hbw3 => first | exact (rfl : (_ : List Addr)[0]? = _) | exact (rfl : (_ : List Addr)[1]? = _) | exact (rfl : (_ : List Addr)[2]? = _) | exact (rfl : (_ : List Addr)[3]? = _) | exact (rfl : (_ : List Addr)[4]? = _) | exact (rfl : (_ : List Addr)[5]? = _)); (case hcw3 => exact rfl))
  k_with "nst" => ((with_reducible show wpAny _ _ _ _ _ (Shared.mk _ _ _ _ _)); refine' nst ?kew4 ?_; (case kew4 => (dsimp only; exact rfl)))
  k_with "all" => (first | exact neNil | (refine' neC ?aw5 ?bw5; (case aw5 => k_ne); (case bw5 => k_all)))
  k_with "room" => (first | exact room_ (by assumption) (by exact rfl) | exact room0 (by assumption) (by exact rfl) | ((try simp only [depth_under_make, depth_under_kw, depth_in1, depth_deeper, depth_caller]); (try dsimp only [ktrTop]); omega))
  k_with "units" => (first | exact room_ (by assumption) (by exact rfl) | exact room0 (by assumption) (by exact rfl) | ((try simp only [units_in1, units_deeper, Around.mark_units, units_caller]); (try dsimp only [ktrTop]); omega))
  k_with "execs cons" => ((first | (with_reducible refine execs_T ?_; intro tk) | refine wpAny_execs_cons ?_); (try k_fold))
  k_with "getAttr ref" => (k_here; k_dflt (refine' oget ?k1w9 ?k2w9 ?k3w9 ?k4w9 ?k5w9 ?k6w9 ?k7w9 ?k8w9 ?k9w9 ?_; (case k1w9 => k_asm); (case k2w9 => k_asm); (case k3w9 => k_inst); (case k4w9 => k_is); (case k5w9 => k_is); (case k6w9 => k_is); (case k7w9 => k_is); (case k8w9 => k_get); (case k9w9 => k_handed); k_whole))
  k_with "storeName" => (k_here; k_dflt (refine' ostore ?kFw10 ?kNw10 ?_ ?kaw10 ?kbw10; (case kaw10 => rfl); (case kbw10 => rfl); (case kFw10 => k_asm); (case kNw10 => k_asm); k_whole; intro h' m9 F' N'; (try k_sweep)))
  k_with "eval Constant int" => (refine cint ?_)
  k_with "eval Constant bytes" => (refine cbytes ?_)
  k_with "binaryOp Mod int int" => (k_here; (with_reducible refine mod_pos ?kbw13 ?_); (case kbw13 => omega); intro t' tk')
  k_with "binaryOp FloorDiv int int" => (k_here; (with_reducible refine div_pos ?kbw14 ?kpw14 ?_); (case kbw14 => omega); (case kpw14 => omega); intro t' tk')
  k_with "binaryOp Mult int int" => (k_here; (with_reducible refine mul_small ?kbw15 ?_); (case kbw15 => omega); intro t' tk')
  k_with "subscriptTail Name Constant ref int" => (k_here; (with_reducible show wpAny _ _ (subscriptTail _ _ (Value.ref _) (Value.int _ _)) _ _ _); k_dflt (first | ((with_reducible show wpAny _ _ (subscriptTail _ _ (Value.ref _) (Value.int 0 _)) _ _ _); refine' item_0 ?Nw16 ?mw16 ?_ ?hsw16; (case Nw16 => k_asm); (case mw16 => k_mem); (case hsw16 => with_unfolding_all rfl); k_whole) | ((with_reducible show wpAny _ _ (subscriptTail _ _ (Value.ref _) (Value.int 1 _)) _ _ _); refine' item_1 ?Nw16 ?mw16 ?_ ?hsw16; (case Nw16 => k_asm); (case mw16 => k_mem); (case hsw16 => with_unfolding_all rfl); k_whole)))
  k_with "compareOp Eq int int" => (k_here; first | (with_reducible refine ceq_t ?chw17 ?_; (case chw17 => omega)) | (with_reducible refine ceq_f ?chw17 ?_; (case chw17 => omega)))
  k_with "compareOp NotEq int int" => (k_here; first | (with_reducible refine cne_t ?chw18 ?_; (case chw18 => omega)) | (with_reducible refine cne_f ?chw18 ?_; (case chw18 => omega)))
  k_with "compareOp Lt int int" => (k_here; first | (with_reducible refine clt_t ?chw19 ?_; (case chw19 => omega)) | (with_reducible refine clt_f ?chw19 ?_; (case chw19 => omega)))
  k_with "compareOp LtE int int" => (k_here; first | (with_reducible refine cle_t ?chw20 ?_; (case chw20 => omega)) | (with_reducible refine cle_f ?chw20 ?_; (case chw20 => omega)))
  k_with "compareOp Gt int int" => (k_here; first | (with_reducible refine cgt_t ?chw21 ?_; (case chw21 => omega)) | (with_reducible refine cgt_f ?chw21 ?_; (case chw21 => omega)))
  k_with "compareOp GtE int int" => (k_here; first | (with_reducible refine cge_t ?chw22 ?_; (case chw22 => omega)) | (with_reducible refine cge_f ?chw22 ?_; (case chw22 => omega)))
  k_with "call type:int" => (k_here; (with_reducible show wpAny _ _ (call (Value.type "int") [Value.bool _]) _ _ _); (first | (with_reducible refine int_bf ?_) | (with_reducible refine int_bt ?_) | (with_reducible refine int_bb (by assumption) ?_)); intro t' tk')
  k_with "call builtin:max" => (k_here; (with_reducible show wpAny _ _ (call (Value.builtin _) [Value.int _ _, Value.int _ _]) _ _ _); k_dflt (refine' max2 ?hhw24 ?k1w24 ?k2w24 ?k3w24 ?_; (case hhw24 => with_unfolding_all rfl); (case k1w24 => k_asm); (case k2w24 => k_asm); (case k3w24 => first | exact (Int.max_eq_left (by omega)).symm | exact (Int.max_eq_right (by omega)).symm | exact rfl); k_whole); intro t' h' tk' F' N'; (try k_sweep))
  k_with "call builtin:min" => (k_here; (with_reducible show wpAny _ _ (call (Value.builtin _) [Value.int _ _, Value.int _ _]) _ _ _); k_dflt (refine' min2 ?hhw25 ?k1w25 ?k2w25 ?k3w25 ?_; (case hhw25 => with_unfolding_all rfl); (case k1w25 => k_asm); (case k2w25 => k_asm); (case k3w25 => first | exact (Int.min_eq_left (by omega)).symm | exact (Int.min_eq_right (by omega)).symm | exact rfl); k_whole); intro t' h' tk' F' N'; (try k_sweep))
  k_with "call builtin:min" => (k_here; (with_reducible show wpAny _ _ (call (Value.builtin _) [Value.int _ _, Value.int _ _, Value.int _ _]) _ _ _); k_dflt (refine' min3 ?hhw26 ?k1w26 ?k2w26 ?k3w26 ?_; (case hhw26 => with_unfolding_all rfl); (case k1w26 => k_asm); (case k2w26 => k_asm); (case k3w26 => first | exact m3a (by omega) | exact m3b (by omega) | exact m3c (by omega) | exact rfl); k_whole); intro t' h' tk' F' N'; (try k_sweep))
  k_with "ne" => (refine neN ?_; (try dsimp only); first | (k_extra "ord") | omega)
  trivial
theorem set_excN {prog : Program} {w : World} {A : Around} {E : Value → Shared → Prop} {s : Shared} {K : Frag} {x C C2 T L : Addr} {name : Str} {v : Value} {Q : Unit → Shared → Prop} {h₀ : Heap} {m : Str → Option Value} {news : List (Addr × Obj)} {news' : Addr → List (Addr × Obj)}
    (F : Fr h₀ L s.heap m) (X₀ : K.In h₀) (N : News h₀ L s.heap news) (hs : findIn K (.ref C) "__setattr__" = some (some (.builtin "object.__setattr__")))
    (hc : (clsIn K C).any (fun cd => cd.mro == [.ref C, .ref C2, .type "Exception", .type "BaseException", .type "object"] && cd.hasDict) = true) (ht : takerIn K C name = some none)
    (U : ∀ D, Upd x (excFresh C T none) (excFresh C T (some D)) news (news' D))
    (h : ∀ h' tk' D, Fr h₀ L h' m → News h₀ L h' (news' D) → Q () { s with heap := h', toks := tk' }) :
    wpAny (model prog w) A (setAttr (.ref x) name v) Q E s := by
  have hx : (x, excFresh C T none) ∈ news := by
    obtain ⟨pre, post, e1, e2, h1, h2⟩ := (U 0).split
    rw [e1]; exact List.mem_append_right _ (.head _)
  have nx := N _ hx
  refine set_exc (X₀.keeps F.keep) nx.1 hs hc ht fun h' tk' D kk hx' => ?_
  obtain ⟨pre, post, e1, e2, h1, h2⟩ := (U D).split
  have hxL : L ≠ x := nx.2.1.symm
  refine h h' tk' D ⟨?_, fun b o e => kk b o (fun q => by rw [q, nx.2.2] at e; cases e) (F.keep b o e), F.above⟩ fun q hq => ?_
  · obtain ⟨oL, es, ep, hL, r⟩ := F.ns
    exact ⟨oL, es, ep, kk L oL hxL hL, r⟩
  · rw [e2] at hq
    rcases List.mem_append.mp hq with z | z
    · have n := N q (by rw [e1]; exact List.mem_append_left _ z)
      exact ⟨kk _ _ (h1 q z) n.1, n.2⟩
    rcases List.mem_cons.mp z with rfl | z
    · exact ⟨hx', nx.2⟩
    · have n := N q (by rw [e1]; exact List.mem_append_right _ (.tail _ z))
      exact ⟨kk _ _ (h2 q z) n.1, n.2⟩
theorem x63 {w : World} : excOwn (hok.heap_1 w.params) 63 "Exception.__new__" := ⟨_, _, _, _, _, _, _, _, _, _, _, _, _, _, _, _, by exact rfl, by kernel_rfl, by kernel_rfl, by kernel_rfl, by kernel_rfl⟩
theorem x51 {w : World} : excOwn (hok.heap_1 w.params) 51 "Exception.__new__" := ⟨_, _, _, _, _, _, _, _, _, _, _, _, _, _, _, _, by exact rfl, by kernel_rfl, by kernel_rfl, by kernel_rfl, by kernel_rfl⟩
theorem m63 {w : World} : (clsIn (hok.heap_1 w.params) 63).any (fun cd => cd.mro == [.ref 63, .ref 38, .type "Exception", .type "BaseException", .type "object"] && cd.hasDict) = true := by kernel_rfl
theorem m51 {w : World} : (clsIn (hok.heap_1 w.params) 51).any (fun cd => cd.mro == [.ref 51, .ref 38, .type "Exception", .type "BaseException", .type "object"] && cd.hasDict) = true := by kernel_rfl
theorem s63 {w : World} : specialIn (hok.heap_1 w.params) (.ref 63) "__call__" = some (some (.builtin "type.__call__")) ∧ instIn (hok.heap_1 w.params) (.ref 63) (.type "type") = some true ∧ findIn (hok.heap_1 w.params) (.ref 63) "__init__" = some (some (.ref 35)) ∧
  findIn (hok.heap_1 w.params) (.ref 63) "__setattr__" = some (some (.builtin "object.__setattr__")) ∧ takerIn (hok.heap_1 w.params) 63 "message" = some none := ⟨by kernel_rfl, by kernel_rfl, by kernel_rfl, by kernel_rfl, by kernel_rfl⟩
theorem s51 {w : World} : specialIn (hok.heap_1 w.params) (.ref 51) "__call__" = some (some (.builtin "type.__call__")) ∧ instIn (hok.heap_1 w.params) (.ref 51) (.type "type") = some true ∧ findIn (hok.heap_1 w.params) (.ref 51) "__init__" = some (some (.ref 35)) ∧
  findIn (hok.heap_1 w.params) (.ref 51) "__setattr__" = some (some (.builtin "object.__setattr__")) ∧ takerIn (hok.heap_1 w.params) 51 "message" = some none := ⟨by kernel_rfl, by kernel_rfl, by kernel_rfl, by kernel_rfl, by kernel_rfl⟩
theorem fn35 {w : World} : isFn (hok.heap_1 w.params) (.ref 35) = true := by kernel_rfl
end
end Mine
-- part Lam
namespace Mine
section
theorem ln1_600b1a : True := by
  k_with_none
  k_with "callWith ref" => (k_here; (with_reducible rename Fr _ _ _ _ => kF); (with_reducible rename Frag.In _ _ => kX); first | ((with_reducible show wpAny _ _ (callWith _ _ _ (backTo _ (starEach [] _)) []) _ _ _); k_dflt (refine' callWith_K0 (Frag.In.keeps kX (Fr.keep kF)) ?k2w1 ?_; (case k2w1 => k_is); k_whole)) | ((with_reducible show wpAny _ _ (callWith _ _ _ (backTo _ (starEach (_ :: _) _)) []) _ _ _); k_dflt (refine' callWith_K kX ?k2w1 ?_; (case k2w1 => k_is); k_whole)))
  k_with "eval Name" => (k_here; (fail_if_success (with_reducible show wpAny _ _ (eval (Expr.Name _ _) (compEnvC _ _ _ _)) _ _ _)); k_dflt (first | (refine' nameX_L ?Fw2 ?vw2 ?_ ?aw2 ?bw2; (case bw2 => kernel_rfl!); (case aw2 => kernel_rfl!); (case Fw2 => k_asm); (case vw2 => rfl); k_whole) | (refine' nameX_K ?Fw2 ?Xw2 ?Tw2 ?ew2 ?_ ?aw2 ?bw2; (case bw2 => kernel_rfl!); (case aw2 => kernel_rfl!); (case Fw2 => k_asm); (case Xw2 => k_asm); (case Tw2 => k_asm); (case ew2 => k_is); k_whole) | (refine' nameX_B ?Fw2 ?Xw2 ?Tw2 ?ew2 ?vw2 ?nw2 ?_ ?aw2 ?bw2; (case bw2 => kernel_rfl!); (case aw2 => kernel_rfl!); (case Fw2 => k_asm); (case Xw2 => k_asm); (case Tw2 => k_asm); (case ew2 => k_is); (case vw2 => boot_fast); (case nw2 => decide); k_whole) | (refine' nameX_C ?Nw2 ?cw2 ?mw2 ?dw2 ?_ ?aw2 ?bw2; (case bw2 => kernel_rfl!); (case aw2 => kernel_rfl!); (case Nw2 => k_asm); (case cw2 => rfl); (case mw2 => k_mem); (case dw2 => k_asm); k_whole) | (refine' nameX_F ?Nw2 ?cw2 ?mw2 ?dw2 ?_ ?aw2 ?bw2; (case bw2 => kernel_rfl!); (case aw2 => kernel_rfl!); (case Nw2 => k_asm); (case cw2 => rfl); (case mw2 => k_mem); (case dw2 => k_asm); k_whole)))
  k_with "ord" => ((with_reducible rename DifO _ => hO9); (first | refine' hO9 0 _ _ _ rfl ?hbw3 ?hcw3 | refine' hO9 1 _ _ _ rfl ?hbw3 ?hcw3 | refine' hO9 2 _ _ _ rfl ?hbw3 ?hcw3 | refine' hO9 3 _ _ _ rfl ?hbw3 ?hcw3 | refine' hO9 4 _ _ _ rfl ?hbw3 ?hcw3 | refine' hO9 5 _ _ _ rfl ?hbw3 ?hcw3); (case hbw3 => first | exact (rfl : (_ : List Addr)[0]? = _) | exact (rfl : (_ : List Addr)[1]? = _) | exact (rfl : (_ : List Addr)[2]? = _) | exact (rfl : (_ : List Addr)[3]? = _) | exact (rfl : (_ : List Addr)[4]? = _) | exact (rfl : (_ : List Addr)[5]? = _)); (case hcw3 => exact rfl))
  k_with "nst" => ((with_reducible show wpAny _ _ _ _ _ (Shared.mk _ _ _ _ _)); refine' nst ?kew4 ?_; (case kew4 => (dsimp only; exact rfl)))
  k_with "all" => (first | exact neNil | (refine' neC ?aw5 ?bw5; (case aw5 => k_ne); (case bw5 => k_all)))
  k_with "room" => (first | exact room_ (by assumption) (by exact rfl) | exact room0 (by assumption) (by exact rfl) | ((try simp only [depth_under_make, depth_under_kw, depth_in1, depth_deeper, depth_caller]); (try dsimp only [ktrTop]); omega))
  k_with "units" => (first | exact room_ (by assumption) (by exact rfl) | exact room0 (by assumption) (by exact rfl) | ((try simp only [units_in1, units_deeper, Around.mark_units, units_caller]); (try dsimp only [ktrTop]); omega))
  k_with "execs cons" => ((first | (with_reducible refine execs_T ?_; intro tk) | refine wpAny_execs_cons ?_); (try k_fold))
  k_with "getAttr ref" => (k_here; k_dflt (refine' oget ?k1w9 ?k2w9 ?k3w9 ?k4w9 ?k5w9 ?k6w9 ?k7w9 ?k8w9 ?k9w9 ?_; (case k1w9 => k_asm); (case k2w9 => k_asm); (case k3w9 => k_inst); (case k4w9 => k_is); (case k5w9 => k_is); (case k6w9 => k_is); (case k7w9 => k_is); (case k8w9 => k_get); (case k9w9 => k_handed); k_whole))
  k_with "storeName" => (k_here; k_dflt (refine' ostore ?kFw10 ?kNw10 ?_ ?kaw10 ?kbw10; (case kaw10 => rfl); (case kbw10 => rfl); (case kFw10 => k_asm); (case kNw10 => k_asm); k_whole; intro h' m9 F' N'; (try k_sweep)))
  k_with "eval Constant int" => (refine cint ?_)
  k_with "eval Constant bytes" => (refine cbytes ?_)
  k_with "binaryOp Mod int int" => (k_here; (with_reducible refine mod_pos ?kbw13 ?_); (case kbw13 => omega); intro t' tk')
  k_with "binaryOp FloorDiv int int" => (k_here; (with_reducible refine div_pos ?kbw14 ?kpw14 ?_); (case kbw14 => omega); (case kpw14 => omega); intro t' tk')
  k_with "binaryOp Mult int int" => (k_here; (with_reducible refine mul_small ?kbw15 ?_); (case kbw15 => omega); intro t' tk')
  k_with "subscriptTail Name Constant ref int" => (k_here; (with_reducible show wpAny _ _ (subscriptTail _ _ (Value.ref _) (Value.int _ _)) _ _ _); k_dflt (first | ((with_reducible show wpAny _ _ (subscriptTail _ _ (Value.ref _) (Value.int 0 _)) _ _ _); refine' item_0 ?Nw16 ?mw16 ?_ ?hsw16; (case Nw16 => k_asm); (case mw16 => k_mem); (case hsw16 => with_unfolding_all rfl); k_whole) | ((with_reducible show wpAny _ _ (subscriptTail _ _ (Value.ref _) (Value.int 1 _)) _ _ _); refine' item_1 ?Nw16 ?mw16 ?_ ?hsw16; (case Nw16 => k_asm); (case mw16 => k_mem); (case hsw16 => with_unfolding_all rfl); k_whole)))
  k_with "compareOp Eq int int" => (k_here; first | (with_reducible refine ceq_t ?chw17 ?_; (case chw17 => omega)) | (with_reducible refine ceq_f ?chw17 ?_; (case chw17 => omega)))
  k_with "compareOp NotEq int int" => (k_here; first | (with_reducible refine cne_t ?chw18 ?_; (case chw18 => omega)) | (with_reducible refine cne_f ?chw18 ?_; (case chw18 => omega)))
  k_with "compareOp Lt int int" => (k_here; first | (with_reducible refine clt_t ?chw19 ?_; (case chw19 => omega)) | (with_reducible refine clt_f ?chw19 ?_; (case chw19 => omega)))
  k_with "compareOp LtE int int" => (k_here; first | (with_reducible refine cle_t ?chw20 ?_; (case chw20 => omega)) | (with_reducible refine cle_f ?chw20 ?_; (case chw20 => omega)))
  k_with "compareOp Gt int int" => (k_here; first | (with_reducible refine cgt_t ?chw21 ?_; (case chw21 => omega)) | (with_reducible refine cgt_f ?chw21 ?_; (case chw21 => omega)))
  k_with "compareOp GtE int int" => (k_here; first | (with_reducible refine cge_t ?chw22 ?_; (case chw22 => omega)) | (with_reducible refine cge_f ?chw22 ?_; (case chw22 => omega)))
  k_with "call type:int" => (k_here; (with_reducible show wpAny _ _ (call (Value.type "int") [Value.bool _]) _ _ _); (first | (with_reducible refine int_bf ?_) | (with_reducible refine int_bt ?_) | (with_reducible refine int_bb (by assumption) ?_)); intro t' tk')
  k_with "call builtin:max" => (k_here; (with_reducible show wpAny _ _ (call (Value.builtin _) [Value.int _ _, Value.int _ _]) _ _ _); k_dflt (refine' max2 ?hhw24 ?k1w24 ?k2w24 ?k3w24 ?_; (case hhw24 => with_unfolding_all rfl); (case k1w24 => k_asm); (case k2w24 => k_asm); (case k3w24 => first | exact (Int.max_eq_left (by omega)).symm | exact (Int.max_eq_right (by omega)).symm | exact rfl); k_whole); intro t' h' tk' F' N'; (try k_sweep))
  k_with "call builtin:min" => (k_here; (with_reducible show wpAny _ _ (call (Value.builtin _) [Value.int _ _, Value.int _ _]) _ _ _); k_dflt (refine' min2 ?hhw25 ?k1w25 ?k2w25 ?k3w25 ?_; (case hhw25 => with_unfolding_all rfl); (case k1w25 => k_asm); (case k2w25 => k_asm); (case k3w25 => first | exact (Int.min_eq_left (by omega)).symm | exact (Int.min_eq_right (by omega)).symm | exact rfl); k_whole); intro t' h' tk' F' N'; (try k_sweep))
  k_with "call builtin:min" => (k_here; (with_reducible show wpAny _ _ (call (Value.builtin _) [Value.int _ _, Value.int _ _, Value.int _ _]) _ _ _); k_dflt (refine' min3 ?hhw26 ?k1w26 ?k2w26 ?k3w26 ?_; (case hhw26 => with_unfolding_all rfl); (case k1w26 => k_asm); (case k2w26 => k_asm); (case k3w26 => first | exact m3a (by omega) | exact m3b (by omega) | exact m3c (by omega) | exact rfl); k_whole); intro t' h' tk' F' N'; (try k_sweep))
  k_with "ne" => (refine neN ?_; (try dsimp only); first | (k_extra "ord") | omega)
  trivial
def bodyAt (K : Frag) (f : Addr) : List Stmt := match K.lookup f with
  | some ⟨_, _, .func fd, _⟩ => (match fd.body with | .stmts b => b | _ => [])
  | _ => []
def lamQ : List Stmt → Option (Arguments × Expr × Scope × Pos)
  | _ :: .If (.BoolOp _ (_ :: .UnaryOp _ (.Call _ (.Lambda p b s ps :: _) _ _) _ :: _) _) _ _ _ :: _ => some (p, b, s, ps)
  | _ => none
def lamB : List Stmt → Option (Arguments × Expr × Scope × Pos)
  | [] => none
  | .For _ _ (.If (.BoolOp _ (.UnaryOp _ (.Call _ (.Lambda p b s ps :: _) _ _) _ :: _) _) _ _ _ :: _) _ _ :: _ => some (p, b, s, ps)
  | _ :: r => lamB r
def lamQ3 (b : List Stmt) : Option (Arguments × Expr × Scope) := (lamQ b).map fun r => (r.1, r.2.1, r.2.2.1)
def lamB3 (b : List Stmt) : Option (Arguments × Expr × Scope) := (lamB b).map fun r => (r.1, r.2.1, r.2.2.1)
section
variable {M : Model} {A : Around} {E : Value → Shared → Prop} {s' : Shared} {base g g₂ h : Heap} {outer : List Env} {L a e t : Addr} {m : Str → Option Value} {name : Str} {scope : Scope} {cd : Value} {cl : List (Str × Addr)} {Q : Unit → Shared → Prop} {news : List (Addr × Obj)}
theorem leave_onX {cls : Value} {vs : List Value} (K : Below A base outer g) (F : Fr g L g₂ m) (R : RaisedK base (envX name scope L a cd cl :: outer) e cls t vs news s'.heap) (hsm : g₂.UpToSlots s'.heap)
    (hQ : ∀ h', RaisedK base outer e cls t vs news h' → g.UpToSlots h' → Q () { s' with heap := h' }) :
    wpAny M (A.deeper (envX name scope L a cd cl)) (leaving (envX name scope L a cd cl) (.ref e)) Q E s' := by
  obtain ⟨⟨B, hB, hl, hfl, hnew⟩, htup⟩ := R
  exact wpAny_leaves_onW (Around.frames_deeper K.stack) rfl hfl fun h' x1 x2 => hQ h' ⟨⟨B, hB, hl, x1, hnew⟩, htup.of_slots x2⟩ ((Heap.UpToSlots.of_keeps F.keep).trans (hsm.trans x2))
end
theorem knCH : CodeHd (({} : Heap).push { cls := .type "code", data := .fields #[.none, .none, .none, .none, .none, .none, .none, .int 0 0, .none, .bool false, .int 0 0, .ref 1, .none, .none, .none, .none, .none, .none, .str "" 0] }) 0 1 :=
  ⟨_, _, _, _, _, _, _, _, _, rfl, rfl, rfl, rfl, rfl, rfl, rfl, rfl, rfl, by decide⟩
abbrev qnQ : Str := (Str.ofString "_law_queue_right" ++ Str.ofString ".<locals>.") ++ Str.ofString "<lambda>"
abbrev qnB : Str := (Str.ofString "_law_back_right" ++ Str.ofString ".<locals>.") ++ Str.ofString "<lambda>"
abbrev tabR (l c : Nat) (a : Addr) : Obj := tabObj (#[] ++ #[rawInt (l : Int), rawInt (c : Int), .ref a])
structure TabS (qual : Str) where
  c : Addr
  oc : Obj
  vs : Array Value
  tq : Tok
  hoc : oc.data = .fields vs
  hv : vs[1]? = some (.str qual tq)
end
end Mine
-- part Lan
namespace Mine
section
theorem ln1_9de06b : True := by
  k_with_none
  k_with "callWith ref" => (k_here; (with_reducible rename Fr _ _ _ _ => kF); (with_reducible rename Frag.In _ _ => kX); first | ((with_reducible show wpAny _ _ (callWith _ _ _ (backTo _ (starEach [] _)) []) _ _ _); k_dflt (refine' callWith_K0 (Frag.In.keeps kX (Fr.keep kF)) ?k2w1 ?_; (case k2w1 => k_is); k_whole)) | ((with_reducible show wpAny _ _ (callWith _ _ _ (backTo _ (starEach (_ :: _) _)) []) _ _ _); k_dflt (refine' callWith_K kX ?k2w1 ?_; (case k2w1 => k_is); k_whole)))
  k_with "eval Name" => (k_here; (fail_if_success (with_reducible show wpAny _ _ (eval (Expr.Name _ _) (compEnvC _ _ _ _)) _ _ _)); k_dflt (first | (refine' nameX_L ?Fw2 ?vw2 ?_ ?aw2 ?bw2; (case bw2 => kernel_rfl!); (case aw2 => kernel_rfl!); (case Fw2 => k_asm); (case vw2 => rfl); k_whole) | (refine' nameX_K ?Fw2 ?Xw2 ?Tw2 ?ew2 ?_ ?aw2 ?bw2; (case bw2 => kernel_rfl!); (case aw2 => kernel_rfl!); (case Fw2 => k_asm); (case Xw2 => k_asm); (case Tw2 => k_asm); (case ew2 => k_is); k_whole) | (refine' nameX_B ?Fw2 ?Xw2 ?Tw2 ?ew2 ?vw2 ?nw2 ?_ ?aw2 ?bw2; (case bw2 => kernel_rfl!); (case aw2 => kernel_rfl!); (case Fw2 => k_asm); (case Xw2 => k_asm); (case Tw2 => k_asm); (case ew2 => k_is); (case vw2 => boot_fast); (case nw2 => decide); k_whole) | (refine' nameX_C ?Nw2 ?cw2 ?mw2 ?dw2 ?_ ?aw2 ?bw2; (case bw2 => kernel_rfl!); (case aw2 => kernel_rfl!); (case Nw2 => k_asm); (case cw2 => rfl); (case mw2 => k_mem); (case dw2 => k_asm); k_whole) | (refine' nameX_F ?Nw2 ?cw2 ?mw2 ?dw2 ?_ ?aw2 ?bw2; (case bw2 => kernel_rfl!); (case aw2 => kernel_rfl!); (case Nw2 => k_asm); (case cw2 => rfl); (case mw2 => k_mem); (case dw2 => k_asm); k_whole)))
  k_with "ord" => ((with_reducible rename DifO _ => hO9); (first | refine' hO9 0 _ _ _ rfl ?hbw3 ?hcw3 | refine' hO9 1 _ _ _ rfl ?hbw3 ?hcw3 | refine' hO9 2 _ _ _ rfl ?hbw3 ?hcw3 | refine' hO9 3 _ _ _ rfl ?hbw3 ?hcw3 | refine' hO9 4 _ _ _ rfl ?hbw3 ?hcw3 | refine' hO9 5 _ _ _ rfl ?hbw3 ?hcw3); (case hbw3 => first | exact (rfl : (_ : List Addr)[0]? = _) | exact (rfl : (_ : List Addr)[1]? = _) | exact (rfl : (_ : List Addr)[2]? = _) | exact (rfl : (_ : List Addr)[3]? = _) | exact (rfl : (_ : List Addr)[4]? = _) | exact (rfl : (_ : List Addr)[5]? = _)); (case hcw3 => exact rfl))
  k_with "nst" => ((with_reducible show wpAny _ _ _ _ _ (Shared.mk _ _ _ _ _)); refine' nst ?kew4 ?_; (case kew4 => (dsimp only; exact rfl)))
  k_with "all" => (first | exact neNil | (refine' neC ?aw5 ?bw5; (case aw5 => k_ne); (case bw5 => k_all)))
  k_with "room" => (first | exact room_ (by assumption) (by exact rfl) | exact room0 (by assumption) (by exact rfl) | ((try simp only [depth_under_make, depth_under_kw, depth_in1, depth_deeper, depth_caller]); (try dsimp only [ktrTop]); omega))
  k_with "units" => (first | exact room_ (by assumption) (by exact rfl) | exact room0 (by assumption) (by exact rfl) | ((try simp only [units_in1, units_deeper, Around.mark_units, units_caller]); (try dsimp only [ktrTop]); omega))
  k_with "execs cons" => ((first | (with_reducible refine execs_T ?_; intro tk) | refine wpAny_execs_cons ?_); (try k_fold))
  k_with "getAttr ref" => (k_here; k_dflt (refine' oget ?k1w9 ?k2w9 ?k3w9 ?k4w9 ?k5w9 ?k6w9 ?k7w9 ?k8w9 ?k9w9 ?_; (case k1w9 => k_asm); (case k2w9 => k_asm); (case k3w9 => k_inst); (case k4w9 => k_is); (case k5w9 => k_is); (case k6w9 => k_is); (case k7w9 => k_is); (case k8w9 => k_get); (case k9w9 => k_handed); k_whole))
  k_with "storeName" => (k_here; k_dflt (refine' ostore ?kFw10 ?kNw10 ?_ ?kaw10 ?kbw10; (case kaw10 => rfl); (case kbw10 => rfl); (case kFw10 => k_asm); (case kNw10 => k_asm); k_whole; intro h' m9 F' N'; (try k_sweep)))
  k_with "eval Constant int" => (refine cint ?_)
  k_with "eval Constant bytes" => (refine cbytes ?_)
  k_with "binaryOp Mod int int" => (k_here; (with_reducible refine mod_pos ?kbw13 ?_); (case kbw13 => omega); intro t' tk')
  k_with "binaryOp FloorDiv int int" => (k_here; (with_reducible refine div_pos ?kbw14 ?kpw14 ?_); (case kbw14 => omega); (case kpw14 => omega); intro t' tk')
  k_with "binaryOp Mult int int" => (k_here; (with_reducible refine mul_small ?kbw15 ?_); (case kbw15 => omega); intro t' tk')
  k_with "subscriptTail Name Constant ref int" => (k_here; (with_reducible show wpAny _ _ (subscriptTail _ _ (Value.ref _) (Value.int _ _)) _ _ _); k_dflt (first | ((with_reducible show wpAny _ _ (subscriptTail _ _ (Value.ref _) (Value.int 0 _)) _ _ _); refine' item_0 ?Nw16 ?mw16 ?_ ?hsw16; (case Nw16 => k_asm); (case mw16 => k_mem); (case hsw16 => with_unfolding_all rfl); k_whole) | ((with_reducible show wpAny _ _ (subscriptTail _ _ (Value.ref _) (Value.int 1 _)) _ _ _); refine' item_1 ?Nw16 ?mw16 ?_ ?hsw16; (case Nw16 => k_asm); (case mw16 => k_mem); (case hsw16 => with_unfolding_all rfl); k_whole)))
  k_with "compareOp Eq int int" => (k_here; first | (with_reducible refine ceq_t ?chw17 ?_; (case chw17 => omega)) | (with_reducible refine ceq_f ?chw17 ?_; (case chw17 => omega)))
  k_with "compareOp NotEq int int" => (k_here; first | (with_reducible refine cne_t ?chw18 ?_; (case chw18 => omega)) | (with_reducible refine cne_f ?chw18 ?_; (case chw18 => omega)))
  k_with "compareOp Lt int int" => (k_here; first | (with_reducible refine clt_t ?chw19 ?_; (case chw19 => omega)) | (with_reducible refine clt_f ?chw19 ?_; (case chw19 => omega)))
  k_with "compareOp LtE int int" => (k_here; first | (with_reducible refine cle_t ?chw20 ?_; (case chw20 => omega)) | (with_reducible refine cle_f ?chw20 ?_; (case chw20 => omega)))
  k_with "compareOp Gt int int" => (k_here; first | (with_reducible refine cgt_t ?chw21 ?_; (case chw21 => omega)) | (with_reducible refine cgt_f ?chw21 ?_; (case chw21 => omega)))
  k_with "compareOp GtE int int" => (k_here; first | (with_reducible refine cge_t ?chw22 ?_; (case chw22 => omega)) | (with_reducible refine cge_f ?chw22 ?_; (case chw22 => omega)))
  k_with "call type:int" => (k_here; (with_reducible show wpAny _ _ (call (Value.type "int") [Value.bool _]) _ _ _); (first | (with_reducible refine int_bf ?_) | (with_reducible refine int_bt ?_) | (with_reducible refine int_bb (by assumption) ?_)); intro t' tk')
  k_with "call builtin:max" => (k_here; (with_reducible show wpAny _ _ (call (Value.builtin _) [Value.int _ _, Value.int _ _]) _ _ _); k_dflt (refine' max2 ?hhw24 ?k1w24 ?k2w24 ?k3w24 ?_; (case hhw24 => with_unfolding_all rfl); (case k1w24 => k_asm); (case k2w24 => k_asm); (case k3w24 => first | exact (Int.max_eq_left (by omega)).symm | exact (Int.max_eq_right (by omega)).symm | exact rfl); k_whole); intro t' h' tk' F' N'; (try k_sweep))
  k_with "call builtin:min" => (k_here; (with_reducible show wpAny _ _ (call (Value.builtin _) [Value.int _ _, Value.int _ _]) _ _ _); k_dflt (refine' min2 ?hhw25 ?k1w25 ?k2w25 ?k3w25 ?_; (case hhw25 => with_unfolding_all rfl); (case k1w25 => k_asm); (case k2w25 => k_asm); (case k3w25 => first | exact (Int.min_eq_left (by omega)).symm | exact (Int.min_eq_right (by omega)).symm | exact rfl); k_whole); intro t' h' tk' F' N'; (try k_sweep))
  k_with "call builtin:min" => (k_here; (with_reducible show wpAny _ _ (call (Value.builtin _) [Value.int _ _, Value.int _ _, Value.int _ _]) _ _ _); k_dflt (refine' min3 ?hhw26 ?k1w26 ?k2w26 ?k3w26 ?_; (case hhw26 => with_unfolding_all rfl); (case k1w26 => k_asm); (case k2w26 => k_asm); (case k3w26 => first | exact m3a (by omega) | exact m3b (by omega) | exact m3c (by omega) | exact rfl); k_whole); intro t' h' tk' F' N'; (try k_sweep))
  trivial
theorem ln2_9de06b : True := by
  k_with "klt" => (skip)
  k_with "ne" => (refine neN ?_; (try dsimp only); first | exact Dif.l (by with_reducible assumption) | exact Dif.r (by with_reducible assumption) | (k_extra "ord") | omega)
  trivial
/-- the objects of a ledger that are not the one at z, told apart from it -/
inductive SkipZ (z : Addr) : List (Addr × Obj) → List (Addr × Obj) → Prop
  | nil : SkipZ z [] []
  | skip {o : Obj} {r r' : List (Addr × Obj)} (h : SkipZ z r r') : SkipZ z ((z, o) :: r) r'
  | keep {p : Addr × Obj} {r r' : List (Addr × Obj)} (d : @Ne Nat z p.1) (h : SkipZ z r r') : SkipZ z (p :: r) (p :: r')
  | drop {p : Addr × Obj} {r r' : List (Addr × Obj)} (h : SkipZ z r r') : SkipZ z (p :: r) r'
theorem SkipZ.dif {z : Addr} {l l' : List (Addr × Obj)} (h : SkipZ z l l') : DifR z l' := by
  induction h with
  | nil => exact True.intro
  | skip _ ih => exact ih
  | drop _ ih => exact ih
  | keep d _ ih => exact ⟨d, ih⟩
theorem SkipZ.sub {z : Addr} {l l' : List (Addr × Obj)} (h : SkipZ z l l') : ∀ p ∈ l', p ∈ l := by
  induction h with
  | nil => exact fun _ hp => hp
  | skip _ ih => exact fun p hp => .tail _ (ih p hp)
  | drop _ ih => exact fun p hp => .tail _ (ih p hp)
  | keep d _ ih =>
    intro p hp
    rcases List.mem_cons.1 hp with rfl | hp
    · exact .head _
    · exact .tail _ (ih p hp)
/-- what the table holds: nothing, or the code that stands at z -/
def TabSt (P : Addr) (l c : Nat) (qual : Str) (tob : Obj) (z : Addr) (oz : Obj) : Prop :=
  (tob = tabObj #[] ∧ Dif z P) ∨ (tob = tabR l c z ∧ ∃ vs tq, oz.data = .fields vs ∧ vs[1]? = some (.str qual tq))
theorem TabSt.dif {P z : Addr} {l c : Nat} {qual : Str} {tob oz : Obj} {h : Heap} (st : TabSt P l c qual tob z oz) (h1 : h.get? P = some tob) (h2 : h.get? z = some oz) : Dif z P := by
  rcases st with ⟨_, d⟩ | ⟨rfl, vs, tq, hd, hv⟩
  · exact d
  · intro e
    have e' : (z : Addr) = P := e
    rw [e', h1] at h2
    cases h2
    cases hd
    cases hv
theorem tabR_ne {l c : Nat} {a : Addr} : tabR l c a ≠ tabObj #[] := fun e => by cases e
section
variable {M : Model} {A : Around} {E : Value → Shared → Prop} {h₀ : Heap} {L a c P : Addr} {m mg mb : Str → Option Value} {cn : Str} {cs : Scope} {ccd : Value} {cl : List (Str × Addr)} {news : List (Addr × Obj)}
  {p : Program} {loose : List Str} {mean : ExcName → Option Value} {params : Arguments} {body : Expr} {scope : Scope} {pos : Pos} {clos : List (Str × Addr)}
theorem lam_any {hp : Heap} {gn : Array GenState} {dr : Drawn} {nk : Nat} {os : OsState} {Q : Value → Shared → Prop} {tob oz : Obj} {z : Addr} {oth : List (Addr × Obj)} {g : Obj → List (Addr × Obj)} (F : Fr h₀ L hp m) (N : News h₀ L hp news) (T : Top p loose mean mg mb h₀) (C : CodeHd h₀ c P) (hcd : ccd = .ref c) (U : UpdF P tob news g)
    (hst : TabSt P pos.line pos.col ((envX cn cs L a ccd cl).qual ++ "<lambda>") tob z oz) (hz : (z, oz) ∈ news) (sk : SkipZ z news oth)
    (hcl : closureFor scope (envX cn cs L a ccd cl) = pure clos) (hdef : defaultsOf params (envX cn cs L a ccd cl) = ([], []))
    (h : ∀ f c' oc vs t ctv h' tk, Fr h₀ L h' m → News h₀ L h' ((f, kla_obj "<lambda>" ((envX cn cs L a ccd cl).qual ++ "<lambda>") params body scope clos ((mg "__name__").getD .none) c' ctv) :: (c', oc) :: g (tabR pos.line pos.col c')) →
      oc.data = .fields vs → vs[1]? = some (.str ((envX cn cs L a ccd cl).qual ++ "<lambda>") t) → DifR c' oth → DifR f ((c', oc) :: news) → Q (.ref f) ⟨h', gn, dr, tk, os⟩) :
    wpAny M A (eval (.Lambda params body scope pos) (envX cn cs L a ccd cl)) Q E ⟨hp, gn, dr, nk, os⟩ := by
  refine kla_eval hdef ?_
  rcases hst with ⟨rfl, d⟩ | ⟨rfl, vs, tq, hd, hv⟩
  · refine kla_nest F N T C hcd U True.intro rfl hcl fun f c' oc vs t ctv h' tk F' N' e1 e2 l1 l2 => ?_
    exact h f c' oc vs t ctv h' tk F' N' e1 e2 (difR_of fun q hq => Ne.symm (Nat.ne_of_lt (l1 q (sk.sub q hq)))) (difR_of fun q hq => by
      rcases List.mem_cons.1 hq with rfl | hq
      · exact Ne.symm (Nat.ne_of_lt l2)
      · exact Ne.symm (Nat.ne_of_lt (Nat.lt_trans (l1 q hq) l2)))
  · obtain ⟨own, rest, e0, hgr, -, -⟩ := U.split
    have hm : (P, tabR pos.line pos.col z) ∈ news := by rw [e0]; exact List.mem_append_right _ (.head _)
    refine kla_hit (c' := z) F N T C hcd hm (by simp [TriplesOk, rawInt]) (by simp [codeAmong, rawInt]) hcl fun f ctv h' tk F' N' l1 => ?_
    refine h f z oz vs tq ctv h' tk F' (fun q hq => ?_) hd hv sk.dif (difR_of fun q hq => ?_)
    · rcases List.mem_cons.1 hq with rfl | hq
      · exact N' _ (.head _)
      rcases List.mem_cons.1 hq with rfl | hq
      · exact N' _ (.tail _ hz)
      · rw [hgr, ← e0] at hq
        exact N' _ (.tail _ hq)
    · rcases List.mem_cons.1 hq with rfl | hq
      · exact Ne.symm (Nat.ne_of_lt (l1 _ hz))
      · exact Ne.symm (Nat.ne_of_lt (l1 _ hq))
end
end
end Mine
-- part Exh
namespace Mine
section
theorem ln1_f6a5a2 : True := by
  k_with_none
  k_with "callWith ref" => (k_here; (with_reducible rename Fr _ _ _ _ => kF); (with_reducible rename Frag.In _ _ => kX); first | ((with_reducible show wpAny _ _ (callWith _ _ _ (backTo _ (starEach [] _)) []) _ _ _); k_dflt (refine' callWith_K0 (Frag.In.keeps kX (Fr.keep kF)) ?k2w1 ?_; (case k2w1 => k_is); k_whole)) | ((with_reducible show wpAny _ _ (callWith _ _ _ (backTo _ (starEach (_ :: _) _)) []) _ _ _); k_dflt (refine' callWith_K kX ?k2w1 ?_; (case k2w1 => k_is); k_whole)))
  k_with "eval Name" => (k_here; (fail_if_success (with_reducible show wpAny _ _ (eval (Expr.Name _ _) (compEnvC _ _ _ _)) _ _ _)); k_dflt (first | (refine' nameX_L ?Fw2 ?vw2 ?_ ?aw2 ?bw2; (case bw2 => kernel_rfl!); (case aw2 => kernel_rfl!); (case Fw2 => k_asm); (case vw2 => rfl); k_whole) | (refine' nameX_K ?Fw2 ?Xw2 ?Tw2 ?ew2 ?_ ?aw2 ?bw2; (case bw2 => kernel_rfl!); (case aw2 => kernel_rfl!); (case Fw2 => k_asm); (case Xw2 => k_asm); (case Tw2 => k_asm); (case ew2 => k_is); k_whole) | (refine' nameX_B ?Fw2 ?Xw2 ?Tw2 ?ew2 ?vw2 ?nw2 ?_ ?aw2 ?bw2; (case bw2 => kernel_rfl!); (case aw2 => kernel_rfl!); (case Fw2 => k_asm); (case Xw2 => k_asm); (case Tw2 => k_asm); (case ew2 => k_is); (case vw2 => boot_fast); (case nw2 => decide); k_whole) | (refine' nameX_C ?Nw2 ?cw2 ?mw2 ?dw2 ?_ ?aw2 ?bw2; (case bw2 => kernel_rfl!); (case aw2 => kernel_rfl!); (case Nw2 => k_asm); (case cw2 => rfl); (case mw2 => k_mem); (case dw2 => k_asm); k_whole) | (refine' nameX_F ?Nw2 ?cw2 ?mw2 ?dw2 ?_ ?aw2 ?bw2; (case bw2 => kernel_rfl!); (case aw2 => kernel_rfl!); (case Nw2 => k_asm); (case cw2 => rfl); (case mw2 => k_mem); (case dw2 => k_asm); k_whole)))
  k_with "ord" => ((with_reducible rename DifO _ => hO9); (first | refine' hO9 0 _ _ _ rfl ?hbw3 ?hcw3 | refine' hO9 1 _ _ _ rfl ?hbw3 ?hcw3 | refine' hO9 2 _ _ _ rfl ?hbw3 ?hcw3 | refine' hO9 3 _ _ _ rfl ?hbw3 ?hcw3 | refine' hO9 4 _ _ _ rfl ?hbw3 ?hcw3 | refine' hO9 5 _ _ _ rfl ?hbw3 ?hcw3); (case hbw3 => first | exact (rfl : (_ : List Addr)[0]? = _) | exact (rfl : (_ : List Addr)[1]? = _) | exact (rfl : (_ : List Addr)[2]? = _) | exact (rfl : (_ : List Addr)[3]? = _) | exact (rfl : (_ : List Addr)[4]? = _) | exact (rfl : (_ : List Addr)[5]? = _)); (case hcw3 => exact rfl))
  k_with "nst" => ((with_reducible show wpAny _ _ _ _ _ (Shared.mk _ _ _ _ _)); refine' nst ?kew4 ?_; (case kew4 => (dsimp only; exact rfl)))
  k_with "all" => (first | exact neNil | (refine' neC ?aw5 ?bw5; (case aw5 => k_ne); (case bw5 => k_all)))
  k_with "room" => (first | exact room_ (by assumption) (by exact rfl) | exact room0 (by assumption) (by exact rfl) | ((try simp only [depth_under_make, depth_under_kw, depth_in1, depth_deeper, depth_caller]); (try dsimp only [ktrTop]); omega))
  k_with "units" => (first | exact room_ (by assumption) (by exact rfl) | exact room0 (by assumption) (by exact rfl) | ((try simp only [units_in1, units_deeper, Around.mark_units, units_caller]); (try dsimp only [ktrTop]); omega))
  k_with "execs cons" => ((first | (with_reducible refine execs_T ?_; intro tk) | refine wpAny_execs_cons ?_); (try k_fold))
  k_with "getAttr ref" => (k_here; k_dflt (refine' oget ?k1w9 ?k2w9 ?k3w9 ?k4w9 ?k5w9 ?k6w9 ?k7w9 ?k8w9 ?k9w9 ?_; (case k1w9 => k_asm); (case k2w9 => k_asm); (case k3w9 => k_inst); (case k4w9 => k_is); (case k5w9 => k_is); (case k6w9 => k_is); (case k7w9 => k_is); (case k8w9 => k_get); (case k9w9 => k_handed); k_whole))
  k_with "storeName" => (k_here; k_dflt (refine' ostore ?kFw10 ?kNw10 ?_ ?kaw10 ?kbw10; (case kaw10 => rfl); (case kbw10 => rfl); (case kFw10 => k_asm); (case kNw10 => k_asm); k_whole; intro h' m9 F' N'; (try k_sweep)))
  k_with "eval Constant int" => (refine cint ?_)
  k_with "eval Constant bytes" => (refine cbytes ?_)
  k_with "binaryOp Mod int int" => (k_here; (with_reducible refine mod_pos ?kbw13 ?_); (case kbw13 => omega); intro t' tk')
  k_with "binaryOp FloorDiv int int" => (k_here; (with_reducible refine div_pos ?kbw14 ?kpw14 ?_); (case kbw14 => omega); (case kpw14 => omega); intro t' tk')
  k_with "binaryOp Mult int int" => (k_here; (with_reducible refine mul_small ?kbw15 ?_); (case kbw15 => omega); intro t' tk')
  k_with "subscriptTail Name Constant ref int" => (k_here; (with_reducible show wpAny _ _ (subscriptTail _ _ (Value.ref _) (Value.int _ _)) _ _ _); k_dflt (first | ((with_reducible show wpAny _ _ (subscriptTail _ _ (Value.ref _) (Value.int 0 _)) _ _ _); refine' item_0 ?Nw16 ?mw16 ?_ ?hsw16; (case Nw16 => k_asm); (case mw16 => k_mem); (case hsw16 => with_unfolding_all rfl); k_whole) | ((with_reducible show wpAny _ _ (subscriptTail _ _ (Value.ref _) (Value.int 1 _)) _ _ _); refine' item_1 ?Nw16 ?mw16 ?_ ?hsw16; (case Nw16 => k_asm); (case mw16 => k_mem); (case hsw16 => with_unfolding_all rfl); k_whole)))
  k_with "compareOp Eq int int" => (k_here; first | (with_reducible refine ceq_t ?chw17 ?_; (case chw17 => omega)) | (with_reducible refine ceq_f ?chw17 ?_; (case chw17 => omega)))
  k_with "compareOp NotEq int int" => (k_here; first | (with_reducible refine cne_t ?chw18 ?_; (case chw18 => omega)) | (with_reducible refine cne_f ?chw18 ?_; (case chw18 => omega)))
  k_with "compareOp Lt int int" => (k_here; first | (with_reducible refine clt_t ?chw19 ?_; (case chw19 => omega)) | (with_reducible refine clt_f ?chw19 ?_; (case chw19 => omega)))
  k_with "compareOp LtE int int" => (k_here; first | (with_reducible refine cle_t ?chw20 ?_; (case chw20 => omega)) | (with_reducible refine cle_f ?chw20 ?_; (case chw20 => omega)))
  k_with "compareOp Gt int int" => (k_here; first | (with_reducible refine cgt_t ?chw21 ?_; (case chw21 => omega)) | (with_reducible refine cgt_f ?chw21 ?_; (case chw21 => omega)))
  k_with "compareOp GtE int int" => (k_here; first | (with_reducible refine cge_t ?chw22 ?_; (case chw22 => omega)) | (with_reducible refine cge_f ?chw22 ?_; (case chw22 => omega)))
  k_with "call type:int" => (k_here; (with_reducible show wpAny _ _ (call (Value.type "int") [Value.bool _]) _ _ _); (first | (with_reducible refine int_bf ?_) | (with_reducible refine int_bt ?_) | (with_reducible refine int_bb (by assumption) ?_)); intro t' tk')
  k_with "call builtin:max" => (k_here; (with_reducible show wpAny _ _ (call (Value.builtin _) [Value.int _ _, Value.int _ _]) _ _ _); k_dflt (refine' max2 ?hhw24 ?k1w24 ?k2w24 ?k3w24 ?_; (case hhw24 => with_unfolding_all rfl); (case k1w24 => k_asm); (case k2w24 => k_asm); (case k3w24 => first | exact (Int.max_eq_left (by omega)).symm | exact (Int.max_eq_right (by omega)).symm | exact rfl); k_whole); intro t' h' tk' F' N'; (try k_sweep))
  k_with "call builtin:min" => (k_here; (with_reducible show wpAny _ _ (call (Value.builtin _) [Value.int _ _, Value.int _ _]) _ _ _); k_dflt (refine' min2 ?hhw25 ?k1w25 ?k2w25 ?k3w25 ?_; (case hhw25 => with_unfolding_all rfl); (case k1w25 => k_asm); (case k2w25 => k_asm); (case k3w25 => first | exact (Int.min_eq_left (by omega)).symm | exact (Int.min_eq_right (by omega)).symm | exact rfl); k_whole); intro t' h' tk' F' N'; (try k_sweep))
  k_with "call builtin:min" => (k_here; (with_reducible show wpAny _ _ (call (Value.builtin _) [Value.int _ _, Value.int _ _, Value.int _ _]) _ _ _); k_dflt (refine' min3 ?hhw26 ?k1w26 ?k2w26 ?k3w26 ?_; (case hhw26 => with_unfolding_all rfl); (case k1w26 => k_asm); (case k2w26 => k_asm); (case k3w26 => first | exact m3a (by omega) | exact m3b (by omega) | exact m3c (by omega) | exact rfl); k_whole); intro t' h' tk' F' N'; (try k_sweep))
  k_with "ne" => (refine neN ?_; (try dsimp only); first | (k_extra "ord") | omega)
  k_with "exec Raise some none" => (k_here; (with_reducible show wpAny _ _ (exec (Stmt.Raise (some (Expr.Call (Expr.Name _ _) (_ :: _) [] _)) none _) _) _ _ _); k_dflt (refine' raise_X ?kFw28 ?kXw28 ?kTw28 ?kew28 ?kmw28 ?khw28 ?_ ?kaw28 ?kbw28 ?kcw28 ?kdw28 ?kfw28; (case kFw28 => k_asm); (case kXw28 => k_asm); (case kTw28 => k_asm); (case kew28 => k_is); (case kmw28 => first | exact x63 | exact x51); (case khw28 => first | rfl | assumption); (case kaw28 => rfl); (case kbw28 => rfl); (case kcw28 => rfl); (case kdw28 => rfl); (case kfw28 => decide); k_whole))
  k_with "ArgsX" => (k_dflt (refine' argsX_ ?kFw29 ?kXw29 ?_; (case kFw29 => k_asm); (case kXw29 => k_asm); k_whole))
  k_with "call ref" => (k_here; (with_reducible show wpAny _ _ _ (ExcOut _ _ _) _ _); k_dflt (refine' call_X ?kFw30 ?kXw30 ?kNw30 ?kmw30 ?k1w30 ?k2w30 ?k3w30 ?k4w30 ?k5w30 ?_; (case kFw30 => k_asm); (case kXw30 => k_asm); (case kNw30 => k_asm); (case kmw30 => first | exact x63 | exact x51); (case k1w30 => first | exact s63.1 | exact s51.1); (case k2w30 => first | exact s63.2.1 | exact s51.2.1); (case k3w30 => first | exact s63.2.2.1 | exact s51.2.2.1); (case k4w30 => exact fn35); (case k5w30 => size_fits); k_whole; intro xe xT h' F' N' l1 l2; (have hXne := fun q hq => And.intro (Nat.ne_of_lt (Nat.lt_trans (l1 q hq) l2)) (Nat.ne_of_lt (l1 q hq))); (try k_lt l1); (try k_lt2 l2); k_enter))
  k_with "setAttr ref" => (k_here; (with_reducible show wpAny _ _ (setAttr (Value.ref _) (PySem.Str.ofString "message") _) _ _ _); k_dflt (refine' set_excN ?kFw31 ?kXw31 ?kNw31 ?ksw31 ?kcw31 ?ktw31 ?kUw31 ?_; (case kFw31 => k_asm); (case kXw31 => k_asm); (case kNw31 => k_asm); (case kUw31 => intro t'; k_upd); (case kcw31 => first | exact m63 | exact m51); (case ksw31 => first | exact s63.2.2.2.1 | exact s51.2.2.2.1); (case ktw31 => first | exact s63.2.2.2.2 | exact s51.2.2.2.2); k_whole; intro h' tk' xD F' N'))
  k_with "ExcOut" => (k_dflt (refine' excOut_ ?kFw32 ?kXw32 ?kNw32 ?kmw32 ?_; (case kFw32 => k_asm); (case kXw32 => k_asm); (case kNw32 => k_asm); (case kmw32 => k_mem); k_whole))
  k_with "leaving ref" => (k_here; k_dflt (refine' leave_X ?kBw33 ?kFw33 ?kNw33 ?knw33 ?_; (case kBw33 => k_asm); (case kFw33 => k_asm); (case kNw33 => k_asm); (case knw33 => assumption); k_whole); intro h' R' U'; (try dsimp only at R' U'))
  k_with "leaving ref" => (k_here; (refine' leave_onX ?k1w34 ?k2w34 ?k3w34 ?k4w34 ?_; (case k3w34 => assumption); (case k1w34 => assumption); (case k4w34 => assumption); (case k2w34 => assumption); k_whole; intro h' R' U'; (try dsimp only at R' U' ⊢)))
  k_with "noteFrame ref" => (k_here; (with_reducible rename RaisedK _ _ _ _ _ _ _ _ => rkX); k_dflt (refine' caught_L ?kBw35 ?kFw35 ?kUw35 ?kRw35 ?kXw35 ?kmw35 ?kvw35 ?_; (case kBw35 => k_asm); (case kFw35 => assumption); (case kUw35 => assumption); (case kRw35 => assumption); (case kXw35 => k_asm); (case kmw35 => first | exact x63 | exact x51); (case kvw35 => exact rfl); k_whole); intro h' F' N'; (try k_sweep))
  trivial
/-- the end of a contract whose callee may catch: kept shut for the walk -/
def LeaveW (R : Value → Shared → Prop) (v : Value) (s' : Shared) : Prop := R v s'
section
variable {M : Model} {A : Around} {E : Value → Shared → Prop} {s' : Shared} {base g g₂ h : Heap} {outer : List Env} {L a e C T D : Addr} {m : Str → Option Value} {name : Str} {scope : Scope} {cd : Value} {cl : List (Str × Addr)} {Q : Unit → Shared → Prop} {rel : List (Addr × Obj)} {vs : List Value}
theorem mem_X {b : Addr} (hm : b ∈ (envX name scope L a cd cl :: outer).filterMap (·.frame)) : b = L ∨ b ∈ outer.filterMap (·.frame) := by
  obtain ⟨env, he, hf⟩ := List.mem_filterMap.mp hm
  rcases List.mem_cons.mp he with rfl | he
  · exact .inl (Option.some.inj hf).symm
  · exact .inr (List.mem_filterMap.mpr ⟨env, he, hf⟩)
theorem leave_XS (K : Below A base outer g) (F : Fr g L s'.heap m) (N : News g L s'.heap ((e, excFresh C T (some D)) :: (T, tupObj vs) :: rel)) (hne : ∀ q ∈ rel, @Ne Nat q.1 e ∧ @Ne Nat q.1 T)
    (hQ : ∀ h', RaisedS base g outer e (.ref C) T vs rel h' → g.UpToSlots h' → Q () { s' with heap := h' }) (hk : scope.kind = .function := by rfl) :
    wpAny M (A.deeper (envOf name scope L a cd)) (leaving (envOf name scope L a cd) (.ref e)) Q E s' := by
  have K' := K.push (name := name) (a := a) (cd := cd) F hk
  have he := N _ (.head _)
  have hT := N _ (.tail _ (.head _))
  have Nr : ∀ q ∈ rel, s'.heap.get? q.1 = some q.2 ∧ q.1 ≠ L ∧ g.get? q.1 = none := fun q hq => N q (.tail _ (.tail _ hq))
  have hin : ∀ env ∈ (envOf name scope L a cd :: outer), ∀ b, env.frame = some b → b ∈ e :: T :: (envOf name scope L a cd :: outer).filterMap (·.frame) := fun env he b hb => .tail _ (.tail _ (List.mem_filterMap.mpr ⟨env, he, hb⟩))
  have st : base.StaysIn (hideAll s'.heap (e :: T :: (envOf name scope L a cd :: outer).filterMap (·.frame))) := fun b o q => hideAll_get _ (K'.stays b o q) fun hm => by
    rcases List.mem_cons.mp hm with rfl | hm
    · have := K.stays _ _ q; rw [he.2.2] at this; cases this
    rcases List.mem_cons.mp hm with rfl | hm
    · have := K.stays _ _ q; rw [hT.2.2] at this; cases this
    rw [(K'.frames.mem hm).1] at q; cases q
  have sg : ∀ b o, g.get? b = some o → b ∉ outer.filterMap (·.frame) → (hideAll s'.heap (e :: T :: (envOf name scope L a cd :: outer).filterMap (·.frame))).get? b = some o := fun b o q nm => hideAll_get _ (F.keep b o q) fun hm => by
    rcases List.mem_cons.mp hm with rfl | hm
    · rw [he.2.2] at q; cases q
    rcases List.mem_cons.mp hm with rfl | hm
    · rw [hT.2.2] at q; cases q
    rcases kts_mem hm with z | z
    · rw [z, kts_self F] at q
      cases q
    · exact nm z
  have hl : ∀ q ∈ rel, (hideAll s'.heap (e :: T :: (envOf name scope L a cd :: outer).filterMap (·.frame))).get? q.1 = some q.2 ∧ g.get? q.1 = none ∧ base.get? q.1 = none := fun q hq => by
    refine ⟨hideAll_get _ (Nr q hq).1 fun hm => ?_, (Nr q hq).2.2, fresh_of_stays K.stays (Nr q hq).2.2⟩
    rcases List.mem_cons.mp hm with h | hm
    · exact (hne q hq).1 h
    rcases List.mem_cons.mp hm with h | hm
    · exact (hne q hq).2 h
    obtain ⟨env, he, hf⟩ := List.mem_filterMap.mp hm
    rcases List.mem_cons.mp he with rfl | he
    · exact (Nr q hq).2.1 (Option.some.inj hf).symm
    · obtain ⟨o, ho, _⟩ := (K.frames.mem (List.mem_filterMap.mpr ⟨env, he, hf⟩)).2
      rw [(Nr q hq).2.2] at ho; cases ho
  refine wpAny_leaving_firstW (a0 := .ref T) (base := hideAll s'.heap (e :: T :: (envOf name scope L a cd :: outer).filterMap (·.frame))) K'.stack (funFrames_hide K'.frames hin) rfl he.1 (fun b o q => of_hideAll _ q) (hideAll_none _ (.head _)) rfl rfl rfl fun h' hL => ?_
  obtain ⟨k1, ⟨_, _, k2⟩, k3, k4⟩ := hL
  exact hQ h' ⟨⟨_, st, sg, hl, ⟨k1, hideAll_none _ (.head _), k2, k3⟩, hideAll_none _ (.tail _ (.head _))⟩, Heap.TupAt.of_slots ⟨_, _, hT.1, rfl, rfl⟩ k4⟩ ((Heap.UpToSlots.of_keeps F.keep).trans k4)
theorem leave_onXS {cls : Value} {t : Addr} {news : List (Addr × Obj)} (K : Below A base outer g) (F : Fr g L g₂ m) (R : RaisedS base g₂ (envX name scope L a cd cl :: outer) e cls t vs news s'.heap) (hsm : g₂.UpToSlots s'.heap)
    (hQ : ∀ h', RaisedS base g outer e cls t vs news h' → g.UpToSlots h' → Q () { s' with heap := h' }) :
    wpAny M (A.deeper (envX name scope L a cd cl)) (leaving (envX name scope L a cd cl) (.ref e)) Q E s' := by
  obtain ⟨⟨B, hB, hBG, hl, hfl, hnew⟩, htup⟩ := R
  exact wpAny_leaves_onW (Around.frames_deeper K.stack) rfl hfl fun h' x1 x2 =>
    hQ h' ⟨⟨B, hB, fun b o q nm => hBG b o (F.keep b o q) (fun hm => by
      rcases mem_X hm with z | z
      · rw [z, kts_self F] at q
        cases q
      · exact nm z), fun q hq => ⟨(hl q hq).1, kts_none F.keep (hl q hq).2.1, (hl q hq).2.2⟩, x1, hnew⟩, htup.of_slots x2⟩ ((Heap.UpToSlots.of_keeps F.keep).trans (hsm.trans x2))
end
section
variable {prog : Program} {w : World} {A₀ : Around} {E : Value → Shared → Prop} {s' : Shared} {base g g₀ G : Heap} {outer : List Env} {L a e t : Addr} {m : Str → Option Value} {name : Str} {scope : Scope} {cd : Value}
  {vs : List Value} {b₀ : Stmt} {suite : List Stmt} {pos np : Pos} {rest : List ExceptHandler} {Q : Flow → Shared → Prop} {news : List (Addr × Obj)} {K : Frag} {C : Addr} {x : Str} {newId : String}
  {p : Program} {loose : List Str} {mean : ExcName → Option Value} {mg mb : Str → Option Value}
theorem caught_LS (R : RaisedS base G (envOf name scope L a cd :: outer) e (.ref C) t vs news s'.heap) (F : Fr g L G m) (B : Below A₀ base outer g) (hsm : G.UpToSlots s'.heap) (XB : K.In base) (TB : Top p loose mean mg mb base)
    (W : KtsTurn (outer.filterMap (·.frame)) g₀ g)
    (hm : excOwn K C newId) (hv : m x = some (.ref C))
    (k : ∀ h' g', KtsTurn (outer.filterMap (·.frame)) g₀ g' → Fr g' L h' m → News g' L h' news → Below A₀ base outer g' → K.In g' → Top p loose mean mg mb g' →
      wpAny (model prog w) ((A₀.deeper (envOf name scope L a cd)).mark (some (.ref e))) (execs (b₀ :: suite) (envOf name scope L a cd)) Q E { s' with heap := h' })
    (hk : scope.kind = .function := by rfl) (hx : (envOf name scope L a cd).kindOf x = some .local := by rfl) (hd : (x == ("__debug__" : Str)) = false := by decide)
    (hE : PassesOwnAt (model prog w) ((A₀.deeper (envOf name scope L a cd)).mark (some (.ref e))) (A₀.deeper (envOf name scope L a cd)) (envOf name scope L a cd) E := by passes_own) :
    wpAny (model prog w) (A₀.deeper (envOf name scope L a cd)) (noteFrame (.ref e) (envOf name scope L a cd))
      (fun _ s₂ => wpAny (model prog w) (A₀.deeper (envOf name scope L a cd)) (setFlight (.ref e) none) (fun _ s₃ =>
        wpAny (model prog w) (A₀.deeper (envOf name scope L a cd)) (handleBy (.ref e) (envOf name scope L a cd) (.ExceptHandler (some (.Name x np)) none (b₀ :: suite) pos :: rest)) Q E s₃) E s₂) E s' := by
  obtain ⟨⟨B', hB, hBG, hl, hfl, hnew⟩, htup⟩ := R
  have hL : B'.get? L = none := by
    obtain ⟨_, ⟨L', _, hf, hn', _⟩, _⟩ := hfl.2.2.1
    obtain rfl : L = L' := Option.some.inj hf
    exact hn'
  refine wpAny_looks_onW (Around.frames_deeper B.stack) rfl hfl fun h₄ hheld₄ hsm₄ => ?_
  refine wpAny_landsW hheld₄ fun h₅ hheld hsm₅' => ?_
  have hsm₅ := hsm₄.trans hsm₅'
  obtain ⟨g₅, T₅, F₅, K₅⟩ := kts_ground B F hBG hheld.1 (hsm.trans hsm₅)
  have X₅ : K.In g₅ := XB.keeps K₅.stays
  obtain ⟨ob, hob, hobc⟩ := hheld.there
  refine wpAny_handleBy_cons (codeAny_handlers_test (ld F₅ hv ?_ hk hx hd)) (by intro q; cases q)
  obtain ⟨nm, q, N0, bs, bm, hdct, sn, sub, ab, col, dd, k0, k1, k2, k3, k5, hC, e1, e2, e3, e4⟩ := (excC_of (X₅.keeps F₅.keep) hm).obj
  refine wpAny_excMatches_sub_self hC hob hobc e2 (codeAny_handlers_suite ?_)
  refine lands_againW hheld fun h₆ hfl₆ hsm₆ => ?_
  obtain ⟨g₆, T₆, F₆, K₆⟩ := kts_ground B F hBG hfl₆.1 ((hsm.trans hsm₅).trans hsm₆)
  have Nl : News g₆ L h₆ news := fun q hq => ⟨hfl₆.1 _ _ (hl q hq).1, (fun z => by have := (hl q hq).1; rw [z, hL] at this; cases this), T₆.none_ _ (kts_none F.keep (hl q hq).2.1)⟩
  exact wpAny_passesOwnAt hE (k h₆ g₆ (W.trans T₆) F₆ Nl K₆ (XB.keeps K₆.stays) (TB.keeps K₆.stays))
end
/-- a contract of a def that may catch: the frames below may be noted -/
def CtrT (w : World) (f : Addr) (vs : List Value) (rel : List (Addr × Obj)) (Pre : Heap → Prop) (D U : Nat) (Post : Value → List (Addr × Obj) → Prop) : Prop :=
  ∀ (loose : List Str) (mean : ExcName → Option Value) (mg mb : Str → Option Value) (dp un : Nat) (gd : Option (List Code)) (cn : Str) (cs : Scope) (ad : Addr) (ccd : Value) (cl : List (Str × Addr)) (outer : List Env) (base : Heap) (L : Addr) (s : Shared) (Rr : Result → Shared → Prop),
    At w loose mean mg mb (ktrTop dp un gd cn cs L ad ccd cl outer) base (envX cn cs L ad ccd cl :: outer) (hideAll s.heap (rel.map (·.1))) →
    Has s.heap rel → ((hok.heap_1 w.params).In base ∧ Top topProg loose mean mg mb base ∧ Pre base) → dp + D < recursionLimit → un + U < cLine →
    (∀ v news' h' tk' g', KtsTurn ((envX cn cs L ad ccd cl :: outer).filterMap (·.frame)) (hideAll s.heap (rel.map (·.1))) g' → g'.StaysIn h' → Has h' news' → (∀ p ∈ news', g'.get? p.1 = none) → Post v news' → Rr (.ok (.ret v)) { s with heap := h', toks := tk' }) →
    codeAny (model PySem.Challenge.rw_qz0162_01.row.prog w) (ktrTop dp un gd cn cs L ad ccd cl outer) (.call (.ref f) ⟨vs, []⟩) Rr s

section
variable {w : World} {f : Addr} {vs : List Value} {rel : List (Addr × Obj)} {Pre : Heap → Prop} {D U : Nat} {Post : Value → List (Addr × Obj) → Prop}
    {loose : List Str} {mean : ExcName → Option Value} {mg mb : Str → Option Value} {dp un : Nat} {gd : Option (List Code)} {cn : Str} {cs : Scope} {ad : Addr} {ccd : Value} {cl : List (Str × Addr)} {outer : List Env} {A₀ : Around} {base h₀ g₀ : Heap} {L : Addr} {m : Str → Option Value} {s : Shared} {news : List (Addr × Obj)} {Q E : Value → Shared → Prop}
theorem ctrT_core (C : CtrT w f vs rel Pre D U Post)
    (B : Below A₀ base outer h₀) (F : Fr h₀ L s.heap m) (X : (hok.heap_1 w.params).In h₀) (N : News h₀ L s.heap news) (T : Top topProg loose mean mg mb h₀) (XB : (hok.heap_1 w.params).In base) (TB : Top topProg loose mean mg mb base) (hP0 : Pre base) (hk : cs.kind = .function)
    (hrel : ∀ p ∈ rel, p ∈ news) (hd1 : dp + D < recursionLimit) (hu : un + U < cLine)
    (h : ∀ v news' h' tk' h₁, KtsTurn (outer.filterMap (·.frame)) h₀ h₁ → Below A₀ base outer h₁ → Fr h₁ L h' m → News h₁ L h' news' →
      (∀ p ∈ news, (∀ q ∈ rel, p.1 ≠ q.1) → (h'.get? p.1 = some p.2 ∧ p.1 ≠ L ∧ h₁.get? p.1 = none) ∧ ∀ q ∈ news', p.1 ≠ q.1) → Post v news' → Q v { s with heap := h', toks := tk' }) :
    wpAny (model PySem.Challenge.rw_qz0162_01.row.prog w) (ktrTop dp un gd cn cs L ad ccd cl outer) (call (.ref f) vs) Q E s := by
  have nm : ∀ b o, h₀.get? b = some o → b ∉ rel.map (·.1) := fun b o e q => by
    obtain ⟨p, hp, rfl⟩ := List.mem_map.mp q
    rw [(N p (hrel p hp)).2.2] at e; cases e
  have st : h₀.StaysIn (hideAll s.heap (rel.map (·.1))) := fun b o e => hideAll_get _ (F.keep b o e) (nm b o e)
  obtain ⟨oL, es, ep, hL, hLd, hLk, hLf⟩ := F.ns
  have nL : L ∉ rel.map (·.1) := fun q => by
    obtain ⟨p, hp, e⟩ := List.mem_map.mp q
    exact (N p (hrel p hp)).2.1 e
  have hLg := hideAll_get (rel.map (·.1)) hL nL
  have hL0 : h₀.get? L = none := kts_self F
  refine wpAny_call (C loose mean mg mb dp un gd cn cs ad ccd cl outer base L s _ ⟨?_, X.keeps st, T.keeps st⟩ (fun p hp => (N p (hrel p hp)).1) ⟨XB, TB, hP0⟩ hd1 hu (fun v news' h' tk' g' W sk hH hN hP => ?_))
  · exact (groundX (R := fun _ _ => True) B F (fun p hp => N p (hrel p hp)) rfl rfl hk).2.1
  · have inF : ∀ b, b ∈ (envX cn cs L ad ccd cl :: outer).filterMap (·.frame) → b = L ∨ b ∈ outer.filterMap (·.frame) := fun b hb => mem_X hb
    obtain ⟨V, S⟩ := kts_turn_at (h := h') (fs := outer.filterMap (·.frame)) (g := h₀)
      (fun b hb => by
        obtain ⟨_, o, ho, _⟩ := B.frames.mem hb
        exact ⟨o, ho⟩)
      (fun b o e nf => sk b o (W.other b o (st b o e) fun hm => by
        rcases inF b hm with z | z
        · rw [z, hL0] at e; cases e
        · exact nf z))
      (fun b o e hm => by
        obtain ⟨sl, hs⟩ := W.up (st b o e)
        exact ⟨sl, sk _ _ hs⟩)
    have B' : Below A₀ base outer (ktsHeap h' (outer.filterMap (·.frame)) h₀) := ⟨B.stack, fun b o e => V.other b o (B.stays b o e) (fun hm => by
      rw [(B.frames.mem hm).1] at e
      cases e), B.frames.of_keeps fun b o e _ => by
        obtain ⟨sl, hs⟩ := V.up e
        exact ⟨_, hs, rfl⟩⟩
    obtain ⟨slL, hsL⟩ := W.up hLg
    have notF : ∀ p ∈ news, p.1 ∉ (envX cn cs L ad ccd cl :: outer).filterMap (·.frame) := fun p hp hm => by
      rcases inF _ hm with z | z
      · exact (N p hp).2.1 z
      · obtain ⟨_, o, ho, _⟩ := B.frames.mem z
        rw [(N p hp).2.2] at ho; cases ho
    refine h v news' h' tk' _ V B' ⟨⟨_, es, ep, sk _ _ hsL, hLd, hLk, hLf⟩, S, by rw [V.size]; exact F.above⟩ (fun p hp => ⟨hH p hp, fun e => ?_, ?_⟩) (fun p hp hn => ?_) hP
    · have := hN p hp; rw [e, hsL] at this; cases this
    · refine V.none_ _ ?_
      cases q : h₀.get? p.1 with
      | none => rfl
      | some o =>
        obtain ⟨sl, hs⟩ := W.up (st _ _ q)
        have := hN p hp; rw [hs] at this; cases this
    · have hn' : p.1 ∉ rel.map (·.1) := fun q => by
        obtain ⟨r, hr, e⟩ := List.mem_map.mp q
        exact hn r hr e.symm
      have hg := W.other _ _ (hideAll_get (rel.map (·.1)) (N p hp).1 hn') (notF p hp)
      exact ⟨⟨sk _ _ hg, (N p hp).2.1, V.none_ _ (N p hp).2.2⟩, fun q hq e => by have := hN q hq; rw [← e, hg] at this; cases this⟩
theorem end_t {α : Type} {mk : α → Value} {rel' : α → List (Addr × Obj)} {g g' : Heap} {fs : List Addr} {s : Shared} {Rr : Result → Shared → Prop}
    (hret : ∀ v news' h' tk' g', KtsTurn fs g g' → g'.StaysIn h' → Has h' news' → (∀ p ∈ news', g'.get? p.1 = none) → (∃ t, v = mk t ∧ news' = rel' t) → Rr (.ok (.ret v)) { s with heap := h', toks := tk' })
    (t : α) {L' : Addr} {m' : Str → Option Value} {news'' : List (Addr × Obj)} {v : Value} {h' : Heap} {tk' : Nat} (hv : v = mk t) (W : KtsTurn fs g g') (F' : Fr g' L' h' m') (N' : News g' L' h' news'') (hsub : ∀ p ∈ rel' t, p ∈ news'') :
    LeaveW (fun v s' => Rr (.ok (.ret v)) s') v { s with heap := h', toks := tk' } :=
  hret v (rel' t) h' tk' g' W F'.keep (fun p hp => (N' p (hsub p hp)).1) (fun p hp => (N' p (hsub p hp)).2.2) ⟨t, hv, rfl⟩
end
theorem code_ctrT {w : World} {A : Around} {s : Shared} {base g : Heap} {env : Env} {outer : List Env} {K : Frag} {p : Program} {loose : List Str} {mean : ExcName → Option Value} {mg mb : Str → Option Value}
    {R : Result → Shared → Prop} {rel : List (Addr × Obj)} {name qual : Str} {params : Arguments} {body : List Stmt} {scope : Scope} {dV kV doc pm cdv ct oc : Value} {an od : Option Addr} {osl : Array (Option Value)} {f : Addr} {args : Args} {binds : List (Str × Value)}
    (B : Below A base (env :: outer) g) (hg : g = hideAll s.heap (rel.map (·.1))) (X : K.In g) (T : Top p loose mean mg mb g) (H : Has s.heap rel)
    (ho : K.lookup f = some ⟨oc, od, .func (fnOf name qual params body scope dV kV doc pm an cdv ct), osl⟩) (hcd : codeIn K cdv qual = true) (hroom : A.depth < recursionLimit)
    (hbind : BindsTo s (fnOf name qual params body scope dV kV doc pm an cdv ct) args binds) (hloc : ∀ y ∈ binds, scope.names.lookup y.1 = some .local)
    (h : ∀ L' h₁, Fr g L' h₁ (fun y => binds.reverse.lookup y) → News g L' h₁ rel →
      wpAny (model PySem.Challenge.rw_qz0162_01.row.prog w) (A.deeper (envOf qual scope L' f cdv)) (execs body (envOf qual scope L' f cdv))
        (fun fl s' => LeaveW (fun v s' => R (.ok (.ret v)) s') (match fl with | .ret v => v | _ => .none) s')
        (fun e s' => wpAny (model PySem.Challenge.rw_qz0162_01.row.prog w) (A.deeper (envOf qual scope L' f cdv)) (leaving (envOf qual scope L' f cdv) e) (fun _ s'' => R (.error e) s'') (fun e' s'' => R (.error e') s'') s')
        { s with heap := h₁, toks := s.toks + binds.length })
    (hco : scope.isCoroutine = false) (hgen : scope.isGenerator = false) (hk : scope.kind = .function)
    (hcell : ∀ x ∈ scope.names, x.2 ≠ .cell) : codeAny (model PySem.Challenge.rw_qz0162_01.row.prog w) A (.call (.ref f) args) R s := by
  subst hg
  have st : (hideAll s.heap (rel.map (·.1))).StaysIn s.heap := fun b o e => of_hideAll _ e
  refine codeAny_call_def (fd := fnOf name qual params body scope dV kV doc pm an cdv ct) (body := body) (binds := binds) hroom (st _ _ (X _ _ ho)) rfl (T.nolimit.keeps st) (codeRec_of (X.keeps st) hcd) rfl hbind hcell hloc (fun h₁ hns hk₁ => ?_) hco hgen hk
  exact wpAny_mono (h s.heap.objs.size h₁ ⟨hns, fun b o e => hk₁ b o (of_hideAll _ e), Nat.le_of_eq (hideAll_size _ _)⟩
    (fun p hp => ⟨hk₁ _ _ (H p hp), Nat.ne_of_lt (Heap.lt_size (H p hp)), hideAll_none _ (List.mem_map_of_mem hp)⟩)) (fun fl s' hl => hl) fun _ _ y => y

theorem code_ctrCT {w : World} {A : Around} {s : Shared} {base g : Heap} {env : Env} {outer : List Env} {K : Frag} {p : Program} {loose : List Str} {mean : ExcName → Option Value} {mg mb : Str → Option Value}
    {R : Result → Shared → Prop} {rel : List (Addr × Obj)} {name qual : Str} {params : Arguments} {body : List Stmt} {scope : Scope} {dV kV doc pm cdv ct oc : Value} {an od : Option Addr} {osl : Array (Option Value)} {f : Addr} {args : Args} {binds : List (Str × Value)}
    (B : Below A base (env :: outer) g) (hg : g = hideAll s.heap (rel.map (·.1))) (X : K.In g) (T : Top p loose mean mg mb g) (H : Has s.heap rel)
    (ho : K.lookup f = some ⟨oc, od, .func (fnOf name qual params body scope dV kV doc pm an cdv ct), osl⟩) (hcd : codeIn K cdv qual = true) (hroom : A.depth < recursionLimit)
    (hbind : BindsTo s (fnOf name qual params body scope dV kV doc pm an cdv ct) args binds) (hkind : (binds.all fun y => scope.names.lookup y.1 == some .local || scope.names.lookup y.1 == some .cell) = true)
    (hnd : ((cellsFrom 0 scope.names []).map (·.1)).Nodup)
    (h : ∀ L' h₁ tk cells, Fr g L' h₁ (bindL (envOfC qual scope L' f cdv).kindOf binds fun _ => none) → News g L' h₁ (cells ++ rel) →
      CellsAre (bindC (envOfC qual scope L' f cdv).kindOf binds fun _ => none) (cellsFrom (L' + 1) scope.names []) cells → (∀ p ∈ rel, p.1 < L') →
      wpAny (model PySem.Challenge.rw_qz0162_01.row.prog w) (A.deeper (envOfC qual scope L' f cdv)) (execs body (envOfC qual scope L' f cdv))
        (fun fl s' => LeaveW (fun v s' => R (.ok (.ret v)) s') (match fl with | .ret v => v | _ => .none) s')
        (fun e s' => wpAny (model PySem.Challenge.rw_qz0162_01.row.prog w) (A.deeper (envOfC qual scope L' f cdv)) (leaving (envOfC qual scope L' f cdv) e) (fun _ s'' => R (.error e) s'') (fun e' s'' => R (.error e') s'') s')
        { s with heap := h₁, toks := tk })
    (hco : scope.isCoroutine = false) (hgen : scope.isGenerator = false) (hk : scope.kind = .function) : codeAny (model PySem.Challenge.rw_qz0162_01.row.prog w) A (.call (.ref f) args) R s := by
  subst hg
  have st : (hideAll s.heap (rel.map (·.1))).StaysIn s.heap := fun b o e => of_hideAll _ e
  refine codeAny_call_function (fd := fnOf name qual params body scope dV kV doc pm an cdv ct) (body := body) hroom (st _ _ (X _ _ ho)) rfl hco hgen rfl (codeRec_of (X.keeps st) hcd) (hbind _ _ _ _ ?_)
  refine wpAny_newFunctionEnv_cells hk (kindsX hkind _) fun env' he s' x => ?_
  subst he
  refine ⟨(T.nolimit.keeps st).keeps x.toInCall.keep, codeAny_func ?_⟩
  obtain ⟨h₁, tk, rfl, _⟩ := x.done
  have hk₁ := x.toInCall.keep
  obtain ⟨cells, NC, Y⟩ := Cl.news (h₀ := s.heap) (Nat.le_refl _) fun n c hm => ⟨x.cell n c (lookup_of_mem_nodup (cellsFrom_names scope.names 0 (s.heap.objs.size + 1) [] [] rfl ▸ hnd) hm), x.above n c hm⟩
  refine wpAny_mono (h s.heap.objs.size h₁ tk cells ⟨x.toInCall.ns, fun b o e => hk₁ b o (of_hideAll _ e), Nat.le_of_eq (hideAll_size _ _)⟩ (fun p hp => ?_) Y (fun p hp => Heap.lt_size (H p hp))) (fun fl s' hl => hl) fun _ _ y => y
  rcases List.mem_append.mp hp with hp | hp
  · refine ⟨(NC p hp).1, (NC p hp).2.1, ?_⟩
    cases q : (hideAll s.heap (rel.map (·.1))).get? p.1 with
    | none => rfl
    | some o => have := of_hideAll _ q; rw [(NC p hp).2.2] at this; cases this
  · exact ⟨hk₁ _ _ (H p hp), Nat.ne_of_lt (Heap.lt_size (H p hp)), hideAll_none _ (List.mem_map_of_mem hp)⟩

section
variable {w : World} {f : Addr} {vs : List Value} {rel : List (Addr × Obj)} {Pre : Heap → Prop} {D U : Nat}
    {loose : List Str} {mean : ExcName → Option Value} {mg mb : Str → Option Value} {dp un : Nat} {gd : Option (List Code)} {cn : Str} {cs : Scope} {ad : Addr} {ccd : Value} {cl : List (Str × Addr)} {outer : List Env} {A₀ : Around} {base h₀ g₀ : Heap} {L : Addr} {m : Str → Option Value} {s : Shared} {news : List (Addr × Obj)} {Q E : Value → Shared → Prop}
/-- a contract that reads alone and may catch -/
theorem use_rT {hp : Heap} {gn : Array GenState} {dr : Drawn} {nk : Nat} {os : OsState} {α : Type} {mk : α → Value} (C : CtrT w f vs rel Pre D U (fun v n' => ∃ t, v = mk t ∧ n' = rel)) (W : KtsTurn (outer.filterMap (·.frame)) g₀ h₀)
    (B : Below A₀ base outer h₀) (F : Fr h₀ L hp m) (X : (hok.heap_1 w.params).In h₀) (N : News h₀ L hp news) (T : Top topProg loose mean mg mb h₀) (XB : (hok.heap_1 w.params).In base) (TB : Top topProg loose mean mg mb base) (hP0 : Pre base) (hk : cs.kind = .function)
    (hrel : ∀ p ∈ rel, p ∈ news) (hd1 : dp + D < recursionLimit) (hu : un + U < cLine)
    (h : ∀ t h' tk' h₁, KtsTurn (outer.filterMap (·.frame)) g₀ h₁ → Below A₀ base outer h₁ → (hok.heap_1 w.params).In h₁ → Top topProg loose mean mg mb h₁ → Fr h₁ L h' m → News h₁ L h' news → Q (mk t) ⟨h', gn, dr, tk', os⟩) :
    wpAny (model PySem.Challenge.rw_qz0162_01.row.prog w) (ktrTop dp un gd cn cs L ad ccd cl outer) (call (.ref f) vs) Q E ⟨hp, gn, dr, nk, os⟩ := by
  refine ctrT_core C B F X N T XB TB hP0 hk hrel hd1 hu fun v n' h' tk' h₁ V B' F' N' hr hP => ?_
  obtain ⟨t, rfl, rfl⟩ := hP
  refine h t h' tk' h₁ (W.trans V) B' (XB.keeps B'.stays) (TB.keeps B'.stays) F' fun p hp => ?_
  by_cases hq : ∃ q ∈ n', p.1 = q.1
  · obtain ⟨q, hq, e⟩ := hq
    have h1 := (N p hp).1
    have h2 := (N q (hrel q hq)).1
    rw [e, h2] at h1
    have e2 : p = q := Prod.ext e (Option.some.inj h1).symm
    rw [e2]; exact N' q hq
  · exact (hr p hp fun q hq' e => hq ⟨q, hq', e⟩).1
end
end
end Mine
-- part RefQ
namespace Mine
section
theorem ln1_7b88cf : True := by
  k_with_none
  k_with "callWith ref" => (k_here; (with_reducible rename Fr _ _ _ _ => kF); (with_reducible rename Frag.In _ _ => kX); first | ((with_reducible show wpAny _ _ (callWith _ _ _ (backTo _ (starEach [] _)) []) _ _ _); k_dflt (refine' callWith_K0 (Frag.In.keeps kX (Fr.keep kF)) ?k2w1 ?_; (case k2w1 => k_is); k_whole)) | ((with_reducible show wpAny _ _ (callWith _ _ _ (backTo _ (starEach (_ :: _) _)) []) _ _ _); k_dflt (refine' callWith_K kX ?k2w1 ?_; (case k2w1 => k_is); k_whole)))
  k_with "eval Name" => (k_here; (fail_if_success (with_reducible show wpAny _ _ (eval (Expr.Name _ _) (compEnvC _ _ _ _)) _ _ _)); k_dflt (first | (refine' nameX_L ?Fw2 ?vw2 ?_ ?aw2 ?bw2; (case bw2 => kernel_rfl!); (case aw2 => kernel_rfl!); (case Fw2 => k_asm); (case vw2 => rfl); k_whole) | (refine' nameX_K ?Fw2 ?Xw2 ?Tw2 ?ew2 ?_ ?aw2 ?bw2; (case bw2 => kernel_rfl!); (case aw2 => kernel_rfl!); (case Fw2 => k_asm); (case Xw2 => k_asm); (case Tw2 => k_asm); (case ew2 => k_is); k_whole) | (refine' nameX_B ?Fw2 ?Xw2 ?Tw2 ?ew2 ?vw2 ?nw2 ?_ ?aw2 ?bw2; (case bw2 => kernel_rfl!); (case aw2 => kernel_rfl!); (case Fw2 => k_asm); (case Xw2 => k_asm); (case Tw2 => k_asm); (case ew2 => k_is); (case vw2 => boot_fast); (case nw2 => decide); k_whole) | (refine' nameX_C ?Nw2 ?cw2 ?mw2 ?dw2 ?_ ?aw2 ?bw2; (case bw2 => kernel_rfl!); (case aw2 => kernel_rfl!); (case Nw2 => k_asm); (case cw2 => rfl); (case mw2 => k_mem); (case dw2 => k_asm); k_whole) | (refine' nameX_F ?Nw2 ?cw2 ?mw2 ?dw2 ?_ ?aw2 ?bw2; (case bw2 => kernel_rfl!); (case aw2 => kernel_rfl!); (case Nw2 => k_asm); (case cw2 => rfl); (case mw2 => k_mem); (case dw2 => k_asm); k_whole)))
  k_with "ord" => ((with_reducible rename DifO _ => hO9); (first | refine' hO9 0 _ _ _ rfl ?hbw3 ?hcw3 | refine' hO9 1 _ _ _ rfl ?hbw3 ?hcw3 | refine' hO9 2 _ _ _ rfl ?hbw3 ?hcw3 | refine' hO9 3 _ _ _ rfl ?hbw3 ?hcw3 | refine' hO9 4 _ _ _ rfl ?hbw3 ?hcw3 | refine' hO9 5 _ _ _ rfl ?hbw3 ?hcw3); (case hbw3 => first | exact (rfl : (_ : List Addr)[0]? = _) | exact (rfl : (_ : List Addr)[1]? = _) | exact (rfl : (_ : List Addr)[2]? = _) | exact (rfl : (_ : List Addr)[3]? = _) | exact (rfl : (_ : List Addr)[4]? = _) | exact (rfl : (_ : List Addr)[5]? = _)); (case hcw3 => exact rfl))
  k_with "nst" => ((with_reducible show wpAny _ _ _ _ _ (Shared.mk _ _ _ _ _)); refine' nst ?kew4 ?_; (case kew4 => (dsimp only; exact rfl)))
  k_with "all" => (first | exact neNil | (refine' neC ?aw5 ?bw5; (case aw5 => k_ne); (case bw5 => k_all)))
  k_with "room" => (first | exact room_ (by assumption) (by exact rfl) | exact room0 (by assumption) (by exact rfl) | ((try simp only [depth_under_make, depth_under_kw, depth_in1, depth_deeper, depth_caller]); (try dsimp only [ktrTop]); omega))
  k_with "units" => (first | exact room_ (by assumption) (by exact rfl) | exact room0 (by assumption) (by exact rfl) | ((try simp only [units_in1, units_deeper, Around.mark_units, units_caller]); (try dsimp only [ktrTop]); omega))
  k_with "execs cons" => ((first | (with_reducible refine execs_T ?_; intro tk) | refine wpAny_execs_cons ?_); (try k_fold))
  k_with "getAttr ref" => (k_here; k_dflt (refine' oget ?k1w9 ?k2w9 ?k3w9 ?k4w9 ?k5w9 ?k6w9 ?k7w9 ?k8w9 ?k9w9 ?_; (case k1w9 => k_asm); (case k2w9 => k_asm); (case k3w9 => k_inst); (case k4w9 => k_is); (case k5w9 => k_is); (case k6w9 => k_is); (case k7w9 => k_is); (case k8w9 => k_get); (case k9w9 => k_handed); k_whole))
  k_with "storeName" => (k_here; k_dflt (refine' ostore ?kFw10 ?kNw10 ?_ ?kaw10 ?kbw10; (case kaw10 => rfl); (case kbw10 => rfl); (case kFw10 => k_asm); (case kNw10 => k_asm); k_whole; intro h' m9 F' N'; (try k_sweep)))
  k_with "eval Constant int" => (refine cint ?_)
  k_with "eval Constant bytes" => (refine cbytes ?_)
  k_with "binaryOp Mod int int" => (k_here; (with_reducible refine mod_pos ?kbw13 ?_); (case kbw13 => omega); intro t' tk')
  k_with "binaryOp FloorDiv int int" => (k_here; (with_reducible refine div_pos ?kbw14 ?kpw14 ?_); (case kbw14 => omega); (case kpw14 => omega); intro t' tk')
  k_with "binaryOp Mult int int" => (k_here; (with_reducible refine mul_small ?kbw15 ?_); (case kbw15 => omega); intro t' tk')
  k_with "subscriptTail Name Constant ref int" => (k_here; (with_reducible show wpAny _ _ (subscriptTail _ _ (Value.ref _) (Value.int _ _)) _ _ _); k_dflt (first | ((with_reducible show wpAny _ _ (subscriptTail _ _ (Value.ref _) (Value.int 0 _)) _ _ _); refine' item_0 ?Nw16 ?mw16 ?_ ?hsw16; (case Nw16 => k_asm); (case mw16 => k_mem); (case hsw16 => with_unfolding_all rfl); k_whole) | ((with_reducible show wpAny _ _ (subscriptTail _ _ (Value.ref _) (Value.int 1 _)) _ _ _); refine' item_1 ?Nw16 ?mw16 ?_ ?hsw16; (case Nw16 => k_asm); (case mw16 => k_mem); (case hsw16 => with_unfolding_all rfl); k_whole)))
  k_with "compareOp Eq int int" => (k_here; first | (with_reducible refine ceq_t ?chw17 ?_; (case chw17 => omega)) | (with_reducible refine ceq_f ?chw17 ?_; (case chw17 => omega)))
  k_with "compareOp NotEq int int" => (k_here; first | (with_reducible refine cne_t ?chw18 ?_; (case chw18 => omega)) | (with_reducible refine cne_f ?chw18 ?_; (case chw18 => omega)))
  k_with "compareOp Lt int int" => (k_here; first | (with_reducible refine clt_t ?chw19 ?_; (case chw19 => omega)) | (with_reducible refine clt_f ?chw19 ?_; (case chw19 => omega)))
  k_with "compareOp LtE int int" => (k_here; first | (with_reducible refine cle_t ?chw20 ?_; (case chw20 => omega)) | (with_reducible refine cle_f ?chw20 ?_; (case chw20 => omega)))
  k_with "compareOp Gt int int" => (k_here; first | (with_reducible refine cgt_t ?chw21 ?_; (case chw21 => omega)) | (with_reducible refine cgt_f ?chw21 ?_; (case chw21 => omega)))
  k_with "compareOp GtE int int" => (k_here; first | (with_reducible refine cge_t ?chw22 ?_; (case chw22 => omega)) | (with_reducible refine cge_f ?chw22 ?_; (case chw22 => omega)))
  k_with "call type:int" => (k_here; (with_reducible show wpAny _ _ (call (Value.type "int") [Value.bool _]) _ _ _); (first | (with_reducible refine int_bf ?_) | (with_reducible refine int_bt ?_) | (with_reducible refine int_bb (by assumption) ?_)); intro t' tk')
  k_with "call builtin:max" => (k_here; (with_reducible show wpAny _ _ (call (Value.builtin _) [Value.int _ _, Value.int _ _]) _ _ _); k_dflt (refine' max2 ?hhw24 ?k1w24 ?k2w24 ?k3w24 ?_; (case hhw24 => with_unfolding_all rfl); (case k1w24 => k_asm); (case k2w24 => k_asm); (case k3w24 => first | exact (Int.max_eq_left (by omega)).symm | exact (Int.max_eq_right (by omega)).symm | exact rfl); k_whole); intro t' h' tk' F' N'; (try k_sweep))
  k_with "call builtin:min" => (k_here; (with_reducible show wpAny _ _ (call (Value.builtin _) [Value.int _ _, Value.int _ _]) _ _ _); k_dflt (refine' min2 ?hhw25 ?k1w25 ?k2w25 ?k3w25 ?_; (case hhw25 => with_unfolding_all rfl); (case k1w25 => k_asm); (case k2w25 => k_asm); (case k3w25 => first | exact (Int.min_eq_left (by omega)).symm | exact (Int.min_eq_right (by omega)).symm | exact rfl); k_whole); intro t' h' tk' F' N'; (try k_sweep))
  k_with "call builtin:min" => (k_here; (with_reducible show wpAny _ _ (call (Value.builtin _) [Value.int _ _, Value.int _ _, Value.int _ _]) _ _ _); k_dflt (refine' min3 ?hhw26 ?k1w26 ?k2w26 ?k3w26 ?_; (case hhw26 => with_unfolding_all rfl); (case k1w26 => k_asm); (case k2w26 => k_asm); (case k3w26 => first | exact m3a (by omega) | exact m3b (by omega) | exact m3c (by omega) | exact rfl); k_whole); intro t' h' tk' F' N'; (try k_sweep))
  k_with "ne" => (refine neN ?_; (try dsimp only); first | (k_extra "ord") | omega)
  k_with "call builtin:len" => (k_here; (with_reducible show wpAny _ _ (call (Value.builtin "len") [Value.bytes (List.toArray _) _]) _ _ _); (refine blen ?kzw28 ?_); (case kzw28 => first | omega | decide); intro t' tk'; (try simp only [List.length_nil]))
  k_with "call type:bytes" => (k_here; (with_reducible show wpAny _ _ (call (Value.type "bytes") [Value.bytes _ _]) _ _ _); (refine bb_call ?_))
  k_with "binaryOp Add bytes bytes" => (k_here; (with_reducible show wpAny _ _ (binaryOp Operator.Add (Value.bytes _ _) (Value.bytes (List.toArray _) _)) _ _ _); (refine badd0 ?kzw30 ?_); (case kzw30 => omega); intro t' tk')
  k_with "subscriptTail Name Slice bytes ref" => (k_here; (with_reducible show wpAny _ _ (subscriptTail _ (Expr.Slice _ _ none _) (Value.bytes _ _) (Value.ref _)) _ _ _); (with_reducible rename Fr _ _ _ _ => F'); (with_reducible rename News _ _ _ _ => N'); (refine' bslice (s := ⟨_, _, _, _, _⟩) F' N' ?klw31 ?kuw31 ?kzw31 ?kew31 ?_ ?ksw31 ?ktw31; (case klw31 => constructor); (case kuw31 => constructor); (case ksw31 => with_unfolding_all rfl); (case ktw31 => intro _; with_unfolding_all rfl); (case kzw31 => first | with_reducible assumption | omega); (case kew31 => first | exact b_all (by omega) | exact b_to (by omega) | exact (b_from (by first | with_reducible assumption | omega)).trans (by assumption) | exact b_from (by first | with_reducible assumption | omega) | exact b_mid (by omega) (by omega) (by omega)); k_whole); intro t' h' tk' F' N')
  k_with "subscriptTail Attribute Slice bytes ref" => (k_here; (with_reducible show wpAny _ _ (subscriptTail _ (Expr.Slice _ _ none _) (Value.bytes _ _) (Value.ref _)) _ _ _); (with_reducible rename Fr _ _ _ _ => F'); (with_reducible rename News _ _ _ _ => N'); (refine' bslice (s := ⟨_, _, _, _, _⟩) F' N' ?klw32 ?kuw32 ?kzw32 ?kew32 ?_ ?ksw32 ?ktw32; (case klw32 => constructor); (case kuw32 => constructor); (case ksw32 => with_unfolding_all rfl); (case ktw32 => intro _; with_unfolding_all rfl); (case kzw32 => first | with_reducible assumption | omega); (case kew32 => first | exact b_all (by omega) | exact b_to (by omega) | exact (b_from (by first | with_reducible assumption | omega)).trans (by assumption) | exact b_from (by first | with_reducible assumption | omega) | exact b_mid (by omega) (by omega) (by omega)); k_whole); intro t' h' tk' F' N')
  k_with "exec Raise some none" => (k_here; (with_reducible show wpAny _ _ (exec (Stmt.Raise (some (Expr.Call (Expr.Name _ _) (_ :: _) [] _)) none _) _) _ _ _); k_dflt (refine' raise_X ?kFw33 ?kXw33 ?kTw33 ?kew33 ?kmw33 ?khw33 ?_ ?kaw33 ?kbw33 ?kcw33 ?kdw33 ?kfw33; (case kFw33 => k_asm); (case kXw33 => k_asm); (case kTw33 => k_asm); (case kew33 => k_is); (case kmw33 => first | exact x63 | exact x51); (case khw33 => first | rfl | assumption); (case kaw33 => rfl); (case kbw33 => rfl); (case kcw33 => rfl); (case kdw33 => rfl); (case kfw33 => decide); k_whole))
  k_with "ArgsX" => (k_dflt (refine' argsX_ ?kFw34 ?kXw34 ?_; (case kFw34 => k_asm); (case kXw34 => k_asm); k_whole))
  k_with "call ref" => (k_here; (with_reducible show wpAny _ _ _ (ExcOut _ _ _) _ _); k_dflt (refine' call_X ?kFw35 ?kXw35 ?kNw35 ?kmw35 ?k1w35 ?k2w35 ?k3w35 ?k4w35 ?k5w35 ?_; (case kFw35 => k_asm); (case kXw35 => k_asm); (case kNw35 => k_asm); (case kmw35 => first | exact x63 | exact x51); (case k1w35 => first | exact s63.1 | exact s51.1); (case k2w35 => first | exact s63.2.1 | exact s51.2.1); (case k3w35 => first | exact s63.2.2.1 | exact s51.2.2.1); (case k4w35 => exact fn35); (case k5w35 => size_fits); k_whole; intro xe xT h' F' N' l1 l2; (have hXne := fun q hq => And.intro (Nat.ne_of_lt (Nat.lt_trans (l1 q hq) l2)) (Nat.ne_of_lt (l1 q hq))); (try k_lt l1); (try k_lt2 l2); k_enter))
  k_with "setAttr ref" => (k_here; (with_reducible show wpAny _ _ (setAttr (Value.ref _) (PySem.Str.ofString "message") _) _ _ _); k_dflt (refine' set_excN ?kFw36 ?kXw36 ?kNw36 ?ksw36 ?kcw36 ?ktw36 ?kUw36 ?_; (case kFw36 => k_asm); (case kXw36 => k_asm); (case kNw36 => k_asm); (case kUw36 => intro t'; k_upd); (case kcw36 => first | exact m63 | exact m51); (case ksw36 => first | exact s63.2.2.2.1 | exact s51.2.2.2.1); (case ktw36 => first | exact s63.2.2.2.2 | exact s51.2.2.2.2); k_whole; intro h' tk' xD F' N'))
  k_with "ExcOut" => (k_dflt (refine' excOut_ ?kFw37 ?kXw37 ?kNw37 ?kmw37 ?_; (case kFw37 => k_asm); (case kXw37 => k_asm); (case kNw37 => k_asm); (case kmw37 => k_mem); k_whole))
  k_with "leaving ref" => (k_here; k_dflt (refine' leave_X ?kBw38 ?kFw38 ?kNw38 ?knw38 ?_; (case kBw38 => k_asm); (case kFw38 => k_asm); (case kNw38 => k_asm); (case knw38 => assumption); k_whole); intro h' R' U'; (try dsimp only at R' U'))
  k_with "leaving ref" => (k_here; (refine' leave_onX ?k1w39 ?k2w39 ?k3w39 ?k4w39 ?_; (case k3w39 => assumption); (case k1w39 => assumption); (case k4w39 => assumption); (case k2w39 => assumption); k_whole; intro h' R' U'; (try dsimp only at R' U' ⊢)))
  k_with "noteFrame ref" => (k_here; (with_reducible rename RaisedK _ _ _ _ _ _ _ _ => rkX); k_dflt (refine' caught_L ?kBw40 ?kFw40 ?kUw40 ?kRw40 ?kXw40 ?kmw40 ?kvw40 ?_; (case kBw40 => k_asm); (case kFw40 => assumption); (case kUw40 => assumption); (case kRw40 => assumption); (case kXw40 => k_asm); (case kmw40 => first | exact x63 | exact x51); (case kvw40 => exact rfl); k_whole); intro h' F' N'; (try k_sweep))
  k_with "leaving ref" => (k_here; k_dflt (refine' leave_XS ?kBw41 ?kFw41 ?kNw41 ?knw41 ?_; (case kFw41 => k_asm); (case kBw41 => k_asm); (case kNw41 => k_asm); (case knw41 => assumption); k_whole); intro h' R' U'; (try dsimp only at R' U'))
  k_with "leaving ref" => (k_here; (refine' leave_onXS ?k1w42 ?k2w42 ?k3w42 ?k4w42 ?_; (case k3w42 => assumption); (case k2w42 => assumption); (case k1w42 => assumption); (case k4w42 => assumption); k_whole; intro h' R' U'; (try dsimp only at R' U' ⊢)))
  k_with "noteFrame ref" => (k_here; (with_reducible rename RaisedS _ _ _ _ _ _ _ _ _ => rkX); k_dflt (refine' caught_LS rkX ?kFw43 ?kBw43 ?kUw43 ?kXw43 ?kTw43 ?kWw43 ?kmw43 ?kvw43 ?_; (case kFw43 => assumption); (case kBw43 => k_asm); (case kUw43 => assumption); (case kXw43 => assumption); (case kTw43 => assumption); (case kWw43 => assumption); (case kmw43 => first | exact x63 | exact x51); (case kvw43 => exact rfl); k_whole); intro h' g' W' F' N' B' X' T'; (try k_sweep))
  trivial
theorem c_refQ {w : World} {f c' k1 k2 q qd : Addr} {K3 : QTk} {g1 : Tok} {rm : Int} {xs : List UInt8} {oc o1 o2 : Obj} {vs : Array Value} {qual : Str} {tq t1 : Tok} {params : Arguments} {body : Expr} {scope : Scope} {pm ctv : Value} (hz : xs.length ≤ 12) (hl : lamQ3 (bodyAt (hok.heap_1 w.params) 434) = some (params, body, scope)) (hoc : oc.data = .fields vs) (hv : vs[1]? = some (.str qual tq)) (h1 : o1.data = .cell (some (.bytes xs.toArray t1))) (h2 : o2.data = .cell (some (.ref q))) :
    CtrT w 424 [.ref f, .ref 51] ([(f, kla_obj "<lambda>" qual params body scope [("queue", k2), ("octets", k1)] pm c' ctv), (c', oc), (k1, o1), (k2, o2)] ++ [(qd, dictOf (queE w K3 rm (xs.toArray) g1) 2), (q, instObj 117 qd)]) (fun _ => True) 20 200 (fun v n' => ∃ t : Tok, v = (fun _ => .bool true) t ∧ n' = [(f, kla_obj "<lambda>" qual params body scope [("queue", k2), ("octets", k1)] pm c' ctv), (c', oc), (k1, o1), (k2, o2)] ++ [(qd, dictOf (queE w K3 rm (xs.toArray) g1) 2), (q, instObj 117 qd)]) := by
  injection hl with hl
  injection hl with hl1 hl2
  injection hl2 with hl2 hl3
  subst hl1 hl2 hl3
  intro loose mean mg mb dp un gd cn cs ad ccd cl outer base L s Rr H0 hH hpre hd1 hu hret
  obtain ⟨B, X, T⟩ := H0
  obtain ⟨XB, TB, hpre⟩ := hpre
  try have hO9 := difO_of ho
  try have hO9 := difO4 ho
  try have hO9 := difO2 ho
  generalize hg : hideAll s.heap (List.map Prod.fst _) = g at *
  replace hg := hg.symm
  revert X; k_fill; intro X
  k_dflt (
    refine' code_ctrT ?k1 ?kg ?k3 ?k5 ?kH ?k6 ?k7 ?k8 ?k9 ?kB ?_ ?c2 ?c3 ?c4 ?c5
    (case kg => exact hg)
    (case k1 => assumption)
    (case k3 => assumption)
    (case k5 => assumption)
    (case kH => assumption)
    (case k6 => k_is)
    (case k7 => k_is)
    (case k8 => ktr_room)
    (case k9 => first | exact BindsTo.of_eq rfl | exact binds_K (Frag.In.keeps X (by rw [hg]; exact fun b o e => of_hideAll _ e)) rfl (by k_is) rfl rfl rfl)
    (case c5 => decide)
    (case kB => exact locs rfl)
    (case c2 => exact rfl)
    (case c3 => exact rfl)
    (case c4 => exact rfl)
    k_whole
    intro L' h' F' N'
    have W' := @KtsTurn.refl ((envX cn cs L ad ccd cl :: outer).filterMap (·.frame)) g
    (try dsimp only)
    (refine A_let ?_; intro A9; have dA9 : A9.depth = dp + 1 := rfl; have uA9 : A9.units = un + 3 := rfl)
    (try k_fold)
    (refine fr_let F' ?_; clear F'; intro m9 F'))
  (try simp only [List.cons_append, List.nil_append] at N')
  have kn9 := knCH
  (repeat' (first | (k_extra "nst") | (k_unfold; (try dsimp only)) | (k_end; kc_close) | walk1 | (dsimp only; walk1) | (leave1; walk_say "STEP leave1"; (try dsimp only)) | fail "no step"))
  all_goals (first
    | exact end_t (s := s) hret (0 : Nat) (by first | rfl | rfl) (by assumption) (by assumption) (by assumption) (by first | exact List.forall_mem_nil _ | kcj_all)
    | (exfalso; (rename ((_ : Bool) = _) => hx); (simp at hx); omega)
    | (exfalso; (rename ((_ : Bool) = _) => hx); (simp at hx); done))
end
end Mine
-- part C6
namespace Mine
section
theorem ln1_071a34 : True := by
  k_with_none
  k_with "callWith ref" => (k_here; (with_reducible rename Fr _ _ _ _ => kF); (with_reducible rename Frag.In _ _ => kX); first | ((with_reducible show wpAny _ _ (callWith _ _ _ (backTo _ (starEach [] _)) []) _ _ _); k_dflt (refine' callWith_K0 (Frag.In.keeps kX (Fr.keep kF)) ?k2w1 ?_; (case k2w1 => k_is); k_whole)) | ((with_reducible show wpAny _ _ (callWith _ _ _ (backTo _ (starEach (_ :: _) _)) []) _ _ _); k_dflt (refine' callWith_K kX ?k2w1 ?_; (case k2w1 => k_is); k_whole)))
  k_with "eval Name" => (k_here; (fail_if_success (with_reducible show wpAny _ _ (eval (Expr.Name _ _) (compEnvC _ _ _ _)) _ _ _)); k_dflt (first | (refine' nameX_L ?Fw2 ?vw2 ?_ ?aw2 ?bw2; (case bw2 => kernel_rfl!); (case aw2 => kernel_rfl!); (case Fw2 => k_asm); (case vw2 => rfl); k_whole) | (refine' nameX_K ?Fw2 ?Xw2 ?Tw2 ?ew2 ?_ ?aw2 ?bw2; (case bw2 => kernel_rfl!); (case aw2 => kernel_rfl!); (case Fw2 => k_asm); (case Xw2 => k_asm); (case Tw2 => k_asm); (case ew2 => k_is); k_whole) | (refine' nameX_B ?Fw2 ?Xw2 ?Tw2 ?ew2 ?vw2 ?nw2 ?_ ?aw2 ?bw2; (case bw2 => kernel_rfl!); (case aw2 => kernel_rfl!); (case Fw2 => k_asm); (case Xw2 => k_asm); (case Tw2 => k_asm); (case ew2 => k_is); (case vw2 => boot_fast); (case nw2 => decide); k_whole) | (refine' nameX_C ?Nw2 ?cw2 ?mw2 ?dw2 ?_ ?aw2 ?bw2; (case bw2 => kernel_rfl!); (case aw2 => kernel_rfl!); (case Nw2 => k_asm); (case cw2 => rfl); (case mw2 => k_mem); (case dw2 => k_asm); k_whole) | (refine' nameX_F ?Nw2 ?cw2 ?mw2 ?dw2 ?_ ?aw2 ?bw2; (case bw2 => kernel_rfl!); (case aw2 => kernel_rfl!); (case Nw2 => k_asm); (case cw2 => rfl); (case mw2 => k_mem); (case dw2 => k_asm); k_whole)))
  k_with "ord" => ((with_reducible rename DifO _ => hO9); (first | refine' hO9 0 _ _ _ rfl ?hbw3 ?hcw3 | refine' hO9 1 _ _ _ rfl ?hbw3 ?hcw3 | refine' hO9 2 _ _ _ rfl ?hbw3 ?hcw3 | refine' hO9 3 _ _ _ rfl ?hbw3 ?hcw3 | refine' hO9 4 _ _ _ rfl ?hbw3 ?hcw3 | refine' hO9 5 _ _ _ rfl ?hbw3 ?hcw3); (case hbw3 => first | exact (rfl : (_ : List Addr)[0]? = _) | exact (rfl : (_ : List Addr)[1]? = _) | exact (rfl : (_ : List Addr)[2]? = _) | exact (rfl : (_ : List Addr)[3]? = _) | exact (rfl : (_ : List Addr)[4]? = _) | exact (rfl : (_ : List Addr)[5]? = _)); (case hcw3 => exact rfl))
  k_with "nst" => ((with_reducible show wpAny _ _ _ _ _ (Shared.mk _ _ _ _ _)); refine' nst ?kew4 ?_; (case kew4 => (dsimp only; exact rfl)))
  k_with "all" => (first | exact neNil | (refine' neC ?aw5 ?bw5; (case aw5 => k_ne); (case bw5 => k_all)))
  k_with "room" => (first | exact room_ (by assumption) (by exact rfl) | exact room0 (by assumption) (by exact rfl) | ((try simp only [depth_under_make, depth_under_kw, depth_in1, depth_deeper, depth_caller]); (try dsimp only [ktrTop]); omega))
  k_with "units" => (first | exact room_ (by assumption) (by exact rfl) | exact room0 (by assumption) (by exact rfl) | ((try simp only [units_in1, units_deeper, Around.mark_units, units_caller]); (try dsimp only [ktrTop]); omega))
  k_with "execs cons" => ((first | (with_reducible refine execs_T ?_; intro tk) | refine wpAny_execs_cons ?_); (try k_fold))
  k_with "getAttr ref" => (k_here; k_dflt (refine' oget ?k1w9 ?k2w9 ?k3w9 ?k4w9 ?k5w9 ?k6w9 ?k7w9 ?k8w9 ?k9w9 ?_; (case k1w9 => k_asm); (case k2w9 => k_asm); (case k3w9 => k_inst); (case k4w9 => k_is); (case k5w9 => k_is); (case k6w9 => k_is); (case k7w9 => k_is); (case k8w9 => k_get); (case k9w9 => k_handed); k_whole))
  k_with "storeName" => (k_here; k_dflt (refine' ostore ?kFw10 ?kNw10 ?_ ?kaw10 ?kbw10; (case kaw10 => rfl); (case kbw10 => rfl); (case kFw10 => k_asm); (case kNw10 => k_asm); k_whole; intro h' m9 F' N'; (try k_sweep)))
  k_with "eval Constant int" => (refine cint ?_)
  k_with "eval Constant bytes" => (refine cbytes ?_)
  k_with "binaryOp Mod int int" => (k_here; (with_reducible refine mod_pos ?kbw13 ?_); (case kbw13 => omega); intro t' tk')
  k_with "binaryOp FloorDiv int int" => (k_here; (with_reducible refine div_pos ?kbw14 ?kpw14 ?_); (case kbw14 => omega); (case kpw14 => omega); intro t' tk')
  k_with "binaryOp Mult int int" => (k_here; (with_reducible refine mul_small ?kbw15 ?_); (case kbw15 => omega); intro t' tk')
  k_with "subscriptTail Name Constant ref int" => (k_here; (with_reducible show wpAny _ _ (subscriptTail _ _ (Value.ref _) (Value.int _ _)) _ _ _); k_dflt (first | ((with_reducible show wpAny _ _ (subscriptTail _ _ (Value.ref _) (Value.int 0 _)) _ _ _); refine' item_0 ?Nw16 ?mw16 ?_ ?hsw16; (case Nw16 => k_asm); (case mw16 => k_mem); (case hsw16 => with_unfolding_all rfl); k_whole) | ((with_reducible show wpAny _ _ (subscriptTail _ _ (Value.ref _) (Value.int 1 _)) _ _ _); refine' item_1 ?Nw16 ?mw16 ?_ ?hsw16; (case Nw16 => k_asm); (case mw16 => k_mem); (case hsw16 => with_unfolding_all rfl); k_whole)))
  k_with "compareOp Eq int int" => (k_here; first | (with_reducible refine ceq_t ?chw17 ?_; (case chw17 => omega)) | (with_reducible refine ceq_f ?chw17 ?_; (case chw17 => omega)))
  k_with "compareOp NotEq int int" => (k_here; first | (with_reducible refine cne_t ?chw18 ?_; (case chw18 => omega)) | (with_reducible refine cne_f ?chw18 ?_; (case chw18 => omega)))
  k_with "compareOp Lt int int" => (k_here; first | (with_reducible refine clt_t ?chw19 ?_; (case chw19 => omega)) | (with_reducible refine clt_f ?chw19 ?_; (case chw19 => omega)))
  k_with "compareOp LtE int int" => (k_here; first | (with_reducible refine cle_t ?chw20 ?_; (case chw20 => omega)) | (with_reducible refine cle_f ?chw20 ?_; (case chw20 => omega)))
  k_with "compareOp Gt int int" => (k_here; first | (with_reducible refine cgt_t ?chw21 ?_; (case chw21 => omega)) | (with_reducible refine cgt_f ?chw21 ?_; (case chw21 => omega)))
  k_with "compareOp GtE int int" => (k_here; first | (with_reducible refine cge_t ?chw22 ?_; (case chw22 => omega)) | (with_reducible refine cge_f ?chw22 ?_; (case chw22 => omega)))
  k_with "call type:int" => (k_here; (with_reducible show wpAny _ _ (call (Value.type "int") [Value.bool _]) _ _ _); (first | (with_reducible refine int_bf ?_) | (with_reducible refine int_bt ?_) | (with_reducible refine int_bb (by assumption) ?_)); intro t' tk')
  k_with "call builtin:max" => (k_here; (with_reducible show wpAny _ _ (call (Value.builtin _) [Value.int _ _, Value.int _ _]) _ _ _); k_dflt (refine' max2 ?hhw24 ?k1w24 ?k2w24 ?k3w24 ?_; (case hhw24 => with_unfolding_all rfl); (case k1w24 => k_asm); (case k2w24 => k_asm); (case k3w24 => first | exact (Int.max_eq_left (by omega)).symm | exact (Int.max_eq_right (by omega)).symm | exact rfl); k_whole); intro t' h' tk' F' N'; (try k_sweep))
  k_with "call builtin:min" => (k_here; (with_reducible show wpAny _ _ (call (Value.builtin _) [Value.int _ _, Value.int _ _]) _ _ _); k_dflt (refine' min2 ?hhw25 ?k1w25 ?k2w25 ?k3w25 ?_; (case hhw25 => with_unfolding_all rfl); (case k1w25 => k_asm); (case k2w25 => k_asm); (case k3w25 => first | exact (Int.min_eq_left (by omega)).symm | exact (Int.min_eq_right (by omega)).symm | exact rfl); k_whole); intro t' h' tk' F' N'; (try k_sweep))
  k_with "call builtin:min" => (k_here; (with_reducible show wpAny _ _ (call (Value.builtin _) [Value.int _ _, Value.int _ _, Value.int _ _]) _ _ _); k_dflt (refine' min3 ?hhw26 ?k1w26 ?k2w26 ?k3w26 ?_; (case hhw26 => with_unfolding_all rfl); (case k1w26 => k_asm); (case k2w26 => k_asm); (case k3w26 => first | exact m3a (by omega) | exact m3b (by omega) | exact m3c (by omega) | exact rfl); k_whole); intro t' h' tk' F' N'; (try k_sweep))
  k_with "ne" => (refine neN ?_; (try dsimp only); first | (k_extra "ord") | omega)
  k_with "call builtin:len" => (k_here; (with_reducible show wpAny _ _ (call (Value.builtin "len") [Value.bytes (List.toArray _) _]) _ _ _); (refine blen ?kzw28 ?_); (case kzw28 => first | omega | decide); intro t' tk'; (try simp only [List.length_nil]))
  k_with "call type:bytes" => (k_here; (with_reducible show wpAny _ _ (call (Value.type "bytes") [Value.bytes _ _]) _ _ _); (refine bb_call ?_))
  k_with "binaryOp Add bytes bytes" => (k_here; (with_reducible show wpAny _ _ (binaryOp Operator.Add (Value.bytes _ _) (Value.bytes (List.toArray _) _)) _ _ _); (refine badd0 ?kzw30 ?_); (case kzw30 => omega); intro t' tk')
  k_with "subscriptTail Name Slice bytes ref" => (k_here; (with_reducible show wpAny _ _ (subscriptTail _ (Expr.Slice _ _ none _) (Value.bytes _ _) (Value.ref _)) _ _ _); (with_reducible rename Fr _ _ _ _ => F'); (with_reducible rename News _ _ _ _ => N'); (refine' bslice (s := ⟨_, _, _, _, _⟩) F' N' ?klw31 ?kuw31 ?kzw31 ?kew31 ?_ ?ksw31 ?ktw31; (case klw31 => constructor); (case kuw31 => constructor); (case ksw31 => with_unfolding_all rfl); (case ktw31 => intro _; with_unfolding_all rfl); (case kzw31 => first | with_reducible assumption | omega); (case kew31 => first | exact b_all (by omega) | exact b_to (by omega) | exact (b_from (by first | with_reducible assumption | omega)).trans (by assumption) | exact b_from (by first | with_reducible assumption | omega) | exact b_mid (by omega) (by omega) (by omega)); k_whole); intro t' h' tk' F' N')
  k_with "subscriptTail Attribute Slice bytes ref" => (k_here; (with_reducible show wpAny _ _ (subscriptTail _ (Expr.Slice _ _ none _) (Value.bytes _ _) (Value.ref _)) _ _ _); (with_reducible rename Fr _ _ _ _ => F'); (with_reducible rename News _ _ _ _ => N'); (refine' bslice (s := ⟨_, _, _, _, _⟩) F' N' ?klw32 ?kuw32 ?kzw32 ?kew32 ?_ ?ksw32 ?ktw32; (case klw32 => constructor); (case kuw32 => constructor); (case ksw32 => with_unfolding_all rfl); (case ktw32 => intro _; with_unfolding_all rfl); (case kzw32 => first | with_reducible assumption | omega); (case kew32 => first | exact b_all (by omega) | exact b_to (by omega) | exact (b_from (by first | with_reducible assumption | omega)).trans (by assumption) | exact b_from (by first | with_reducible assumption | omega) | exact b_mid (by omega) (by omega) (by omega)); k_whole); intro t' h' tk' F' N')
  trivial
theorem drop_0 {xs : List UInt8} {m : Int} (h : m = 0) : xs.drop m.toNat = xs := by subst h; rfl
theorem c_put {w : World} {q qd : Addr} {K3 : QTk} {g1 : Tok} {rm : Int} {xs : List UInt8} {t1 : Tok} (hne : (q : Nat) ≠ qd) (h1 : (xs.length : Int) ≤ rm ∧ xs.length ≤ 12) :
    Ctr w 100 [.ref q, .bytes xs.toArray t1] [(qd, dictOf (queE w K3 rm (#[]) g1) 2), (q, instObj 117 qd)] 4 40 (fun v n' => ∃ t : Tok × Tok, v = (fun t => .int (xs.length : Nat) t.1) t ∧ n' = [(qd, dictOf (queE w K3 rm (xs.toArray) t.2) 2), (q, instObj 117 qd)]) := by
  intro loose mean mg mb dp un gd cn cs ad ccd cl outer base L s Rr H0 hH hd1 hu hret
  obtain ⟨B, X, T⟩ := H0
  try have hO9 := difO_of ho
  try have hO9 := difO4 ho
  try have hO9 := difO2 ho
  generalize hg : hideAll s.heap (List.map Prod.fst _) = g at *
  replace hg := hg.symm
  revert X; k_fill; intro X
  k_dflt (
    refine' code_ctr ?k1 ?kg ?k3 ?k5 ?kH ?k6 ?k7 ?k8 ?k9 ?kB ?_ ?c2 ?c3 ?c4 ?c5
    (case kg => exact hg)
    (case k1 => assumption)
    (case k3 => assumption)
    (case k5 => assumption)
    (case kH => assumption)
    (case k6 => k_is)
    (case k7 => k_is)
    (case k8 => ktr_room)
    (case k9 => first | exact BindsTo.of_eq rfl | exact binds_K (Frag.In.keeps X (by rw [hg]; exact fun b o e => of_hideAll _ e)) rfl (by k_is) rfl rfl rfl)
    (case c5 => decide)
    (case kB => exact locs rfl)
    (case c2 => exact rfl)
    (case c3 => exact rfl)
    (case c4 => exact rfl)
    k_whole
    intro L' h' F' N'
    (try dsimp only)
    (refine A_let ?_; intro A9; have dA9 : A9.depth = dp + 1 := rfl; have uA9 : A9.units = un + 3 := rfl)
    (try k_fold)
    (refine fr_let F' ?_; clear F'; intro m9 F'))
  (repeat' (first | (k_extra "nst") | (k_unfold; (try dsimp only)) | (k_end; kc_close) | walk1 | (dsimp only; walk1) | (leave1; walk_say "STEP leave1"; (try dsimp only)) | fail "no step"))
  all_goals (first
    | exact end_u (s := s) hret (_, _) (by first | rfl | rfl) (by assumption) (by assumption) (by first | exact List.forall_mem_nil _ | kcj_all)
    | exact end_u (s := s) hret (0 : Nat) (by first | rfl | rfl) (by assumption) (by assumption) (by first | exact List.forall_mem_nil _ | kcj_all)
    | (exfalso; (rename ((_ : Bool) = _) => hx); (simp at hx); omega)
    | (exfalso; (rename ((_ : Bool) = _) => hx); (simp at hx); done))
theorem c_part {w : World} {q qd : Addr} {K3 : QTk} {g1 : Tok} {rm at' many : Int} {xs : List UInt8} {t1 t2 : Tok} (h1 : 0 ≤ at' ∧ 0 ≤ many ∧ at' + many ≤ xs.length ∧ xs.length ≤ 12) :
    Ctr w 107 [.ref q, .int at' t1, .int many t2] [(qd, dictOf (queE w K3 rm (xs.toArray) g1) 2), (q, instObj 117 qd)] 4 40 (fun v n' => ∃ t : Tok, v = (fun t => .bytes ((xs.drop at'.toNat).take ((at' + many).toNat - at'.toNat)).toArray t) t ∧ n' = [(qd, dictOf (queE w K3 rm (xs.toArray) g1) 2), (q, instObj 117 qd)]) := by
  intro loose mean mg mb dp un gd cn cs ad ccd cl outer base L s Rr H0 hH hd1 hu hret
  obtain ⟨B, X, T⟩ := H0
  try have hO9 := difO_of ho
  try have hO9 := difO4 ho
  try have hO9 := difO2 ho
  generalize hg : hideAll s.heap (List.map Prod.fst _) = g at *
  replace hg := hg.symm
  revert X; k_fill; intro X
  k_dflt (
    refine' code_ctr ?k1 ?kg ?k3 ?k5 ?kH ?k6 ?k7 ?k8 ?k9 ?kB ?_ ?c2 ?c3 ?c4 ?c5
    (case kg => exact hg)
    (case k1 => assumption)
    (case k3 => assumption)
    (case k5 => assumption)
    (case kH => assumption)
    (case k6 => k_is)
    (case k7 => k_is)
    (case k8 => ktr_room)
    (case k9 => first | exact BindsTo.of_eq rfl | exact binds_K (Frag.In.keeps X (by rw [hg]; exact fun b o e => of_hideAll _ e)) rfl (by k_is) rfl rfl rfl)
    (case c5 => decide)
    (case kB => exact locs rfl)
    (case c2 => exact rfl)
    (case c3 => exact rfl)
    (case c4 => exact rfl)
    k_whole
    intro L' h' F' N'
    (try dsimp only)
    (refine A_let ?_; intro A9; have dA9 : A9.depth = dp + 1 := rfl; have uA9 : A9.units = un + 3 := rfl)
    (try k_fold)
    (refine fr_let F' ?_; clear F'; intro m9 F'))
  (repeat' (first | (k_extra "nst") | (k_unfold; (try dsimp only)) | (k_end; kc_close) | walk1 | (dsimp only; walk1) | (leave1; walk_say "STEP leave1"; (try dsimp only)) | fail "no step"))
  all_goals (first
    | exact end_u (s := s) hret _ (by first | rfl | rfl) (by assumption) (by assumption) (by first | exact List.forall_mem_nil _ | kcj_all)
    | exact end_u (s := s) hret (0 : Nat) (by first | rfl | rfl) (by assumption) (by assumption) (by first | exact List.forall_mem_nil _ | kcj_all)
    | (exfalso; (rename ((_ : Bool) = _) => hx); (simp at hx); omega)
    | (exfalso; (rename ((_ : Bool) = _) => hx); (simp at hx); done))
theorem c_drop {w : World} {q qd : Addr} {K3 : QTk} {g1 : Tok} {rm many : Int} {xs ys : List UInt8} {t1 : Tok} (hy : xs.drop many.toNat = ys) (hne : (q : Nat) ≠ qd) (h1 : 0 ≤ many ∧ many ≤ xs.length ∧ xs.length ≤ 12) :
    Ctr w 114 [.ref q, .int many t1] [(qd, dictOf (queE w K3 rm (xs.toArray) g1) 2), (q, instObj 117 qd)] 4 40 (fun v n' => ∃ t : Tok, v = (fun _ => .none) t ∧ n' = [(qd, dictOf (queE w K3 rm (ys.toArray) t) 2), (q, instObj 117 qd)]) := by
  intro loose mean mg mb dp un gd cn cs ad ccd cl outer base L s Rr H0 hH hd1 hu hret
  obtain ⟨B, X, T⟩ := H0
  try have hO9 := difO_of ho
  try have hO9 := difO4 ho
  try have hO9 := difO2 ho
  generalize hg : hideAll s.heap (List.map Prod.fst _) = g at *
  replace hg := hg.symm
  revert X; k_fill; intro X
  k_dflt (
    refine' code_ctr ?k1 ?kg ?k3 ?k5 ?kH ?k6 ?k7 ?k8 ?k9 ?kB ?_ ?c2 ?c3 ?c4 ?c5
    (case kg => exact hg)
    (case k1 => assumption)
    (case k3 => assumption)
    (case k5 => assumption)
    (case kH => assumption)
    (case k6 => k_is)
    (case k7 => k_is)
    (case k8 => ktr_room)
    (case k9 => first | exact BindsTo.of_eq rfl | exact binds_K (Frag.In.keeps X (by rw [hg]; exact fun b o e => of_hideAll _ e)) rfl (by k_is) rfl rfl rfl)
    (case c5 => decide)
    (case kB => exact locs rfl)
    (case c2 => exact rfl)
    (case c3 => exact rfl)
    (case c4 => exact rfl)
    k_whole
    intro L' h' F' N'
    (try dsimp only)
    (refine A_let ?_; intro A9; have dA9 : A9.depth = dp + 1 := rfl; have uA9 : A9.units = un + 3 := rfl)
    (try k_fold)
    (refine fr_let F' ?_; clear F'; intro m9 F'))
  subst hy
  (repeat' (first | (k_extra "nst") | (k_unfold; (try dsimp only)) | (k_end; kc_close) | walk1 | (dsimp only; walk1) | (leave1; walk_say "STEP leave1"; (try dsimp only)) | fail "no step"))
  all_goals (first
    | exact end_u (s := s) hret _ (by first | rfl | rfl) (by assumption) (by assumption) (by first | exact List.forall_mem_nil _ | kcj_all)
    | exact end_u (s := s) hret (0 : Nat) (by first | rfl | rfl) (by assumption) (by assumption) (by first | exact List.forall_mem_nil _ | kcj_all)
    | (exfalso; (rename ((_ : Bool) = _) => hx); (simp at hx); omega)
    | (exfalso; (rename ((_ : Bool) = _) => hx); (simp at hx); done))
end
end Mine
-- part C13
namespace Mine
section
theorem ln1_901244 : True := by
  k_with_none
  k_with "callWith ref" => (k_here; (with_reducible rename Fr _ _ _ _ => kF); (with_reducible rename Frag.In _ _ => kX); first | ((with_reducible show wpAny _ _ (callWith _ _ _ (backTo _ (starEach [] _)) []) _ _ _); k_dflt (refine' callWith_K0 (Frag.In.keeps kX (Fr.keep kF)) ?k2w1 ?_; (case k2w1 => k_is); k_whole)) | ((with_reducible show wpAny _ _ (callWith _ _ _ (backTo _ (starEach (_ :: _) _)) []) _ _ _); k_dflt (refine' callWith_K kX ?k2w1 ?_; (case k2w1 => k_is); k_whole)))
  k_with "eval Name" => (k_here; (fail_if_success (with_reducible show wpAny _ _ (eval (Expr.Name _ _) (compEnvC _ _ _ _)) _ _ _)); k_dflt (first | (refine' nameX_L ?Fw2 ?vw2 ?_ ?aw2 ?bw2; (case bw2 => kernel_rfl!); (case aw2 => kernel_rfl!); (case Fw2 => k_asm); (case vw2 => rfl); k_whole) | (refine' nameX_K ?Fw2 ?Xw2 ?Tw2 ?ew2 ?_ ?aw2 ?bw2; (case bw2 => kernel_rfl!); (case aw2 => kernel_rfl!); (case Fw2 => k_asm); (case Xw2 => k_asm); (case Tw2 => k_asm); (case ew2 => k_is); k_whole) | (refine' nameX_B ?Fw2 ?Xw2 ?Tw2 ?ew2 ?vw2 ?nw2 ?_ ?aw2 ?bw2; (case bw2 => kernel_rfl!); (case aw2 => kernel_rfl!); (case Fw2 => k_asm); (case Xw2 => k_asm); (case Tw2 => k_asm); (case ew2 => k_is); (case vw2 => boot_fast); (case nw2 => decide); k_whole) | (refine' nameX_C ?Nw2 ?cw2 ?mw2 ?dw2 ?_ ?aw2 ?bw2; (case bw2 => kernel_rfl!); (case aw2 => kernel_rfl!); (case Nw2 => k_asm); (case cw2 => rfl); (case mw2 => k_mem); (case dw2 => k_asm); k_whole) | (refine' nameX_F ?Nw2 ?cw2 ?mw2 ?dw2 ?_ ?aw2 ?bw2; (case bw2 => kernel_rfl!); (case aw2 => kernel_rfl!); (case Nw2 => k_asm); (case cw2 => rfl); (case mw2 => k_mem); (case dw2 => k_asm); k_whole)))
  k_with "ord" => ((with_reducible rename DifO _ => hO9); (first | refine' hO9 0 _ _ _ rfl ?hbw3 ?hcw3 | refine' hO9 1 _ _ _ rfl ?hbw3 ?hcw3 | refine' hO9 2 _ _ _ rfl ?hbw3 ?hcw3 | refine' hO9 3 _ _ _ rfl ?hbw3 ?hcw3 | refine' hO9 4 _ _ _ rfl ?hbw3 ?hcw3 | refine' hO9 5 _ _ _ rfl ?hbw3 ?hcw3); (case hbw3 => first | exact (rfl : (_ : List Addr)[0]? = _) | exact (rfl : (_ : List Addr)[1]? = _) | exact (rfl : (_ : List Addr)[2]? = _) | exact (rfl : (_ : List Addr)[3]? = _) | exact (rfl : (_ : List Addr)[4]? = _) | exact (rfl : (_ : List Addr)[5]? = _)); (case hcw3 => exact rfl))
  k_with "nst" => ((with_reducible show wpAny _ _ _ _ _ (Shared.mk _ _ _ _ _)); refine' nst ?kew4 ?_; (case kew4 => (dsimp only; exact rfl)))
  k_with "all" => (first | exact neNil | (refine' neC ?aw5 ?bw5; (case aw5 => k_ne); (case bw5 => k_all)))
  k_with "room" => (first | exact room_ (by assumption) (by exact rfl) | exact room0 (by assumption) (by exact rfl) | ((try simp only [depth_under_make, depth_under_kw, depth_in1, depth_deeper, depth_caller]); (try dsimp only [ktrTop]); omega))
  k_with "units" => (first | exact room_ (by assumption) (by exact rfl) | exact room0 (by assumption) (by exact rfl) | ((try simp only [units_in1, units_deeper, Around.mark_units, units_caller]); (try dsimp only [ktrTop]); omega))
  k_with "execs cons" => ((first | (with_reducible refine execs_T ?_; intro tk) | refine wpAny_execs_cons ?_); (try k_fold))
  k_with "getAttr ref" => (k_here; k_dflt (refine' oget ?k1w9 ?k2w9 ?k3w9 ?k4w9 ?k5w9 ?k6w9 ?k7w9 ?k8w9 ?k9w9 ?_; (case k1w9 => k_asm); (case k2w9 => k_asm); (case k3w9 => k_inst); (case k4w9 => k_is); (case k5w9 => k_is); (case k6w9 => k_is); (case k7w9 => k_is); (case k8w9 => k_get); (case k9w9 => k_handed); k_whole))
  k_with "storeName" => (k_here; k_dflt (refine' ostore ?kFw10 ?kNw10 ?_ ?kaw10 ?kbw10; (case kaw10 => rfl); (case kbw10 => rfl); (case kFw10 => k_asm); (case kNw10 => k_asm); k_whole; intro h' m9 F' N'; (try k_sweep)))
  k_with "eval Constant int" => (refine cint ?_)
  k_with "eval Constant bytes" => (refine cbytes ?_)
  k_with "binaryOp Mod int int" => (k_here; (with_reducible refine mod_pos ?kbw13 ?_); (case kbw13 => omega); intro t' tk')
  k_with "binaryOp FloorDiv int int" => (k_here; (with_reducible refine div_pos ?kbw14 ?kpw14 ?_); (case kbw14 => omega); (case kpw14 => omega); intro t' tk')
  k_with "binaryOp Mult int int" => (k_here; (with_reducible refine mul_small ?kbw15 ?_); (case kbw15 => omega); intro t' tk')
  k_with "subscriptTail Name Constant ref int" => (k_here; (with_reducible show wpAny _ _ (subscriptTail _ _ (Value.ref _) (Value.int _ _)) _ _ _); k_dflt (first | ((with_reducible show wpAny _ _ (subscriptTail _ _ (Value.ref _) (Value.int 0 _)) _ _ _); refine' item_0 ?Nw16 ?mw16 ?_ ?hsw16; (case Nw16 => k_asm); (case mw16 => k_mem); (case hsw16 => with_unfolding_all rfl); k_whole) | ((with_reducible show wpAny _ _ (subscriptTail _ _ (Value.ref _) (Value.int 1 _)) _ _ _); refine' item_1 ?Nw16 ?mw16 ?_ ?hsw16; (case Nw16 => k_asm); (case mw16 => k_mem); (case hsw16 => with_unfolding_all rfl); k_whole)))
  k_with "compareOp Eq int int" => (k_here; first | (with_reducible refine ceq_t ?chw17 ?_; (case chw17 => omega)) | (with_reducible refine ceq_f ?chw17 ?_; (case chw17 => omega)))
  k_with "compareOp NotEq int int" => (k_here; first | (with_reducible refine cne_t ?chw18 ?_; (case chw18 => omega)) | (with_reducible refine cne_f ?chw18 ?_; (case chw18 => omega)))
  k_with "compareOp Lt int int" => (k_here; first | (with_reducible refine clt_t ?chw19 ?_; (case chw19 => omega)) | (with_reducible refine clt_f ?chw19 ?_; (case chw19 => omega)))
  k_with "compareOp LtE int int" => (k_here; first | (with_reducible refine cle_t ?chw20 ?_; (case chw20 => omega)) | (with_reducible refine cle_f ?chw20 ?_; (case chw20 => omega)))
  k_with "compareOp Gt int int" => (k_here; first | (with_reducible refine cgt_t ?chw21 ?_; (case chw21 => omega)) | (with_reducible refine cgt_f ?chw21 ?_; (case chw21 => omega)))
  k_with "compareOp GtE int int" => (k_here; first | (with_reducible refine cge_t ?chw22 ?_; (case chw22 => omega)) | (with_reducible refine cge_f ?chw22 ?_; (case chw22 => omega)))
  k_with "call type:int" => (k_here; (with_reducible show wpAny _ _ (call (Value.type "int") [Value.bool _]) _ _ _); (first | (with_reducible refine int_bf ?_) | (with_reducible refine int_bt ?_) | (with_reducible refine int_bb (by assumption) ?_)); intro t' tk')
  k_with "call builtin:max" => (k_here; (with_reducible show wpAny _ _ (call (Value.builtin _) [Value.int _ _, Value.int _ _]) _ _ _); k_dflt (refine' max2 ?hhw24 ?k1w24 ?k2w24 ?k3w24 ?_; (case hhw24 => with_unfolding_all rfl); (case k1w24 => k_asm); (case k2w24 => k_asm); (case k3w24 => first | exact (Int.max_eq_left (by omega)).symm | exact (Int.max_eq_right (by omega)).symm | exact rfl); k_whole); intro t' h' tk' F' N'; (try k_sweep))
  k_with "call builtin:min" => (k_here; (with_reducible show wpAny _ _ (call (Value.builtin _) [Value.int _ _, Value.int _ _]) _ _ _); k_dflt (refine' min2 ?hhw25 ?k1w25 ?k2w25 ?k3w25 ?_; (case hhw25 => with_unfolding_all rfl); (case k1w25 => k_asm); (case k2w25 => k_asm); (case k3w25 => first | exact (Int.min_eq_left (by omega)).symm | exact (Int.min_eq_right (by omega)).symm | exact rfl); k_whole); intro t' h' tk' F' N'; (try k_sweep))
  k_with "call builtin:min" => (k_here; (with_reducible show wpAny _ _ (call (Value.builtin _) [Value.int _ _, Value.int _ _, Value.int _ _]) _ _ _); k_dflt (refine' min3 ?hhw26 ?k1w26 ?k2w26 ?k3w26 ?_; (case hhw26 => with_unfolding_all rfl); (case k1w26 => k_asm); (case k2w26 => k_asm); (case k3w26 => first | exact m3a (by omega) | exact m3b (by omega) | exact m3c (by omega) | exact rfl); k_whole); intro t' h' tk' F' N'; (try k_sweep))
  k_with "ne" => (refine neN ?_; (try dsimp only); first | exact Dif.l (by with_reducible assumption) | exact Dif.r (by with_reducible assumption) | (k_extra "ord") | omega)
  k_with "call builtin:len" => (k_here; (with_reducible show wpAny _ _ (call (Value.builtin "len") [Value.bytes (List.toArray _) _]) _ _ _); (refine blen ?kzw28 ?_); (case kzw28 => first | omega | decide); intro t' tk'; (try simp only [List.length_nil]))
  k_with "call type:bytes" => (k_here; (with_reducible show wpAny _ _ (call (Value.type "bytes") [Value.bytes _ _]) _ _ _); (refine bb_call ?_))
  k_with "binaryOp Add bytes bytes" => (k_here; (with_reducible show wpAny _ _ (binaryOp Operator.Add (Value.bytes _ _) (Value.bytes (List.toArray _) _)) _ _ _); (refine badd0 ?kzw30 ?_); (case kzw30 => omega); intro t' tk')
  k_with "subscriptTail Name Slice bytes ref" => (k_here; (with_reducible show wpAny _ _ (subscriptTail _ (Expr.Slice _ _ none _) (Value.bytes _ _) (Value.ref _)) _ _ _); (with_reducible rename Fr _ _ _ _ => F'); (with_reducible rename News _ _ _ _ => N'); (refine' bslice (s := ⟨_, _, _, _, _⟩) F' N' ?klw31 ?kuw31 ?kzw31 ?kew31 ?_ ?ksw31 ?ktw31; (case klw31 => constructor); (case kuw31 => constructor); (case ksw31 => with_unfolding_all rfl); (case ktw31 => intro _; with_unfolding_all rfl); (case kzw31 => first | with_reducible assumption | omega); (case kew31 => first | exact b_all (by omega) | exact b_to (by omega) | exact (b_from (by first | with_reducible assumption | omega)).trans (by assumption) | exact b_from (by first | with_reducible assumption | omega) | exact b_mid (by omega) (by omega) (by omega)); k_whole); intro t' h' tk' F' N')
  k_with "subscriptTail Attribute Slice bytes ref" => (k_here; (with_reducible show wpAny _ _ (subscriptTail _ (Expr.Slice _ _ none _) (Value.bytes _ _) (Value.ref _)) _ _ _); (with_reducible rename Fr _ _ _ _ => F'); (with_reducible rename News _ _ _ _ => N'); (refine' bslice (s := ⟨_, _, _, _, _⟩) F' N' ?klw32 ?kuw32 ?kzw32 ?kew32 ?_ ?ksw32 ?ktw32; (case klw32 => constructor); (case kuw32 => constructor); (case ksw32 => with_unfolding_all rfl); (case ktw32 => intro _; with_unfolding_all rfl); (case kzw32 => first | with_reducible assumption | omega); (case kew32 => first | exact b_all (by omega) | exact b_to (by omega) | exact (b_from (by first | with_reducible assumption | omega)).trans (by assumption) | exact b_from (by first | with_reducible assumption | omega) | exact b_mid (by omega) (by omega) (by omega)); k_whole); intro t' h' tk' F' N')
  k_with "exec Raise some none" => (k_here; (with_reducible show wpAny _ _ (exec (Stmt.Raise (some (Expr.Call (Expr.Name _ _) (_ :: _) [] _)) none _) _) _ _ _); k_dflt (refine' raise_X ?kFw33 ?kXw33 ?kTw33 ?kew33 ?kmw33 ?khw33 ?_ ?kaw33 ?kbw33 ?kcw33 ?kdw33 ?kfw33; (case kFw33 => k_asm); (case kXw33 => k_asm); (case kTw33 => k_asm); (case kew33 => k_is); (case kmw33 => first | exact x63 | exact x51); (case khw33 => first | rfl | assumption); (case kaw33 => rfl); (case kbw33 => rfl); (case kcw33 => rfl); (case kdw33 => rfl); (case kfw33 => decide); k_whole))
  k_with "ArgsX" => (k_dflt (refine' argsX_ ?kFw34 ?kXw34 ?_; (case kFw34 => k_asm); (case kXw34 => k_asm); k_whole))
  k_with "call ref" => (k_here; (with_reducible show wpAny _ _ _ (ExcOut _ _ _) _ _); k_dflt (refine' call_X ?kFw35 ?kXw35 ?kNw35 ?kmw35 ?k1w35 ?k2w35 ?k3w35 ?k4w35 ?k5w35 ?_; (case kFw35 => k_asm); (case kXw35 => k_asm); (case kNw35 => k_asm); (case kmw35 => first | exact x63 | exact x51); (case k1w35 => first | exact s63.1 | exact s51.1); (case k2w35 => first | exact s63.2.1 | exact s51.2.1); (case k3w35 => first | exact s63.2.2.1 | exact s51.2.2.1); (case k4w35 => exact fn35); (case k5w35 => size_fits); k_whole; intro xe xT h' F' N' l1 l2; (have hXne := fun q hq => And.intro (Nat.ne_of_lt (Nat.lt_trans (l1 q hq) l2)) (Nat.ne_of_lt (l1 q hq))); (try k_lt l1); (try k_lt2 l2); k_enter))
  k_with "setAttr ref" => (k_here; (with_reducible show wpAny _ _ (setAttr (Value.ref _) (PySem.Str.ofString "message") _) _ _ _); k_dflt (refine' set_excN ?kFw36 ?kXw36 ?kNw36 ?ksw36 ?kcw36 ?ktw36 ?kUw36 ?_; (case kFw36 => k_asm); (case kXw36 => k_asm); (case kNw36 => k_asm); (case kUw36 => intro t'; k_upd); (case kcw36 => first | exact m63 | exact m51); (case ksw36 => first | exact s63.2.2.2.1 | exact s51.2.2.2.1); (case ktw36 => first | exact s63.2.2.2.2 | exact s51.2.2.2.2); k_whole; intro h' tk' xD F' N'))
  k_with "ExcOut" => (k_dflt (refine' excOut_ ?kFw37 ?kXw37 ?kNw37 ?kmw37 ?_; (case kFw37 => k_asm); (case kXw37 => k_asm); (case kNw37 => k_asm); (case kmw37 => k_mem); k_whole))
  k_with "leaving ref" => (k_here; k_dflt (refine' leave_X ?kBw38 ?kFw38 ?kNw38 ?knw38 ?_; (case kBw38 => k_asm); (case kFw38 => k_asm); (case kNw38 => k_asm); (case knw38 => assumption); k_whole); intro h' R' U'; (try dsimp only at R' U'))
  k_with "leaving ref" => (k_here; (refine' leave_onX ?k1w39 ?k2w39 ?k3w39 ?k4w39 ?_; (case k3w39 => assumption); (case k1w39 => assumption); (case k4w39 => assumption); (case k2w39 => assumption); k_whole; intro h' R' U'; (try dsimp only at R' U' ⊢)))
  k_with "noteFrame ref" => (k_here; (with_reducible rename RaisedK _ _ _ _ _ _ _ _ => rkX); k_dflt (refine' caught_L ?kBw40 ?kFw40 ?kUw40 ?kRw40 ?kXw40 ?kmw40 ?kvw40 ?_; (case kBw40 => k_asm); (case kFw40 => assumption); (case kUw40 => assumption); (case kRw40 => assumption); (case kXw40 => k_asm); (case kmw40 => first | exact x63 | exact x51); (case kvw40 => exact rfl); k_whole); intro h' F' N'; (try k_sweep))
  k_with "leaving ref" => (k_here; k_dflt (refine' leave_XS ?kBw41 ?kFw41 ?kNw41 ?knw41 ?_; (case kFw41 => k_asm); (case kBw41 => k_asm); (case kNw41 => k_asm); (case knw41 => assumption); k_whole); intro h' R' U'; (try dsimp only at R' U'))
  k_with "leaving ref" => (k_here; (refine' leave_onXS ?k1w42 ?k2w42 ?k3w42 ?k4w42 ?_; (case k3w42 => assumption); (case k2w42 => assumption); (case k1w42 => assumption); (case k4w42 => assumption); k_whole; intro h' R' U'; (try dsimp only at R' U' ⊢)))
  k_with "noteFrame ref" => (k_here; (with_reducible rename RaisedS _ _ _ _ _ _ _ _ _ => rkX); k_dflt (refine' caught_LS rkX ?kFw43 ?kBw43 ?kUw43 ?kXw43 ?kTw43 ?kWw43 ?kmw43 ?kvw43 ?_; (case kFw43 => assumption); (case kBw43 => k_asm); (case kUw43 => assumption); (case kXw43 => assumption); (case kTw43 => assumption); (case kWw43 => assumption); (case kmw43 => first | exact x63 | exact x51); (case kvw43 => exact rfl); k_whole); intro h' g' W' F' N' B' X' T'; (try k_sweep))
  k_with "call ref" => (k_here; (with_reducible show wpAny _ _ (call (Value.ref 100) [Value.ref _, Value.bytes _ _]) _ _ _); k_dflt (refine' use_u (c_put (K3 := ⟨_, _, _⟩) ?hnw44 ?h1w44) ?kBw44 ?kFw44 ?kXw44 ?kNw44 ?kTw44 ?kkw44 ?krw44 ?kUw44 ?kdw44 ?kuw44 ?_; (case kBw44 => k_asm); (case kFw44 => k_asm); (case kXw44 => k_asm); (case kNw44 => k_asm); (case kTw44 => k_asm); (case kkw44 => first | exact rfl | assumption); (case krw44 => (refine' (subC ?m1w44 (subC ?m2w44 subN)); (case m1w44 => k_mem); (case m2w44 => k_mem))); (case kUw44 => intro t'; k_upd); (case kdw44 => ktr_room); (case kuw44 => ktr_units); (case hnw44 => k_ne); (case h1w44 => omega); k_whole); intro t' h' tk' F' N'; (try dsimp only); (try k_sweep))
  k_with "call ref" => (k_here; (with_reducible show wpAny _ _ (call (Value.ref 114) [Value.ref _, Value.int _ _]) _ _ _); k_dflt (refine' use_u (c_drop (K3 := ⟨_, _, _⟩) ?hyw45 ?hnw45 ?h1w45) ?kBw45 ?kFw45 ?kXw45 ?kNw45 ?kTw45 ?kkw45 ?krw45 ?kUw45 ?kdw45 ?kuw45 ?_; (case kBw45 => k_asm); (case kFw45 => k_asm); (case kXw45 => k_asm); (case kNw45 => k_asm); (case kTw45 => k_asm); (case kkw45 => first | exact rfl | assumption); (case krw45 => (refine' (subC ?m1w45 (subC ?m2w45 subN)); (case m1w45 => k_mem); (case m2w45 => k_mem))); (case kUw45 => intro t'; k_upd); (case kdw45 => ktr_room); (case kuw45 => ktr_units); (case hyw45 => first | assumption | exact drop_0 (by omega) | exact rfl); (case hnw45 => k_ne); (case h1w45 => omega); k_whole); intro t' h' tk' F' N'; (try dsimp only); (try k_sweep))
  k_with "call ref" => (k_here; (with_reducible show wpAny _ _ (call (Value.ref 424) [Value.ref _, Value.ref _]) _ _ _); k_dflt (refine' use_rT (c_refQ (K3 := ⟨_, _, _⟩) ?hzw46 ?hlw46 ?h1w46 ?h2w46 ?h3w46 ?h4w46) ?kWw46 ?kBw46 ?kFw46 ?kXw46 ?kNw46 ?kTw46 ?kXBw46 ?kTBw46 ?kpw46 ?kkw46 ?krw46 ?kdw46 ?kuw46 ?_; (case kFw46 => k_asm); (case kBw46 => k_asm); (case kXw46 => k_asm); (case kNw46 => k_asm); (case kTw46 => k_asm); (case kWw46 => assumption); (case kXBw46 => assumption); (case kTBw46 => assumption); (case kpw46 => exact True.intro); (case kkw46 => first | exact rfl | assumption); (case krw46 => (refine' (subC ?m1w46 (subC ?m2w46 (subC ?m3w46 (subC ?m4w46 (subC ?m5w46 (subC ?m6w46 subN)))))); (case m1w46 => k_mem); (case m2w46 => k_mem); (case m3w46 => k_mem); (case m4w46 => k_mem); (case m5w46 => k_mem); (case m6w46 => k_mem))); (case kdw46 => ktr_room); (case kuw46 => ktr_units); (case hzw46 => omega); (case hlw46 => kernel_rfl); (case h1w46 => assumption); (case h2w46 => assumption); (case h3w46 => assumption); (case h4w46 => assumption); k_whole); intro t' h' tk' g' W' B' X' T' F' N'; (try dsimp only); (try k_sweep))
  k_with "call ref" => (k_here; (with_reducible show wpAny _ _ (call (Value.ref 107) [Value.ref _, Value.int _ _, Value.int _ _]) _ _ _); k_dflt (refine' use_r (c_part (K3 := ⟨_, _, _⟩) ?h1w47) ?kBw47 ?kFw47 ?kXw47 ?kNw47 ?kTw47 ?kkw47 ?krw47 ?kdw47 ?kuw47 ?_; (case kBw47 => k_asm); (case kFw47 => k_asm); (case kXw47 => k_asm); (case kNw47 => k_asm); (case kTw47 => k_asm); (case kkw47 => first | exact rfl | assumption); (case krw47 => (refine' (subC ?m1w47 (subC ?m2w47 subN)); (case m1w47 => k_mem); (case m2w47 => k_mem))); (case kdw47 => ktr_room); (case kuw47 => ktr_units); (case h1w47 => first | exact part_b (by with_reducible assumption) (by with_reducible assumption) (by with_reducible assumption) | omega); k_whole); intro t' h' tk' F' N'; (try dsimp only); (try k_sweep))
  k_with "call ref" => (k_here; (with_reducible show wpAny _ _ (call (Value.ref 117) [Value.int _ _]) _ _ _); k_dflt (refine' make_ctr (fun x dx hl => c_initQ hl (by omega)) ?kBw48 ?kFw48 ?kXw48 ?kNw48 ?kTw48 ?kkw48 ?kmw48 ?kiw48 ?kfw48 ?kdw48 ?kuw48 ?_; (case kBw48 => k_asm); (case kFw48 => k_asm); (case kXw48 => k_asm); (case kNw48 => k_asm); (case kTw48 => k_asm); (case kkw48 => first | exact rfl | assumption); (case kmw48 => k_is); (case kiw48 => k_is); (case kfw48 => k_is); (case kdw48 => ktr_room); (case kuw48 => ktr_units); k_whole); intro x' dx' ⟨K', g1'⟩ h' tk' l1 l2 F' N' df'; (simp only [AllLt, and_true] at l1); (replace l2 := ltN l2); (try dsimp only at N' df'); (try simp only [List.cons_append, List.nil_append] at N' df'); (try simp only [DifAll, DifR] at df'); (repeat' (rename AndD _ _ => hc'; obtain ⟨_, _⟩ := hc')); (try k_sweep))
  k_with "CompEnd" => ((refine' LCg.CompEnd.intro ?kFw49 ?kNw49 _ ?ksw49 ?kow49 ?kSw49 (kcb_el ?kew49 rfl rfl)); (case kFw49 => with_reducible assumption); (case kNw49 => with_reducible assumption); (case ksw49 => exact fun _ hp => hp); (case kow49 => (simp only [LCg.Off3, and_true]; with_reducible assumption)); (case kSw49 => exact True.intro); (case kew49 => first | exact tail_b (by with_reducible assumption) (by with_reducible assumption) | rfl))
  k_with "exec Assign cons ListComp" => (k_here; k_dflt (refine LCg.Assign_ListComp_U (F₀ := by k_asm) (by rfl) (by with_unfolding_all rfl) (by with_unfolding_all rfl) (by decide) (by rfl) (by decide) (by rfl) (by rfl) (by rfl) ?_))
  k_with "eval ListComp" => (k_here; k_dflt (refine LCg.ListComp_U (F₀ := by k_asm) (by with_unfolding_all rfl) (by decide) (by rfl) (by decide) (by rfl) ?_))
  k_with "CompSrc" => (k_here; (with_reducible rename List.drop _ _ = _ => hy9); k_dflt (refine LCg.CompSrc.range (by rfl) (by k_asm) (by k_asm) (by assumption) (by exact small_one (by omega) (by omega) (by omega) (by omega)) (by exact rangeSize_nat _ _) (by rw [PySem.sizeLine_eq]; omega) ?_; intro g'; (refine' kcb_tails hy9 (fun k' t' I' oI' C' oC' D' m' ys' h' tk' E' hlo' hhi' hC' hx' F' N' off' ne' hMark' => ?_) ?_); (all_goals (try (simp only [LCg.Off3, and_true] at off'))); kcf_last))
  k_with "compareOp Eq ref ref" => (k_here; k_dflt (refine' eq_lists ?kNw53 ?k1w53 ?k2w53 ?kuw53 ?kqw53 ?_; (case kNw53 => k_asm); (case k1w53 => k_mem); (case k2w53 => k_mem); (case kqw53 => exact BytsAre.eqv (by with_reducible assumption) (by with_reducible assumption)); (case kuw53 => ktr_units); k_whole))
  k_with "eval Lambda" => (k_here; k_dflt (refine' lam_any ?Fw54 ?Nw54 ?Tw54 ?Cw54 ?cdw54 ?Uw54 ?stw54 ?mzw54 ?skw54 ?clw54 ?dfw54 ?_; (case Fw54 => k_asm); (case Nw54 => k_asm); (case Tw54 => k_asm); (case cdw54 => exact rfl); (case Cw54 => kn_code); (case Uw54 => k_updF); (case stw54 => exact hst); (case mzw54 => k_mem); (case skw54 => (repeat' ((with_reducible show SkipZ _ _ _); first | exact SkipZ.nil | with_reducible refine' SkipZ.skip ?_ | refine' SkipZ.keep (by k_ne) ?_ | refine' SkipZ.drop ?_))); (case clw54 => exact rfl); (case dfw54 => exact rfl); k_whole); intro f' c' oc' vs' t' ct' h' tk' F' N' d1' d2' dc' df'; (try dsimp only at N' dc' df'); (with_reducible refine spR dc' ?_); (with_reducible refine spR df' ?_); (clear dc' df'); (dsimp only [SpR]); intros)
  trivial
set_option maxHeartbeats 8000000 in
theorem c_queue {w : World} {xs ys : List UInt8} {gone : Int} {t1 t2 : Tok} {tobj : Obj} {z : Addr} {oz : Obj} (hst : TabSt 431 292 63 qnQ tobj z oz) (hy : xs.drop gone.toNat = ys) (hyl : (ys.length : Int) = xs.length - gone) (hyz : ys.length ≤ 1000) (hy12 : ys.length ≤ 12) (hz : 1 ≤ xs.length ∧ xs.length ≤ 12) (hg0 : 0 ≤ gone ∧ gone ≤ xs.length) :
    CtrT w 434 [.bytes xs.toArray t1, .int gone t2] [(431, tobj), (z, oz)] (fun h => CodeHd h 433 431) 40 600 (fun v n' => ∃ t : TabS qnQ, v = (fun _ => .bool true) t ∧ n' = [(431, tabR 292 63 t.c), (t.c, t.oc), (z, oz)]) := by
  intro loose mean mg mb dp un gd cn cs ad ccd cl outer base L s Rr H0 hH hpre hd1 hu hret
  obtain ⟨B, X, T⟩ := H0
  obtain ⟨XB, TB, hpre⟩ := hpre
  try have hO9 := difO_of ho
  try have hO9 := difO4 ho
  try have hO9 := difO2 ho
  generalize hg : hideAll s.heap (List.map Prod.fst _) = g at *
  replace hg := hg.symm
  revert X; k_fill; intro X
  k_dflt (
    refine' code_ctrCT ?k1 ?kg ?k3 ?k5 ?kH ?k6 ?k7 ?k8 ?k9 ?kB ?kD ?_ ?c2 ?c3 ?c4
    (case kg => exact hg)
    (case k1 => assumption)
    (case k3 => assumption)
    (case k5 => assumption)
    (case kH => assumption)
    (case k6 => k_is)
    (case k7 => k_is)
    (case k8 => ktr_room)
    (case k9 => exact BindsTo.of_eq rfl)
    (case kB => exact rfl)
    (case kD => decide +kernel)
    (case c2 => exact rfl)
    (case c3 => exact rfl)
    (case c4 => exact rfl)
    k_whole
    intro L' h' tk' cells' F' N' Y' l1
    (try (replace l1 := allLt_of l1; simp only [AllLt, and_true] at l1))
    k_cells Y'
    (try simp only [List.cons_append, List.nil_append] at N')
    have W' := @KtsTurn.refl ((envX cn cs L ad ccd cl :: outer).filterMap (·.frame)) g
    (try dsimp only)
    (refine A_let ?_; intro A9; have dA9 : A9.depth = dp + 1 := rfl; have uA9 : A9.units = un + 3 := rfl)
    (try k_fold)
    (refine fr_let F' ?_; clear F'; intro m9 F'))
  have dz := hst.dif (hH _ (.head _)) (hH _ (.tail _ (.head _)))
  (repeat' (first | (k_extra "nst") | (k_unfold; (try dsimp only)) | (k_end; kc_close) | walk1 | (dsimp only; walk1) | (leave1; walk_say "STEP leave1"; (try dsimp only)) | fail "no step"))
  all_goals (refine' end_t (s := s) hret (TabS.mk _ _ _ _ ?h1 ?h2) rfl (by assumption) (by assumption) (by assumption) ?h3; (case h3 => exact List.forall_mem_cons.mpr ⟨by k_mem, List.forall_mem_cons.mpr ⟨by k_mem, List.forall_mem_cons.mpr ⟨by k_mem, List.forall_mem_nil _⟩⟩⟩); (case h1 => assumption); (case h2 => assumption))
end
end Mine
-- part Flo
namespace Mine
section
theorem ln1_0994bd : True := by
  k_with_none
  k_with "callWith ref" => (k_here; (with_reducible rename Fr _ _ _ _ => kF); (with_reducible rename Frag.In _ _ => kX); first | ((with_reducible show wpAny _ _ (callWith _ _ _ (backTo _ (starEach [] _)) []) _ _ _); k_dflt (refine' callWith_K0 (Frag.In.keeps kX (Fr.keep kF)) ?k2w1 ?_; (case k2w1 => k_is); k_whole)) | ((with_reducible show wpAny _ _ (callWith _ _ _ (backTo _ (starEach (_ :: _) _)) []) _ _ _); k_dflt (refine' callWith_K kX ?k2w1 ?_; (case k2w1 => k_is); k_whole)))
  k_with "eval Name" => (k_here; (fail_if_success (with_reducible show wpAny _ _ (eval (Expr.Name _ _) (compEnvC _ _ _ _)) _ _ _)); k_dflt (first | (refine' nameX_L ?Fw2 ?vw2 ?_ ?aw2 ?bw2; (case bw2 => kernel_rfl!); (case aw2 => kernel_rfl!); (case Fw2 => k_asm); (case vw2 => rfl); k_whole) | (refine' nameX_K ?Fw2 ?Xw2 ?Tw2 ?ew2 ?_ ?aw2 ?bw2; (case bw2 => kernel_rfl!); (case aw2 => kernel_rfl!); (case Fw2 => k_asm); (case Xw2 => k_asm); (case Tw2 => k_asm); (case ew2 => k_is); k_whole) | (refine' nameX_B ?Fw2 ?Xw2 ?Tw2 ?ew2 ?vw2 ?nw2 ?_ ?aw2 ?bw2; (case bw2 => kernel_rfl!); (case aw2 => kernel_rfl!); (case Fw2 => k_asm); (case Xw2 => k_asm); (case Tw2 => k_asm); (case ew2 => k_is); (case vw2 => boot_fast); (case nw2 => decide); k_whole) | (refine' nameX_C ?Nw2 ?cw2 ?mw2 ?dw2 ?_ ?aw2 ?bw2; (case bw2 => kernel_rfl!); (case aw2 => kernel_rfl!); (case Nw2 => k_asm); (case cw2 => rfl); (case mw2 => k_mem); (case dw2 => k_asm); k_whole) | (refine' nameX_F ?Nw2 ?cw2 ?mw2 ?dw2 ?_ ?aw2 ?bw2; (case bw2 => kernel_rfl!); (case aw2 => kernel_rfl!); (case Nw2 => k_asm); (case cw2 => rfl); (case mw2 => k_mem); (case dw2 => k_asm); k_whole)))
  k_with "ord" => ((with_reducible rename DifO _ => hO9); (first | refine' hO9 0 _ _ _ rfl ?hbw3 ?hcw3 | refine' hO9 1 _ _ _ rfl ?hbw3 ?hcw3 | refine' hO9 2 _ _ _ rfl ?hbw3 ?hcw3 | refine' hO9 3 _ _ _ rfl ?hbw3 ?hcw3 | refine' hO9 4 _ _ _ rfl ?hbw3 ?hcw3 | refine' hO9 5 _ _ _ rfl ?hbw3 ?hcw3); (case hbw3 => first | exact (rfl : (_ : List Addr)[0]? = _) | exact (rfl : (_ : List Addr)[1]? = _) | exact (rfl : (_ : List Addr)[2]? = _) | exact (rfl : (_ : List Addr)[3]? = _) | exact (rfl : (_ : List Addr)[4]? = _) | exact (rfl : (_ : List Addr)[5]? = _)); (case hcw3 => exact rfl))
  k_with "nst" => ((with_reducible show wpAny _ _ _ _ _ (Shared.mk _ _ _ _ _)); refine' nst ?kew4 ?_; (case kew4 => (dsimp only; exact rfl)))
  k_with "all" => (first | exact neNil | (refine' neC ?aw5 ?bw5; (case aw5 => k_ne); (case bw5 => k_all)))
  k_with "room" => (first | exact room_ (by assumption) (by exact rfl) | exact room0 (by assumption) (by exact rfl) | ((try simp only [depth_under_make, depth_under_kw, depth_in1, depth_deeper, depth_caller]); (try dsimp only [ktrTop]); omega))
  k_with "units" => (first | exact room_ (by assumption) (by exact rfl) | exact room0 (by assumption) (by exact rfl) | ((try simp only [units_in1, units_deeper, Around.mark_units, units_caller]); (try dsimp only [ktrTop]); omega))
  k_with "execs cons" => ((first | (with_reducible refine execs_T ?_; intro tk) | refine wpAny_execs_cons ?_); (try k_fold))
  k_with "getAttr ref" => (k_here; k_dflt (refine' oget ?k1w9 ?k2w9 ?k3w9 ?k4w9 ?k5w9 ?k6w9 ?k7w9 ?k8w9 ?k9w9 ?_; (case k1w9 => k_asm); (case k2w9 => k_asm); (case k3w9 => k_inst); (case k4w9 => k_is); (case k5w9 => k_is); (case k6w9 => k_is); (case k7w9 => k_is); (case k8w9 => k_get); (case k9w9 => k_handed); k_whole))
  k_with "storeName" => (k_here; k_dflt (refine' ostore ?kFw10 ?kNw10 ?_ ?kaw10 ?kbw10; (case kaw10 => rfl); (case kbw10 => rfl); (case kFw10 => k_asm); (case kNw10 => k_asm); k_whole; intro h' m9 F' N'; (try k_sweep)))
  k_with "eval Constant int" => (refine cint ?_)
  k_with "eval Constant bytes" => (refine cbytes ?_)
  k_with "binaryOp Mod int int" => (k_here; (with_reducible refine mod_pos ?kbw13 ?_); (case kbw13 => omega); intro t' tk')
  k_with "binaryOp FloorDiv int int" => (k_here; (with_reducible refine div_pos ?kbw14 ?kpw14 ?_); (case kbw14 => omega); (case kpw14 => omega); intro t' tk')
  k_with "binaryOp Mult int int" => (k_here; (with_reducible refine mul_small ?kbw15 ?_); (case kbw15 => omega); intro t' tk')
  k_with "subscriptTail Name Constant ref int" => (k_here; (with_reducible show wpAny _ _ (subscriptTail _ _ (Value.ref _) (Value.int _ _)) _ _ _); k_dflt (first | ((with_reducible show wpAny _ _ (subscriptTail _ _ (Value.ref _) (Value.int 0 _)) _ _ _); refine' item_0 ?Nw16 ?mw16 ?_ ?hsw16; (case Nw16 => k_asm); (case mw16 => k_mem); (case hsw16 => with_unfolding_all rfl); k_whole) | ((with_reducible show wpAny _ _ (subscriptTail _ _ (Value.ref _) (Value.int 1 _)) _ _ _); refine' item_1 ?Nw16 ?mw16 ?_ ?hsw16; (case Nw16 => k_asm); (case mw16 => k_mem); (case hsw16 => with_unfolding_all rfl); k_whole)))
  k_with "compareOp Eq int int" => (k_here; first | (with_reducible refine ceq_t ?chw17 ?_; (case chw17 => omega)) | (with_reducible refine ceq_f ?chw17 ?_; (case chw17 => omega)))
  k_with "compareOp NotEq int int" => (k_here; first | (with_reducible refine cne_t ?chw18 ?_; (case chw18 => omega)) | (with_reducible refine cne_f ?chw18 ?_; (case chw18 => omega)))
  k_with "compareOp Lt int int" => (k_here; first | (with_reducible refine clt_t ?chw19 ?_; (case chw19 => omega)) | (with_reducible refine clt_f ?chw19 ?_; (case chw19 => omega)))
  k_with "compareOp LtE int int" => (k_here; first | (with_reducible refine cle_t ?chw20 ?_; (case chw20 => omega)) | (with_reducible refine cle_f ?chw20 ?_; (case chw20 => omega)))
  k_with "compareOp Gt int int" => (k_here; first | (with_reducible refine cgt_t ?chw21 ?_; (case chw21 => omega)) | (with_reducible refine cgt_f ?chw21 ?_; (case chw21 => omega)))
  k_with "compareOp GtE int int" => (k_here; first | (with_reducible refine cge_t ?chw22 ?_; (case chw22 => omega)) | (with_reducible refine cge_f ?chw22 ?_; (case chw22 => omega)))
  k_with "call type:int" => (k_here; (with_reducible show wpAny _ _ (call (Value.type "int") [Value.bool _]) _ _ _); (first | (with_reducible refine int_bf ?_) | (with_reducible refine int_bt ?_) | (with_reducible refine int_bb (by assumption) ?_)); intro t' tk')
  k_with "call builtin:max" => (k_here; (with_reducible show wpAny _ _ (call (Value.builtin _) [Value.int _ _, Value.int _ _]) _ _ _); k_dflt (refine' max2 ?hhw24 ?k1w24 ?k2w24 ?k3w24 ?_; (case hhw24 => with_unfolding_all rfl); (case k1w24 => k_asm); (case k2w24 => k_asm); (case k3w24 => first | exact (Int.max_eq_left (by omega)).symm | exact (Int.max_eq_right (by omega)).symm | exact rfl); k_whole); intro t' h' tk' F' N'; (try k_sweep))
  k_with "call builtin:min" => (k_here; (with_reducible show wpAny _ _ (call (Value.builtin _) [Value.int _ _, Value.int _ _]) _ _ _); k_dflt (refine' min2 ?hhw25 ?k1w25 ?k2w25 ?k3w25 ?_; (case hhw25 => with_unfolding_all rfl); (case k1w25 => k_asm); (case k2w25 => k_asm); (case k3w25 => first | exact (Int.min_eq_left (by omega)).symm | exact (Int.min_eq_right (by omega)).symm | exact rfl); k_whole); intro t' h' tk' F' N'; (try k_sweep))
  k_with "call builtin:min" => (k_here; (with_reducible show wpAny _ _ (call (Value.builtin _) [Value.int _ _, Value.int _ _, Value.int _ _]) _ _ _); k_dflt (refine' min3 ?hhw26 ?k1w26 ?k2w26 ?k3w26 ?_; (case hhw26 => with_unfolding_all rfl); (case k1w26 => k_asm); (case k2w26 => k_asm); (case k3w26 => first | exact m3a (by omega) | exact m3b (by omega) | exact m3c (by omega) | exact rfl); k_whole); intro t' h' tk' F' N'; (try k_sweep))
  trivial
theorem ln2_0994bd : True := by
  k_with "klt" => (skip)
  k_with "ne" => (refine neN ?_; (try dsimp only); first | exact Dif.l (by with_reducible assumption) | exact Dif.r (by with_reducible assumption) | (k_extra "ord") | omega)
  k_with "getMethod bytes" => (k_here; (with_reducible show wpAny _ _ (getMethod (Value.bytes _ _) (PySem.Str.ofString "join") _) _ _ _); (refine join_meth ?_))
  k_with "call builtin:bytes.join" => (k_here; (with_reducible show wpAny _ _ (call (Value.builtin _) [Value.bytes _ _, Value.ref _]) _ _ _); k_dflt (refine' join_fl ?kNw30 ?kmw30 ?kzw30 ?kew30 ?_; (case kNw30 => k_asm); (case kmw30 => k_mem); (case kew30 => with_reducible assumption); (case kzw30 => omega); k_whole); intro t' tk')
  k_with "eval ListComp" => (k_here; k_dflt (refine LCg.ListComp_U (F₀ := by k_asm) (by with_unfolding_all rfl) (by decide) (by rfl) (by decide) (by rfl) ?_))
  k_with "CompSrc" => (k_here; (with_reducible rename Sh _ _ _ _ _ _ _ _ => sh9); k_dflt (refine LCg.CompSrc.ledger (by rfl) (by k_asm) (by k_asm) (by k_mem) (by have := sh9.size.2; rw [PySem.sizeLine_eq]; omega) ?_; intro g'; (refine' rows_rest sh9 ?m1w32 ?m2w32 ?m3w32 (fun r' f' a' y' b' c' e' I' oI' C' oC' D' m' ys' h' tk' E' hr' hC' hx' F' N' off' ne' => ?_) ?_); (case m1w32 => k_mem); (case m2w32 => k_mem); (case m3w32 => k_mem); (all_goals (try (simp only [LCg.Off3, and_true] at off'))); kcf_last))
  k_with "KPfDone" => ((show ∀ _, BytF _ _ → _); intro ys' hb')
  k_with "CompEnd" => ((refine' LCg.CompEnd.intro ?kFw34 ?kNw34 _ ?ksw34 ?kow34 ?kSw34 (kcb_el rfl rfl rfl)); (case kFw34 => with_reducible assumption); (case kNw34 => with_reducible assumption); (case ksw34 => exact fun _ hp => hp); (case kow34 => (simp only [LCg.Off3, and_true]; with_reducible assumption)); (case kSw34 => lcg_src))
  k_with "subscriptTail Name Constant ref int" => (k_here; k_dflt (first | ((with_reducible show wpAny _ _ (subscriptTail _ _ (Value.ref _) (Value.int 1 _)) _ _ _); refine' row_1 ?kN2w35 ?km2w35 ?_ ?hs2w35; (case kN2w35 => k_asm); (case km2w35 => with_reducible assumption); (case hs2w35 => with_unfolding_all rfl); k_whole) | ((with_reducible show wpAny _ _ (subscriptTail _ _ (Value.ref _) (Value.int 0 _)) _ _ _); refine' rows_0 ?kNw35 ?kshw35 ?kmw35 ?_ ?hsw35; (case kshw35 => with_reducible assumption); (case kNw35 => k_asm); (case kmw35 => k_mem); (case hsw35 => with_unfolding_all rfl); k_whole)))
  k_with "subscriptTail Name UnaryOp ref int" => (k_here; k_dflt (refine' rows_L ?kNw36 ?kshw36 ?kmw36 ?_ ?hsw36; (case kshw36 => with_reducible assumption); (case kNw36 => k_asm); (case kmw36 => k_mem); (case hsw36 => with_unfolding_all rfl); k_whole))
  k_with "compareOp NotEq bytes bytes" => (k_here; (refine bne_f ?kew37 ?_); (case kew37 => first | rfl | exact part_y | exact part_x (by with_reducible assumption) (by omega)))
  trivial
section
variable {prog : Program} {w : World} {A : Around} {env : Env} {Q : Flow → Shared → Prop} {E : Value → Shared → Prop} {s : Shared} {x : Str} {px pos : Pos} {body : List Stmt} {iter : Expr}
/-- a for over a list display, by an invariant over the whole state -/
def ForList (prog : Program) (w : World) (A : Around) (env : Env) (x : Str) (px : Pos) (body : List Stmt) (Q : Flow → Shared → Prop) (E : Value → Shared → Prop) (xv : Value) (s₁ : Shared) : Prop :=
  ∃ (l : Addr) (its : Array Value) (J : Nat → Addr → Shared → Prop), xv = .ref l ∧ s₁.heap.IsList l its ∧
    J 0 s₁.heap.objs.size { s₁ with heap := s₁.heap.push { cls := .type "list_iterator", data := .fields #[.ref l, .int 0 0] } } ∧
    (∀ i I s, J i I s → s.heap.IsListIter I l i ∧ s.heap.IsList l its) ∧
    (∀ i I s v h', i < its.size → J i I s → its[i]? = some v → h'.IsListIter I l (i + 1) → (∀ b o, b ≠ I → s.heap.get? b = some o → h'.get? b = some o) →
      wpAny (model prog w) A (assign (.Name x px) env v) (fun _ s₂ => wpAny (model prog w) A (execs body env) (CutEnd (J (i + 1) I)) E s₂) E { s with heap := h' }) ∧
    ∀ I s h', J its.size I s → (∀ b o, b ≠ I → s.heap.get? b = some o → h'.get? b = some o) → Q .next { s with heap := h' }
theorem For_J (h : wpAny (model prog w) A (eval iter env) (fun xv s₁ => ForList prog w A env x px body Q E xv s₁) E s) (hh : A.handled = none := by rfl)
    (hs : ∀ x, foldedSetIterable iter env x = pure x := by intro _; rfl)
    (hE : PassesOwn (model prog w) A env E := by passes_own) : wpAny (model prog w) A (exec (.For (.Name x px) iter body [] pos) env) Q E s := by
  refine wpAny_For (wpAny_mono h (fun xv s₁ hx => ?_) fun _ _ e => e) hs
  obtain ⟨l, its, J, rfl, hl, h0, hJ, step, fin⟩ := hx
  refine wpAny_pyIter_list hl ?_
  refine codeAny_forLoop_any (fun k s' => ∃ i, i ≤ its.size ∧ k = its.size + 1 - i ∧ J i s₁.heap.objs.size s') ?_ (its.size + 1) ⟨0, Nat.zero_le _, rfl, h0⟩
  rintro k s' ⟨i, hi, rfl, hJi⟩
  obtain ⟨it1, l1⟩ := hJ i _ s' hJi
  by_cases hlt : i < its.size
  · refine wpAny_pyNext_list_item it1 l1 (x := its[i]) (by simp [hlt]) fun h' hit' hs' => ?_
    refine wpAny_pure ?_
    refine wpAny_mono (step i _ s' its[i] h' hlt hJi (by simp [hlt]) hit' fun b o hb e => hs'.extBut b o hb e) (fun _ s₂ h₂ => wpAny_passesOwn hE (wpAny_mono h₂ (fun f s₃ h₃ => ?_) fun _ _ e => e)) hE
    cases f with
    | next => exact ⟨its.size + 1 - (i + 1), by omega, i + 1, hlt, rfl, h₃.2⟩
    | ret v => exact absurd h₃.1 (by nofun)
    | brk => exact absurd h₃.1 (by nofun)
    | cont => exact absurd h₃.1 (by nofun)
  · have e : i = its.size := by omega
    subst e
    refine wpAny_pyNext_list_end hh it1 l1 (by simp) fun h' he => ?_
    exact wpAny_execs_nil (fin _ s' h' hJi fun b o hb e => he b o hb e)
end
end
end Mine
-- part Ibc
namespace Mine
section
theorem ln1_4fae5e : True := by
  k_with_none
  k_with "callWith ref" => (k_here; (with_reducible rename Fr _ _ _ _ => kF); (with_reducible rename Frag.In _ _ => kX); first | ((with_reducible show wpAny _ _ (callWith _ _ _ (backTo _ (starEach [] _)) []) _ _ _); k_dflt (refine' callWith_K0 (Frag.In.keeps kX (Fr.keep kF)) ?k2w1 ?_; (case k2w1 => k_is); k_whole)) | ((with_reducible show wpAny _ _ (callWith _ _ _ (backTo _ (starEach (_ :: _) _)) []) _ _ _); k_dflt (refine' callWith_K kX ?k2w1 ?_; (case k2w1 => k_is); k_whole)))
  k_with "eval Name" => (k_here; (fail_if_success (with_reducible show wpAny _ _ (eval (Expr.Name _ _) (compEnvC _ _ _ _)) _ _ _)); k_dflt (first | (refine' nameX_L ?Fw2 ?vw2 ?_ ?aw2 ?bw2; (case bw2 => kernel_rfl!); (case aw2 => kernel_rfl!); (case Fw2 => k_asm); (case vw2 => rfl); k_whole) | (refine' nameX_K ?Fw2 ?Xw2 ?Tw2 ?ew2 ?_ ?aw2 ?bw2; (case bw2 => kernel_rfl!); (case aw2 => kernel_rfl!); (case Fw2 => k_asm); (case Xw2 => k_asm); (case Tw2 => k_asm); (case ew2 => k_is); k_whole) | (refine' nameX_B ?Fw2 ?Xw2 ?Tw2 ?ew2 ?vw2 ?nw2 ?_ ?aw2 ?bw2; (case bw2 => kernel_rfl!); (case aw2 => kernel_rfl!); (case Fw2 => k_asm); (case Xw2 => k_asm); (case Tw2 => k_asm); (case ew2 => k_is); (case vw2 => boot_fast); (case nw2 => decide); k_whole) | (refine' nameX_C ?Nw2 ?cw2 ?mw2 ?dw2 ?_ ?aw2 ?bw2; (case bw2 => kernel_rfl!); (case aw2 => kernel_rfl!); (case Nw2 => k_asm); (case cw2 => rfl); (case mw2 => k_mem); (case dw2 => k_asm); k_whole) | (refine' nameX_F ?Nw2 ?cw2 ?mw2 ?dw2 ?_ ?aw2 ?bw2; (case bw2 => kernel_rfl!); (case aw2 => kernel_rfl!); (case Nw2 => k_asm); (case cw2 => rfl); (case mw2 => k_mem); (case dw2 => k_asm); k_whole)))
  k_with "ord" => ((with_reducible rename DifO _ => hO9); (first | refine' hO9 0 _ _ _ rfl ?hbw3 ?hcw3 | refine' hO9 1 _ _ _ rfl ?hbw3 ?hcw3 | refine' hO9 2 _ _ _ rfl ?hbw3 ?hcw3 | refine' hO9 3 _ _ _ rfl ?hbw3 ?hcw3 | refine' hO9 4 _ _ _ rfl ?hbw3 ?hcw3 | refine' hO9 5 _ _ _ rfl ?hbw3 ?hcw3); (case hbw3 => first | exact (rfl : (_ : List Addr)[0]? = _) | exact (rfl : (_ : List Addr)[1]? = _) | exact (rfl : (_ : List Addr)[2]? = _) | exact (rfl : (_ : List Addr)[3]? = _) | exact (rfl : (_ : List Addr)[4]? = _) | exact (rfl : (_ : List Addr)[5]? = _)); (case hcw3 => exact rfl))
  k_with "nst" => ((with_reducible show wpAny _ _ _ _ _ (Shared.mk _ _ _ _ _)); refine' nst ?kew4 ?_; (case kew4 => (dsimp only; exact rfl)))
  k_with "all" => (first | exact neNil | (refine' neC ?aw5 ?bw5; (case aw5 => k_ne); (case bw5 => k_all)))
  k_with "room" => (first | exact room_ (by assumption) (by exact rfl) | exact room0 (by assumption) (by exact rfl) | ((try simp only [depth_under_make, depth_under_kw, depth_in1, depth_deeper, depth_caller]); (try dsimp only [ktrTop]); omega))
  k_with "units" => (first | exact room_ (by assumption) (by exact rfl) | exact room0 (by assumption) (by exact rfl) | ((try simp only [units_in1, units_deeper, Around.mark_units, units_caller]); (try dsimp only [ktrTop]); omega))
  k_with "execs cons" => ((first | (with_reducible refine execs_T ?_; intro tk) | refine wpAny_execs_cons ?_); (try k_fold))
  k_with "getAttr ref" => (k_here; k_dflt (refine' oget ?k1w9 ?k2w9 ?k3w9 ?k4w9 ?k5w9 ?k6w9 ?k7w9 ?k8w9 ?k9w9 ?_; (case k1w9 => k_asm); (case k2w9 => k_asm); (case k3w9 => k_inst); (case k4w9 => k_is); (case k5w9 => k_is); (case k6w9 => k_is); (case k7w9 => k_is); (case k8w9 => k_get); (case k9w9 => k_handed); k_whole))
  k_with "storeName" => (k_here; k_dflt (refine' ostore ?kFw10 ?kNw10 ?_ ?kaw10 ?kbw10; (case kaw10 => rfl); (case kbw10 => rfl); (case kFw10 => k_asm); (case kNw10 => k_asm); k_whole; intro h' m9 F' N'; (try k_sweep)))
  k_with "eval Constant int" => (refine cint ?_)
  k_with "eval Constant bytes" => (refine cbytes ?_)
  k_with "binaryOp Mod int int" => (k_here; (with_reducible refine mod_pos ?kbw13 ?_); (case kbw13 => omega); intro t' tk')
  k_with "binaryOp FloorDiv int int" => (k_here; (with_reducible refine div_pos ?kbw14 ?kpw14 ?_); (case kbw14 => omega); (case kpw14 => omega); intro t' tk')
  k_with "binaryOp Mult int int" => (k_here; (with_reducible refine mul_small ?kbw15 ?_); (case kbw15 => omega); intro t' tk')
  k_with "subscriptTail Name Constant ref int" => (k_here; (with_reducible show wpAny _ _ (subscriptTail _ _ (Value.ref _) (Value.int _ _)) _ _ _); k_dflt (first | ((with_reducible show wpAny _ _ (subscriptTail _ _ (Value.ref _) (Value.int 0 _)) _ _ _); refine' item_0 ?Nw16 ?mw16 ?_ ?hsw16; (case Nw16 => k_asm); (case mw16 => k_mem); (case hsw16 => with_unfolding_all rfl); k_whole) | ((with_reducible show wpAny _ _ (subscriptTail _ _ (Value.ref _) (Value.int 1 _)) _ _ _); refine' item_1 ?Nw16 ?mw16 ?_ ?hsw16; (case Nw16 => k_asm); (case mw16 => k_mem); (case hsw16 => with_unfolding_all rfl); k_whole)))
  k_with "compareOp Eq int int" => (k_here; first | (with_reducible refine ceq_t ?chw17 ?_; (case chw17 => omega)) | (with_reducible refine ceq_f ?chw17 ?_; (case chw17 => omega)))
  k_with "compareOp NotEq int int" => (k_here; first | (with_reducible refine cne_t ?chw18 ?_; (case chw18 => omega)) | (with_reducible refine cne_f ?chw18 ?_; (case chw18 => omega)))
  k_with "compareOp Lt int int" => (k_here; first | (with_reducible refine clt_t ?chw19 ?_; (case chw19 => omega)) | (with_reducible refine clt_f ?chw19 ?_; (case chw19 => omega)))
  k_with "compareOp LtE int int" => (k_here; first | (with_reducible refine cle_t ?chw20 ?_; (case chw20 => omega)) | (with_reducible refine cle_f ?chw20 ?_; (case chw20 => omega)))
  k_with "compareOp Gt int int" => (k_here; first | (with_reducible refine cgt_t ?chw21 ?_; (case chw21 => omega)) | (with_reducible refine cgt_f ?chw21 ?_; (case chw21 => omega)))
  k_with "compareOp GtE int int" => (k_here; first | (with_reducible refine cge_t ?chw22 ?_; (case chw22 => omega)) | (with_reducible refine cge_f ?chw22 ?_; (case chw22 => omega)))
  k_with "call type:int" => (k_here; (with_reducible show wpAny _ _ (call (Value.type "int") [Value.bool _]) _ _ _); (first | (with_reducible refine int_bf ?_) | (with_reducible refine int_bt ?_) | (with_reducible refine int_bb (by assumption) ?_)); intro t' tk')
  k_with "call builtin:max" => (k_here; (with_reducible show wpAny _ _ (call (Value.builtin _) [Value.int _ _, Value.int _ _]) _ _ _); k_dflt (refine' max2 ?hhw24 ?k1w24 ?k2w24 ?k3w24 ?_; (case hhw24 => with_unfolding_all rfl); (case k1w24 => k_asm); (case k2w24 => k_asm); (case k3w24 => first | exact (Int.max_eq_left (by omega)).symm | exact (Int.max_eq_right (by omega)).symm | exact rfl); k_whole); intro t' h' tk' F' N'; (try k_sweep))
  k_with "call builtin:min" => (k_here; (with_reducible show wpAny _ _ (call (Value.builtin _) [Value.int _ _, Value.int _ _]) _ _ _); k_dflt (refine' min2 ?hhw25 ?k1w25 ?k2w25 ?k3w25 ?_; (case hhw25 => with_unfolding_all rfl); (case k1w25 => k_asm); (case k2w25 => k_asm); (case k3w25 => first | exact (Int.min_eq_left (by omega)).symm | exact (Int.min_eq_right (by omega)).symm | exact rfl); k_whole); intro t' h' tk' F' N'; (try k_sweep))
  k_with "call builtin:min" => (k_here; (with_reducible show wpAny _ _ (call (Value.builtin _) [Value.int _ _, Value.int _ _, Value.int _ _]) _ _ _); k_dflt (refine' min3 ?hhw26 ?k1w26 ?k2w26 ?k3w26 ?_; (case hhw26 => with_unfolding_all rfl); (case k1w26 => k_asm); (case k2w26 => k_asm); (case k3w26 => first | exact m3a (by omega) | exact m3b (by omega) | exact m3c (by omega) | exact rfl); k_whole); intro t' h' tk' F' N'; (try k_sweep))
  k_with "leaving ref" => (k_here; k_dflt (refine' leave_XS ?kBw27 ?kFw27 ?kNw27 ?knw27 ?_; (case kFw27 => k_asm); (case kBw27 => k_asm); (case kNw27 => k_asm); (case knw27 => assumption); k_whole); intro h' R' U'; (try dsimp only at R' U'))
  k_with "leaving ref" => (k_here; (refine' leave_onXS ?k1w28 ?k2w28 ?k3w28 ?k4w28 ?_; (case k3w28 => assumption); (case k2w28 => assumption); (case k1w28 => assumption); (case k4w28 => assumption); k_whole; intro h' R' U'; (try dsimp only at R' U' ⊢)))
  k_with "noteFrame ref" => (k_here; (with_reducible rename RaisedS _ _ _ _ _ _ _ _ _ => rkX); k_dflt (refine' caught_LS rkX ?kFw29 ?kBw29 ?kUw29 ?kXw29 ?kTw29 ?kWw29 ?kmw29 ?kvw29 ?_; (case kFw29 => assumption); (case kBw29 => k_asm); (case kUw29 => assumption); (case kXw29 => assumption); (case kTw29 => assumption); (case kWw29 => assumption); (case kmw29 => first | exact x63 | exact x51); (case kvw29 => exact rfl); k_whole); intro h' g' W' F' N' B' X' T'; (try k_sweep))
  k_with "ne" => (refine neN ?_; (try dsimp only); first | exact Dif.l (by with_reducible assumption) | exact Dif.r (by with_reducible assumption) | (k_extra "ord") | omega)
  k_with "getMethod bytes" => (k_here; (with_reducible show wpAny _ _ (getMethod (Value.bytes _ _) (PySem.Str.ofString "join") _) _ _ _); (refine join_meth ?_))
  k_with "call builtin:bytes.join" => (k_here; (with_reducible show wpAny _ _ (call (Value.builtin _) [Value.bytes _ _, Value.ref _]) _ _ _); k_dflt (refine' join_fl ?kNw32 ?kmw32 ?kzw32 ?kew32 ?_; (case kNw32 => k_asm); (case kmw32 => k_mem); (case kew32 => with_reducible assumption); (case kzw32 => omega); k_whole); intro t' tk')
  k_with "eval ListComp" => (k_here; k_dflt (refine LCg.ListComp_U (F₀ := by k_asm) (by with_unfolding_all rfl) (by decide) (by rfl) (by decide) (by rfl) ?_))
  k_with "CompSrc" => (k_here; (with_reducible rename Sh _ _ _ _ _ _ _ _ => sh9); k_dflt (refine LCg.CompSrc.ledger (by rfl) (by k_asm) (by k_asm) (by k_mem) (by have := sh9.size.2; rw [PySem.sizeLine_eq]; omega) ?_; intro g'; (refine' rows_rest sh9 ?m1w34 ?m2w34 ?m3w34 (fun r' f' a' y' b' c' e' I' oI' C' oC' D' m' ys' h' tk' E' hr' hC' hx' F' N' off' ne' => ?_) ?_); (case m1w34 => k_mem); (case m2w34 => k_mem); (case m3w34 => k_mem); (all_goals (try (simp only [LCg.Off3, and_true] at off'))); kcf_last))
  k_with "KPfDone" => ((show ∀ _, BytF _ _ → _); intro ys' hb')
  k_with "CompEnd" => ((refine' LCg.CompEnd.intro ?kFw36 ?kNw36 _ ?ksw36 ?kow36 ?kSw36 (kcb_el rfl rfl rfl)); (case kFw36 => with_reducible assumption); (case kNw36 => with_reducible assumption); (case ksw36 => exact fun _ hp => hp); (case kow36 => (simp only [LCg.Off3, and_true]; with_reducible assumption)); (case kSw36 => lcg_src))
  k_with "subscriptTail Name Constant ref int" => (k_here; k_dflt (first | ((with_reducible show wpAny _ _ (subscriptTail _ _ (Value.ref _) (Value.int 1 _)) _ _ _); refine' row_1 ?kN2w37 ?km2w37 ?_ ?hs2w37; (case kN2w37 => k_asm); (case km2w37 => with_reducible assumption); (case hs2w37 => with_unfolding_all rfl); k_whole) | ((with_reducible show wpAny _ _ (subscriptTail _ _ (Value.ref _) (Value.int 0 _)) _ _ _); refine' rows_0 ?kNw37 ?kshw37 ?kmw37 ?_ ?hsw37; (case kshw37 => with_reducible assumption); (case kNw37 => k_asm); (case kmw37 => k_mem); (case hsw37 => with_unfolding_all rfl); k_whole)))
  k_with "subscriptTail Name UnaryOp ref int" => (k_here; k_dflt (refine' rows_L ?kNw38 ?kshw38 ?kmw38 ?_ ?hsw38; (case kshw38 => with_reducible assumption); (case kNw38 => k_asm); (case kmw38 => k_mem); (case hsw38 => with_unfolding_all rfl); k_whole))
  k_with "compareOp NotEq bytes bytes" => (k_here; (refine bne_f ?kew39 ?_); (case kew39 => first | rfl | exact part_y | exact part_x (by with_reducible assumption) (by omega)))
  trivial
/-- between the head and the loop of _law_back_right -/
inductive IB (w : World) (g : Heap) (L' : Addr) (s : Shared) (is f fe ev back : Int) (t2 t3 : Tok) (he : Bool) (xs : List UInt8) (tobj : Obj) (z : Addr) (oz : Obj) : Shared → Prop
  | mk {x xd p pd q qd : Addr}{K1 : STk} {b3 b4 b5 : Tok}{K2 : PTk} {d1 d2 d3 d4 : Tok}{K3 : QTk} {g1 : Tok} {o1 o2 o3 : Obj} {h' : Heap} {tk' : Nat} {tf ta te : Tok} {m : Str → Option Value} (F : Fr g L' h' m)
      (N : News g L' h' ([(L' + 1 + 1 + 1, o1), (L' + 1 + 1, o2), (L' + 1, o3)] ++ [(426, tobj), (z, oz)] ++ [(xd, dictOf (sndE w K1 p q is f fe fe false he he b3 b4 b5) 11), (x, instObj 378 xd), (qd, dictOf (queE w K3 20 (xs.toArray) g1) 2), (q, instObj 117 qd), (pd, dictOf (peerE w K2 20 d1 20 d2 (.int 0 d3) (.int f d4)) 5), (p, instObj 187 pd)]))
      (y1 : o1.data = .cell (some (.ref x))) (y2 : o2.data = .cell (some (.int fe te))) (y3 : o3.data = .cell none) (ho : LtH xd x ∧ LtH x pd ∧ LtH pd p ∧ LtH p qd ∧ LtH qd q)
      (df : DifAll ([(L' + 1 + 1 + 1, o1), (L' + 1 + 1, o2), (L' + 1, o3)] ++ [(426, tobj), (z, oz)]) [(xd, dictOf (sndE w K1 p q is f fe fe false he he b3 b4 b5) 11), (x, instObj 378 xd), (qd, dictOf (queE w K3 20 (xs.toArray) g1) 2), (q, instObj 117 qd), (pd, dictOf (peerE w K2 20 d1 20 d2 (.int 0 d3) (.int f d4)) 5), (p, instObj 187 pd)]) (m1 : m (Str.ofString "first") = some (.int f tf)) (m2 : m (Str.ofString "all_sent") = some (.int ((xs.length : Int) + ev) ta)) (m3 : m (Str.ofString "octets") = some (.bytes xs.toArray t2)) (m4 : m (Str.ofString "back") = some (.int back t3)) :
      IB w g L' s is f fe ev back t2 t3 he xs tobj z oz { s with heap := h', toks := tk' }
/-- behind the loop -/
inductive IC (w : World) (A : Around) (base : Heap) (outer : List Env) (loose : List Str) (mean : ExcName → Option Value) (mg mb : Str → Option Value) (g : Heap) (L' : Addr) (s : Shared) (is f fe ev back : Int) (t2 t3 : Tok) (he : Bool) (xs : List UInt8) (z : Addr) (oz : Obj) : Shared → Prop
  | mk {x xd p pd q qd : Addr}{K1 : STk} {b3 b4 b5 : Tok}{K2 : PTk} {d1 d2 d3 d4 : Tok}{K3 : QTk} {g1 : Tok} {o1 o2 oc : Obj} {c : Addr} {vs : Array Value} {tq : Tok} {h' g' : Heap} {tk' : Nat} {tf ta te : Tok} {m : Str → Option Value} (W : KtsTurn (outer.filterMap (·.frame)) g g') (B : Below A base outer g') (X : (hok.heap_1 w.params).In g') (T : Top topProg loose mean mg mb g') (F : Fr g' L' h' m)
      (N : News g' L' h' ([(L' + 1 + 1 + 1, o1), (L' + 1 + 1, o2), (426, tabR 274 31 c), (c, oc), (z, oz)] ++ [(xd, dictOf (sndE w K1 p q is f fe fe false he he b3 b4 b5) 11), (x, instObj 378 xd), (qd, dictOf (queE w K3 20 (xs.toArray) g1) 2), (q, instObj 117 qd), (pd, dictOf (peerE w K2 20 d1 20 d2 (.int 0 d3) (.int f d4)) 5), (p, instObj 187 pd)]))
      (hoc : oc.data = .fields vs) (hv : vs[1]? = some (.str qnB tq)) (y1 : o1.data = .cell (some (.ref x))) (y2 : o2.data = .cell (some (.int fe te))) (ho : LtH xd x ∧ LtH x pd ∧ LtH pd p ∧ LtH p qd ∧ LtH qd q)
      (df : DifAll [(L' + 1 + 1 + 1, o1), (L' + 1 + 1, o2), (426, tabR 274 31 c), (c, oc), (z, oz)] [(xd, dictOf (sndE w K1 p q is f fe fe false he he b3 b4 b5) 11), (x, instObj 378 xd), (qd, dictOf (queE w K3 20 (xs.toArray) g1) 2), (q, instObj 117 qd), (pd, dictOf (peerE w K2 20 d1 20 d2 (.int 0 d3) (.int f d4)) 5), (p, instObj 187 pd)]) (m1 : m (Str.ofString "first") = some (.int f tf)) (m2 : m (Str.ofString "all_sent") = some (.int ((xs.length : Int) + ev) ta)) (m3 : m (Str.ofString "octets") = some (.bytes xs.toArray t2)) (m4 : m (Str.ofString "back") = some (.int back t3)) :
      IC w A base outer loose mean mg mb g L' s is f fe ev back t2 t3 he xs z oz { s with heap := h', toks := tk' }
/-- the loop's invariant in _law_back_right -/
inductive IL (w : World) (A : Around) (base : Heap) (outer : List Env) (loose : List Str) (mean : ExcName → Option Value) (mg mb : Str → Option Value) (g : Heap) (L' : Addr) (s : Shared) (is f fe ev back : Int) (t2 t3 : Tok) (he : Bool) (xs : List UInt8) (z : Addr) (oz : Obj) (l : Addr) (its : Array Value) : Nat → Addr → Shared → Prop
  | mk {i cnt : Nat} {I : Addr} {x xd p pd q qd : Addr}{K1 : STk} {b3 b4 b5 : Tok}{K2 : PTk} {d1 d2 d3 d4 : Tok}{K3 : QTk} {g1 : Tok} {o1 o2 o3 oI oc tob : Obj} {c : Addr} {v3 : Option Value} {h' g' : Heap} {tk' : Nat} {tf ta te : Tok} {m : Str → Option Value}
      (hst : TabSt 426 274 31 qnB tob c oc) (h0 : tob = tabObj #[] → i = 0) (hI : oI.cls = .type "list_iterator" ∧ oI.data = .fields #[.ref l, .int (i : Nat) 0])
      (W : KtsTurn (outer.filterMap (·.frame)) g g') (B : Below A base outer g') (X : (hok.heap_1 w.params).In g') (T : Top topProg loose mean mg mb g') (F : Fr g' L' h' m)
      (N : News g' L' h' ((I, oI) :: (l, listOf its cnt) :: ([(L' + 1 + 1 + 1, o1), (L' + 1 + 1, o2), (L' + 1, o3), (426, tob), (c, oc), (z, oz)] ++ [(xd, dictOf (sndE w K1 p q is f fe fe false he he b3 b4 b5) 11), (x, instObj 378 xd), (qd, dictOf (queE w K3 20 (xs.toArray) g1) 2), (q, instObj 117 qd), (pd, dictOf (peerE w K2 20 d1 20 d2 (.int 0 d3) (.int f d4)) 5), (p, instObj 187 pd)])))
      (y1 : o1.data = .cell (some (.ref x))) (y2 : o2.data = .cell (some (.int fe te))) (y3 : o3.data = .cell v3) (ho : LtH xd x ∧ LtH x pd ∧ LtH pd p ∧ LtH p qd ∧ LtH qd q)
      (dfI : DifR I ((l, listOf its cnt) :: ([(L' + 1 + 1 + 1, o1), (L' + 1 + 1, o2), (L' + 1, o3), (426, tob), (c, oc), (z, oz)] ++ [(xd, dictOf (sndE w K1 p q is f fe fe false he he b3 b4 b5) 11), (x, instObj 378 xd), (qd, dictOf (queE w K3 20 (xs.toArray) g1) 2), (q, instObj 117 qd), (pd, dictOf (peerE w K2 20 d1 20 d2 (.int 0 d3) (.int f d4)) 5), (p, instObj 187 pd)]))) (dfl : DifR l ([(L' + 1 + 1 + 1, o1), (L' + 1 + 1, o2), (L' + 1, o3), (426, tob), (c, oc), (z, oz)] ++ [(xd, dictOf (sndE w K1 p q is f fe fe false he he b3 b4 b5) 11), (x, instObj 378 xd), (qd, dictOf (queE w K3 20 (xs.toArray) g1) 2), (q, instObj 117 qd), (pd, dictOf (peerE w K2 20 d1 20 d2 (.int 0 d3) (.int f d4)) 5), (p, instObj 187 pd)])) (dfc : DifR c [(L' + 1 + 1 + 1, o1), (L' + 1 + 1, o2), (L' + 1, o3)])
      (df : DifAll [(L' + 1 + 1 + 1, o1), (L' + 1 + 1, o2), (L' + 1, o3), (426, tob), (c, oc), (z, oz)] [(xd, dictOf (sndE w K1 p q is f fe fe false he he b3 b4 b5) 11), (x, instObj 378 xd), (qd, dictOf (queE w K3 20 (xs.toArray) g1) 2), (q, instObj 117 qd), (pd, dictOf (peerE w K2 20 d1 20 d2 (.int 0 d3) (.int f d4)) 5), (p, instObj 187 pd)]) (m1 : m (Str.ofString "first") = some (.int f tf)) (m2 : m (Str.ofString "all_sent") = some (.int ((xs.length : Int) + ev) ta)) (m3 : m (Str.ofString "octets") = some (.bytes xs.toArray t2)) (m4 : m (Str.ofString "back") = some (.int back t3)) :
      IL w A base outer loose mean mg mb g L' s is f fe ev back t2 t3 he xs z oz l its i I { s with heap := h', toks := tk' }
theorem difR_ne {a : Nat} : ∀ {l : List (Addr × Obj)}, DifR a l → ∀ p ∈ l, p.1 ≠ a
  | [], _, _, hp => nomatch hp
  | _ :: _, h, p, hp => by
    rcases List.mem_cons.mp hp with rfl | hp
    · exact Ne.symm h.l
    · exact difR_ne h.r p hp
theorem iter_step {g h h' : Heap} {L I : Addr} {m : Str → Option Value} {oI : Obj} {rest : List (Addr × Obj)} (F : Fr g L h m) (N : News g L h ((I, oI) :: rest)) (hne : DifR I rest)
    (hk : ∀ b o, b ≠ I → h.get? b = some o → h'.get? b = some o) : Fr g L h' m ∧ News g L h' rest := by
  have nI := N _ (.head _)
  refine ⟨⟨F.ns.at' fun o e => hk _ o (Ne.symm nI.2.1) e, fun b o e => hk b o (fun q => by rw [q, nI.2.2] at e; cases e) (F.keep b o e), F.above⟩, fun p hp => ?_⟩
  have n := N p (.tail _ hp)
  exact ⟨hk _ _ (difR_ne hne p hp) n.1, n.2⟩
theorem iter_next {g h h' : Heap} {L I l : Addr} {i : Nat} {m : Str → Option Value} {oI : Obj} {rest : List (Addr × Obj)} (F : Fr g L h m) (N : News g L h ((I, oI) :: rest)) (hne : DifR I rest)
    (hk : ∀ b o, b ≠ I → h.get? b = some o → h'.get? b = some o) (hit : h'.IsListIter I l i) :
    ∃ oI', Fr g L h' m ∧ News g L h' ((I, oI') :: rest) ∧ oI'.cls = .type "list_iterator" ∧ oI'.data = .fields #[.ref l, .int (i : Nat) 0] := by
  obtain ⟨F', N'⟩ := iter_step F N hne hk
  obtain ⟨o, ho, hc, hd⟩ := hit
  refine ⟨o, F', fun p hp => ?_, hc, hd⟩
  rcases List.mem_cons.mp hp with rfl | hp
  · exact ⟨ho, (N _ (.head _)).2⟩
  · exact N' p hp
theorem ForList_mk {prog : Program} {w : World} {A : Around} {env : Env} {Q : Flow → Shared → Prop} {E : Value → Shared → Prop} {x : Str} {px : Pos} {body : List Stmt} {s₁ : Shared} {l : Addr} {its : Array Value} {J : Addr → Array Value → Nat → Addr → Shared → Prop}
    (hl : s₁.heap.IsList l its) (h0 : J l its 0 s₁.heap.objs.size { s₁ with heap := s₁.heap.push { cls := .type "list_iterator", data := .fields #[.ref l, .int 0 0] } })
    (hJ : ∀ i I s, J l its i I s → s.heap.IsListIter I l i ∧ s.heap.IsList l its)
    (step : ∀ i I s v h', i < its.size → J l its i I s → its[i]? = some v → h'.IsListIter I l (i + 1) → (∀ b o, b ≠ I → s.heap.get? b = some o → h'.get? b = some o) →
      wpAny (model prog w) A (assign (.Name x px) env v) (fun _ s₂ => wpAny (model prog w) A (execs body env) (CutEnd (J l its (i + 1) I)) E s₂) E { s with heap := h' })
    (fin : ∀ I s h', J l its its.size I s → (∀ b o, b ≠ I → s.heap.get? b = some o → h'.get? b = some o) → Q .next { s with heap := h' }) :
    ForList prog w A env x px body Q E (.ref l) s₁ := ⟨l, its, J l its, rfl, hl, h0, hJ, step, fin⟩
theorem il_it {w : World} {A : Around} {base : Heap} {outer : List Env} {loose : List Str} {mean : ExcName → Option Value} {mg mb : Str → Option Value} {g : Heap} {L' : Addr} {s : Shared} {is f fe ev back : Int} {t2 t3 : Tok} {he : Bool} {xs : List UInt8} {z : Addr} {oz : Obj} {l : Addr} {its : Array Value} {i : Nat} {I : Addr} {s' : Shared} (h : IL w A base outer loose mean mg mb g L' s is f fe ev back t2 t3 he xs z oz l its i I s') : s'.heap.IsListIter I l i ∧ s'.heap.IsList l its := by
  cases h with
  | mk hst h0 hI W B X T F N => exact ⟨⟨_, (N _ (.head _)).1, hI.1, hI.2⟩, News.isList N (.tail _ (.head _))⟩
theorem iter_new {g h : Heap} {L : Addr} {m : Str → Option Value} {rest : List (Addr × Obj)} (l : Addr) (F : Fr g L h m) (N : News g L h rest) :
    Fr g L (h.push { cls := .type "list_iterator", data := .fields #[.ref l, .int 0 0] }) m ∧ News g L (h.push { cls := .type "list_iterator", data := .fields #[.ref l, .int 0 0] }) ((h.objs.size, { cls := .type "list_iterator", data := .fields #[.ref l, .int 0 0] }) :: rest) ∧ DifR h.objs.size rest :=
  ⟨F.push _, N.push F _, difR_of fun q hq => Ne.symm (Nat.ne_of_lt (Heap.lt_size (N q hq).1))⟩
end
end Mine
-- part Joi
namespace Mine
section
theorem ln1_c2d984 : True := by
  k_with_none
  k_with "callWith ref" => (k_here; (with_reducible rename Fr _ _ _ _ => kF); (with_reducible rename Frag.In _ _ => kX); first | ((with_reducible show wpAny _ _ (callWith _ _ _ (backTo _ (starEach [] _)) []) _ _ _); k_dflt (refine' callWith_K0 (Frag.In.keeps kX (Fr.keep kF)) ?k2w1 ?_; (case k2w1 => k_is); k_whole)) | ((with_reducible show wpAny _ _ (callWith _ _ _ (backTo _ (starEach (_ :: _) _)) []) _ _ _); k_dflt (refine' callWith_K kX ?k2w1 ?_; (case k2w1 => k_is); k_whole)))
  k_with "eval Name" => (k_here; (fail_if_success (with_reducible show wpAny _ _ (eval (Expr.Name _ _) (compEnvC _ _ _ _)) _ _ _)); k_dflt (first | (refine' nameX_L ?Fw2 ?vw2 ?_ ?aw2 ?bw2; (case bw2 => kernel_rfl!); (case aw2 => kernel_rfl!); (case Fw2 => k_asm); (case vw2 => rfl); k_whole) | (refine' nameX_K ?Fw2 ?Xw2 ?Tw2 ?ew2 ?_ ?aw2 ?bw2; (case bw2 => kernel_rfl!); (case aw2 => kernel_rfl!); (case Fw2 => k_asm); (case Xw2 => k_asm); (case Tw2 => k_asm); (case ew2 => k_is); k_whole) | (refine' nameX_B ?Fw2 ?Xw2 ?Tw2 ?ew2 ?vw2 ?nw2 ?_ ?aw2 ?bw2; (case bw2 => kernel_rfl!); (case aw2 => kernel_rfl!); (case Fw2 => k_asm); (case Xw2 => k_asm); (case Tw2 => k_asm); (case ew2 => k_is); (case vw2 => boot_fast); (case nw2 => decide); k_whole) | (refine' nameX_C ?Nw2 ?cw2 ?mw2 ?dw2 ?_ ?aw2 ?bw2; (case bw2 => kernel_rfl!); (case aw2 => kernel_rfl!); (case Nw2 => k_asm); (case cw2 => rfl); (case mw2 => k_mem); (case dw2 => k_asm); k_whole) | (refine' nameX_F ?Nw2 ?cw2 ?mw2 ?dw2 ?_ ?aw2 ?bw2; (case bw2 => kernel_rfl!); (case aw2 => kernel_rfl!); (case Nw2 => k_asm); (case cw2 => rfl); (case mw2 => k_mem); (case dw2 => k_asm); k_whole)))
  k_with "ord" => ((with_reducible rename DifO _ => hO9); (first | refine' hO9 0 _ _ _ rfl ?hbw3 ?hcw3 | refine' hO9 1 _ _ _ rfl ?hbw3 ?hcw3 | refine' hO9 2 _ _ _ rfl ?hbw3 ?hcw3 | refine' hO9 3 _ _ _ rfl ?hbw3 ?hcw3 | refine' hO9 4 _ _ _ rfl ?hbw3 ?hcw3 | refine' hO9 5 _ _ _ rfl ?hbw3 ?hcw3); (case hbw3 => first | exact (rfl : (_ : List Addr)[0]? = _) | exact (rfl : (_ : List Addr)[1]? = _) | exact (rfl : (_ : List Addr)[2]? = _) | exact (rfl : (_ : List Addr)[3]? = _) | exact (rfl : (_ : List Addr)[4]? = _) | exact (rfl : (_ : List Addr)[5]? = _)); (case hcw3 => exact rfl))
  k_with "nst" => ((with_reducible show wpAny _ _ _ _ _ (Shared.mk _ _ _ _ _)); refine' nst ?kew4 ?_; (case kew4 => (dsimp only; exact rfl)))
  k_with "all" => (first | exact neNil | (refine' neC ?aw5 ?bw5; (case aw5 => k_ne); (case bw5 => k_all)))
  k_with "room" => (first | exact room_ (by assumption) (by exact rfl) | exact room0 (by assumption) (by exact rfl) | ((try simp only [depth_under_make, depth_under_kw, depth_in1, depth_deeper, depth_caller]); (try dsimp only [ktrTop]); omega))
  k_with "units" => (first | exact room_ (by assumption) (by exact rfl) | exact room0 (by assumption) (by exact rfl) | ((try simp only [units_in1, units_deeper, Around.mark_units, units_caller]); (try dsimp only [ktrTop]); omega))
  k_with "execs cons" => ((first | (with_reducible refine execs_T ?_; intro tk) | refine wpAny_execs_cons ?_); (try k_fold))
  k_with "getAttr ref" => (k_here; k_dflt (refine' oget ?k1w9 ?k2w9 ?k3w9 ?k4w9 ?k5w9 ?k6w9 ?k7w9 ?k8w9 ?k9w9 ?_; (case k1w9 => k_asm); (case k2w9 => k_asm); (case k3w9 => k_inst); (case k4w9 => k_is); (case k5w9 => k_is); (case k6w9 => k_is); (case k7w9 => k_is); (case k8w9 => k_get); (case k9w9 => k_handed); k_whole))
  k_with "storeName" => (k_here; k_dflt (refine' ostore ?kFw10 ?kNw10 ?_ ?kaw10 ?kbw10; (case kaw10 => rfl); (case kbw10 => rfl); (case kFw10 => k_asm); (case kNw10 => k_asm); k_whole; intro h' m9 F' N'; (try k_sweep)))
  k_with "eval Constant int" => (refine cint ?_)
  k_with "eval Constant bytes" => (refine cbytes ?_)
  k_with "binaryOp Mod int int" => (k_here; (with_reducible refine mod_pos ?kbw13 ?_); (case kbw13 => omega); intro t' tk')
  k_with "binaryOp FloorDiv int int" => (k_here; (with_reducible refine div_pos ?kbw14 ?kpw14 ?_); (case kbw14 => omega); (case kpw14 => omega); intro t' tk')
  k_with "binaryOp Mult int int" => (k_here; (with_reducible refine mul_small ?kbw15 ?_); (case kbw15 => omega); intro t' tk')
  k_with "subscriptTail Name Constant ref int" => (k_here; (with_reducible show wpAny _ _ (subscriptTail _ _ (Value.ref _) (Value.int _ _)) _ _ _); k_dflt (first | ((with_reducible show wpAny _ _ (subscriptTail _ _ (Value.ref _) (Value.int 0 _)) _ _ _); refine' item_0 ?Nw16 ?mw16 ?_ ?hsw16; (case Nw16 => k_asm); (case mw16 => k_mem); (case hsw16 => with_unfolding_all rfl); k_whole) | ((with_reducible show wpAny _ _ (subscriptTail _ _ (Value.ref _) (Value.int 1 _)) _ _ _); refine' item_1 ?Nw16 ?mw16 ?_ ?hsw16; (case Nw16 => k_asm); (case mw16 => k_mem); (case hsw16 => with_unfolding_all rfl); k_whole)))
  k_with "compareOp Eq int int" => (k_here; first | (with_reducible refine ceq_t ?chw17 ?_; (case chw17 => omega)) | (with_reducible refine ceq_f ?chw17 ?_; (case chw17 => omega)))
  k_with "compareOp NotEq int int" => (k_here; first | (with_reducible refine cne_t ?chw18 ?_; (case chw18 => omega)) | (with_reducible refine cne_f ?chw18 ?_; (case chw18 => omega)))
  k_with "compareOp Lt int int" => (k_here; first | (with_reducible refine clt_t ?chw19 ?_; (case chw19 => omega)) | (with_reducible refine clt_f ?chw19 ?_; (case chw19 => omega)))
  k_with "compareOp LtE int int" => (k_here; first | (with_reducible refine cle_t ?chw20 ?_; (case chw20 => omega)) | (with_reducible refine cle_f ?chw20 ?_; (case chw20 => omega)))
  k_with "compareOp Gt int int" => (k_here; first | (with_reducible refine cgt_t ?chw21 ?_; (case chw21 => omega)) | (with_reducible refine cgt_f ?chw21 ?_; (case chw21 => omega)))
  k_with "compareOp GtE int int" => (k_here; first | (with_reducible refine cge_t ?chw22 ?_; (case chw22 => omega)) | (with_reducible refine cge_f ?chw22 ?_; (case chw22 => omega)))
  k_with "call type:int" => (k_here; (with_reducible show wpAny _ _ (call (Value.type "int") [Value.bool _]) _ _ _); (first | (with_reducible refine int_bf ?_) | (with_reducible refine int_bt ?_) | (with_reducible refine int_bb (by assumption) ?_)); intro t' tk')
  k_with "call builtin:max" => (k_here; (with_reducible show wpAny _ _ (call (Value.builtin _) [Value.int _ _, Value.int _ _]) _ _ _); k_dflt (refine' max2 ?hhw24 ?k1w24 ?k2w24 ?k3w24 ?_; (case hhw24 => with_unfolding_all rfl); (case k1w24 => k_asm); (case k2w24 => k_asm); (case k3w24 => first | exact (Int.max_eq_left (by omega)).symm | exact (Int.max_eq_right (by omega)).symm | exact rfl); k_whole); intro t' h' tk' F' N'; (try k_sweep))
  k_with "call builtin:min" => (k_here; (with_reducible show wpAny _ _ (call (Value.builtin _) [Value.int _ _, Value.int _ _]) _ _ _); k_dflt (refine' min2 ?hhw25 ?k1w25 ?k2w25 ?k3w25 ?_; (case hhw25 => with_unfolding_all rfl); (case k1w25 => k_asm); (case k2w25 => k_asm); (case k3w25 => first | exact (Int.min_eq_left (by omega)).symm | exact (Int.min_eq_right (by omega)).symm | exact rfl); k_whole); intro t' h' tk' F' N'; (try k_sweep))
  k_with "call builtin:min" => (k_here; (with_reducible show wpAny _ _ (call (Value.builtin _) [Value.int _ _, Value.int _ _, Value.int _ _]) _ _ _); k_dflt (refine' min3 ?hhw26 ?k1w26 ?k2w26 ?k3w26 ?_; (case hhw26 => with_unfolding_all rfl); (case k1w26 => k_asm); (case k2w26 => k_asm); (case k3w26 => first | exact m3a (by omega) | exact m3b (by omega) | exact m3c (by omega) | exact rfl); k_whole); intro t' h' tk' F' N'; (try k_sweep))
  k_with "ne" => (refine neN ?_; (try dsimp only); first | (k_extra "ord") | omega)
  trivial
section
theorem slot_bytes_join : Slot "bytes" "join" "bytes.join" :=
  .of (owner := "bytes") (n := "join") (by rw [typeLookup_type, builtinLookup_eq_fast]; kernel_rfl) (by decide +kernel) (by decide +kernel) (by decide +kernel)
    (by first | exact .inl (by decide +kernel) | exact .inr (by decide +kernel)) (by rw [isSubtype_type]; kernel_rfl)
theorem type_bytes_join : typeOf (.builtin "bytes.join") = pure (.type "method_descriptor") := by show builtinType _ = _; rw [builtinType_eq_fast]; kernel_rfl
theorem entry_bytes_join : entryFor table "bytes.join" = some Builtin.«bytes.join» := entryFor_of_tree (by kernel_rfl)
theorem args_bytes_join (a b : Value) : argsOk "bytes.join" ⟨[a, b], []⟩ := by
  unfold argsOk; rw [signature?_of (id := "bytes.join") (n := ['n', 'i', 'o', 'j']) (o := ['s', 'e', 't', 'y', 'b']) (by kernel_rfl) FB.owner_bytes]; kernel_rfl
theorem tb_eq {id : String} {b : Array UInt8} {t : Tok} : Builtin.Bytes.takeBufferQuiet? id (.bytes b t) 0 = pure (some (b, none)) := by
  unfold Builtin.Bytes.takeBufferQuiet? Builtin.Bytes.takeBuffer?
  have e : Builtin.Bytes.buffer? id (.bytes b t) (full := ((0 : Int) == Builtin.Bytes.fullReadOnly)) = pure (some b) := KBy.buffer_eq
  simp only [KBy.special_eq KBy.look_buffer, KBy.own_buffer, e]
  rfl
variable {prog : Program} {w : World} {A : Around} {E : Value → Shared → Prop} {s : Shared} {h₀ : Heap} {L : Addr} {m : Str → Option Value} {news : List (Addr × Obj)}
theorem wp_forIn_cons {α β : Type} {M : Model} {x : α} {xs : List α} {b : β} {f : α → β → Sem (ForInStep β)} {Q : β → Shared → Prop}
    (h : wpAny M A (f x b) (fun r s' => match r with | .done b' => Q b' s' | .yield b' => wpAny M A (forIn xs b' f) Q E s') E s) : wpAny M A (forIn (x :: xs) b f) Q E s := by
  rw [List.forIn_cons]
  refine wpAny_bind (wpAny_mono h (fun r s' hr => ?_) fun _ _ e => e)
  cases r with
  | done b' => exact wpAny_pure hr
  | yield b' => exact hr
theorem wp_forIn_nil {α β : Type} {M : Model} {b : β} {f : α → β → Sem (ForInStep β)} {Q : β → Shared → Prop} (h : Q b s) : wpAny M A (forIn ([] : List α) b f) Q E s := by
  rw [List.forIn_nil]; exact wpAny_pure h
theorem jlg {M : Model} {keep : List Value} {Q : Unit → Shared → Prop} : ∀ {l : List (Value × Option Value)}, (∀ p ∈ l, p.2 = none) → Q () s → wpAny M A (Builtin.Bytes.joinLetGo l keep) Q E s
  | [], _, h => wpAny_pure h
  | (x, some v) :: rest, hl, h => by have := hl _ (.head _); cases this
  | (x, none) :: rest, hl, h => by
    unfold Builtin.Bytes.joinLetGo
    show wpAny _ _ (letGo (x :: []) _ >>= fun _ => Builtin.Bytes.joinLetGo rest keep) _ _ _
    exact wpAny_bind (wpAny_letGo (jlg (fun p hp => hl p (.tail _ hp)) h))
theorem wp_forIn_inv {β : Type} {M : Model} {A : Around} {E : Value → Shared → Prop} {s : Shared} {f : Nat → β → Sem (ForInStep β)} {I : Nat → β → Prop} {N : Nat} {Q : β → Shared → Prop}
    (hs : ∀ i b, i < N → I i b → wpAny M A (f i b) (fun r s' => s' = s ∧ ∃ b', r = .yield b' ∧ I (i + 1) b') E s) (hq : ∀ b, I N b → Q b s) : ∀ n i b, i + n = N → I i b → wpAny M A (forIn (List.range' i n 1) b f) Q E s
  | 0, i, b, e, h => by rw [List.range'_zero]; exact wp_forIn_nil (hq b (by simpa using e ▸ h))
  | n + 1, i, b, e, h => by
    rw [List.range'_succ]
    refine wp_forIn_cons (wpAny_mono (hs i b (by omega) h) (fun r s' hr => ?_) fun _ _ e => e)
    obtain ⟨rfl, b', rfl, h'⟩ := hr
    exact wp_forIn_inv hs hq n (i + 1) b' (by omega) h'
theorem wp_upto {β : Type} {M : Model} {A : Around} {E : Value → Shared → Prop} {s : Shared} {f : Nat → β → Sem (ForInStep β)} (I : Nat → β → Prop) {N : Nat} {b : β} {Q : β → Shared → Prop} (h0 : I 0 b)
    (hs : ∀ i b, i < N → I i b → wpAny M A (f i b) (fun r s' => s' = s ∧ ∃ b', r = .yield b' ∧ I (i + 1) b') E s) (hq : ∀ b, I N b → Q b s) : wpAny M A (forIn [:N] b f) Q E s := by
  rw [Std.Legacy.Range.forIn_eq_forIn_range']
  simp only [Std.Legacy.Range.size, Nat.sub_zero, Nat.add_sub_cancel, Nat.div_one]
  exact wp_forIn_inv hs hq N 0 b (Nat.zero_add _) h0
theorem match1 {α : Type} {M : Model} {A : Around} {E : Value → Shared → Prop} {s : Shared} {vs : Array Value} {f : Value → Sem α} {g : Sem α} {Q : α → Shared → Prop} (hv : vs.size ≠ 1) (h : wpAny M A g Q E s) : wpAny M A (match vs with | #[x] => f x | _ => g) Q E s := by
  rcases vs with ⟨_ | ⟨x, _ | ⟨y, r⟩⟩⟩
  · exact h
  · exact absurd rfl hv
  · exact h
theorem nany {l : List (Value × Option Value)} (h : ∀ p ∈ l, p.2 = none ∧ p.1.onHeap = false) : (Builtin.Bytes.Kind.bytes == Builtin.Bytes.Kind.bytearray || l.any fun x => x.1.onHeap) = false := by
  have : (l.any fun x => x.1.onHeap) = false := by rw [List.any_eq_false]; intro p hp; rw [(h p hp).2]; decide
  rw [this]; decide
/-- the values are those octets -/
def BytesOf (vs : Array Value) (bs : List (Array UInt8)) : Prop := vs.size = bs.length ∧ ∀ i (h : i < bs.length), ∃ t, vs.getD i .none = .bytes bs[i] t
theorem joinN {l : Addr} {vs : Array Value} {bs : List (Array UInt8)} {z : Array UInt8} {t : Tok} {n : Nat} :
    Meets (Builtin.«bytes.join» ⟨[.bytes #[] t, .ref l], []⟩) (fun _ R s => s.heap.get? l = some (listOf vs n) ∧ BytesOf vs bs ∧ 2 ≤ bs.length ∧ Builtin.Bytes.joined #[] bs = z ∧ bs.toArray.foldl (fun x1 x2 => x1 + x2.size) 0 ≤ 1000 ∧ z.size ≤ 1000 ∧ ∀ t' k, R (.ok (.ret (.bytes z t'))) { s with toks := k }) := by
  refine .of_wp fun prog w A R s hS => ?_
  obtain ⟨hl, ⟨hvs, hv⟩, h2, hj, hsz, hsz2, h⟩ := hS
  unfold Builtin.«bytes.join» Builtin.Bytes.joinM
  refine wpAny_bind (wpAny_of_eq (a := (.bytes #[] t, .ref l)) rfl ?_)
  refine bm_if_true rfl ?_
  unfold Builtin.Bytes.joinItems
  repeat (first | with_reducible refine wpAny_load hl ?_ | wp_step)
  refine match1 (by omega) ?_
  refine wpAny_bind ?_
  refine wp_upto (fun i b => b.1.toList = bs.take i ∧ ∀ p ∈ b.2, p.2 = none ∧ p.1.onHeap = false) ⟨by simp, by simp⟩ ?st ?fin
  case st =>
    intro i b hi ⟨hb1, hb2⟩
    obtain ⟨t', ht'⟩ := hv i (by omega)
    repeat (first | with_reducible refine wpAny_load hl ?_ | wp_step)
    refine bm_if_false (nany hb2) ?_
    rw [ht']
    repeat (first | with_reducible refine wpAny_load hl ?_ | ((with_reducible show wpAny _ _ (Builtin.Bytes.takeBufferQuiet? _ _ _) _ _ _); with_reducible refine wpAny_of_eq tb_eq ?_) | wp_step)
    refine ⟨rfl, _, rfl, ?_, fun p hp => ?_⟩
    · rw [Array.toList_push, hb1, List.take_succ_eq_append_getElem]
    · rcases List.mem_append.1 hp with hp | hp
      · exact hb2 p hp
      · rw [List.mem_singleton.1 hp]; exact ⟨rfl, rfl⟩
  case fin =>
    intro ⟨⟨bl⟩, b2⟩ ⟨hb1, hb2⟩
    have hb3 : bl = bs := by rw [hvs, List.take_length] at hb1; exact hb1
    subst hb3
    repeat (first | with_reducible refine wpAny_load hl ?_ | wp_step)
    refine bm_if_false (KBy.tooLong_not ?_) ?_
    · have h0 : (#[] : Array UInt8).size * ((⟨bl⟩ : Array (Array UInt8)).size - 1) = 0 := Nat.zero_mul _
      rw [h0]; exact Nat.le_trans hsz (by decide)
    refine wpAny_bind ?_
    show wpAny _ _ (mkBytes (Builtin.Bytes.joined #[] bl)) _ _ _
    rw [hj]
    unfold mkBytes
    refine wpAny_ite ?_
    rw [if_neg (by rw [sizeLine_eq]; omega)]
    refine wpAny_bind (wpAny_fresh (wpAny_pure ?_))
    refine wpAny_bind (wpAny_holding (wpAny_point ?_))
    refine wpAny_bind (jlg (fun p hp => (hb2 p hp).1) ?_)
    exact wpAny_pure ⟨_, rfl, h _ _⟩
theorem bytesOf2 {b c : Array UInt8} {u v : Tok} : BytesOf #[.bytes b u, .bytes c v] [b, c] :=
  ⟨rfl, fun i h => match i, h with | 0, _ => ⟨_, rfl⟩ | 1, _ => ⟨_, rfl⟩⟩
theorem bytesOf3 {b c d : Array UInt8} {u v x : Tok} : BytesOf #[.bytes b u, .bytes c v, .bytes d x] [b, c, d] :=
  ⟨rfl, fun i h => match i, h with | 0, _ => ⟨_, rfl⟩ | 1, _ => ⟨_, rfl⟩ | 2, _ => ⟨_, rfl⟩⟩
theorem join1 {l : Addr} {b : Array UInt8} {t u : Tok} {n : Nat} :
    Meets (Builtin.«bytes.join» ⟨[.bytes #[] t, .ref l], []⟩) (fun _ R s => s.heap.get? l = some (listOf #[.bytes b u] n) ∧ ∀ t' k, R (.ok (.ret (.bytes b t'))) { s with toks := k }) := by
  refine .of_wp fun prog w A R s hS => ?_
  obtain ⟨hl, h⟩ := hS
  unfold Builtin.«bytes.join» Builtin.Bytes.joinM
  refine wpAny_bind (wpAny_of_eq (a := (.bytes #[] t, .ref l)) rfl ?_)
  refine bm_if_true rfl ?_
  unfold Builtin.Bytes.joinItems
  repeat (first | with_reducible refine wpAny_load hl ?_ | wp_step)
  exact ⟨_, rfl, h _ _⟩
theorem join_meth {M : Model} {b : Array UInt8} {t : Tok} {pl : Sem Bool} {Q : Value × List Value → Shared → Prop} (h : Q (.builtin "bytes.join", [.bytes b t]) s) : wpAny M A (getMethod (.bytes b t) "join" pl) Q E s := by
  with_reducible exact KBd.method_of (.bytes b t) (PySem.W.typeIs_bytes _ _ _) slot_bytes_join type_bytes_join KBd.noRef h
theorem join_c1 {hp : Heap} {gn : Array GenState} {dr : Drawn} {nk : Nat} {os : OsState} {l : Addr} {xs zs : List UInt8} {t u : Tok} {n : Nat} {Q : Value → Shared → Prop} (N : News h₀ L hp news) (hm : (l, listOf #[.bytes xs.toArray u] n) ∈ news) (e : xs = zs)
    (h : ∀ t' tk', Q (.bytes zs.toArray t') ⟨hp, gn, dr, tk', os⟩) : wpAny (model prog w) A (call (.builtin "bytes.join") [.bytes #[] t, .ref l]) Q E ⟨hp, gn, dr, nk, os⟩ :=
  call_meets slot_bytes_join (PySem.W.typeIs_bytes _ _ _) entry_bytes_join (args_bytes_join _ _) join1 ⟨N.get hm, fun t' k => by subst e; exact h t' k⟩
theorem join_c2 {hp : Heap} {gn : Array GenState} {dr : Drawn} {nk : Nat} {os : OsState} {l : Addr} {xs ys zs : List UInt8} {t u v : Tok} {n : Nat} {Q : Value → Shared → Prop} (N : News h₀ L hp news) (hm : (l, listOf #[.bytes xs.toArray u, .bytes ys.toArray v] n) ∈ news) (hz : zs.length ≤ 1000) (e : xs ++ ys = zs)
    (h : ∀ t' tk', Q (.bytes zs.toArray t') ⟨hp, gn, dr, tk', os⟩) : wpAny (model prog w) A (call (.builtin "bytes.join") [.bytes #[] t, .ref l]) Q E ⟨hp, gn, dr, nk, os⟩ :=
  call_meets slot_bytes_join (PySem.W.typeIs_bytes _ _ _) entry_bytes_join (args_bytes_join _ _) joinN ⟨N.get hm, bytesOf2, Nat.le_refl 2, by subst e; simp [Builtin.Bytes.joined, List.zipIdx], by subst e; simp only [List.length_append] at hz; simp; omega, by simpa using hz, h⟩
theorem join_c3 {hp : Heap} {gn : Array GenState} {dr : Drawn} {nk : Nat} {os : OsState} {l : Addr} {xs ys ws zs : List UInt8} {t u v x : Tok} {n : Nat} {Q : Value → Shared → Prop} (N : News h₀ L hp news) (hm : (l, listOf #[.bytes xs.toArray u, .bytes ys.toArray v, .bytes ws.toArray x] n) ∈ news) (hz : zs.length ≤ 1000) (e : xs ++ ys ++ ws = zs)
    (h : ∀ t' tk', Q (.bytes zs.toArray t') ⟨hp, gn, dr, tk', os⟩) : wpAny (model prog w) A (call (.builtin "bytes.join") [.bytes #[] t, .ref l]) Q E ⟨hp, gn, dr, nk, os⟩ :=
  call_meets slot_bytes_join (PySem.W.typeIs_bytes _ _ _) entry_bytes_join (args_bytes_join _ _) joinN ⟨N.get hm, bytesOf3, Nat.le_succ 2, by subst e; simp [Builtin.Bytes.joined, List.zipIdx], by subst e; simp only [List.length_append] at hz; simp; omega, by simpa using hz, h⟩
end
end
end Mine
-- part C7
namespace Mine
section
theorem ln1_51a295 : True := by
  k_with_none
  k_with "callWith ref" => (k_here; (with_reducible rename Fr _ _ _ _ => kF); (with_reducible rename Frag.In _ _ => kX); first | ((with_reducible show wpAny _ _ (callWith _ _ _ (backTo _ (starEach [] _)) []) _ _ _); k_dflt (refine' callWith_K0 (Frag.In.keeps kX (Fr.keep kF)) ?k2w1 ?_; (case k2w1 => k_is); k_whole)) | ((with_reducible show wpAny _ _ (callWith _ _ _ (backTo _ (starEach (_ :: _) _)) []) _ _ _); k_dflt (refine' callWith_K kX ?k2w1 ?_; (case k2w1 => k_is); k_whole)))
  k_with "eval Name" => (k_here; (fail_if_success (with_reducible show wpAny _ _ (eval (Expr.Name _ _) (compEnvC _ _ _ _)) _ _ _)); k_dflt (first | (refine' nameX_L ?Fw2 ?vw2 ?_ ?aw2 ?bw2; (case bw2 => kernel_rfl!); (case aw2 => kernel_rfl!); (case Fw2 => k_asm); (case vw2 => rfl); k_whole) | (refine' nameX_K ?Fw2 ?Xw2 ?Tw2 ?ew2 ?_ ?aw2 ?bw2; (case bw2 => kernel_rfl!); (case aw2 => kernel_rfl!); (case Fw2 => k_asm); (case Xw2 => k_asm); (case Tw2 => k_asm); (case ew2 => k_is); k_whole) | (refine' nameX_B ?Fw2 ?Xw2 ?Tw2 ?ew2 ?vw2 ?nw2 ?_ ?aw2 ?bw2; (case bw2 => kernel_rfl!); (case aw2 => kernel_rfl!); (case Fw2 => k_asm); (case Xw2 => k_asm); (case Tw2 => k_asm); (case ew2 => k_is); (case vw2 => boot_fast); (case nw2 => decide); k_whole) | (refine' nameX_C ?Nw2 ?cw2 ?mw2 ?dw2 ?_ ?aw2 ?bw2; (case bw2 => kernel_rfl!); (case aw2 => kernel_rfl!); (case Nw2 => k_asm); (case cw2 => rfl); (case mw2 => k_mem); (case dw2 => k_asm); k_whole) | (refine' nameX_F ?Nw2 ?cw2 ?mw2 ?dw2 ?_ ?aw2 ?bw2; (case bw2 => kernel_rfl!); (case aw2 => kernel_rfl!); (case Nw2 => k_asm); (case cw2 => rfl); (case mw2 => k_mem); (case dw2 => k_asm); k_whole)))
  k_with "ord" => ((with_reducible rename DifO _ => hO9); (first | refine' hO9 0 _ _ _ rfl ?hbw3 ?hcw3 | refine' hO9 1 _ _ _ rfl ?hbw3 ?hcw3 | refine' hO9 2 _ _ _ rfl ?hbw3 ?hcw3 | refine' hO9 3 _ _ _ rfl ?hbw3 ?hcw3 | refine' hO9 4 _ _ _ rfl ?hbw3 ?hcw3 | refine' hO9 5 _ _ _ rfl ?hbw3 ?hcw3); (case hbw3 => first | exact (rfl : (_ : List Addr)[0]? = _) | exact (rfl : (_ : List Addr)[1]? = _) | exact (rfl : (_ : List Addr)[2]? = _) | exact (rfl : (_ : List Addr)[3]? = _) | exact (rfl : (_ : List Addr)[4]? = _) | exact (rfl : (_ : List Addr)[5]? = _)); (case hcw3 => exact rfl))
  k_with "nst" => ((with_reducible show wpAny _ _ _ _ _ (Shared.mk _ _ _ _ _)); refine' nst ?kew4 ?_; (case kew4 => (dsimp only; exact rfl)))
  k_with "all" => (first | exact neNil | (refine' neC ?aw5 ?bw5; (case aw5 => k_ne); (case bw5 => k_all)))
  k_with "room" => (first | exact room_ (by assumption) (by exact rfl) | exact room0 (by assumption) (by exact rfl) | ((try simp only [depth_under_make, depth_under_kw, depth_in1, depth_deeper, depth_caller]); (try dsimp only [ktrTop]); omega))
  k_with "units" => (first | exact room_ (by assumption) (by exact rfl) | exact room0 (by assumption) (by exact rfl) | ((try simp only [units_in1, units_deeper, Around.mark_units, units_caller]); (try dsimp only [ktrTop]); omega))
  k_with "execs cons" => ((first | (with_reducible refine execs_T ?_; intro tk) | refine wpAny_execs_cons ?_); (try k_fold))
  k_with "getAttr ref" => (k_here; k_dflt (refine' oget ?k1w9 ?k2w9 ?k3w9 ?k4w9 ?k5w9 ?k6w9 ?k7w9 ?k8w9 ?k9w9 ?_; (case k1w9 => k_asm); (case k2w9 => k_asm); (case k3w9 => k_inst); (case k4w9 => k_is); (case k5w9 => k_is); (case k6w9 => k_is); (case k7w9 => k_is); (case k8w9 => k_get); (case k9w9 => k_handed); k_whole))
  k_with "storeName" => (k_here; k_dflt (refine' ostore ?kFw10 ?kNw10 ?_ ?kaw10 ?kbw10; (case kaw10 => rfl); (case kbw10 => rfl); (case kFw10 => k_asm); (case kNw10 => k_asm); k_whole; intro h' m9 F' N'; (try k_sweep)))
  k_with "eval Constant int" => (refine cint ?_)
  k_with "eval Constant bytes" => (refine cbytes ?_)
  k_with "binaryOp Mod int int" => (k_here; (with_reducible refine mod_pos ?kbw13 ?_); (case kbw13 => omega); intro t' tk')
  k_with "binaryOp FloorDiv int int" => (k_here; (with_reducible refine div_pos ?kbw14 ?kpw14 ?_); (case kbw14 => omega); (case kpw14 => omega); intro t' tk')
  k_with "binaryOp Mult int int" => (k_here; (with_reducible refine mul_small ?kbw15 ?_); (case kbw15 => omega); intro t' tk')
  k_with "subscriptTail Name Constant ref int" => (k_here; (with_reducible show wpAny _ _ (subscriptTail _ _ (Value.ref _) (Value.int _ _)) _ _ _); k_dflt (first | ((with_reducible show wpAny _ _ (subscriptTail _ _ (Value.ref _) (Value.int 0 _)) _ _ _); refine' item_0 ?Nw16 ?mw16 ?_ ?hsw16; (case Nw16 => k_asm); (case mw16 => k_mem); (case hsw16 => with_unfolding_all rfl); k_whole) | ((with_reducible show wpAny _ _ (subscriptTail _ _ (Value.ref _) (Value.int 1 _)) _ _ _); refine' item_1 ?Nw16 ?mw16 ?_ ?hsw16; (case Nw16 => k_asm); (case mw16 => k_mem); (case hsw16 => with_unfolding_all rfl); k_whole)))
  k_with "compareOp Eq int int" => (k_here; first | (with_reducible refine ceq_t ?chw17 ?_; (case chw17 => omega)) | (with_reducible refine ceq_f ?chw17 ?_; (case chw17 => omega)))
  k_with "compareOp NotEq int int" => (k_here; first | (with_reducible refine cne_t ?chw18 ?_; (case chw18 => omega)) | (with_reducible refine cne_f ?chw18 ?_; (case chw18 => omega)))
  k_with "compareOp Lt int int" => (k_here; first | (with_reducible refine clt_t ?chw19 ?_; (case chw19 => omega)) | (with_reducible refine clt_f ?chw19 ?_; (case chw19 => omega)))
  k_with "compareOp LtE int int" => (k_here; first | (with_reducible refine cle_t ?chw20 ?_; (case chw20 => omega)) | (with_reducible refine cle_f ?chw20 ?_; (case chw20 => omega)))
  k_with "compareOp Gt int int" => (k_here; first | (with_reducible refine cgt_t ?chw21 ?_; (case chw21 => omega)) | (with_reducible refine cgt_f ?chw21 ?_; (case chw21 => omega)))
  k_with "compareOp GtE int int" => (k_here; first | (with_reducible refine cge_t ?chw22 ?_; (case chw22 => omega)) | (with_reducible refine cge_f ?chw22 ?_; (case chw22 => omega)))
  k_with "call type:int" => (k_here; (with_reducible show wpAny _ _ (call (Value.type "int") [Value.bool _]) _ _ _); (first | (with_reducible refine int_bf ?_) | (with_reducible refine int_bt ?_) | (with_reducible refine int_bb (by assumption) ?_)); intro t' tk')
  k_with "call builtin:max" => (k_here; (with_reducible show wpAny _ _ (call (Value.builtin _) [Value.int _ _, Value.int _ _]) _ _ _); k_dflt (refine' max2 ?hhw24 ?k1w24 ?k2w24 ?k3w24 ?_; (case hhw24 => with_unfolding_all rfl); (case k1w24 => k_asm); (case k2w24 => k_asm); (case k3w24 => first | exact (Int.max_eq_left (by omega)).symm | exact (Int.max_eq_right (by omega)).symm | exact rfl); k_whole); intro t' h' tk' F' N'; (try k_sweep))
  k_with "call builtin:min" => (k_here; (with_reducible show wpAny _ _ (call (Value.builtin _) [Value.int _ _, Value.int _ _]) _ _ _); k_dflt (refine' min2 ?hhw25 ?k1w25 ?k2w25 ?k3w25 ?_; (case hhw25 => with_unfolding_all rfl); (case k1w25 => k_asm); (case k2w25 => k_asm); (case k3w25 => first | exact (Int.min_eq_left (by omega)).symm | exact (Int.min_eq_right (by omega)).symm | exact rfl); k_whole); intro t' h' tk' F' N'; (try k_sweep))
  k_with "call builtin:min" => (k_here; (with_reducible show wpAny _ _ (call (Value.builtin _) [Value.int _ _, Value.int _ _, Value.int _ _]) _ _ _); k_dflt (refine' min3 ?hhw26 ?k1w26 ?k2w26 ?k3w26 ?_; (case hhw26 => with_unfolding_all rfl); (case k1w26 => k_asm); (case k2w26 => k_asm); (case k3w26 => first | exact m3a (by omega) | exact m3b (by omega) | exact m3c (by omega) | exact rfl); k_whole); intro t' h' tk' F' N'; (try k_sweep))
  k_with "ne" => (refine neN ?_; (try dsimp only); first | (k_extra "ord") | omega)
  k_with "call builtin:len" => (k_here; (with_reducible show wpAny _ _ (call (Value.builtin "len") [Value.bytes (List.toArray _) _]) _ _ _); (refine blen ?kzw28 ?_); (case kzw28 => first | omega | decide); intro t' tk'; (try simp only [List.length_nil]))
  k_with "call type:bytes" => (k_here; (with_reducible show wpAny _ _ (call (Value.type "bytes") [Value.bytes _ _]) _ _ _); (refine bb_call ?_))
  k_with "binaryOp Add bytes bytes" => (k_here; (with_reducible show wpAny _ _ (binaryOp Operator.Add (Value.bytes _ _) (Value.bytes (List.toArray _) _)) _ _ _); (refine badd0 ?kzw30 ?_); (case kzw30 => omega); intro t' tk')
  k_with "subscriptTail Name Slice bytes ref" => (k_here; (with_reducible show wpAny _ _ (subscriptTail _ (Expr.Slice _ _ none _) (Value.bytes _ _) (Value.ref _)) _ _ _); (with_reducible rename Fr _ _ _ _ => F'); (with_reducible rename News _ _ _ _ => N'); (refine' bslice (s := ⟨_, _, _, _, _⟩) F' N' ?klw31 ?kuw31 ?kzw31 ?kew31 ?_ ?ksw31 ?ktw31; (case klw31 => constructor); (case kuw31 => constructor); (case ksw31 => with_unfolding_all rfl); (case ktw31 => intro _; with_unfolding_all rfl); (case kzw31 => first | with_reducible assumption | omega); (case kew31 => first | exact b_all (by omega) | exact b_to (by omega) | exact (b_from (by first | with_reducible assumption | omega)).trans (by assumption) | exact b_from (by first | with_reducible assumption | omega) | exact b_mid (by omega) (by omega) (by omega)); k_whole); intro t' h' tk' F' N')
  k_with "subscriptTail Attribute Slice bytes ref" => (k_here; (with_reducible show wpAny _ _ (subscriptTail _ (Expr.Slice _ _ none _) (Value.bytes _ _) (Value.ref _)) _ _ _); (with_reducible rename Fr _ _ _ _ => F'); (with_reducible rename News _ _ _ _ => N'); (refine' bslice (s := ⟨_, _, _, _, _⟩) F' N' ?klw32 ?kuw32 ?kzw32 ?kew32 ?_ ?ksw32 ?ktw32; (case klw32 => constructor); (case kuw32 => constructor); (case ksw32 => with_unfolding_all rfl); (case ktw32 => intro _; with_unfolding_all rfl); (case kzw32 => first | with_reducible assumption | omega); (case kew32 => first | exact b_all (by omega) | exact b_to (by omega) | exact (b_from (by first | with_reducible assumption | omega)).trans (by assumption) | exact b_from (by first | with_reducible assumption | omega) | exact b_mid (by omega) (by omega) (by omega)); k_whole); intro t' h' tk' F' N')
  k_with "call ref" => (k_here; (with_reducible show wpAny _ _ (call (Value.ref 135) [Value.int _ _, Value.int _ _, Value.int _ _]) _ _ _); k_dflt (refine' use_r c_distance ?kBw33 ?kFw33 ?kXw33 ?kNw33 ?kTw33 ?kkw33 ?krw33 ?kdw33 ?kuw33 ?_; (case kBw33 => k_asm); (case kFw33 => k_asm); (case kXw33 => k_asm); (case kNw33 => k_asm); (case kTw33 => k_asm); (case kkw33 => first | exact rfl | assumption); (case krw33 => exact subN); (case kdw33 => ktr_room); (case kuw33 => ktr_units); k_whole); intro t' h' tk' F' N'; (try dsimp only); (try k_sweep))
  k_with "call ref" => (k_here; (with_reducible show wpAny _ _ (call (Value.ref 128) [Value.int _ _, Value.int _ _, Value.int _ _]) _ _ _); k_dflt (refine' use_r c_plus ?kBw34 ?kFw34 ?kXw34 ?kNw34 ?kTw34 ?kkw34 ?krw34 ?kdw34 ?kuw34 ?_; (case kBw34 => k_asm); (case kFw34 => k_asm); (case kXw34 => k_asm); (case kNw34 => k_asm); (case kTw34 => k_asm); (case kkw34 => first | exact rfl | assumption); (case krw34 => exact subN); (case kdw34 => ktr_room); (case kuw34 => ktr_units); k_whole); intro t' h' tk' F' N'; (try dsimp only); (try k_sweep))
  k_with "call ref" => (k_here; (with_reducible show wpAny _ _ (call (Value.ref 149) [Value.int _ _, Value.int _ _, Value.int _ _]) _ _ _); k_dflt (refine' use_r (c_stay ?h1w35) ?kBw35 ?kFw35 ?kXw35 ?kNw35 ?kTw35 ?kkw35 ?krw35 ?kdw35 ?kuw35 ?_; (case kBw35 => k_asm); (case kFw35 => k_asm); (case kXw35 => k_asm); (case kNw35 => k_asm); (case kTw35 => k_asm); (case kkw35 => first | exact rfl | assumption); (case krw35 => exact subN); (case kdw35 => ktr_room); (case kuw35 => ktr_units); (case h1w35 => omega); k_whole); intro t' h' tk' F' N'; (try dsimp only); (try k_sweep))
  k_with "call ref" => (k_here; (with_reducible show wpAny _ _ (call (Value.ref 149) [Value.int _ _, Value.int _ _, Value.int _ _]) _ _ _); k_dflt (refine' use_r (c_later ?h1w36) ?kBw36 ?kFw36 ?kXw36 ?kNw36 ?kTw36 ?kkw36 ?krw36 ?kdw36 ?kuw36 ?_; (case kBw36 => k_asm); (case kFw36 => k_asm); (case kXw36 => k_asm); (case kNw36 => k_asm); (case kTw36 => k_asm); (case kkw36 => first | exact rfl | assumption); (case krw36 => exact subN); (case kdw36 => ktr_room); (case kuw36 => ktr_units); (case h1w36 => omega); k_whole); intro t' h' tk' F' N'; (try dsimp only); (try k_sweep))
  trivial
theorem c_flight {w : World} {x xd p q : Addr}{K1 : STk} {b3 b4 b5 : Tok}{is ua nx gr : Int} {sy fa fs : Bool}  :
    Ctr w 241 [.ref x] [(xd, dictOf (sndE w K1 p q is ua nx gr sy fa fs b3 b4 b5) 11), (x, instObj 378 xd)] 4 60 (fun v n' => ∃ t : Tok, v = (fun t => .int ((nx - ua) % 256) t) t ∧ n' = [(xd, dictOf (sndE w K1 p q is ua nx gr sy fa fs b3 b4 b5) 11), (x, instObj 378 xd)]) := by
  intro loose mean mg mb dp un gd cn cs ad ccd cl outer base L s Rr H0 hH hd1 hu hret
  obtain ⟨B, X, T⟩ := H0
  try have hO9 := difO_of ho
  try have hO9 := difO4 ho
  try have hO9 := difO2 ho
  generalize hg : hideAll s.heap (List.map Prod.fst _) = g at *
  replace hg := hg.symm
  revert X; k_fill; intro X
  k_dflt (
    refine' code_ctr ?k1 ?kg ?k3 ?k5 ?kH ?k6 ?k7 ?k8 ?k9 ?kB ?_ ?c2 ?c3 ?c4 ?c5
    (case kg => exact hg)
    (case k1 => assumption)
    (case k3 => assumption)
    (case k5 => assumption)
    (case kH => assumption)
    (case k6 => k_is)
    (case k7 => k_is)
    (case k8 => ktr_room)
    (case k9 => first | exact BindsTo.of_eq rfl | exact binds_K (Frag.In.keeps X (by rw [hg]; exact fun b o e => of_hideAll _ e)) rfl (by k_is) rfl rfl rfl)
    (case c5 => decide)
    (case kB => exact locs rfl)
    (case c2 => exact rfl)
    (case c3 => exact rfl)
    (case c4 => exact rfl)
    k_whole
    intro L' h' F' N'
    (try dsimp only)
    (refine A_let ?_; intro A9; have dA9 : A9.depth = dp + 1 := rfl; have uA9 : A9.units = un + 3 := rfl)
    (try k_fold)
    (refine fr_let F' ?_; clear F'; intro m9 F'))
  (repeat' (first | (k_extra "nst") | (k_unfold; (try dsimp only)) | (k_end; kc_close) | walk1 | (dsimp only; walk1) | (leave1; walk_say "STEP leave1"; (try dsimp only)) | fail "no step"))
  all_goals (first
    | exact end_u (s := s) hret _ (by first | rfl | rfl) (by assumption) (by assumption) (by first | exact List.forall_mem_nil _ | kcj_all)
    | exact end_u (s := s) hret (0 : Nat) (by first | rfl | rfl) (by assumption) (by assumption) (by first | exact List.forall_mem_nil _ | kcj_all)
    | (exfalso; (rename ((_ : Bool) = _) => hx); (simp at hx); omega)
    | (exfalso; (rename ((_ : Bool) = _) => hx); (simp at hx); done))
theorem ln2_51a295 : True := by
  k_with "call ref" => (k_here; (with_reducible show wpAny _ _ (call (Prod.fst (Value.ref 241, [Value.ref _])) (Prod.snd (Value.ref 241, [Value.ref _]) ++ [])) _ _ _); k_dflt (refine' use_r c_flight ?kBw37 ?kFw37 ?kXw37 ?kNw37 ?kTw37 ?kkw37 ?krw37 ?kdw37 ?kuw37 ?_; (case kBw37 => k_asm); (case kFw37 => k_asm); (case kXw37 => k_asm); (case kNw37 => k_asm); (case kTw37 => k_asm); (case kkw37 => first | exact rfl | assumption); (case krw37 => (refine' (subC ?m1w37 (subC ?m2w37 subN)); (case m1w37 => k_mem); (case m2w37 => k_mem))); (case kdw37 => ktr_room); (case kuw37 => ktr_units); k_whole); intro t' h' tk' F' N'; (try dsimp only); (try k_sweep))
  trivial
theorem c_ever {w : World} {x xd p q : Addr}{K1 : STk} {b3 b4 b5 : Tok}{is ua nx gr : Int} {sy fa fs : Bool}  :
    Ctr w 326 [.ref x] [(xd, dictOf (sndE w K1 p q is ua nx gr sy fa fs b3 b4 b5) 11), (x, instObj 378 xd)] 4 60 (fun v n' => ∃ t : Tok, v = (fun t => .int ((gr - ua) % 256) t) t ∧ n' = [(xd, dictOf (sndE w K1 p q is ua nx gr sy fa fs b3 b4 b5) 11), (x, instObj 378 xd)]) := by
  intro loose mean mg mb dp un gd cn cs ad ccd cl outer base L s Rr H0 hH hd1 hu hret
  obtain ⟨B, X, T⟩ := H0
  try have hO9 := difO_of ho
  try have hO9 := difO4 ho
  try have hO9 := difO2 ho
  generalize hg : hideAll s.heap (List.map Prod.fst _) = g at *
  replace hg := hg.symm
  revert X; k_fill; intro X
  k_dflt (
    refine' code_ctr ?k1 ?kg ?k3 ?k5 ?kH ?k6 ?k7 ?k8 ?k9 ?kB ?_ ?c2 ?c3 ?c4 ?c5
    (case kg => exact hg)
    (case k1 => assumption)
    (case k3 => assumption)
    (case k5 => assumption)
    (case kH => assumption)
    (case k6 => k_is)
    (case k7 => k_is)
    (case k8 => ktr_room)
    (case k9 => first | exact BindsTo.of_eq rfl | exact binds_K (Frag.In.keeps X (by rw [hg]; exact fun b o e => of_hideAll _ e)) rfl (by k_is) rfl rfl rfl)
    (case c5 => decide)
    (case kB => exact locs rfl)
    (case c2 => exact rfl)
    (case c3 => exact rfl)
    (case c4 => exact rfl)
    k_whole
    intro L' h' F' N'
    (try dsimp only)
    (refine A_let ?_; intro A9; have dA9 : A9.depth = dp + 1 := rfl; have uA9 : A9.units = un + 3 := rfl)
    (try k_fold)
    (refine fr_let F' ?_; clear F'; intro m9 F'))
  (repeat' (first | (k_extra "nst") | (k_unfold; (try dsimp only)) | (k_end; kc_close) | walk1 | (dsimp only; walk1) | (leave1; walk_say "STEP leave1"; (try dsimp only)) | fail "no step"))
  all_goals (first
    | exact end_u (s := s) hret _ (by first | rfl | rfl) (by assumption) (by assumption) (by first | exact List.forall_mem_nil _ | kcj_all)
    | exact end_u (s := s) hret (0 : Nat) (by first | rfl | rfl) (by assumption) (by assumption) (by first | exact List.forall_mem_nil _ | kcj_all)
    | (exfalso; (rename ((_ : Bool) = _) => hx); (simp at hx); omega)
    | (exfalso; (rename ((_ : Bool) = _) => hx); (simp at hx); done))
theorem c_data {w : World} {x xd p q qd : Addr}{K1 : STk} {b3 b4 b5 : Tok}{K3 : QTk} {g1 : Tok}{is ua nx gr rm ds : Int} {fa fs : Bool} {xs : List UInt8} (hn : xs.length ≤ 12) (h1 : ds = min (xs.length : Int) (max 0 ((nx - ua) % 256))) :
    Ctr w 255 [.ref x] [(xd, dictOf (sndE w K1 p q is ua nx gr false fa fs b3 b4 b5) 11), (x, instObj 378 xd), (qd, dictOf (queE w K3 rm (xs.toArray) g1) 2), (q, instObj 117 qd)] 6 60 (fun v n' => ∃ t : Tok, v = (fun t => .int ds t) t ∧ n' = [(xd, dictOf (sndE w K1 p q is ua nx gr false fa fs b3 b4 b5) 11), (x, instObj 378 xd), (qd, dictOf (queE w K3 rm (xs.toArray) g1) 2), (q, instObj 117 qd)]) := by
  intro loose mean mg mb dp un gd cn cs ad ccd cl outer base L s Rr H0 hH hd1 hu hret
  obtain ⟨B, X, T⟩ := H0
  try have hO9 := difO_of ho
  try have hO9 := difO4 ho
  try have hO9 := difO2 ho
  generalize hg : hideAll s.heap (List.map Prod.fst _) = g at *
  replace hg := hg.symm
  revert X; k_fill; intro X
  k_dflt (
    refine' code_ctr ?k1 ?kg ?k3 ?k5 ?kH ?k6 ?k7 ?k8 ?k9 ?kB ?_ ?c2 ?c3 ?c4 ?c5
    (case kg => exact hg)
    (case k1 => assumption)
    (case k3 => assumption)
    (case k5 => assumption)
    (case kH => assumption)
    (case k6 => k_is)
    (case k7 => k_is)
    (case k8 => ktr_room)
    (case k9 => first | exact BindsTo.of_eq rfl | exact binds_K (Frag.In.keeps X (by rw [hg]; exact fun b o e => of_hideAll _ e)) rfl (by k_is) rfl rfl rfl)
    (case c5 => decide)
    (case kB => exact locs rfl)
    (case c2 => exact rfl)
    (case c3 => exact rfl)
    (case c4 => exact rfl)
    k_whole
    intro L' h' F' N'
    (try dsimp only)
    (refine A_let ?_; intro A9; have dA9 : A9.depth = dp + 1 := rfl; have uA9 : A9.units = un + 3 := rfl)
    (try k_fold)
    (refine fr_let F' ?_; clear F'; intro m9 F'))
  (repeat' (first | (k_extra "nst") | (k_unfold; (try dsimp only)) | (k_end; kc_close) | walk1 | (dsimp only; walk1) | (leave1; walk_say "STEP leave1"; (try dsimp only)) | fail "no step"))
  all_goals (first
    | exact end_u (s := s) hret _ (by first | rfl | exact int_eq (by first | exact data_ok h1 | omega)) (by assumption) (by assumption) (by first | exact List.forall_mem_nil _ | kcj_all)
    | exact end_u (s := s) hret (0 : Nat) (by first | rfl | exact int_eq (by first | exact data_ok h1 | omega)) (by assumption) (by assumption) (by first | exact List.forall_mem_nil _ | kcj_all)
    | (exfalso; (rename ((_ : Bool) = _) => hx); (simp at hx); omega)
    | (exfalso; (rename ((_ : Bool) = _) => hx); (simp at hx); done))
theorem ln3_51a295 : True := by
  k_with "call ref" => (k_here; (with_reducible show wpAny _ _ (call (Prod.fst (Value.ref 255, [Value.ref _])) (Prod.snd (Value.ref 255, [Value.ref _]) ++ [])) _ _ _); k_dflt (refine' use_r (c_data ?h2w38 ?h1w38) ?kBw38 ?kFw38 ?kXw38 ?kNw38 ?kTw38 ?kkw38 ?krw38 ?kdw38 ?kuw38 ?_; (case kBw38 => k_asm); (case kFw38 => k_asm); (case kXw38 => k_asm); (case kNw38 => k_asm); (case kTw38 => k_asm); (case kkw38 => first | exact rfl | assumption); (case krw38 => (refine' (subC ?m1w38 (subC ?m2w38 (subC ?m3w38 (subC ?m4w38 subN)))); (case m1w38 => k_mem); (case m2w38 => k_mem); (case m3w38 => k_mem); (case m4w38 => k_mem))); (case kdw38 => ktr_room); (case kuw38 => ktr_units); (case h2w38 => omega); (case h1w38 => first | assumption | exact rfl); k_whole); intro t' h' tk' F' N'; (try dsimp only); (try k_sweep))
  trivial
theorem c_unsent {w : World} {x xd p q qd : Addr}{K1 : STk} {b3 b4 b5 : Tok}{K3 : QTk} {g1 : Tok}{is ua nx gr rm us : Int} {fa fs : Bool} {xs : List UInt8} (hn : xs.length ≤ 12) (h1 : us = (xs.length : Int) - min (xs.length : Int) (max 0 ((nx - ua) % 256))) :
    Ctr w 262 [.ref x] [(xd, dictOf (sndE w K1 p q is ua nx gr false fa fs b3 b4 b5) 11), (x, instObj 378 xd), (qd, dictOf (queE w K3 rm (xs.toArray) g1) 2), (q, instObj 117 qd)] 8 80 (fun v n' => ∃ t : Tok, v = (fun t => .int us t) t ∧ n' = [(xd, dictOf (sndE w K1 p q is ua nx gr false fa fs b3 b4 b5) 11), (x, instObj 378 xd), (qd, dictOf (queE w K3 rm (xs.toArray) g1) 2), (q, instObj 117 qd)]) := by
  intro loose mean mg mb dp un gd cn cs ad ccd cl outer base L s Rr H0 hH hd1 hu hret
  obtain ⟨B, X, T⟩ := H0
  try have hO9 := difO_of ho
  try have hO9 := difO4 ho
  try have hO9 := difO2 ho
  generalize hg : hideAll s.heap (List.map Prod.fst _) = g at *
  replace hg := hg.symm
  revert X; k_fill; intro X
  k_dflt (
    refine' code_ctr ?k1 ?kg ?k3 ?k5 ?kH ?k6 ?k7 ?k8 ?k9 ?kB ?_ ?c2 ?c3 ?c4 ?c5
    (case kg => exact hg)
    (case k1 => assumption)
    (case k3 => assumption)
    (case k5 => assumption)
    (case kH => assumption)
    (case k6 => k_is)
    (case k7 => k_is)
    (case k8 => ktr_room)
    (case k9 => first | exact BindsTo.of_eq rfl | exact binds_K (Frag.In.keeps X (by rw [hg]; exact fun b o e => of_hideAll _ e)) rfl (by k_is) rfl rfl rfl)
    (case c5 => decide)
    (case kB => exact locs rfl)
    (case c2 => exact rfl)
    (case c3 => exact rfl)
    (case c4 => exact rfl)
    k_whole
    intro L' h' F' N'
    (try dsimp only)
    (refine A_let ?_; intro A9; have dA9 : A9.depth = dp + 1 := rfl; have uA9 : A9.units = un + 3 := rfl)
    (try k_fold)
    (refine fr_let F' ?_; clear F'; intro m9 F'))
  (repeat' (first | (k_extra "nst") | (k_unfold; (try dsimp only)) | (k_end; kc_close) | walk1 | (dsimp only; walk1) | (leave1; walk_say "STEP leave1"; (try dsimp only)) | fail "no step"))
  all_goals (first
    | exact end_u (s := s) hret _ (by first | rfl | exact int_eq (by omega)) (by assumption) (by assumption) (by first | exact List.forall_mem_nil _ | kcj_all)
    | exact end_u (s := s) hret (0 : Nat) (by first | rfl | exact int_eq (by omega)) (by assumption) (by assumption) (by first | exact List.forall_mem_nil _ | kcj_all)
    | (exfalso; (rename ((_ : Bool) = _) => hx); (simp at hx); omega)
    | (exfalso; (rename ((_ : Bool) = _) => hx); (simp at hx); done))
theorem c_usable {w : World} {x xd p pd q : Addr}{K1 : STk} {b3 b4 b5 : Tok}{K2 : PTk} {d1 d2 d3 d4 : Tok}{is ua nx gr sz mo ts ta cw us : Int} {fa fs : Bool} {tc : Tok} (h1 : us = max 0 (min sz cw - (nx - ua) % 256)) :
    Ctr w 248 [.ref x, .int cw tc] [(xd, dictOf (sndE w K1 p q is ua nx gr false fa fs b3 b4 b5) 11), (x, instObj 378 xd), (pd, dictOf (peerE w K2 sz d1 mo d2 (.int ts d3) (.int ta d4)) 5), (p, instObj 187 pd)] 6 80 (fun v n' => ∃ t : Tok, v = (fun t => .int us t) t ∧ n' = [(xd, dictOf (sndE w K1 p q is ua nx gr false fa fs b3 b4 b5) 11), (x, instObj 378 xd), (pd, dictOf (peerE w K2 sz d1 mo d2 (.int ts d3) (.int ta d4)) 5), (p, instObj 187 pd)]) := by
  intro loose mean mg mb dp un gd cn cs ad ccd cl outer base L s Rr H0 hH hd1 hu hret
  obtain ⟨B, X, T⟩ := H0
  try have hO9 := difO_of ho
  try have hO9 := difO4 ho
  try have hO9 := difO2 ho
  generalize hg : hideAll s.heap (List.map Prod.fst _) = g at *
  replace hg := hg.symm
  revert X; k_fill; intro X
  k_dflt (
    refine' code_ctr ?k1 ?kg ?k3 ?k5 ?kH ?k6 ?k7 ?k8 ?k9 ?kB ?_ ?c2 ?c3 ?c4 ?c5
    (case kg => exact hg)
    (case k1 => assumption)
    (case k3 => assumption)
    (case k5 => assumption)
    (case kH => assumption)
    (case k6 => k_is)
    (case k7 => k_is)
    (case k8 => ktr_room)
    (case k9 => first | exact BindsTo.of_eq rfl | exact binds_K (Frag.In.keeps X (by rw [hg]; exact fun b o e => of_hideAll _ e)) rfl (by k_is) rfl rfl rfl)
    (case c5 => decide)
    (case kB => exact locs rfl)
    (case c2 => exact rfl)
    (case c3 => exact rfl)
    (case c4 => exact rfl)
    k_whole
    intro L' h' F' N'
    (try dsimp only)
    (refine A_let ?_; intro A9; have dA9 : A9.depth = dp + 1 := rfl; have uA9 : A9.units = un + 3 := rfl)
    (try k_fold)
    (refine fr_let F' ?_; clear F'; intro m9 F'))
  (repeat' (first | (k_extra "nst") | (k_unfold; (try dsimp only)) | (k_end; kc_close) | walk1 | (dsimp only; walk1) | (leave1; walk_say "STEP leave1"; (try dsimp only)) | fail "no step"))
  all_goals (first
    | exact end_u (s := s) hret _ (by first | rfl | exact int_eq (by omega)) (by assumption) (by assumption) (by first | exact List.forall_mem_nil _ | kcj_all)
    | exact end_u (s := s) hret (0 : Nat) (by first | rfl | exact int_eq (by omega)) (by assumption) (by assumption) (by first | exact List.forall_mem_nil _ | kcj_all)
    | (exfalso; (rename ((_ : Bool) = _) => hx); (simp at hx); omega)
    | (exfalso; (rename ((_ : Bool) = _) => hx); (simp at hx); done))
end
end Mine
-- part C8
namespace Mine
section
theorem ln1_0c6e3c : True := by
  k_with_none
  k_with "callWith ref" => (k_here; (with_reducible rename Fr _ _ _ _ => kF); (with_reducible rename Frag.In _ _ => kX); first | ((with_reducible show wpAny _ _ (callWith _ _ _ (backTo _ (starEach [] _)) []) _ _ _); k_dflt (refine' callWith_K0 (Frag.In.keeps kX (Fr.keep kF)) ?k2w1 ?_; (case k2w1 => k_is); k_whole)) | ((with_reducible show wpAny _ _ (callWith _ _ _ (backTo _ (starEach (_ :: _) _)) []) _ _ _); k_dflt (refine' callWith_K kX ?k2w1 ?_; (case k2w1 => k_is); k_whole)))
  k_with "eval Name" => (k_here; (fail_if_success (with_reducible show wpAny _ _ (eval (Expr.Name _ _) (compEnvC _ _ _ _)) _ _ _)); k_dflt (first | (refine' nameX_L ?Fw2 ?vw2 ?_ ?aw2 ?bw2; (case bw2 => kernel_rfl!); (case aw2 => kernel_rfl!); (case Fw2 => k_asm); (case vw2 => rfl); k_whole) | (refine' nameX_K ?Fw2 ?Xw2 ?Tw2 ?ew2 ?_ ?aw2 ?bw2; (case bw2 => kernel_rfl!); (case aw2 => kernel_rfl!); (case Fw2 => k_asm); (case Xw2 => k_asm); (case Tw2 => k_asm); (case ew2 => k_is); k_whole) | (refine' nameX_B ?Fw2 ?Xw2 ?Tw2 ?ew2 ?vw2 ?nw2 ?_ ?aw2 ?bw2; (case bw2 => kernel_rfl!); (case aw2 => kernel_rfl!); (case Fw2 => k_asm); (case Xw2 => k_asm); (case Tw2 => k_asm); (case ew2 => k_is); (case vw2 => boot_fast); (case nw2 => decide); k_whole) | (refine' nameX_C ?Nw2 ?cw2 ?mw2 ?dw2 ?_ ?aw2 ?bw2; (case bw2 => kernel_rfl!); (case aw2 => kernel_rfl!); (case Nw2 => k_asm); (case cw2 => rfl); (case mw2 => k_mem); (case dw2 => k_asm); k_whole) | (refine' nameX_F ?Nw2 ?cw2 ?mw2 ?dw2 ?_ ?aw2 ?bw2; (case bw2 => kernel_rfl!); (case aw2 => kernel_rfl!); (case Nw2 => k_asm); (case cw2 => rfl); (case mw2 => k_mem); (case dw2 => k_asm); k_whole)))
  k_with "ord" => ((with_reducible rename DifO _ => hO9); (first | refine' hO9 0 _ _ _ rfl ?hbw3 ?hcw3 | refine' hO9 1 _ _ _ rfl ?hbw3 ?hcw3 | refine' hO9 2 _ _ _ rfl ?hbw3 ?hcw3 | refine' hO9 3 _ _ _ rfl ?hbw3 ?hcw3 | refine' hO9 4 _ _ _ rfl ?hbw3 ?hcw3 | refine' hO9 5 _ _ _ rfl ?hbw3 ?hcw3); (case hbw3 => first | exact (rfl : (_ : List Addr)[0]? = _) | exact (rfl : (_ : List Addr)[1]? = _) | exact (rfl : (_ : List Addr)[2]? = _) | exact (rfl : (_ : List Addr)[3]? = _) | exact (rfl : (_ : List Addr)[4]? = _) | exact (rfl : (_ : List Addr)[5]? = _)); (case hcw3 => exact rfl))
  k_with "nst" => ((with_reducible show wpAny _ _ _ _ _ (Shared.mk _ _ _ _ _)); refine' nst ?kew4 ?_; (case kew4 => (dsimp only; exact rfl)))
  k_with "all" => (first | exact neNil | (refine' neC ?aw5 ?bw5; (case aw5 => k_ne); (case bw5 => k_all)))
  k_with "room" => (first | exact room_ (by assumption) (by exact rfl) | exact room0 (by assumption) (by exact rfl) | ((try simp only [depth_under_make, depth_under_kw, depth_in1, depth_deeper, depth_caller]); (try dsimp only [ktrTop]); omega))
  k_with "units" => (first | exact room_ (by assumption) (by exact rfl) | exact room0 (by assumption) (by exact rfl) | ((try simp only [units_in1, units_deeper, Around.mark_units, units_caller]); (try dsimp only [ktrTop]); omega))
  k_with "execs cons" => ((first | (with_reducible refine execs_T ?_; intro tk) | refine wpAny_execs_cons ?_); (try k_fold))
  k_with "getAttr ref" => (k_here; k_dflt (refine' oget ?k1w9 ?k2w9 ?k3w9 ?k4w9 ?k5w9 ?k6w9 ?k7w9 ?k8w9 ?k9w9 ?_; (case k1w9 => k_asm); (case k2w9 => k_asm); (case k3w9 => k_inst); (case k4w9 => k_is); (case k5w9 => k_is); (case k6w9 => k_is); (case k7w9 => k_is); (case k8w9 => k_get); (case k9w9 => k_handed); k_whole))
  k_with "storeName" => (k_here; k_dflt (refine' ostore ?kFw10 ?kNw10 ?_ ?kaw10 ?kbw10; (case kaw10 => rfl); (case kbw10 => rfl); (case kFw10 => k_asm); (case kNw10 => k_asm); k_whole; intro h' m9 F' N'; (try k_sweep)))
  k_with "eval Constant int" => (refine cint ?_)
  k_with "eval Constant bytes" => (refine cbytes ?_)
  k_with "binaryOp Mod int int" => (k_here; (with_reducible refine mod_pos ?kbw13 ?_); (case kbw13 => omega); intro t' tk')
  k_with "binaryOp FloorDiv int int" => (k_here; (with_reducible refine div_pos ?kbw14 ?kpw14 ?_); (case kbw14 => omega); (case kpw14 => omega); intro t' tk')
  k_with "binaryOp Mult int int" => (k_here; (with_reducible refine mul_small ?kbw15 ?_); (case kbw15 => omega); intro t' tk')
  k_with "subscriptTail Name Constant ref int" => (k_here; (with_reducible show wpAny _ _ (subscriptTail _ _ (Value.ref _) (Value.int _ _)) _ _ _); k_dflt (first | ((with_reducible show wpAny _ _ (subscriptTail _ _ (Value.ref _) (Value.int 0 _)) _ _ _); refine' item_0 ?Nw16 ?mw16 ?_ ?hsw16; (case Nw16 => k_asm); (case mw16 => k_mem); (case hsw16 => with_unfolding_all rfl); k_whole) | ((with_reducible show wpAny _ _ (subscriptTail _ _ (Value.ref _) (Value.int 1 _)) _ _ _); refine' item_1 ?Nw16 ?mw16 ?_ ?hsw16; (case Nw16 => k_asm); (case mw16 => k_mem); (case hsw16 => with_unfolding_all rfl); k_whole)))
  k_with "compareOp Eq int int" => (k_here; first | (with_reducible refine ceq_t ?chw17 ?_; (case chw17 => omega)) | (with_reducible refine ceq_f ?chw17 ?_; (case chw17 => omega)))
  k_with "compareOp NotEq int int" => (k_here; first | (with_reducible refine cne_t ?chw18 ?_; (case chw18 => omega)) | (with_reducible refine cne_f ?chw18 ?_; (case chw18 => omega)))
  k_with "compareOp Lt int int" => (k_here; first | (with_reducible refine clt_t ?chw19 ?_; (case chw19 => omega)) | (with_reducible refine clt_f ?chw19 ?_; (case chw19 => omega)))
  k_with "compareOp LtE int int" => (k_here; first | (with_reducible refine cle_t ?chw20 ?_; (case chw20 => omega)) | (with_reducible refine cle_f ?chw20 ?_; (case chw20 => omega)))
  k_with "compareOp Gt int int" => (k_here; first | (with_reducible refine cgt_t ?chw21 ?_; (case chw21 => omega)) | (with_reducible refine cgt_f ?chw21 ?_; (case chw21 => omega)))
  k_with "compareOp GtE int int" => (k_here; first | (with_reducible refine cge_t ?chw22 ?_; (case chw22 => omega)) | (with_reducible refine cge_f ?chw22 ?_; (case chw22 => omega)))
  k_with "call type:int" => (k_here; (with_reducible show wpAny _ _ (call (Value.type "int") [Value.bool _]) _ _ _); (first | (with_reducible refine int_bf ?_) | (with_reducible refine int_bt ?_) | (with_reducible refine int_bb (by assumption) ?_)); intro t' tk')
  k_with "call builtin:max" => (k_here; (with_reducible show wpAny _ _ (call (Value.builtin _) [Value.int _ _, Value.int _ _]) _ _ _); k_dflt (refine' max2 ?hhw24 ?k1w24 ?k2w24 ?k3w24 ?_; (case hhw24 => with_unfolding_all rfl); (case k1w24 => k_asm); (case k2w24 => k_asm); (case k3w24 => first | exact (Int.max_eq_left (by omega)).symm | exact (Int.max_eq_right (by omega)).symm | exact rfl); k_whole); intro t' h' tk' F' N'; (try k_sweep))
  k_with "call builtin:min" => (k_here; (with_reducible show wpAny _ _ (call (Value.builtin _) [Value.int _ _, Value.int _ _]) _ _ _); k_dflt (refine' min2 ?hhw25 ?k1w25 ?k2w25 ?k3w25 ?_; (case hhw25 => with_unfolding_all rfl); (case k1w25 => k_asm); (case k2w25 => k_asm); (case k3w25 => first | exact (Int.min_eq_left (by omega)).symm | exact (Int.min_eq_right (by omega)).symm | exact rfl); k_whole); intro t' h' tk' F' N'; (try k_sweep))
  k_with "call builtin:min" => (k_here; (with_reducible show wpAny _ _ (call (Value.builtin _) [Value.int _ _, Value.int _ _, Value.int _ _]) _ _ _); k_dflt (refine' min3 ?hhw26 ?k1w26 ?k2w26 ?k3w26 ?_; (case hhw26 => with_unfolding_all rfl); (case k1w26 => k_asm); (case k2w26 => k_asm); (case k3w26 => first | exact m3a (by omega) | exact m3b (by omega) | exact m3c (by omega) | exact rfl); k_whole); intro t' h' tk' F' N'; (try k_sweep))
  trivial
theorem ln2_0c6e3c : True := by
  k_with "klt" => (skip)
  k_with "ne" => (refine neN ?_; (try dsimp only); first | exact Dif.l (by with_reducible assumption) | exact Dif.r (by with_reducible assumption) | (k_extra "ord") | omega)
  k_with "call builtin:len" => (k_here; (with_reducible show wpAny _ _ (call (Value.builtin "len") [Value.bytes (List.toArray _) _]) _ _ _); (refine blen ?kzw29 ?_); (case kzw29 => first | omega | decide); intro t' tk'; (try simp only [List.length_nil]))
  k_with "call type:bytes" => (k_here; (with_reducible show wpAny _ _ (call (Value.type "bytes") [Value.bytes _ _]) _ _ _); (refine bb_call ?_))
  k_with "binaryOp Add bytes bytes" => (k_here; (with_reducible show wpAny _ _ (binaryOp Operator.Add (Value.bytes _ _) (Value.bytes (List.toArray _) _)) _ _ _); (refine badd0 ?kzw31 ?_); (case kzw31 => omega); intro t' tk')
  k_with "subscriptTail Name Slice bytes ref" => (k_here; (with_reducible show wpAny _ _ (subscriptTail _ (Expr.Slice _ _ none _) (Value.bytes _ _) (Value.ref _)) _ _ _); (with_reducible rename Fr _ _ _ _ => F'); (with_reducible rename News _ _ _ _ => N'); (refine' bslice (s := ⟨_, _, _, _, _⟩) F' N' ?klw32 ?kuw32 ?kzw32 ?kew32 ?_ ?ksw32 ?ktw32; (case klw32 => constructor); (case kuw32 => constructor); (case ksw32 => with_unfolding_all rfl); (case ktw32 => intro _; with_unfolding_all rfl); (case kzw32 => first | with_reducible assumption | omega); (case kew32 => first | exact b_all (by omega) | exact b_to (by omega) | exact (b_from (by first | with_reducible assumption | omega)).trans (by assumption) | exact b_from (by first | with_reducible assumption | omega) | exact b_mid (by omega) (by omega) (by omega)); k_whole); intro t' h' tk' F' N')
  k_with "subscriptTail Attribute Slice bytes ref" => (k_here; (with_reducible show wpAny _ _ (subscriptTail _ (Expr.Slice _ _ none _) (Value.bytes _ _) (Value.ref _)) _ _ _); (with_reducible rename Fr _ _ _ _ => F'); (with_reducible rename News _ _ _ _ => N'); (refine' bslice (s := ⟨_, _, _, _, _⟩) F' N' ?klw33 ?kuw33 ?kzw33 ?kew33 ?_ ?ksw33 ?ktw33; (case klw33 => constructor); (case kuw33 => constructor); (case ksw33 => with_unfolding_all rfl); (case ktw33 => intro _; with_unfolding_all rfl); (case kzw33 => first | with_reducible assumption | omega); (case kew33 => first | exact b_all (by omega) | exact b_to (by omega) | exact (b_from (by first | with_reducible assumption | omega)).trans (by assumption) | exact b_from (by first | with_reducible assumption | omega) | exact b_mid (by omega) (by omega) (by omega)); k_whole); intro t' h' tk' F' N')
  k_with "call ref" => (k_here; (with_reducible show wpAny _ _ (call (Value.ref 128) [Value.int _ _, Value.int _ _, Value.int _ _]) _ _ _); k_dflt (refine' use_r c_plus ?kBw34 ?kFw34 ?kXw34 ?kNw34 ?kTw34 ?kkw34 ?krw34 ?kdw34 ?kuw34 ?_; (case kBw34 => k_asm); (case kFw34 => k_asm); (case kXw34 => k_asm); (case kNw34 => k_asm); (case kTw34 => k_asm); (case kkw34 => first | exact rfl | assumption); (case krw34 => exact subN); (case kdw34 => ktr_room); (case kuw34 => ktr_units); k_whole); intro t' h' tk' F' N'; (try dsimp only); (try k_sweep))
  k_with "call ref" => (k_here; (with_reducible show wpAny _ _ (call (Value.ref 149) [Value.int _ _, Value.int _ _, Value.int _ _]) _ _ _); k_dflt (refine' use_r (c_later ?h1w35) ?kBw35 ?kFw35 ?kXw35 ?kNw35 ?kTw35 ?kkw35 ?krw35 ?kdw35 ?kuw35 ?_; (case kBw35 => k_asm); (case kFw35 => k_asm); (case kXw35 => k_asm); (case kNw35 => k_asm); (case kTw35 => k_asm); (case kkw35 => first | exact rfl | assumption); (case krw35 => exact subN); (case kdw35 => ktr_room); (case kuw35 => ktr_units); (case h1w35 => omega); k_whole); intro t' h' tk' F' N'; (try dsimp only); (try k_sweep))
  trivial
theorem c_go {w : World} {x xd p q : Addr}{K1 : STk} {b3 b4 b5 : Tok}{is ua nx many nn : Int} {sy fa fs : Bool} {tm : Tok} (ho : LtH xd x) (h1 : 0 < many ∧ many < 100) (hn : nn = (nx + many) % 256) (h0 : 0 ≤ nx ∧ nx < 256) :
    Ctr w 290 [.ref x, .int many tm] [(xd, dictOf (sndE w K1 p q is ua nx nx sy fa fs b3 b4 b5) 11), (x, instObj 378 xd)] 4 60 (fun v n' => ∃ t : Tok, v = (fun t => .none) t ∧ n' = [(xd, dictOf (sndE w K1 p q is ua nn nn sy fa fs b3 t t) 11), (x, instObj 378 xd)]) := by
  intro loose mean mg mb dp un gd cn cs ad ccd cl outer base L s Rr H0 hH hd1 hu hret
  obtain ⟨B, X, T⟩ := H0
  try have hO9 := difO_of ho
  try have hO9 := difO4 ho
  try have hO9 := difO2 ho
  generalize hg : hideAll s.heap (List.map Prod.fst _) = g at *
  replace hg := hg.symm
  revert X; k_fill; intro X
  k_dflt (
    refine' code_ctr ?k1 ?kg ?k3 ?k5 ?kH ?k6 ?k7 ?k8 ?k9 ?kB ?_ ?c2 ?c3 ?c4 ?c5
    (case kg => exact hg)
    (case k1 => assumption)
    (case k3 => assumption)
    (case k5 => assumption)
    (case kH => assumption)
    (case k6 => k_is)
    (case k7 => k_is)
    (case k8 => ktr_room)
    (case k9 => first | exact BindsTo.of_eq rfl | exact binds_K (Frag.In.keeps X (by rw [hg]; exact fun b o e => of_hideAll _ e)) rfl (by k_is) rfl rfl rfl)
    (case c5 => decide)
    (case kB => exact locs rfl)
    (case c2 => exact rfl)
    (case c3 => exact rfl)
    (case c4 => exact rfl)
    k_whole
    intro L' h' F' N'
    (try dsimp only)
    (refine A_let ?_; intro A9; have dA9 : A9.depth = dp + 1 := rfl; have uA9 : A9.units = un + 3 := rfl)
    (try k_fold)
    (refine fr_let F' ?_; clear F'; intro m9 F'))
  subst hn
  (repeat' (first | (k_extra "nst") | (k_unfold; (try dsimp only)) | (k_end; kc_close) | walk1 | (dsimp only; walk1) | (leave1; walk_say "STEP leave1"; (try dsimp only)) | fail "no step"))
  all_goals (first
    | exact end_u (s := s) hret _ (by first | rfl | rfl) (by assumption) (by assumption) (by first | exact List.forall_mem_nil _ | kcj_all)
    | exact end_u (s := s) hret (0 : Nat) (by first | rfl | rfl) (by assumption) (by assumption) (by first | exact List.forall_mem_nil _ | kcj_all)
    | (exfalso; (rename ((_ : Bool) = _) => hx); (simp at hx); omega)
    | (exfalso; (rename ((_ : Bool) = _) => hx); (simp at hx); done))
theorem ln3_0c6e3c : True := by
  k_with "call ref" => (k_here; (with_reducible show wpAny _ _ (call (Value.ref 290) [Value.ref _, Value.int _ _]) _ _ _); k_dflt (refine' use_u (c_go ?how36 ?h1w36 ?hnw36 ?h0w36) ?kBw36 ?kFw36 ?kXw36 ?kNw36 ?kTw36 ?kkw36 ?krw36 ?kUw36 ?kdw36 ?kuw36 ?_; (case kBw36 => k_asm); (case kFw36 => k_asm); (case kXw36 => k_asm); (case kNw36 => k_asm); (case kTw36 => k_asm); (case kkw36 => first | exact rfl | assumption); (case krw36 => (refine' (subC ?m1w36 (subC ?m2w36 subN)); (case m1w36 => k_mem); (case m2w36 => k_mem))); (case kUw36 => intro t'; k_upd); (case kdw36 => ktr_room); (case kuw36 => ktr_units); (case how36 => first | exact ho | exact ho.1 | exact ho'.1 | (show @LT.lt Nat _ _ _; (try dsimp only); omega)); (case h1w36 => omega); (case h0w36 => omega); (case hnw36 => first | assumption | exact rfl); k_whole); intro t' h' tk' F' N'; (try dsimp only); (try k_sweep))
  k_with "call ref" => (k_here; (with_reducible show wpAny _ _ (call (Prod.fst (Value.ref 255, [Value.ref _])) (Prod.snd (Value.ref 255, [Value.ref _]) ++ [])) _ _ _); k_dflt (refine' use_r (c_data ?h2w37 ?h1w37) ?kBw37 ?kFw37 ?kXw37 ?kNw37 ?kTw37 ?kkw37 ?krw37 ?kdw37 ?kuw37 ?_; (case kBw37 => k_asm); (case kFw37 => k_asm); (case kXw37 => k_asm); (case kNw37 => k_asm); (case kTw37 => k_asm); (case kkw37 => first | exact rfl | assumption); (case krw37 => (refine' (subC ?m1w37 (subC ?m2w37 (subC ?m3w37 (subC ?m4w37 subN)))); (case m1w37 => k_mem); (case m2w37 => k_mem); (case m3w37 => k_mem); (case m4w37 => k_mem))); (case kdw37 => ktr_room); (case kuw37 => ktr_units); (case h2w37 => omega); (case h1w37 => first | assumption | exact rfl); k_whole); intro t' h' tk' F' N'; (try dsimp only); (try k_sweep))
  k_with "call ref" => (k_here; (with_reducible show wpAny _ _ (call (Prod.fst (Value.ref 262, [Value.ref _])) (Prod.snd (Value.ref 262, [Value.ref _]) ++ [])) _ _ _); k_dflt (refine' use_r (c_unsent ?h2w38 ?h1w38) ?kBw38 ?kFw38 ?kXw38 ?kNw38 ?kTw38 ?kkw38 ?krw38 ?kdw38 ?kuw38 ?_; (case kBw38 => k_asm); (case kFw38 => k_asm); (case kXw38 => k_asm); (case kNw38 => k_asm); (case kTw38 => k_asm); (case kkw38 => first | exact rfl | assumption); (case krw38 => (refine' (subC ?m1w38 (subC ?m2w38 (subC ?m3w38 (subC ?m4w38 subN)))); (case m1w38 => k_mem); (case m2w38 => k_mem); (case m3w38 => k_mem); (case m4w38 => k_mem))); (case kdw38 => ktr_room); (case kuw38 => ktr_units); (case h2w38 => omega); (case h1w38 => first | assumption | exact rfl); k_whole); intro t' h' tk' F' N'; (try dsimp only); (try k_sweep))
  k_with "call ref" => (k_here; (with_reducible show wpAny _ _ (call (Value.ref 248) [Value.ref _, Value.int _ _]) _ _ _); k_dflt (refine' use_r (c_usable ?h1w39) ?kBw39 ?kFw39 ?kXw39 ?kNw39 ?kTw39 ?kkw39 ?krw39 ?kdw39 ?kuw39 ?_; (case kBw39 => k_asm); (case kFw39 => k_asm); (case kXw39 => k_asm); (case kNw39 => k_asm); (case kTw39 => k_asm); (case kkw39 => first | exact rfl | assumption); (case krw39 => (refine' (subC ?m1w39 (subC ?m2w39 (subC ?m3w39 (subC ?m4w39 subN)))); (case m1w39 => k_mem); (case m2w39 => k_mem); (case m3w39 => k_mem); (case m4w39 => k_mem))); (case kdw39 => ktr_room); (case kuw39 => ktr_units); (case h1w39 => first | assumption | exact rfl); k_whole); intro t' h' tk' F' N'; (try dsimp only); (try k_sweep))
  k_with "call ref" => (k_here; (with_reducible show wpAny _ _ (call (Value.ref 107) [Value.ref _, Value.int _ _, Value.int _ _]) _ _ _); k_dflt (refine' use_r (c_part ?h1w40) ?kBw40 ?kFw40 ?kXw40 ?kNw40 ?kTw40 ?kkw40 ?krw40 ?kdw40 ?kuw40 ?_; (case kBw40 => k_asm); (case kFw40 => k_asm); (case kXw40 => k_asm); (case kNw40 => k_asm); (case kTw40 => k_asm); (case kkw40 => first | exact rfl | assumption); (case krw40 => (refine' (subC ?m1w40 (subC ?m2w40 subN)); (case m1w40 => k_mem); (case m2w40 => k_mem))); (case kdw40 => ktr_room); (case kuw40 => ktr_units); (case h1w40 => first | exact hpt | omega); k_whole); intro t' h' tk' F' N'; (try dsimp only); (try k_sweep))
  trivial
structure TupA (zs : List Addr) where
  a : Addr
  tg : Tok
  tb : Tok
  ne : ∀ z ∈ zs, z ≠ a
theorem c_pieceA {w : World} {x xd p pd q qd : Addr}{K1 : STk} {b3 b4 b5 : Tok}{K2 : PTk} {d1 d2 d3 d4 : Tok}{K3 : QTk} {g1 : Tok}{is ua nx sz mo ts ta rm many cw nn ds us : Int} {fa : Bool} {tm tc : Tok} {xs : List UInt8} (ho : LtH xd x ∧ LtH x pd ∧ LtH pd p ∧ LtH p qd ∧ LtH qd q) (hz : xs.length ≤ 12) (h0 : 0 ≤ nx ∧ nx < 256) (h1 : 0 < many ∧ many < us) (hn : nn = (nx + (many + 0)) % 256) (hd : ds = min (xs.length : Int) (max 0 ((nx - ua) % 256))) (hu : us = (xs.length : Int) - min (xs.length : Int) (max 0 ((nx - ua) % 256))) :
    Ctr w 319 [.ref x, .int many tm, .int cw tc] [(xd, dictOf (sndE w K1 p q is ua nx nx false fa false b3 b4 b5) 11), (x, instObj 378 xd), (qd, dictOf (queE w K3 rm (xs.toArray) g1) 2), (q, instObj 117 qd), (pd, dictOf (peerE w K2 sz d1 mo d2 (.int ts d3) (.int ta d4)) 5), (p, instObj 187 pd)] 12 200 (fun v n' => ∃ t : TupA [xd, x, qd, q, pd, p], v = (fun t => .ref t.a) t ∧ n' = (t.a, { cls := .type "tuple", data := .seq #[.int nx b4, .bytes ((xs.drop ds.toNat).take ((ds + many).toNat - ds.toNat)).toArray t.tb, .bool false, .bool false] }) :: [(xd, dictOf (sndE w K1 p q is ua nn nn false fa false b3 t.tg t.tg) 11), (x, instObj 378 xd), (qd, dictOf (queE w K3 rm (xs.toArray) g1) 2), (q, instObj 117 qd), (pd, dictOf (peerE w K2 sz d1 mo d2 (.int ts d3) (.int ta d4)) 5), (p, instObj 187 pd)]) := by
  have hm := many_ok hz (Int.le_of_lt h1.2) hu
  have hpt := part_ok hz h1.1 (Int.le_of_lt h1.2) hd hu
  intro loose mean mg mb dp un gd cn cs ad ccd cl outer base L s Rr H0 hH hd1 hu hret
  obtain ⟨B, X, T⟩ := H0
  try have hO9 := difO_of ho
  try have hO9 := difO4 ho
  try have hO9 := difO2 ho
  generalize hg : hideAll s.heap (List.map Prod.fst _) = g at *
  replace hg := hg.symm
  revert X; k_fill; intro X
  k_dflt (
    refine' code_ctr ?k1 ?kg ?k3 ?k5 ?kH ?k6 ?k7 ?k8 ?k9 ?kB ?_ ?c2 ?c3 ?c4 ?c5
    (case kg => exact hg)
    (case k1 => assumption)
    (case k3 => assumption)
    (case k5 => assumption)
    (case kH => assumption)
    (case k6 => k_is)
    (case k7 => k_is)
    (case k8 => ktr_room)
    (case k9 => first | exact BindsTo.of_eq rfl | exact binds_K (Frag.In.keeps X (by rw [hg]; exact fun b o e => of_hideAll _ e)) rfl (by k_is) rfl rfl rfl)
    (case c5 => decide)
    (case kB => exact locs rfl)
    (case c2 => exact rfl)
    (case c3 => exact rfl)
    (case c4 => exact rfl)
    k_whole
    intro L' h' F' N'
    (try dsimp only)
    (refine A_let ?_; intro A9; have dA9 : A9.depth = dp + 1 := rfl; have uA9 : A9.units = un + 3 := rfl)
    (try k_fold)
    (refine fr_let F' ?_; clear F'; intro m9 F'))
  (repeat' (first | (k_extra "nst") | (k_unfold; (try dsimp only)) | (k_end; kc_close) | walk1 | (dsimp only; walk1) | (leave1; walk_say "STEP leave1"; (try dsimp only)) | fail "no step"))
  all_goals (refine' end_u (s := s) hret (TupA.mk _ _ _ ?_) rfl (by assumption) (by assumption) (by exact fun _ hp => hp); exact List.forall_mem_cons.mpr ⟨by k_ne, List.forall_mem_cons.mpr ⟨by k_ne, List.forall_mem_cons.mpr ⟨by k_ne, List.forall_mem_cons.mpr ⟨by k_ne, List.forall_mem_cons.mpr ⟨by k_ne, List.forall_mem_cons.mpr ⟨by k_ne, List.forall_mem_nil _⟩⟩⟩⟩⟩⟩)
theorem c_pieceB {w : World} {x xd p pd q qd : Addr}{K1 : STk} {b3 b4 b5 : Tok}{K2 : PTk} {d1 d2 d3 d4 : Tok}{K3 : QTk} {g1 : Tok}{is ua nx sz mo ts ta rm many cw nn ds us ub ev : Int} {fa : Bool} {tm tc : Tok} {xs : List UInt8} (ho : LtH xd x ∧ LtH x pd ∧ LtH pd p ∧ LtH p qd ∧ LtH qd q) (hz : xs.length ≤ 12) (h0 : 0 ≤ nx ∧ nx < 256) (h1 : 0 < many ∧ many = us) (hev : EvIs ev fa) (hn : nn = (nx + (many + ev)) % 256) (hd : ds = min (xs.length : Int) (max 0 ((nx - ua) % 256))) (hu : us = (xs.length : Int) - min (xs.length : Int) (max 0 ((nx - ua) % 256))) (hb : ub = max 0 (min sz cw - (nx - ua) % 256)) (hb2 : many < ub) :
    Ctr w 319 [.ref x, .int many tm, .int cw tc] [(xd, dictOf (sndE w K1 p q is ua nx nx false fa false b3 b4 b5) 11), (x, instObj 378 xd), (qd, dictOf (queE w K3 rm (xs.toArray) g1) 2), (q, instObj 117 qd), (pd, dictOf (peerE w K2 sz d1 mo d2 (.int ts d3) (.int ta d4)) 5), (p, instObj 187 pd)] 12 200 (fun v n' => ∃ t : TupA [xd, x, qd, q, pd, p], v = (fun t => .ref t.a) t ∧ n' = (t.a, { cls := .type "tuple", data := .seq #[.int nx b4, .bytes ((xs.drop ds.toNat).take ((ds + many).toNat - ds.toNat)).toArray t.tb, .bool true, .bool fa] }) :: [(xd, dictOf (sndE w K1 p q is ua nn nn false fa fa b3 t.tg t.tg) 11), (x, instObj 378 xd), (qd, dictOf (queE w K3 rm (xs.toArray) g1) 2), (q, instObj 117 qd), (pd, dictOf (peerE w K2 sz d1 mo d2 (.int ts d3) (.int ta d4)) 5), (p, instObj 187 pd)]) := by
  have hm := many_ok hz (Int.le_of_eq h1.2) hu
  have hpt := part_ok hz h1.1 (Int.le_of_eq h1.2) hd hu
  intro loose mean mg mb dp un gd cn cs ad ccd cl outer base L s Rr H0 hH hd1 hu hret
  obtain ⟨B, X, T⟩ := H0
  try have hO9 := difO_of ho
  try have hO9 := difO4 ho
  try have hO9 := difO2 ho
  generalize hg : hideAll s.heap (List.map Prod.fst _) = g at *
  replace hg := hg.symm
  revert X; k_fill; intro X
  k_dflt (
    refine' code_ctr ?k1 ?kg ?k3 ?k5 ?kH ?k6 ?k7 ?k8 ?k9 ?kB ?_ ?c2 ?c3 ?c4 ?c5
    (case kg => exact hg)
    (case k1 => assumption)
    (case k3 => assumption)
    (case k5 => assumption)
    (case kH => assumption)
    (case k6 => k_is)
    (case k7 => k_is)
    (case k8 => ktr_room)
    (case k9 => first | exact BindsTo.of_eq rfl | exact binds_K (Frag.In.keeps X (by rw [hg]; exact fun b o e => of_hideAll _ e)) rfl (by k_is) rfl rfl rfl)
    (case c5 => decide)
    (case kB => exact locs rfl)
    (case c2 => exact rfl)
    (case c3 => exact rfl)
    (case c4 => exact rfl)
    k_whole
    intro L' h' F' N'
    (try dsimp only)
    (refine A_let ?_; intro A9; have dA9 : A9.depth = dp + 1 := rfl; have uA9 : A9.units = un + 3 := rfl)
    (try k_fold)
    (refine fr_let F' ?_; clear F'; intro m9 F'))
  cases fa <;> simp only [EvIs, Bool.false_eq_true, if_true, if_false] at hev <;> subst hev
  all_goals (repeat' (first | (k_extra "nst") | (k_unfold; (try dsimp only)) | (k_end; kc_close) | walk1 | (dsimp only; walk1) | (leave1; walk_say "STEP leave1"; (try dsimp only)) | fail "no step"))
  all_goals (refine' end_u (s := s) hret (TupA.mk _ _ _ ?_) rfl (by assumption) (by assumption) (by exact fun _ hp => hp); exact List.forall_mem_cons.mpr ⟨by k_ne, List.forall_mem_cons.mpr ⟨by k_ne, List.forall_mem_cons.mpr ⟨by k_ne, List.forall_mem_cons.mpr ⟨by k_ne, List.forall_mem_cons.mpr ⟨by k_ne, List.forall_mem_cons.mpr ⟨by k_ne, List.forall_mem_nil _⟩⟩⟩⟩⟩⟩)
end
end Mine
-- part C9
namespace Mine
section
theorem ln1_0fa814 : True := by
  k_with_none
  k_with "callWith ref" => (k_here; (with_reducible rename Fr _ _ _ _ => kF); (with_reducible rename Frag.In _ _ => kX); first | ((with_reducible show wpAny _ _ (callWith _ _ _ (backTo _ (starEach [] _)) []) _ _ _); k_dflt (refine' callWith_K0 (Frag.In.keeps kX (Fr.keep kF)) ?k2w1 ?_; (case k2w1 => k_is); k_whole)) | ((with_reducible show wpAny _ _ (callWith _ _ _ (backTo _ (starEach (_ :: _) _)) []) _ _ _); k_dflt (refine' callWith_K kX ?k2w1 ?_; (case k2w1 => k_is); k_whole)))
  k_with "eval Name" => (k_here; (fail_if_success (with_reducible show wpAny _ _ (eval (Expr.Name _ _) (compEnvC _ _ _ _)) _ _ _)); k_dflt (first | (refine' nameX_L ?Fw2 ?vw2 ?_ ?aw2 ?bw2; (case bw2 => kernel_rfl!); (case aw2 => kernel_rfl!); (case Fw2 => k_asm); (case vw2 => rfl); k_whole) | (refine' nameX_K ?Fw2 ?Xw2 ?Tw2 ?ew2 ?_ ?aw2 ?bw2; (case bw2 => kernel_rfl!); (case aw2 => kernel_rfl!); (case Fw2 => k_asm); (case Xw2 => k_asm); (case Tw2 => k_asm); (case ew2 => k_is); k_whole) | (refine' nameX_B ?Fw2 ?Xw2 ?Tw2 ?ew2 ?vw2 ?nw2 ?_ ?aw2 ?bw2; (case bw2 => kernel_rfl!); (case aw2 => kernel_rfl!); (case Fw2 => k_asm); (case Xw2 => k_asm); (case Tw2 => k_asm); (case ew2 => k_is); (case vw2 => boot_fast); (case nw2 => decide); k_whole) | (refine' nameX_C ?Nw2 ?cw2 ?mw2 ?dw2 ?_ ?aw2 ?bw2; (case bw2 => kernel_rfl!); (case aw2 => kernel_rfl!); (case Nw2 => k_asm); (case cw2 => rfl); (case mw2 => k_mem); (case dw2 => k_asm); k_whole) | (refine' nameX_F ?Nw2 ?cw2 ?mw2 ?dw2 ?_ ?aw2 ?bw2; (case bw2 => kernel_rfl!); (case aw2 => kernel_rfl!); (case Nw2 => k_asm); (case cw2 => rfl); (case mw2 => k_mem); (case dw2 => k_asm); k_whole)))
  k_with "ord" => ((with_reducible rename DifO _ => hO9); (first | refine' hO9 0 _ _ _ rfl ?hbw3 ?hcw3 | refine' hO9 1 _ _ _ rfl ?hbw3 ?hcw3 | refine' hO9 2 _ _ _ rfl ?hbw3 ?hcw3 | refine' hO9 3 _ _ _ rfl ?hbw3 ?hcw3 | refine' hO9 4 _ _ _ rfl ?hbw3 ?hcw3 | refine' hO9 5 _ _ _ rfl ?hbw3 ?hcw3); (case hbw3 => first | exact (rfl : (_ : List Addr)[0]? = _) | exact (rfl : (_ : List Addr)[1]? = _) | exact (rfl : (_ : List Addr)[2]? = _) | exact (rfl : (_ : List Addr)[3]? = _) | exact (rfl : (_ : List Addr)[4]? = _) | exact (rfl : (_ : List Addr)[5]? = _)); (case hcw3 => exact rfl))
  k_with "nst" => ((with_reducible show wpAny _ _ _ _ _ (Shared.mk _ _ _ _ _)); refine' nst ?kew4 ?_; (case kew4 => (dsimp only; exact rfl)))
  k_with "all" => (first | exact neNil | (refine' neC ?aw5 ?bw5; (case aw5 => k_ne); (case bw5 => k_all)))
  k_with "room" => (first | exact room_ (by assumption) (by exact rfl) | exact room0 (by assumption) (by exact rfl) | ((try simp only [depth_under_make, depth_under_kw, depth_in1, depth_deeper, depth_caller]); (try dsimp only [ktrTop]); omega))
  k_with "units" => (first | exact room_ (by assumption) (by exact rfl) | exact room0 (by assumption) (by exact rfl) | ((try simp only [units_in1, units_deeper, Around.mark_units, units_caller]); (try dsimp only [ktrTop]); omega))
  k_with "execs cons" => ((first | (with_reducible refine execs_T ?_; intro tk) | refine wpAny_execs_cons ?_); (try k_fold))
  k_with "getAttr ref" => (k_here; k_dflt (refine' oget ?k1w9 ?k2w9 ?k3w9 ?k4w9 ?k5w9 ?k6w9 ?k7w9 ?k8w9 ?k9w9 ?_; (case k1w9 => k_asm); (case k2w9 => k_asm); (case k3w9 => k_inst); (case k4w9 => k_is); (case k5w9 => k_is); (case k6w9 => k_is); (case k7w9 => k_is); (case k8w9 => k_get); (case k9w9 => k_handed); k_whole))
  k_with "storeName" => (k_here; k_dflt (refine' ostore ?kFw10 ?kNw10 ?_ ?kaw10 ?kbw10; (case kaw10 => rfl); (case kbw10 => rfl); (case kFw10 => k_asm); (case kNw10 => k_asm); k_whole; intro h' m9 F' N'; (try k_sweep)))
  k_with "eval Constant int" => (refine cint ?_)
  k_with "eval Constant bytes" => (refine cbytes ?_)
  k_with "binaryOp Mod int int" => (k_here; (with_reducible refine mod_pos ?kbw13 ?_); (case kbw13 => omega); intro t' tk')
  k_with "binaryOp FloorDiv int int" => (k_here; (with_reducible refine div_pos ?kbw14 ?kpw14 ?_); (case kbw14 => omega); (case kpw14 => omega); intro t' tk')
  k_with "binaryOp Mult int int" => (k_here; (with_reducible refine mul_small ?kbw15 ?_); (case kbw15 => omega); intro t' tk')
  k_with "subscriptTail Name Constant ref int" => (k_here; (with_reducible show wpAny _ _ (subscriptTail _ _ (Value.ref _) (Value.int _ _)) _ _ _); k_dflt (first | ((with_reducible show wpAny _ _ (subscriptTail _ _ (Value.ref _) (Value.int 0 _)) _ _ _); refine' item_0 ?Nw16 ?mw16 ?_ ?hsw16; (case Nw16 => k_asm); (case mw16 => k_mem); (case hsw16 => with_unfolding_all rfl); k_whole) | ((with_reducible show wpAny _ _ (subscriptTail _ _ (Value.ref _) (Value.int 1 _)) _ _ _); refine' item_1 ?Nw16 ?mw16 ?_ ?hsw16; (case Nw16 => k_asm); (case mw16 => k_mem); (case hsw16 => with_unfolding_all rfl); k_whole)))
  k_with "compareOp Eq int int" => (k_here; first | (with_reducible refine ceq_t ?chw17 ?_; (case chw17 => omega)) | (with_reducible refine ceq_f ?chw17 ?_; (case chw17 => omega)))
  k_with "compareOp NotEq int int" => (k_here; first | (with_reducible refine cne_t ?chw18 ?_; (case chw18 => omega)) | (with_reducible refine cne_f ?chw18 ?_; (case chw18 => omega)))
  k_with "compareOp Lt int int" => (k_here; first | (with_reducible refine clt_t ?chw19 ?_; (case chw19 => omega)) | (with_reducible refine clt_f ?chw19 ?_; (case chw19 => omega)))
  k_with "compareOp LtE int int" => (k_here; first | (with_reducible refine cle_t ?chw20 ?_; (case chw20 => omega)) | (with_reducible refine cle_f ?chw20 ?_; (case chw20 => omega)))
  k_with "compareOp Gt int int" => (k_here; first | (with_reducible refine cgt_t ?chw21 ?_; (case chw21 => omega)) | (with_reducible refine cgt_f ?chw21 ?_; (case chw21 => omega)))
  k_with "compareOp GtE int int" => (k_here; first | (with_reducible refine cge_t ?chw22 ?_; (case chw22 => omega)) | (with_reducible refine cge_f ?chw22 ?_; (case chw22 => omega)))
  k_with "call type:int" => (k_here; (with_reducible show wpAny _ _ (call (Value.type "int") [Value.bool _]) _ _ _); (first | (with_reducible refine int_bf ?_) | (with_reducible refine int_bt ?_) | (with_reducible refine int_bb (by assumption) ?_)); intro t' tk')
  k_with "call builtin:max" => (k_here; (with_reducible show wpAny _ _ (call (Value.builtin _) [Value.int _ _, Value.int _ _]) _ _ _); k_dflt (refine' max2 ?hhw24 ?k1w24 ?k2w24 ?k3w24 ?_; (case hhw24 => with_unfolding_all rfl); (case k1w24 => k_asm); (case k2w24 => k_asm); (case k3w24 => first | exact (Int.max_eq_left (by omega)).symm | exact (Int.max_eq_right (by omega)).symm | exact rfl); k_whole); intro t' h' tk' F' N'; (try k_sweep))
  k_with "call builtin:min" => (k_here; (with_reducible show wpAny _ _ (call (Value.builtin _) [Value.int _ _, Value.int _ _]) _ _ _); k_dflt (refine' min2 ?hhw25 ?k1w25 ?k2w25 ?k3w25 ?_; (case hhw25 => with_unfolding_all rfl); (case k1w25 => k_asm); (case k2w25 => k_asm); (case k3w25 => first | exact (Int.min_eq_left (by omega)).symm | exact (Int.min_eq_right (by omega)).symm | exact rfl); k_whole); intro t' h' tk' F' N'; (try k_sweep))
  k_with "call builtin:min" => (k_here; (with_reducible show wpAny _ _ (call (Value.builtin _) [Value.int _ _, Value.int _ _, Value.int _ _]) _ _ _); k_dflt (refine' min3 ?hhw26 ?k1w26 ?k2w26 ?k3w26 ?_; (case hhw26 => with_unfolding_all rfl); (case k1w26 => k_asm); (case k2w26 => k_asm); (case k3w26 => first | exact m3a (by omega) | exact m3b (by omega) | exact m3c (by omega) | exact rfl); k_whole); intro t' h' tk' F' N'; (try k_sweep))
  trivial
theorem ln2_0fa814 : True := by
  k_with "klt" => (skip)
  k_with "ne" => (refine neN ?_; (try dsimp only); first | exact Dif.l (by with_reducible assumption) | exact Dif.r (by with_reducible assumption) | (k_extra "ord") | omega)
  k_with "call builtin:len" => (k_here; (with_reducible show wpAny _ _ (call (Value.builtin "len") [Value.bytes (List.toArray _) _]) _ _ _); (refine blen ?kzw29 ?_); (case kzw29 => first | omega | decide); intro t' tk'; (try simp only [List.length_nil]))
  k_with "call type:bytes" => (k_here; (with_reducible show wpAny _ _ (call (Value.type "bytes") [Value.bytes _ _]) _ _ _); (refine bb_call ?_))
  k_with "binaryOp Add bytes bytes" => (k_here; (with_reducible show wpAny _ _ (binaryOp Operator.Add (Value.bytes _ _) (Value.bytes (List.toArray _) _)) _ _ _); (refine badd0 ?kzw31 ?_); (case kzw31 => omega); intro t' tk')
  k_with "subscriptTail Name Slice bytes ref" => (k_here; (with_reducible show wpAny _ _ (subscriptTail _ (Expr.Slice _ _ none _) (Value.bytes _ _) (Value.ref _)) _ _ _); (with_reducible rename Fr _ _ _ _ => F'); (with_reducible rename News _ _ _ _ => N'); (refine' bslice (s := ⟨_, _, _, _, _⟩) F' N' ?klw32 ?kuw32 ?kzw32 ?kew32 ?_ ?ksw32 ?ktw32; (case klw32 => constructor); (case kuw32 => constructor); (case ksw32 => with_unfolding_all rfl); (case ktw32 => intro _; with_unfolding_all rfl); (case kzw32 => first | with_reducible assumption | omega); (case kew32 => first | exact b_all (by omega) | exact b_to (by omega) | exact (b_from (by first | with_reducible assumption | omega)).trans (by assumption) | exact b_from (by first | with_reducible assumption | omega) | exact b_mid (by omega) (by omega) (by omega)); k_whole); intro t' h' tk' F' N')
  k_with "subscriptTail Attribute Slice bytes ref" => (k_here; (with_reducible show wpAny _ _ (subscriptTail _ (Expr.Slice _ _ none _) (Value.bytes _ _) (Value.ref _)) _ _ _); (with_reducible rename Fr _ _ _ _ => F'); (with_reducible rename News _ _ _ _ => N'); (refine' bslice (s := ⟨_, _, _, _, _⟩) F' N' ?klw33 ?kuw33 ?kzw33 ?kew33 ?_ ?ksw33 ?ktw33; (case klw33 => constructor); (case kuw33 => constructor); (case ksw33 => with_unfolding_all rfl); (case ktw33 => intro _; with_unfolding_all rfl); (case kzw33 => first | with_reducible assumption | omega); (case kew33 => first | exact b_all (by omega) | exact b_to (by omega) | exact (b_from (by first | with_reducible assumption | omega)).trans (by assumption) | exact b_from (by first | with_reducible assumption | omega) | exact b_mid (by omega) (by omega) (by omega)); k_whole); intro t' h' tk' F' N')
  k_with "call ref" => (k_here; (with_reducible show wpAny _ _ (call (Prod.fst (Value.ref 262, [Value.ref _])) (Prod.snd (Value.ref 262, [Value.ref _]) ++ [])) _ _ _); k_dflt (refine' use_r (c_unsent ?h2w34 ?h1w34) ?kBw34 ?kFw34 ?kXw34 ?kNw34 ?kTw34 ?kkw34 ?krw34 ?kdw34 ?kuw34 ?_; (case kBw34 => k_asm); (case kFw34 => k_asm); (case kXw34 => k_asm); (case kNw34 => k_asm); (case kTw34 => k_asm); (case kkw34 => first | exact rfl | assumption); (case krw34 => (refine' (subC ?m1w34 (subC ?m2w34 (subC ?m3w34 (subC ?m4w34 subN)))); (case m1w34 => k_mem); (case m2w34 => k_mem); (case m3w34 => k_mem); (case m4w34 => k_mem))); (case kdw34 => ktr_room); (case kuw34 => ktr_units); (case h2w34 => omega); (case h1w34 => first | assumption | exact rfl); k_whole); intro t' h' tk' F' N'; (try dsimp only); (try k_sweep))
  k_with "call ref" => (k_here; (with_reducible show wpAny _ _ (call (Value.ref 248) [Value.ref _, Value.int _ _]) _ _ _); k_dflt (refine' use_r (c_usable ?h1w35) ?kBw35 ?kFw35 ?kXw35 ?kNw35 ?kTw35 ?kkw35 ?krw35 ?kdw35 ?kuw35 ?_; (case kBw35 => k_asm); (case kFw35 => k_asm); (case kXw35 => k_asm); (case kNw35 => k_asm); (case kTw35 => k_asm); (case kkw35 => first | exact rfl | assumption); (case krw35 => (refine' (subC ?m1w35 (subC ?m2w35 (subC ?m3w35 (subC ?m4w35 subN)))); (case m1w35 => k_mem); (case m2w35 => k_mem); (case m3w35 => k_mem); (case m4w35 => k_mem))); (case kdw35 => ktr_room); (case kuw35 => ktr_units); (case h1w35 => first | assumption | exact rfl); k_whole); intro t' h' tk' F' N'; (try dsimp only); (try k_sweep))
  k_with "call ref" => (k_here; (with_reducible show wpAny _ _ (call (Prod.fst (Value.ref 241, [Value.ref _])) (Prod.snd (Value.ref 241, [Value.ref _]) ++ [])) _ _ _); k_dflt (refine' use_r c_flight ?kBw36 ?kFw36 ?kXw36 ?kNw36 ?kTw36 ?kkw36 ?krw36 ?kdw36 ?kuw36 ?_; (case kBw36 => k_asm); (case kFw36 => k_asm); (case kXw36 => k_asm); (case kNw36 => k_asm); (case kTw36 => k_asm); (case kkw36 => first | exact rfl | assumption); (case krw36 => (refine' (subC ?m1w36 (subC ?m2w36 subN)); (case m1w36 => k_mem); (case m2w36 => k_mem))); (case kdw36 => ktr_room); (case kuw36 => ktr_units); k_whole); intro t' h' tk' F' N'; (try dsimp only); (try k_sweep))
  trivial
theorem c_findue {w : World} {x xd p q qd : Addr}{K1 : STk} {b3 b4 b5 : Tok}{K3 : QTk} {g1 : Tok}{is ua nx gr rm ev : Int} {fa : Bool} {xs : List UInt8} (hz : 1 ≤ xs.length ∧ xs.length ≤ 12) (hev : EvIs ev fa) (h1 : (nx - ua) % 256 = (xs.length : Int) + ev) :
    Ctr w 269 [.ref x] [(xd, dictOf (sndE w K1 p q is ua nx gr false fa fa b3 b4 b5) 11), (x, instObj 378 xd), (qd, dictOf (queE w K3 rm (xs.toArray) g1) 2), (q, instObj 117 qd)] 10 120 (fun v n' => ∃ t : Tok, v = (fun t => .bool false) t ∧ n' = [(xd, dictOf (sndE w K1 p q is ua nx gr false fa fa b3 b4 b5) 11), (x, instObj 378 xd), (qd, dictOf (queE w K3 rm (xs.toArray) g1) 2), (q, instObj 117 qd)]) := by
  intro loose mean mg mb dp un gd cn cs ad ccd cl outer base L s Rr H0 hH hd1 hu hret
  obtain ⟨B, X, T⟩ := H0
  try have hO9 := difO_of ho
  try have hO9 := difO4 ho
  try have hO9 := difO2 ho
  generalize hg : hideAll s.heap (List.map Prod.fst _) = g at *
  replace hg := hg.symm
  revert X; k_fill; intro X
  k_dflt (
    refine' code_ctr ?k1 ?kg ?k3 ?k5 ?kH ?k6 ?k7 ?k8 ?k9 ?kB ?_ ?c2 ?c3 ?c4 ?c5
    (case kg => exact hg)
    (case k1 => assumption)
    (case k3 => assumption)
    (case k5 => assumption)
    (case kH => assumption)
    (case k6 => k_is)
    (case k7 => k_is)
    (case k8 => ktr_room)
    (case k9 => first | exact BindsTo.of_eq rfl | exact binds_K (Frag.In.keeps X (by rw [hg]; exact fun b o e => of_hideAll _ e)) rfl (by k_is) rfl rfl rfl)
    (case c5 => decide)
    (case kB => exact locs rfl)
    (case c2 => exact rfl)
    (case c3 => exact rfl)
    (case c4 => exact rfl)
    k_whole
    intro L' h' F' N'
    (try dsimp only)
    (refine A_let ?_; intro A9; have dA9 : A9.depth = dp + 1 := rfl; have uA9 : A9.units = un + 3 := rfl)
    (try k_fold)
    (refine fr_let F' ?_; clear F'; intro m9 F'))
  cases fa <;> simp only [EvIs, Bool.false_eq_true, if_true, if_false] at hev <;> subst hev
  all_goals (repeat' (first | (k_extra "nst") | (k_unfold; (try dsimp only)) | (k_end; kc_close) | walk1 | (dsimp only; walk1) | (leave1; walk_say "STEP leave1"; (try dsimp only)) | fail "no step"))
  all_goals (first
    | exact end_u (s := s) hret _ (by first | rfl | rfl) (by assumption) (by assumption) (by first | exact List.forall_mem_nil _ | kcj_all)
    | exact end_u (s := s) hret (0 : Nat) (by first | rfl | rfl) (by assumption) (by assumption) (by first | exact List.forall_mem_nil _ | kcj_all)
    | (exfalso; (rename ((_ : Bool) = _) => hx); (simp at hx); omega)
    | (exfalso; (rename ((_ : Bool) = _) => hx); (simp at hx); done))
theorem c_maygo {w : World} {x xd p q qd : Addr}{K1 : STk} {b3 b4 b5 : Tok}{K3 : QTk} {g1 : Tok}{is ua nx gr rm many us : Int} {fa fs : Bool} {tm : Tok} {xs : List UInt8} (hz : xs.length ≤ 12) (hu : us = (xs.length : Int) - min (xs.length : Int) (max 0 ((nx - ua) % 256))) (h1 : 4 ≤ many ∨ many = us) :
    Ctr w 304 [.ref x, .int many tm, .bool false] [(xd, dictOf (sndE w K1 p q is ua nx gr false fa fs b3 b4 b5) 11), (x, instObj 378 xd), (qd, dictOf (queE w K3 rm (xs.toArray) g1) 2), (q, instObj 117 qd)] 10 120 (fun v n' => ∃ t : Tok, v = (fun t => .bool true) t ∧ n' = [(xd, dictOf (sndE w K1 p q is ua nx gr false fa fs b3 b4 b5) 11), (x, instObj 378 xd), (qd, dictOf (queE w K3 rm (xs.toArray) g1) 2), (q, instObj 117 qd)]) := by
  intro loose mean mg mb dp un gd cn cs ad ccd cl outer base L s Rr H0 hH hd1 hu hret
  obtain ⟨B, X, T⟩ := H0
  try have hO9 := difO_of ho
  try have hO9 := difO4 ho
  try have hO9 := difO2 ho
  generalize hg : hideAll s.heap (List.map Prod.fst _) = g at *
  replace hg := hg.symm
  revert X; k_fill; intro X
  k_dflt (
    refine' code_ctr ?k1 ?kg ?k3 ?k5 ?kH ?k6 ?k7 ?k8 ?k9 ?kB ?_ ?c2 ?c3 ?c4 ?c5
    (case kg => exact hg)
    (case k1 => assumption)
    (case k3 => assumption)
    (case k5 => assumption)
    (case kH => assumption)
    (case k6 => k_is)
    (case k7 => k_is)
    (case k8 => ktr_room)
    (case k9 => first | exact BindsTo.of_eq rfl | exact binds_K (Frag.In.keeps X (by rw [hg]; exact fun b o e => of_hideAll _ e)) rfl (by k_is) rfl rfl rfl)
    (case c5 => decide)
    (case kB => exact locs rfl)
    (case c2 => exact rfl)
    (case c3 => exact rfl)
    (case c4 => exact rfl)
    k_whole
    intro L' h' F' N'
    (try dsimp only)
    (refine A_let ?_; intro A9; have dA9 : A9.depth = dp + 1 := rfl; have uA9 : A9.units = un + 3 := rfl)
    (try k_fold)
    (refine fr_let F' ?_; clear F'; intro m9 F'))
  (repeat' (first | (k_extra "nst") | (k_unfold; (try dsimp only)) | (k_end; kc_close) | walk1 | (dsimp only; walk1) | (leave1; walk_say "STEP leave1"; (try dsimp only)) | fail "no step"))
  all_goals (first
    | exact end_u (s := s) hret _ (by first | rfl | rfl) (by assumption) (by assumption) (by first | exact List.forall_mem_nil _ | kcj_all)
    | exact end_u (s := s) hret (0 : Nat) (by first | rfl | rfl) (by assumption) (by assumption) (by first | exact List.forall_mem_nil _ | kcj_all)
    | (exfalso; (rename ((_ : Bool) = _) => hx); (simp at hx); omega)
    | (exfalso; (rename ((_ : Bool) = _) => hx); (simp at hx); done))
theorem ln3_0fa814 : True := by
  k_with "call ref" => (k_here; (with_reducible show wpAny _ _ (call (Value.ref 304) [Value.ref _, Value.int _ _, Value.bool _]) _ _ _); k_dflt (refine' use_r (c_maygo ?hzw37 ?huw37 ?h1w37) ?kBw37 ?kFw37 ?kXw37 ?kNw37 ?kTw37 ?kkw37 ?krw37 ?kdw37 ?kww37 ?_; (case kBw37 => k_asm); (case kFw37 => k_asm); (case kXw37 => k_asm); (case kNw37 => k_asm); (case kTw37 => k_asm); (case kkw37 => first | exact rfl | assumption); (case krw37 => (refine' (subC ?m1w37 (subC ?m2w37 (subC ?m3w37 (subC ?m4w37 subN)))); (case m1w37 => k_mem); (case m2w37 => k_mem); (case m3w37 => k_mem); (case m4w37 => k_mem))); (case kdw37 => ktr_room); (case kww37 => ktr_units); (case huw37 => assumption); (case hzw37 => omega); (case h1w37 => omega); k_whole); intro t' h' tk' F' N'; (try dsimp only); (try k_sweep))
  k_with "call ref" => (k_here; (with_reducible show wpAny _ _ (call (Prod.fst (Value.ref 269, [Value.ref _])) (Prod.snd (Value.ref 269, [Value.ref _]) ++ [])) _ _ _); k_dflt (refine' use_r (c_findue ?hzw38 ?h2w38 ?h1w38) ?kBw38 ?kFw38 ?kXw38 ?kNw38 ?kTw38 ?kkw38 ?krw38 ?kdw38 ?kuw38 ?_; (case kBw38 => k_asm); (case kFw38 => k_asm); (case kXw38 => k_asm); (case kNw38 => k_asm); (case kTw38 => k_asm); (case kkw38 => first | exact rfl | assumption); (case krw38 => (refine' (subC ?m1w38 (subC ?m2w38 (subC ?m3w38 (subC ?m4w38 subN)))); (case m1w38 => k_mem); (case m2w38 => k_mem); (case m3w38 => k_mem); (case m4w38 => k_mem))); (case kdw38 => ktr_room); (case kuw38 => ktr_units); (case hzw38 => omega); (case h2w38 => assumption); (case h1w38 => assumption); k_whole); intro t' h' tk' F' N'; (try dsimp only); (try k_sweep))
  k_with "call ref" => (k_here; (with_reducible show wpAny _ _ (call (Value.ref 319) [Value.ref _, Value.int _ _, Value.int _ _]) _ _ _); k_dflt (refine' use_und (c_pieceA ?how39 ?hzw39 ?h0w39 ?h1w39 ?hnw39 ?hdw39 ?huw39) ?kBw39 ?kFw39 ?kXw39 ?kNw39 ?kTw39 ?kkw39 ?krw39 ?kUw39 ?kEw39 ?kdw39 ?kww39 ?_; (case kBw39 => k_asm); (case kFw39 => k_asm); (case kXw39 => k_asm); (case kNw39 => k_asm); (case kTw39 => k_asm); (case kkw39 => first | exact rfl | assumption); (case krw39 => (refine' (subC ?m1w39 (subC ?m2w39 (subC ?m3w39 (subC ?m4w39 (subC ?m5w39 (subC ?m6w39 subN)))))); (case m1w39 => k_mem); (case m2w39 => k_mem); (case m3w39 => k_mem); (case m4w39 => k_mem); (case m5w39 => k_mem); (case m6w39 => k_mem))); (case kUw39 => intro t'; k_upd); (case kEw39 => intro t'; exact t'.ne); (case kdw39 => ktr_room); (case kww39 => ktr_units); (case hnw39 => assumption); (case hdw39 => assumption); (case huw39 => assumption); (case how39 => assumption); (case hzw39 => omega); (case h0w39 => omega); (case h1w39 => omega); k_whole); intro ⟨a', tg', tb', ne'⟩ h' tk' F' N' nw'; (try dsimp only at N'); (try simp only [DifR] at nw'); (repeat' (rename AndD _ _ => hc'; obtain ⟨_, _⟩ := hc')); (try dsimp only); (try k_sweep))
  k_with "call ref" => (k_here; (with_reducible show wpAny _ _ (call (Value.ref 319) [Value.ref _, Value.int _ _, Value.int _ _]) _ _ _); k_dflt (refine' use_und (c_pieceB ?how40 ?hzw40 ?h0w40 ?h1w40 ?hew40 ?hnw40 ?hdw40 ?huw40 ?hbw40 ?hcw40) ?kBw40 ?kFw40 ?kXw40 ?kNw40 ?kTw40 ?kkw40 ?krw40 ?kUw40 ?kEw40 ?kdw40 ?kww40 ?_; (case kBw40 => k_asm); (case kFw40 => k_asm); (case kXw40 => k_asm); (case kNw40 => k_asm); (case kTw40 => k_asm); (case kkw40 => first | exact rfl | assumption); (case krw40 => (refine' (subC ?m1w40 (subC ?m2w40 (subC ?m3w40 (subC ?m4w40 (subC ?m5w40 (subC ?m6w40 subN)))))); (case m1w40 => k_mem); (case m2w40 => k_mem); (case m3w40 => k_mem); (case m4w40 => k_mem); (case m5w40 => k_mem); (case m6w40 => k_mem))); (case kUw40 => intro t'; k_upd); (case kEw40 => intro t'; exact t'.ne); (case kdw40 => ktr_room); (case kww40 => ktr_units); (case hew40 => assumption); (case hnw40 => assumption); (case hdw40 => assumption); (case huw40 => assumption); (case hbw40 => assumption); (case how40 => assumption); (case hzw40 => omega); (case h0w40 => omega); (case h1w40 => omega); (case hcw40 => omega); k_whole); intro ⟨a', tg', tb', ne'⟩ h' tk' F' N' nw'; (try dsimp only at N'); (try simp only [DifR] at nw'); (repeat' (rename AndD _ _ => hc'; obtain ⟨_, _⟩ := hc')); (try dsimp only); (try k_sweep))
  trivial
end
end Mine
-- part C10
namespace Mine
section
theorem ln1_4c0f43 : True := by
  k_with_none
  k_with "callWith ref" => (k_here; (with_reducible rename Fr _ _ _ _ => kF); (with_reducible rename Frag.In _ _ => kX); first | ((with_reducible show wpAny _ _ (callWith _ _ _ (backTo _ (starEach [] _)) []) _ _ _); k_dflt (refine' callWith_K0 (Frag.In.keeps kX (Fr.keep kF)) ?k2w1 ?_; (case k2w1 => k_is); k_whole)) | ((with_reducible show wpAny _ _ (callWith _ _ _ (backTo _ (starEach (_ :: _) _)) []) _ _ _); k_dflt (refine' callWith_K kX ?k2w1 ?_; (case k2w1 => k_is); k_whole)))
  k_with "eval Name" => (k_here; (fail_if_success (with_reducible show wpAny _ _ (eval (Expr.Name _ _) (compEnvC _ _ _ _)) _ _ _)); k_dflt (first | (refine' nameX_L ?Fw2 ?vw2 ?_ ?aw2 ?bw2; (case bw2 => kernel_rfl!); (case aw2 => kernel_rfl!); (case Fw2 => k_asm); (case vw2 => rfl); k_whole) | (refine' nameX_K ?Fw2 ?Xw2 ?Tw2 ?ew2 ?_ ?aw2 ?bw2; (case bw2 => kernel_rfl!); (case aw2 => kernel_rfl!); (case Fw2 => k_asm); (case Xw2 => k_asm); (case Tw2 => k_asm); (case ew2 => k_is); k_whole) | (refine' nameX_B ?Fw2 ?Xw2 ?Tw2 ?ew2 ?vw2 ?nw2 ?_ ?aw2 ?bw2; (case bw2 => kernel_rfl!); (case aw2 => kernel_rfl!); (case Fw2 => k_asm); (case Xw2 => k_asm); (case Tw2 => k_asm); (case ew2 => k_is); (case vw2 => boot_fast); (case nw2 => decide); k_whole) | (refine' nameX_C ?Nw2 ?cw2 ?mw2 ?dw2 ?_ ?aw2 ?bw2; (case bw2 => kernel_rfl!); (case aw2 => kernel_rfl!); (case Nw2 => k_asm); (case cw2 => rfl); (case mw2 => k_mem); (case dw2 => k_asm); k_whole) | (refine' nameX_F ?Nw2 ?cw2 ?mw2 ?dw2 ?_ ?aw2 ?bw2; (case bw2 => kernel_rfl!); (case aw2 => kernel_rfl!); (case Nw2 => k_asm); (case cw2 => rfl); (case mw2 => k_mem); (case dw2 => k_asm); k_whole)))
  k_with "ord" => ((with_reducible rename DifO _ => hO9); (first | refine' hO9 0 _ _ _ rfl ?hbw3 ?hcw3 | refine' hO9 1 _ _ _ rfl ?hbw3 ?hcw3 | refine' hO9 2 _ _ _ rfl ?hbw3 ?hcw3 | refine' hO9 3 _ _ _ rfl ?hbw3 ?hcw3 | refine' hO9 4 _ _ _ rfl ?hbw3 ?hcw3 | refine' hO9 5 _ _ _ rfl ?hbw3 ?hcw3); (case hbw3 => first | exact (rfl : (_ : List Addr)[0]? = _) | exact (rfl : (_ : List Addr)[1]? = _) | exact (rfl : (_ : List Addr)[2]? = _) | exact (rfl : (_ : List Addr)[3]? = _) | exact (rfl : (_ : List Addr)[4]? = _) | exact (rfl : (_ : List Addr)[5]? = _)); (case hcw3 => exact rfl))
  k_with "nst" => ((with_reducible show wpAny _ _ _ _ _ (Shared.mk _ _ _ _ _)); refine' nst ?kew4 ?_; (case kew4 => (dsimp only; exact rfl)))
  k_with "all" => (first | exact neNil | (refine' neC ?aw5 ?bw5; (case aw5 => k_ne); (case bw5 => k_all)))
  k_with "room" => (first | exact room_ (by assumption) (by exact rfl) | exact room0 (by assumption) (by exact rfl) | ((try simp only [depth_under_make, depth_under_kw, depth_in1, depth_deeper, depth_caller]); (try dsimp only [ktrTop]); omega))
  k_with "units" => (first | exact room_ (by assumption) (by exact rfl) | exact room0 (by assumption) (by exact rfl) | ((try simp only [units_in1, units_deeper, Around.mark_units, units_caller]); (try dsimp only [ktrTop]); omega))
  k_with "execs cons" => ((first | (with_reducible refine execs_T ?_; intro tk) | refine wpAny_execs_cons ?_); (try k_fold))
  k_with "getAttr ref" => (k_here; k_dflt (refine' oget ?k1w9 ?k2w9 ?k3w9 ?k4w9 ?k5w9 ?k6w9 ?k7w9 ?k8w9 ?k9w9 ?_; (case k1w9 => k_asm); (case k2w9 => k_asm); (case k3w9 => k_inst); (case k4w9 => k_is); (case k5w9 => k_is); (case k6w9 => k_is); (case k7w9 => k_is); (case k8w9 => k_get); (case k9w9 => k_handed); k_whole))
  k_with "storeName" => (k_here; k_dflt (refine' ostore ?kFw10 ?kNw10 ?_ ?kaw10 ?kbw10; (case kaw10 => rfl); (case kbw10 => rfl); (case kFw10 => k_asm); (case kNw10 => k_asm); k_whole; intro h' m9 F' N'; (try k_sweep)))
  k_with "eval Constant int" => (refine cint ?_)
  k_with "eval Constant bytes" => (refine cbytes ?_)
  k_with "binaryOp Mod int int" => (k_here; (with_reducible refine mod_pos ?kbw13 ?_); (case kbw13 => omega); intro t' tk')
  k_with "binaryOp FloorDiv int int" => (k_here; (with_reducible refine div_pos ?kbw14 ?kpw14 ?_); (case kbw14 => omega); (case kpw14 => omega); intro t' tk')
  k_with "binaryOp Mult int int" => (k_here; (with_reducible refine mul_small ?kbw15 ?_); (case kbw15 => omega); intro t' tk')
  k_with "subscriptTail Name Constant ref int" => (k_here; (with_reducible show wpAny _ _ (subscriptTail _ _ (Value.ref _) (Value.int _ _)) _ _ _); k_dflt (first | ((with_reducible show wpAny _ _ (subscriptTail _ _ (Value.ref _) (Value.int 0 _)) _ _ _); refine' item_0 ?Nw16 ?mw16 ?_ ?hsw16; (case Nw16 => k_asm); (case mw16 => k_mem); (case hsw16 => with_unfolding_all rfl); k_whole) | ((with_reducible show wpAny _ _ (subscriptTail _ _ (Value.ref _) (Value.int 1 _)) _ _ _); refine' item_1 ?Nw16 ?mw16 ?_ ?hsw16; (case Nw16 => k_asm); (case mw16 => k_mem); (case hsw16 => with_unfolding_all rfl); k_whole)))
  k_with "compareOp Eq int int" => (k_here; first | (with_reducible refine ceq_t ?chw17 ?_; (case chw17 => omega)) | (with_reducible refine ceq_f ?chw17 ?_; (case chw17 => omega)))
  k_with "compareOp NotEq int int" => (k_here; first | (with_reducible refine cne_t ?chw18 ?_; (case chw18 => omega)) | (with_reducible refine cne_f ?chw18 ?_; (case chw18 => omega)))
  k_with "compareOp Lt int int" => (k_here; first | (with_reducible refine clt_t ?chw19 ?_; (case chw19 => omega)) | (with_reducible refine clt_f ?chw19 ?_; (case chw19 => omega)))
  k_with "compareOp LtE int int" => (k_here; first | (with_reducible refine cle_t ?chw20 ?_; (case chw20 => omega)) | (with_reducible refine cle_f ?chw20 ?_; (case chw20 => omega)))
  k_with "compareOp Gt int int" => (k_here; first | (with_reducible refine cgt_t ?chw21 ?_; (case chw21 => omega)) | (with_reducible refine cgt_f ?chw21 ?_; (case chw21 => omega)))
  k_with "compareOp GtE int int" => (k_here; first | (with_reducible refine cge_t ?chw22 ?_; (case chw22 => omega)) | (with_reducible refine cge_f ?chw22 ?_; (case chw22 => omega)))
  k_with "call type:int" => (k_here; (with_reducible show wpAny _ _ (call (Value.type "int") [Value.bool _]) _ _ _); (first | (with_reducible refine int_bf ?_) | (with_reducible refine int_bt ?_) | (with_reducible refine int_bb (by assumption) ?_)); intro t' tk')
  k_with "call builtin:max" => (k_here; (with_reducible show wpAny _ _ (call (Value.builtin _) [Value.int _ _, Value.int _ _]) _ _ _); k_dflt (refine' max2 ?hhw24 ?k1w24 ?k2w24 ?k3w24 ?_; (case hhw24 => with_unfolding_all rfl); (case k1w24 => k_asm); (case k2w24 => k_asm); (case k3w24 => first | exact (Int.max_eq_left (by omega)).symm | exact (Int.max_eq_right (by omega)).symm | exact rfl); k_whole); intro t' h' tk' F' N'; (try k_sweep))
  k_with "call builtin:min" => (k_here; (with_reducible show wpAny _ _ (call (Value.builtin _) [Value.int _ _, Value.int _ _]) _ _ _); k_dflt (refine' min2 ?hhw25 ?k1w25 ?k2w25 ?k3w25 ?_; (case hhw25 => with_unfolding_all rfl); (case k1w25 => k_asm); (case k2w25 => k_asm); (case k3w25 => first | exact (Int.min_eq_left (by omega)).symm | exact (Int.min_eq_right (by omega)).symm | exact rfl); k_whole); intro t' h' tk' F' N'; (try k_sweep))
  k_with "call builtin:min" => (k_here; (with_reducible show wpAny _ _ (call (Value.builtin _) [Value.int _ _, Value.int _ _, Value.int _ _]) _ _ _); k_dflt (refine' min3 ?hhw26 ?k1w26 ?k2w26 ?k3w26 ?_; (case hhw26 => with_unfolding_all rfl); (case k1w26 => k_asm); (case k2w26 => k_asm); (case k3w26 => first | exact m3a (by omega) | exact m3b (by omega) | exact m3c (by omega) | exact rfl); k_whole); intro t' h' tk' F' N'; (try k_sweep))
  trivial
theorem ln2_4c0f43 : True := by
  k_with "klt" => (skip)
  k_with "call builtin:len" => (k_here; (with_reducible show wpAny _ _ (call (Value.builtin "len") [Value.bytes (List.toArray _) _]) _ _ _); (refine blen ?kzw28 ?_); (case kzw28 => first | omega | decide); intro t' tk'; (try simp only [List.length_nil]))
  k_with "call type:bytes" => (k_here; (with_reducible show wpAny _ _ (call (Value.type "bytes") [Value.bytes _ _]) _ _ _); (refine bb_call ?_))
  k_with "binaryOp Add bytes bytes" => (k_here; (with_reducible show wpAny _ _ (binaryOp Operator.Add (Value.bytes _ _) (Value.bytes (List.toArray _) _)) _ _ _); (refine badd0 ?kzw30 ?_); (case kzw30 => omega); intro t' tk')
  k_with "subscriptTail Name Slice bytes ref" => (k_here; (with_reducible show wpAny _ _ (subscriptTail _ (Expr.Slice _ _ none _) (Value.bytes _ _) (Value.ref _)) _ _ _); (with_reducible rename Fr _ _ _ _ => F'); (with_reducible rename News _ _ _ _ => N'); (refine' bslice (s := ⟨_, _, _, _, _⟩) F' N' ?klw31 ?kuw31 ?kzw31 ?kew31 ?_ ?ksw31 ?ktw31; (case klw31 => constructor); (case kuw31 => constructor); (case ksw31 => with_unfolding_all rfl); (case ktw31 => intro _; with_unfolding_all rfl); (case kzw31 => first | with_reducible assumption | omega); (case kew31 => first | exact b_all (by omega) | exact b_to (by omega) | exact (b_from (by first | with_reducible assumption | omega)).trans (by assumption) | exact b_from (by first | with_reducible assumption | omega) | exact b_mid (by omega) (by omega) (by omega)); k_whole); intro t' h' tk' F' N')
  k_with "subscriptTail Attribute Slice bytes ref" => (k_here; (with_reducible show wpAny _ _ (subscriptTail _ (Expr.Slice _ _ none _) (Value.bytes _ _) (Value.ref _)) _ _ _); (with_reducible rename Fr _ _ _ _ => F'); (with_reducible rename News _ _ _ _ => N'); (refine' bslice (s := ⟨_, _, _, _, _⟩) F' N' ?klw32 ?kuw32 ?kzw32 ?kew32 ?_ ?ksw32 ?ktw32; (case klw32 => constructor); (case kuw32 => constructor); (case ksw32 => with_unfolding_all rfl); (case ktw32 => intro _; with_unfolding_all rfl); (case kzw32 => first | with_reducible assumption | omega); (case kew32 => first | exact b_all (by omega) | exact b_to (by omega) | exact (b_from (by first | with_reducible assumption | omega)).trans (by assumption) | exact b_from (by first | with_reducible assumption | omega) | exact b_mid (by omega) (by omega) (by omega)); k_whole); intro t' h' tk' F' N')
  k_with "ne" => (refine neN ?_; (try dsimp only); first | exact Dif.l (by with_reducible assumption) | exact Dif.r (by with_reducible assumption) | (k_extra "ord") | omega)
  k_with "getMethod bytes" => (k_here; (with_reducible show wpAny _ _ (getMethod (Value.bytes _ _) (PySem.Str.ofString "join") _) _ _ _); (refine join_meth ?_))
  k_with "call builtin:bytes.join" => (k_here; (with_reducible show wpAny _ _ (call (Value.builtin _) [Value.bytes _ _, Value.ref _]) _ _ _); k_dflt (refine' join_fl ?kNw35 ?kmw35 ?kzw35 ?kew35 ?_; (case kNw35 => k_asm); (case kmw35 => k_mem); (case kew35 => with_reducible assumption); (case kzw35 => omega); k_whole); intro t' tk')
  k_with "eval ListComp" => (k_here; k_dflt (refine LCg.ListComp_U (F₀ := by k_asm) (by with_unfolding_all rfl) (by decide) (by rfl) (by decide) (by rfl) ?_))
  k_with "CompSrc" => (k_here; (with_reducible rename Sh _ _ _ _ _ _ _ _ => sh9); k_dflt (refine LCg.CompSrc.ledger (by rfl) (by k_asm) (by k_asm) (by k_mem) (by have := sh9.size.2; rw [PySem.sizeLine_eq]; omega) ?_; intro g'; (refine' rows_rest sh9 ?m1w37 ?m2w37 ?m3w37 (fun r' f' a' y' b' c' e' I' oI' C' oC' D' m' ys' h' tk' E' hr' hC' hx' F' N' off' ne' => ?_) ?_); (case m1w37 => k_mem); (case m2w37 => k_mem); (case m3w37 => k_mem); (all_goals (try (simp only [LCg.Off3, and_true] at off'))); kcf_last))
  k_with "KPfDone" => ((show ∀ _, BytF _ _ → _); intro ys' hb')
  k_with "CompEnd" => ((refine' LCg.CompEnd.intro ?kFw39 ?kNw39 _ ?ksw39 ?kow39 ?kSw39 (kcb_el rfl rfl rfl)); (case kFw39 => with_reducible assumption); (case kNw39 => with_reducible assumption); (case ksw39 => exact fun _ hp => hp); (case kow39 => (simp only [LCg.Off3, and_true]; with_reducible assumption)); (case kSw39 => lcg_src))
  k_with "subscriptTail Name Constant ref int" => (k_here; k_dflt (first | ((with_reducible show wpAny _ _ (subscriptTail _ _ (Value.ref _) (Value.int 1 _)) _ _ _); refine' row_1 ?kN2w40 ?km2w40 ?_ ?hs2w40; (case kN2w40 => k_asm); (case km2w40 => with_reducible assumption); (case hs2w40 => with_unfolding_all rfl); k_whole) | ((with_reducible show wpAny _ _ (subscriptTail _ _ (Value.ref _) (Value.int 0 _)) _ _ _); refine' rows_0 ?kNw40 ?kshw40 ?kmw40 ?_ ?hsw40; (case kshw40 => with_reducible assumption); (case kNw40 => k_asm); (case kmw40 => k_mem); (case hsw40 => with_unfolding_all rfl); k_whole)))
  k_with "subscriptTail Name UnaryOp ref int" => (k_here; k_dflt (refine' rows_L ?kNw41 ?kshw41 ?kmw41 ?_ ?hsw41; (case kshw41 => with_reducible assumption); (case kNw41 => k_asm); (case kmw41 => k_mem); (case hsw41 => with_unfolding_all rfl); k_whole))
  k_with "compareOp NotEq bytes bytes" => (k_here; (refine bne_f ?kew42 ?_); (case kew42 => first | rfl | exact part_y | exact part_x (by with_reducible assumption) (by omega)))
  k_with "call ref" => (k_here; (with_reducible show wpAny _ _ (call (Prod.fst (Value.ref 262, [Value.ref _])) (Prod.snd (Value.ref 262, [Value.ref _]) ++ [])) _ _ _); k_dflt (refine' use_r (c_unsent ?h2w43 ?h1w43) ?kBw43 ?kFw43 ?kXw43 ?kNw43 ?kTw43 ?kkw43 ?krw43 ?kdw43 ?kuw43 ?_; (case kBw43 => k_asm); (case kFw43 => k_asm); (case kXw43 => k_asm); (case kNw43 => k_asm); (case kTw43 => k_asm); (case kkw43 => first | exact rfl | assumption); (case krw43 => (refine' (subC ?m1w43 (subC ?m2w43 (subC ?m3w43 (subC ?m4w43 subN)))); (case m1w43 => k_mem); (case m2w43 => k_mem); (case m3w43 => k_mem); (case m4w43 => k_mem))); (case kdw43 => ktr_room); (case kuw43 => ktr_units); (case h2w43 => omega); (case h1w43 => first | assumption | exact rfl); k_whole); intro t' h' tk' F' N'; (try dsimp only); (try k_sweep))
  k_with "call ref" => (k_here; (with_reducible show wpAny _ _ (call (Value.ref 248) [Value.ref _, Value.int _ _]) _ _ _); k_dflt (refine' use_r (c_usable ?h1w44) ?kBw44 ?kFw44 ?kXw44 ?kNw44 ?kTw44 ?kkw44 ?krw44 ?kdw44 ?kuw44 ?_; (case kBw44 => k_asm); (case kFw44 => k_asm); (case kXw44 => k_asm); (case kNw44 => k_asm); (case kTw44 => k_asm); (case kkw44 => first | exact rfl | assumption); (case krw44 => (refine' (subC ?m1w44 (subC ?m2w44 (subC ?m3w44 (subC ?m4w44 subN)))); (case m1w44 => k_mem); (case m2w44 => k_mem); (case m3w44 => k_mem); (case m4w44 => k_mem))); (case kdw44 => ktr_room); (case kuw44 => ktr_units); (case h1w44 => first | assumption | exact rfl); k_whole); intro t' h' tk' F' N'; (try dsimp only); (try k_sweep))
  k_with "call ref" => (k_here; (with_reducible show wpAny _ _ (call (Prod.fst (Value.ref 241, [Value.ref _])) (Prod.snd (Value.ref 241, [Value.ref _]) ++ [])) _ _ _); k_dflt (refine' use_r c_flight ?kBw45 ?kFw45 ?kXw45 ?kNw45 ?kTw45 ?kkw45 ?krw45 ?kdw45 ?kuw45 ?_; (case kBw45 => k_asm); (case kFw45 => k_asm); (case kXw45 => k_asm); (case kNw45 => k_asm); (case kTw45 => k_asm); (case kkw45 => first | exact rfl | assumption); (case krw45 => (refine' (subC ?m1w45 (subC ?m2w45 subN)); (case m1w45 => k_mem); (case m2w45 => k_mem))); (case kdw45 => ktr_room); (case kuw45 => ktr_units); k_whole); intro t' h' tk' F' N'; (try dsimp only); (try k_sweep))
  k_with "call ref" => (k_here; (with_reducible show wpAny _ _ (call (Value.ref 304) [Value.ref _, Value.int _ _, Value.bool _]) _ _ _); k_dflt (refine' use_r (c_maygo ?hzw46 ?huw46 ?h1w46) ?kBw46 ?kFw46 ?kXw46 ?kNw46 ?kTw46 ?kkw46 ?krw46 ?kdw46 ?kww46 ?_; (case kBw46 => k_asm); (case kFw46 => k_asm); (case kXw46 => k_asm); (case kNw46 => k_asm); (case kTw46 => k_asm); (case kkw46 => first | exact rfl | assumption); (case krw46 => (refine' (subC ?m1w46 (subC ?m2w46 (subC ?m3w46 (subC ?m4w46 subN)))); (case m1w46 => k_mem); (case m2w46 => k_mem); (case m3w46 => k_mem); (case m4w46 => k_mem))); (case kdw46 => ktr_room); (case kww46 => ktr_units); (case huw46 => assumption); (case hzw46 => omega); (case h1w46 => omega); k_whole); intro t' h' tk' F' N'; (try dsimp only); (try k_sweep))
  k_with "call ref" => (k_here; (with_reducible show wpAny _ _ (call (Prod.fst (Value.ref 269, [Value.ref _])) (Prod.snd (Value.ref 269, [Value.ref _]) ++ [])) _ _ _); k_dflt (refine' use_r (c_findue ?hzw47 ?h2w47 ?h1w47) ?kBw47 ?kFw47 ?kXw47 ?kNw47 ?kTw47 ?kkw47 ?krw47 ?kdw47 ?kuw47 ?_; (case kBw47 => k_asm); (case kFw47 => k_asm); (case kXw47 => k_asm); (case kNw47 => k_asm); (case kTw47 => k_asm); (case kkw47 => first | exact rfl | assumption); (case krw47 => (refine' (subC ?m1w47 (subC ?m2w47 (subC ?m3w47 (subC ?m4w47 subN)))); (case m1w47 => k_mem); (case m2w47 => k_mem); (case m3w47 => k_mem); (case m4w47 => k_mem))); (case kdw47 => ktr_room); (case kuw47 => ktr_units); (case hzw47 => omega); (case h2w47 => assumption); (case h1w47 => assumption); k_whole); intro t' h' tk' F' N'; (try dsimp only); (try k_sweep))
  k_with "call ref" => (k_here; (with_reducible show wpAny _ _ (call (Value.ref 319) [Value.ref _, Value.int _ _, Value.int _ _]) _ _ _); k_dflt (refine' use_und (c_pieceA ?how48 ?hzw48 ?h0w48 ?h1w48 ?hnw48 ?hdw48 ?huw48) ?kBw48 ?kFw48 ?kXw48 ?kNw48 ?kTw48 ?kkw48 ?krw48 ?kUw48 ?kEw48 ?kdw48 ?kww48 ?_; (case kBw48 => k_asm); (case kFw48 => k_asm); (case kXw48 => k_asm); (case kNw48 => k_asm); (case kTw48 => k_asm); (case kkw48 => first | exact rfl | assumption); (case krw48 => (refine' (subC ?m1w48 (subC ?m2w48 (subC ?m3w48 (subC ?m4w48 (subC ?m5w48 (subC ?m6w48 subN)))))); (case m1w48 => k_mem); (case m2w48 => k_mem); (case m3w48 => k_mem); (case m4w48 => k_mem); (case m5w48 => k_mem); (case m6w48 => k_mem))); (case kUw48 => intro t'; k_upd); (case kEw48 => intro t'; exact t'.ne); (case kdw48 => ktr_room); (case kww48 => ktr_units); (case hnw48 => assumption); (case hdw48 => assumption); (case huw48 => assumption); (case how48 => assumption); (case hzw48 => omega); (case h0w48 => omega); (case h1w48 => omega); k_whole); intro ⟨a', tg', tb', ne'⟩ h' tk' F' N' nw'; (try dsimp only at N'); (try simp only [DifR] at nw'); (repeat' (rename AndD _ _ => hc'; obtain ⟨_, _⟩ := hc')); (try dsimp only); (try k_sweep))
  k_with "call ref" => (k_here; (with_reducible show wpAny _ _ (call (Value.ref 319) [Value.ref _, Value.int _ _, Value.int _ _]) _ _ _); k_dflt (refine' use_und (c_pieceB ?how49 ?hzw49 ?h0w49 ?h1w49 ?hew49 ?hnw49 ?hdw49 ?huw49 ?hbw49 ?hcw49) ?kBw49 ?kFw49 ?kXw49 ?kNw49 ?kTw49 ?kkw49 ?krw49 ?kUw49 ?kEw49 ?kdw49 ?kww49 ?_; (case kBw49 => k_asm); (case kFw49 => k_asm); (case kXw49 => k_asm); (case kNw49 => k_asm); (case kTw49 => k_asm); (case kkw49 => first | exact rfl | assumption); (case krw49 => (refine' (subC ?m1w49 (subC ?m2w49 (subC ?m3w49 (subC ?m4w49 (subC ?m5w49 (subC ?m6w49 subN)))))); (case m1w49 => k_mem); (case m2w49 => k_mem); (case m3w49 => k_mem); (case m4w49 => k_mem); (case m5w49 => k_mem); (case m6w49 => k_mem))); (case kUw49 => intro t'; k_upd); (case kEw49 => intro t'; exact t'.ne); (case kdw49 => ktr_room); (case kww49 => ktr_units); (case hew49 => assumption); (case hnw49 => assumption); (case hdw49 => assumption); (case huw49 => assumption); (case hbw49 => assumption); (case how49 => assumption); (case hzw49 => omega); (case h0w49 => omega); (case h1w49 => omega); (case hcw49 => omega); k_whole); intro ⟨a', tg', tb', ne'⟩ h' tk' F' N' nw'; (try dsimp only at N'); (try simp only [DifR] at nw'); (repeat' (rename AndD _ _ => hc'; obtain ⟨_, _⟩ := hc')); (try dsimp only); (try k_sweep))
  k_with "eval Name" => (k_here; k_dflt (refine' nameX_L ?Fw50 ?vw50 ?_ ?aw50 ?bw50; (case bw50 => kernel_rfl!); (case aw50 => kernel_rfl!); (case Fw50 => k_asm); (case vw50 => first | with_reducible assumption | exact (if_neg (by decide)).trans (by with_reducible assumption) | exact (if_neg (by decide)).trans ((if_neg (by decide)).trans (by with_reducible assumption)) | rfl); k_whole))
  k_with "call builtin:list.append" => (k_here; (with_reducible show wpAny _ _ (call (Value.builtin _) [Value.ref _, _]) _ _ _); k_dflt (refine' append_K ?k1w51 ?k2w51 ?k3w51 ?_ ?zw51; (case k1w51 => k_asm); (case k2w51 => k_asm); (case k3w51 => k_upd); (case zw51 => exact PPart.size (by assumption)); k_whole); intro h' F' N'; (try k_sweep))
  trivial
/-- the rows of pieces: what stands in the list, and the tuples -/
inductive PRows (f : Int) (he : Bool) (xs : List UInt8) : List Value → List (Addr × Obj) → Prop
  | one {t1 : Addr} {a b : Tok} {ys : List UInt8} (hy : ys = xs) : PRows f he xs [.ref t1] [(t1, { cls := .type "tuple", data := .seq #[.int f a, .bytes ys.toArray b, .bool true, .bool he] })]
  | two {t1 t2 : Addr} {a b c d : Tok} {f4 : Int} {y1 y2 : List UInt8} (hy : y1 ++ y2 = xs) : PRows f he xs [.ref t1, .ref t2] [(t1, { cls := .type "tuple", data := .seq #[.int f a, .bytes y1.toArray b, .bool false, .bool false] }), (t2, { cls := .type "tuple", data := .seq #[.int f4 c, .bytes y2.toArray d, .bool true, .bool he] })]
  | three {t1 t2 t3 : Addr} {a b c d e g : Tok} {f4 f8 : Int} {y1 y2 y3 : List UInt8} (hy : y1 ++ y2 ++ y3 = xs) : PRows f he xs [.ref t1, .ref t2, .ref t3] [(t1, { cls := .type "tuple", data := .seq #[.int f a, .bytes y1.toArray b, .bool false, .bool false] }), (t2, { cls := .type "tuple", data := .seq #[.int f4 c, .bytes y2.toArray d, .bool false, .bool false] }), (t3, { cls := .type "tuple", data := .seq #[.int f8 e, .bytes y3.toArray g, .bool true, .bool he] })]
def NeAll (zs : List Addr) (l : Addr) (rows : List (Addr × Obj)) : Prop := ∀ z ∈ zs, @Ne Nat z l ∧ ∀ q ∈ rows, @Ne Nat z q.1
structure Pcs (f : Int) (he : Bool) (xs : List UInt8) (zs : List Addr) where
  l : Addr
  c : Nat
  v : Tok
  v2 : Tok
  refs : List Value
  rows : List (Addr × Obj)
  hr : PRows f he xs refs rows
  ne : NeAll zs l rows
/-- the rows that stand before the last -/
inductive PPart (f : Int) (xs : List UInt8) : Int → List Value → List (Addr × Obj) → Prop
  | nil : PPart f xs 0 [] []
  | one {t1 : Addr} {a b : Tok} {y1 : List UInt8} (hy : y1 = xs.take 4) : PPart f xs 4 [.ref t1] [(t1, { cls := .type "tuple", data := .seq #[.int f a, .bytes y1.toArray b, .bool false, .bool false] })]
  | two {t1 t2 : Addr} {a b c d : Tok} {f4 : Int} {y1 y2 : List UInt8} (hy : y1 ++ y2 = xs.take 8) : PPart f xs 8 [.ref t1, .ref t2] [(t1, { cls := .type "tuple", data := .seq #[.int f a, .bytes y1.toArray b, .bool false, .bool false] }), (t2, { cls := .type "tuple", data := .seq #[.int f4 c, .bytes y2.toArray d, .bool false, .bool false] })]
section
variable {f d nx : Int} {xs : List UInt8} {refs : List Value} {rows : List (Addr × Obj)} {t : Addr} {a b : Tok} {fa : Bool}
theorem PPart.size (h : PPart f xs d refs rows) : refs.toArray.size ≤ sizeLine := by
  cases h <;> size_fits
theorem cutOf {d : Int} {k m : Nat} (hd : d = k) {e : Int} (he : e = m) : ((xs.drop d.toNat).take ((d + e).toNat - d.toNat)) = (xs.drop k).take m := by
  subst hd; subst he
  have e1 : ((k : Int)).toNat = k := rfl
  have e2 : ((k : Int) + (m : Int)).toNat - (k : Int).toNat = m := by omega
  rw [e1] at *
  rw [e2]
theorem PPart.next (hp : PPart f xs d refs rows) (h : d + 4 < xs.length) (hz : xs.length ≤ 12) (h0 : 0 ≤ f ∧ f < 256) (hn : nx = (f + d) % 256) :
    PPart f xs (d + 4) (refs ++ [.ref t]) (rows ++ [(t, { cls := .type "tuple", data := .seq #[.int nx a, .bytes ((xs.drop d.toNat).take ((d + 4).toNat - d.toNat)).toArray b, .bool false, .bool false] })]) := by
  cases hp with
  | nil =>
    obtain rfl : nx = f := by omega
    exact PPart.one ((cutOf (d := 0) (e := 4) (k := 0) (m := 4) rfl rfl).trans (by rw [List.drop_zero]))
  | one hy =>
    exact PPart.two (f4 := nx) (by rw [cutOf (d := 4) (e := 4) (k := 4) (m := 4) rfl rfl, hy]; exact List.take_add.symm)
  | two => omega
theorem PPart.last (hp : PPart f xs d refs rows) (h : d < xs.length) (h4 : xs.length ≤ d + 4) (h0 : 0 ≤ f ∧ f < 256) (hn : nx = (f + d) % 256) :
    PRows f fa xs (refs ++ [.ref t]) (rows ++ [(t, { cls := .type "tuple", data := .seq #[.int nx a, .bytes ((xs.drop d.toNat).take ((d + ((xs.length : Int) - d)).toNat - d.toNat)).toArray b, .bool true, .bool fa] })]) := by
  have e : ∀ k : Nat, d = k → (xs.drop d.toNat).take ((d + ((xs.length : Int) - d)).toNat - d.toNat) = xs.drop k := by
    intro k hk
    rw [cutOf (k := k) (m := xs.length - k) hk (by omega)]
    exact List.take_of_length_le (by rw [List.length_drop]; omega)
  cases hp with
  | nil =>
    obtain rfl : nx = f := by omega
    exact PRows.one ((e 0 rfl).trans List.drop_zero)
  | one hy =>
    exact PRows.two (f4 := nx) (by rw [e 4 rfl, hy]; exact List.take_append_drop 4 xs)
  | two hy =>
    exact PRows.three (f8 := nx) (by rw [e 8 rfl, hy]; exact List.take_append_drop 8 xs)
end
theorem difR_out {z : Nat} {l : List (Addr × Obj)} : DifR z l → ∀ p ∈ l, p.1 ≠ z := by
  induction l with
  | nil => intro _ p hp; cases hp
  | cons q r ih =>
    intro h p hp
    rcases List.mem_cons.mp hp with e | hp
    · rw [e]; exact Ne.symm h.l
    · exact ih h.r p hp
theorem difR_in {z : Nat} {l : List (Addr × Obj)} (h : DifR z l) : ∀ p ∈ l, @Ne Nat z p.1 := fun p hp => Ne.symm (difR_out h p hp)
theorem difR_snoc {z a : Nat} {o : Obj} {l : List (Addr × Obj)} (h : DifR z l) (d : Dif a z) : DifR z (l ++ [(a, o)]) := by
  induction l with
  | nil => exact ⟨Ne.symm d, trivial⟩
  | cons q r ih => exact ⟨h.l, ih h.r⟩
theorem memR {p l r : Addr × Obj} {S rows : List (Addr × Obj)} (h : p ∈ l :: (S ++ (rows ++ [r]))) : p ∈ r :: l :: (S ++ rows) := by
  simp only [List.mem_cons, List.mem_append, List.not_mem_nil, or_false] at h ⊢
  rcases h with h | h | h | h <;> simp [h]
theorem newsPush {g h : Heap} {L l : Addr} {refs : List Value} {v : Value} {c : Nat} {r : Addr × Obj} {S : List (Addr × Obj)} (N : News g L h (r :: (l, listOf (refs.toArray.push v) c) :: S)) : News g L h (r :: (l, listOf (refs ++ [v]).toArray c) :: S) := by
  rw [List.push_toArray] at N; exact N
section
variable {prog : Program} {w : World} {A : Around} {E : Value → Shared → Prop} {env : Env} {test : PySem.Expr} {body orelse : List Stmt} {Q : Flow → Shared → Prop} {J : Nat → Shared → Prop}
/-- a while by an invariant that counts down -/
theorem whl_inv : ∀ {k : Nat} {s : Shared}, J k s → (∀ s, ¬ J 0 s) →
    (∀ k s, J (k + 1) s → (∀ s', J k s' → WhlRest prog w A E env test body orelse Q k s') → WhlRest prog w A E env test body orelse Q (k + 1) s) → WhlRest prog w A E env test body orelse Q k s
  | 0, s, h, z, _ => absurd h (z s)
  | k + 1, s, h, z, st => st k s h fun _ h' => whl_inv h' z st
end
theorem ln3_4c0f43 : True := by
  k_with "WhlRest" => (with_reducible refine IH _ ?_)
  k_with "all" => (exact difR_out (by with_reducible assumption))
  trivial
inductive PJ (w : World) (g : Heap) (L' : Addr) (s : Shared) (is f fe mo ts ta rm ev : Int) (fa : Bool) (tc : Tok) (xs : List UInt8) (x xd p pd q qd : Addr) (K1 : STk) (b3 : Tok) (K2 : PTk) (d1 d2 d3 d4 : Tok) (K3 : QTk) (g1 : Tok) : Nat → Shared → Prop
  | mid {k : Nat} {d nx : Int} {l : Addr} {c : Nat} {refs : List Value} {rows : List (Addr × Obj)} {b4 b5 : Tok} {h' : Heap} {tk' : Nat} {m : Str → Option Value} (hk : (xs.length : Int) - d + 4 ≤ 4 * (k : Int)) (hd : 0 ≤ d ∧ d < xs.length) (hn : nx = (f + d) % 256) (hp : PPart f xs d refs rows) (F : Fr g L' h' m) (N : News g L' h' ((l, listOf refs.toArray c) :: ([(xd, dictOf (sndE w K1 p q is f nx nx false fa false b3 b4 b5) 11), (x, instObj 378 xd), (qd, dictOf (queE w K3 rm (xs.toArray) g1) 2), (q, instObj 117 qd), (pd, dictOf (peerE w K2 20 d1 mo d2 (.int ts d3) (.int ta d4)) 5), (p, instObj 187 pd)] ++ rows))) (dl : DifR l ([(xd, dictOf (sndE w K1 p q is f nx nx false fa false b3 b4 b5) 11), (x, instObj 378 xd), (qd, dictOf (queE w K3 rm (xs.toArray) g1) 2), (q, instObj 117 qd), (pd, dictOf (peerE w K2 20 d1 mo d2 (.int ts d3) (.int ta d4)) 5), (p, instObj 187 pd)] ++ rows)) (r1 : DifR xd rows) (r2 : DifR x rows) (r3 : DifR qd rows) (r4 : DifR q rows) (r5 : DifR pd rows) (r6 : DifR p rows) (m1 : m (Str.ofString "self") = some (.ref x)) (m2 : m (Str.ofString "congestion_window") = some (.int 20 tc)) (m3 : m (Str.ofString "is_nagle") = some (.bool false)) (m4 : m (Str.ofString "found") = some (.ref l)) : PJ w g L' s is f fe mo ts ta rm ev fa tc xs x xd p pd q qd K1 b3 K2 d1 d2 d3 d4 K3 g1 k { s with heap := h', toks := tk' }
  | done {k : Nat} {l : Addr} {c : Nat} {refs : List Value} {rows : List (Addr × Obj)} {b4 b5 : Tok} {h' : Heap} {tk' : Nat} {m : Str → Option Value} (hk : 1 ≤ k) (hp : PRows f fa xs refs rows) (F : Fr g L' h' m) (N : News g L' h' ((l, listOf refs.toArray c) :: ([(xd, dictOf (sndE w K1 p q is f fe fe false fa fa b3 b4 b5) 11), (x, instObj 378 xd), (qd, dictOf (queE w K3 rm (xs.toArray) g1) 2), (q, instObj 117 qd), (pd, dictOf (peerE w K2 20 d1 mo d2 (.int ts d3) (.int ta d4)) 5), (p, instObj 187 pd)] ++ rows))) (dl : DifR l ([(xd, dictOf (sndE w K1 p q is f fe fe false fa fa b3 b4 b5) 11), (x, instObj 378 xd), (qd, dictOf (queE w K3 rm (xs.toArray) g1) 2), (q, instObj 117 qd), (pd, dictOf (peerE w K2 20 d1 mo d2 (.int ts d3) (.int ta d4)) 5), (p, instObj 187 pd)] ++ rows)) (r1 : DifR xd rows) (r2 : DifR x rows) (r3 : DifR qd rows) (r4 : DifR q rows) (r5 : DifR pd rows) (r6 : DifR p rows) (m1 : m (Str.ofString "self") = some (.ref x)) (m2 : m (Str.ofString "congestion_window") = some (.int 20 tc)) (m3 : m (Str.ofString "is_nagle") = some (.bool false)) (m4 : m (Str.ofString "found") = some (.ref l)) : PJ w g L' s is f fe mo ts ta rm ev fa tc xs x xd p pd q qd K1 b3 K2 d1 d2 d3 d4 K3 g1 k { s with heap := h', toks := tk' }
theorem c_pieces {w : World} {x xd p pd q qd : Addr}{K1 : STk} {b3 b4 b5 : Tok}{K2 : PTk} {d1 d2 d3 d4 : Tok}{K3 : QTk} {g1 : Tok}{is f fe mo ts ta rm ev : Int} {fa : Bool} {tc : Tok} {xs : List UInt8} (ho : LtH xd x ∧ LtH x pd ∧ LtH pd p ∧ LtH p qd ∧ LtH qd q) (hz : 1 ≤ xs.length ∧ xs.length ≤ 12) (h0 : 0 ≤ f ∧ f < 256) (hev : EvIs ev fa) (hfe : fe = (f + ((xs.length : Int) + ev)) % 256) :
    Ctr w 312 [.ref x, .int 20 tc, .bool false] [(xd, dictOf (sndE w K1 p q is f f f false fa false b3 b4 b5) 11), (x, instObj 378 xd), (qd, dictOf (queE w K3 rm (xs.toArray) g1) 2), (q, instObj 117 qd), (pd, dictOf (peerE w K2 20 d1 mo d2 (.int ts d3) (.int ta d4)) 5), (p, instObj 187 pd)] 20 300 (fun v n' => ∃ t : Pcs f fa xs [xd, x, qd, q, pd, p], v = (fun t => .ref t.l) t ∧ n' = (t.l, listOf t.refs.toArray t.c) :: ([(xd, dictOf (sndE w K1 p q is f fe fe false fa fa b3 t.v t.v2) 11), (x, instObj 378 xd), (qd, dictOf (queE w K3 rm (xs.toArray) g1) 2), (q, instObj 117 qd), (pd, dictOf (peerE w K2 20 d1 mo d2 (.int ts d3) (.int ta d4)) 5), (p, instObj 187 pd)] ++ t.rows)) := by
  intro loose mean mg mb dp un gd cn cs ad ccd cl outer base L s Rr H0 hH hd1 hu hret
  obtain ⟨B, X, T⟩ := H0
  try have hO9 := difO_of ho
  try have hO9 := difO4 ho
  try have hO9 := difO2 ho
  generalize hg : hideAll s.heap (List.map Prod.fst _) = g at *
  replace hg := hg.symm
  revert X; k_fill; intro X
  k_dflt (
    refine' code_ctr ?k1 ?kg ?k3 ?k5 ?kH ?k6 ?k7 ?k8 ?k9 ?kB ?_ ?c2 ?c3 ?c4 ?c5
    (case kg => exact hg)
    (case k1 => assumption)
    (case k3 => assumption)
    (case k5 => assumption)
    (case kH => assumption)
    (case k6 => k_is)
    (case k7 => k_is)
    (case k8 => ktr_room)
    (case k9 => first | exact BindsTo.of_eq rfl | exact binds_K (Frag.In.keeps X (by rw [hg]; exact fun b o e => of_hideAll _ e)) rfl (by k_is) rfl rfl rfl)
    (case c5 => decide)
    (case kB => exact locs rfl)
    (case c2 => exact rfl)
    (case c3 => exact rfl)
    (case c4 => exact rfl)
    k_whole
    intro L' h' F' N'
    (try dsimp only)
    (refine A_let ?_; intro A9; have dA9 : A9.depth = dp + 1 := rfl; have uA9 : A9.units = un + 3 := rfl)
    (try k_fold)
    (refine fr_let F' ?_; clear F'; intro m9 F'))
  have hevb := hev.rng
  with_reducible refine' cut_stmts_e (a := [_, _]) (I := PJ w g L' s is f fe mo ts ta rm ev fa tc xs x xd p pd q qd K1 b3 K2 d1 d2 d3 d4 K3 g1 4) ?ce (fun s' hI => ?tail) ?head
  case ce => exact rfl
  case head =>
    (repeat' (first | (k_extra "nst") | (k_unfold; (try dsimp only)) | (k_end; kc_close) | walk1 | (dsimp only; walk1) | (leave1; walk_say "STEP leave1"; (try dsimp only)) | fail "no step"))
    all_goals (refine' And.intro rfl (PJ.mid (refs := []) (rows := []) (d := 0) ?hk ?hd ?hn .nil (by with_reducible assumption) ?N ?dl trivial trivial trivial trivial trivial trivial rfl rfl rfl rfl))
    (case N => k_asm)
    (case hk => omega)
    (case hd => omega)
    (case hn => omega)
    (case dl => (simp only [List.cons_append, List.nil_append, DifR]; (repeat' (first | exact True.intro | refine AndD.mk ?_ ?_ | with_reducible assumption | exact Ne.symm (by with_reducible assumption) | (show @Ne Nat _ _; omega)))))
  case tail =>
    refine wpAny_execs_cons ?_
    refine whl_start 4 ?_
    refine whl_inv hI (fun s h => by cases h <;> omega) ?_
    clear F' N' hI
    intro k s8 hJ IH
    rcases hJ with ⟨hk, hd, hn, hp, F8, N8, dl, r1, r2, r3, r4, r5, r6, m1, m2, m3, m4⟩ | ⟨hk, hp, F8, N8, dl, r1, r2, r3, r4, r5, r6, m1, m2, m3, m4⟩
    · rename_i d nx l c refs rows b4 b5 h8 tk8 m8
      simp only [List.cons_append, List.nil_append] at N8 dl
      simp only [DifR] at dl
      repeat' (rename AndD _ _ => hc'; obtain ⟨_, _⟩ := hc')
      have hM := mod_d h0 ⟨hd.1, by omega⟩ hn
      have hd0 := mm_d hM hd.1 (Int.le_of_lt hd.2)
      have hu0 := mm_u hM hd.1 (Int.le_of_lt hd.2)
      have hb0 := mm_b hM (by omega)
      clear hM
      rcases Int.lt_or_le (d + 4) xs.length with hA | hB
      · obtain ⟨f4, hf4⟩ : ∃ y, y = (nx + (4 + 0)) % 256 := ⟨_, rfl⟩
        refine whl_turn (by first | passes_own | with_unfolding_all passes_own) ?_
        (repeat' (first | (k_extra "nst") | (k_unfold; (try dsimp only)) | (k_end; kc_close) | walk1 | (dsimp only; walk1) | (leave1; walk_say "STEP leave1"; (try dsimp only)) | fail "no step"))
        all_goals (try k_data)
        all_goals (rename News _ _ _ _ => N9; replace N9 := newsPush N9)
        all_goals (refine' (PJ.mid (d := d + 4) ?hk ?hd ?hn (hp.next hA hz.2 h0 hn) (by with_reducible assumption) (newsSub N9 (fun p hp => memR (S := [_, _, _, _, _, _]) hp)) ?dl (difR_snoc r1 (by with_reducible assumption)) (difR_snoc r2 (by with_reducible assumption)) (difR_snoc r3 (by with_reducible assumption)) (difR_snoc r4 (by with_reducible assumption)) (difR_snoc r5 (by with_reducible assumption)) (difR_snoc r6 (by with_reducible assumption)) ?m1 ?m2 ?m3 ?m4))
        (case hk => omega)
        (case hd => omega)
        (case hn => omega)
        (case m1 => exact (if_neg (by decide)).trans m1)
        (case m2 => exact (if_neg (by decide)).trans m2)
        (case m3 => exact (if_neg (by decide)).trans m3)
        (case m4 => exact (if_neg (by decide)).trans m4)
        (case dl => (simp only [List.cons_append, List.nil_append, DifR]; (repeat' (first | exact True.intro | with_reducible assumption | exact difR_snoc (by with_reducible assumption) (by with_reducible assumption) | refine AndD.mk ?_ ?_))))
      · have hf4 : fe = (nx + (((xs.length : Int) - d) + ev)) % 256 := by omega
        refine whl_turn (by first | passes_own | with_unfolding_all passes_own) ?_
        (repeat' (first | (k_extra "nst") | (k_unfold; (try dsimp only)) | (k_end; kc_close) | walk1 | (dsimp only; walk1) | (leave1; walk_say "STEP leave1"; (try dsimp only)) | fail "no step"))
        all_goals (try k_data)
        all_goals (rename News _ _ _ _ => N9; replace N9 := newsPush N9)
        all_goals (refine' (PJ.done ?hk (hp.last hd.2 hB h0 hn) (by with_reducible assumption) (newsSub N9 (fun p hp => memR (S := [_, _, _, _, _, _]) hp)) ?dl (difR_snoc r1 (by with_reducible assumption)) (difR_snoc r2 (by with_reducible assumption)) (difR_snoc r3 (by with_reducible assumption)) (difR_snoc r4 (by with_reducible assumption)) (difR_snoc r5 (by with_reducible assumption)) (difR_snoc r6 (by with_reducible assumption)) ?m1 ?m2 ?m3 ?m4))
        (case hk => omega)
        (case m1 => exact (if_neg (by decide)).trans m1)
        (case m2 => exact (if_neg (by decide)).trans m2)
        (case m3 => exact (if_neg (by decide)).trans m3)
        (case m4 => exact (if_neg (by decide)).trans m4)
        (case dl => (simp only [List.cons_append, List.nil_append, DifR]; (repeat' (first | exact True.intro | with_reducible assumption | exact difR_snoc (by with_reducible assumption) (by with_reducible assumption) | refine AndD.mk ?_ ?_))))
    · rename_i l c refs rows b4 b5 h8 tk8 m8
      simp only [List.cons_append, List.nil_append] at N8 dl
      simp only [DifR] at dl
      repeat' (rename AndD _ _ => hc'; obtain ⟨_, _⟩ := hc')
      have hfl := mod_d h0 (d := (xs.length : Int) + ev) (by omega) hfe
      have hue := mm_z (n := xs.length) (M := (fe - f) % 256) (by omega)
      refine whl_turn (by first | passes_own | with_unfolding_all passes_own) ?_
      (repeat' (first | (k_extra "nst") | (k_unfold; (try dsimp only)) | (k_end; kc_close) | walk1 | (dsimp only; walk1) | (leave1; walk_say "STEP leave1"; (try dsimp only)) | fail "no step"))
      all_goals (refine' end_u (s := s) hret (Pcs.mk l _ _ _ refs rows hp ?_) rfl (by assumption) (by assumption) (by exact fun _ hp => hp))
      all_goals (exact List.forall_mem_cons.mpr ⟨⟨by k_ne, difR_in r1⟩, List.forall_mem_cons.mpr ⟨⟨by k_ne, difR_in r2⟩, List.forall_mem_cons.mpr ⟨⟨by k_ne, difR_in r3⟩, List.forall_mem_cons.mpr ⟨⟨by k_ne, difR_in r4⟩, List.forall_mem_cons.mpr ⟨⟨by k_ne, difR_in r5⟩, List.forall_mem_cons.mpr ⟨⟨by k_ne, difR_in r6⟩, List.forall_mem_nil _⟩⟩⟩⟩⟩⟩)
end
end Mine
-- part Row
namespace Mine
section
theorem ln1_600f05 : True := by
  k_with_none
  k_with "callWith ref" => (k_here; (with_reducible rename Fr _ _ _ _ => kF); (with_reducible rename Frag.In _ _ => kX); first | ((with_reducible show wpAny _ _ (callWith _ _ _ (backTo _ (starEach [] _)) []) _ _ _); k_dflt (refine' callWith_K0 (Frag.In.keeps kX (Fr.keep kF)) ?k2w1 ?_; (case k2w1 => k_is); k_whole)) | ((with_reducible show wpAny _ _ (callWith _ _ _ (backTo _ (starEach (_ :: _) _)) []) _ _ _); k_dflt (refine' callWith_K kX ?k2w1 ?_; (case k2w1 => k_is); k_whole)))
  k_with "eval Name" => (k_here; (fail_if_success (with_reducible show wpAny _ _ (eval (Expr.Name _ _) (compEnvC _ _ _ _)) _ _ _)); k_dflt (first | (refine' nameX_L ?Fw2 ?vw2 ?_ ?aw2 ?bw2; (case bw2 => kernel_rfl!); (case aw2 => kernel_rfl!); (case Fw2 => k_asm); (case vw2 => rfl); k_whole) | (refine' nameX_K ?Fw2 ?Xw2 ?Tw2 ?ew2 ?_ ?aw2 ?bw2; (case bw2 => kernel_rfl!); (case aw2 => kernel_rfl!); (case Fw2 => k_asm); (case Xw2 => k_asm); (case Tw2 => k_asm); (case ew2 => k_is); k_whole) | (refine' nameX_B ?Fw2 ?Xw2 ?Tw2 ?ew2 ?vw2 ?nw2 ?_ ?aw2 ?bw2; (case bw2 => kernel_rfl!); (case aw2 => kernel_rfl!); (case Fw2 => k_asm); (case Xw2 => k_asm); (case Tw2 => k_asm); (case ew2 => k_is); (case vw2 => boot_fast); (case nw2 => decide); k_whole) | (refine' nameX_C ?Nw2 ?cw2 ?mw2 ?dw2 ?_ ?aw2 ?bw2; (case bw2 => kernel_rfl!); (case aw2 => kernel_rfl!); (case Nw2 => k_asm); (case cw2 => rfl); (case mw2 => k_mem); (case dw2 => k_asm); k_whole) | (refine' nameX_F ?Nw2 ?cw2 ?mw2 ?dw2 ?_ ?aw2 ?bw2; (case bw2 => kernel_rfl!); (case aw2 => kernel_rfl!); (case Nw2 => k_asm); (case cw2 => rfl); (case mw2 => k_mem); (case dw2 => k_asm); k_whole)))
  k_with "ord" => ((with_reducible rename DifO _ => hO9); (first | refine' hO9 0 _ _ _ rfl ?hbw3 ?hcw3 | refine' hO9 1 _ _ _ rfl ?hbw3 ?hcw3 | refine' hO9 2 _ _ _ rfl ?hbw3 ?hcw3 | refine' hO9 3 _ _ _ rfl ?hbw3 ?hcw3 | refine' hO9 4 _ _ _ rfl ?hbw3 ?hcw3 | refine' hO9 5 _ _ _ rfl ?hbw3 ?hcw3); (case hbw3 => first | exact (rfl : (_ : List Addr)[0]? = _) | exact (rfl : (_ : List Addr)[1]? = _) | exact (rfl : (_ : List Addr)[2]? = _) | exact (rfl : (_ : List Addr)[3]? = _) | exact (rfl : (_ : List Addr)[4]? = _) | exact (rfl : (_ : List Addr)[5]? = _)); (case hcw3 => exact rfl))
  k_with "nst" => ((with_reducible show wpAny _ _ _ _ _ (Shared.mk _ _ _ _ _)); refine' nst ?kew4 ?_; (case kew4 => (dsimp only; exact rfl)))
  k_with "all" => (first | exact neNil | (refine' neC ?aw5 ?bw5; (case aw5 => k_ne); (case bw5 => k_all)))
  k_with "room" => (first | exact room_ (by assumption) (by exact rfl) | exact room0 (by assumption) (by exact rfl) | ((try simp only [depth_under_make, depth_under_kw, depth_in1, depth_deeper, depth_caller]); (try dsimp only [ktrTop]); omega))
  k_with "units" => (first | exact room_ (by assumption) (by exact rfl) | exact room0 (by assumption) (by exact rfl) | ((try simp only [units_in1, units_deeper, Around.mark_units, units_caller]); (try dsimp only [ktrTop]); omega))
  k_with "execs cons" => ((first | (with_reducible refine execs_T ?_; intro tk) | refine wpAny_execs_cons ?_); (try k_fold))
  k_with "getAttr ref" => (k_here; k_dflt (refine' oget ?k1w9 ?k2w9 ?k3w9 ?k4w9 ?k5w9 ?k6w9 ?k7w9 ?k8w9 ?k9w9 ?_; (case k1w9 => k_asm); (case k2w9 => k_asm); (case k3w9 => k_inst); (case k4w9 => k_is); (case k5w9 => k_is); (case k6w9 => k_is); (case k7w9 => k_is); (case k8w9 => k_get); (case k9w9 => k_handed); k_whole))
  k_with "storeName" => (k_here; k_dflt (refine' ostore ?kFw10 ?kNw10 ?_ ?kaw10 ?kbw10; (case kaw10 => rfl); (case kbw10 => rfl); (case kFw10 => k_asm); (case kNw10 => k_asm); k_whole; intro h' m9 F' N'; (try k_sweep)))
  k_with "eval Constant int" => (refine cint ?_)
  k_with "eval Constant bytes" => (refine cbytes ?_)
  k_with "binaryOp Mod int int" => (k_here; (with_reducible refine mod_pos ?kbw13 ?_); (case kbw13 => omega); intro t' tk')
  k_with "binaryOp FloorDiv int int" => (k_here; (with_reducible refine div_pos ?kbw14 ?kpw14 ?_); (case kbw14 => omega); (case kpw14 => omega); intro t' tk')
  k_with "binaryOp Mult int int" => (k_here; (with_reducible refine mul_small ?kbw15 ?_); (case kbw15 => omega); intro t' tk')
  k_with "subscriptTail Name Constant ref int" => (k_here; (with_reducible show wpAny _ _ (subscriptTail _ _ (Value.ref _) (Value.int _ _)) _ _ _); k_dflt (first | ((with_reducible show wpAny _ _ (subscriptTail _ _ (Value.ref _) (Value.int 0 _)) _ _ _); refine' item_0 ?Nw16 ?mw16 ?_ ?hsw16; (case Nw16 => k_asm); (case mw16 => k_mem); (case hsw16 => with_unfolding_all rfl); k_whole) | ((with_reducible show wpAny _ _ (subscriptTail _ _ (Value.ref _) (Value.int 1 _)) _ _ _); refine' item_1 ?Nw16 ?mw16 ?_ ?hsw16; (case Nw16 => k_asm); (case mw16 => k_mem); (case hsw16 => with_unfolding_all rfl); k_whole)))
  k_with "compareOp Eq int int" => (k_here; first | (with_reducible refine ceq_t ?chw17 ?_; (case chw17 => omega)) | (with_reducible refine ceq_f ?chw17 ?_; (case chw17 => omega)))
  k_with "compareOp NotEq int int" => (k_here; first | (with_reducible refine cne_t ?chw18 ?_; (case chw18 => omega)) | (with_reducible refine cne_f ?chw18 ?_; (case chw18 => omega)))
  k_with "compareOp Lt int int" => (k_here; first | (with_reducible refine clt_t ?chw19 ?_; (case chw19 => omega)) | (with_reducible refine clt_f ?chw19 ?_; (case chw19 => omega)))
  k_with "compareOp LtE int int" => (k_here; first | (with_reducible refine cle_t ?chw20 ?_; (case chw20 => omega)) | (with_reducible refine cle_f ?chw20 ?_; (case chw20 => omega)))
  k_with "compareOp Gt int int" => (k_here; first | (with_reducible refine cgt_t ?chw21 ?_; (case chw21 => omega)) | (with_reducible refine cgt_f ?chw21 ?_; (case chw21 => omega)))
  k_with "compareOp GtE int int" => (k_here; first | (with_reducible refine cge_t ?chw22 ?_; (case chw22 => omega)) | (with_reducible refine cge_f ?chw22 ?_; (case chw22 => omega)))
  k_with "call type:int" => (k_here; (with_reducible show wpAny _ _ (call (Value.type "int") [Value.bool _]) _ _ _); (first | (with_reducible refine int_bf ?_) | (with_reducible refine int_bt ?_) | (with_reducible refine int_bb (by assumption) ?_)); intro t' tk')
  k_with "call builtin:max" => (k_here; (with_reducible show wpAny _ _ (call (Value.builtin _) [Value.int _ _, Value.int _ _]) _ _ _); k_dflt (refine' max2 ?hhw24 ?k1w24 ?k2w24 ?k3w24 ?_; (case hhw24 => with_unfolding_all rfl); (case k1w24 => k_asm); (case k2w24 => k_asm); (case k3w24 => first | exact (Int.max_eq_left (by omega)).symm | exact (Int.max_eq_right (by omega)).symm | exact rfl); k_whole); intro t' h' tk' F' N'; (try k_sweep))
  k_with "call builtin:min" => (k_here; (with_reducible show wpAny _ _ (call (Value.builtin _) [Value.int _ _, Value.int _ _]) _ _ _); k_dflt (refine' min2 ?hhw25 ?k1w25 ?k2w25 ?k3w25 ?_; (case hhw25 => with_unfolding_all rfl); (case k1w25 => k_asm); (case k2w25 => k_asm); (case k3w25 => first | exact (Int.min_eq_left (by omega)).symm | exact (Int.min_eq_right (by omega)).symm | exact rfl); k_whole); intro t' h' tk' F' N'; (try k_sweep))
  k_with "call builtin:min" => (k_here; (with_reducible show wpAny _ _ (call (Value.builtin _) [Value.int _ _, Value.int _ _, Value.int _ _]) _ _ _); k_dflt (refine' min3 ?hhw26 ?k1w26 ?k2w26 ?k3w26 ?_; (case hhw26 => with_unfolding_all rfl); (case k1w26 => k_asm); (case k2w26 => k_asm); (case k3w26 => first | exact m3a (by omega) | exact m3b (by omega) | exact m3c (by omega) | exact rfl); k_whole); intro t' h' tk' F' N'; (try k_sweep))
  k_with "ne" => (refine neN ?_; (try dsimp only); first | (k_extra "ord") | omega)
  trivial
/-- the rows of pieces, told as three tuples of which the first, the last and perhaps the second stand in the list -/
inductive Sh : List Value → Addr → Addr → Addr → List UInt8 → List UInt8 → List UInt8 → List UInt8 → Prop
  | one {t1 t2 : Addr} {y1 y2 : List UInt8} : Sh [.ref t1] t1 t2 t1 y1 y2 y1 y1
  | two {t1 t2 t3 : Addr} {y1 y2 y3 : List UInt8} : Sh [.ref t1, .ref t3] t1 t2 t3 y1 y2 y3 (y1 ++ y3)
  | three {t1 t2 t3 : Addr} {y1 y2 y3 : List UInt8} : Sh [.ref t1, .ref t2, .ref t3] t1 t2 t3 y1 y2 y3 (y1 ++ y2 ++ y3)
abbrev tup4 (f : Int) (a : Tok) (y : List UInt8) (b : Tok) (c e : Bool) : Obj := { cls := .type "tuple", data := .seq #[.int f a, .bytes y.toArray b, .bool c, .bool e] }
abbrev rows3 (f f2 f3 : Int) (he : Bool) (t1 t2 t3 : Addr) (y1 y2 y3 : List UInt8) (a1 a2 a3 b1 b2 b3 : Tok) (c1 c2 c3 e1 e2 : Bool) : List (Addr × Obj) :=
  [(t1, tup4 f a1 y1 b1 c1 e1), (t2, tup4 f2 a2 y2 b2 c2 e2), (t3, tup4 f3 a3 y3 b3 c3 he)]
inductive Pad (f : Int) (he : Bool) (xs : List UInt8) (refs : List Value) (rows : List (Addr × Obj)) : Prop
  | mk {t1 t2 t3 : Addr} {y1 y2 y3 : List UInt8} {f2 f3 : Int} {a1 a2 a3 b1 b2 b3 : Tok} {c1 c2 c3 e1 e2 : Bool} (sh : Sh refs t1 t2 t3 y1 y2 y3 xs) (sub : ∀ p ∈ rows3 f f2 f3 he t1 t2 t3 y1 y2 y3 a1 a2 a3 b1 b2 b3 c1 c2 c3 e1 e2, p ∈ rows) : Pad f he xs refs rows
theorem pad_of {f : Int} {he : Bool} {xs : List UInt8} {refs : List Value} {rows : List (Addr × Obj)} (h : PRows f he xs refs rows) : Pad f he xs refs rows := by
  cases h with
  | one hy => subst hy; exact ⟨.one, by intro p hp; simp only [List.mem_cons, List.not_mem_nil, or_false] at hp; rcases hp with rfl | rfl | rfl <;> exact .head _⟩
  | two hy => subst hy; exact ⟨.two, by intro p hp; simp only [List.mem_cons, List.not_mem_nil, or_false] at hp; rcases hp with rfl | rfl | rfl; exact .head _; exact .head _; exact .tail _ (.head _)⟩
  | three hy => subst hy; exact ⟨.three, fun p hp => hp⟩
theorem Sh.at0 {refs : List Value} {t1 t2 t3 : Addr} {y1 y2 y3 xs : List UInt8} (h : Sh refs t1 t2 t3 y1 y2 y3 xs) : refs.toArray[(0 : Int).toNat]? = some (.ref t1) := by cases h <;> rfl
theorem Sh.atL {refs : List Value} {t1 t2 t3 : Addr} {y1 y2 y3 xs : List UInt8} (h : Sh refs t1 t2 t3 y1 y2 y3 xs) : refs.toArray[(-1 + (refs.toArray.size : Int)).toNat]? = some (.ref t3) := by cases h <;> rfl
theorem Sh.size {refs : List Value} {t1 t2 t3 : Addr} {y1 y2 y3 xs : List UInt8} (h : Sh refs t1 t2 t3 y1 y2 y3 xs) : 1 ≤ refs.toArray.size ∧ refs.toArray.size ≤ 3 := by cases h <;> simp
theorem BytsAre.inv {vs : List Value} {y : List UInt8} {l : List (List UInt8)} (h : BytsAre vs (y :: l)) : ∃ t vs', vs = .bytes y.toArray t :: vs' ∧ BytsAre vs' l := by
  cases h with
  | cons _ t r => exact ⟨t, _, rfl, r⟩
theorem BytsAre.inv0 {vs : List Value} (h : BytsAre vs []) : vs = [] := by cases h; rfl
theorem at_cons {α : Type} {R : α → Value → Prop} {k : α} {l : List α} {v : Value} {vs : List Value} (h0 : R k v) (h : ∀ (i : Nat) (w : Value), vs[i]? = some w → ∃ k : α, l[i]? = some k ∧ R k w) (i : Nat) (w : Value) (e : (v :: vs)[i]? = some w) : ∃ k', (k :: l)[i]? = some k' ∧ R k' w := by
  cases i with
  | zero => exact ⟨k, rfl, Option.some.inj e ▸ h0⟩
  | succ i => exact h i w e
theorem at_nil {α : Type} {R : α → Value → Prop} (i : Nat) (w : Value) (e : ([] : List Value)[i]? = some w) : ∃ k, ([] : List α)[i]? = some k ∧ R k w := nomatch e
/-- up to three octet strings, and what they are together -/
inductive BytF : List Value → List UInt8 → Prop
  | one {y : List UInt8} {t : Tok} : BytF [.bytes y.toArray t] y
  | two {y z : List UInt8} {t u : Tok} : BytF [.bytes y.toArray t, .bytes z.toArray u] (y ++ z)
  | three {y z x : List UInt8} {t u v : Tok} : BytF [.bytes y.toArray t, .bytes z.toArray u, .bytes x.toArray v] (y ++ z ++ x)
section
variable {prog : Program} {w : World} {A : Around} {E : Value → Shared → Prop} {h₀ : Heap} {L : Addr} {m : Str → Option Value} {news : List (Addr × Obj)}
theorem join_fl {hp : Heap} {gn : Array GenState} {dr : Drawn} {nk : Nat} {os : OsState} {l : Addr} {ys : List Value} {zs : List UInt8} {t : Tok} {n : Nat} {Q : Value → Shared → Prop} (N : News h₀ L hp news) (hm : (l, listOf ys.toArray n) ∈ news) (hz : zs.length ≤ 1000) (b : BytF ys zs)
    (h : ∀ t' tk', Q (.bytes zs.toArray t') ⟨hp, gn, dr, tk', os⟩) : wpAny (model prog w) A (call (.builtin "bytes.join") [.bytes #[] t, .ref l]) Q E ⟨hp, gn, dr, nk, os⟩ := by
  cases b with
  | one => exact join_c1 N hm rfl h
  | two => exact join_c2 N hm hz rfl h
  | three => exact join_c3 N hm hz rfl h
theorem rows_0 {s : Shared} {value slice : PySem.Expr} {l : Addr} {c : Nat} {u : Tok} {refs : List Value} {t1 t2 t3 : Addr} {y1 y2 y3 xs : List UInt8} {Q : Value → Shared → Prop} (N : News h₀ L s.heap news) (sh : Sh refs t1 t2 t3 y1 y2 y3 xs) (hm : (l, listOf refs.toArray c) ∈ news) (h : Q (.ref t1) s)
    (hs : subscripted slice false (.ref l) (.int 0 u) = operate [.ref l, .int 0 u] (getItem (.ref l) (.int 0 u)) := by with_unfolding_all rfl) :
    wpAny (model prog w) A (subscriptTail value slice (.ref l) (.int 0 u)) Q E s := item_lit N hm (by decide) (by decide) sh.at0 h hs
theorem rows_L {s : Shared} {value slice : PySem.Expr} {l : Addr} {c : Nat} {u : Tok} {refs : List Value} {t1 t2 t3 : Addr} {y1 y2 y3 xs : List UInt8} {Q : Value → Shared → Prop} (N : News h₀ L s.heap news) (sh : Sh refs t1 t2 t3 y1 y2 y3 xs) (hm : (l, listOf refs.toArray c) ∈ news) (h : Q (.ref t3) s)
    (hs : subscripted slice false (.ref l) (.int (-1) u) = operate [.ref l, .int (-1) u] (getItem (.ref l) (.int (-1) u)) := by with_unfolding_all rfl) :
    wpAny (model prog w) A (subscriptTail value slice (.ref l) (.int (-1) u)) Q E s :=
  tail_any (News.isList N hm).typeIs slot_list_getitem.lookup (wpAny_getItem_list_neg (News.isList N hm) (by decide) (by have := sh.size.1; omega) (by decide) sh.atL h) hs
theorem row_1 {s : Shared} {value slice : PySem.Expr} {r : Addr} {u : Tok} {f : Int} {y : List UInt8} {a b : Tok} {c e : Bool} {Q : Value → Shared → Prop} (N : News h₀ L s.heap news) (hm : (r, tup4 f a y b c e) ∈ news) (h : Q (.bytes y.toArray b) s)
    (hs : subscripted slice false (.ref r) (.int 1 u) = operate [.ref r, .int 1 u] (getItem (.ref r) (.int 1 u)) := by with_unfolding_all rfl) :
    wpAny (model prog w) A (subscriptTail value slice (.ref r) (.int 1 u)) Q E s :=
  item_tupleT (l := [.int f a, .bytes y.toArray b, .bool c, .bool e]) (News.isTup N hm) (by decide) (by decide) rfl rfl h hs
/-- a row with those octets stands there -/
def RowR (news : List (Addr × Obj)) (k : List UInt8) (v : Value) : Prop := ∃ r f a b c e, v = .ref r ∧ (r, tup4 f a k b c e) ∈ news
theorem rows_rest {env : Env} {elt : Expr} {x : Str} {scope : Scope} {cl : List (Str × Addr)} {s : Shared} {S : List (Addr × Obj) → Prop} {Fin : List Value → List (Addr × Obj) → Prop} {refs : List Value} {t1 t2 t3 : Addr} {y1 y2 y3 xs : List UInt8} {f f2 f3 : Int} {he : Bool} {a1 a2 a3 b1 b2 b3 : Tok} {c1 c2 c3 e1 e2 : Bool}
    (sh : Sh refs t1 t2 t3 y1 y2 y3 xs) (m1 : (t1, tup4 f a1 y1 b1 c1 e1) ∈ news) (m2 : (t2, tup4 f2 a2 y2 b2 c2 e2) ∈ news) (m3 : (t3, tup4 f3 a3 y3 b3 c3 he) ∈ news)
    (turn : ∀ r f a y b c e I oI C oC D m₂ ys h tk (E' : Value → Shared → Prop), (r, tup4 f a y b c e) ∈ (I, oI) :: (C, oC) :: (D, LCg.lst ys) :: news → LCg.NsObj oC m₂ → m₂ x = some (.ref r) → Fr h₀ L h m → News h₀ L h ((I, oI) :: (C, oC) :: (D, LCg.lst ys) :: news) → LCg.Off3 I C D news → ((@Ne Nat I C) ∧ (@Ne Nat I D) ∧ (@Ne Nat C D)) →
      wpAny (model prog w) A (eval elt (compEnvC scope cl C env)) (LCg.CompEnd h₀ L m { s with heap := h, toks := tk } I oI C oC D (LCg.lst ys) S (fun y' news' => KCbEl news y y' news')) E' { s with heap := h, toks := tk })
    (fin : KPfDone (∀ ys, BytF ys xs → Fin ys news)) : LCg.CompRest prog w A h₀ L m env elt x scope cl s S (fun i v => refs.toArray[i]? = some v) Fin refs.toArray.size 0 [] news := by
  have hR : ∀ {r f a y b c e}, (r, tup4 f a y b c e) ∈ news → RowR news y (.ref r) := fun hm => ⟨_, _, _, _, _, _, rfl, hm⟩
  have go : ∀ {l : List (List UInt8)}, l.length = refs.toArray.size → (∀ i v, i < refs.toArray.size → refs[i]? = some v → ∃ k, l[i]? = some k ∧ RowR news k v) → (∀ ys, BytsAre ys l → BytF ys xs) →
      LCg.CompRest prog w A h₀ L m env elt x scope cl s S (fun i v => refs.toArray[i]? = some v) Fin refs.toArray.size 0 [] news := fun hl hP hb =>
    kcb_gen id (RowR news) hl (fun i v hi hv => hP i v hi (by simpa using hv)) (fun k v I oI C oC D m₂ ys h tk E' hk hv hC hx F N off ne => by
      obtain ⟨r, f, a, b, c, e, rfl, hm⟩ := hv
      exact turn r f a k b c e I oI C oC D m₂ ys h tk E' (.tail _ (.tail _ (.tail _ hm))) hC hx F N off ne) fun ys hy => fin ys (hb ys (by rwa [List.map_id] at hy))
  have rm1 := hR m1
  have rm2 := hR m2
  have rm3 := hR m3
  cases sh with
  | one =>
    refine go (l := [y1]) rfl (fun i v _ => at_cons (R := RowR news) rm1 at_nil i v) fun ys hy => ?_
    obtain ⟨_, v1, rfl, hy1⟩ := BytsAre.inv hy
    cases hy1.inv0
    exact .one
  | two =>
    refine go (l := [y1, y3]) rfl (fun i v _ => at_cons (R := RowR news) rm1 (at_cons (R := RowR news) rm3 at_nil) i v) fun ys hy => ?_
    obtain ⟨_, v1, rfl, hy1⟩ := BytsAre.inv hy
    obtain ⟨_, v2, rfl, hy2⟩ := BytsAre.inv hy1
    cases hy2.inv0
    exact .two
  | three =>
    refine go (l := [y1, y2, y3]) rfl (fun i v _ => at_cons (R := RowR news) rm1 (at_cons (R := RowR news) rm2 (at_cons (R := RowR news) rm3 at_nil)) i v) fun ys hy => ?_
    obtain ⟨_, v1, rfl, hy1⟩ := BytsAre.inv hy
    obtain ⟨_, v2, rfl, hy2⟩ := BytsAre.inv hy1
    obtain ⟨_, v3, rfl, hy3⟩ := BytsAre.inv hy2
    cases hy3.inv0
    exact .three
end
theorem sub_app {X R A : List (Addr × Obj)} {a b : Addr × Obj} (h : ∀ p ∈ X, p ∈ R) : ∀ p ∈ a :: b :: (A ++ X), p ∈ a :: b :: (A ++ R) := fun p hp => by
  rcases List.mem_cons.1 hp with rfl | hp
  · exact .head _
  rcases List.mem_cons.1 hp with rfl | hp
  · exact .tail _ (.head _)
  rcases List.mem_append.1 hp with hp | hp
  · exact .tail _ (.tail _ (List.mem_append_left _ hp))
  · exact .tail _ (.tail _ (List.mem_append_right _ (h p hp)))
end
end Mine
-- part C12
namespace Mine
section
theorem ln1_0394c9 : True := by
  k_with_none
  k_with "callWith ref" => (k_here; (with_reducible rename Fr _ _ _ _ => kF); (with_reducible rename Frag.In _ _ => kX); first | ((with_reducible show wpAny _ _ (callWith _ _ _ (backTo _ (starEach [] _)) []) _ _ _); k_dflt (refine' callWith_K0 (Frag.In.keeps kX (Fr.keep kF)) ?k2w1 ?_; (case k2w1 => k_is); k_whole)) | ((with_reducible show wpAny _ _ (callWith _ _ _ (backTo _ (starEach (_ :: _) _)) []) _ _ _); k_dflt (refine' callWith_K kX ?k2w1 ?_; (case k2w1 => k_is); k_whole)))
  k_with "eval Name" => (k_here; (fail_if_success (with_reducible show wpAny _ _ (eval (Expr.Name _ _) (compEnvC _ _ _ _)) _ _ _)); k_dflt (first | (refine' nameX_L ?Fw2 ?vw2 ?_ ?aw2 ?bw2; (case bw2 => kernel_rfl!); (case aw2 => kernel_rfl!); (case Fw2 => k_asm); (case vw2 => rfl); k_whole) | (refine' nameX_K ?Fw2 ?Xw2 ?Tw2 ?ew2 ?_ ?aw2 ?bw2; (case bw2 => kernel_rfl!); (case aw2 => kernel_rfl!); (case Fw2 => k_asm); (case Xw2 => k_asm); (case Tw2 => k_asm); (case ew2 => k_is); k_whole) | (refine' nameX_B ?Fw2 ?Xw2 ?Tw2 ?ew2 ?vw2 ?nw2 ?_ ?aw2 ?bw2; (case bw2 => kernel_rfl!); (case aw2 => kernel_rfl!); (case Fw2 => k_asm); (case Xw2 => k_asm); (case Tw2 => k_asm); (case ew2 => k_is); (case vw2 => boot_fast); (case nw2 => decide); k_whole) | (refine' nameX_C ?Nw2 ?cw2 ?mw2 ?dw2 ?_ ?aw2 ?bw2; (case bw2 => kernel_rfl!); (case aw2 => kernel_rfl!); (case Nw2 => k_asm); (case cw2 => rfl); (case mw2 => k_mem); (case dw2 => k_asm); k_whole) | (refine' nameX_F ?Nw2 ?cw2 ?mw2 ?dw2 ?_ ?aw2 ?bw2; (case bw2 => kernel_rfl!); (case aw2 => kernel_rfl!); (case Nw2 => k_asm); (case cw2 => rfl); (case mw2 => k_mem); (case dw2 => k_asm); k_whole)))
  k_with "ord" => ((with_reducible rename DifO _ => hO9); (first | refine' hO9 0 _ _ _ rfl ?hbw3 ?hcw3 | refine' hO9 1 _ _ _ rfl ?hbw3 ?hcw3 | refine' hO9 2 _ _ _ rfl ?hbw3 ?hcw3 | refine' hO9 3 _ _ _ rfl ?hbw3 ?hcw3 | refine' hO9 4 _ _ _ rfl ?hbw3 ?hcw3 | refine' hO9 5 _ _ _ rfl ?hbw3 ?hcw3); (case hbw3 => first | exact (rfl : (_ : List Addr)[0]? = _) | exact (rfl : (_ : List Addr)[1]? = _) | exact (rfl : (_ : List Addr)[2]? = _) | exact (rfl : (_ : List Addr)[3]? = _) | exact (rfl : (_ : List Addr)[4]? = _) | exact (rfl : (_ : List Addr)[5]? = _)); (case hcw3 => exact rfl))
  k_with "nst" => ((with_reducible show wpAny _ _ _ _ _ (Shared.mk _ _ _ _ _)); refine' nst ?kew4 ?_; (case kew4 => (dsimp only; exact rfl)))
  k_with "all" => (first | exact neNil | (refine' neC ?aw5 ?bw5; (case aw5 => k_ne); (case bw5 => k_all)))
  k_with "room" => (first | exact room_ (by assumption) (by exact rfl) | exact room0 (by assumption) (by exact rfl) | ((try simp only [depth_under_make, depth_under_kw, depth_in1, depth_deeper, depth_caller]); (try dsimp only [ktrTop]); omega))
  k_with "units" => (first | exact room_ (by assumption) (by exact rfl) | exact room0 (by assumption) (by exact rfl) | ((try simp only [units_in1, units_deeper, Around.mark_units, units_caller]); (try dsimp only [ktrTop]); omega))
  k_with "execs cons" => ((first | (with_reducible refine execs_T ?_; intro tk) | refine wpAny_execs_cons ?_); (try k_fold))
  k_with "getAttr ref" => (k_here; k_dflt (refine' oget ?k1w9 ?k2w9 ?k3w9 ?k4w9 ?k5w9 ?k6w9 ?k7w9 ?k8w9 ?k9w9 ?_; (case k1w9 => k_asm); (case k2w9 => k_asm); (case k3w9 => k_inst); (case k4w9 => k_is); (case k5w9 => k_is); (case k6w9 => k_is); (case k7w9 => k_is); (case k8w9 => k_get); (case k9w9 => k_handed); k_whole))
  k_with "storeName" => (k_here; k_dflt (refine' ostore ?kFw10 ?kNw10 ?_ ?kaw10 ?kbw10; (case kaw10 => rfl); (case kbw10 => rfl); (case kFw10 => k_asm); (case kNw10 => k_asm); k_whole; intro h' m9 F' N'; (try k_sweep)))
  k_with "eval Constant int" => (refine cint ?_)
  k_with "eval Constant bytes" => (refine cbytes ?_)
  k_with "binaryOp Mod int int" => (k_here; (with_reducible refine mod_pos ?kbw13 ?_); (case kbw13 => omega); intro t' tk')
  k_with "binaryOp FloorDiv int int" => (k_here; (with_reducible refine div_pos ?kbw14 ?kpw14 ?_); (case kbw14 => omega); (case kpw14 => omega); intro t' tk')
  k_with "binaryOp Mult int int" => (k_here; (with_reducible refine mul_small ?kbw15 ?_); (case kbw15 => omega); intro t' tk')
  k_with "subscriptTail Name Constant ref int" => (k_here; (with_reducible show wpAny _ _ (subscriptTail _ _ (Value.ref _) (Value.int _ _)) _ _ _); k_dflt (first | ((with_reducible show wpAny _ _ (subscriptTail _ _ (Value.ref _) (Value.int 0 _)) _ _ _); refine' item_0 ?Nw16 ?mw16 ?_ ?hsw16; (case Nw16 => k_asm); (case mw16 => k_mem); (case hsw16 => with_unfolding_all rfl); k_whole) | ((with_reducible show wpAny _ _ (subscriptTail _ _ (Value.ref _) (Value.int 1 _)) _ _ _); refine' item_1 ?Nw16 ?mw16 ?_ ?hsw16; (case Nw16 => k_asm); (case mw16 => k_mem); (case hsw16 => with_unfolding_all rfl); k_whole)))
  k_with "compareOp Eq int int" => (k_here; first | (with_reducible refine ceq_t ?chw17 ?_; (case chw17 => omega)) | (with_reducible refine ceq_f ?chw17 ?_; (case chw17 => omega)))
  k_with "compareOp NotEq int int" => (k_here; first | (with_reducible refine cne_t ?chw18 ?_; (case chw18 => omega)) | (with_reducible refine cne_f ?chw18 ?_; (case chw18 => omega)))
  k_with "compareOp Lt int int" => (k_here; first | (with_reducible refine clt_t ?chw19 ?_; (case chw19 => omega)) | (with_reducible refine clt_f ?chw19 ?_; (case chw19 => omega)))
  k_with "compareOp LtE int int" => (k_here; first | (with_reducible refine cle_t ?chw20 ?_; (case chw20 => omega)) | (with_reducible refine cle_f ?chw20 ?_; (case chw20 => omega)))
  k_with "compareOp Gt int int" => (k_here; first | (with_reducible refine cgt_t ?chw21 ?_; (case chw21 => omega)) | (with_reducible refine cgt_f ?chw21 ?_; (case chw21 => omega)))
  k_with "compareOp GtE int int" => (k_here; first | (with_reducible refine cge_t ?chw22 ?_; (case chw22 => omega)) | (with_reducible refine cge_f ?chw22 ?_; (case chw22 => omega)))
  k_with "call type:int" => (k_here; (with_reducible show wpAny _ _ (call (Value.type "int") [Value.bool _]) _ _ _); (first | (with_reducible refine int_bf ?_) | (with_reducible refine int_bt ?_) | (with_reducible refine int_bb (by assumption) ?_)); intro t' tk')
  k_with "call builtin:max" => (k_here; (with_reducible show wpAny _ _ (call (Value.builtin _) [Value.int _ _, Value.int _ _]) _ _ _); k_dflt (refine' max2 ?hhw24 ?k1w24 ?k2w24 ?k3w24 ?_; (case hhw24 => with_unfolding_all rfl); (case k1w24 => k_asm); (case k2w24 => k_asm); (case k3w24 => first | exact (Int.max_eq_left (by omega)).symm | exact (Int.max_eq_right (by omega)).symm | exact rfl); k_whole); intro t' h' tk' F' N'; (try k_sweep))
  k_with "call builtin:min" => (k_here; (with_reducible show wpAny _ _ (call (Value.builtin _) [Value.int _ _, Value.int _ _]) _ _ _); k_dflt (refine' min2 ?hhw25 ?k1w25 ?k2w25 ?k3w25 ?_; (case hhw25 => with_unfolding_all rfl); (case k1w25 => k_asm); (case k2w25 => k_asm); (case k3w25 => first | exact (Int.min_eq_left (by omega)).symm | exact (Int.min_eq_right (by omega)).symm | exact rfl); k_whole); intro t' h' tk' F' N'; (try k_sweep))
  k_with "call builtin:min" => (k_here; (with_reducible show wpAny _ _ (call (Value.builtin _) [Value.int _ _, Value.int _ _, Value.int _ _]) _ _ _); k_dflt (refine' min3 ?hhw26 ?k1w26 ?k2w26 ?k3w26 ?_; (case hhw26 => with_unfolding_all rfl); (case k1w26 => k_asm); (case k2w26 => k_asm); (case k3w26 => first | exact m3a (by omega) | exact m3b (by omega) | exact m3c (by omega) | exact rfl); k_whole); intro t' h' tk' F' N'; (try k_sweep))
  trivial
theorem ln2_0394c9 : True := by
  k_with "klt" => (skip)
  k_with "ne" => (refine neN ?_; (try dsimp only); first | exact Dif.l (by with_reducible assumption) | exact Dif.r (by with_reducible assumption) | (k_extra "ord") | omega)
  k_with "call builtin:len" => (k_here; (with_reducible show wpAny _ _ (call (Value.builtin "len") [Value.bytes (List.toArray _) _]) _ _ _); (refine blen ?kzw29 ?_); (case kzw29 => first | omega | decide); intro t' tk'; (try simp only [List.length_nil]))
  k_with "call type:bytes" => (k_here; (with_reducible show wpAny _ _ (call (Value.type "bytes") [Value.bytes _ _]) _ _ _); (refine bb_call ?_))
  k_with "binaryOp Add bytes bytes" => (k_here; (with_reducible show wpAny _ _ (binaryOp Operator.Add (Value.bytes _ _) (Value.bytes (List.toArray _) _)) _ _ _); (refine badd0 ?kzw31 ?_); (case kzw31 => omega); intro t' tk')
  k_with "subscriptTail Name Slice bytes ref" => (k_here; (with_reducible show wpAny _ _ (subscriptTail _ (Expr.Slice _ _ none _) (Value.bytes _ _) (Value.ref _)) _ _ _); (with_reducible rename Fr _ _ _ _ => F'); (with_reducible rename News _ _ _ _ => N'); (refine' bslice (s := ⟨_, _, _, _, _⟩) F' N' ?klw32 ?kuw32 ?kzw32 ?kew32 ?_ ?ksw32 ?ktw32; (case klw32 => constructor); (case kuw32 => constructor); (case ksw32 => with_unfolding_all rfl); (case ktw32 => intro _; with_unfolding_all rfl); (case kzw32 => first | with_reducible assumption | omega); (case kew32 => first | exact b_all (by omega) | exact b_to (by omega) | exact (b_from (by first | with_reducible assumption | omega)).trans (by assumption) | exact b_from (by first | with_reducible assumption | omega) | exact b_mid (by omega) (by omega) (by omega)); k_whole); intro t' h' tk' F' N')
  k_with "subscriptTail Attribute Slice bytes ref" => (k_here; (with_reducible show wpAny _ _ (subscriptTail _ (Expr.Slice _ _ none _) (Value.bytes _ _) (Value.ref _)) _ _ _); (with_reducible rename Fr _ _ _ _ => F'); (with_reducible rename News _ _ _ _ => N'); (refine' bslice (s := ⟨_, _, _, _, _⟩) F' N' ?klw33 ?kuw33 ?kzw33 ?kew33 ?_ ?ksw33 ?ktw33; (case klw33 => constructor); (case kuw33 => constructor); (case ksw33 => with_unfolding_all rfl); (case ktw33 => intro _; with_unfolding_all rfl); (case kzw33 => first | with_reducible assumption | omega); (case kew33 => first | exact b_all (by omega) | exact b_to (by omega) | exact (b_from (by first | with_reducible assumption | omega)).trans (by assumption) | exact b_from (by first | with_reducible assumption | omega) | exact b_mid (by omega) (by omega) (by omega)); k_whole); intro t' h' tk' F' N')
  k_with "call ref" => (k_here; (with_reducible show wpAny _ _ (call (Value.ref 378) [Value.int _ _, Value.int _ _, Value.int _ _, Value.int _ _]) _ _ _); k_dflt (refine' make_ctr (fun x dx hl => c_initS hl) ?kBw34 ?kFw34 ?kXw34 ?kNw34 ?kTw34 ?kkw34 ?kmw34 ?kiw34 ?kfw34 ?kdw34 ?kuw34 ?_; (case kBw34 => k_asm); (case kFw34 => k_asm); (case kXw34 => k_asm); (case kNw34 => k_asm); (case kTw34 => k_asm); (case kkw34 => first | exact rfl | assumption); (case kmw34 => k_is); (case kiw34 => k_is); (case kfw34 => k_is); (case kdw34 => ktr_room); (case kuw34 => ktr_units); k_whole); intro x' xd' ⟨p', pd', q', qd', K1', K2', K3', b3', b4', b5', d1', d2', d4', g1', ho'⟩ h' tk' l1 l2 F' N' df'; (simp only [AllLt, and_true] at l1); (replace l2 := ltN l2); (try dsimp only at N' df'); (try simp only [List.cons_append, List.nil_append] at N' df'); (try simp only [DifAll, DifR] at df'); (have hO9 := difO_of ho'); (try k_sweep))
  k_with "call ref" => (k_here; (with_reducible show wpAny _ _ (call (Value.ref 177) [Value.ref _, Value.int _ _, Value.int _ _, Value.int _ _]) _ _ _); k_dflt (refine' use_u (c_take_first ?hnw35 ?h3w35) ?kBw35 ?kFw35 ?kXw35 ?kNw35 ?kTw35 ?kkw35 ?krw35 ?kUw35 ?kdw35 ?kuw35 ?_; (case kBw35 => k_asm); (case kFw35 => k_asm); (case kXw35 => k_asm); (case kNw35 => k_asm); (case kTw35 => k_asm); (case kkw35 => first | exact rfl | assumption); (case krw35 => (refine' (subC ?m1w35 (subC ?m2w35 subN)); (case m1w35 => k_mem); (case m2w35 => k_mem))); (case kUw35 => intro t'; k_upd); (case kdw35 => ktr_room); (case kuw35 => ktr_units); (case hnw35 => k_ne); (case h3w35 => first | exact (Int.max_eq_left (by omega)).symm | exact (Int.max_eq_right (by omega)).symm | exact rfl); k_whole); intro t' h' tk' F' N'; (try dsimp only); (try k_sweep))
  k_with "call ref" => (k_here; (with_reducible show wpAny _ _ (call (Value.ref 135) [Value.int _ _, Value.int _ _, Value.int _ _]) _ _ _); k_dflt (refine' use_r c_distance ?kBw36 ?kFw36 ?kXw36 ?kNw36 ?kTw36 ?kkw36 ?krw36 ?kdw36 ?kuw36 ?_; (case kBw36 => k_asm); (case kFw36 => k_asm); (case kXw36 => k_asm); (case kNw36 => k_asm); (case kTw36 => k_asm); (case kkw36 => first | exact rfl | assumption); (case krw36 => exact subN); (case kdw36 => ktr_room); (case kuw36 => ktr_units); k_whole); intro t' h' tk' F' N'; (try dsimp only); (try k_sweep))
  k_with "call ref" => (k_here; (with_reducible show wpAny _ _ (call (Prod.fst (Value.ref 241, [Value.ref _])) (Prod.snd (Value.ref 241, [Value.ref _]) ++ [])) _ _ _); k_dflt (refine' use_r (c_flight (K1 := ⟨_, _, _, _, _, _, _, _, _, _, _, _, _, _⟩)) ?kBw37 ?kFw37 ?kXw37 ?kNw37 ?kTw37 ?kkw37 ?krw37 ?kdw37 ?kuw37 ?_; (case kBw37 => k_asm); (case kFw37 => k_asm); (case kXw37 => k_asm); (case kNw37 => k_asm); (case kTw37 => k_asm); (case kkw37 => first | exact rfl | assumption); (case krw37 => (refine' (subC ?m1w37 (subC ?m2w37 subN)); (case m1w37 => k_mem); (case m2w37 => k_mem))); (case kdw37 => ktr_room); (case kuw37 => ktr_units); k_whole); intro t' h' tk' F' N'; (try dsimp only); (try k_sweep))
  k_with "call ref" => (k_here; (with_reducible show wpAny _ _ (call (Prod.fst (Value.ref 326, [Value.ref _])) (Prod.snd (Value.ref 326, [Value.ref _]) ++ [])) _ _ _); k_dflt (refine' use_r (c_ever (K1 := ⟨_, _, _, _, _, _, _, _, _, _, _, _, _, _⟩)) ?kBw38 ?kFw38 ?kXw38 ?kNw38 ?kTw38 ?kkw38 ?krw38 ?kdw38 ?kuw38 ?_; (case kBw38 => k_asm); (case kFw38 => k_asm); (case kXw38 => k_asm); (case kNw38 => k_asm); (case kTw38 => k_asm); (case kkw38 => first | exact rfl | assumption); (case krw38 => (refine' (subC ?m1w38 (subC ?m2w38 subN)); (case m1w38 => k_mem); (case m2w38 => k_mem))); (case kdw38 => ktr_room); (case kuw38 => ktr_units); k_whole); intro t' h' tk' F' N'; (try dsimp only); (try k_sweep))
  k_with "call ref" => (k_here; (with_reducible show wpAny _ _ (call (Value.ref 290) [Value.ref _, Value.int _ _]) _ _ _); k_dflt (refine' use_u (c_go (K1 := ⟨_, _, _, _, _, _, _, _, _, _, _, _, _, _⟩) ?how39 ?h1w39 ?hnw39 ?h0w39) ?kBw39 ?kFw39 ?kXw39 ?kNw39 ?kTw39 ?kkw39 ?krw39 ?kUw39 ?kdw39 ?kuw39 ?_; (case kBw39 => k_asm); (case kFw39 => k_asm); (case kXw39 => k_asm); (case kNw39 => k_asm); (case kTw39 => k_asm); (case kkw39 => first | exact rfl | assumption); (case krw39 => (refine' (subC ?m1w39 (subC ?m2w39 subN)); (case m1w39 => k_mem); (case m2w39 => k_mem))); (case kUw39 => intro t'; k_upd); (case kdw39 => ktr_room); (case kuw39 => ktr_units); (case how39 => exact ho'.1); (case h1w39 => omega); (case h0w39 => omega); (case hnw39 => first | assumption | exact rfl); k_whole); intro t' h' tk' F' N'; (try dsimp only); (try k_sweep))
  k_with "call ref" => (k_here; (with_reducible show wpAny _ _ (call (Value.ref 100) [Value.ref _, Value.bytes _ _]) _ _ _); k_dflt (refine' use_u (c_put (K3 := ⟨_, _, _⟩) ?hnw40 ?h1w40) ?kBw40 ?kFw40 ?kXw40 ?kNw40 ?kTw40 ?kkw40 ?krw40 ?kUw40 ?kdw40 ?kuw40 ?_; (case kBw40 => k_asm); (case kFw40 => k_asm); (case kXw40 => k_asm); (case kNw40 => k_asm); (case kTw40 => k_asm); (case kkw40 => first | exact rfl | assumption); (case krw40 => (refine' (subC ?m1w40 (subC ?m2w40 subN)); (case m1w40 => k_mem); (case m2w40 => k_mem))); (case kUw40 => intro t'; k_upd); (case kdw40 => ktr_room); (case kuw40 => ktr_units); (case hnw40 => k_ne); (case h1w40 => omega); k_whole); intro t' h' tk' F' N'; (try dsimp only); (try k_sweep))
  k_with "call ref" => (k_here; (with_reducible show wpAny _ _ (call (Value.ref 114) [Value.ref _, Value.int _ _]) _ _ _); k_dflt (refine' use_u (c_drop (K3 := ⟨_, _, _⟩) ?hyw41 ?hnw41 ?h1w41) ?kBw41 ?kFw41 ?kXw41 ?kNw41 ?kTw41 ?kkw41 ?krw41 ?kUw41 ?kdw41 ?kuw41 ?_; (case kBw41 => k_asm); (case kFw41 => k_asm); (case kXw41 => k_asm); (case kNw41 => k_asm); (case kTw41 => k_asm); (case kkw41 => first | exact rfl | assumption); (case krw41 => (refine' (subC ?m1w41 (subC ?m2w41 subN)); (case m1w41 => k_mem); (case m2w41 => k_mem))); (case kUw41 => intro t'; k_upd); (case kdw41 => ktr_room); (case kuw41 => ktr_units); (case hyw41 => first | exact drop_0 (by omega) | exact rfl); (case hnw41 => k_ne); (case h1w41 => omega); k_whole); intro t' h' tk' F' N'; (try dsimp only); (try k_sweep))
  k_with "call ref" => (k_here; (with_reducible show wpAny _ _ (call (Value.ref 312) [Value.ref _, Value.int _ _, Value.bool _]) _ _ _); k_dflt (refine' use_d (c_pieces (K1 := ⟨_, _, _, _, _, _, _, _, _, _, _, _, _, _⟩) (K2 := ⟨_, _, _, _, _, _⟩) (K3 := ⟨_, _, _⟩) ?how42 ?hzw42 ?h0w42 ?hew42 ?hfw42) ?kBw42 ?kFw42 ?kXw42 ?kNw42 ?kTw42 ?kkw42 ?krw42 ?kdw42 ?kuw42 ?_; (case kBw42 => k_asm); (case kFw42 => k_asm); (case kXw42 => k_asm); (case kNw42 => k_asm); (case kTw42 => k_asm); (case kkw42 => first | exact rfl | assumption); (case krw42 => (refine' (subC ?m1w42 (subC ?m2w42 (subC ?m3w42 (subC ?m4w42 (subC ?m5w42 (subC ?m6w42 subN)))))); (case m1w42 => k_mem); (case m2w42 => k_mem); (case m3w42 => k_mem); (case m4w42 => k_mem); (case m5w42 => k_mem); (case m6w42 => k_mem))); (case kdw42 => ktr_room); (case kuw42 => ktr_units); (case hew42 => first | assumption | exact ev_of (by assumption) (by assumption)); (case hfw42 => assumption); (case how42 => exact ho'); (case hzw42 => omega); (case h0w42 => omega); k_whole); intro ⟨l', c', v', v2', refs', rows', hr', ne'⟩ h' tk' F' N'; (try dsimp only at N'); (try dsimp only); (try k_sweep))
  trivial
structure Snt (is f fe : Int) (he : Bool) (xs : List UInt8) where
  u : Addr
  l : Addr
  x : Addr
  xd : Addr
  p : Addr
  pd : Addr
  q : Addr
  qd : Addr
  c : Nat
  K1 : STk
  K2 : PTk
  K3 : QTk
  b3 : Tok
  b4 : Tok
  b5 : Tok
  d1 : Tok
  d2 : Tok
  d3 : Tok
  d4 : Tok
  g1 : Tok
  refs : List Value
  t1 : Addr
  t2 : Addr
  t3 : Addr
  y1 : List UInt8
  y2 : List UInt8
  y3 : List UInt8
  f2 : Int
  f3 : Int
  r1 : Tok
  r2 : Tok
  r3 : Tok
  w1 : Tok
  w2 : Tok
  w3 : Tok
  c1 : Bool
  c2 : Bool
  c3 : Bool
  e1 : Bool
  e2 : Bool
  sh : Sh refs t1 t2 t3 y1 y2 y3 xs
  ho : LtH xd x ∧ LtH x pd ∧ LtH pd p ∧ LtH p qd ∧ LtH qd q
theorem c_sent {w : World} {is f fe ev : Int} {t1 t2 : Tok} {he : Bool} {xs : List UInt8} (hz : 1 ≤ xs.length ∧ xs.length ≤ 12) (h0 : 0 ≤ is ∧ is < 256) (hev : EvIs ev he) (hf : f = (is + 1) % 256) (hfe : fe = (f + ((xs.length : Int) + ev)) % 256) :
    Ctr w 417 [.int is t1, .bytes xs.toArray t2, .bool he] [] 40 600 (fun v n' => ∃ t : Snt is f fe he xs, v = (fun t => .ref t.u) t ∧ n' = (t.u, { cls := .type "tuple", data := .seq #[.ref t.x, .ref t.l] }) :: (t.l, listOf t.refs.toArray t.c) :: ([(t.xd, dictOf (sndE w t.K1 t.p t.q is f fe fe false he he t.b3 t.b4 t.b5) 11), (t.x, instObj 378 t.xd), (t.qd, dictOf (queE w t.K3 20 (xs.toArray) t.g1) 2), (t.q, instObj 117 t.qd), (t.pd, dictOf (peerE w t.K2 20 t.d1 20 t.d2 (.int 0 t.d3) (.int f t.d4)) 5), (t.p, instObj 187 t.pd)] ++ rows3 f t.f2 t.f3 he t.t1 t.t2 t.t3 t.y1 t.y2 t.y3 t.r1 t.r2 t.r3 t.w1 t.w2 t.w3 t.c1 t.c2 t.c3 t.e1 t.e2)) := by
  subst hf
  have hev2 := hev.rng
  intro loose mean mg mb dp un gd cn cs ad ccd cl outer base L s Rr H0 hH hd1 hu hret
  obtain ⟨B, X, T⟩ := H0
  try have hO9 := difO_of ho
  try have hO9 := difO4 ho
  try have hO9 := difO2 ho
  generalize hg : hideAll s.heap (List.map Prod.fst _) = g at *
  replace hg := hg.symm
  revert X; k_fill; intro X
  k_dflt (
    refine' code_ctr ?k1 ?kg ?k3 ?k5 ?kH ?k6 ?k7 ?k8 ?k9 ?kB ?_ ?c2 ?c3 ?c4 ?c5
    (case kg => exact hg)
    (case k1 => assumption)
    (case k3 => assumption)
    (case k5 => assumption)
    (case kH => assumption)
    (case k6 => k_is)
    (case k7 => k_is)
    (case k8 => ktr_room)
    (case k9 => first | exact BindsTo.of_eq rfl | exact binds_K (Frag.In.keeps X (by rw [hg]; exact fun b o e => of_hideAll _ e)) rfl (by k_is) rfl rfl rfl)
    (case c5 => decide)
    (case kB => exact locs rfl)
    (case c2 => exact rfl)
    (case c3 => exact rfl)
    (case c4 => exact rfl)
    k_whole
    intro L' h' F' N'
    (try dsimp only)
    (refine A_let ?_; intro A9; have dA9 : A9.depth = dp + 1 := rfl; have uA9 : A9.units = un + 3 := rfl)
    (try k_fold)
    (refine fr_let F' ?_; clear F'; intro m9 F'))
  (repeat' (first | (k_extra "nst") | (k_unfold; (try dsimp only)) | (k_end; kc_close) | walk1 | (dsimp only; walk1) | (leave1; walk_say "STEP leave1"; (try dsimp only)) | fail "no step"))
  all_goals (rcases Bool.eq_false_or_eq_true he with h9 | h9 <;> subst h9 <;> first | contradiction | skip)
  all_goals ((have hpd := pad_of hr'); (obtain ⟨hsh, hsub⟩ := hpd); refine' end_u (s := s) hret (Snt.mk _ _ _ _ _ _ _ _ _ (STk.mk _ _ _ _ _ _ _ _ _ _ _ _ _ _) (PTk.mk _ _ _ _ _ _) (QTk.mk _ _ _) _ _ _ _ _ _ _ _ _ _ _ _ _ _ _ _ _ _ _ _ _ _ _ _ _ _ _ _ hsh ho') rfl (by assumption) (by assumption) (sub_app hsub))
end
end Mine
-- part RefB
namespace Mine
section
theorem ln1_5daf2c : True := by
  k_with_none
  k_with "callWith ref" => (k_here; (with_reducible rename Fr _ _ _ _ => kF); (with_reducible rename Frag.In _ _ => kX); first | ((with_reducible show wpAny _ _ (callWith _ _ _ (backTo _ (starEach [] _)) []) _ _ _); k_dflt (refine' callWith_K0 (Frag.In.keeps kX (Fr.keep kF)) ?k2w1 ?_; (case k2w1 => k_is); k_whole)) | ((with_reducible show wpAny _ _ (callWith _ _ _ (backTo _ (starEach (_ :: _) _)) []) _ _ _); k_dflt (refine' callWith_K kX ?k2w1 ?_; (case k2w1 => k_is); k_whole)))
  k_with "eval Name" => (k_here; (fail_if_success (with_reducible show wpAny _ _ (eval (Expr.Name _ _) (compEnvC _ _ _ _)) _ _ _)); k_dflt (first | (refine' nameX_L ?Fw2 ?vw2 ?_ ?aw2 ?bw2; (case bw2 => kernel_rfl!); (case aw2 => kernel_rfl!); (case Fw2 => k_asm); (case vw2 => rfl); k_whole) | (refine' nameX_K ?Fw2 ?Xw2 ?Tw2 ?ew2 ?_ ?aw2 ?bw2; (case bw2 => kernel_rfl!); (case aw2 => kernel_rfl!); (case Fw2 => k_asm); (case Xw2 => k_asm); (case Tw2 => k_asm); (case ew2 => k_is); k_whole) | (refine' nameX_B ?Fw2 ?Xw2 ?Tw2 ?ew2 ?vw2 ?nw2 ?_ ?aw2 ?bw2; (case bw2 => kernel_rfl!); (case aw2 => kernel_rfl!); (case Fw2 => k_asm); (case Xw2 => k_asm); (case Tw2 => k_asm); (case ew2 => k_is); (case vw2 => boot_fast); (case nw2 => decide); k_whole) | (refine' nameX_C ?Nw2 ?cw2 ?mw2 ?dw2 ?_ ?aw2 ?bw2; (case bw2 => kernel_rfl!); (case aw2 => kernel_rfl!); (case Nw2 => k_asm); (case cw2 => rfl); (case mw2 => k_mem); (case dw2 => k_asm); k_whole) | (refine' nameX_F ?Nw2 ?cw2 ?mw2 ?dw2 ?_ ?aw2 ?bw2; (case bw2 => kernel_rfl!); (case aw2 => kernel_rfl!); (case Nw2 => k_asm); (case cw2 => rfl); (case mw2 => k_mem); (case dw2 => k_asm); k_whole)))
  k_with "ord" => ((with_reducible rename DifO _ => hO9); (first | refine' hO9 0 _ _ _ rfl ?hbw3 ?hcw3 | refine' hO9 1 _ _ _ rfl ?hbw3 ?hcw3 | refine' hO9 2 _ _ _ rfl ?hbw3 ?hcw3 | refine' hO9 3 _ _ _ rfl ?hbw3 ?hcw3 | refine' hO9 4 _ _ _ rfl ?hbw3 ?hcw3 | refine' hO9 5 _ _ _ rfl ?hbw3 ?hcw3); (case hbw3 => first | exact (rfl : (_ : List Addr)[0]? = _) | exact (rfl : (_ : List Addr)[1]? = _) | exact (rfl : (_ : List Addr)[2]? = _) | exact (rfl : (_ : List Addr)[3]? = _) | exact (rfl : (_ : List Addr)[4]? = _) | exact (rfl : (_ : List Addr)[5]? = _)); (case hcw3 => exact rfl))
  k_with "nst" => ((with_reducible show wpAny _ _ _ _ _ (Shared.mk _ _ _ _ _)); refine' nst ?kew4 ?_; (case kew4 => (dsimp only; exact rfl)))
  k_with "all" => (first | exact neNil | (refine' neC ?aw5 ?bw5; (case aw5 => k_ne); (case bw5 => k_all)))
  k_with "room" => (first | exact room_ (by assumption) (by exact rfl) | exact room0 (by assumption) (by exact rfl) | ((try simp only [depth_under_make, depth_under_kw, depth_in1, depth_deeper, depth_caller]); (try dsimp only [ktrTop]); omega))
  k_with "units" => (first | exact room_ (by assumption) (by exact rfl) | exact room0 (by assumption) (by exact rfl) | ((try simp only [units_in1, units_deeper, Around.mark_units, units_caller]); (try dsimp only [ktrTop]); omega))
  k_with "execs cons" => ((first | (with_reducible refine execs_T ?_; intro tk) | refine wpAny_execs_cons ?_); (try k_fold))
  k_with "getAttr ref" => (k_here; k_dflt (refine' oget ?k1w9 ?k2w9 ?k3w9 ?k4w9 ?k5w9 ?k6w9 ?k7w9 ?k8w9 ?k9w9 ?_; (case k1w9 => k_asm); (case k2w9 => k_asm); (case k3w9 => k_inst); (case k4w9 => k_is); (case k5w9 => k_is); (case k6w9 => k_is); (case k7w9 => k_is); (case k8w9 => k_get); (case k9w9 => k_handed); k_whole))
  k_with "storeName" => (k_here; k_dflt (refine' ostore ?kFw10 ?kNw10 ?_ ?kaw10 ?kbw10; (case kaw10 => rfl); (case kbw10 => rfl); (case kFw10 => k_asm); (case kNw10 => k_asm); k_whole; intro h' m9 F' N'; (try k_sweep)))
  k_with "eval Constant int" => (refine cint ?_)
  k_with "eval Constant bytes" => (refine cbytes ?_)
  k_with "binaryOp Mod int int" => (k_here; (with_reducible refine mod_pos ?kbw13 ?_); (case kbw13 => omega); intro t' tk')
  k_with "binaryOp FloorDiv int int" => (k_here; (with_reducible refine div_pos ?kbw14 ?kpw14 ?_); (case kbw14 => omega); (case kpw14 => omega); intro t' tk')
  k_with "binaryOp Mult int int" => (k_here; (with_reducible refine mul_small ?kbw15 ?_); (case kbw15 => omega); intro t' tk')
  k_with "subscriptTail Name Constant ref int" => (k_here; (with_reducible show wpAny _ _ (subscriptTail _ _ (Value.ref _) (Value.int _ _)) _ _ _); k_dflt (first | ((with_reducible show wpAny _ _ (subscriptTail _ _ (Value.ref _) (Value.int 0 _)) _ _ _); refine' item_0 ?Nw16 ?mw16 ?_ ?hsw16; (case Nw16 => k_asm); (case mw16 => k_mem); (case hsw16 => with_unfolding_all rfl); k_whole) | ((with_reducible show wpAny _ _ (subscriptTail _ _ (Value.ref _) (Value.int 1 _)) _ _ _); refine' item_1 ?Nw16 ?mw16 ?_ ?hsw16; (case Nw16 => k_asm); (case mw16 => k_mem); (case hsw16 => with_unfolding_all rfl); k_whole)))
  k_with "compareOp Eq int int" => (k_here; first | (with_reducible refine ceq_t ?chw17 ?_; (case chw17 => omega)) | (with_reducible refine ceq_f ?chw17 ?_; (case chw17 => omega)))
  k_with "compareOp NotEq int int" => (k_here; first | (with_reducible refine cne_t ?chw18 ?_; (case chw18 => omega)) | (with_reducible refine cne_f ?chw18 ?_; (case chw18 => omega)))
  k_with "compareOp Lt int int" => (k_here; first | (with_reducible refine clt_t ?chw19 ?_; (case chw19 => omega)) | (with_reducible refine clt_f ?chw19 ?_; (case chw19 => omega)))
  k_with "compareOp LtE int int" => (k_here; first | (with_reducible refine cle_t ?chw20 ?_; (case chw20 => omega)) | (with_reducible refine cle_f ?chw20 ?_; (case chw20 => omega)))
  k_with "compareOp Gt int int" => (k_here; first | (with_reducible refine cgt_t ?chw21 ?_; (case chw21 => omega)) | (with_reducible refine cgt_f ?chw21 ?_; (case chw21 => omega)))
  k_with "compareOp GtE int int" => (k_here; first | (with_reducible refine cge_t ?chw22 ?_; (case chw22 => omega)) | (with_reducible refine cge_f ?chw22 ?_; (case chw22 => omega)))
  k_with "call type:int" => (k_here; (with_reducible show wpAny _ _ (call (Value.type "int") [Value.bool _]) _ _ _); (first | (with_reducible refine int_bf ?_) | (with_reducible refine int_bt ?_) | (with_reducible refine int_bb (by assumption) ?_)); intro t' tk')
  k_with "call builtin:max" => (k_here; (with_reducible show wpAny _ _ (call (Value.builtin _) [Value.int _ _, Value.int _ _]) _ _ _); k_dflt (refine' max2 ?hhw24 ?k1w24 ?k2w24 ?k3w24 ?_; (case hhw24 => with_unfolding_all rfl); (case k1w24 => k_asm); (case k2w24 => k_asm); (case k3w24 => first | exact (Int.max_eq_left (by omega)).symm | exact (Int.max_eq_right (by omega)).symm | exact rfl); k_whole); intro t' h' tk' F' N'; (try k_sweep))
  k_with "call builtin:min" => (k_here; (with_reducible show wpAny _ _ (call (Value.builtin _) [Value.int _ _, Value.int _ _]) _ _ _); k_dflt (refine' min2 ?hhw25 ?k1w25 ?k2w25 ?k3w25 ?_; (case hhw25 => with_unfolding_all rfl); (case k1w25 => k_asm); (case k2w25 => k_asm); (case k3w25 => first | exact (Int.min_eq_left (by omega)).symm | exact (Int.min_eq_right (by omega)).symm | exact rfl); k_whole); intro t' h' tk' F' N'; (try k_sweep))
  k_with "call builtin:min" => (k_here; (with_reducible show wpAny _ _ (call (Value.builtin _) [Value.int _ _, Value.int _ _, Value.int _ _]) _ _ _); k_dflt (refine' min3 ?hhw26 ?k1w26 ?k2w26 ?k3w26 ?_; (case hhw26 => with_unfolding_all rfl); (case k1w26 => k_asm); (case k2w26 => k_asm); (case k3w26 => first | exact m3a (by omega) | exact m3b (by omega) | exact m3c (by omega) | exact rfl); k_whole); intro t' h' tk' F' N'; (try k_sweep))
  k_with "ne" => (refine neN ?_; (try dsimp only); first | (k_extra "ord") | omega)
  k_with "call builtin:len" => (k_here; (with_reducible show wpAny _ _ (call (Value.builtin "len") [Value.bytes (List.toArray _) _]) _ _ _); (refine blen ?kzw28 ?_); (case kzw28 => first | omega | decide); intro t' tk'; (try simp only [List.length_nil]))
  k_with "call type:bytes" => (k_here; (with_reducible show wpAny _ _ (call (Value.type "bytes") [Value.bytes _ _]) _ _ _); (refine bb_call ?_))
  k_with "binaryOp Add bytes bytes" => (k_here; (with_reducible show wpAny _ _ (binaryOp Operator.Add (Value.bytes _ _) (Value.bytes (List.toArray _) _)) _ _ _); (refine badd0 ?kzw30 ?_); (case kzw30 => omega); intro t' tk')
  k_with "subscriptTail Name Slice bytes ref" => (k_here; (with_reducible show wpAny _ _ (subscriptTail _ (Expr.Slice _ _ none _) (Value.bytes _ _) (Value.ref _)) _ _ _); (with_reducible rename Fr _ _ _ _ => F'); (with_reducible rename News _ _ _ _ => N'); (refine' bslice (s := ⟨_, _, _, _, _⟩) F' N' ?klw31 ?kuw31 ?kzw31 ?kew31 ?_ ?ksw31 ?ktw31; (case klw31 => constructor); (case kuw31 => constructor); (case ksw31 => with_unfolding_all rfl); (case ktw31 => intro _; with_unfolding_all rfl); (case kzw31 => first | with_reducible assumption | omega); (case kew31 => first | exact b_all (by omega) | exact b_to (by omega) | exact (b_from (by first | with_reducible assumption | omega)).trans (by assumption) | exact b_from (by first | with_reducible assumption | omega) | exact b_mid (by omega) (by omega) (by omega)); k_whole); intro t' h' tk' F' N')
  k_with "subscriptTail Attribute Slice bytes ref" => (k_here; (with_reducible show wpAny _ _ (subscriptTail _ (Expr.Slice _ _ none _) (Value.bytes _ _) (Value.ref _)) _ _ _); (with_reducible rename Fr _ _ _ _ => F'); (with_reducible rename News _ _ _ _ => N'); (refine' bslice (s := ⟨_, _, _, _, _⟩) F' N' ?klw32 ?kuw32 ?kzw32 ?kew32 ?_ ?ksw32 ?ktw32; (case klw32 => constructor); (case kuw32 => constructor); (case ksw32 => with_unfolding_all rfl); (case ktw32 => intro _; with_unfolding_all rfl); (case kzw32 => first | with_reducible assumption | omega); (case kew32 => first | exact b_all (by omega) | exact b_to (by omega) | exact (b_from (by first | with_reducible assumption | omega)).trans (by assumption) | exact b_from (by first | with_reducible assumption | omega) | exact b_mid (by omega) (by omega) (by omega)); k_whole); intro t' h' tk' F' N')
  k_with "exec Raise some none" => (k_here; (with_reducible show wpAny _ _ (exec (Stmt.Raise (some (Expr.Call (Expr.Name _ _) (_ :: _) [] _)) none _) _) _ _ _); k_dflt (refine' raise_X ?kFw33 ?kXw33 ?kTw33 ?kew33 ?kmw33 ?khw33 ?_ ?kaw33 ?kbw33 ?kcw33 ?kdw33 ?kfw33; (case kFw33 => k_asm); (case kXw33 => k_asm); (case kTw33 => k_asm); (case kew33 => k_is); (case kmw33 => first | exact x63 | exact x51); (case khw33 => first | rfl | assumption); (case kaw33 => rfl); (case kbw33 => rfl); (case kcw33 => rfl); (case kdw33 => rfl); (case kfw33 => decide); k_whole))
  k_with "ArgsX" => (k_dflt (refine' argsX_ ?kFw34 ?kXw34 ?_; (case kFw34 => k_asm); (case kXw34 => k_asm); k_whole))
  k_with "call ref" => (k_here; (with_reducible show wpAny _ _ _ (ExcOut _ _ _) _ _); k_dflt (refine' call_X ?kFw35 ?kXw35 ?kNw35 ?kmw35 ?k1w35 ?k2w35 ?k3w35 ?k4w35 ?k5w35 ?_; (case kFw35 => k_asm); (case kXw35 => k_asm); (case kNw35 => k_asm); (case kmw35 => first | exact x63 | exact x51); (case k1w35 => first | exact s63.1 | exact s51.1); (case k2w35 => first | exact s63.2.1 | exact s51.2.1); (case k3w35 => first | exact s63.2.2.1 | exact s51.2.2.1); (case k4w35 => exact fn35); (case k5w35 => size_fits); k_whole; intro xe xT h' F' N' l1 l2; (have hXne := fun q hq => And.intro (Nat.ne_of_lt (Nat.lt_trans (l1 q hq) l2)) (Nat.ne_of_lt (l1 q hq))); (try k_lt l1); (try k_lt2 l2); k_enter))
  k_with "setAttr ref" => (k_here; (with_reducible show wpAny _ _ (setAttr (Value.ref _) (PySem.Str.ofString "message") _) _ _ _); k_dflt (refine' set_excN ?kFw36 ?kXw36 ?kNw36 ?ksw36 ?kcw36 ?ktw36 ?kUw36 ?_; (case kFw36 => k_asm); (case kXw36 => k_asm); (case kNw36 => k_asm); (case kUw36 => intro t'; k_upd); (case kcw36 => first | exact m63 | exact m51); (case ksw36 => first | exact s63.2.2.2.1 | exact s51.2.2.2.1); (case ktw36 => first | exact s63.2.2.2.2 | exact s51.2.2.2.2); k_whole; intro h' tk' xD F' N'))
  k_with "ExcOut" => (k_dflt (refine' excOut_ ?kFw37 ?kXw37 ?kNw37 ?kmw37 ?_; (case kFw37 => k_asm); (case kXw37 => k_asm); (case kNw37 => k_asm); (case kmw37 => k_mem); k_whole))
  k_with "leaving ref" => (k_here; k_dflt (refine' leave_X ?kBw38 ?kFw38 ?kNw38 ?knw38 ?_; (case kBw38 => k_asm); (case kFw38 => k_asm); (case kNw38 => k_asm); (case knw38 => assumption); k_whole); intro h' R' U'; (try dsimp only at R' U'))
  k_with "leaving ref" => (k_here; (refine' leave_onX ?k1w39 ?k2w39 ?k3w39 ?k4w39 ?_; (case k3w39 => assumption); (case k1w39 => assumption); (case k4w39 => assumption); (case k2w39 => assumption); k_whole; intro h' R' U'; (try dsimp only at R' U' ⊢)))
  k_with "noteFrame ref" => (k_here; (with_reducible rename RaisedK _ _ _ _ _ _ _ _ => rkX); k_dflt (refine' caught_L ?kBw40 ?kFw40 ?kUw40 ?kRw40 ?kXw40 ?kmw40 ?kvw40 ?_; (case kBw40 => k_asm); (case kFw40 => assumption); (case kUw40 => assumption); (case kRw40 => assumption); (case kXw40 => k_asm); (case kmw40 => first | exact x63 | exact x51); (case kvw40 => exact rfl); k_whole); intro h' F' N'; (try k_sweep))
  k_with "leaving ref" => (k_here; k_dflt (refine' leave_XS ?kBw41 ?kFw41 ?kNw41 ?knw41 ?_; (case kFw41 => k_asm); (case kBw41 => k_asm); (case kNw41 => k_asm); (case knw41 => assumption); k_whole); intro h' R' U'; (try dsimp only at R' U'))
  k_with "leaving ref" => (k_here; (refine' leave_onXS ?k1w42 ?k2w42 ?k3w42 ?k4w42 ?_; (case k3w42 => assumption); (case k2w42 => assumption); (case k1w42 => assumption); (case k4w42 => assumption); k_whole; intro h' R' U'; (try dsimp only at R' U' ⊢)))
  k_with "noteFrame ref" => (k_here; (with_reducible rename RaisedS _ _ _ _ _ _ _ _ _ => rkX); k_dflt (refine' caught_LS rkX ?kFw43 ?kBw43 ?kUw43 ?kXw43 ?kTw43 ?kWw43 ?kmw43 ?kvw43 ?_; (case kFw43 => assumption); (case kBw43 => k_asm); (case kUw43 => assumption); (case kXw43 => assumption); (case kTw43 => assumption); (case kWw43 => assumption); (case kmw43 => first | exact x63 | exact x51); (case kvw43 => exact rfl); k_whole); intro h' g' W' F' N' B' X' T'; (try k_sweep))
  k_with "call ref" => (k_here; (with_reducible show wpAny _ _ (call (Value.ref 135) [Value.int _ _, Value.int _ _, Value.int _ _]) _ _ _); k_dflt (refine' use_r c_distance ?kBw44 ?kFw44 ?kXw44 ?kNw44 ?kTw44 ?kkw44 ?krw44 ?kdw44 ?kuw44 ?_; (case kBw44 => k_asm); (case kFw44 => k_asm); (case kXw44 => k_asm); (case kNw44 => k_asm); (case kTw44 => k_asm); (case kkw44 => first | exact rfl | assumption); (case krw44 => exact subN); (case kdw44 => ktr_room); (case kuw44 => ktr_units); k_whole); intro t' h' tk' F' N'; (try dsimp only); (try k_sweep))
  k_with "call ref" => (k_here; (with_reducible show wpAny _ _ (call (Prod.fst (Value.ref 241, [Value.ref _])) (Prod.snd (Value.ref 241, [Value.ref _]) ++ [])) _ _ _); k_dflt (refine' use_r c_flight ?kBw45 ?kFw45 ?kXw45 ?kNw45 ?kTw45 ?kkw45 ?krw45 ?kdw45 ?kuw45 ?_; (case kBw45 => k_asm); (case kFw45 => k_asm); (case kXw45 => k_asm); (case kNw45 => k_asm); (case kTw45 => k_asm); (case kkw45 => first | exact rfl | assumption); (case krw45 => (refine' (subC ?m1w45 (subC ?m2w45 subN)); (case m1w45 => k_mem); (case m2w45 => k_mem))); (case kdw45 => ktr_room); (case kuw45 => ktr_units); k_whole); intro t' h' tk' F' N'; (try dsimp only); (try k_sweep))
  trivial
theorem c_refB {w : World} {f c' k1 k2 k3 x xd p q : Addr} {K1 : STk} {b3 b4 b5 : Tok} {is ua nx gr by' en : Int} {fa fs : Bool} {oc o1 o2 o3 : Obj} {vs : Array Value} {qual : Str} {tq t1 t2 : Tok} {params : Arguments} {body : Expr} {scope : Scope} {pm ctv : Value} (hb : (nx - ua) % 256 < ((en + by') % 256 - ua) % 256) (hl : lamB3 (bodyAt (hok.heap_1 w.params) 429) = some (params, body, scope)) (hoc : oc.data = .fields vs) (hv : vs[1]? = some (.str qual tq)) (h1 : o1.data = .cell (some (.int by' t1))) (h2 : o2.data = .cell (some (.int en t2))) (h3 : o3.data = .cell (some (.ref x))) :
    CtrT w 424 [.ref f, .ref 63] ([(f, kla_obj "<lambda>" qual params body scope [("sender", k3), ("end", k2), ("beyond", k1)] pm c' ctv), (c', oc), (k1, o1), (k2, o2), (k3, o3)] ++ [(xd, dictOf (sndE w K1 p q is ua nx gr false fa fs b3 b4 b5) 11), (x, instObj 378 xd)]) (fun _ => True) 20 200 (fun v n' => ∃ t : Tok, v = (fun _ => .bool true) t ∧ n' = [(f, kla_obj "<lambda>" qual params body scope [("sender", k3), ("end", k2), ("beyond", k1)] pm c' ctv), (c', oc), (k1, o1), (k2, o2), (k3, o3)] ++ [(xd, dictOf (sndE w K1 p q is ua nx gr false fa fs b3 b4 b5) 11), (x, instObj 378 xd)]) := by
  injection hl with hl
  injection hl with hl1 hl2
  injection hl2 with hl2 hl3
  subst hl1 hl2 hl3
  intro loose mean mg mb dp un gd cn cs ad ccd cl outer base L s Rr H0 hH hpre hd1 hu hret
  obtain ⟨B, X, T⟩ := H0
  obtain ⟨XB, TB, hpre⟩ := hpre
  try have hO9 := difO_of ho
  try have hO9 := difO4 ho
  try have hO9 := difO2 ho
  generalize hg : hideAll s.heap (List.map Prod.fst _) = g at *
  replace hg := hg.symm
  revert X; k_fill; intro X
  k_dflt (
    refine' code_ctrT ?k1 ?kg ?k3 ?k5 ?kH ?k6 ?k7 ?k8 ?k9 ?kB ?_ ?c2 ?c3 ?c4 ?c5
    (case kg => exact hg)
    (case k1 => assumption)
    (case k3 => assumption)
    (case k5 => assumption)
    (case kH => assumption)
    (case k6 => k_is)
    (case k7 => k_is)
    (case k8 => ktr_room)
    (case k9 => first | exact BindsTo.of_eq rfl | exact binds_K (Frag.In.keeps X (by rw [hg]; exact fun b o e => of_hideAll _ e)) rfl (by k_is) rfl rfl rfl)
    (case c5 => decide)
    (case kB => exact locs rfl)
    (case c2 => exact rfl)
    (case c3 => exact rfl)
    (case c4 => exact rfl)
    k_whole
    intro L' h' F' N'
    have W' := @KtsTurn.refl ((envX cn cs L ad ccd cl :: outer).filterMap (·.frame)) g
    (try dsimp only)
    (refine A_let ?_; intro A9; have dA9 : A9.depth = dp + 1 := rfl; have uA9 : A9.units = un + 3 := rfl)
    (try k_fold)
    (refine fr_let F' ?_; clear F'; intro m9 F'))
  (try simp only [List.cons_append, List.nil_append] at N')
  have kn9 := knCH
  (repeat' (first | (k_extra "nst") | (k_unfold; (try dsimp only)) | (k_end; kc_close) | walk1 | (dsimp only; walk1) | (leave1; walk_say "STEP leave1"; (try dsimp only)) | fail "no step"))
  all_goals (first
    | exact end_t (s := s) hret (0 : Nat) (by first | rfl | rfl) (by assumption) (by assumption) (by assumption) (by first | exact List.forall_mem_nil _ | kcj_all)
    | (exfalso; (rename ((_ : Bool) = _) => hx); (simp at hx); omega)
    | (exfalso; (rename ((_ : Bool) = _) => hx); (simp at hx); done))
end
end Mine
-- part Lwr
namespace Mine
section
theorem ln1_32ab8f : True := by
  k_with_none
  k_with "callWith ref" => (k_here; (with_reducible rename Fr _ _ _ _ => kF); (with_reducible rename Frag.In _ _ => kX); first | ((with_reducible show wpAny _ _ (callWith _ _ _ (backTo _ (starEach [] _)) []) _ _ _); k_dflt (refine' callWith_K0 (Frag.In.keeps kX (Fr.keep kF)) ?k2w1 ?_; (case k2w1 => k_is); k_whole)) | ((with_reducible show wpAny _ _ (callWith _ _ _ (backTo _ (starEach (_ :: _) _)) []) _ _ _); k_dflt (refine' callWith_K kX ?k2w1 ?_; (case k2w1 => k_is); k_whole)))
  k_with "eval Name" => (k_here; (fail_if_success (with_reducible show wpAny _ _ (eval (Expr.Name _ _) (compEnvC _ _ _ _)) _ _ _)); k_dflt (first | (refine' nameX_L ?Fw2 ?vw2 ?_ ?aw2 ?bw2; (case bw2 => kernel_rfl!); (case aw2 => kernel_rfl!); (case Fw2 => k_asm); (case vw2 => rfl); k_whole) | (refine' nameX_K ?Fw2 ?Xw2 ?Tw2 ?ew2 ?_ ?aw2 ?bw2; (case bw2 => kernel_rfl!); (case aw2 => kernel_rfl!); (case Fw2 => k_asm); (case Xw2 => k_asm); (case Tw2 => k_asm); (case ew2 => k_is); k_whole) | (refine' nameX_B ?Fw2 ?Xw2 ?Tw2 ?ew2 ?vw2 ?nw2 ?_ ?aw2 ?bw2; (case bw2 => kernel_rfl!); (case aw2 => kernel_rfl!); (case Fw2 => k_asm); (case Xw2 => k_asm); (case Tw2 => k_asm); (case ew2 => k_is); (case vw2 => boot_fast); (case nw2 => decide); k_whole) | (refine' nameX_C ?Nw2 ?cw2 ?mw2 ?dw2 ?_ ?aw2 ?bw2; (case bw2 => kernel_rfl!); (case aw2 => kernel_rfl!); (case Nw2 => k_asm); (case cw2 => rfl); (case mw2 => k_mem); (case dw2 => k_asm); k_whole) | (refine' nameX_F ?Nw2 ?cw2 ?mw2 ?dw2 ?_ ?aw2 ?bw2; (case bw2 => kernel_rfl!); (case aw2 => kernel_rfl!); (case Nw2 => k_asm); (case cw2 => rfl); (case mw2 => k_mem); (case dw2 => k_asm); k_whole)))
  k_with "ord" => ((with_reducible rename DifO _ => hO9); (first | refine' hO9 0 _ _ _ rfl ?hbw3 ?hcw3 | refine' hO9 1 _ _ _ rfl ?hbw3 ?hcw3 | refine' hO9 2 _ _ _ rfl ?hbw3 ?hcw3 | refine' hO9 3 _ _ _ rfl ?hbw3 ?hcw3 | refine' hO9 4 _ _ _ rfl ?hbw3 ?hcw3 | refine' hO9 5 _ _ _ rfl ?hbw3 ?hcw3); (case hbw3 => first | exact (rfl : (_ : List Addr)[0]? = _) | exact (rfl : (_ : List Addr)[1]? = _) | exact (rfl : (_ : List Addr)[2]? = _) | exact (rfl : (_ : List Addr)[3]? = _) | exact (rfl : (_ : List Addr)[4]? = _) | exact (rfl : (_ : List Addr)[5]? = _)); (case hcw3 => exact rfl))
  k_with "nst" => ((with_reducible show wpAny _ _ _ _ _ (Shared.mk _ _ _ _ _)); refine' nst ?kew4 ?_; (case kew4 => (dsimp only; exact rfl)))
  k_with "all" => (first | exact neNil | (refine' neC ?aw5 ?bw5; (case aw5 => k_ne); (case bw5 => k_all)))
  k_with "room" => (first | exact room_ (by assumption) (by exact rfl) | exact room0 (by assumption) (by exact rfl) | ((try simp only [depth_under_make, depth_under_kw, depth_in1, depth_deeper, depth_caller]); (try dsimp only [ktrTop]); omega))
  k_with "units" => (first | exact room_ (by assumption) (by exact rfl) | exact room0 (by assumption) (by exact rfl) | ((try simp only [units_in1, units_deeper, Around.mark_units, units_caller]); (try dsimp only [ktrTop]); omega))
  k_with "execs cons" => ((first | (with_reducible refine execs_T ?_; intro tk) | refine wpAny_execs_cons ?_); (try k_fold))
  k_with "getAttr ref" => (k_here; k_dflt (refine' oget ?k1w9 ?k2w9 ?k3w9 ?k4w9 ?k5w9 ?k6w9 ?k7w9 ?k8w9 ?k9w9 ?_; (case k1w9 => k_asm); (case k2w9 => k_asm); (case k3w9 => k_inst); (case k4w9 => k_is); (case k5w9 => k_is); (case k6w9 => k_is); (case k7w9 => k_is); (case k8w9 => k_get); (case k9w9 => k_handed); k_whole))
  k_with "storeName" => (k_here; k_dflt (refine' ostore ?kFw10 ?kNw10 ?_ ?kaw10 ?kbw10; (case kaw10 => rfl); (case kbw10 => rfl); (case kFw10 => k_asm); (case kNw10 => k_asm); k_whole; intro h' m9 F' N'; (try k_sweep)))
  k_with "eval Constant int" => (refine cint ?_)
  k_with "eval Constant bytes" => (refine cbytes ?_)
  k_with "binaryOp Mod int int" => (k_here; (with_reducible refine mod_pos ?kbw13 ?_); (case kbw13 => omega); intro t' tk')
  k_with "binaryOp FloorDiv int int" => (k_here; (with_reducible refine div_pos ?kbw14 ?kpw14 ?_); (case kbw14 => omega); (case kpw14 => omega); intro t' tk')
  k_with "binaryOp Mult int int" => (k_here; (with_reducible refine mul_small ?kbw15 ?_); (case kbw15 => omega); intro t' tk')
  k_with "subscriptTail Name Constant ref int" => (k_here; (with_reducible show wpAny _ _ (subscriptTail _ _ (Value.ref _) (Value.int _ _)) _ _ _); k_dflt (first | ((with_reducible show wpAny _ _ (subscriptTail _ _ (Value.ref _) (Value.int 0 _)) _ _ _); refine' item_0 ?Nw16 ?mw16 ?_ ?hsw16; (case Nw16 => k_asm); (case mw16 => k_mem); (case hsw16 => with_unfolding_all rfl); k_whole) | ((with_reducible show wpAny _ _ (subscriptTail _ _ (Value.ref _) (Value.int 1 _)) _ _ _); refine' item_1 ?Nw16 ?mw16 ?_ ?hsw16; (case Nw16 => k_asm); (case mw16 => k_mem); (case hsw16 => with_unfolding_all rfl); k_whole)))
  k_with "compareOp Eq int int" => (k_here; first | (with_reducible refine ceq_t ?chw17 ?_; (case chw17 => omega)) | (with_reducible refine ceq_f ?chw17 ?_; (case chw17 => omega)))
  k_with "compareOp NotEq int int" => (k_here; first | (with_reducible refine cne_t ?chw18 ?_; (case chw18 => omega)) | (with_reducible refine cne_f ?chw18 ?_; (case chw18 => omega)))
  k_with "compareOp Lt int int" => (k_here; first | (with_reducible refine clt_t ?chw19 ?_; (case chw19 => omega)) | (with_reducible refine clt_f ?chw19 ?_; (case chw19 => omega)))
  k_with "compareOp LtE int int" => (k_here; first | (with_reducible refine cle_t ?chw20 ?_; (case chw20 => omega)) | (with_reducible refine cle_f ?chw20 ?_; (case chw20 => omega)))
  k_with "compareOp Gt int int" => (k_here; first | (with_reducible refine cgt_t ?chw21 ?_; (case chw21 => omega)) | (with_reducible refine cgt_f ?chw21 ?_; (case chw21 => omega)))
  k_with "compareOp GtE int int" => (k_here; first | (with_reducible refine cge_t ?chw22 ?_; (case chw22 => omega)) | (with_reducible refine cge_f ?chw22 ?_; (case chw22 => omega)))
  k_with "call type:int" => (k_here; (with_reducible show wpAny _ _ (call (Value.type "int") [Value.bool _]) _ _ _); (first | (with_reducible refine int_bf ?_) | (with_reducible refine int_bt ?_) | (with_reducible refine int_bb (by assumption) ?_)); intro t' tk')
  k_with "call builtin:max" => (k_here; (with_reducible show wpAny _ _ (call (Value.builtin _) [Value.int _ _, Value.int _ _]) _ _ _); k_dflt (refine' max2 ?hhw24 ?k1w24 ?k2w24 ?k3w24 ?_; (case hhw24 => with_unfolding_all rfl); (case k1w24 => k_asm); (case k2w24 => k_asm); (case k3w24 => first | exact (Int.max_eq_left (by omega)).symm | exact (Int.max_eq_right (by omega)).symm | exact rfl); k_whole); intro t' h' tk' F' N'; (try k_sweep))
  k_with "call builtin:min" => (k_here; (with_reducible show wpAny _ _ (call (Value.builtin _) [Value.int _ _, Value.int _ _]) _ _ _); k_dflt (refine' min2 ?hhw25 ?k1w25 ?k2w25 ?k3w25 ?_; (case hhw25 => with_unfolding_all rfl); (case k1w25 => k_asm); (case k2w25 => k_asm); (case k3w25 => first | exact (Int.min_eq_left (by omega)).symm | exact (Int.min_eq_right (by omega)).symm | exact rfl); k_whole); intro t' h' tk' F' N'; (try k_sweep))
  k_with "call builtin:min" => (k_here; (with_reducible show wpAny _ _ (call (Value.builtin _) [Value.int _ _, Value.int _ _, Value.int _ _]) _ _ _); k_dflt (refine' min3 ?hhw26 ?k1w26 ?k2w26 ?k3w26 ?_; (case hhw26 => with_unfolding_all rfl); (case k1w26 => k_asm); (case k2w26 => k_asm); (case k3w26 => first | exact m3a (by omega) | exact m3b (by omega) | exact m3c (by omega) | exact rfl); k_whole); intro t' h' tk' F' N'; (try k_sweep))
  k_with "exec Raise some none" => (k_here; (with_reducible show wpAny _ _ (exec (Stmt.Raise (some (Expr.Call (Expr.Name _ _) (_ :: _) [] _)) none _) _) _ _ _); k_dflt (refine' raise_X ?kFw27 ?kXw27 ?kTw27 ?kew27 ?kmw27 ?khw27 ?_ ?kaw27 ?kbw27 ?kcw27 ?kdw27 ?kfw27; (case kFw27 => k_asm); (case kXw27 => k_asm); (case kTw27 => k_asm); (case kew27 => k_is); (case kmw27 => first | exact x63 | exact x51); (case khw27 => first | rfl | assumption); (case kaw27 => rfl); (case kbw27 => rfl); (case kcw27 => rfl); (case kdw27 => rfl); (case kfw27 => decide); k_whole))
  k_with "ArgsX" => (k_dflt (refine' argsX_ ?kFw28 ?kXw28 ?_; (case kFw28 => k_asm); (case kXw28 => k_asm); k_whole))
  k_with "call ref" => (k_here; (with_reducible show wpAny _ _ _ (ExcOut _ _ _) _ _); k_dflt (refine' call_X ?kFw29 ?kXw29 ?kNw29 ?kmw29 ?k1w29 ?k2w29 ?k3w29 ?k4w29 ?k5w29 ?_; (case kFw29 => k_asm); (case kXw29 => k_asm); (case kNw29 => k_asm); (case kmw29 => first | exact x63 | exact x51); (case k1w29 => first | exact s63.1 | exact s51.1); (case k2w29 => first | exact s63.2.1 | exact s51.2.1); (case k3w29 => first | exact s63.2.2.1 | exact s51.2.2.1); (case k4w29 => exact fn35); (case k5w29 => size_fits); k_whole; intro xe xT h' F' N' l1 l2; (have hXne := fun q hq => And.intro (Nat.ne_of_lt (Nat.lt_trans (l1 q hq) l2)) (Nat.ne_of_lt (l1 q hq))); (try k_lt l1); (try k_lt2 l2); k_enter))
  k_with "setAttr ref" => (k_here; (with_reducible show wpAny _ _ (setAttr (Value.ref _) (PySem.Str.ofString "message") _) _ _ _); k_dflt (refine' set_excN ?kFw30 ?kXw30 ?kNw30 ?ksw30 ?kcw30 ?ktw30 ?kUw30 ?_; (case kFw30 => k_asm); (case kXw30 => k_asm); (case kNw30 => k_asm); (case kUw30 => intro t'; k_upd); (case kcw30 => first | exact m63 | exact m51); (case ksw30 => first | exact s63.2.2.2.1 | exact s51.2.2.2.1); (case ktw30 => first | exact s63.2.2.2.2 | exact s51.2.2.2.2); k_whole; intro h' tk' xD F' N'))
  k_with "ExcOut" => (k_dflt (refine' excOut_ ?kFw31 ?kXw31 ?kNw31 ?kmw31 ?_; (case kFw31 => k_asm); (case kXw31 => k_asm); (case kNw31 => k_asm); (case kmw31 => k_mem); k_whole))
  k_with "leaving ref" => (k_here; k_dflt (refine' leave_X ?kBw32 ?kFw32 ?kNw32 ?knw32 ?_; (case kBw32 => k_asm); (case kFw32 => k_asm); (case kNw32 => k_asm); (case knw32 => assumption); k_whole); intro h' R' U'; (try dsimp only at R' U'))
  k_with "leaving ref" => (k_here; (refine' leave_onX ?k1w33 ?k2w33 ?k3w33 ?k4w33 ?_; (case k3w33 => assumption); (case k1w33 => assumption); (case k4w33 => assumption); (case k2w33 => assumption); k_whole; intro h' R' U'; (try dsimp only at R' U' ⊢)))
  k_with "noteFrame ref" => (k_here; (with_reducible rename RaisedK _ _ _ _ _ _ _ _ => rkX); k_dflt (refine' caught_L ?kBw34 ?kFw34 ?kUw34 ?kRw34 ?kXw34 ?kmw34 ?kvw34 ?_; (case kBw34 => k_asm); (case kFw34 => assumption); (case kUw34 => assumption); (case kRw34 => assumption); (case kXw34 => k_asm); (case kmw34 => first | exact x63 | exact x51); (case kvw34 => exact rfl); k_whole); intro h' F' N'; (try k_sweep))
  k_with "leaving ref" => (k_here; k_dflt (refine' leave_XS ?kBw35 ?kFw35 ?kNw35 ?knw35 ?_; (case kFw35 => k_asm); (case kBw35 => k_asm); (case kNw35 => k_asm); (case knw35 => assumption); k_whole); intro h' R' U'; (try dsimp only at R' U'))
  k_with "leaving ref" => (k_here; (refine' leave_onXS ?k1w36 ?k2w36 ?k3w36 ?k4w36 ?_; (case k3w36 => assumption); (case k2w36 => assumption); (case k1w36 => assumption); (case k4w36 => assumption); k_whole; intro h' R' U'; (try dsimp only at R' U' ⊢)))
  k_with "noteFrame ref" => (k_here; (with_reducible rename RaisedS _ _ _ _ _ _ _ _ _ => rkX); k_dflt (refine' caught_LS rkX ?kFw37 ?kBw37 ?kUw37 ?kXw37 ?kTw37 ?kWw37 ?kmw37 ?kvw37 ?_; (case kFw37 => assumption); (case kBw37 => k_asm); (case kUw37 => assumption); (case kXw37 => assumption); (case kTw37 => assumption); (case kWw37 => assumption); (case kmw37 => first | exact x63 | exact x51); (case kvw37 => exact rfl); k_whole); intro h' g' W' F' N' B' X' T'; (try k_sweep))
  k_with "ne" => (refine neN ?_; (try dsimp only); first | exact Dif.l (by with_reducible assumption) | exact Dif.r (by with_reducible assumption) | (k_extra "ord") | omega)
  k_with "getMethod bytes" => (k_here; (with_reducible show wpAny _ _ (getMethod (Value.bytes _ _) (PySem.Str.ofString "join") _) _ _ _); (refine join_meth ?_))
  k_with "call builtin:bytes.join" => (k_here; (with_reducible show wpAny _ _ (call (Value.builtin _) [Value.bytes _ _, Value.ref _]) _ _ _); k_dflt (refine' join_fl ?kNw40 ?kmw40 ?kzw40 ?kew40 ?_; (case kNw40 => k_asm); (case kmw40 => k_mem); (case kew40 => with_reducible assumption); (case kzw40 => omega); k_whole); intro t' tk')
  k_with "eval ListComp" => (k_here; k_dflt (refine LCg.ListComp_U (F₀ := by k_asm) (by with_unfolding_all rfl) (by decide) (by rfl) (by decide) (by rfl) ?_))
  k_with "CompSrc" => (k_here; (with_reducible rename Sh _ _ _ _ _ _ _ _ => sh9); k_dflt (refine LCg.CompSrc.ledger (by rfl) (by k_asm) (by k_asm) (by k_mem) (by have := sh9.size.2; rw [PySem.sizeLine_eq]; omega) ?_; intro g'; (refine' rows_rest sh9 ?m1w42 ?m2w42 ?m3w42 (fun r' f' a' y' b' c' e' I' oI' C' oC' D' m' ys' h' tk' E' hr' hC' hx' F' N' off' ne' => ?_) ?_); (case m1w42 => k_mem); (case m2w42 => k_mem); (case m3w42 => k_mem); (all_goals (try (simp only [LCg.Off3, and_true] at off'))); kcf_last))
  k_with "KPfDone" => ((show ∀ _, BytF _ _ → _); intro ys' hb')
  k_with "CompEnd" => ((refine' LCg.CompEnd.intro ?kFw44 ?kNw44 _ ?ksw44 ?kow44 ?kSw44 (kcb_el rfl rfl rfl)); (case kFw44 => with_reducible assumption); (case kNw44 => with_reducible assumption); (case ksw44 => exact fun _ hp => hp); (case kow44 => (simp only [LCg.Off3, and_true]; with_reducible assumption)); (case kSw44 => lcg_src))
  k_with "subscriptTail Name Constant ref int" => (k_here; k_dflt (first | ((with_reducible show wpAny _ _ (subscriptTail _ _ (Value.ref _) (Value.int 1 _)) _ _ _); refine' row_1 ?kN2w45 ?km2w45 ?_ ?hs2w45; (case kN2w45 => k_asm); (case km2w45 => with_reducible assumption); (case hs2w45 => with_unfolding_all rfl); k_whole) | ((with_reducible show wpAny _ _ (subscriptTail _ _ (Value.ref _) (Value.int 0 _)) _ _ _); refine' rows_0 ?kNw45 ?kshw45 ?kmw45 ?_ ?hsw45; (case kshw45 => with_reducible assumption); (case kNw45 => k_asm); (case kmw45 => k_mem); (case hsw45 => with_unfolding_all rfl); k_whole)))
  k_with "subscriptTail Name UnaryOp ref int" => (k_here; k_dflt (refine' rows_L ?kNw46 ?kshw46 ?kmw46 ?_ ?hsw46; (case kshw46 => with_reducible assumption); (case kNw46 => k_asm); (case kmw46 => k_mem); (case hsw46 => with_unfolding_all rfl); k_whole))
  k_with "compareOp NotEq bytes bytes" => (k_here; (refine bne_f ?kew47 ?_); (case kew47 => first | rfl | exact part_y | exact part_x (by with_reducible assumption) (by omega)))
  trivial
section
variable {w : World} {f : Addr} {vs : List Value} {rel oth : List (Addr × Obj)} {Pre : Heap → Prop} {D U : Nat}
    {loose : List Str} {mean : ExcName → Option Value} {mg mb : Str → Option Value} {dp un : Nat} {gd : Option (List Code)} {cn : Str} {cs : Scope} {ad : Addr} {ccd : Value} {cl : List (Str × Addr)} {outer : List Env} {A₀ : Around} {base h₀ g₀ : Heap} {L : Addr} {m : Str → Option Value} {s : Shared} {news : List (Addr × Obj)} {Q E : Value → Shared → Prop}
/-- a contract that asks something of the heap, over no object, at a call -/
theorem use_p {hp : Heap} {gn : Array GenState} {dr : Drawn} {nk : Nat} {os : OsState} {α : Type} {mk : α → Value} {rel' : α → List (Addr × Obj)} (C : CtrP w f vs [] Pre D U (fun v n' => ∃ t, v = mk t ∧ n' = rel' t))
    (B : Below A₀ base outer h₀) (F : Fr h₀ L hp m) (X : (hok.heap_1 w.params).In h₀) (N : News h₀ L hp news) (T : Top topProg loose mean mg mb h₀) (hk : cs.kind = .function)
    (hpre : Pre hp) (hd1 : dp + D < recursionLimit) (hu : un + U < cLine)
    (h : ∀ t h' tk', Fr h₀ L h' m → News h₀ L h' (rel' t ++ news) → DifAll news (rel' t) → Q (mk t) ⟨h', gn, dr, tk', os⟩) :
    wpAny (model PySem.Challenge.rw_qz0162_01.row.prog w) (ktrTop dp un gd cn cs L ad ccd cl outer) (call (.ref f) vs) Q E ⟨hp, gn, dr, nk, os⟩ := by
  refine ctrN_use C B F X N T hk hpre hd1 hu fun v n' h' tk' F' N' hr hP => ?_
  obtain ⟨t, rfl, rfl⟩ := hP
  exact h t h' tk' F' N' (difAll_of hr)
/-- a contract that may catch, at the top: its objects turned, the others kept -/
theorem use_top {α : Type} {mk : α → Value} {rel' : α → List (Addr × Obj)} (C : CtrT w f vs rel Pre D U (fun v n' => ∃ t, v = mk t ∧ n' = rel' t))
    (B : Below A₀ base [] h₀) (F : Fr h₀ L s.heap m) (X : (hok.heap_1 w.params).In h₀) (N : News h₀ L s.heap news) (T : Top topProg loose mean mg mb h₀) (XB : (hok.heap_1 w.params).In base) (TB : Top topProg loose mean mg mb base) (hp : Pre base) (hk : cs.kind = .function)
    (hrel : ∀ p ∈ rel, p ∈ news) (hoth : ∀ p ∈ oth, p ∈ news) (hne : DifAll oth rel) (hd1 : dp + D < recursionLimit) (hu : un + U < cLine)
    (h : ∀ t h' tk', Fr h₀ L h' m → News h₀ L h' (rel' t ++ oth) → DifAll oth (rel' t) → Q (mk t) { s with heap := h', toks := tk' }) :
    wpAny (model PySem.Challenge.rw_qz0162_01.row.prog w) (ktrTop dp un gd cn cs L ad ccd cl []) (call (.ref f) vs) Q E s := by
  have dif : ∀ {l k : List (Addr × Obj)}, DifAll l k → ∀ p ∈ l, ∀ q ∈ k, p.1 ≠ q.1 := by
    intro l k
    have one : ∀ {a : Nat} {k : List (Addr × Obj)}, DifR a k → ∀ q ∈ k, a ≠ q.1 := by
      intro a k
      induction k with
      | nil => intro _ q hq; cases hq
      | cons r k ih =>
        intro h q hq
        rcases List.mem_cons.mp hq with rfl | hq
        · exact h.l
        · exact ih h.r q hq
    induction l with
    | nil => intro _ p hp; cases hp
    | cons r l ih =>
      intro h p hp
      rcases List.mem_cons.mp hp with rfl | hp
      · exact one h.l
      · exact ih h.r p hp
  refine ctrT_core C B F X N T XB TB hp hk hrel hd1 hu fun v n' h' tk' h₁ V B' F' N' hr hP => ?_
  obtain ⟨t, rfl, rfl⟩ := hP
  have up : ∀ b o, h₀.get? b = some o → h₁.get? b = some o := fun b o e => V.other b o e (fun q => nomatch q)
  have dn : ∀ b, h₁.get? b = none → h₀.get? b = none := fun b e => by
    cases q : h₀.get? b with
    | none => rfl
    | some o => have := up b o q; rw [e] at this; cases this
  refine h t h' tk' ⟨F'.ns, fun b o e => F'.keep b o (up b o e), by rw [← V.size]; exact F'.above⟩ (fun p hp => ?_) (difAll_of fun p hp q hq => (hr p (hoth p hp) (dif hne p hp)).2 q hq)
  rcases List.mem_append.mp hp with hp | hp
  · exact ⟨(N' p hp).1, (N' p hp).2.1, dn _ (N' p hp).2.2⟩
  · have k := (hr p (hoth p hp) (dif hne p hp)).1
    exact ⟨k.1, k.2.1, dn _ k.2.2⟩
end
section
variable {w : World} {f : Addr} {vs : List Value} {rel : List (Addr × Obj)} {Pre : Heap → Prop} {D U : Nat}
    {loose : List Str} {mean : ExcName → Option Value} {mg mb : Str → Option Value} {dp un : Nat} {gd : Option (List Code)} {cn : Str} {cs : Scope} {ad : Addr} {ccd : Value} {cl : List (Str × Addr)} {outer : List Env} {A₀ : Around} {base h₀ g₀ : Heap} {L : Addr} {m : Str → Option Value} {s : Shared} {news : List (Addr × Obj)} {Q E : Value → Shared → Prop}
theorem use_top1 {α : Type} {mk : α → Value} {rel' : α → List (Addr × Obj)} (P : Addr) {tob : Obj} (C : CtrT w f vs rel Pre D U (fun v n' => ∃ t, v = mk t ∧ n' = rel' t))
    (F : Fr h₀ L s.heap m) (B : Below A₀ base [] h₀) (X : (hok.heap_1 w.params).In h₀) (N : News h₀ L s.heap news) (T : Top topProg loose mean mg mb h₀) (XB : (hok.heap_1 w.params).In base) (TB : Top topProg loose mean mg mb base) (hp : Pre base) (hk : cs.kind = .function)
    (hrel : ∀ p ∈ rel, p ∈ news) (hm1 : (P, tob) ∈ news) (hne : DifAll [(P, tob)] rel) (hd1 : dp + D < recursionLimit) (hu : un + U < cLine)
    (h : ∀ t h' tk', Fr h₀ L h' m → News h₀ L h' (rel' t ++ [(P, tob)]) → DifAll [(P, tob)] (rel' t) → Q (mk t) { s with heap := h', toks := tk' }) :
    wpAny (model PySem.Challenge.rw_qz0162_01.row.prog w) (ktrTop dp un gd cn cs L ad ccd cl []) (call (.ref f) vs) Q E s :=
  use_top C B F X N T XB TB hp hk hrel (List.forall_mem_cons.mpr ⟨hm1, List.forall_mem_nil _⟩) hne hd1 hu h
theorem use_top3 {α : Type} {mk : α → Value} {rel' : α → List (Addr × Obj)} (P : Addr) {a b : Nat} {c l : Addr} {oc : Obj} {its : Array Value} {cnt : Nat} (C : CtrT w f vs rel Pre D U (fun v n' => ∃ t, v = mk t ∧ n' = rel' t))
    (F : Fr h₀ L s.heap m) (B : Below A₀ base [] h₀) (X : (hok.heap_1 w.params).In h₀) (N : News h₀ L s.heap news) (T : Top topProg loose mean mg mb h₀) (XB : (hok.heap_1 w.params).In base) (TB : Top topProg loose mean mg mb base) (hp : Pre base) (hk : cs.kind = .function) (hsrc : m (Str.ofString "source") = some (.ref l))
    (hrel : ∀ p ∈ rel, p ∈ news) (hm1 : (P, tabR a b c) ∈ news) (hm2 : (c, oc) ∈ news) (hm3 : (l, listOf its cnt) ∈ news) (hne : DifAll [(P, tabR a b c), (c, oc), (l, listOf its cnt)] rel) (hd1 : dp + D < recursionLimit) (hu : un + U < cLine)
    (h : ∀ t h' tk', Fr h₀ L h' m → News h₀ L h' (rel' t ++ [(P, tabR a b c), (c, oc), (l, listOf its cnt)]) → DifAll [(P, tabR a b c), (c, oc), (l, listOf its cnt)] (rel' t) → Q (mk t) { s with heap := h', toks := tk' }) :
    wpAny (model PySem.Challenge.rw_qz0162_01.row.prog w) (ktrTop dp un gd cn cs L ad ccd cl []) (call (.ref f) vs) Q E s :=
  use_top C B F X N T XB TB hp hk hrel (List.forall_mem_cons.mpr ⟨hm1, List.forall_mem_cons.mpr ⟨hm2, List.forall_mem_cons.mpr ⟨hm3, List.forall_mem_nil _⟩⟩⟩) hne hd1 hu h
end
theorem dif_code {g h : Heap} {L c l : Addr} {oc : Obj} {vs its : Array Value} {cnt : Nat} {news : List (Addr × Obj)} (N : News g L h news) (h1 : (c, oc) ∈ news) (h2 : (l, listOf its cnt) ∈ news) (hoc : oc.data = .fields vs) : Dif c l := fun e => by
  have a := (N _ h1).1
  have b := (N _ h2).1
  dsimp only at a b
  have e' : (c : Addr) = l := e
  rw [e', b] at a
  cases a
  cases hoc
theorem stays_list2 {g h : Heap} {L l : Addr} {m : Str → Option Value} {its : Array Value} (F : Fr g L h m) (x : g.IsList l its) : h.IsList l its := stays_list (fun b o e => F.keep b o e) x
section
variable {prog : Program} {w : World} {A : Around} {E : Value → Shared → Prop} {s : Shared} {h₀ : Heap} {L : Addr} {m : Str → Option Value} {news : List (Addr × Obj)}
theorem bytes_ks {l : Addr} {n cnt : Nat} {vs : List Value} {Q : Value → Shared → Prop} (F : Fr h₀ L s.heap m) (N : News h₀ L s.heap news) (hm : (l, listOf vs.toArray cnt) ∈ news) (hi : IntsAre vs ((rangeKs 0 n).map fun k => 65 + k)) (hn : 1 ≤ n ∧ n ≤ 12) (hh : A.handled = none)
    (h : ∀ h' t k (xs : List UInt8), xs.length = n → 1 ≤ xs.length ∧ xs.length ≤ 12 → Fr h₀ L h' m → News h₀ L h' news → Q (.bytes xs.toArray t) { s with heap := h', toks := k }) : wpAny (model prog w) A (call (.type "bytes") [.ref l]) Q E s := by
  have hl : ((rangeKs 0 n).map fun k => 65 + k).length = n := by rw [List.length_map, rangeKs_length]
  refine bytes_K F N (News.isList N hm) hi (fun x hx => ?_) (by rw [hi.length, hl, sizeLine_eq]; omega) hh fun h' t k F' N' _ => ?_
  · obtain ⟨k, hk, rfl⟩ := List.mem_map.mp hx
    have := mem_rangeKs hk
    omega
  · have e : (((rangeKs 0 n).map fun k => 65 + k).map fun n => n.toNat.toUInt8).length = n := by rw [List.length_map, hl]
    exact h h' t k _ e (by rw [e]; exact hn) F' N'
end
/-- what of the ledger is not among the addresses -/
inductive CutO (as : List Addr) : List (Addr × Obj) → List (Addr × Obj) → Prop
  | nil : CutO as [] []
  | skip {p : Addr × Obj} {r o : List (Addr × Obj)} (h : p.1 ∈ as) (k : CutO as r o) : CutO as (p :: r) o
  | keep {p : Addr × Obj} {r o : List (Addr × Obj)} (h : ∀ a ∈ as, @Ne Nat p.1 a) (k : CutO as r o) : CutO as (p :: r) (p :: o)
theorem CutO.sub {as : List Addr} {r o : List (Addr × Obj)} (c : CutO as r o) : (∀ p ∈ o, p ∈ r) ∧ ∀ p ∈ o, ∀ a ∈ as, @Ne Nat p.1 a := by
  induction c with
  | nil => exact ⟨fun _ h => h, fun _ h => nomatch h⟩
  | skip _ _ ih => exact ⟨fun p hp => .tail _ (ih.1 p hp), ih.2⟩
  | keep h _ ih =>
    refine ⟨fun p hp => ?_, fun p hp => ?_⟩
    · rcases List.mem_cons.mp hp with rfl | hp
      · exact .head _
      · exact .tail _ (ih.1 p hp)
    · rcases List.mem_cons.mp hp with rfl | hp
      · exact h
      · exact ih.2 p hp
section
variable {w : World} {f : Addr} {vs : List Value} {rel oth : List (Addr × Obj)} {Pre : Heap → Prop} {D U : Nat}
    {loose : List Str} {mean : ExcName → Option Value} {mg mb : Str → Option Value} {dp un : Nat} {gd : Option (List Code)} {cn : Str} {cs : Scope} {ad : Addr} {ccd : Value} {cl : List (Str × Addr)} {A₀ : Around} {base h₀ : Heap} {L : Addr} {m : Str → Option Value} {s : Shared} {news : List (Addr × Obj)} {Q E : Value → Shared → Prop}
theorem use_topc {α : Type} {mk : α → Value} {rel' : α → List (Addr × Obj)} (C : CtrT w f vs rel Pre D U (fun v n' => ∃ t, v = mk t ∧ n' = rel' t))
    (F : Fr h₀ L s.heap m) (B : Below A₀ base [] h₀) (X : (hok.heap_1 w.params).In h₀) (N : News h₀ L s.heap news) (T : Top topProg loose mean mg mb h₀) (XB : (hok.heap_1 w.params).In base) (TB : Top topProg loose mean mg mb base) (hp : Pre base) (hk : cs.kind = .function)
    (hrel : ∀ p ∈ rel, p ∈ news) (hc : CutO (rel.map (·.1)) news oth) (hd1 : dp + D < recursionLimit) (hu : un + U < cLine)
    (h : ∀ t h' tk', Fr h₀ L h' m → News h₀ L h' (rel' t ++ oth) → DifAll oth (rel' t) → Q (mk t) { s with heap := h', toks := tk' }) :
    wpAny (model PySem.Challenge.rw_qz0162_01.row.prog w) (ktrTop dp un gd cn cs L ad ccd cl []) (call (.ref f) vs) Q E s :=
  use_top C B F X N T XB TB hp hk hrel hc.sub.1 (difAll_of fun p hp q hq => hc.sub.2 p hp q.1 (List.mem_map_of_mem hq)) hd1 hu h
theorem use_topz {α : Type} {mk : α → Value} {rel' : α → List (Addr × Obj)} {P z : Addr} {tob oz : Obj} (hsrc : m (Str.ofString "source") = some (.ref z)) (C : CtrT w f vs [(P, tob), (z, oz)] Pre D U (fun v n' => ∃ t, v = mk t ∧ n' = rel' t))
    (F : Fr h₀ L s.heap m) (B : Below A₀ base [] h₀) (X : (hok.heap_1 w.params).In h₀) (N : News h₀ L s.heap news) (T : Top topProg loose mean mg mb h₀) (XB : (hok.heap_1 w.params).In base) (TB : Top topProg loose mean mg mb base) (hp : Pre base) (hk : cs.kind = .function)
    (hrel : ∀ p ∈ [(P, tob), (z, oz)], p ∈ news) (hc : CutO ([(P, tob), (z, oz)].map (·.1)) news oth) (hd1 : dp + D < recursionLimit) (hu : un + U < cLine)
    (h : ∀ t h' tk', Fr h₀ L h' m → News h₀ L h' (rel' t ++ oth) → DifAll oth (rel' t) → Q (mk t) { s with heap := h', toks := tk' }) :
    wpAny (model PySem.Challenge.rw_qz0162_01.row.prog w) (ktrTop dp un gd cn cs L ad ccd cl []) (call (.ref f) vs) Q E s :=
  use_topc C F B X N T XB TB hp hk hrel hc hd1 hu h
end
end
end Mine
-- part C16
namespace Mine
section
theorem ln1_e6b8c4 : True := by
  k_with_none
  k_with "callWith ref" => (k_here; (with_reducible rename Fr _ _ _ _ => kF); (with_reducible rename Frag.In _ _ => kX); first | ((with_reducible show wpAny _ _ (callWith _ _ _ (backTo _ (starEach [] _)) []) _ _ _); k_dflt (refine' callWith_K0 (Frag.In.keeps kX (Fr.keep kF)) ?k2w1 ?_; (case k2w1 => k_is); k_whole)) | ((with_reducible show wpAny _ _ (callWith _ _ _ (backTo _ (starEach (_ :: _) _)) []) _ _ _); k_dflt (refine' callWith_K kX ?k2w1 ?_; (case k2w1 => k_is); k_whole)))
  k_with "eval Name" => (k_here; (fail_if_success (with_reducible show wpAny _ _ (eval (Expr.Name _ _) (compEnvC _ _ _ _)) _ _ _)); k_dflt (first | (refine' nameX_L ?Fw2 ?vw2 ?_ ?aw2 ?bw2; (case bw2 => kernel_rfl!); (case aw2 => kernel_rfl!); (case Fw2 => k_asm); (case vw2 => rfl); k_whole) | (refine' nameX_K ?Fw2 ?Xw2 ?Tw2 ?ew2 ?_ ?aw2 ?bw2; (case bw2 => kernel_rfl!); (case aw2 => kernel_rfl!); (case Fw2 => k_asm); (case Xw2 => k_asm); (case Tw2 => k_asm); (case ew2 => k_is); k_whole) | (refine' nameX_B ?Fw2 ?Xw2 ?Tw2 ?ew2 ?vw2 ?nw2 ?_ ?aw2 ?bw2; (case bw2 => kernel_rfl!); (case aw2 => kernel_rfl!); (case Fw2 => k_asm); (case Xw2 => k_asm); (case Tw2 => k_asm); (case ew2 => k_is); (case vw2 => boot_fast); (case nw2 => decide); k_whole) | (refine' nameX_C ?Nw2 ?cw2 ?mw2 ?dw2 ?_ ?aw2 ?bw2; (case bw2 => kernel_rfl!); (case aw2 => kernel_rfl!); (case Nw2 => k_asm); (case cw2 => rfl); (case mw2 => k_mem); (case dw2 => k_asm); k_whole) | (refine' nameX_F ?Nw2 ?cw2 ?mw2 ?dw2 ?_ ?aw2 ?bw2; (case bw2 => kernel_rfl!); (case aw2 => kernel_rfl!); (case Nw2 => k_asm); (case cw2 => rfl); (case mw2 => k_mem); (case dw2 => k_asm); k_whole)))
  k_with "ord" => ((with_reducible rename DifO _ => hO9); (first | refine' hO9 0 _ _ _ rfl ?hbw3 ?hcw3 | refine' hO9 1 _ _ _ rfl ?hbw3 ?hcw3 | refine' hO9 2 _ _ _ rfl ?hbw3 ?hcw3 | refine' hO9 3 _ _ _ rfl ?hbw3 ?hcw3 | refine' hO9 4 _ _ _ rfl ?hbw3 ?hcw3 | refine' hO9 5 _ _ _ rfl ?hbw3 ?hcw3); (case hbw3 => first | exact (rfl : (_ : List Addr)[0]? = _) | exact (rfl : (_ : List Addr)[1]? = _) | exact (rfl : (_ : List Addr)[2]? = _) | exact (rfl : (_ : List Addr)[3]? = _) | exact (rfl : (_ : List Addr)[4]? = _) | exact (rfl : (_ : List Addr)[5]? = _)); (case hcw3 => exact rfl))
  k_with "nst" => ((with_reducible show wpAny _ _ _ _ _ (Shared.mk _ _ _ _ _)); refine' nst ?kew4 ?_; (case kew4 => (dsimp only; exact rfl)))
  k_with "all" => (first | exact neNil | (refine' neC ?aw5 ?bw5; (case aw5 => k_ne); (case bw5 => k_all)))
  k_with "room" => (first | exact room_ (by assumption) (by exact rfl) | exact room0 (by assumption) (by exact rfl) | ((try simp only [depth_under_make, depth_under_kw, depth_in1, depth_deeper, depth_caller]); (try dsimp only [ktrTop]); omega))
  k_with "units" => (first | exact room_ (by assumption) (by exact rfl) | exact room0 (by assumption) (by exact rfl) | ((try simp only [units_in1, units_deeper, Around.mark_units, units_caller]); (try dsimp only [ktrTop]); omega))
  k_with "execs cons" => ((first | (with_reducible refine execs_T ?_; intro tk) | refine wpAny_execs_cons ?_); (try k_fold))
  k_with "getAttr ref" => (k_here; k_dflt (refine' oget ?k1w9 ?k2w9 ?k3w9 ?k4w9 ?k5w9 ?k6w9 ?k7w9 ?k8w9 ?k9w9 ?_; (case k1w9 => k_asm); (case k2w9 => k_asm); (case k3w9 => k_inst); (case k4w9 => k_is); (case k5w9 => k_is); (case k6w9 => k_is); (case k7w9 => k_is); (case k8w9 => k_get); (case k9w9 => k_handed); k_whole))
  k_with "storeName" => (k_here; k_dflt (refine' ostore ?kFw10 ?kNw10 ?_ ?kaw10 ?kbw10; (case kaw10 => rfl); (case kbw10 => rfl); (case kFw10 => k_asm); (case kNw10 => k_asm); k_whole; intro h' m9 F' N'; (try k_sweep)))
  k_with "eval Constant int" => (refine cint ?_)
  k_with "eval Constant bytes" => (refine cbytes ?_)
  k_with "binaryOp Mod int int" => (k_here; (with_reducible refine mod_pos ?kbw13 ?_); (case kbw13 => omega); intro t' tk')
  k_with "binaryOp FloorDiv int int" => (k_here; (with_reducible refine div_pos ?kbw14 ?kpw14 ?_); (case kbw14 => omega); (case kpw14 => omega); intro t' tk')
  k_with "binaryOp Mult int int" => (k_here; (with_reducible refine mul_small ?kbw15 ?_); (case kbw15 => omega); intro t' tk')
  k_with "subscriptTail Name Constant ref int" => (k_here; (with_reducible show wpAny _ _ (subscriptTail _ _ (Value.ref _) (Value.int _ _)) _ _ _); k_dflt (first | ((with_reducible show wpAny _ _ (subscriptTail _ _ (Value.ref _) (Value.int 0 _)) _ _ _); refine' item_0 ?Nw16 ?mw16 ?_ ?hsw16; (case Nw16 => k_asm); (case mw16 => k_mem); (case hsw16 => with_unfolding_all rfl); k_whole) | ((with_reducible show wpAny _ _ (subscriptTail _ _ (Value.ref _) (Value.int 1 _)) _ _ _); refine' item_1 ?Nw16 ?mw16 ?_ ?hsw16; (case Nw16 => k_asm); (case mw16 => k_mem); (case hsw16 => with_unfolding_all rfl); k_whole)))
  k_with "compareOp Eq int int" => (k_here; first | (with_reducible refine ceq_t ?chw17 ?_; (case chw17 => omega)) | (with_reducible refine ceq_f ?chw17 ?_; (case chw17 => omega)))
  k_with "compareOp NotEq int int" => (k_here; first | (with_reducible refine cne_t ?chw18 ?_; (case chw18 => omega)) | (with_reducible refine cne_f ?chw18 ?_; (case chw18 => omega)))
  k_with "compareOp Lt int int" => (k_here; first | (with_reducible refine clt_t ?chw19 ?_; (case chw19 => omega)) | (with_reducible refine clt_f ?chw19 ?_; (case chw19 => omega)))
  k_with "compareOp LtE int int" => (k_here; first | (with_reducible refine cle_t ?chw20 ?_; (case chw20 => omega)) | (with_reducible refine cle_f ?chw20 ?_; (case chw20 => omega)))
  k_with "compareOp Gt int int" => (k_here; first | (with_reducible refine cgt_t ?chw21 ?_; (case chw21 => omega)) | (with_reducible refine cgt_f ?chw21 ?_; (case chw21 => omega)))
  k_with "compareOp GtE int int" => (k_here; first | (with_reducible refine cge_t ?chw22 ?_; (case chw22 => omega)) | (with_reducible refine cge_f ?chw22 ?_; (case chw22 => omega)))
  k_with "call type:int" => (k_here; (with_reducible show wpAny _ _ (call (Value.type "int") [Value.bool _]) _ _ _); (first | (with_reducible refine int_bf ?_) | (with_reducible refine int_bt ?_) | (with_reducible refine int_bb (by assumption) ?_)); intro t' tk')
  k_with "call builtin:max" => (k_here; (with_reducible show wpAny _ _ (call (Value.builtin _) [Value.int _ _, Value.int _ _]) _ _ _); k_dflt (refine' max2 ?hhw24 ?k1w24 ?k2w24 ?k3w24 ?_; (case hhw24 => with_unfolding_all rfl); (case k1w24 => k_asm); (case k2w24 => k_asm); (case k3w24 => first | exact (Int.max_eq_left (by omega)).symm | exact (Int.max_eq_right (by omega)).symm | exact rfl); k_whole); intro t' h' tk' F' N'; (try k_sweep))
  k_with "call builtin:min" => (k_here; (with_reducible show wpAny _ _ (call (Value.builtin _) [Value.int _ _, Value.int _ _]) _ _ _); k_dflt (refine' min2 ?hhw25 ?k1w25 ?k2w25 ?k3w25 ?_; (case hhw25 => with_unfolding_all rfl); (case k1w25 => k_asm); (case k2w25 => k_asm); (case k3w25 => first | exact (Int.min_eq_left (by omega)).symm | exact (Int.min_eq_right (by omega)).symm | exact rfl); k_whole); intro t' h' tk' F' N'; (try k_sweep))
  k_with "call builtin:min" => (k_here; (with_reducible show wpAny _ _ (call (Value.builtin _) [Value.int _ _, Value.int _ _, Value.int _ _]) _ _ _); k_dflt (refine' min3 ?hhw26 ?k1w26 ?k2w26 ?k3w26 ?_; (case hhw26 => with_unfolding_all rfl); (case k1w26 => k_asm); (case k2w26 => k_asm); (case k3w26 => first | exact m3a (by omega) | exact m3b (by omega) | exact m3c (by omega) | exact rfl); k_whole); intro t' h' tk' F' N'; (try k_sweep))
  trivial
theorem ln2_e6b8c4 : True := by
  k_with "klt" => (skip)
  k_with "call builtin:len" => (k_here; (with_reducible show wpAny _ _ (call (Value.builtin "len") [Value.bytes (List.toArray _) _]) _ _ _); (refine blen ?kzw28 ?_); (case kzw28 => first | omega | decide); intro t' tk'; (try simp only [List.length_nil]))
  k_with "call type:bytes" => (k_here; (with_reducible show wpAny _ _ (call (Value.type "bytes") [Value.bytes _ _]) _ _ _); (refine bb_call ?_))
  k_with "binaryOp Add bytes bytes" => (k_here; (with_reducible show wpAny _ _ (binaryOp Operator.Add (Value.bytes _ _) (Value.bytes (List.toArray _) _)) _ _ _); (refine badd0 ?kzw30 ?_); (case kzw30 => omega); intro t' tk')
  k_with "subscriptTail Name Slice bytes ref" => (k_here; (with_reducible show wpAny _ _ (subscriptTail _ (Expr.Slice _ _ none _) (Value.bytes _ _) (Value.ref _)) _ _ _); (with_reducible rename Fr _ _ _ _ => F'); (with_reducible rename News _ _ _ _ => N'); (refine' bslice (s := ⟨_, _, _, _, _⟩) F' N' ?klw31 ?kuw31 ?kzw31 ?kew31 ?_ ?ksw31 ?ktw31; (case klw31 => constructor); (case kuw31 => constructor); (case ksw31 => with_unfolding_all rfl); (case ktw31 => intro _; with_unfolding_all rfl); (case kzw31 => first | with_reducible assumption | omega); (case kew31 => first | exact b_all (by omega) | exact b_to (by omega) | exact (b_from (by first | with_reducible assumption | omega)).trans (by assumption) | exact b_from (by first | with_reducible assumption | omega) | exact b_mid (by omega) (by omega) (by omega)); k_whole); intro t' h' tk' F' N')
  k_with "subscriptTail Attribute Slice bytes ref" => (k_here; (with_reducible show wpAny _ _ (subscriptTail _ (Expr.Slice _ _ none _) (Value.bytes _ _) (Value.ref _)) _ _ _); (with_reducible rename Fr _ _ _ _ => F'); (with_reducible rename News _ _ _ _ => N'); (refine' bslice (s := ⟨_, _, _, _, _⟩) F' N' ?klw32 ?kuw32 ?kzw32 ?kew32 ?_ ?ksw32 ?ktw32; (case klw32 => constructor); (case kuw32 => constructor); (case ksw32 => with_unfolding_all rfl); (case ktw32 => intro _; with_unfolding_all rfl); (case kzw32 => first | with_reducible assumption | omega); (case kew32 => first | exact b_all (by omega) | exact b_to (by omega) | exact (b_from (by first | with_reducible assumption | omega)).trans (by assumption) | exact b_from (by first | with_reducible assumption | omega) | exact b_mid (by omega) (by omega) (by omega)); k_whole); intro t' h' tk' F' N')
  k_with "ne" => (refine neN ?_; (try dsimp only); first | exact Dif.l (by with_reducible assumption) | exact Dif.r (by with_reducible assumption) | (k_extra "ord") | omega)
  k_with "getMethod bytes" => (k_here; (with_reducible show wpAny _ _ (getMethod (Value.bytes _ _) (PySem.Str.ofString "join") _) _ _ _); (refine join_meth ?_))
  k_with "call builtin:bytes.join" => (k_here; (with_reducible show wpAny _ _ (call (Value.builtin _) [Value.bytes _ _, Value.ref _]) _ _ _); k_dflt (refine' join_fl ?kNw35 ?kmw35 ?kzw35 ?kew35 ?_; (case kNw35 => k_asm); (case kmw35 => k_mem); (case kew35 => with_reducible assumption); (case kzw35 => omega); k_whole); intro t' tk')
  k_with "eval ListComp" => (k_here; k_dflt (refine LCg.ListComp_U (F₀ := by k_asm) (by with_unfolding_all rfl) (by decide) (by rfl) (by decide) (by rfl) ?_))
  k_with "CompSrc" => (k_here; (with_reducible rename Sh _ _ _ _ _ _ _ _ => sh9); k_dflt (refine LCg.CompSrc.ledger (by rfl) (by k_asm) (by k_asm) (by k_mem) (by have := sh9.size.2; rw [PySem.sizeLine_eq]; omega) ?_; intro g'; (refine' rows_rest sh9 ?m1w37 ?m2w37 ?m3w37 (fun r' f' a' y' b' c' e' I' oI' C' oC' D' m' ys' h' tk' E' hr' hC' hx' F' N' off' ne' => ?_) ?_); (case m1w37 => k_mem); (case m2w37 => k_mem); (case m3w37 => k_mem); (all_goals (try (simp only [LCg.Off3, and_true] at off'))); kcf_last))
  k_with "KPfDone" => ((show ∀ _, BytF _ _ → _); intro ys' hb')
  k_with "CompEnd" => ((refine' LCg.CompEnd.intro ?kFw39 ?kNw39 _ ?ksw39 ?kow39 ?kSw39 (kcb_el rfl rfl rfl)); (case kFw39 => with_reducible assumption); (case kNw39 => with_reducible assumption); (case ksw39 => exact fun _ hp => hp); (case kow39 => (simp only [LCg.Off3, and_true]; with_reducible assumption)); (case kSw39 => lcg_src))
  k_with "subscriptTail Name Constant ref int" => (k_here; k_dflt (first | ((with_reducible show wpAny _ _ (subscriptTail _ _ (Value.ref _) (Value.int 1 _)) _ _ _); refine' row_1 ?kN2w40 ?km2w40 ?_ ?hs2w40; (case kN2w40 => k_asm); (case km2w40 => with_reducible assumption); (case hs2w40 => with_unfolding_all rfl); k_whole) | ((with_reducible show wpAny _ _ (subscriptTail _ _ (Value.ref _) (Value.int 0 _)) _ _ _); refine' rows_0 ?kNw40 ?kshw40 ?kmw40 ?_ ?hsw40; (case kshw40 => with_reducible assumption); (case kNw40 => k_asm); (case kmw40 => k_mem); (case hsw40 => with_unfolding_all rfl); k_whole)))
  k_with "subscriptTail Name UnaryOp ref int" => (k_here; k_dflt (refine' rows_L ?kNw41 ?kshw41 ?kmw41 ?_ ?hsw41; (case kshw41 => with_reducible assumption); (case kNw41 => k_asm); (case kmw41 => k_mem); (case hsw41 => with_unfolding_all rfl); k_whole))
  k_with "compareOp NotEq bytes bytes" => (k_here; (refine bne_f ?kew42 ?_); (case kew42 => first | rfl | exact part_y | exact part_x (by with_reducible assumption) (by omega)))
  trivial
section
variable {w : World} {f : Addr} {vs : List Value} {rel : List (Addr × Obj)} {D U : Nat}
    {loose : List Str} {mean : ExcName → Option Value} {mg mb : Str → Option Value} {dp un : Nat} {gd : Option (List Code)} {cn : Str} {cs : Scope} {ad : Addr} {ccd : Value} {cl : List (Str × Addr)} {outer : List Env} {A₀ : Around} {base h₀ : Heap} {L : Addr} {m : Str → Option Value} {s : Shared} {news : List (Addr × Obj)} {Q E : Value → Shared → Prop}
/-- a contract that writes two objects and gives a new one -/
theorem use_u2n {hp : Heap} {gn : Array GenState} {dr : Drawn} {nk : Nat} {os : OsState} {α : Type} {mk : α → Value} {oth : List (Addr × Obj)} {mid news' : α → List (Addr × Obj)} {dx dy : Addr} {od oe : Obj} {od' oe' : α → Obj} {na : α → Addr} {no : α → Obj} (C : Ctr w f vs ((dx, od) :: (dy, oe) :: oth) D U (fun v n' => ∃ t, v = mk t ∧ n' = (na t, no t) :: (dx, od' t) :: (dy, oe' t) :: oth))
    (B : Below A₀ base outer h₀) (F : Fr h₀ L hp m) (X : (hok.heap_1 w.params).In h₀) (N : News h₀ L hp news) (T : Top topProg loose mean mg mb h₀) (hk : cs.kind = .function)
    (hrel : ∀ p ∈ (dx, od) :: (dy, oe) :: oth, p ∈ news) (hU : ∀ t, Upd dx od (od' t) news (mid t)) (hV : ∀ t, Upd dy oe (oe' t) (mid t) (news' t)) (hne : ∀ t, ∀ z ∈ ((dx, od) :: (dy, oe) :: oth).map (·.1), z ≠ na t) (hd1 : dp + D < recursionLimit) (hu : un + U < cLine)
    (h : ∀ t h' tk', Fr h₀ L h' m → News h₀ L h' ((na t, no t) :: news' t) → DifR (na t) news → Q (mk t) ⟨h', gn, dr, tk', os⟩) :
    wpAny (model PySem.Challenge.rw_qz0162_01.row.prog w) (ktrTop dp un gd cn cs L ad ccd cl outer) (call (.ref f) vs) Q E ⟨hp, gn, dr, nk, os⟩ := by
  refine ctr_use C B F X N T hk hrel hd1 hu fun v n' h' tk' F' N' hr hP => ?_
  obtain ⟨t, rfl, rfl⟩ := hP
  obtain ⟨pre, post, e1, e2, h1, h2⟩ := (hU t).split
  obtain ⟨pre2, post2, e3, e4, h3, h4⟩ := (hV t).split
  have old : ∀ p : Addr × Obj, p.1 ≠ dx → p.1 ≠ dy → p ∈ news → h'.get? p.1 = some p.2 ∧ p.1 ≠ L ∧ h₀.get? p.1 = none := fun p hne hne2 hm => by
    by_cases hq : ∃ q ∈ (dx, od) :: (dy, oe) :: oth, p.1 = q.1
    · obtain ⟨q, hq, e⟩ := hq
      have a1 := (N p hm).1
      have a2 := (N q (hrel q hq)).1
      rw [e, a2] at a1
      have e3 : p = q := Prod.ext e (Option.some.inj a1).symm
      rcases List.mem_cons.mp hq with z | z
      · exact absurd (by rw [e, z]) hne
      · rcases List.mem_cons.mp z with z | z
        · exact absurd (by rw [e, z]) hne2
        · rw [e3]; exact N' q (.tail _ (.tail _ (.tail _ z)))
    · exact (hr p hm fun q hq' e => hq ⟨q, hq', e⟩).1
  have inmid : ∀ p : Addr × Obj, p.1 ≠ dy → p ∈ mid t → h'.get? p.1 = some p.2 ∧ p.1 ≠ L ∧ h₀.get? p.1 = none := fun p hne hm => by
    rw [e2] at hm
    rcases List.mem_append.mp hm with q | q
    · exact old p (h1 p q) hne (by rw [e1]; exact List.mem_append_left _ q)
    · rcases List.mem_cons.mp q with rfl | q
      · exact N' _ (.tail _ (.head _))
      · exact old p (h2 p q) hne (by rw [e1]; exact List.mem_append_right _ (.tail _ q))
  refine h t h' tk' F' (fun p hp => ?_) (difR_of fun p hp => Ne.symm ?_)
  · rcases List.mem_cons.mp hp with rfl | hp
    · exact N' _ (.head _)
    rw [e4] at hp
    rcases List.mem_append.mp hp with q | q
    · exact inmid p (h3 p q) (by rw [e3]; exact List.mem_append_left _ q)
    · rcases List.mem_cons.mp q with rfl | q
      · exact N' _ (.tail _ (.tail _ (.head _)))
      · exact inmid p (h4 p q) (by rw [e3]; exact List.mem_append_right _ (.tail _ q))
  · by_cases hq : ∃ q ∈ (dx, od) :: (dy, oe) :: oth, p.1 = q.1
    · obtain ⟨q, hq, e⟩ := hq
      have := hne t q.1 (List.mem_map_of_mem hq)
      rw [e]; exact this
    · exact (hr p hp fun q hq' e => hq ⟨q, hq', e⟩).2 _ (.head _)
end
theorem ln3_e6b8c4 : True := by
  k_with "call ref" => (k_here; (with_reducible show wpAny _ _ (call (Value.ref 135) [Value.int _ _, Value.int _ _, Value.int _ _]) _ _ _); k_dflt (refine' use_r c_distance ?kBw43 ?kFw43 ?kXw43 ?kNw43 ?kTw43 ?kkw43 ?krw43 ?kdw43 ?kuw43 ?_; (case kBw43 => k_asm); (case kFw43 => k_asm); (case kXw43 => k_asm); (case kNw43 => k_asm); (case kTw43 => k_asm); (case kkw43 => first | exact rfl | assumption); (case krw43 => exact subN); (case kdw43 => ktr_room); (case kuw43 => ktr_units); k_whole); intro t' h' tk' F' N'; (try dsimp only); (try k_sweep))
  k_with "call ref" => (k_here; (with_reducible show wpAny _ _ (call (Value.ref 128) [Value.int _ _, Value.int _ _, Value.int _ _]) _ _ _); k_dflt (refine' use_r c_plus ?kBw44 ?kFw44 ?kXw44 ?kNw44 ?kTw44 ?kkw44 ?krw44 ?kdw44 ?kuw44 ?_; (case kBw44 => k_asm); (case kFw44 => k_asm); (case kXw44 => k_asm); (case kNw44 => k_asm); (case kTw44 => k_asm); (case kkw44 => first | exact rfl | assumption); (case krw44 => exact subN); (case kdw44 => ktr_room); (case kuw44 => ktr_units); k_whole); intro t' h' tk' F' N'; (try dsimp only); (try k_sweep))
  k_with "call ref" => (k_here; (with_reducible show wpAny _ _ (call (Value.ref 149) [Value.int _ _, Value.int _ _, Value.int _ _]) _ _ _); k_dflt (refine' use_r (c_stay ?h1w45) ?kBw45 ?kFw45 ?kXw45 ?kNw45 ?kTw45 ?kkw45 ?krw45 ?kdw45 ?kuw45 ?_; (case kBw45 => k_asm); (case kFw45 => k_asm); (case kXw45 => k_asm); (case kNw45 => k_asm); (case kTw45 => k_asm); (case kkw45 => first | exact rfl | assumption); (case krw45 => exact subN); (case kdw45 => ktr_room); (case kuw45 => ktr_units); (case h1w45 => omega); k_whole); intro t' h' tk' F' N'; (try dsimp only); (try k_sweep))
  k_with "call ref" => (k_here; (with_reducible show wpAny _ _ (call (Prod.fst (Value.ref 241, [Value.ref _])) (Prod.snd (Value.ref 241, [Value.ref _]) ++ [])) _ _ _); k_dflt (refine' use_r c_flight ?kBw46 ?kFw46 ?kXw46 ?kNw46 ?kTw46 ?kkw46 ?krw46 ?kdw46 ?kuw46 ?_; (case kBw46 => k_asm); (case kFw46 => k_asm); (case kXw46 => k_asm); (case kNw46 => k_asm); (case kTw46 => k_asm); (case kkw46 => first | exact rfl | assumption); (case krw46 => (refine' (subC ?m1w46 (subC ?m2w46 subN)); (case m1w46 => k_mem); (case m2w46 => k_mem))); (case kdw46 => ktr_room); (case kuw46 => ktr_units); k_whole); intro t' h' tk' F' N'; (try dsimp only); (try k_sweep))
  k_with "call ref" => (k_here; (with_reducible show wpAny _ _ (call (Prod.fst (Value.ref 326, [Value.ref _])) (Prod.snd (Value.ref 326, [Value.ref _]) ++ [])) _ _ _); k_dflt (refine' use_r c_ever ?kBw47 ?kFw47 ?kXw47 ?kNw47 ?kTw47 ?kkw47 ?krw47 ?kdw47 ?kuw47 ?_; (case kBw47 => k_asm); (case kFw47 => k_asm); (case kXw47 => k_asm); (case kNw47 => k_asm); (case kTw47 => k_asm); (case kkw47 => first | exact rfl | assumption); (case krw47 => (refine' (subC ?m1w47 (subC ?m2w47 subN)); (case m1w47 => k_mem); (case m2w47 => k_mem))); (case kdw47 => ktr_room); (case kuw47 => ktr_units); k_whole); intro t' h' tk' F' N'; (try dsimp only); (try k_sweep))
  k_with "call ref" => (k_here; (with_reducible show wpAny _ _ (call (Prod.fst (Value.ref 255, [Value.ref _])) (Prod.snd (Value.ref 255, [Value.ref _]) ++ [])) _ _ _); k_dflt (refine' use_r (c_data ?h2w48 ?h1w48) ?kBw48 ?kFw48 ?kXw48 ?kNw48 ?kTw48 ?kkw48 ?krw48 ?kdw48 ?kuw48 ?_; (case kBw48 => k_asm); (case kFw48 => k_asm); (case kXw48 => k_asm); (case kNw48 => k_asm); (case kTw48 => k_asm); (case kkw48 => first | exact rfl | assumption); (case krw48 => (refine' (subC ?m1w48 (subC ?m2w48 (subC ?m3w48 (subC ?m4w48 subN)))); (case m1w48 => k_mem); (case m2w48 => k_mem); (case m3w48 => k_mem); (case m4w48 => k_mem))); (case kdw48 => ktr_room); (case kuw48 => ktr_units); (case h2w48 => omega); (case h1w48 => first | assumption | exact rfl); k_whole); intro t' h' tk' F' N'; (try dsimp only); (try k_sweep))
  k_with "call ref" => (k_here; (with_reducible show wpAny _ _ (call (Prod.fst (Value.ref 262, [Value.ref _])) (Prod.snd (Value.ref 262, [Value.ref _]) ++ [])) _ _ _); k_dflt (refine' use_r (c_unsent ?h2w49 ?h1w49) ?kBw49 ?kFw49 ?kXw49 ?kNw49 ?kTw49 ?kkw49 ?krw49 ?kdw49 ?kuw49 ?_; (case kBw49 => k_asm); (case kFw49 => k_asm); (case kXw49 => k_asm); (case kNw49 => k_asm); (case kTw49 => k_asm); (case kkw49 => first | exact rfl | assumption); (case krw49 => (refine' (subC ?m1w49 (subC ?m2w49 (subC ?m3w49 (subC ?m4w49 subN)))); (case m1w49 => k_mem); (case m2w49 => k_mem); (case m3w49 => k_mem); (case m4w49 => k_mem))); (case kdw49 => ktr_room); (case kuw49 => ktr_units); (case h2w49 => omega); (case h1w49 => first | assumption | exact rfl); k_whole); intro t' h' tk' F' N'; (try dsimp only); (try k_sweep))
  k_with "call ref" => (k_here; (with_reducible show wpAny _ _ (call (Value.ref 107) [Value.ref _, Value.int _ _, Value.int _ _]) _ _ _); k_dflt (refine' use_r (c_part ?h1w50) ?kBw50 ?kFw50 ?kXw50 ?kNw50 ?kTw50 ?kkw50 ?krw50 ?kdw50 ?kuw50 ?_; (case kBw50 => k_asm); (case kFw50 => k_asm); (case kXw50 => k_asm); (case kNw50 => k_asm); (case kTw50 => k_asm); (case kkw50 => first | exact rfl | assumption); (case krw50 => (refine' (subC ?m1w50 (subC ?m2w50 subN)); (case m1w50 => k_mem); (case m2w50 => k_mem))); (case kdw50 => ktr_room); (case kuw50 => ktr_units); (case h1w50 => omega); k_whole); intro t' h' tk' F' N'; (try dsimp only); (try k_sweep))
  k_with "call ref" => (k_here; (with_reducible show wpAny _ _ (call (Value.ref 114) [Value.ref _, Value.int _ _]) _ _ _); k_dflt (refine' use_u (c_drop ?hyw51 ?hnw51 ?h1w51) ?kBw51 ?kFw51 ?kXw51 ?kNw51 ?kTw51 ?kkw51 ?krw51 ?kUw51 ?kdw51 ?kuw51 ?_; (case kBw51 => k_asm); (case kFw51 => k_asm); (case kXw51 => k_asm); (case kNw51 => k_asm); (case kTw51 => k_asm); (case kkw51 => first | exact rfl | assumption); (case krw51 => (refine' (subC ?m1w51 (subC ?m2w51 subN)); (case m1w51 => k_mem); (case m2w51 => k_mem))); (case kUw51 => intro t'; k_upd); (case kdw51 => ktr_room); (case kuw51 => ktr_units); (case hyw51 => first | with_reducible assumption | exact drop_0 (by omega) | exact rfl); (case hnw51 => k_ne); (case h1w51 => omega); k_whole); intro t' h' tk' F' N'; (try dsimp only); (try k_sweep))
  k_with "call ref" => (k_here; (with_reducible show wpAny _ _ (call (Value.ref 177) [Value.ref _, Value.int _ _, Value.int _ _, Value.int _ _]) _ _ _); k_dflt (refine' use_u (c_take_yes ?hnw52 ?h1w52 ?h3w52) ?kBw52 ?kFw52 ?kXw52 ?kNw52 ?kTw52 ?kkw52 ?krw52 ?kUw52 ?kdw52 ?kuw52 ?_; (case kBw52 => k_asm); (case kFw52 => k_asm); (case kXw52 => k_asm); (case kNw52 => k_asm); (case kTw52 => k_asm); (case kkw52 => first | exact rfl | assumption); (case krw52 => (refine' (subC ?m1w52 (subC ?m2w52 subN)); (case m1w52 => k_mem); (case m2w52 => k_mem))); (case kUw52 => intro t'; k_upd); (case kdw52 => ktr_room); (case kuw52 => ktr_units); (case hnw52 => k_ne); (case h1w52 => omega); (case h3w52 => assumption); k_whole); intro t' h' tk' F' N'; (try dsimp only); (try k_sweep))
  trivial
theorem c_takew {w : World} {x xd p pd q : Addr} {K1 : STk} {b3 b4 b5 : Tok}{K2 : PTk} {d1 d2 d3 d4 : Tok} {is ua nx gr sz mo ts ta seq ack size mo' : Int} {fa fs : Bool} {t1 t2 t3 : Tok} (ho : LtH xd x ∧ LtH x pd ∧ LtH pd p) (h1 : ((seq - ts) % 256 = 0 ∧ (ack - ta) % 256 < 128) ∨ (0 < (seq - ts) % 256 ∧ (seq - ts) % 256 < 128)) (h3 : mo' = max mo size) :
    Ctr w 220 [.ref x, .int seq t1, .int ack t2, .int size t3] [(pd, dictOf (peerE w K2 sz d1 mo d2 (.int ts d3) (.int ta d4)) 5), (p, instObj 187 pd), (xd, dictOf (sndE w K1 p q is ua nx gr false fa fs b3 b4 b5) 11), (x, instObj 378 xd)] 8 80 (fun v n' => ∃ t : Tok, v = (fun _ => .bool true) t ∧ n' = [(pd, dictOf (peerE w K2 size t3 mo' t (.int seq t1) (.int ack t2)) 5), (p, instObj 187 pd), (xd, dictOf (sndE w K1 p q is ua nx gr false fa fs b3 b4 b5) 11), (x, instObj 378 xd)]) := by
  intro loose mean mg mb dp un gd cn cs ad ccd cl outer base L s Rr H0 hH hd1 hu hret
  obtain ⟨B, X, T⟩ := H0
  try have hO9 := difO_of ho
  try have hO9 := difO4 ho
  try have hO9 := difO2 ho
  generalize hg : hideAll s.heap (List.map Prod.fst _) = g at *
  replace hg := hg.symm
  revert X; k_fill; intro X
  k_dflt (
    refine' code_ctr ?k1 ?kg ?k3 ?k5 ?kH ?k6 ?k7 ?k8 ?k9 ?kB ?_ ?c2 ?c3 ?c4 ?c5
    (case kg => exact hg)
    (case k1 => assumption)
    (case k3 => assumption)
    (case k5 => assumption)
    (case kH => assumption)
    (case k6 => k_is)
    (case k7 => k_is)
    (case k8 => ktr_room)
    (case k9 => first | exact BindsTo.of_eq rfl | exact binds_K (Frag.In.keeps X (by rw [hg]; exact fun b o e => of_hideAll _ e)) rfl (by k_is) rfl rfl rfl)
    (case c5 => decide)
    (case kB => exact locs rfl)
    (case c2 => exact rfl)
    (case c3 => exact rfl)
    (case c4 => exact rfl)
    k_whole
    intro L' h' F' N'
    (try dsimp only)
    (refine A_let ?_; intro A9; have dA9 : A9.depth = dp + 1 := rfl; have uA9 : A9.units = un + 3 := rfl)
    (try k_fold)
    (refine fr_let F' ?_; clear F'; intro m9 F'))
  (repeat' (first | (k_extra "nst") | (k_unfold; (try dsimp only)) | (k_end; kc_close) | walk1 | (dsimp only; walk1) | (leave1; walk_say "STEP leave1"; (try dsimp only)) | fail "no step"))
  all_goals (first
    | exact end_u (s := s) hret _ (by first | rfl | rfl) (by assumption) (by assumption) (by first | exact List.forall_mem_nil _ | kcj_all)
    | exact end_u (s := s) hret (0 : Nat) (by first | rfl | rfl) (by assumption) (by assumption) (by first | exact List.forall_mem_nil _ | kcj_all)
    | (exfalso; (rename ((_ : Bool) = _) => hx); (simp at hx); omega)
    | (exfalso; (rename ((_ : Bool) = _) => hx); (simp at hx); done))
theorem c_backto {w : World} {x xd p q : Addr} {K1 : STk} {b3 b4 b5 : Tok} {is ua nx gr sq : Int} {fa fs : Bool} {t1 : Tok} (ho : LtH xd x) (h1 : (sq - ua) % 256 ≤ (nx - ua) % 256) :
    Ctr w 347 [.ref x, .int sq t1] [(xd, dictOf (sndE w K1 p q is ua nx gr false fa fs b3 b4 b5) 11), (x, instObj 378 xd)] 8 80 (fun v n' => ∃ t : Tok, v = (fun _ => .none) t ∧ n' = [(xd, dictOf (sndE w K1 p q is ua sq gr false fa fs b3 t1 b5) 11), (x, instObj 378 xd)]) := by
  intro loose mean mg mb dp un gd cn cs ad ccd cl outer base L s Rr H0 hH hd1 hu hret
  obtain ⟨B, X, T⟩ := H0
  try have hO9 := difO_of ho
  try have hO9 := difO4 ho
  try have hO9 := difO2 ho
  generalize hg : hideAll s.heap (List.map Prod.fst _) = g at *
  replace hg := hg.symm
  revert X; k_fill; intro X
  k_dflt (
    refine' code_ctr ?k1 ?kg ?k3 ?k5 ?kH ?k6 ?k7 ?k8 ?k9 ?kB ?_ ?c2 ?c3 ?c4 ?c5
    (case kg => exact hg)
    (case k1 => assumption)
    (case k3 => assumption)
    (case k5 => assumption)
    (case kH => assumption)
    (case k6 => k_is)
    (case k7 => k_is)
    (case k8 => ktr_room)
    (case k9 => first | exact BindsTo.of_eq rfl | exact binds_K (Frag.In.keeps X (by rw [hg]; exact fun b o e => of_hideAll _ e)) rfl (by k_is) rfl rfl rfl)
    (case c5 => decide)
    (case kB => exact locs rfl)
    (case c2 => exact rfl)
    (case c3 => exact rfl)
    (case c4 => exact rfl)
    k_whole
    intro L' h' F' N'
    (try dsimp only)
    (refine A_let ?_; intro A9; have dA9 : A9.depth = dp + 1 := rfl; have uA9 : A9.units = un + 3 := rfl)
    (try k_fold)
    (refine fr_let F' ?_; clear F'; intro m9 F'))
  (repeat' (first | (k_extra "nst") | (k_unfold; (try dsimp only)) | (k_end; kc_close) | walk1 | (dsimp only; walk1) | (leave1; walk_say "STEP leave1"; (try dsimp only)) | fail "no step"))
  all_goals (first
    | exact end_u (s := s) hret _ (by first | rfl | rfl) (by assumption) (by assumption) (by first | exact List.forall_mem_nil _ | kcj_all)
    | exact end_u (s := s) hret (0 : Nat) (by first | rfl | rfl) (by assumption) (by assumption) (by first | exact List.forall_mem_nil _ | kcj_all)
    | (exfalso; (rename ((_ : Bool) = _) => hx); (simp at hx); omega)
    | (exfalso; (rename ((_ : Bool) = _) => hx); (simp at hx); done))
structure TupP (zs : List Addr) (n : Int) where
  a : Addr
  tb : Tok
  bb : Bool
  hb : bb = true ↔ n = 1
  ne : ∀ z ∈ zs, z ≠ a
theorem c_probe {w : World} {x xd p pd q qd : Addr}{K1 : STk} {b3 b4 b5 : Tok}{K2 : PTk} {d1 d2 d3 d4 : Tok}{K3 : QTk} {g1 : Tok} {is ua gr mo ts ta rm : Int} {fa fs : Bool} {xs : List UInt8} (ho : LtH xd x ∧ LtH x pd ∧ LtH pd p ∧ LtH p qd ∧ LtH qd q) (hz : 1 ≤ xs.length ∧ xs.length ≤ 12) (h0 : 0 ≤ ua ∧ ua < 256) (hd : (0 : Int) = min (xs.length : Int) (max 0 ((ua - ua) % 256))) (hu : (xs.length : Int) = (xs.length : Int) - min (xs.length : Int) (max 0 ((ua - ua) % 256))) (h1 : ((ua + 1) % 256 - gr) % 256 = 0 ∨ 128 ≤ ((ua + 1) % 256 - gr) % 256) :
    Ctr w 368 [.ref x] [(xd, dictOf (sndE w K1 p q is ua ua gr false fa fs b3 b4 b5) 11), (x, instObj 378 xd), (qd, dictOf (queE w K3 rm (xs.toArray) g1) 2), (q, instObj 117 qd), (pd, dictOf (peerE w K2 0 d1 mo d2 (.int ts d3) (.int ta d4)) 5), (p, instObj 187 pd)] 24 400 (fun v n' => ∃ t : TupP [xd, x, qd, q, pd, p] (xs.length : Int), v = (fun t => .ref t.a) t ∧ n' = (t.a, { cls := .type "tuple", data := .seq #[.int ua b4, .bytes ((xs.drop (0 : Int).toNat).take (((0 : Int) + 1).toNat - (0 : Int).toNat)).toArray t.tb, .bool t.bb, .bool false] }) :: [(xd, dictOf (sndE w K1 p q is ua ua gr false fa fs b3 b4 b5) 11), (x, instObj 378 xd), (qd, dictOf (queE w K3 rm (xs.toArray) g1) 2), (q, instObj 117 qd), (pd, dictOf (peerE w K2 0 d1 mo d2 (.int ts d3) (.int ta d4)) 5), (p, instObj 187 pd)]) := by
  intro loose mean mg mb dp un gd cn cs ad ccd cl outer base L s Rr H0 hH hd1 hu hret
  obtain ⟨B, X, T⟩ := H0
  try have hO9 := difO_of ho
  try have hO9 := difO4 ho
  try have hO9 := difO2 ho
  generalize hg : hideAll s.heap (List.map Prod.fst _) = g at *
  replace hg := hg.symm
  revert X; k_fill; intro X
  k_dflt (
    refine' code_ctr ?k1 ?kg ?k3 ?k5 ?kH ?k6 ?k7 ?k8 ?k9 ?kB ?_ ?c2 ?c3 ?c4 ?c5
    (case kg => exact hg)
    (case k1 => assumption)
    (case k3 => assumption)
    (case k5 => assumption)
    (case kH => assumption)
    (case k6 => k_is)
    (case k7 => k_is)
    (case k8 => ktr_room)
    (case k9 => first | exact BindsTo.of_eq rfl | exact binds_K (Frag.In.keeps X (by rw [hg]; exact fun b o e => of_hideAll _ e)) rfl (by k_is) rfl rfl rfl)
    (case c5 => decide)
    (case kB => exact locs rfl)
    (case c2 => exact rfl)
    (case c3 => exact rfl)
    (case c4 => exact rfl)
    k_whole
    intro L' h' F' N'
    (try dsimp only)
    (refine A_let ?_; intro A9; have dA9 : A9.depth = dp + 1 := rfl; have uA9 : A9.units = un + 3 := rfl)
    (try k_fold)
    (refine fr_let F' ?_; clear F'; intro m9 F'))
  (repeat' (first | (k_extra "nst") | (k_unfold; (try dsimp only)) | (k_end; kc_close) | walk1 | (dsimp only; walk1) | (leave1; walk_say "STEP leave1"; (try dsimp only)) | fail "no step"))
  all_goals (refine' end_u (s := s) hret (TupP.mk _ _ _ ?hbb ?_) rfl (by assumption) (by assumption) (by exact fun _ hp => hp); (case hbb => first | exact beq_iff_eq | (simp only [decide_eq_true_eq]; done) | (simp only [beq_iff_eq, decide_eq_true_eq]; omega)); exact List.forall_mem_cons.mpr ⟨by k_ne, List.forall_mem_cons.mpr ⟨by k_ne, List.forall_mem_cons.mpr ⟨by k_ne, List.forall_mem_cons.mpr ⟨by k_ne, List.forall_mem_cons.mpr ⟨by k_ne, List.forall_mem_cons.mpr ⟨by k_ne, List.forall_mem_nil _⟩⟩⟩⟩⟩⟩)
structure TupK (zs : List Addr) (ak back len : Int) where
  a : Addr
  o : Int
  u : Int
  n : Int
  tm : Tok
  tu : Tok
  tn : Tok
  tq : Tok
  bb : Bool
  ho : o = min back len
  hu : u = ak
  hn : n = ak
  hb : bb = true ↔ len < back
  ne : ∀ z ∈ zs, z ≠ a
theorem c_acked {w : World} {x xd p q qd : Addr}{K1 : STk} {b3 b4 b5 : Tok}{K3 : QTk} {g1 : Tok} {is ua gr rm ak back : Int} {fa fs : Bool} {t1 : Tok} {xs ys : List UInt8} (ho : LtH xd x ∧ LtH x qd ∧ LtH qd q) (hz : 1 ≤ xs.length ∧ xs.length ≤ 12) (h0 : 0 ≤ ua ∧ ua < 256) (hb : 0 ≤ back ∧ back ≤ 13) (hbk : back ≤ (gr - ua) % 256) (hak : ak = (ua + back) % 256) (hy : xs.drop back.toNat = ys) :
    Ctr w 375 [.ref x, .int ak t1] [(xd, dictOf (sndE w K1 p q is ua ua gr false fa fs b3 b4 b5) 11), (qd, dictOf (queE w K3 rm (xs.toArray) g1) 2), (x, instObj 378 xd), (q, instObj 117 qd)] 12 200 (fun v n' => ∃ t : TupK [xd, qd, x, q] ak back (xs.length : Int), v = (fun t => .ref t.a) t ∧ n' = (t.a, { cls := .type "tuple", data := .seq #[.int t.o t.tm, .bool false, .bool t.bb] }) :: [(xd, dictOf (sndE w K1 p q is t.u t.n gr false fa fs t.tu t.tn b5) 11), (qd, dictOf (queE w K3 rm (ys.toArray) t.tq) 2), (x, instObj 378 xd), (q, instObj 117 qd)]) := by
  intro loose mean mg mb dp un gd cn cs ad ccd cl outer base L s Rr H0 hH hd1 hu hret
  obtain ⟨B, X, T⟩ := H0
  try have hO9 := difO_of ho
  try have hO9 := difO4 ho
  try have hO9 := difO2 ho
  generalize hg : hideAll s.heap (List.map Prod.fst _) = g at *
  replace hg := hg.symm
  revert X; k_fill; intro X
  k_dflt (
    refine' code_ctr ?k1 ?kg ?k3 ?k5 ?kH ?k6 ?k7 ?k8 ?k9 ?kB ?_ ?c2 ?c3 ?c4 ?c5
    (case kg => exact hg)
    (case k1 => assumption)
    (case k3 => assumption)
    (case k5 => assumption)
    (case kH => assumption)
    (case k6 => k_is)
    (case k7 => k_is)
    (case k8 => ktr_room)
    (case k9 => first | exact BindsTo.of_eq rfl | exact binds_K (Frag.In.keeps X (by rw [hg]; exact fun b o e => of_hideAll _ e)) rfl (by k_is) rfl rfl rfl)
    (case c5 => decide)
    (case kB => exact locs rfl)
    (case c2 => exact rfl)
    (case c3 => exact rfl)
    (case c4 => exact rfl)
    k_whole
    intro L' h' F' N'
    (try dsimp only)
    (refine A_let ?_; intro A9; have dA9 : A9.depth = dp + 1 := rfl; have uA9 : A9.units = un + 3 := rfl)
    (try k_fold)
    (refine fr_let F' ?_; clear F'; intro m9 F'))
  have hyd := drop_min (f := ua) hy h0 hb
  subst hak
  by_cases hb0 : back = 0
  · subst hb0
    obtain rfl : xs = ys := by simpa using hy
    (repeat' (first | (k_extra "nst") | (k_unfold; (try dsimp only)) | (k_end; kc_close) | walk1 | (dsimp only; walk1) | (leave1; walk_say "STEP leave1"; (try dsimp only)) | fail "no step"))
    all_goals (refine' end_u (s := s) hret (TupK.mk _ _ _ _ _ _ _ _ _ ?e1 ?e2 ?e3 ?e4 ?e5) rfl (by assumption) (by assumption) (by lcg_sub); (case e1 => omega); (case e2 => omega); (case e3 => omega); (case e4 => (simp; try omega)); (case e5 => exact List.forall_mem_cons.mpr ⟨by k_ne, List.forall_mem_cons.mpr ⟨by k_ne, List.forall_mem_cons.mpr ⟨by k_ne, List.forall_mem_cons.mpr ⟨by k_ne, List.forall_mem_nil _⟩⟩⟩⟩))
  · (repeat' (first | (k_extra "nst") | (k_unfold; (try dsimp only)) | (k_end; kc_close) | walk1 | (dsimp only; walk1) | (leave1; walk_say "STEP leave1"; (try dsimp only)) | fail "no step"))
    all_goals (refine' end_u (s := s) hret (TupK.mk _ _ _ _ _ _ _ _ _ ?e1 ?e2 ?e3 ?e4 ?e5) rfl (by assumption) (by assumption) (by lcg_sub); (case e1 => omega); (case e2 => omega); (case e3 => omega); (case e4 => (refine Iff.trans (show _ ↔ ((min (((ua + back) % 256 - ua) % 256 - 0) (xs.length : Int)) < ((ua + back) % 256 - ua) % 256 - 0) from decide_eq_true_iff) ?_; omega)); (case e5 => exact List.forall_mem_cons.mpr ⟨by k_ne, List.forall_mem_cons.mpr ⟨by k_ne, List.forall_mem_cons.mpr ⟨by k_ne, List.forall_mem_cons.mpr ⟨by k_ne, List.forall_mem_nil _⟩⟩⟩⟩))
end
end Mine
-- part C14
namespace Mine
section
theorem ln1_b8f406 : True := by
  k_with_none
  k_with "callWith ref" => (k_here; (with_reducible rename Fr _ _ _ _ => kF); (with_reducible rename Frag.In _ _ => kX); first | ((with_reducible show wpAny _ _ (callWith _ _ _ (backTo _ (starEach [] _)) []) _ _ _); k_dflt (refine' callWith_K0 (Frag.In.keeps kX (Fr.keep kF)) ?k2w1 ?_; (case k2w1 => k_is); k_whole)) | ((with_reducible show wpAny _ _ (callWith _ _ _ (backTo _ (starEach (_ :: _) _)) []) _ _ _); k_dflt (refine' callWith_K kX ?k2w1 ?_; (case k2w1 => k_is); k_whole)))
  k_with "eval Name" => (k_here; (fail_if_success (with_reducible show wpAny _ _ (eval (Expr.Name _ _) (compEnvC _ _ _ _)) _ _ _)); k_dflt (first | (refine' nameX_L ?Fw2 ?vw2 ?_ ?aw2 ?bw2; (case bw2 => kernel_rfl!); (case aw2 => kernel_rfl!); (case Fw2 => k_asm); (case vw2 => rfl); k_whole) | (refine' nameX_K ?Fw2 ?Xw2 ?Tw2 ?ew2 ?_ ?aw2 ?bw2; (case bw2 => kernel_rfl!); (case aw2 => kernel_rfl!); (case Fw2 => k_asm); (case Xw2 => k_asm); (case Tw2 => k_asm); (case ew2 => k_is); k_whole) | (refine' nameX_B ?Fw2 ?Xw2 ?Tw2 ?ew2 ?vw2 ?nw2 ?_ ?aw2 ?bw2; (case bw2 => kernel_rfl!); (case aw2 => kernel_rfl!); (case Fw2 => k_asm); (case Xw2 => k_asm); (case Tw2 => k_asm); (case ew2 => k_is); (case vw2 => boot_fast); (case nw2 => decide); k_whole) | (refine' nameX_C ?Nw2 ?cw2 ?mw2 ?dw2 ?_ ?aw2 ?bw2; (case bw2 => kernel_rfl!); (case aw2 => kernel_rfl!); (case Nw2 => k_asm); (case cw2 => rfl); (case mw2 => k_mem); (case dw2 => k_asm); k_whole) | (refine' nameX_F ?Nw2 ?cw2 ?mw2 ?dw2 ?_ ?aw2 ?bw2; (case bw2 => kernel_rfl!); (case aw2 => kernel_rfl!); (case Nw2 => k_asm); (case cw2 => rfl); (case mw2 => k_mem); (case dw2 => k_asm); k_whole)))
  k_with "ord" => ((with_reducible rename DifO _ => hO9); (first | refine' hO9 0 _ _ _ rfl ?hbw3 ?hcw3 | refine' hO9 1 _ _ _ rfl ?hbw3 ?hcw3 | refine' hO9 2 _ _ _ rfl ?hbw3 ?hcw3 | refine' hO9 3 _ _ _ rfl ?hbw3 ?hcw3 | refine' hO9 4 _ _ _ rfl ?hbw3 ?hcw3 | refine' hO9 5 _ _ _ rfl ?hbw3 ?hcw3); (case hbw3 => first | exact (rfl : (_ : List Addr)[0]? = _) | exact (rfl : (_ : List Addr)[1]? = _) | exact (rfl : (_ : List Addr)[2]? = _) | exact (rfl : (_ : List Addr)[3]? = _) | exact (rfl : (_ : List Addr)[4]? = _) | exact (rfl : (_ : List Addr)[5]? = _)); (case hcw3 => exact rfl))
  k_with "nst" => ((with_reducible show wpAny _ _ _ _ _ (Shared.mk _ _ _ _ _)); refine' nst ?kew4 ?_; (case kew4 => (dsimp only; exact rfl)))
  k_with "all" => (first | exact neNil | (refine' neC ?aw5 ?bw5; (case aw5 => k_ne); (case bw5 => k_all)))
  k_with "room" => (first | exact room_ (by assumption) (by exact rfl) | exact room0 (by assumption) (by exact rfl) | ((try simp only [depth_under_make, depth_under_kw, depth_in1, depth_deeper, depth_caller]); (try dsimp only [ktrTop]); omega))
  k_with "units" => (first | exact room_ (by assumption) (by exact rfl) | exact room0 (by assumption) (by exact rfl) | ((try simp only [units_in1, units_deeper, Around.mark_units, units_caller]); (try dsimp only [ktrTop]); omega))
  k_with "execs cons" => ((first | (with_reducible refine execs_T ?_; intro tk) | refine wpAny_execs_cons ?_); (try k_fold))
  k_with "getAttr ref" => (k_here; k_dflt (refine' oget ?k1w9 ?k2w9 ?k3w9 ?k4w9 ?k5w9 ?k6w9 ?k7w9 ?k8w9 ?k9w9 ?_; (case k1w9 => k_asm); (case k2w9 => k_asm); (case k3w9 => k_inst); (case k4w9 => k_is); (case k5w9 => k_is); (case k6w9 => k_is); (case k7w9 => k_is); (case k8w9 => k_get); (case k9w9 => k_handed); k_whole))
  k_with "storeName" => (k_here; k_dflt (refine' ostore ?kFw10 ?kNw10 ?_ ?kaw10 ?kbw10; (case kaw10 => rfl); (case kbw10 => rfl); (case kFw10 => k_asm); (case kNw10 => k_asm); k_whole; intro h' m9 F' N'; (try k_sweep)))
  k_with "eval Constant int" => (refine cint ?_)
  k_with "eval Constant bytes" => (refine cbytes ?_)
  k_with "binaryOp Mod int int" => (k_here; (with_reducible refine mod_pos ?kbw13 ?_); (case kbw13 => omega); intro t' tk')
  k_with "binaryOp FloorDiv int int" => (k_here; (with_reducible refine div_pos ?kbw14 ?kpw14 ?_); (case kbw14 => omega); (case kpw14 => omega); intro t' tk')
  k_with "binaryOp Mult int int" => (k_here; (with_reducible refine mul_small ?kbw15 ?_); (case kbw15 => omega); intro t' tk')
  k_with "subscriptTail Name Constant ref int" => (k_here; (with_reducible show wpAny _ _ (subscriptTail _ _ (Value.ref _) (Value.int _ _)) _ _ _); k_dflt (first | ((with_reducible show wpAny _ _ (subscriptTail _ _ (Value.ref _) (Value.int 0 _)) _ _ _); refine' item_0 ?Nw16 ?mw16 ?_ ?hsw16; (case Nw16 => k_asm); (case mw16 => k_mem); (case hsw16 => with_unfolding_all rfl); k_whole) | ((with_reducible show wpAny _ _ (subscriptTail _ _ (Value.ref _) (Value.int 1 _)) _ _ _); refine' item_1 ?Nw16 ?mw16 ?_ ?hsw16; (case Nw16 => k_asm); (case mw16 => k_mem); (case hsw16 => with_unfolding_all rfl); k_whole)))
  k_with "compareOp Eq int int" => (k_here; first | (with_reducible refine ceq_t ?chw17 ?_; (case chw17 => omega)) | (with_reducible refine ceq_f ?chw17 ?_; (case chw17 => omega)))
  k_with "compareOp NotEq int int" => (k_here; first | (with_reducible refine cne_t ?chw18 ?_; (case chw18 => omega)) | (with_reducible refine cne_f ?chw18 ?_; (case chw18 => omega)))
  k_with "compareOp Lt int int" => (k_here; first | (with_reducible refine clt_t ?chw19 ?_; (case chw19 => omega)) | (with_reducible refine clt_f ?chw19 ?_; (case chw19 => omega)))
  k_with "compareOp LtE int int" => (k_here; first | (with_reducible refine cle_t ?chw20 ?_; (case chw20 => omega)) | (with_reducible refine cle_f ?chw20 ?_; (case chw20 => omega)))
  k_with "compareOp Gt int int" => (k_here; first | (with_reducible refine cgt_t ?chw21 ?_; (case chw21 => omega)) | (with_reducible refine cgt_f ?chw21 ?_; (case chw21 => omega)))
  k_with "compareOp GtE int int" => (k_here; first | (with_reducible refine cge_t ?chw22 ?_; (case chw22 => omega)) | (with_reducible refine cge_f ?chw22 ?_; (case chw22 => omega)))
  k_with "call type:int" => (k_here; (with_reducible show wpAny _ _ (call (Value.type "int") [Value.bool _]) _ _ _); (first | (with_reducible refine int_bf ?_) | (with_reducible refine int_bt ?_) | (with_reducible refine int_bb (by assumption) ?_)); intro t' tk')
  k_with "call builtin:max" => (k_here; (with_reducible show wpAny _ _ (call (Value.builtin _) [Value.int _ _, Value.int _ _]) _ _ _); k_dflt (refine' max2 ?hhw24 ?k1w24 ?k2w24 ?k3w24 ?_; (case hhw24 => with_unfolding_all rfl); (case k1w24 => k_asm); (case k2w24 => k_asm); (case k3w24 => first | exact (Int.max_eq_left (by omega)).symm | exact (Int.max_eq_right (by omega)).symm | exact rfl); k_whole); intro t' h' tk' F' N'; (try k_sweep))
  k_with "call builtin:min" => (k_here; (with_reducible show wpAny _ _ (call (Value.builtin _) [Value.int _ _, Value.int _ _]) _ _ _); k_dflt (refine' min2 ?hhw25 ?k1w25 ?k2w25 ?k3w25 ?_; (case hhw25 => with_unfolding_all rfl); (case k1w25 => k_asm); (case k2w25 => k_asm); (case k3w25 => first | exact (Int.min_eq_left (by omega)).symm | exact (Int.min_eq_right (by omega)).symm | exact rfl); k_whole); intro t' h' tk' F' N'; (try k_sweep))
  k_with "call builtin:min" => (k_here; (with_reducible show wpAny _ _ (call (Value.builtin _) [Value.int _ _, Value.int _ _, Value.int _ _]) _ _ _); k_dflt (refine' min3 ?hhw26 ?k1w26 ?k2w26 ?k3w26 ?_; (case hhw26 => with_unfolding_all rfl); (case k1w26 => k_asm); (case k2w26 => k_asm); (case k3w26 => first | exact m3a (by omega) | exact m3b (by omega) | exact m3c (by omega) | exact rfl); k_whole); intro t' h' tk' F' N'; (try k_sweep))
  k_with "call builtin:len" => (k_here; (with_reducible show wpAny _ _ (call (Value.builtin "len") [Value.bytes (List.toArray _) _]) _ _ _); (refine blen ?kzw27 ?_); (case kzw27 => first | omega | decide); intro t' tk'; (try simp only [List.length_nil]))
  k_with "call type:bytes" => (k_here; (with_reducible show wpAny _ _ (call (Value.type "bytes") [Value.bytes _ _]) _ _ _); (refine bb_call ?_))
  k_with "binaryOp Add bytes bytes" => (k_here; (with_reducible show wpAny _ _ (binaryOp Operator.Add (Value.bytes _ _) (Value.bytes (List.toArray _) _)) _ _ _); (refine badd0 ?kzw29 ?_); (case kzw29 => omega); intro t' tk')
  k_with "subscriptTail Name Slice bytes ref" => (k_here; (with_reducible show wpAny _ _ (subscriptTail _ (Expr.Slice _ _ none _) (Value.bytes _ _) (Value.ref _)) _ _ _); (with_reducible rename Fr _ _ _ _ => F'); (with_reducible rename News _ _ _ _ => N'); (refine' bslice (s := ⟨_, _, _, _, _⟩) F' N' ?klw30 ?kuw30 ?kzw30 ?kew30 ?_ ?ksw30 ?ktw30; (case klw30 => constructor); (case kuw30 => constructor); (case ksw30 => with_unfolding_all rfl); (case ktw30 => intro _; with_unfolding_all rfl); (case kzw30 => first | with_reducible assumption | omega); (case kew30 => first | exact b_all (by omega) | exact b_to (by omega) | exact (b_from (by first | with_reducible assumption | omega)).trans (by assumption) | exact b_from (by first | with_reducible assumption | omega) | exact b_mid (by omega) (by omega) (by omega)); k_whole); intro t' h' tk' F' N')
  k_with "subscriptTail Attribute Slice bytes ref" => (k_here; (with_reducible show wpAny _ _ (subscriptTail _ (Expr.Slice _ _ none _) (Value.bytes _ _) (Value.ref _)) _ _ _); (with_reducible rename Fr _ _ _ _ => F'); (with_reducible rename News _ _ _ _ => N'); (refine' bslice (s := ⟨_, _, _, _, _⟩) F' N' ?klw31 ?kuw31 ?kzw31 ?kew31 ?_ ?ksw31 ?ktw31; (case klw31 => constructor); (case kuw31 => constructor); (case ksw31 => with_unfolding_all rfl); (case ktw31 => intro _; with_unfolding_all rfl); (case kzw31 => first | with_reducible assumption | omega); (case kew31 => first | exact b_all (by omega) | exact b_to (by omega) | exact (b_from (by first | with_reducible assumption | omega)).trans (by assumption) | exact b_from (by first | with_reducible assumption | omega) | exact b_mid (by omega) (by omega) (by omega)); k_whole); intro t' h' tk' F' N')
  k_with "exec Raise some none" => (k_here; (with_reducible show wpAny _ _ (exec (Stmt.Raise (some (Expr.Call (Expr.Name _ _) (_ :: _) [] _)) none _) _) _ _ _); k_dflt (refine' raise_X ?kFw32 ?kXw32 ?kTw32 ?kew32 ?kmw32 ?khw32 ?_ ?kaw32 ?kbw32 ?kcw32 ?kdw32 ?kfw32; (case kFw32 => k_asm); (case kXw32 => k_asm); (case kTw32 => k_asm); (case kew32 => k_is); (case kmw32 => first | exact x63 | exact x51); (case khw32 => first | rfl | assumption); (case kaw32 => rfl); (case kbw32 => rfl); (case kcw32 => rfl); (case kdw32 => rfl); (case kfw32 => decide); k_whole))
  k_with "ArgsX" => (k_dflt (refine' argsX_ ?kFw33 ?kXw33 ?_; (case kFw33 => k_asm); (case kXw33 => k_asm); k_whole))
  k_with "call ref" => (k_here; (with_reducible show wpAny _ _ _ (ExcOut _ _ _) _ _); k_dflt (refine' call_X ?kFw34 ?kXw34 ?kNw34 ?kmw34 ?k1w34 ?k2w34 ?k3w34 ?k4w34 ?k5w34 ?_; (case kFw34 => k_asm); (case kXw34 => k_asm); (case kNw34 => k_asm); (case kmw34 => first | exact x63 | exact x51); (case k1w34 => first | exact s63.1 | exact s51.1); (case k2w34 => first | exact s63.2.1 | exact s51.2.1); (case k3w34 => first | exact s63.2.2.1 | exact s51.2.2.1); (case k4w34 => exact fn35); (case k5w34 => size_fits); k_whole; intro xe xT h' F' N' l1 l2; (have hXne := fun q hq => And.intro (Nat.ne_of_lt (Nat.lt_trans (l1 q hq) l2)) (Nat.ne_of_lt (l1 q hq))); (try k_lt l1); (try k_lt2 l2); k_enter))
  k_with "setAttr ref" => (k_here; (with_reducible show wpAny _ _ (setAttr (Value.ref _) (PySem.Str.ofString "message") _) _ _ _); k_dflt (refine' set_excN ?kFw35 ?kXw35 ?kNw35 ?ksw35 ?kcw35 ?ktw35 ?kUw35 ?_; (case kFw35 => k_asm); (case kXw35 => k_asm); (case kNw35 => k_asm); (case kUw35 => intro t'; k_upd); (case kcw35 => first | exact m63 | exact m51); (case ksw35 => first | exact s63.2.2.2.1 | exact s51.2.2.2.1); (case ktw35 => first | exact s63.2.2.2.2 | exact s51.2.2.2.2); k_whole; intro h' tk' xD F' N'))
  k_with "ExcOut" => (k_dflt (refine' excOut_ ?kFw36 ?kXw36 ?kNw36 ?kmw36 ?_; (case kFw36 => k_asm); (case kXw36 => k_asm); (case kNw36 => k_asm); (case kmw36 => k_mem); k_whole))
  k_with "leaving ref" => (k_here; k_dflt (refine' leave_X ?kBw37 ?kFw37 ?kNw37 ?knw37 ?_; (case kBw37 => k_asm); (case kFw37 => k_asm); (case kNw37 => k_asm); (case knw37 => assumption); k_whole); intro h' R' U'; (try dsimp only at R' U'))
  k_with "leaving ref" => (k_here; (refine' leave_onX ?k1w38 ?k2w38 ?k3w38 ?k4w38 ?_; (case k3w38 => assumption); (case k1w38 => assumption); (case k4w38 => assumption); (case k2w38 => assumption); k_whole; intro h' R' U'; (try dsimp only at R' U' ⊢)))
  k_with "noteFrame ref" => (k_here; (with_reducible rename RaisedK _ _ _ _ _ _ _ _ => rkX); k_dflt (refine' caught_L ?kBw39 ?kFw39 ?kUw39 ?kRw39 ?kXw39 ?kmw39 ?kvw39 ?_; (case kBw39 => k_asm); (case kFw39 => assumption); (case kUw39 => assumption); (case kRw39 => assumption); (case kXw39 => k_asm); (case kmw39 => first | exact x63 | exact x51); (case kvw39 => exact rfl); k_whole); intro h' F' N'; (try k_sweep))
  k_with "leaving ref" => (k_here; k_dflt (refine' leave_XS ?kBw40 ?kFw40 ?kNw40 ?knw40 ?_; (case kFw40 => k_asm); (case kBw40 => k_asm); (case kNw40 => k_asm); (case knw40 => assumption); k_whole); intro h' R' U'; (try dsimp only at R' U'))
  k_with "leaving ref" => (k_here; (refine' leave_onXS ?k1w41 ?k2w41 ?k3w41 ?k4w41 ?_; (case k3w41 => assumption); (case k2w41 => assumption); (case k1w41 => assumption); (case k4w41 => assumption); k_whole; intro h' R' U'; (try dsimp only at R' U' ⊢)))
  k_with "noteFrame ref" => (k_here; (with_reducible rename RaisedS _ _ _ _ _ _ _ _ _ => rkX); k_dflt (refine' caught_LS rkX ?kFw42 ?kBw42 ?kUw42 ?kXw42 ?kTw42 ?kWw42 ?kmw42 ?kvw42 ?_; (case kFw42 => assumption); (case kBw42 => k_asm); (case kUw42 => assumption); (case kXw42 => assumption); (case kTw42 => assumption); (case kWw42 => assumption); (case kmw42 => first | exact x63 | exact x51); (case kvw42 => exact rfl); k_whole); intro h' g' W' F' N' B' X' T'; (try k_sweep))
  k_with "ne" => (refine neN ?_; (try dsimp only); first | exact Dif.l (by with_reducible assumption) | exact Dif.r (by with_reducible assumption) | (k_extra "ord") | omega)
  k_with "getMethod bytes" => (k_here; (with_reducible show wpAny _ _ (getMethod (Value.bytes _ _) (PySem.Str.ofString "join") _) _ _ _); (refine join_meth ?_))
  k_with "call builtin:bytes.join" => (k_here; (with_reducible show wpAny _ _ (call (Value.builtin _) [Value.bytes _ _, Value.ref _]) _ _ _); k_dflt (refine' join_fl ?kNw45 ?kmw45 ?kzw45 ?kew45 ?_; (case kNw45 => k_asm); (case kmw45 => k_mem); (case kew45 => with_reducible assumption); (case kzw45 => omega); k_whole); intro t' tk')
  k_with "eval ListComp" => (k_here; k_dflt (refine LCg.ListComp_U (F₀ := by k_asm) (by with_unfolding_all rfl) (by decide) (by rfl) (by decide) (by rfl) ?_))
  k_with "CompSrc" => (k_here; (with_reducible rename Sh _ _ _ _ _ _ _ _ => sh9); k_dflt (refine LCg.CompSrc.ledger (by rfl) (by k_asm) (by k_asm) (by k_mem) (by have := sh9.size.2; rw [PySem.sizeLine_eq]; omega) ?_; intro g'; (refine' rows_rest sh9 ?m1w47 ?m2w47 ?m3w47 (fun r' f' a' y' b' c' e' I' oI' C' oC' D' m' ys' h' tk' E' hr' hC' hx' F' N' off' ne' => ?_) ?_); (case m1w47 => k_mem); (case m2w47 => k_mem); (case m3w47 => k_mem); (all_goals (try (simp only [LCg.Off3, and_true] at off'))); kcf_last))
  k_with "KPfDone" => ((show ∀ _, BytF _ _ → _); intro ys' hb')
  k_with "CompEnd" => ((refine' LCg.CompEnd.intro ?kFw49 ?kNw49 _ ?ksw49 ?kow49 ?kSw49 (kcb_el rfl rfl rfl)); (case kFw49 => with_reducible assumption); (case kNw49 => with_reducible assumption); (case ksw49 => exact fun _ hp => hp); (case kow49 => (simp only [LCg.Off3, and_true]; with_reducible assumption)); (case kSw49 => lcg_src))
  k_with "subscriptTail Name Constant ref int" => (k_here; k_dflt (first | ((with_reducible show wpAny _ _ (subscriptTail _ _ (Value.ref _) (Value.int 1 _)) _ _ _); refine' row_1 ?kN2w50 ?km2w50 ?_ ?hs2w50; (case kN2w50 => k_asm); (case km2w50 => with_reducible assumption); (case hs2w50 => with_unfolding_all rfl); k_whole) | ((with_reducible show wpAny _ _ (subscriptTail _ _ (Value.ref _) (Value.int 0 _)) _ _ _); refine' rows_0 ?kNw50 ?kshw50 ?kmw50 ?_ ?hsw50; (case kshw50 => with_reducible assumption); (case kNw50 => k_asm); (case kmw50 => k_mem); (case hsw50 => with_unfolding_all rfl); k_whole)))
  k_with "subscriptTail Name UnaryOp ref int" => (k_here; k_dflt (refine' rows_L ?kNw51 ?kshw51 ?kmw51 ?_ ?hsw51; (case kshw51 => with_reducible assumption); (case kNw51 => k_asm); (case kmw51 => k_mem); (case hsw51 => with_unfolding_all rfl); k_whole))
  k_with "compareOp NotEq bytes bytes" => (k_here; (refine bne_f ?kew52 ?_); (case kew52 => first | rfl | exact part_y | exact part_x (by with_reducible assumption) (by omega)))
  k_with "call ref" => (k_here; (with_reducible show wpAny _ _ (call (Value.ref 417) [Value.int _ _, Value.bytes _ _, Value.bool _]) _ _ _); (try k_fold); k_dflt (refine' use_n (c_sent ?hzw53 ?h0w53 ?hew53 ?hfw53 ?hgw53) ?kBw53 ?kFw53 ?kXw53 ?kNw53 ?kTw53 ?kkw53 ?kdw53 ?kuw53 ?_; (case kFw53 => k_asm); (case kBw53 => k_asm); (case kXw53 => k_asm); (case kNw53 => k_asm); (case kTw53 => k_asm); (case kkw53 => first | exact rfl | assumption); (case kdw53 => ktr_room); (case kuw53 => ktr_units); (case hzw53 => omega); (case h0w53 => omega); (case hew53 => with_reducible assumption); (case hfw53 => with_reducible assumption); (case hgw53 => with_reducible assumption); k_whole); intro ⟨u', l', x', xd', p', pd', q', qd', c', _, _, _, _, _, _, _, _, _, _, _, refs', _, _, _, _, _, _, _, _, _, _, _, _, _, _, _, _, _, _, _, sh', ho'⟩ h' tk' F' N' df'; (try dsimp only at N' df'); (try dsimp only [rows3, List.cons_append, List.nil_append] at N' df'); (try k_sweep); (have hO9 := difO_of ho'); (with_reducible refine spA df' ?_); (clear df'); (dsimp only [SpA, SpR, List.cons_append, List.nil_append]); intros)
  k_with "call ref" => (k_here; (with_reducible show wpAny _ _ (call (Value.ref 135) [Value.int _ _, Value.int _ _, Value.int _ _]) _ _ _); k_dflt (refine' use_r c_distance ?kBw54 ?kFw54 ?kXw54 ?kNw54 ?kTw54 ?kkw54 ?krw54 ?kdw54 ?kuw54 ?_; (case kBw54 => k_asm); (case kFw54 => k_asm); (case kXw54 => k_asm); (case kNw54 => k_asm); (case kTw54 => k_asm); (case kkw54 => first | exact rfl | assumption); (case krw54 => exact subN); (case kdw54 => ktr_room); (case kuw54 => ktr_units); k_whole); intro t' h' tk' F' N'; (try dsimp only); (try k_sweep))
  k_with "call ref" => (k_here; (with_reducible show wpAny _ _ (call (Value.ref 128) [Value.int _ _, Value.int _ _, Value.int _ _]) _ _ _); k_dflt (refine' use_r c_plus ?kBw55 ?kFw55 ?kXw55 ?kNw55 ?kTw55 ?kkw55 ?krw55 ?kdw55 ?kuw55 ?_; (case kBw55 => k_asm); (case kFw55 => k_asm); (case kXw55 => k_asm); (case kNw55 => k_asm); (case kTw55 => k_asm); (case kkw55 => first | exact rfl | assumption); (case krw55 => exact subN); (case kdw55 => ktr_room); (case kuw55 => ktr_units); k_whole); intro t' h' tk' F' N'; (try dsimp only); (try k_sweep))
  k_with "call ref" => (k_here; (with_reducible show wpAny _ _ (call (Value.ref 149) [Value.int _ _, Value.int _ _, Value.int _ _]) _ _ _); k_dflt (refine' use_r (c_stay ?h1w56) ?kBw56 ?kFw56 ?kXw56 ?kNw56 ?kTw56 ?kkw56 ?krw56 ?kdw56 ?kuw56 ?_; (case kBw56 => k_asm); (case kFw56 => k_asm); (case kXw56 => k_asm); (case kNw56 => k_asm); (case kTw56 => k_asm); (case kkw56 => first | exact rfl | assumption); (case krw56 => exact subN); (case kdw56 => ktr_room); (case kuw56 => ktr_units); (case h1w56 => omega); k_whole); intro t' h' tk' F' N'; (try dsimp only); (try k_sweep))
  k_with "call ref" => (k_here; (with_reducible show wpAny _ _ (call (Prod.fst (Value.ref 241, [Value.ref _])) (Prod.snd (Value.ref 241, [Value.ref _]) ++ [])) _ _ _); k_dflt (refine' use_r c_flight ?kBw57 ?kFw57 ?kXw57 ?kNw57 ?kTw57 ?kkw57 ?krw57 ?kdw57 ?kuw57 ?_; (case kBw57 => k_asm); (case kFw57 => k_asm); (case kXw57 => k_asm); (case kNw57 => k_asm); (case kTw57 => k_asm); (case kkw57 => first | exact rfl | assumption); (case krw57 => (refine' (subC ?m1w57 (subC ?m2w57 subN)); (case m1w57 => k_mem); (case m2w57 => k_mem))); (case kdw57 => ktr_room); (case kuw57 => ktr_units); k_whole); intro t' h' tk' F' N'; (try dsimp only); (try k_sweep))
  k_with "call ref" => (k_here; (with_reducible show wpAny _ _ (call (Prod.fst (Value.ref 326, [Value.ref _])) (Prod.snd (Value.ref 326, [Value.ref _]) ++ [])) _ _ _); k_dflt (refine' use_r c_ever ?kBw58 ?kFw58 ?kXw58 ?kNw58 ?kTw58 ?kkw58 ?krw58 ?kdw58 ?kuw58 ?_; (case kBw58 => k_asm); (case kFw58 => k_asm); (case kXw58 => k_asm); (case kNw58 => k_asm); (case kTw58 => k_asm); (case kkw58 => first | exact rfl | assumption); (case krw58 => (refine' (subC ?m1w58 (subC ?m2w58 subN)); (case m1w58 => k_mem); (case m2w58 => k_mem))); (case kdw58 => ktr_room); (case kuw58 => ktr_units); k_whole); intro t' h' tk' F' N'; (try dsimp only); (try k_sweep))
  k_with "call ref" => (k_here; (with_reducible show wpAny _ _ (call (Prod.fst (Value.ref 255, [Value.ref _])) (Prod.snd (Value.ref 255, [Value.ref _]) ++ [])) _ _ _); k_dflt (refine' use_r (c_data ?h2w59 ?h1w59) ?kBw59 ?kFw59 ?kXw59 ?kNw59 ?kTw59 ?kkw59 ?krw59 ?kdw59 ?kuw59 ?_; (case kBw59 => k_asm); (case kFw59 => k_asm); (case kXw59 => k_asm); (case kNw59 => k_asm); (case kTw59 => k_asm); (case kkw59 => first | exact rfl | assumption); (case krw59 => (refine' (subC ?m1w59 (subC ?m2w59 (subC ?m3w59 (subC ?m4w59 subN)))); (case m1w59 => k_mem); (case m2w59 => k_mem); (case m3w59 => k_mem); (case m4w59 => k_mem))); (case kdw59 => ktr_room); (case kuw59 => ktr_units); (case h2w59 => omega); (case h1w59 => first | assumption | exact rfl); k_whole); intro t' h' tk' F' N'; (try dsimp only); (try k_sweep))
  k_with "call ref" => (k_here; (with_reducible show wpAny _ _ (call (Prod.fst (Value.ref 262, [Value.ref _])) (Prod.snd (Value.ref 262, [Value.ref _]) ++ [])) _ _ _); k_dflt (refine' use_r (c_unsent ?h2w60 ?h1w60) ?kBw60 ?kFw60 ?kXw60 ?kNw60 ?kTw60 ?kkw60 ?krw60 ?kdw60 ?kuw60 ?_; (case kBw60 => k_asm); (case kFw60 => k_asm); (case kXw60 => k_asm); (case kNw60 => k_asm); (case kTw60 => k_asm); (case kkw60 => first | exact rfl | assumption); (case krw60 => (refine' (subC ?m1w60 (subC ?m2w60 (subC ?m3w60 (subC ?m4w60 subN)))); (case m1w60 => k_mem); (case m2w60 => k_mem); (case m3w60 => k_mem); (case m4w60 => k_mem))); (case kdw60 => ktr_room); (case kuw60 => ktr_units); (case h2w60 => omega); (case h1w60 => first | assumption | exact rfl); k_whole); intro t' h' tk' F' N'; (try dsimp only); (try k_sweep))
  k_with "call ref" => (k_here; (with_reducible show wpAny _ _ (call (Value.ref 107) [Value.ref _, Value.int _ _, Value.int _ _]) _ _ _); k_dflt (refine' use_r (c_part ?h1w61) ?kBw61 ?kFw61 ?kXw61 ?kNw61 ?kTw61 ?kkw61 ?krw61 ?kdw61 ?kuw61 ?_; (case kBw61 => k_asm); (case kFw61 => k_asm); (case kXw61 => k_asm); (case kNw61 => k_asm); (case kTw61 => k_asm); (case kkw61 => first | exact rfl | assumption); (case krw61 => (refine' (subC ?m1w61 (subC ?m2w61 subN)); (case m1w61 => k_mem); (case m2w61 => k_mem))); (case kdw61 => ktr_room); (case kuw61 => ktr_units); (case h1w61 => omega); k_whole); intro t' h' tk' F' N'; (try dsimp only); (try k_sweep))
  k_with "call ref" => (k_here; (with_reducible show wpAny _ _ (call (Value.ref 114) [Value.ref _, Value.int _ _]) _ _ _); k_dflt (refine' use_u (c_drop ?hyw62 ?hnw62 ?h1w62) ?kBw62 ?kFw62 ?kXw62 ?kNw62 ?kTw62 ?kkw62 ?krw62 ?kUw62 ?kdw62 ?kuw62 ?_; (case kBw62 => k_asm); (case kFw62 => k_asm); (case kXw62 => k_asm); (case kNw62 => k_asm); (case kTw62 => k_asm); (case kkw62 => first | exact rfl | assumption); (case krw62 => (refine' (subC ?m1w62 (subC ?m2w62 subN)); (case m1w62 => k_mem); (case m2w62 => k_mem))); (case kUw62 => intro t'; k_upd); (case kdw62 => ktr_room); (case kuw62 => ktr_units); (case hyw62 => first | with_reducible assumption | exact drop_0 (by omega) | exact rfl); (case hnw62 => k_ne); (case h1w62 => omega); k_whole); intro t' h' tk' F' N'; (try dsimp only); (try k_sweep))
  k_with "call ref" => (k_here; (with_reducible show wpAny _ _ (call (Value.ref 177) [Value.ref _, Value.int _ _, Value.int _ _, Value.int _ _]) _ _ _); k_dflt (refine' use_u (c_take_yes ?hnw63 ?h1w63 ?h3w63) ?kBw63 ?kFw63 ?kXw63 ?kNw63 ?kTw63 ?kkw63 ?krw63 ?kUw63 ?kdw63 ?kuw63 ?_; (case kBw63 => k_asm); (case kFw63 => k_asm); (case kXw63 => k_asm); (case kNw63 => k_asm); (case kTw63 => k_asm); (case kkw63 => first | exact rfl | assumption); (case krw63 => (refine' (subC ?m1w63 (subC ?m2w63 subN)); (case m1w63 => k_mem); (case m2w63 => k_mem))); (case kUw63 => intro t'; k_upd); (case kdw63 => ktr_room); (case kuw63 => ktr_units); (case hnw63 => k_ne); (case h1w63 => omega); (case h3w63 => first | exact (Int.max_eq_left (by omega)).symm | exact (Int.max_eq_right (by omega)).symm | exact rfl); k_whole); intro t' h' tk' F' N'; (try dsimp only); (try k_sweep))
  k_with "call ref" => (k_here; (with_reducible show wpAny _ _ (call (Value.ref 424) [Value.ref _, Value.ref _]) _ _ _); k_dflt (refine' use_rT (c_refB ?hbw64 ?hlw64 ?h1w64 ?h2w64 ?h3w64 ?h4w64 ?h5w64) ?kWw64 ?kBw64 ?kFw64 ?kXw64 ?kNw64 ?kTw64 ?kXBw64 ?kTBw64 ?kpw64 ?kkw64 ?krw64 ?kdw64 ?kuw64 ?_; (case kFw64 => k_asm); (case kBw64 => k_asm); (case kXw64 => k_asm); (case kNw64 => k_asm); (case kTw64 => k_asm); (case kWw64 => assumption); (case kXBw64 => assumption); (case kTBw64 => assumption); (case kpw64 => exact True.intro); (case kkw64 => first | exact rfl | assumption); (case krw64 => (refine' (subC ?m1w64 (subC ?m2w64 (subC ?m3w64 (subC ?m4w64 (subC ?m5w64 (subC ?m6w64 (subC ?m7w64 subN))))))); (case m1w64 => k_mem); (case m2w64 => k_mem); (case m3w64 => k_mem); (case m4w64 => k_mem); (case m5w64 => k_mem); (case m6w64 => k_mem); (case m7w64 => k_mem))); (case kdw64 => ktr_room); (case kuw64 => ktr_units); (case hlw64 => kernel_rfl); (case h1w64 => assumption); (case h2w64 => assumption); (case h3w64 => assumption); (case h4w64 => assumption); (case h5w64 => assumption); (case hbw64 => omega); k_whole); intro t' h' tk' g' W' B' X' T' F' N'; (try dsimp only); (try k_sweep))
  k_with "call ref" => (k_here; (with_reducible show wpAny _ _ (call (Value.ref 220) [Value.ref _, Value.int _ _, Value.int _ _, Value.int _ _]) _ _ _); k_dflt (refine' use_u (c_takew ?how65 ?h1w65 ?h3w65) ?kBw65 ?kFw65 ?kXw65 ?kNw65 ?kTw65 ?kkw65 ?krw65 ?kUw65 ?kdw65 ?kuw65 ?_; (case kBw65 => k_asm); (case kFw65 => k_asm); (case kXw65 => k_asm); (case kNw65 => k_asm); (case kTw65 => k_asm); (case kkw65 => first | exact rfl | assumption); (case krw65 => (refine' (subC ?m1w65 (subC ?m2w65 (subC ?m3w65 (subC ?m4w65 subN)))); (case m1w65 => k_mem); (case m2w65 => k_mem); (case m3w65 => k_mem); (case m4w65 => k_mem))); (case kUw65 => intro t'; k_upd); (case kdw65 => ktr_room); (case kuw65 => ktr_units); (case how65 => exact ⟨ho.1, ho.2.1, ho.2.2.1⟩); (case h1w65 => omega); (case h3w65 => first | exact (Int.max_eq_left (by omega)).symm | exact (Int.max_eq_right (by omega)).symm | exact rfl); k_whole); intro t' h' tk' F' N'; (try dsimp only); (try k_sweep))
  k_with "call ref" => (k_here; (with_reducible show wpAny _ _ (call (Value.ref 347) [Value.ref _, Value.int _ _]) _ _ _); k_dflt (refine' use_u (c_backto ?how66 ?h1w66) ?kBw66 ?kFw66 ?kXw66 ?kNw66 ?kTw66 ?kkw66 ?krw66 ?kUw66 ?kdw66 ?kuw66 ?_; (case kBw66 => k_asm); (case kFw66 => k_asm); (case kXw66 => k_asm); (case kNw66 => k_asm); (case kTw66 => k_asm); (case kkw66 => first | exact rfl | assumption); (case krw66 => (refine' (subC ?m1w66 (subC ?m2w66 subN)); (case m1w66 => k_mem); (case m2w66 => k_mem))); (case kUw66 => intro t'; k_upd); (case kdw66 => ktr_room); (case kuw66 => ktr_units); (case how66 => exact ho.1); (case h1w66 => omega); k_whole); intro t' h' tk' F' N'; (try dsimp only); (try k_sweep))
  k_with "call ref" => (k_here; (with_reducible show wpAny _ _ (call (Prod.fst (Value.ref 368, [Value.ref _])) (Prod.snd (Value.ref 368, [Value.ref _]) ++ [])) _ _ _); k_dflt (refine' use_und (c_probe ?how67 ?hzw67 ?h0w67 ?hdw67 ?hu2w67 ?h1w67) ?kBw67 ?kFw67 ?kXw67 ?kNw67 ?kTw67 ?kkw67 ?krw67 ?kUw67 ?kEw67 ?kdw67 ?kuw67 ?_; (case kBw67 => k_asm); (case kFw67 => k_asm); (case kXw67 => k_asm); (case kNw67 => k_asm); (case kTw67 => k_asm); (case kkw67 => first | exact rfl | assumption); (case krw67 => (refine' (subC ?m1w67 (subC ?m2w67 (subC ?m3w67 (subC ?m4w67 (subC ?m5w67 (subC ?m6w67 subN)))))); (case m1w67 => k_mem); (case m2w67 => k_mem); (case m3w67 => k_mem); (case m4w67 => k_mem); (case m5w67 => k_mem); (case m6w67 => k_mem))); (case kUw67 => intro t'; k_upd); (case kEw67 => intro t'; exact t'.ne); (case kdw67 => ktr_room); (case kuw67 => ktr_units); (case how67 => exact ho); (case hzw67 => omega); (case h0w67 => omega); (case hdw67 => omega); (case hu2w67 => omega); (case h1w67 => omega); k_whole); intro t' h' tk' F' N' df'; (have hb9 := t'.hb); (with_reducible refine spR df' ?_); (clear df'); (dsimp only [SpR, List.cons_append, List.nil_append]); intros; (try dsimp only); (try k_sweep))
  k_with "call ref" => (k_here; (with_reducible show wpAny _ _ (call (Value.ref 375) [Value.ref _, Value.int _ _]) _ _ _); k_dflt (refine' use_u2n (c_acked (back := back) ?how68 ?hzw68 ?h0w68 ?hbw68 ?hbkw68 ?hakw68 ?hyw68) ?kBw68 ?kFw68 ?kXw68 ?kNw68 ?kTw68 ?kkw68 ?krw68 ?kUw68 ?kVw68 ?kEw68 ?kdw68 ?kuw68 ?_; (case kBw68 => k_asm); (case kFw68 => k_asm); (case kXw68 => k_asm); (case kNw68 => k_asm); (case kTw68 => k_asm); (case kkw68 => first | exact rfl | assumption); (case krw68 => (refine' (subC ?m1w68 (subC ?m2w68 (subC ?m3w68 (subC ?m4w68 subN)))); (case m1w68 => k_mem); (case m2w68 => k_mem); (case m3w68 => k_mem); (case m4w68 => k_mem))); (case kUw68 => intro t'; k_upd); (case kVw68 => intro t'; k_upd); (case kEw68 => intro t'; exact t'.ne); (case kdw68 => ktr_room); (case kuw68 => ktr_units); (case how68 => exact ⟨ho.1, LtH.tr ho.2.1 (LtH.tr ho.2.2.1 ho.2.2.2.1), ho.2.2.2.2⟩); (case hzw68 => omega); (case h0w68 => omega); (case hbw68 => omega); (case hbkw68 => omega); (case hakw68 => exact rfl); (case hyw68 => assumption); k_whole); intro t' h' tk' F' N' df'; (have hb8 := t'.hb); (have ho8 := t'.ho); (have hu8 := t'.hu); (have hn8 := t'.hn); (with_reducible refine spR df' ?_); (clear df'); (dsimp only [SpR, List.cons_append, List.nil_append]); intros; (try dsimp only); (try k_sweep))
  k_with "eval Lambda" => (k_here; k_dflt (refine' lam_any ?Fw69 ?Nw69 ?Tw69 ?Cw69 ?cdw69 ?Uw69 ?stw69 ?mzw69 ?skw69 ?clw69 ?dfw69 ?_; (case Fw69 => k_asm); (case Nw69 => k_asm); (case Tw69 => k_asm); (case cdw69 => exact rfl); (case Cw69 => kn_code); (case Uw69 => k_updF); (case stw69 => exact hst8); (case mzw69 => k_mem); (case skw69 => (repeat' ((with_reducible show SkipZ _ _ _); first | exact SkipZ.nil | with_reducible refine' SkipZ.skip ?_ | refine' SkipZ.keep (by k_ne) ?_ | refine' SkipZ.drop ?_))); (case clw69 => exact rfl); (case dfw69 => exact rfl); k_whole); intro f' c' oc' vs' t' ct' h' tk' F' N' d1' d2' dc' df'; (try dsimp only at N' dc' df'); (with_reducible refine spR dc' ?_); (with_reducible refine spR df' ?_); (clear dc' df'); (dsimp only [SpR]); intros)
  k_with "eval Name" => (k_here; k_dflt (refine' nameX_L ?Fw70 ?vw70 ?_ ?aw70 ?bw70; (case bw70 => kernel_rfl!); (case aw70 => kernel_rfl!); (case Fw70 => k_asm); (case vw70 => first | with_reducible assumption | exact (if_neg (by decide)).trans (by with_reducible assumption) | exact (if_neg (by decide)).trans ((if_neg (by decide)).trans (by with_reducible assumption)) | rfl); k_whole))
  k_with "CutEnd" => ((refine' And.intro rfl (IB.mk (F := ?Fw71) (N := newsSub ?Nw71 ?subw71) (y1 := ?y1w71) (y2 := cell_int ?y2w71 ?e2w71) (y3 := ?y3w71) (ho := ?how71) (df := ?dfw71) (m1 := Eq.trans ?m1w71 ?n1w71) (m2 := ?m2w71) (m3 := ?m3w71) (m4 := ?m4w71))); (case Fw71 => with_reducible assumption); (case Nw71 => k_asm); (case subw71 => (simp only [List.cons_append, List.nil_append]; lcg_sub)); (case y1w71 => assumption); (case y2w71 => assumption); (case e2w71 => omega); (case y3w71 => assumption); (case how71 => with_reducible assumption); (case dfw71 => (simp only [List.cons_append, List.nil_append, DifAll, DifR]; (repeat' (first | exact True.intro | with_reducible assumption | refine AndD.mk ?_ ?_)))); (case m1w71 => rfl); (case n1w71 => exact congrArg (fun i => some (Value.int i _)) (Eq.symm (by with_reducible assumption))); (case m2w71 => rfl); (case m3w71 => rfl); (case m4w71 => rfl))
  k_with "CutEnd" => ((refine' And.intro rfl (IL.mk (hst := Or.inr (And.intro rfl ⟨_, _, ?hocw72, ?hvw72⟩)) (h0 := fun e => absurd e tabR_ne) (hI := And.intro ?h1w72 ?h2w72) (W := ?Ww72) (B := ?Bw72) (X := ?Xw72) (T := ?Tw72) (F := ?Fw72) (N := newsSub ?Nw72 ?subw72) (y1 := ?y1w72) (y2 := ?y2w72) (y3 := ?y3w72) (ho := ?how72) (dfI := ?dfIw72) (dfl := ?dflw72) (dfc := ?dfcw72) (df := ?dfw72) (m1 := ?m1w72) (m2 := ?m2w72) (m3 := ?m3w72) (m4 := ?m4w72))); (case Fw72 => k_asm); (case Ww72 => with_reducible assumption); (case Bw72 => k_asm); (case Xw72 => k_asm); (case Tw72 => k_asm); (case Nw72 => k_asm); (case subw72 => (simp only [List.cons_append, List.nil_append]; lcg_sub)); (case hocw72 => with_reducible assumption); (case hvw72 => assumption); (case h1w72 => with_reducible assumption); (case h2w72 => with_reducible assumption); (case y1w72 => with_reducible assumption); (case y2w72 => with_reducible assumption); (case y3w72 => with_reducible assumption); (case how72 => with_reducible assumption); (case dfIw72 => (simp only [List.cons_append, List.nil_append, DifAll, DifR]; (repeat' (first | exact True.intro | refine AndD.mk ?_ ?_ | with_reducible assumption | exact Dif.r (by with_reducible assumption) | (show @Ne Nat _ _; omega))))); (case dflw72 => (simp only [List.cons_append, List.nil_append, DifAll, DifR]; (repeat' (first | exact True.intro | refine AndD.mk ?_ ?_ | with_reducible assumption | exact Dif.r (by with_reducible assumption) | (show @Ne Nat _ _; omega))))); (case dfcw72 => (simp only [List.cons_append, List.nil_append, DifAll, DifR]; (repeat' (first | exact True.intro | refine AndD.mk ?_ ?_ | with_reducible assumption | exact Dif.r (by with_reducible assumption) | (show @Ne Nat _ _; omega))))); (case dfw72 => (simp only [List.cons_append, List.nil_append, DifAll, DifR]; (repeat' (first | exact True.intro | refine AndD.mk ?_ ?_ | with_reducible assumption | exact Dif.r (by with_reducible assumption) | (show @Ne Nat _ _; omega))))); (case m1w72 => with_reducible assumption); (case m2w72 => with_reducible assumption); (case m3w72 => with_reducible assumption); (case m4w72 => with_reducible assumption))
  k_with "compareOp NotEq ref ref" => (k_here; k_dflt (first | (refine' ne_tuples ?kNw73 ?k1w73 ?k2w73 ?kuw73 ?kqw73 ?_; (case kNw73 => k_asm); (case k1w73 => k_mem); (case k2w73 => k_mem); (case kuw73 => ktr_units); (case kqw73 => (repeat' (first | exact EqVs.nil | refine EqVs.cons ?_ ?_ | exact EqV.int (by omega) | exact EqV.bool (by first | rfl | (rw [Bool.eq_iff_iff]; simp only [beq_iff_eq, decide_eq_true_eq]; first | (refine Iff.trans hb9 ?_; omega) | (refine Iff.trans hb8 ?_; omega)) | (rw [Bool.eq_iff_iff]; simp only [beq_iff_eq, decide_eq_true_eq]; omega)) | exact EqV.bytes (by first | rfl | assumption)))); k_whole) | (refine' ne_lists ?kNw73 ?k1w73 ?k2w73 ?kuw73 ?kqw73 ?_; (case kNw73 => k_asm); (case k1w73 => k_mem); (case k2w73 => k_mem); (case kuw73 => ktr_units); (case kqw73 => (repeat' (first | exact EqVs.nil | refine EqVs.cons ?_ ?_ | exact EqV.int (by omega)))); k_whole)))
  trivial
set_option maxHeartbeats 8000000 in
theorem c_back {w : World} {xs ys : List UInt8} {is f fe ev back : Int} {t1 t2 t3 : Tok} {he : Bool} {tobj : Obj} {z : Addr} {oz : Obj} (hst : TabSt 426 274 31 qnB tobj z oz)
    (hz : 1 ≤ xs.length ∧ xs.length ≤ 12) (h0 : 0 ≤ is ∧ is < 256) (hev : EvIs ev he) (hev2 : 0 ≤ ev ∧ ev ≤ 1) (hf : f = (is + 1) % 256) (hfe : fe = (f + ((xs.length : Int) + ev)) % 256) (hb : 0 ≤ back ∧ back ≤ (xs.length : Int) + ev) (hy : xs.drop back.toNat = ys) :
    CtrT w 429 [.int is t1, .bytes xs.toArray t2, .bool he, .int back t3] [(426, tobj), (z, oz)] (fun h => CodeHd h 428 426) 80 1200 (fun v n' => ∃ t : TabS qnB, v = (fun _ => .bool true) t ∧ n' = [(426, tabR 274 31 t.c), (t.c, t.oc), (z, oz)]) := by
  intro loose mean mg mb dp un gd cn cs ad ccd cl outer base L s Rr H0 hH hpre hd1 hu hret
  obtain ⟨B, X, T⟩ := H0
  obtain ⟨XB, TB, hpre⟩ := hpre
  try have hO9 := difO_of ho
  try have hO9 := difO4 ho
  try have hO9 := difO2 ho
  generalize hg : hideAll s.heap (List.map Prod.fst _) = g at *
  replace hg := hg.symm
  revert X; k_fill; intro X
  k_dflt (
    refine' code_ctrCT ?k1 ?kg ?k3 ?k5 ?kH ?k6 ?k7 ?k8 ?k9 ?kB ?kD ?_ ?c2 ?c3 ?c4
    (case kg => exact hg)
    (case k1 => assumption)
    (case k3 => assumption)
    (case k5 => assumption)
    (case kH => assumption)
    (case k6 => k_is)
    (case k7 => k_is)
    (case k8 => ktr_room)
    (case k9 => exact BindsTo.of_eq rfl)
    (case kB => exact rfl)
    (case kD => decide +kernel)
    (case c2 => exact rfl)
    (case c3 => exact rfl)
    (case c4 => exact rfl)
    k_whole
    intro L' h' tk' cells' F' N' Y' l1
    (try (replace l1 := allLt_of l1; simp only [AllLt, and_true] at l1))
    k_cells Y'
    (try simp only [List.cons_append, List.nil_append] at N')
    have W' := @KtsTurn.refl ((envX cn cs L ad ccd cl :: outer).filterMap (·.frame)) g
    (try dsimp only)
    (refine A_let ?_; intro A9; have dA9 : A9.depth = dp + 1 := rfl; have uA9 : A9.units = un + 3 := rfl)
    (try k_fold)
    (refine fr_let F' ?_; clear F'; intro m9 F'))
  have dz := hst.dif (hH _ (.head _)) (hH _ (.tail _ (.head _)))
  with_reducible refine' cut_stmts_e (a := [_, _, _, _]) (I := IB w g L' s is f fe ev back t2 t3 he xs tobj z oz) ?ce (fun s' hI => ?tail) ?head
  case ce => exact rfl
  case head =>
    (repeat' (first | (k_extra "nst") | (k_unfold; (try dsimp only)) | (k_end; kc_close) | walk1 | (dsimp only; walk1) | (leave1; walk_say "STEP leave1"; (try dsimp only)) | fail "no step"))
    all_goals (exfalso; (rename ((_ : Bool) = _) => hx); (simp at hx); first | done | omega)
  case tail =>
    obtain ⟨F9, N9, y1, y2, y3, ho, df, m1, m2, m3, m4⟩ := hI
    have hO9 := difO_of ho
    simp only [List.cons_append, List.nil_append] at N9 df
    with_reducible refine spA df ?_
    clear df
    dsimp only [SpA, SpR, List.cons_append, List.nil_append]
    intros
    with_reducible refine' cut_stmts_e (a := [_]) (I := IC w (ktrTop dp un gd cn cs L ad ccd cl outer) base (envX cn cs L ad ccd cl :: outer) loose mean mg mb g L' s is f fe ev back t2 t3 he xs z oz) ?ce (fun s' hI => ?tail2) ?loop
    case ce => exact rfl
    case loop =>
      refine wpAny_execs_cons ?_
      refine For_J ?_
      (repeat' (first | (k_extra "nst") | (k_unfold; (try dsimp only)) | (k_end; kc_close) | walk1 | (dsimp only; walk1) | (leave1; walk_say "STEP leave1"; (try dsimp only)) | fail "no step"))
      refine ForList_mk (J := IL w (ktrTop dp un gd cn cs L ad ccd cl outer) base (envX cn cs L ad ccd cl :: outer) loose mean mg mb g L' s is f fe ev back t2 t3 he xs z oz) (News.isList (by k_asm) (by k_mem)) ?h0 (fun i I s h => il_it h) ?step ?fin
      case h0 =>
        (rename Fr _ _ _ _ => kF; rename News _ _ _ _ => kN; obtain ⟨F8, N8, d8⟩ := iter_new _ kF kN)
        with_reducible refine spR d8 ?_
        clear d8
        dsimp only [SpA, SpR, List.cons_append, List.nil_append]
        intros
        refine' IL.mk (c := z) (oc := oz) (oI := { cls := .type "list_iterator", data := .fields #[.ref _, .int 0 0] }) (hst := hst) (h0 := fun _ => rfl) (hI := ⟨rfl, rfl⟩) (W := W') (B := B) (X := X) (T := T) (F := F8) (N := newsSub N8 ?sub) (y1 := y1) (y2 := y2) (y3 := y3) (ho := ho) (dfI := ?dfI) (dfl := ?dfl) (dfc := ?dfc) (df := ?df) (m1 := m1) (m2 := m2) (m3 := m3) (m4 := m4)
        (case sub => (simp only [List.cons_append, List.nil_append]; lcg_sub))
        all_goals (simp only [List.cons_append, List.nil_append, DifAll, DifR]; (repeat' (first | exact True.intro | refine AndD.mk ?_ ?_ | with_reducible assumption | exact Dif.r (by with_reducible assumption) | (show @Ne Nat _ _; omega))))
      case step =>
        intro i I s8 v h8 hlt hJ hv8 hit hk
        obtain ⟨hst8, h08, hI8, W8, B8, X8, T8, F8, N8, y1', y2', y3', ho8, dfI, dfl, dfc, df8, n1, n2, n3, n4⟩ := hJ
        obtain ⟨oI', F7, N7, c7, d7⟩ := iter_next F8 N8 dfI hk hit
        clear F8 N8
        simp only [List.cons_append, List.nil_append] at N7 dfI dfl dfc df8
        with_reducible refine spR dfI ?_
        with_reducible refine spR dfl ?_
        with_reducible refine spR dfc ?_
        with_reducible refine spA df8 ?_
        clear dfI dfl dfc df8
        dsimp only [SpA, SpR, List.cons_append, List.nil_append]
        intros
        obtain ⟨by', tb', rfl, hby, hby2⟩ : ∃ b t, v = Value.int b t ∧ 1 ≤ b ∧ b + ((xs.length : Int) + ev) ≤ 255 := by
          rcases (show i = 0 ∨ i = 1 ∨ i = 2 by (simp at hlt; omega)) with rfl | rfl | rfl
          · exact ⟨_, _, (Option.some.inj hv8).symm, by omega, by omega⟩
          · exact ⟨_, _, (Option.some.inj hv8).symm, by omega, by omega⟩
          · exact ⟨_, _, (Option.some.inj hv8).symm, by omega, by omega⟩
        have d426 := hst8.dif (N7 _ (.tail _ (.tail _ (.tail _ (.tail _ (.tail _ (.head _))))))).1 (N7 _ (.tail _ (.tail _ (.tail _ (.tail _ (.tail _ (.tail _ (.head _)))))))).1
        (repeat' (first | (k_extra "nst") | (k_unfold; (try dsimp only)) | (k_end; kc_close) | walk1 | (dsimp only; walk1) | (leave1; walk_say "STEP leave1"; (try dsimp only)) | fail "no step"))
        all_goals (exfalso; (rename ((_ : Bool) = _) => hx); (simp at hx); first | done | omega)
      case fin =>
        intro I s8 h8 hJ hk
        obtain ⟨hst8, h08, hI8, W8, B8, X8, T8, F8, N8, y1', y2', y3', ho8, dfI, dfl, dfc, df8, n1, n2, n3, n4⟩ := hJ
        obtain ⟨F7, N7⟩ := iter_step F8 N8 dfI hk
        simp only [List.cons_append, List.nil_append] at N7 dfI dfl dfc df8
        with_reducible refine spA df8 ?_
        clear df8
        dsimp only [SpA, SpR, List.cons_append, List.nil_append]
        intros
        rcases hst8 with ⟨h, _⟩ | ⟨rfl, vs', tq', hoc', hv'⟩
        · exact absurd (h08 h) (by simp)
        refine wpAny_execs_nil (And.intro rfl ?_)
        refine' IC.mk (W := W8) (B := B8) (X := X8) (T := T8) (F := F7) (N := newsSub N7 ?sub2) (hoc := hoc') (hv := hv') (y1 := y1') (y2 := y2') (ho := ho8) (df := ?df2) (m1 := n1) (m2 := n2) (m3 := n3) (m4 := n4)
        (case sub2 => (simp only [List.cons_append, List.nil_append]; lcg_sub))
        (simp only [List.cons_append, List.nil_append, DifAll, DifR]; (repeat' (first | exact True.intro | refine AndD.mk ?_ ?_ | with_reducible assumption | exact Dif.r (by with_reducible assumption) | (show @Ne Nat _ _; omega))))
    case tail2 =>
      obtain ⟨W8, B8, X8, T8, F8, N8, hoc8, hv8, y1, y2, ho, df, m1, m2, m3, m4⟩ := hI
      have hO9 := difO_of ho
      simp only [List.cons_append, List.nil_append] at N8 df
      with_reducible refine spA df ?_
      clear df
      dsimp only [SpA, SpR, List.cons_append, List.nil_append]
      intros
      have hff : (f - f) % 256 = 0 := by rw [Int.sub_self]; rfl
      have hd0 := mm_d (n := xs.length) hff (Int.le_refl 0) (Int.natCast_nonneg _)
      have hu0 := mm_u (n := xs.length) hff (Int.le_refl 0) (Int.natCast_nonneg _)
      rw [Int.sub_zero] at hu0
      have hf0 : 0 ≤ f ∧ f < 256 := mod_r hf
      have hbM := mod_d (nx := (f + back) % 256) hf0 (back_r hb hz hev2) rfl
      have hfM := mod_d hf0 (len_r hz hev2) hfe
      have hyd := drop_min (f := f) hy hf0 (back_s hb hz hev2)
      have hyl : (ys.length : Int) = (xs.length : Int) - min back (xs.length : Int) := by rw [← hy, List.length_drop]; exact drop_len hb.1
      have hyz : ys.length ≤ 12 := by rw [← hy, List.length_drop]; exact Nat.le_trans (Nat.sub_le _ _) hz.2
      clear hst
      (repeat' (first | (k_extra "nst") | (k_unfold; (try dsimp only)) | (k_end; kc_close) | walk1 | (dsimp only; walk1) | (leave1; walk_say "STEP leave1"; (try dsimp only)) | fail "no step"))
      all_goals (first
        | exact end_t (s := s) hret (TabS.mk _ _ _ _ hoc8 hv8) rfl (by with_reducible assumption) (by with_reducible assumption) (by with_reducible assumption) (by lcg_sub)
        | (exfalso; (rename ((_ : Bool) = _) => hx); (simp at hx); first | done | omega))
end
end Mine
-- part Lst
namespace Mine
section
theorem ln1_b2702c : True := by
  k_with_none
  k_with "callWith ref" => (k_here; (with_reducible rename Fr _ _ _ _ => kF); (with_reducible rename Frag.In _ _ => kX); first | ((with_reducible show wpAny _ _ (callWith _ _ _ (backTo _ (starEach [] _)) []) _ _ _); k_dflt (refine' callWith_K0 (Frag.In.keeps kX (Fr.keep kF)) ?k2w1 ?_; (case k2w1 => k_is); k_whole)) | ((with_reducible show wpAny _ _ (callWith _ _ _ (backTo _ (starEach (_ :: _) _)) []) _ _ _); k_dflt (refine' callWith_K kX ?k2w1 ?_; (case k2w1 => k_is); k_whole)))
  k_with "eval Name" => (k_here; (fail_if_success (with_reducible show wpAny _ _ (eval (Expr.Name _ _) (compEnvC _ _ _ _)) _ _ _)); k_dflt (first | (refine' nameX_L ?Fw2 ?vw2 ?_ ?aw2 ?bw2; (case bw2 => kernel_rfl!); (case aw2 => kernel_rfl!); (case Fw2 => k_asm); (case vw2 => rfl); k_whole) | (refine' nameX_K ?Fw2 ?Xw2 ?Tw2 ?ew2 ?_ ?aw2 ?bw2; (case bw2 => kernel_rfl!); (case aw2 => kernel_rfl!); (case Fw2 => k_asm); (case Xw2 => k_asm); (case Tw2 => k_asm); (case ew2 => k_is); k_whole) | (refine' nameX_B ?Fw2 ?Xw2 ?Tw2 ?ew2 ?vw2 ?nw2 ?_ ?aw2 ?bw2; (case bw2 => kernel_rfl!); (case aw2 => kernel_rfl!); (case Fw2 => k_asm); (case Xw2 => k_asm); (case Tw2 => k_asm); (case ew2 => k_is); (case vw2 => boot_fast); (case nw2 => decide); k_whole) | (refine' nameX_C ?Nw2 ?cw2 ?mw2 ?dw2 ?_ ?aw2 ?bw2; (case bw2 => kernel_rfl!); (case aw2 => kernel_rfl!); (case Nw2 => k_asm); (case cw2 => rfl); (case mw2 => k_mem); (case dw2 => k_asm); k_whole) | (refine' nameX_F ?Nw2 ?cw2 ?mw2 ?dw2 ?_ ?aw2 ?bw2; (case bw2 => kernel_rfl!); (case aw2 => kernel_rfl!); (case Nw2 => k_asm); (case cw2 => rfl); (case mw2 => k_mem); (case dw2 => k_asm); k_whole)))
  k_with "ord" => ((with_reducible rename DifO _ => hO9); (first | refine' hO9 0 _ _ _ rfl ?hbw3 ?hcw3 | refine' hO9 1 _ _ _ rfl ?hbw3 ?hcw3 | refine' hO9 2 _ _ _ rfl ?hbw3 ?hcw3 | refine' hO9 3 _ _ _ rfl ?hbw3 ?hcw3 | refine' hO9 4 _ _ _ rfl ?hbw3 ?hcw3 | refine' hO9 5 _ _ _ rfl ?hbw3 ?hcw3); (case hbw3 => first | exact (rfl : (_ : List Addr)[0]? = _) | exact (rfl : (_ : List Addr)[1]? = _) | exact (rfl : (_ : List Addr)[2]? = _) | exact (rfl : (_ : List Addr)[3]? = _) | exact (rfl : (_ : List Addr)[4]? = _) | exact (rfl : (_ : List Addr)[5]? = _)); (case hcw3 => exact rfl))
  k_with "nst" => ((with_reducible show wpAny _ _ _ _ _ (Shared.mk _ _ _ _ _)); refine' nst ?kew4 ?_; (case kew4 => (dsimp only; exact rfl)))
  k_with "all" => (first | exact neNil | (refine' neC ?aw5 ?bw5; (case aw5 => k_ne); (case bw5 => k_all)))
  k_with "room" => (first | exact room_ (by assumption) (by exact rfl) | exact room0 (by assumption) (by exact rfl) | ((try simp only [depth_under_make, depth_under_kw, depth_in1, depth_deeper, depth_caller]); (try dsimp only [ktrTop]); omega))
  k_with "units" => (first | exact room_ (by assumption) (by exact rfl) | exact room0 (by assumption) (by exact rfl) | ((try simp only [units_in1, units_deeper, Around.mark_units, units_caller]); (try dsimp only [ktrTop]); omega))
  k_with "execs cons" => ((first | (with_reducible refine execs_T ?_; intro tk) | refine wpAny_execs_cons ?_); (try k_fold))
  k_with "getAttr ref" => (k_here; k_dflt (refine' oget ?k1w9 ?k2w9 ?k3w9 ?k4w9 ?k5w9 ?k6w9 ?k7w9 ?k8w9 ?k9w9 ?_; (case k1w9 => k_asm); (case k2w9 => k_asm); (case k3w9 => k_inst); (case k4w9 => k_is); (case k5w9 => k_is); (case k6w9 => k_is); (case k7w9 => k_is); (case k8w9 => k_get); (case k9w9 => k_handed); k_whole))
  k_with "storeName" => (k_here; k_dflt (refine' ostore ?kFw10 ?kNw10 ?_ ?kaw10 ?kbw10; (case kaw10 => rfl); (case kbw10 => rfl); (case kFw10 => k_asm); (case kNw10 => k_asm); k_whole; intro h' m9 F' N'; (try k_sweep)))
  k_with "eval Constant int" => (refine cint ?_)
  k_with "eval Constant bytes" => (refine cbytes ?_)
  k_with "binaryOp Mod int int" => (k_here; (with_reducible refine mod_pos ?kbw13 ?_); (case kbw13 => omega); intro t' tk')
  k_with "binaryOp FloorDiv int int" => (k_here; (with_reducible refine div_pos ?kbw14 ?kpw14 ?_); (case kbw14 => omega); (case kpw14 => omega); intro t' tk')
  k_with "binaryOp Mult int int" => (k_here; (with_reducible refine mul_small ?kbw15 ?_); (case kbw15 => omega); intro t' tk')
  k_with "subscriptTail Name Constant ref int" => (k_here; (with_reducible show wpAny _ _ (subscriptTail _ _ (Value.ref _) (Value.int _ _)) _ _ _); k_dflt (first | ((with_reducible show wpAny _ _ (subscriptTail _ _ (Value.ref _) (Value.int 0 _)) _ _ _); refine' item_0 ?Nw16 ?mw16 ?_ ?hsw16; (case Nw16 => k_asm); (case mw16 => k_mem); (case hsw16 => with_unfolding_all rfl); k_whole) | ((with_reducible show wpAny _ _ (subscriptTail _ _ (Value.ref _) (Value.int 1 _)) _ _ _); refine' item_1 ?Nw16 ?mw16 ?_ ?hsw16; (case Nw16 => k_asm); (case mw16 => k_mem); (case hsw16 => with_unfolding_all rfl); k_whole)))
  k_with "compareOp Eq int int" => (k_here; first | (with_reducible refine ceq_t ?chw17 ?_; (case chw17 => omega)) | (with_reducible refine ceq_f ?chw17 ?_; (case chw17 => omega)))
  k_with "compareOp NotEq int int" => (k_here; first | (with_reducible refine cne_t ?chw18 ?_; (case chw18 => omega)) | (with_reducible refine cne_f ?chw18 ?_; (case chw18 => omega)))
  k_with "compareOp Lt int int" => (k_here; first | (with_reducible refine clt_t ?chw19 ?_; (case chw19 => omega)) | (with_reducible refine clt_f ?chw19 ?_; (case chw19 => omega)))
  k_with "compareOp LtE int int" => (k_here; first | (with_reducible refine cle_t ?chw20 ?_; (case chw20 => omega)) | (with_reducible refine cle_f ?chw20 ?_; (case chw20 => omega)))
  k_with "compareOp Gt int int" => (k_here; first | (with_reducible refine cgt_t ?chw21 ?_; (case chw21 => omega)) | (with_reducible refine cgt_f ?chw21 ?_; (case chw21 => omega)))
  k_with "compareOp GtE int int" => (k_here; first | (with_reducible refine cge_t ?chw22 ?_; (case chw22 => omega)) | (with_reducible refine cge_f ?chw22 ?_; (case chw22 => omega)))
  k_with "call type:int" => (k_here; (with_reducible show wpAny _ _ (call (Value.type "int") [Value.bool _]) _ _ _); (first | (with_reducible refine int_bf ?_) | (with_reducible refine int_bt ?_) | (with_reducible refine int_bb (by assumption) ?_)); intro t' tk')
  k_with "call builtin:max" => (k_here; (with_reducible show wpAny _ _ (call (Value.builtin _) [Value.int _ _, Value.int _ _]) _ _ _); k_dflt (refine' max2 ?hhw24 ?k1w24 ?k2w24 ?k3w24 ?_; (case hhw24 => with_unfolding_all rfl); (case k1w24 => k_asm); (case k2w24 => k_asm); (case k3w24 => first | exact (Int.max_eq_left (by omega)).symm | exact (Int.max_eq_right (by omega)).symm | exact rfl); k_whole); intro t' h' tk' F' N'; (try k_sweep))
  k_with "call builtin:min" => (k_here; (with_reducible show wpAny _ _ (call (Value.builtin _) [Value.int _ _, Value.int _ _]) _ _ _); k_dflt (refine' min2 ?hhw25 ?k1w25 ?k2w25 ?k3w25 ?_; (case hhw25 => with_unfolding_all rfl); (case k1w25 => k_asm); (case k2w25 => k_asm); (case k3w25 => first | exact (Int.min_eq_left (by omega)).symm | exact (Int.min_eq_right (by omega)).symm | exact rfl); k_whole); intro t' h' tk' F' N'; (try k_sweep))
  k_with "call builtin:min" => (k_here; (with_reducible show wpAny _ _ (call (Value.builtin _) [Value.int _ _, Value.int _ _, Value.int _ _]) _ _ _); k_dflt (refine' min3 ?hhw26 ?k1w26 ?k2w26 ?k3w26 ?_; (case hhw26 => with_unfolding_all rfl); (case k1w26 => k_asm); (case k2w26 => k_asm); (case k3w26 => first | exact m3a (by omega) | exact m3b (by omega) | exact m3c (by omega) | exact rfl); k_whole); intro t' h' tk' F' N'; (try k_sweep))
  k_with "leaving ref" => (k_here; k_dflt (refine' leave_XS ?kBw27 ?kFw27 ?kNw27 ?knw27 ?_; (case kFw27 => k_asm); (case kBw27 => k_asm); (case kNw27 => k_asm); (case knw27 => assumption); k_whole); intro h' R' U'; (try dsimp only at R' U'))
  k_with "leaving ref" => (k_here; (refine' leave_onXS ?k1w28 ?k2w28 ?k3w28 ?k4w28 ?_; (case k3w28 => assumption); (case k2w28 => assumption); (case k1w28 => assumption); (case k4w28 => assumption); k_whole; intro h' R' U'; (try dsimp only at R' U' ⊢)))
  k_with "noteFrame ref" => (k_here; (with_reducible rename RaisedS _ _ _ _ _ _ _ _ _ => rkX); k_dflt (refine' caught_LS rkX ?kFw29 ?kBw29 ?kUw29 ?kXw29 ?kTw29 ?kWw29 ?kmw29 ?kvw29 ?_; (case kFw29 => assumption); (case kBw29 => k_asm); (case kUw29 => assumption); (case kXw29 => assumption); (case kTw29 => assumption); (case kWw29 => assumption); (case kmw29 => first | exact x63 | exact x51); (case kvw29 => exact rfl); k_whole); intro h' g' W' F' N' B' X' T'; (try k_sweep))
  k_with "ne" => (refine neN ?_; (try dsimp only); first | exact Dif.l (by with_reducible assumption) | exact Dif.r (by with_reducible assumption) | (k_extra "ord") | omega)
  k_with "getMethod bytes" => (k_here; (with_reducible show wpAny _ _ (getMethod (Value.bytes _ _) (PySem.Str.ofString "join") _) _ _ _); (refine join_meth ?_))
  k_with "call builtin:bytes.join" => (k_here; (with_reducible show wpAny _ _ (call (Value.builtin _) [Value.bytes _ _, Value.ref _]) _ _ _); k_dflt (refine' join_fl ?kNw32 ?kmw32 ?kzw32 ?kew32 ?_; (case kNw32 => k_asm); (case kmw32 => k_mem); (case kew32 => with_reducible assumption); (case kzw32 => omega); k_whole); intro t' tk')
  k_with "eval ListComp" => (k_here; k_dflt (refine LCg.ListComp_U (F₀ := by k_asm) (by with_unfolding_all rfl) (by decide) (by rfl) (by decide) (by rfl) ?_))
  k_with "CompSrc" => (k_here; (with_reducible rename Sh _ _ _ _ _ _ _ _ => sh9); k_dflt (refine LCg.CompSrc.ledger (by rfl) (by k_asm) (by k_asm) (by k_mem) (by have := sh9.size.2; rw [PySem.sizeLine_eq]; omega) ?_; intro g'; (refine' rows_rest sh9 ?m1w34 ?m2w34 ?m3w34 (fun r' f' a' y' b' c' e' I' oI' C' oC' D' m' ys' h' tk' E' hr' hC' hx' F' N' off' ne' => ?_) ?_); (case m1w34 => k_mem); (case m2w34 => k_mem); (case m3w34 => k_mem); (all_goals (try (simp only [LCg.Off3, and_true] at off'))); kcf_last))
  k_with "KPfDone" => ((show ∀ _, BytF _ _ → _); intro ys' hb')
  k_with "CompEnd" => ((refine' LCg.CompEnd.intro ?kFw36 ?kNw36 _ ?ksw36 ?kow36 ?kSw36 (kcb_el rfl rfl rfl)); (case kFw36 => with_reducible assumption); (case kNw36 => with_reducible assumption); (case ksw36 => exact fun _ hp => hp); (case kow36 => (simp only [LCg.Off3, and_true]; with_reducible assumption)); (case kSw36 => lcg_src))
  k_with "subscriptTail Name Constant ref int" => (k_here; k_dflt (first | ((with_reducible show wpAny _ _ (subscriptTail _ _ (Value.ref _) (Value.int 1 _)) _ _ _); refine' row_1 ?kN2w37 ?km2w37 ?_ ?hs2w37; (case kN2w37 => k_asm); (case km2w37 => with_reducible assumption); (case hs2w37 => with_unfolding_all rfl); k_whole) | ((with_reducible show wpAny _ _ (subscriptTail _ _ (Value.ref _) (Value.int 0 _)) _ _ _); refine' rows_0 ?kNw37 ?kshw37 ?kmw37 ?_ ?hsw37; (case kshw37 => with_reducible assumption); (case kNw37 => k_asm); (case kmw37 => k_mem); (case hsw37 => with_unfolding_all rfl); k_whole)))
  k_with "subscriptTail Name UnaryOp ref int" => (k_here; k_dflt (refine' rows_L ?kNw38 ?kshw38 ?kmw38 ?_ ?hsw38; (case kshw38 => with_reducible assumption); (case kNw38 => k_asm); (case kmw38 => k_mem); (case hsw38 => with_unfolding_all rfl); k_whole))
  k_with "compareOp NotEq bytes bytes" => (k_here; (refine bne_f ?kew39 ?_); (case kew39 => first | rfl | exact part_y | exact part_x (by with_reducible assumption) (by omega)))
  trivial
/-- the law's state between its statements: the pool's list and what else is kept -/
inductive LW (g : Heap) (L : Addr) (s : Shared) (P : (Str → Option Value) → Prop) (ex : List (Addr × Obj)) : Shared → Prop
  | mk {z : Addr} {c : Nat} {a b : Int} {ta tb : Tok} {h' : Heap} {tk' : Nat} {m : Str → Option Value} (F : Fr g L h' m) (N : News g L h' ((z, listOf #[.int a ta, .int b tb] c) :: ex)) (ha : 0 ≤ a) (hb : 0 ≤ b ∧ b < 2147483647) (dz : DifR z ex) (hs : m (Str.ofString "source") = some (.ref z)) (hP : P m) :
      LW g L s P ex { s with heap := h', toks := tk' }
/-- the second loop's state at its turn i -/
inductive JW (g : Heap) (L : Addr) (s : Shared) (P : (Str → Option Value) → Prop) (l : Addr) (its : Array Value) : Nat → Addr → Shared → Prop
  | fresh {I z : Addr} {oI : Obj} {c cnt : Nat} {a b : Int} {ta tb : Tok} {h' : Heap} {tk' : Nat} {m : Str → Option Value} (hI : oI.cls = .type "list_iterator" ∧ oI.data = .fields #[.ref l, .int (0 : Nat) 0]) (F : Fr g L h' m) (N : News g L h' ((I, oI) :: (z, listOf #[.int a ta, .int b tb] c) :: (l, listOf its cnt) :: [(431, tabObj #[]), (426, tabObj #[])]))
      (ha : 0 ≤ a) (hb : 0 ≤ b ∧ b < 2147483647) (d1 : DifR I ((z, listOf #[.int a ta, .int b tb] c) :: (l, listOf its cnt) :: [(431, tabObj #[]), (426, tabObj #[])])) (d2 : DifR z ((l, listOf its cnt) :: [(431, tabObj #[]), (426, tabObj #[])])) (d3 : DifR l [(431, tabObj #[]), (426, tabObj #[])]) (hs : m (Str.ofString "source") = some (.ref z)) (hP : P m) :
      JW g L s P l its 0 I { s with heap := h', toks := tk' }
  | later {i : Nat} {I z cb cq : Addr} {oI ob oq : Obj} {c cnt : Nat} {a b : Int} {ta tb ub uq : Tok} {vb vq : Array Value} {h' : Heap} {tk' : Nat} {m : Str → Option Value} (hI : oI.cls = .type "list_iterator" ∧ oI.data = .fields #[.ref l, .int ((i + 1 : Nat) : Int) 0]) (F : Fr g L h' m) (N : News g L h' ((I, oI) :: (z, listOf #[.int a ta, .int b tb] c) :: (l, listOf its cnt) :: [(431, tabR 292 63 cq), (cq, oq), (426, tabR 274 31 cb), (cb, ob)]))
      (ha : 0 ≤ a) (hb : 0 ≤ b ∧ b < 2147483647) (d1 : DifR I ((z, listOf #[.int a ta, .int b tb] c) :: (l, listOf its cnt) :: [(431, tabR 292 63 cq), (cq, oq), (426, tabR 274 31 cb), (cb, ob)])) (d2 : DifR z ((l, listOf its cnt) :: [(431, tabR 292 63 cq), (cq, oq), (426, tabR 274 31 cb), (cb, ob)])) (d3 : DifR l [(431, tabR 292 63 cq), (cq, oq), (426, tabR 274 31 cb), (cb, ob)]) (d4 : DifAll [(431, tabR 292 63 cq), (cq, oq)] [(426, tabR 274 31 cb), (cb, ob)])
      (eb : ob.data = .fields vb) (fb : vb[1]? = some (.str qnB ub)) (eq' : oq.data = .fields vq) (fq : vq[1]? = some (.str qnQ uq)) (hs : m (Str.ofString "source") = some (.ref z)) (hP : P m) :
      JW g L s P l its (i + 1) I { s with heap := h', toks := tk' }
theorem jw_it {g : Heap} {L : Addr} {s : Shared} {P : (Str → Option Value) → Prop} {l : Addr} {its : Array Value} {i : Nat} {I : Addr} {s' : Shared} (h : JW g L s P l its i I s') : s'.heap.IsListIter I l i ∧ s'.heap.IsList l its := by
  cases h with
  | fresh hI F N => exact ⟨⟨_, (N _ (.head _)).1, hI.1, hI.2⟩, News.isList N (.tail _ (.tail _ (.head _)))⟩
  | later hI F N => exact ⟨⟨_, (N _ (.head _)).1, hI.1, hI.2⟩, News.isList N (.tail _ (.tail _ (.head _)))⟩
/-- the state within a turn of the second loop, behind its first statement -/
inductive KW (g : Heap) (L : Addr) (s : Shared) (P : (Str → Option Value) → Prop) (l : Addr) (its : Array Value) (tabs : List (Addr × Obj)) (oI : Obj) (I : Addr) : Shared → Prop
  | mk {z : Addr} {c cnt : Nat} {a b : Int} {ta tb : Tok} {h' : Heap} {tk' : Nat} {m : Str → Option Value} (F : Fr g L h' m) (N : News g L h' ((I, oI) :: (z, listOf #[.int a ta, .int b tb] c) :: (l, listOf its cnt) :: tabs))
      (ha : 0 ≤ a) (hb : 0 ≤ b ∧ b < 2147483647) (d1 : DifR I ((z, listOf #[.int a ta, .int b tb] c) :: (l, listOf its cnt) :: tabs)) (d2 : DifR z ((l, listOf its cnt) :: tabs)) (hs : m (Str.ofString "source") = some (.ref z)) (hP : P m) :
      KW g L s P l its tabs oI I { s with heap := h', toks := tk' }
end
end Mine
-- part Fot
namespace Mine
section
theorem ln1_678374 : True := by
  k_with_none
  k_with "callWith ref" => (k_here; (with_reducible rename Fr _ _ _ _ => kF); (with_reducible rename Frag.In _ _ => kX); first | ((with_reducible show wpAny _ _ (callWith _ _ _ (backTo _ (starEach [] _)) []) _ _ _); k_dflt (refine' callWith_K0 (Frag.In.keeps kX (Fr.keep kF)) ?k2w1 ?_; (case k2w1 => k_is); k_whole)) | ((with_reducible show wpAny _ _ (callWith _ _ _ (backTo _ (starEach (_ :: _) _)) []) _ _ _); k_dflt (refine' callWith_K kX ?k2w1 ?_; (case k2w1 => k_is); k_whole)))
  k_with "eval Name" => (k_here; (fail_if_success (with_reducible show wpAny _ _ (eval (Expr.Name _ _) (compEnvC _ _ _ _)) _ _ _)); k_dflt (first | (refine' nameX_L ?Fw2 ?vw2 ?_ ?aw2 ?bw2; (case bw2 => kernel_rfl!); (case aw2 => kernel_rfl!); (case Fw2 => k_asm); (case vw2 => rfl); k_whole) | (refine' nameX_K ?Fw2 ?Xw2 ?Tw2 ?ew2 ?_ ?aw2 ?bw2; (case bw2 => kernel_rfl!); (case aw2 => kernel_rfl!); (case Fw2 => k_asm); (case Xw2 => k_asm); (case Tw2 => k_asm); (case ew2 => k_is); k_whole) | (refine' nameX_B ?Fw2 ?Xw2 ?Tw2 ?ew2 ?vw2 ?nw2 ?_ ?aw2 ?bw2; (case bw2 => kernel_rfl!); (case aw2 => kernel_rfl!); (case Fw2 => k_asm); (case Xw2 => k_asm); (case Tw2 => k_asm); (case ew2 => k_is); (case vw2 => boot_fast); (case nw2 => decide); k_whole) | (refine' nameX_C ?Nw2 ?cw2 ?mw2 ?dw2 ?_ ?aw2 ?bw2; (case bw2 => kernel_rfl!); (case aw2 => kernel_rfl!); (case Nw2 => k_asm); (case cw2 => rfl); (case mw2 => k_mem); (case dw2 => k_asm); k_whole) | (refine' nameX_F ?Nw2 ?cw2 ?mw2 ?dw2 ?_ ?aw2 ?bw2; (case bw2 => kernel_rfl!); (case aw2 => kernel_rfl!); (case Nw2 => k_asm); (case cw2 => rfl); (case mw2 => k_mem); (case dw2 => k_asm); k_whole)))
  k_with "ord" => ((with_reducible rename DifO _ => hO9); (first | refine' hO9 0 _ _ _ rfl ?hbw3 ?hcw3 | refine' hO9 1 _ _ _ rfl ?hbw3 ?hcw3 | refine' hO9 2 _ _ _ rfl ?hbw3 ?hcw3 | refine' hO9 3 _ _ _ rfl ?hbw3 ?hcw3 | refine' hO9 4 _ _ _ rfl ?hbw3 ?hcw3 | refine' hO9 5 _ _ _ rfl ?hbw3 ?hcw3); (case hbw3 => first | exact (rfl : (_ : List Addr)[0]? = _) | exact (rfl : (_ : List Addr)[1]? = _) | exact (rfl : (_ : List Addr)[2]? = _) | exact (rfl : (_ : List Addr)[3]? = _) | exact (rfl : (_ : List Addr)[4]? = _) | exact (rfl : (_ : List Addr)[5]? = _)); (case hcw3 => exact rfl))
  k_with "nst" => ((with_reducible show wpAny _ _ _ _ _ (Shared.mk _ _ _ _ _)); refine' nst ?kew4 ?_; (case kew4 => (dsimp only; exact rfl)))
  k_with "all" => (first | exact neNil | (refine' neC ?aw5 ?bw5; (case aw5 => k_ne); (case bw5 => k_all)))
  k_with "room" => (first | exact room_ (by assumption) (by exact rfl) | exact room0 (by assumption) (by exact rfl) | ((try simp only [depth_under_make, depth_under_kw, depth_in1, depth_deeper, depth_caller]); (try dsimp only [ktrTop]); omega))
  k_with "units" => (first | exact room_ (by assumption) (by exact rfl) | exact room0 (by assumption) (by exact rfl) | ((try simp only [units_in1, units_deeper, Around.mark_units, units_caller]); (try dsimp only [ktrTop]); omega))
  k_with "execs cons" => ((first | (with_reducible refine execs_T ?_; intro tk) | refine wpAny_execs_cons ?_); (try k_fold))
  k_with "getAttr ref" => (k_here; k_dflt (refine' oget ?k1w9 ?k2w9 ?k3w9 ?k4w9 ?k5w9 ?k6w9 ?k7w9 ?k8w9 ?k9w9 ?_; (case k1w9 => k_asm); (case k2w9 => k_asm); (case k3w9 => k_inst); (case k4w9 => k_is); (case k5w9 => k_is); (case k6w9 => k_is); (case k7w9 => k_is); (case k8w9 => k_get); (case k9w9 => k_handed); k_whole))
  k_with "storeName" => (k_here; k_dflt (refine' ostore ?kFw10 ?kNw10 ?_ ?kaw10 ?kbw10; (case kaw10 => rfl); (case kbw10 => rfl); (case kFw10 => k_asm); (case kNw10 => k_asm); k_whole; intro h' m9 F' N'; (try k_sweep)))
  k_with "eval Constant int" => (refine cint ?_)
  k_with "eval Constant bytes" => (refine cbytes ?_)
  k_with "binaryOp Mod int int" => (k_here; (with_reducible refine mod_pos ?kbw13 ?_); (case kbw13 => omega); intro t' tk')
  k_with "binaryOp FloorDiv int int" => (k_here; (with_reducible refine div_pos ?kbw14 ?kpw14 ?_); (case kbw14 => omega); (case kpw14 => omega); intro t' tk')
  k_with "binaryOp Mult int int" => (k_here; (with_reducible refine mul_small ?kbw15 ?_); (case kbw15 => omega); intro t' tk')
  k_with "subscriptTail Name Constant ref int" => (k_here; (with_reducible show wpAny _ _ (subscriptTail _ _ (Value.ref _) (Value.int _ _)) _ _ _); k_dflt (first | ((with_reducible show wpAny _ _ (subscriptTail _ _ (Value.ref _) (Value.int 0 _)) _ _ _); refine' item_0 ?Nw16 ?mw16 ?_ ?hsw16; (case Nw16 => k_asm); (case mw16 => k_mem); (case hsw16 => with_unfolding_all rfl); k_whole) | ((with_reducible show wpAny _ _ (subscriptTail _ _ (Value.ref _) (Value.int 1 _)) _ _ _); refine' item_1 ?Nw16 ?mw16 ?_ ?hsw16; (case Nw16 => k_asm); (case mw16 => k_mem); (case hsw16 => with_unfolding_all rfl); k_whole)))
  k_with "compareOp Eq int int" => (k_here; first | (with_reducible refine ceq_t ?chw17 ?_; (case chw17 => omega)) | (with_reducible refine ceq_f ?chw17 ?_; (case chw17 => omega)))
  k_with "compareOp NotEq int int" => (k_here; first | (with_reducible refine cne_t ?chw18 ?_; (case chw18 => omega)) | (with_reducible refine cne_f ?chw18 ?_; (case chw18 => omega)))
  k_with "compareOp Lt int int" => (k_here; first | (with_reducible refine clt_t ?chw19 ?_; (case chw19 => omega)) | (with_reducible refine clt_f ?chw19 ?_; (case chw19 => omega)))
  k_with "compareOp LtE int int" => (k_here; first | (with_reducible refine cle_t ?chw20 ?_; (case chw20 => omega)) | (with_reducible refine cle_f ?chw20 ?_; (case chw20 => omega)))
  k_with "compareOp Gt int int" => (k_here; first | (with_reducible refine cgt_t ?chw21 ?_; (case chw21 => omega)) | (with_reducible refine cgt_f ?chw21 ?_; (case chw21 => omega)))
  k_with "compareOp GtE int int" => (k_here; first | (with_reducible refine cge_t ?chw22 ?_; (case chw22 => omega)) | (with_reducible refine cge_f ?chw22 ?_; (case chw22 => omega)))
  k_with "call type:int" => (k_here; (with_reducible show wpAny _ _ (call (Value.type "int") [Value.bool _]) _ _ _); (first | (with_reducible refine int_bf ?_) | (with_reducible refine int_bt ?_) | (with_reducible refine int_bb (by assumption) ?_)); intro t' tk')
  k_with "call builtin:max" => (k_here; (with_reducible show wpAny _ _ (call (Value.builtin _) [Value.int _ _, Value.int _ _]) _ _ _); k_dflt (refine' max2 ?hhw24 ?k1w24 ?k2w24 ?k3w24 ?_; (case hhw24 => with_unfolding_all rfl); (case k1w24 => k_asm); (case k2w24 => k_asm); (case k3w24 => first | exact (Int.max_eq_left (by omega)).symm | exact (Int.max_eq_right (by omega)).symm | exact rfl); k_whole); intro t' h' tk' F' N'; (try k_sweep))
  k_with "call builtin:min" => (k_here; (with_reducible show wpAny _ _ (call (Value.builtin _) [Value.int _ _, Value.int _ _]) _ _ _); k_dflt (refine' min2 ?hhw25 ?k1w25 ?k2w25 ?k3w25 ?_; (case hhw25 => with_unfolding_all rfl); (case k1w25 => k_asm); (case k2w25 => k_asm); (case k3w25 => first | exact (Int.min_eq_left (by omega)).symm | exact (Int.min_eq_right (by omega)).symm | exact rfl); k_whole); intro t' h' tk' F' N'; (try k_sweep))
  k_with "call builtin:min" => (k_here; (with_reducible show wpAny _ _ (call (Value.builtin _) [Value.int _ _, Value.int _ _, Value.int _ _]) _ _ _); k_dflt (refine' min3 ?hhw26 ?k1w26 ?k2w26 ?k3w26 ?_; (case hhw26 => with_unfolding_all rfl); (case k1w26 => k_asm); (case k2w26 => k_asm); (case k3w26 => first | exact m3a (by omega) | exact m3b (by omega) | exact m3c (by omega) | exact rfl); k_whole); intro t' h' tk' F' N'; (try k_sweep))
  k_with "leaving ref" => (k_here; k_dflt (refine' leave_XS ?kBw27 ?kFw27 ?kNw27 ?knw27 ?_; (case kFw27 => k_asm); (case kBw27 => k_asm); (case kNw27 => k_asm); (case knw27 => assumption); k_whole); intro h' R' U'; (try dsimp only at R' U'))
  k_with "leaving ref" => (k_here; (refine' leave_onXS ?k1w28 ?k2w28 ?k3w28 ?k4w28 ?_; (case k3w28 => assumption); (case k2w28 => assumption); (case k1w28 => assumption); (case k4w28 => assumption); k_whole; intro h' R' U'; (try dsimp only at R' U' ⊢)))
  k_with "noteFrame ref" => (k_here; (with_reducible rename RaisedS _ _ _ _ _ _ _ _ _ => rkX); k_dflt (refine' caught_LS rkX ?kFw29 ?kBw29 ?kUw29 ?kXw29 ?kTw29 ?kWw29 ?kmw29 ?kvw29 ?_; (case kFw29 => assumption); (case kBw29 => k_asm); (case kUw29 => assumption); (case kXw29 => assumption); (case kTw29 => assumption); (case kWw29 => assumption); (case kmw29 => first | exact x63 | exact x51); (case kvw29 => exact rfl); k_whole); intro h' g' W' F' N' B' X' T'; (try k_sweep))
  k_with "ne" => (refine neN ?_; (try dsimp only); first | exact Dif.l (by with_reducible assumption) | exact Dif.r (by with_reducible assumption) | (k_extra "ord") | omega)
  k_with "getMethod bytes" => (k_here; (with_reducible show wpAny _ _ (getMethod (Value.bytes _ _) (PySem.Str.ofString "join") _) _ _ _); (refine join_meth ?_))
  k_with "call builtin:bytes.join" => (k_here; (with_reducible show wpAny _ _ (call (Value.builtin _) [Value.bytes _ _, Value.ref _]) _ _ _); k_dflt (refine' join_fl ?kNw32 ?kmw32 ?kzw32 ?kew32 ?_; (case kNw32 => k_asm); (case kmw32 => k_mem); (case kew32 => with_reducible assumption); (case kzw32 => omega); k_whole); intro t' tk')
  k_with "eval ListComp" => (k_here; k_dflt (refine LCg.ListComp_U (F₀ := by k_asm) (by with_unfolding_all rfl) (by decide) (by rfl) (by decide) (by rfl) ?_))
  k_with "CompSrc" => (k_here; (with_reducible rename Sh _ _ _ _ _ _ _ _ => sh9); k_dflt (refine LCg.CompSrc.ledger (by rfl) (by k_asm) (by k_asm) (by k_mem) (by have := sh9.size.2; rw [PySem.sizeLine_eq]; omega) ?_; intro g'; (refine' rows_rest sh9 ?m1w34 ?m2w34 ?m3w34 (fun r' f' a' y' b' c' e' I' oI' C' oC' D' m' ys' h' tk' E' hr' hC' hx' F' N' off' ne' => ?_) ?_); (case m1w34 => k_mem); (case m2w34 => k_mem); (case m3w34 => k_mem); (all_goals (try (simp only [LCg.Off3, and_true] at off'))); kcf_last))
  k_with "KPfDone" => ((show ∀ _, BytF _ _ → _); intro ys' hb')
  k_with "CompEnd" => ((refine' LCg.CompEnd.intro ?kFw36 ?kNw36 _ ?ksw36 ?kow36 ?kSw36 (kcb_el rfl rfl rfl)); (case kFw36 => with_reducible assumption); (case kNw36 => with_reducible assumption); (case ksw36 => exact fun _ hp => hp); (case kow36 => (simp only [LCg.Off3, and_true]; with_reducible assumption)); (case kSw36 => lcg_src))
  k_with "subscriptTail Name Constant ref int" => (k_here; k_dflt (first | ((with_reducible show wpAny _ _ (subscriptTail _ _ (Value.ref _) (Value.int 1 _)) _ _ _); refine' row_1 ?kN2w37 ?km2w37 ?_ ?hs2w37; (case kN2w37 => k_asm); (case km2w37 => with_reducible assumption); (case hs2w37 => with_unfolding_all rfl); k_whole) | ((with_reducible show wpAny _ _ (subscriptTail _ _ (Value.ref _) (Value.int 0 _)) _ _ _); refine' rows_0 ?kNw37 ?kshw37 ?kmw37 ?_ ?hsw37; (case kshw37 => with_reducible assumption); (case kNw37 => k_asm); (case kmw37 => k_mem); (case hsw37 => with_unfolding_all rfl); k_whole)))
  k_with "subscriptTail Name UnaryOp ref int" => (k_here; k_dflt (refine' rows_L ?kNw38 ?kshw38 ?kmw38 ?_ ?hsw38; (case kshw38 => with_reducible assumption); (case kNw38 => k_asm); (case kmw38 => k_mem); (case hsw38 => with_unfolding_all rfl); k_whole))
  k_with "compareOp NotEq bytes bytes" => (k_here; (refine bne_f ?kew39 ?_); (case kew39 => first | rfl | exact part_y | exact part_x (by with_reducible assumption) (by omega)))
  trivial
section
variable {prog : Program} {w : World} {A : Around} {env : Env} {Q : Flow → Shared → Prop} {E : Value → Shared → Prop} {s : Shared} {elts : List Expr} {x1 : Nat} {px pos : Pos} {body : List Stmt} {iter : Expr}
/-- a for with a tuple of targets over a list display of tuples, by an invariant over the whole state -/
def ForListT (prog : Program) (w : World) (A : Around) (env : Env) (tg : Expr) (body : List Stmt) (Q : Flow → Shared → Prop) (E : Value → Shared → Prop) (xv : Value) (s₁ : Shared) : Prop :=
  ∃ (l : Addr) (its : Array Value) (J : Nat → Addr → Shared → Prop), xv = .ref l ∧ s₁.heap.IsList l its ∧ (∀ v ∈ its.toList, ∃ T, v = .ref T) ∧
    J 0 s₁.heap.objs.size { s₁ with heap := s₁.heap.push { cls := .type "list_iterator", data := .fields #[.ref l, .int 0 0] } } ∧
    (∀ i I s, J i I s → s.heap.IsListIter I l i ∧ s.heap.IsList l its) ∧
    (∀ i I s v h', i < its.size → J i I s → its[i]? = some v → h'.IsListIter I l (i + 1) → (∀ b o, b ≠ I → s.heap.get? b = some o → h'.get? b = some o) →
      wpAny (model prog w) A (assign tg env v) (fun _ s₂ => wpAny (model prog w) A (execs body env) (CutEnd (J (i + 1) I)) E s₂) E { s with heap := h' }) ∧
    ∀ I s h', J its.size I s → (∀ b o, b ≠ I → s.heap.get? b = some o → h'.get? b = some o) → Q .next { s with heap := h' }
theorem For_T (h : wpAny (model prog w) A (eval iter env) (fun xv s₁ => ForListT prog w A env (.Tuple elts x1 px) body Q E xv s₁) E s) (hh : A.handled = none := by rfl)
    (hs : ∀ x, foldedSetIterable iter env x = pure x := by intro _; rfl)
    (hE : PassesOwn (model prog w) A env E := by passes_own) : wpAny (model prog w) A (exec (.For (.Tuple elts x1 px) iter body [] pos) env) Q E s := by
  refine wpAny_For (wpAny_mono h (fun xv s₁ hx => ?_) fun _ _ e => e) hs
  obtain ⟨l, its, J, rfl, hl, hr, h0, hJ, step, fin⟩ := hx
  refine wpAny_pyIter_list hl ?_
  refine codeAny_forLoop_any (fun k s' => ∃ i, i ≤ its.size ∧ k = its.size + 1 - i ∧ J i s₁.heap.objs.size s') ?_ (its.size + 1) ⟨0, Nat.zero_le _, rfl, h0⟩
  rintro k s' ⟨i, hi, rfl, hJi⟩
  obtain ⟨it1, l1⟩ := hJ i _ s' hJi
  by_cases hlt : i < its.size
  · refine wpAny_pyNext_list_item it1 l1 (x := its[i]) (by simp [hlt]) fun h' hit' hs' => ?_
    obtain ⟨T, hT⟩ := hr its[i] (by simp)
    have st := step i _ s' its[i] h' hlt hJi (by simp [hlt]) hit' fun b o hb e => hs'.extBut b o hb e
    rw [hT] at st ⊢
    refine wpAny_letOwnedTupleGo_listiter hit' ?_
    refine wpAny_mono st (fun _ s₂ h₂ => wpAny_passesOwn hE (wpAny_mono h₂ (fun f s₃ h₃ => ?_) fun _ _ e => e)) hE
    cases f with
    | next => exact ⟨its.size + 1 - (i + 1), by omega, i + 1, hlt, rfl, h₃.2⟩
    | ret v => exact absurd h₃.1 (by nofun)
    | brk => exact absurd h₃.1 (by nofun)
    | cont => exact absurd h₃.1 (by nofun)
  · have e : i = its.size := by omega
    subst e
    refine wpAny_pyNext_list_end hh it1 l1 (by simp) fun h' he => ?_
    exact wpAny_execs_nil (fin _ s' h' hJi fun b o hb e => he b o hb e)
theorem ForListT_mk {tg : Expr} {s₁ : Shared} {l : Addr} {its : Array Value} {J : Addr → Array Value → Nat → Addr → Shared → Prop}
    (hl : s₁.heap.IsList l its) (hr : ∀ v ∈ its.toList, ∃ T, v = .ref T) (h0 : J l its 0 s₁.heap.objs.size { s₁ with heap := s₁.heap.push { cls := .type "list_iterator", data := .fields #[.ref l, .int 0 0] } })
    (hJ : ∀ i I s, J l its i I s → s.heap.IsListIter I l i ∧ s.heap.IsList l its)
    (step : ∀ i I s v h', i < its.size → J l its i I s → its[i]? = some v → h'.IsListIter I l (i + 1) → (∀ b o, b ≠ I → s.heap.get? b = some o → h'.get? b = some o) →
      wpAny (model prog w) A (assign tg env v) (fun _ s₂ => wpAny (model prog w) A (execs body env) (CutEnd (J l its (i + 1) I)) E s₂) E { s with heap := h' })
    (fin : ∀ I s h', J l its its.size I s → (∀ b o, b ≠ I → s.heap.get? b = some o → h'.get? b = some o) → Q .next { s with heap := h' }) :
    ForListT prog w A env tg body Q E (.ref l) s₁ := ⟨l, its, J l its, rfl, hl, hr, h0, hJ, step, fin⟩
end
/-- a loop's state: the pool's list, the loop's iterator and list, and what else is kept -/
inductive JS (g : Heap) (L : Addr) (s : Shared) (P : (Str → Option Value) → Prop) (R : List (Addr × Obj)) (l : Addr) (its : Array Value) : Nat → Addr → Shared → Prop
  | mk {i : Nat} {I z : Addr} {oI : Obj} {c cnt : Nat} {a b : Int} {ta tb : Tok} {h' : Heap} {tk' : Nat} {m : Str → Option Value} (hI : oI.cls = .type "list_iterator" ∧ oI.data = .fields #[.ref l, .int (i : Nat) 0]) (F : Fr g L h' m)
      (N : News g L h' ((I, oI) :: (z, listOf #[.int a ta, .int b tb] c) :: (l, listOf its cnt) :: R)) (ha : 0 ≤ a) (hb : 0 ≤ b ∧ b < 2147483647) (d1 : DifR I ((z, listOf #[.int a ta, .int b tb] c) :: (l, listOf its cnt) :: R)) (d2 : DifR z ((l, listOf its cnt) :: R)) (hs : m (Str.ofString "source") = some (.ref z)) (hP : P m) :
      JS g L s P R l its i I { s with heap := h', toks := tk' }
theorem js_it {g : Heap} {L : Addr} {s : Shared} {P : (Str → Option Value) → Prop} {R : List (Addr × Obj)} {l : Addr} {its : Array Value} {i : Nat} {I : Addr} {s' : Shared} (h : JS g L s P R l its i I s') : s'.heap.IsListIter I l i ∧ s'.heap.IsList l its := by
  cases h with
  | mk hI F N => exact ⟨⟨_, (N _ (.head _)).1, hI.1, hI.2⟩, News.isList N (.tail _ (.tail _ (.head _)))⟩
theorem pull5 {g h : Heap} {L : Addr} {a b c d e z : Addr × Obj} {r : List (Addr × Obj)} (N : News g L h (a :: b :: c :: d :: e :: z :: r)) : News g L h (a :: z :: b :: c :: d :: e :: r) := fun p hp => N p (by
  simp only [List.mem_cons] at hp ⊢
  rcases hp with h | h | h | h | h | h | h <;> simp [h])
theorem pull3 {g h : Heap} {L : Addr} {a b c z : Addr × Obj} {r : List (Addr × Obj)} (N : News g L h (a :: b :: c :: z :: r)) : News g L h (a :: z :: b :: c :: r) := fun p hp => N p (by
  simp only [List.mem_cons] at hp ⊢
  rcases hp with h | h | h | h | h <;> simp [h])
theorem news_one {g h : Heap} {L : Addr} {p : Addr × Obj} {l : List (Addr × Obj)} (a : News g L h [p]) (b : News g L h l) : News g L h (p :: l) := fun q hq => by
  rcases List.mem_cons.mp hq with rfl | hq
  · exact a _ (.head _)
  · exact b q hq
theorem pull4 {g h : Heap} {L : Addr} {a b c d z : Addr × Obj} {r : List (Addr × Obj)} (N : News g L h (a :: b :: c :: d :: z :: r)) : News g L h (a :: z :: b :: c :: d :: r) := fun p hp => N p (by
  simp only [List.mem_cons] at hp ⊢
  rcases hp with h | h | h | h | h | h <;> simp [h])
end
end Mine
-- part Law
namespace Mine
section
theorem ln1_071db1 : True := by
  k_with_none
  k_with "callWith ref" => (k_here; (with_reducible rename Fr _ _ _ _ => kF); (with_reducible rename Frag.In _ _ => kX); first | ((with_reducible show wpAny _ _ (callWith _ _ _ (backTo _ (starEach [] _)) []) _ _ _); k_dflt (refine' callWith_K0 (Frag.In.keeps kX (Fr.keep kF)) ?k2w1 ?_; (case k2w1 => k_is); k_whole)) | ((with_reducible show wpAny _ _ (callWith _ _ _ (backTo _ (starEach (_ :: _) _)) []) _ _ _); k_dflt (refine' callWith_K kX ?k2w1 ?_; (case k2w1 => k_is); k_whole)))
  k_with "eval Name" => (k_here; (fail_if_success (with_reducible show wpAny _ _ (eval (Expr.Name _ _) (compEnvC _ _ _ _)) _ _ _)); k_dflt (first | (refine' nameX_L ?Fw2 ?vw2 ?_ ?aw2 ?bw2; (case bw2 => kernel_rfl!); (case aw2 => kernel_rfl!); (case Fw2 => k_asm); (case vw2 => rfl); k_whole) | (refine' nameX_K ?Fw2 ?Xw2 ?Tw2 ?ew2 ?_ ?aw2 ?bw2; (case bw2 => kernel_rfl!); (case aw2 => kernel_rfl!); (case Fw2 => k_asm); (case Xw2 => k_asm); (case Tw2 => k_asm); (case ew2 => k_is); k_whole) | (refine' nameX_B ?Fw2 ?Xw2 ?Tw2 ?ew2 ?vw2 ?nw2 ?_ ?aw2 ?bw2; (case bw2 => kernel_rfl!); (case aw2 => kernel_rfl!); (case Fw2 => k_asm); (case Xw2 => k_asm); (case Tw2 => k_asm); (case ew2 => k_is); (case vw2 => boot_fast); (case nw2 => decide); k_whole) | (refine' nameX_C ?Nw2 ?cw2 ?mw2 ?dw2 ?_ ?aw2 ?bw2; (case bw2 => kernel_rfl!); (case aw2 => kernel_rfl!); (case Nw2 => k_asm); (case cw2 => rfl); (case mw2 => k_mem); (case dw2 => k_asm); k_whole) | (refine' nameX_F ?Nw2 ?cw2 ?mw2 ?dw2 ?_ ?aw2 ?bw2; (case bw2 => kernel_rfl!); (case aw2 => kernel_rfl!); (case Nw2 => k_asm); (case cw2 => rfl); (case mw2 => k_mem); (case dw2 => k_asm); k_whole)))
  k_with "ord" => ((with_reducible rename DifO _ => hO9); (first | refine' hO9 0 _ _ _ rfl ?hbw3 ?hcw3 | refine' hO9 1 _ _ _ rfl ?hbw3 ?hcw3 | refine' hO9 2 _ _ _ rfl ?hbw3 ?hcw3 | refine' hO9 3 _ _ _ rfl ?hbw3 ?hcw3 | refine' hO9 4 _ _ _ rfl ?hbw3 ?hcw3 | refine' hO9 5 _ _ _ rfl ?hbw3 ?hcw3); (case hbw3 => first | exact (rfl : (_ : List Addr)[0]? = _) | exact (rfl : (_ : List Addr)[1]? = _) | exact (rfl : (_ : List Addr)[2]? = _) | exact (rfl : (_ : List Addr)[3]? = _) | exact (rfl : (_ : List Addr)[4]? = _) | exact (rfl : (_ : List Addr)[5]? = _)); (case hcw3 => exact rfl))
  k_with "nst" => ((with_reducible show wpAny _ _ _ _ _ (Shared.mk _ _ _ _ _)); refine' nst ?kew4 ?_; (case kew4 => (dsimp only; exact rfl)))
  k_with "all" => (first | exact neNil | (refine' neC ?aw5 ?bw5; (case aw5 => k_ne); (case bw5 => k_all)))
  k_with "room" => (first | exact room_ (by assumption) (by exact rfl) | exact room0 (by assumption) (by exact rfl) | ((try simp only [depth_under_make, depth_under_kw, depth_in1, depth_deeper, depth_caller]); (try dsimp only [ktrTop]); omega))
  k_with "units" => (first | exact room_ (by assumption) (by exact rfl) | exact room0 (by assumption) (by exact rfl) | ((try simp only [units_in1, units_deeper, Around.mark_units, units_caller]); (try dsimp only [ktrTop]); omega))
  k_with "execs cons" => ((first | (with_reducible refine execs_T ?_; intro tk) | refine wpAny_execs_cons ?_); (try k_fold))
  k_with "getAttr ref" => (k_here; k_dflt (refine' oget ?k1w9 ?k2w9 ?k3w9 ?k4w9 ?k5w9 ?k6w9 ?k7w9 ?k8w9 ?k9w9 ?_; (case k1w9 => k_asm); (case k2w9 => k_asm); (case k3w9 => k_inst); (case k4w9 => k_is); (case k5w9 => k_is); (case k6w9 => k_is); (case k7w9 => k_is); (case k8w9 => k_get); (case k9w9 => k_handed); k_whole))
  k_with "storeName" => (k_here; k_dflt (refine' ostore ?kFw10 ?kNw10 ?_ ?kaw10 ?kbw10; (case kaw10 => rfl); (case kbw10 => rfl); (case kFw10 => k_asm); (case kNw10 => k_asm); k_whole; intro h' m9 F' N'; (try k_sweep)))
  k_with "eval Constant int" => (refine cint ?_)
  k_with "eval Constant bytes" => (refine cbytes ?_)
  k_with "binaryOp Mod int int" => (k_here; (with_reducible refine mod_pos ?kbw13 ?_); (case kbw13 => omega); intro t' tk')
  k_with "binaryOp FloorDiv int int" => (k_here; (with_reducible refine div_pos ?kbw14 ?kpw14 ?_); (case kbw14 => omega); (case kpw14 => omega); intro t' tk')
  k_with "binaryOp Mult int int" => (k_here; (with_reducible refine mul_small ?kbw15 ?_); (case kbw15 => omega); intro t' tk')
  k_with "subscriptTail Name Constant ref int" => (k_here; (with_reducible show wpAny _ _ (subscriptTail _ _ (Value.ref _) (Value.int _ _)) _ _ _); k_dflt (first | ((with_reducible show wpAny _ _ (subscriptTail _ _ (Value.ref _) (Value.int 0 _)) _ _ _); refine' item_0 ?Nw16 ?mw16 ?_ ?hsw16; (case Nw16 => k_asm); (case mw16 => k_mem); (case hsw16 => with_unfolding_all rfl); k_whole) | ((with_reducible show wpAny _ _ (subscriptTail _ _ (Value.ref _) (Value.int 1 _)) _ _ _); refine' item_1 ?Nw16 ?mw16 ?_ ?hsw16; (case Nw16 => k_asm); (case mw16 => k_mem); (case hsw16 => with_unfolding_all rfl); k_whole)))
  k_with "compareOp Eq int int" => (k_here; first | (with_reducible refine ceq_t ?chw17 ?_; (case chw17 => omega)) | (with_reducible refine ceq_f ?chw17 ?_; (case chw17 => omega)))
  k_with "compareOp NotEq int int" => (k_here; first | (with_reducible refine cne_t ?chw18 ?_; (case chw18 => omega)) | (with_reducible refine cne_f ?chw18 ?_; (case chw18 => omega)))
  k_with "compareOp Lt int int" => (k_here; first | (with_reducible refine clt_t ?chw19 ?_; (case chw19 => omega)) | (with_reducible refine clt_f ?chw19 ?_; (case chw19 => omega)))
  k_with "compareOp LtE int int" => (k_here; first | (with_reducible refine cle_t ?chw20 ?_; (case chw20 => omega)) | (with_reducible refine cle_f ?chw20 ?_; (case chw20 => omega)))
  k_with "compareOp Gt int int" => (k_here; first | (with_reducible refine cgt_t ?chw21 ?_; (case chw21 => omega)) | (with_reducible refine cgt_f ?chw21 ?_; (case chw21 => omega)))
  k_with "compareOp GtE int int" => (k_here; first | (with_reducible refine cge_t ?chw22 ?_; (case chw22 => omega)) | (with_reducible refine cge_f ?chw22 ?_; (case chw22 => omega)))
  k_with "call type:int" => (k_here; (with_reducible show wpAny _ _ (call (Value.type "int") [Value.bool _]) _ _ _); (first | (with_reducible refine int_bf ?_) | (with_reducible refine int_bt ?_) | (with_reducible refine int_bb (by assumption) ?_)); intro t' tk')
  k_with "call builtin:max" => (k_here; (with_reducible show wpAny _ _ (call (Value.builtin _) [Value.int _ _, Value.int _ _]) _ _ _); k_dflt (refine' max2 ?hhw24 ?k1w24 ?k2w24 ?k3w24 ?_; (case hhw24 => with_unfolding_all rfl); (case k1w24 => k_asm); (case k2w24 => k_asm); (case k3w24 => first | exact (Int.max_eq_left (by omega)).symm | exact (Int.max_eq_right (by omega)).symm | exact rfl); k_whole); intro t' h' tk' F' N'; (try k_sweep))
  k_with "call builtin:min" => (k_here; (with_reducible show wpAny _ _ (call (Value.builtin _) [Value.int _ _, Value.int _ _]) _ _ _); k_dflt (refine' min2 ?hhw25 ?k1w25 ?k2w25 ?k3w25 ?_; (case hhw25 => with_unfolding_all rfl); (case k1w25 => k_asm); (case k2w25 => k_asm); (case k3w25 => first | exact (Int.min_eq_left (by omega)).symm | exact (Int.min_eq_right (by omega)).symm | exact rfl); k_whole); intro t' h' tk' F' N'; (try k_sweep))
  k_with "call builtin:min" => (k_here; (with_reducible show wpAny _ _ (call (Value.builtin _) [Value.int _ _, Value.int _ _, Value.int _ _]) _ _ _); k_dflt (refine' min3 ?hhw26 ?k1w26 ?k2w26 ?k3w26 ?_; (case hhw26 => with_unfolding_all rfl); (case k1w26 => k_asm); (case k2w26 => k_asm); (case k3w26 => first | exact m3a (by omega) | exact m3b (by omega) | exact m3c (by omega) | exact rfl); k_whole); intro t' h' tk' F' N'; (try k_sweep))
  k_with "call builtin:len" => (k_here; (with_reducible show wpAny _ _ (call (Value.builtin "len") [Value.bytes (List.toArray _) _]) _ _ _); (refine blen ?kzw27 ?_); (case kzw27 => first | omega | decide); intro t' tk'; (try simp only [List.length_nil]))
  k_with "call type:bytes" => (k_here; (with_reducible show wpAny _ _ (call (Value.type "bytes") [Value.bytes _ _]) _ _ _); (refine bb_call ?_))
  k_with "binaryOp Add bytes bytes" => (k_here; (with_reducible show wpAny _ _ (binaryOp Operator.Add (Value.bytes _ _) (Value.bytes (List.toArray _) _)) _ _ _); (refine badd0 ?kzw29 ?_); (case kzw29 => omega); intro t' tk')
  k_with "subscriptTail Name Slice bytes ref" => (k_here; (with_reducible show wpAny _ _ (subscriptTail _ (Expr.Slice _ _ none _) (Value.bytes _ _) (Value.ref _)) _ _ _); (with_reducible rename Fr _ _ _ _ => F'); (with_reducible rename News _ _ _ _ => N'); (refine' bslice (s := ⟨_, _, _, _, _⟩) F' N' ?klw30 ?kuw30 ?kzw30 ?kew30 ?_ ?ksw30 ?ktw30; (case klw30 => constructor); (case kuw30 => constructor); (case ksw30 => with_unfolding_all rfl); (case ktw30 => intro _; with_unfolding_all rfl); (case kzw30 => first | with_reducible assumption | omega); (case kew30 => first | exact b_all (by omega) | exact b_to (by omega) | exact (b_from (by first | with_reducible assumption | omega)).trans (by assumption) | exact b_from (by first | with_reducible assumption | omega) | exact b_mid (by omega) (by omega) (by omega)); k_whole); intro t' h' tk' F' N')
  k_with "subscriptTail Attribute Slice bytes ref" => (k_here; (with_reducible show wpAny _ _ (subscriptTail _ (Expr.Slice _ _ none _) (Value.bytes _ _) (Value.ref _)) _ _ _); (with_reducible rename Fr _ _ _ _ => F'); (with_reducible rename News _ _ _ _ => N'); (refine' bslice (s := ⟨_, _, _, _, _⟩) F' N' ?klw31 ?kuw31 ?kzw31 ?kew31 ?_ ?ksw31 ?ktw31; (case klw31 => constructor); (case kuw31 => constructor); (case ksw31 => with_unfolding_all rfl); (case ktw31 => intro _; with_unfolding_all rfl); (case kzw31 => first | with_reducible assumption | omega); (case kew31 => first | exact b_all (by omega) | exact b_to (by omega) | exact (b_from (by first | with_reducible assumption | omega)).trans (by assumption) | exact b_from (by first | with_reducible assumption | omega) | exact b_mid (by omega) (by omega) (by omega)); k_whole); intro t' h' tk' F' N')
  k_with "exec Raise some none" => (k_here; (with_reducible show wpAny _ _ (exec (Stmt.Raise (some (Expr.Call (Expr.Name _ _) (_ :: _) [] _)) none _) _) _ _ _); k_dflt (refine' raise_X ?kFw32 ?kXw32 ?kTw32 ?kew32 ?kmw32 ?khw32 ?_ ?kaw32 ?kbw32 ?kcw32 ?kdw32 ?kfw32; (case kFw32 => k_asm); (case kXw32 => k_asm); (case kTw32 => k_asm); (case kew32 => k_is); (case kmw32 => first | exact x63 | exact x51); (case khw32 => first | rfl | assumption); (case kaw32 => rfl); (case kbw32 => rfl); (case kcw32 => rfl); (case kdw32 => rfl); (case kfw32 => decide); k_whole))
  k_with "ArgsX" => (k_dflt (refine' argsX_ ?kFw33 ?kXw33 ?_; (case kFw33 => k_asm); (case kXw33 => k_asm); k_whole))
  k_with "call ref" => (k_here; (with_reducible show wpAny _ _ _ (ExcOut _ _ _) _ _); k_dflt (refine' call_X ?kFw34 ?kXw34 ?kNw34 ?kmw34 ?k1w34 ?k2w34 ?k3w34 ?k4w34 ?k5w34 ?_; (case kFw34 => k_asm); (case kXw34 => k_asm); (case kNw34 => k_asm); (case kmw34 => first | exact x63 | exact x51); (case k1w34 => first | exact s63.1 | exact s51.1); (case k2w34 => first | exact s63.2.1 | exact s51.2.1); (case k3w34 => first | exact s63.2.2.1 | exact s51.2.2.1); (case k4w34 => exact fn35); (case k5w34 => size_fits); k_whole; intro xe xT h' F' N' l1 l2; (have hXne := fun q hq => And.intro (Nat.ne_of_lt (Nat.lt_trans (l1 q hq) l2)) (Nat.ne_of_lt (l1 q hq))); (try k_lt l1); (try k_lt2 l2); k_enter))
  k_with "setAttr ref" => (k_here; (with_reducible show wpAny _ _ (setAttr (Value.ref _) (PySem.Str.ofString "message") _) _ _ _); k_dflt (refine' set_excN ?kFw35 ?kXw35 ?kNw35 ?ksw35 ?kcw35 ?ktw35 ?kUw35 ?_; (case kFw35 => k_asm); (case kXw35 => k_asm); (case kNw35 => k_asm); (case kUw35 => intro t'; k_upd); (case kcw35 => first | exact m63 | exact m51); (case ksw35 => first | exact s63.2.2.2.1 | exact s51.2.2.2.1); (case ktw35 => first | exact s63.2.2.2.2 | exact s51.2.2.2.2); k_whole; intro h' tk' xD F' N'))
  k_with "ExcOut" => (k_dflt (refine' excOut_ ?kFw36 ?kXw36 ?kNw36 ?kmw36 ?_; (case kFw36 => k_asm); (case kXw36 => k_asm); (case kNw36 => k_asm); (case kmw36 => k_mem); k_whole))
  k_with "leaving ref" => (k_here; k_dflt (refine' leave_X ?kBw37 ?kFw37 ?kNw37 ?knw37 ?_; (case kBw37 => k_asm); (case kFw37 => k_asm); (case kNw37 => k_asm); (case knw37 => assumption); k_whole); intro h' R' U'; (try dsimp only at R' U'))
  k_with "leaving ref" => (k_here; (refine' leave_onX ?k1w38 ?k2w38 ?k3w38 ?k4w38 ?_; (case k3w38 => assumption); (case k1w38 => assumption); (case k4w38 => assumption); (case k2w38 => assumption); k_whole; intro h' R' U'; (try dsimp only at R' U' ⊢)))
  k_with "noteFrame ref" => (k_here; (with_reducible rename RaisedK _ _ _ _ _ _ _ _ => rkX); k_dflt (refine' caught_L ?kBw39 ?kFw39 ?kUw39 ?kRw39 ?kXw39 ?kmw39 ?kvw39 ?_; (case kBw39 => k_asm); (case kFw39 => assumption); (case kUw39 => assumption); (case kRw39 => assumption); (case kXw39 => k_asm); (case kmw39 => first | exact x63 | exact x51); (case kvw39 => exact rfl); k_whole); intro h' F' N'; (try k_sweep))
  k_with "leaving ref" => (k_here; k_dflt (refine' leave_XS ?kBw40 ?kFw40 ?kNw40 ?knw40 ?_; (case kFw40 => k_asm); (case kBw40 => k_asm); (case kNw40 => k_asm); (case knw40 => assumption); k_whole); intro h' R' U'; (try dsimp only at R' U'))
  k_with "leaving ref" => (k_here; (refine' leave_onXS ?k1w41 ?k2w41 ?k3w41 ?k4w41 ?_; (case k3w41 => assumption); (case k2w41 => assumption); (case k1w41 => assumption); (case k4w41 => assumption); k_whole; intro h' R' U'; (try dsimp only at R' U' ⊢)))
  k_with "noteFrame ref" => (k_here; (with_reducible rename RaisedS _ _ _ _ _ _ _ _ _ => rkX); k_dflt (refine' caught_LS rkX ?kFw42 ?kBw42 ?kUw42 ?kXw42 ?kTw42 ?kWw42 ?kmw42 ?kvw42 ?_; (case kFw42 => assumption); (case kBw42 => k_asm); (case kUw42 => assumption); (case kXw42 => assumption); (case kTw42 => assumption); (case kWw42 => assumption); (case kmw42 => first | exact x63 | exact x51); (case kvw42 => exact rfl); k_whole); intro h' g' W' F' N' B' X' T'; (try k_sweep))
  k_with "ne" => (refine neN ?_; (try dsimp only); first | exact Dif.l (by with_reducible assumption) | exact Dif.r (by with_reducible assumption) | (k_extra "ord") | omega)
  k_with "getMethod bytes" => (k_here; (with_reducible show wpAny _ _ (getMethod (Value.bytes _ _) (PySem.Str.ofString "join") _) _ _ _); (refine join_meth ?_))
  k_with "call builtin:bytes.join" => (k_here; (with_reducible show wpAny _ _ (call (Value.builtin _) [Value.bytes _ _, Value.ref _]) _ _ _); k_dflt (refine' join_fl ?kNw45 ?kmw45 ?kzw45 ?kew45 ?_; (case kNw45 => k_asm); (case kmw45 => k_mem); (case kew45 => with_reducible assumption); (case kzw45 => omega); k_whole); intro t' tk')
  k_with "eval ListComp" => (k_here; k_dflt (refine LCg.ListComp_U (F₀ := by k_asm) (by with_unfolding_all rfl) (by decide) (by rfl) (by decide) (by rfl) ?_))
  k_with "CompSrc" => (k_here; (with_reducible rename Sh _ _ _ _ _ _ _ _ => sh9); k_dflt (refine LCg.CompSrc.ledger (by rfl) (by k_asm) (by k_asm) (by k_mem) (by have := sh9.size.2; rw [PySem.sizeLine_eq]; omega) ?_; intro g'; (refine' rows_rest sh9 ?m1w47 ?m2w47 ?m3w47 (fun r' f' a' y' b' c' e' I' oI' C' oC' D' m' ys' h' tk' E' hr' hC' hx' F' N' off' ne' => ?_) ?_); (case m1w47 => k_mem); (case m2w47 => k_mem); (case m3w47 => k_mem); (all_goals (try (simp only [LCg.Off3, and_true] at off'))); kcf_last))
  k_with "KPfDone" => ((show ∀ _, BytF _ _ → _); intro ys' hb')
  k_with "CompEnd" => ((refine' LCg.CompEnd.intro ?kFw49 ?kNw49 _ ?ksw49 ?kow49 ?kSw49 (kcb_el rfl rfl rfl)); (case kFw49 => with_reducible assumption); (case kNw49 => with_reducible assumption); (case ksw49 => exact fun _ hp => hp); (case kow49 => (simp only [LCg.Off3, and_true]; with_reducible assumption)); (case kSw49 => lcg_src))
  k_with "subscriptTail Name Constant ref int" => (k_here; k_dflt (first | ((with_reducible show wpAny _ _ (subscriptTail _ _ (Value.ref _) (Value.int 1 _)) _ _ _); refine' row_1 ?kN2w50 ?km2w50 ?_ ?hs2w50; (case kN2w50 => k_asm); (case km2w50 => with_reducible assumption); (case hs2w50 => with_unfolding_all rfl); k_whole) | ((with_reducible show wpAny _ _ (subscriptTail _ _ (Value.ref _) (Value.int 0 _)) _ _ _); refine' rows_0 ?kNw50 ?kshw50 ?kmw50 ?_ ?hsw50; (case kshw50 => with_reducible assumption); (case kNw50 => k_asm); (case kmw50 => k_mem); (case hsw50 => with_unfolding_all rfl); k_whole)))
  k_with "subscriptTail Name UnaryOp ref int" => (k_here; k_dflt (refine' rows_L ?kNw51 ?kshw51 ?kmw51 ?_ ?hsw51; (case kshw51 => with_reducible assumption); (case kNw51 => k_asm); (case kmw51 => k_mem); (case hsw51 => with_unfolding_all rfl); k_whole))
  k_with "compareOp NotEq bytes bytes" => (k_here; (refine bne_f ?kew52 ?_); (case kew52 => first | rfl | exact part_y | exact part_x (by with_reducible assumption) (by omega)))
  k_with "call ref" => (k_here; (with_reducible show wpAny _ _ (call (Value.ref 396) [Value.ref _, Value.int _ _]) _ _ _); k_dflt (refine' use_u (c_take ?h1w53 ?h2w53 ?h3w53) ?kBw53 ?kFw53 ?kXw53 ?kNw53 ?kTw53 ?kkw53 ?krw53 ?kUw53 ?kdw53 ?kuw53 ?_; (case kBw53 => k_asm); (case kFw53 => k_asm); (case kXw53 => k_asm); (case kNw53 => k_asm); (case kTw53 => k_asm); (case kkw53 => first | exact rfl | assumption); (case krw53 => (refine' (subC ?m1w53 subN); (case m1w53 => k_mem))); (case kUw53 => intro t'; k_upd); (case kdw53 => ktr_room); (case kuw53 => ktr_units); (case h1w53 => omega); (case h2w53 => omega); (case h3w53 => omega); k_whole); intro u' h' tk' F' N'; (have hd' := u'.hd); (have ha' := u'.ha); (have hb' := u'.hb); (try dsimp only); (try k_sweep))
  k_with "call ref" => (k_here; (with_reducible show wpAny _ _ (call (Value.ref 403) [Value.ref _, Value.ref _]) _ _ _); k_dflt (refine' use_u (c_one ?h0w54 ?h2w54 ?h3w54) ?kBw54 ?kFw54 ?kXw54 ?kNw54 ?kTw54 ?kkw54 ?krw54 ?kUw54 ?kdw54 ?kuw54 ?_; (case kBw54 => k_asm); (case kFw54 => k_asm); (case kXw54 => k_asm); (case kNw54 => k_asm); (case kTw54 => k_asm); (case kkw54 => first | exact rfl | assumption); (case krw54 => (refine' (subC ?m1w54 (subC ?m2w54 subN)); (case m1w54 => k_mem); (case m2w54 => k_mem))); (case kUw54 => intro t'; k_upd); (case kdw54 => ktr_room); (case kuw54 => ktr_units); (case h0w54 => k_ne); (case h2w54 => omega); (case h3w54 => omega); k_whole); intro u' h' tk' F' N'; (have hr' := u'.hr); (have ha' := u'.ha); (have hb' := u'.hb); (try dsimp only); (try k_sweep))
  k_with "call ref" => (k_here; (with_reducible show wpAny _ _ (call (Value.ref 410) [Value.int _ _, Value.int _ _, Value.int _ _, Value.int _ _]) _ _ _); k_dflt (refine' use_r (c_told ?h1w55 ?h2w55 ?h3w55 ?h4w55) ?kBw55 ?kFw55 ?kXw55 ?kNw55 ?kTw55 ?kkw55 ?krw55 ?kdw55 ?kuw55 ?_; (case kBw55 => k_asm); (case kFw55 => k_asm); (case kXw55 => k_asm); (case kNw55 => k_asm); (case kTw55 => k_asm); (case kkw55 => first | exact rfl | assumption); (case krw55 => exact subN); (case kdw55 => ktr_room); (case kuw55 => ktr_units); (case h1w55 => omega); (case h2w55 => omega); (case h3w55 => omega); (case h4w55 => omega); k_whole); intro t' h' tk' F' N'; (try dsimp only); (try k_sweep))
  k_with "call ref" => (k_here; (with_reducible show wpAny _ _ (call (Value.ref 389) [Value.ref _, Value.int _ _]) _ _ _); k_dflt (refine' use_p (c_pool ?hiw56 ?hnw56) ?kBw56 ?kFw56 ?kXw56 ?kNw56 ?kTw56 ?kkw56 ?hpw56 ?kdw56 ?kuw56 ?_; (case kFw56 => k_asm); (case kBw56 => k_asm); (case kXw56 => k_asm); (case kNw56 => k_asm); (case kTw56 => k_asm); (case kkw56 => first | exact rfl | assumption); (case hpw56 => exact stays_list2 (by k_asm) (by assumption)); (case hiw56 => assumption); (case hnw56 => omega); (case kdw56 => ktr_room); (case kuw56 => ktr_units); k_whole); intro ⟨l', a', b', ta', tb', c', ha', hb'⟩ h' tk' F' N' df'; (try dsimp only at N' df'); (simp only [List.cons_append, List.nil_append] at N' df'); (try k_sweep); (first | with_reducible refine spR df' ?_ | with_reducible refine spA df' ?_); (clear df'); (dsimp only [SpA, SpR, List.cons_append, List.nil_append]); intros)
  k_with "CompSrc" => (k_here; k_dflt (refine LCg.CompSrc.range (by rfl) (by k_asm) (by k_asm) (by assumption) (by exact small_one (by omega) (by omega) (by omega) (by omega)) (by exact rangeSize_nat _ _) (by rw [PySem.sizeLine_eq]; omega) ?_; intro g'; (refine' kcf_range (fun k => 65 + k) (fun k' t' I' oI' C' oC' D' m' ys' h' tk' E' hlo' hhi' hC' hx' F' N' off' ne' hMark' => ?_) ?_); (all_goals (try (simp only [LCg.Off3, and_true] at off'))); kcf_last))
  k_with "CompEnd" => ((refine' compEnd_here ?kFw58 ?kNw58 ?kow58 ?kSw58 (kcf_el ?kew58 rfl rfl)); (case kFw58 => with_reducible assumption); (case kNw58 => with_reducible assumption); (case kow58 => (simp only [LCg.Off3, and_true]; with_reducible assumption)); (case kSw58 => exact True.intro); (case kew58 => rfl))
  k_with "call type:bytes" => (k_here; (with_reducible show wpAny _ _ (call (Value.type "bytes") [Value.ref _]) _ _ _); k_dflt (refine' bytes_ks ?Fw59 ?Nw59 ?mw59 ?iw59 ?nw59 ?hw59 ?_; (case Fw59 => k_asm); (case Nw59 => k_asm); (case mw59 => k_mem); (case iw59 => with_reducible assumption); (case nw59 => omega); (case hw59 => rfl); k_whole); intro h' t' k' xs' hx' hx2' F' N'; (replace N' := newsSub N' (fun _ hp => List.Mem.tail _ hp)); (try k_sweep))
  k_with "call ref" => (k_here; (with_reducible show wpAny _ _ (call (Value.ref 434) [Value.bytes _ _, Value.int _ _]) _ _ _); k_dflt (refine' use_topc (c_queue (Or.inr ⟨rfl, _, _, ?hocw60, ?hvw60⟩) rfl ?hl1w60 ?hl2w60 ?hl3w60 ?hzw60 ?hbw60) ?Fw60 ?Bw60 ?Xw60 ?Nw60 ?Tw60 ?XBw60 ?TBw60 ?p1w60 ?kkw60 ?krw60 ?kcw60 ?kdw60 ?kuw60 ?_; (case Fw60 => k_asm); (case Bw60 => k_asm); (case Xw60 => k_asm); (case Nw60 => k_asm); (case Tw60 => k_asm); (case XBw60 => k_asm); (case TBw60 => k_asm); (case p1w60 => assumption); (case kkw60 => first | exact rfl | assumption); (case krw60 => (refine' List.forall_mem_cons.mpr ⟨?r0w60, List.forall_mem_cons.mpr ⟨?r1w60, List.forall_mem_nil _⟩⟩; (case r0w60 => k_mem); (case r1w60 => k_mem))); (case kcw60 => (simp only [List.map_cons, List.map_nil]); exact (CutO.keep (List.forall_mem_cons.mpr ⟨by ((try dsimp only); first | exact Dif.l (by with_reducible assumption) | exact Dif.r (by with_reducible assumption) | (show @Ne Nat _ _; decide) | (show @Ne Nat _ _; omega)), List.forall_mem_cons.mpr ⟨by ((try dsimp only); first | exact Dif.l (by with_reducible assumption) | exact Dif.r (by with_reducible assumption) | (show @Ne Nat _ _; decide) | (show @Ne Nat _ _; omega)), List.forall_mem_nil _⟩⟩) (CutO.keep (List.forall_mem_cons.mpr ⟨by ((try dsimp only); first | exact Dif.l (by with_reducible assumption) | exact Dif.r (by with_reducible assumption) | (show @Ne Nat _ _; decide) | (show @Ne Nat _ _; omega)), List.forall_mem_cons.mpr ⟨by ((try dsimp only); first | exact Dif.l (by with_reducible assumption) | exact Dif.r (by with_reducible assumption) | (show @Ne Nat _ _; decide) | (show @Ne Nat _ _; omega)), List.forall_mem_nil _⟩⟩) (CutO.keep (List.forall_mem_cons.mpr ⟨by ((try dsimp only); first | exact Dif.l (by with_reducible assumption) | exact Dif.r (by with_reducible assumption) | (show @Ne Nat _ _; decide) | (show @Ne Nat _ _; omega)), List.forall_mem_cons.mpr ⟨by ((try dsimp only); first | exact Dif.l (by with_reducible assumption) | exact Dif.r (by with_reducible assumption) | (show @Ne Nat _ _; decide) | (show @Ne Nat _ _; omega)), List.forall_mem_nil _⟩⟩) (CutO.keep (List.forall_mem_cons.mpr ⟨by ((try dsimp only); first | exact Dif.l (by with_reducible assumption) | exact Dif.r (by with_reducible assumption) | (show @Ne Nat _ _; decide) | (show @Ne Nat _ _; omega)), List.forall_mem_cons.mpr ⟨by ((try dsimp only); first | exact Dif.l (by with_reducible assumption) | exact Dif.r (by with_reducible assumption) | (show @Ne Nat _ _; decide) | (show @Ne Nat _ _; omega)), List.forall_mem_nil _⟩⟩) (CutO.keep (List.forall_mem_cons.mpr ⟨by ((try dsimp only); first | exact Dif.l (by with_reducible assumption) | exact Dif.r (by with_reducible assumption) | (show @Ne Nat _ _; decide) | (show @Ne Nat _ _; omega)), List.forall_mem_cons.mpr ⟨by ((try dsimp only); first | exact Dif.l (by with_reducible assumption) | exact Dif.r (by with_reducible assumption) | (show @Ne Nat _ _; decide) | (show @Ne Nat _ _; omega)), List.forall_mem_nil _⟩⟩) (CutO.keep (List.forall_mem_cons.mpr ⟨by ((try dsimp only); first | exact Dif.l (by with_reducible assumption) | exact Dif.r (by with_reducible assumption) | (show @Ne Nat _ _; decide) | (show @Ne Nat _ _; omega)), List.forall_mem_cons.mpr ⟨by ((try dsimp only); first | exact Dif.l (by with_reducible assumption) | exact Dif.r (by with_reducible assumption) | (show @Ne Nat _ _; decide) | (show @Ne Nat _ _; omega)), List.forall_mem_nil _⟩⟩) (CutO.skip (List.Mem.head _) (CutO.skip (List.Mem.tail _ (List.Mem.head _)) CutO.nil))))))))); (case kdw60 => ktr_room); (case kuw60 => ktr_units); (case hl1w60 => (rw [List.length_drop]; omega)); (case hl2w60 => (rw [List.length_drop]; omega)); (case hl3w60 => (rw [List.length_drop]; omega)); (case hzw60 => omega); (case hbw60 => omega); (case hocw60 => with_reducible assumption); (case hvw60 => assumption); k_whole); intro ⟨c2', oc2', vs2', tq2', hoc2', hv2'⟩ h' tk' F' N' df'; (try dsimp only at N' df'); (simp only [List.cons_append, List.nil_append] at N' df'); (try k_sweep); (first | with_reducible refine spR df' ?_ | with_reducible refine spA df' ?_); (clear df'); (dsimp only [SpA, SpR, List.cons_append, List.nil_append]); intros)
  k_with "call ref" => (k_here; (with_reducible show wpAny _ _ (call (Value.ref 434) [Value.bytes _ _, Value.int _ _]) _ _ _); k_dflt (refine' use_topz ?srw61 (c_queue (Or.inl ⟨rfl, ?dzw61⟩) rfl ?hl1w61 ?hl2w61 ?hl3w61 ?hzw61 ?hbw61) ?Fw61 ?Bw61 ?Xw61 ?Nw61 ?Tw61 ?XBw61 ?TBw61 ?p1w61 ?kkw61 ?krw61 ?kcw61 ?kdw61 ?kuw61 ?_; (case Fw61 => k_asm); (case srw61 => first | assumption | (repeat' (first | with_reducible assumption | rfl | refine (if_neg (by decide)).trans ?_))); (case Bw61 => k_asm); (case Xw61 => k_asm); (case Nw61 => k_asm); (case Tw61 => k_asm); (case XBw61 => k_asm); (case TBw61 => k_asm); (case p1w61 => assumption); (case kkw61 => first | exact rfl | assumption); (case krw61 => (refine' List.forall_mem_cons.mpr ⟨?r0w61, List.forall_mem_cons.mpr ⟨?r1w61, List.forall_mem_nil _⟩⟩; (case r0w61 => k_mem); (case r1w61 => k_mem))); (case kcw61 => (simp only [List.map_cons, List.map_nil]); exact (CutO.keep (List.forall_mem_cons.mpr ⟨by ((try dsimp only); first | exact Dif.l (by with_reducible assumption) | exact Dif.r (by with_reducible assumption) | (show @Ne Nat _ _; decide) | (show @Ne Nat _ _; omega)), List.forall_mem_cons.mpr ⟨by ((try dsimp only); first | exact Dif.l (by with_reducible assumption) | exact Dif.r (by with_reducible assumption) | (show @Ne Nat _ _; decide) | (show @Ne Nat _ _; omega)), List.forall_mem_nil _⟩⟩) (CutO.keep (List.forall_mem_cons.mpr ⟨by ((try dsimp only); first | exact Dif.l (by with_reducible assumption) | exact Dif.r (by with_reducible assumption) | (show @Ne Nat _ _; decide) | (show @Ne Nat _ _; omega)), List.forall_mem_cons.mpr ⟨by ((try dsimp only); first | exact Dif.l (by with_reducible assumption) | exact Dif.r (by with_reducible assumption) | (show @Ne Nat _ _; decide) | (show @Ne Nat _ _; omega)), List.forall_mem_nil _⟩⟩) (CutO.skip (List.Mem.tail _ (List.Mem.head _)) (CutO.keep (List.forall_mem_cons.mpr ⟨by ((try dsimp only); first | exact Dif.l (by with_reducible assumption) | exact Dif.r (by with_reducible assumption) | (show @Ne Nat _ _; decide) | (show @Ne Nat _ _; omega)), List.forall_mem_cons.mpr ⟨by ((try dsimp only); first | exact Dif.l (by with_reducible assumption) | exact Dif.r (by with_reducible assumption) | (show @Ne Nat _ _; decide) | (show @Ne Nat _ _; omega)), List.forall_mem_nil _⟩⟩) (CutO.keep (List.forall_mem_cons.mpr ⟨by ((try dsimp only); first | exact Dif.l (by with_reducible assumption) | exact Dif.r (by with_reducible assumption) | (show @Ne Nat _ _; decide) | (show @Ne Nat _ _; omega)), List.forall_mem_cons.mpr ⟨by ((try dsimp only); first | exact Dif.l (by with_reducible assumption) | exact Dif.r (by with_reducible assumption) | (show @Ne Nat _ _; decide) | (show @Ne Nat _ _; omega)), List.forall_mem_nil _⟩⟩) (CutO.skip (List.Mem.head _) CutO.nil))))))); (case kdw61 => ktr_room); (case kuw61 => ktr_units); (case hl1w61 => (rw [List.length_drop]; omega)); (case hl2w61 => (rw [List.length_drop]; omega)); (case hl3w61 => (rw [List.length_drop]; omega)); (case hzw61 => omega); (case hbw61 => omega); (case dzw61 => first | with_reducible assumption | exact Dif.r (by with_reducible assumption)); k_whole); intro ⟨c2', oc2', vs2', tq2', hoc2', hv2'⟩ h' tk' F' N' df'; (have dz2' := dif_code N' (List.Mem.tail _ (List.Mem.head _)) (List.Mem.tail _ (List.Mem.tail _ (List.Mem.head _))) hoc2'); (try dsimp only at N' df'); (simp only [List.cons_append, List.nil_append] at N' df'); (try k_sweep); (first | with_reducible refine spR df' ?_ | with_reducible refine spA df' ?_); (clear df'); (dsimp only [SpA, SpR, List.cons_append, List.nil_append]); intros)
  k_with "call ref" => (k_here; (with_reducible show wpAny _ _ (call (Value.ref 429) [Value.int _ _, Value.bytes _ _, Value.bool true, Value.int _ _]) _ _ _); k_dflt (refine' use_topc (c_back (ev := 1) (Or.inr ⟨rfl, _, _, ?hocw62, ?hvw62⟩) ?hzw62 ?h0w62 ?hew62 ?he2w62 rfl rfl ?hbw62 rfl) ?Fw62 ?Bw62 ?Xw62 ?Nw62 ?Tw62 ?XBw62 ?TBw62 ?p1w62 ?kkw62 ?krw62 ?kcw62 ?kdw62 ?kuw62 ?_; (case Fw62 => k_asm); (case Bw62 => k_asm); (case Xw62 => k_asm); (case Nw62 => k_asm); (case Tw62 => k_asm); (case XBw62 => k_asm); (case TBw62 => k_asm); (case p1w62 => assumption); (case kkw62 => first | exact rfl | assumption); (case krw62 => (refine' List.forall_mem_cons.mpr ⟨?r0w62, List.forall_mem_cons.mpr ⟨?r1w62, List.forall_mem_nil _⟩⟩; (case r0w62 => k_mem); (case r1w62 => k_mem))); (case kcw62 => (simp only [List.map_cons, List.map_nil]); exact (CutO.keep (List.forall_mem_cons.mpr ⟨by ((try dsimp only); first | exact Dif.l (by with_reducible assumption) | exact Dif.r (by with_reducible assumption) | (show @Ne Nat _ _; decide) | (show @Ne Nat _ _; omega)), List.forall_mem_cons.mpr ⟨by ((try dsimp only); first | exact Dif.l (by with_reducible assumption) | exact Dif.r (by with_reducible assumption) | (show @Ne Nat _ _; decide) | (show @Ne Nat _ _; omega)), List.forall_mem_nil _⟩⟩) (CutO.keep (List.forall_mem_cons.mpr ⟨by ((try dsimp only); first | exact Dif.l (by with_reducible assumption) | exact Dif.r (by with_reducible assumption) | (show @Ne Nat _ _; decide) | (show @Ne Nat _ _; omega)), List.forall_mem_cons.mpr ⟨by ((try dsimp only); first | exact Dif.l (by with_reducible assumption) | exact Dif.r (by with_reducible assumption) | (show @Ne Nat _ _; decide) | (show @Ne Nat _ _; omega)), List.forall_mem_nil _⟩⟩) (CutO.keep (List.forall_mem_cons.mpr ⟨by ((try dsimp only); first | exact Dif.l (by with_reducible assumption) | exact Dif.r (by with_reducible assumption) | (show @Ne Nat _ _; decide) | (show @Ne Nat _ _; omega)), List.forall_mem_cons.mpr ⟨by ((try dsimp only); first | exact Dif.l (by with_reducible assumption) | exact Dif.r (by with_reducible assumption) | (show @Ne Nat _ _; decide) | (show @Ne Nat _ _; omega)), List.forall_mem_nil _⟩⟩) (CutO.keep (List.forall_mem_cons.mpr ⟨by ((try dsimp only); first | exact Dif.l (by with_reducible assumption) | exact Dif.r (by with_reducible assumption) | (show @Ne Nat _ _; decide) | (show @Ne Nat _ _; omega)), List.forall_mem_cons.mpr ⟨by ((try dsimp only); first | exact Dif.l (by with_reducible assumption) | exact Dif.r (by with_reducible assumption) | (show @Ne Nat _ _; decide) | (show @Ne Nat _ _; omega)), List.forall_mem_nil _⟩⟩) (CutO.keep (List.forall_mem_cons.mpr ⟨by ((try dsimp only); first | exact Dif.l (by with_reducible assumption) | exact Dif.r (by with_reducible assumption) | (show @Ne Nat _ _; decide) | (show @Ne Nat _ _; omega)), List.forall_mem_cons.mpr ⟨by ((try dsimp only); first | exact Dif.l (by with_reducible assumption) | exact Dif.r (by with_reducible assumption) | (show @Ne Nat _ _; decide) | (show @Ne Nat _ _; omega)), List.forall_mem_nil _⟩⟩) (CutO.skip (List.Mem.head _) (CutO.skip (List.Mem.tail _ (List.Mem.head _)) CutO.nil)))))))); (case kdw62 => ktr_room); (case kuw62 => ktr_units); (case hocw62 => with_reducible assumption); (case hvw62 => assumption); (case hzw62 => omega); (case h0w62 => omega); (case hew62 => first | exact EvIs.f | exact EvIs.t); (case he2w62 => omega); (case hbw62 => omega); k_whole); intro ⟨c', oc', vs', tq', hoc', hv'⟩ h' tk' F' N' df'; (try dsimp only at N' df'); (simp only [List.cons_append, List.nil_append] at N' df'); (try k_sweep); (first | with_reducible refine spR df' ?_ | with_reducible refine spA df' ?_); (clear df'); (dsimp only [SpA, SpR, List.cons_append, List.nil_append]); intros)
  k_with "call ref" => (k_here; (with_reducible show wpAny _ _ (call (Value.ref 429) [Value.int _ _, Value.bytes _ _, Value.bool false, Value.int _ _]) _ _ _); k_dflt (refine' use_topz ?srw63 (c_back (ev := 0) (Or.inl ⟨rfl, ?dzw63⟩) ?hzw63 ?h0w63 ?hew63 ?he2w63 rfl rfl ?hbw63 rfl) ?Fw63 ?Bw63 ?Xw63 ?Nw63 ?Tw63 ?XBw63 ?TBw63 ?p1w63 ?kkw63 ?krw63 ?kcw63 ?kdw63 ?kuw63 ?_; (case Fw63 => k_asm); (case srw63 => first | assumption | (repeat' (first | with_reducible assumption | rfl | refine (if_neg (by decide)).trans ?_))); (case Bw63 => k_asm); (case Xw63 => k_asm); (case Nw63 => k_asm); (case Tw63 => k_asm); (case XBw63 => k_asm); (case TBw63 => k_asm); (case p1w63 => assumption); (case kkw63 => first | exact rfl | assumption); (case krw63 => (refine' List.forall_mem_cons.mpr ⟨?r0w63, List.forall_mem_cons.mpr ⟨?r1w63, List.forall_mem_nil _⟩⟩; (case r0w63 => k_mem); (case r1w63 => k_mem))); (case kcw63 => (simp only [List.map_cons, List.map_nil]); exact (CutO.keep (List.forall_mem_cons.mpr ⟨by ((try dsimp only); first | exact Dif.l (by with_reducible assumption) | exact Dif.r (by with_reducible assumption) | (show @Ne Nat _ _; decide) | (show @Ne Nat _ _; omega)), List.forall_mem_cons.mpr ⟨by ((try dsimp only); first | exact Dif.l (by with_reducible assumption) | exact Dif.r (by with_reducible assumption) | (show @Ne Nat _ _; decide) | (show @Ne Nat _ _; omega)), List.forall_mem_nil _⟩⟩) (CutO.skip (List.Mem.tail _ (List.Mem.head _)) (CutO.keep (List.forall_mem_cons.mpr ⟨by ((try dsimp only); first | exact Dif.l (by with_reducible assumption) | exact Dif.r (by with_reducible assumption) | (show @Ne Nat _ _; decide) | (show @Ne Nat _ _; omega)), List.forall_mem_cons.mpr ⟨by ((try dsimp only); first | exact Dif.l (by with_reducible assumption) | exact Dif.r (by with_reducible assumption) | (show @Ne Nat _ _; decide) | (show @Ne Nat _ _; omega)), List.forall_mem_nil _⟩⟩) (CutO.keep (List.forall_mem_cons.mpr ⟨by ((try dsimp only); first | exact Dif.l (by with_reducible assumption) | exact Dif.r (by with_reducible assumption) | (show @Ne Nat _ _; decide) | (show @Ne Nat _ _; omega)), List.forall_mem_cons.mpr ⟨by ((try dsimp only); first | exact Dif.l (by with_reducible assumption) | exact Dif.r (by with_reducible assumption) | (show @Ne Nat _ _; decide) | (show @Ne Nat _ _; omega)), List.forall_mem_nil _⟩⟩) (CutO.skip (List.Mem.head _) CutO.nil)))))); (case kdw63 => ktr_room); (case kuw63 => ktr_units); (case dzw63 => first | with_reducible assumption | exact Dif.r (by with_reducible assumption)); (case hzw63 => omega); (case h0w63 => omega); (case hew63 => first | exact EvIs.f | exact EvIs.t); (case he2w63 => omega); (case hbw63 => omega); k_whole); intro ⟨c', oc', vs', tq', hoc', hv'⟩ h' tk' F' N' df'; (have dz' := dif_code N' (List.Mem.tail _ (List.Mem.head _)) (List.Mem.tail _ (List.Mem.tail _ (List.Mem.head _))) hoc'); (try dsimp only at N' df'); (simp only [List.cons_append, List.nil_append] at N' df'); (try k_sweep); (first | with_reducible refine spR df' ?_ | with_reducible refine spA df' ?_); (clear df'); (dsimp only [SpA, SpR, List.cons_append, List.nil_append]); intros)
  k_with "CutEnd" => ((refine' And.intro rfl (JW.later (hI := And.intro ?h1w64 ?h2w64) (F := ?Fw64) (N := newsSub ?Nw64 ?subw64) (ha := ?haw64) (hb := ?hbw64) (d1 := ?d1w64) (d2 := ?d2w64) (d3 := ?d3w64) (d4 := ?d4w64) (eb := ?ebw64) (fb := ?fbw64) (eq' := ?eqw64) (fq := ?fqw64) (hs := ?hsw64) (hP := ?hPw64))); (case Fw64 => k_asm); (case hsw64 => (repeat' (first | with_reducible assumption | rfl | exact (if_neg (by decide)).trans (by with_reducible assumption) | refine (if_neg (by decide)).trans ?_))); (case Nw64 => k_asm); (case subw64 => ((try simp only [List.cons_append, List.nil_append]); lcg_sub)); (case h1w64 => with_reducible assumption); (case h2w64 => with_reducible assumption); (case haw64 => with_reducible assumption); (case hbw64 => with_reducible assumption); (case d1w64 => (simp only [List.cons_append, List.nil_append, DifAll, DifR]; (repeat' (first | exact True.intro | refine AndD.mk ?_ ?_ | with_reducible assumption | exact Dif.r (by with_reducible assumption) | (show @Ne Nat _ _; omega))))); (case d2w64 => (simp only [List.cons_append, List.nil_append, DifAll, DifR]; (repeat' (first | exact True.intro | refine AndD.mk ?_ ?_ | with_reducible assumption | exact Dif.r (by with_reducible assumption) | (show @Ne Nat _ _; omega))))); (case d3w64 => (simp only [List.cons_append, List.nil_append, DifAll, DifR]; (repeat' (first | exact True.intro | refine AndD.mk ?_ ?_ | with_reducible assumption | exact Dif.r (by with_reducible assumption) | (show @Ne Nat _ _; omega))))); (case d4w64 => (simp only [List.cons_append, List.nil_append, DifAll, DifR]; (repeat' (first | exact True.intro | refine AndD.mk ?_ ?_ | with_reducible assumption | exact Dif.r (by with_reducible assumption) | (show @Ne Nat _ _; omega))))); (case ebw64 => with_reducible assumption); (case fbw64 => with_reducible assumption); (case eqw64 => with_reducible assumption); (case fqw64 => with_reducible assumption); (case hPw64 => (repeat' (first | with_reducible assumption | rfl | exact (if_neg (by decide)).trans (by with_reducible assumption) | refine (if_neg (by decide)).trans ?_))))
  k_with "exec For Name List cons nil" => (k_here; k_dflt (refine For_J ?_))
  k_with "CutEnd" => ((refine' And.intro rfl (JS.mk (hI := And.intro ?h1w66 ?h2w66) (F := ?Fw66) (N := newsSub ?Nw66 ?subw66) (ha := ?haw66) (hb := ?hbw66) (d1 := ?d1w66) (d2 := ?d2w66) (hs := ?hsw66) (hP := ?hPw66))); (case Fw66 => k_asm); (case hsw66 => (repeat' (first | with_reducible assumption | rfl | exact (if_neg (by decide)).trans (by with_reducible assumption) | refine (if_neg (by decide)).trans ?_))); (case Nw66 => k_asm); (case subw66 => ((try simp only [List.cons_append, List.nil_append]); lcg_sub)); (case h1w66 => with_reducible assumption); (case h2w66 => with_reducible assumption); (case haw66 => with_reducible assumption); (case hbw66 => with_reducible assumption); (case d1w66 => (simp only [List.cons_append, List.nil_append, DifAll, DifR]; (repeat' (first | exact True.intro | refine AndD.mk ?_ ?_ | with_reducible assumption | exact Dif.r (by with_reducible assumption) | (show @Ne Nat _ _; omega))))); (case d2w66 => (simp only [List.cons_append, List.nil_append, DifAll, DifR]; (repeat' (first | exact True.intro | refine AndD.mk ?_ ?_ | with_reducible assumption | exact Dif.r (by with_reducible assumption) | (show @Ne Nat _ _; omega))))); (case hPw66 => first | exact True.intro | exact ⟨by (repeat' (first | with_reducible assumption | rfl | exact (if_neg (by decide)).trans (by with_reducible assumption) | refine (if_neg (by decide)).trans ?_)), by (repeat' (first | with_reducible assumption | rfl | exact (if_neg (by decide)).trans (by with_reducible assumption) | refine (if_neg (by decide)).trans ?_))⟩))
  k_with "CutEnd" => ((refine' And.intro rfl (LW.mk (F := ?Fw67) (N := newsSub ?Nw67 ?subw67) (ha := ?haw67) (hb := ?hbw67) (dz := ?dzw67) (hs := ?hsw67) (hP := ?hPw67))); (case Fw67 => k_asm); (case hsw67 => (repeat' (first | with_reducible assumption | rfl | exact (if_neg (by decide)).trans (by with_reducible assumption) | refine (if_neg (by decide)).trans ?_))); (case Nw67 => k_asm); (case subw67 => ((try simp only [List.cons_append, List.nil_append]); lcg_sub)); (case haw67 => with_reducible assumption); (case hbw67 => with_reducible assumption); (case dzw67 => (simp only [List.cons_append, List.nil_append, DifAll, DifR]; (repeat' (first | exact True.intro | refine AndD.mk ?_ ?_ | with_reducible assumption | exact Dif.r (by with_reducible assumption) | (show @Ne Nat _ _; omega))))); (case hPw67 => first | exact True.intro | (refine ⟨_, _, if_pos rfl, ?_⟩; omega)))
  k_with "eval Name" => (k_here; k_dflt (refine' nameX_L ?Fw68 ?vw68 ?_ ?aw68 ?bw68; (case bw68 => kernel_rfl!); (case aw68 => kernel_rfl!); (case Fw68 => k_asm); (case vw68 => first | exact (if_pos rfl) | (refine (if_neg (by decide)).trans ?_; repeat' (first | with_reducible assumption | exact (if_pos rfl) | refine (if_neg (by decide)).trans ?_)) | with_reducible assumption); k_whole))
  k_with "UnrEndW" => (k_dflt ktu_end)
  trivial
theorem law_h.tw26271743282956561 : True := trivial
theorem law_h.tw36000841498574815 : True := trivial
theorem law_h.tw45494959010051760 : True := trivial
theorem law_h.tw100091596961510533 : True := trivial
theorem law_h.tw193844387703470150 : True := trivial
theorem law_h.tw213777537639782141 : True := trivial
theorem law_h.tw230999368937197173 : True := trivial
theorem law_h.tw282426105410572354 : True := trivial
theorem law_h.tw349038584520497005 : True := trivial
theorem law_h.tw350777729035674074 : True := trivial
theorem law_h.tw397278138375785860 : True := trivial
theorem law_h.tw407223205844209249 : True := trivial
theorem law_h.tw427447671885812814 : True := trivial
theorem law_h.tw483930875933317032 : True := trivial
theorem law_h.tw488492210330216856 : True := trivial
theorem law_h.tw645599110870173952 : True := trivial
theorem law_h.tw658616155063491793 : True := trivial
theorem law_h.tw677187241435598177 : True := trivial
theorem law_h.tw682426726710376783 : True := trivial
theorem law_h.tw687031766311409329 : True := trivial
theorem law_h.tw796121181299739361 : True := trivial
theorem law_h.tw819120188715741983 : True := trivial
theorem law_h.tw824492110764166520 : True := trivial
theorem law_h.tw893136042214641935 : True := trivial
theorem law_h.tw915478462864977803 : True := trivial
theorem law_h.tw927079590703423905 : True := trivial
theorem law_h.tw942344214039598982 : True := trivial
theorem law_h.tw953145249048116491 : True := trivial
theorem law_h.tw1010532707671621772 : True := trivial
theorem law_h.tw1027582507114026063 : True := trivial
theorem law_h.tw1060168005820241295 : True := trivial
theorem law_h.tw1086312054410620589 : True := trivial
theorem law_h.tw1146168445695314310 : True := trivial
theorem law_h.tw1159350384236923801 : True := trivial
theorem law_h.tw1162082019059985725 : True := trivial
theorem law_h.tw1181493363335895141 : True := trivial
theorem law_h.tw1252301960464644524 : True := trivial
theorem law_h.tw1255501721706989494 : True := trivial
theorem law_h.tw1289993123720384276 : True := trivial
theorem law_h.tw1320423915131269382 : True := trivial
theorem law_h.tw1372595423854673451 : True := trivial
theorem law_h.tw1436005096726989491 : True := trivial
theorem law_h.tw1454285017712923051 : True := trivial
theorem law_h.tw1457142510704975599 : True := trivial
theorem law_h.tw1507876362570422848 : True := trivial
theorem law_h.tw1539639196108985586 : True := trivial
theorem law_h.tw1583495596603424314 : True := trivial
theorem law_h.tw1584559674983721894 : True := trivial
theorem law_h.tw1647725587587581523 : True := trivial
theorem law_h.tw1658602188660727894 : True := trivial
theorem law_h.tw1808544303068864692 : True := trivial
theorem law_h.tw1813958445715112256 : True := trivial
theorem law_h.tw1844816597753144074 : True := trivial
theorem law_h.tw1948051535390645328 : True := trivial
theorem law_h.tw1960776885464713959 : True := trivial
theorem law_h.tw2000808803529291219 : True := trivial
theorem law_h.tw2060862184108326922 : True := trivial
theorem law_h.tw2099377581227673497 : True := trivial
theorem law_h.tw2144734700179567367 : True := trivial
theorem law_h.tw2183495927085842146 : True := trivial
theorem law_h.tw2184870700075727565 : True := trivial
theorem law_h.tw2213551181056321847 : True := trivial
theorem law_h.tw2258966454087154164 : True := trivial
theorem law_h.tw2277708861243612741 : True := trivial
theorem law_h.tw2281030684481225810 : True := trivial
theorem law_h.tw2315842243797569157 : True := trivial
theorem law_h.tw2404572985477512668 : True := trivial
theorem law_h.tw2423741298458988956 : True := trivial
theorem law_h.tw2442462977484265373 : True := trivial
theorem law_h.tw2494391726093133503 : True := trivial
theorem law_h.tw2575513694451096207 : True := trivial
theorem law_h.tw2610198667197493503 : True := trivial
theorem law_h.tw2661893067217410722 : True := trivial
theorem law_h.tw2690309195618600136 : True := trivial
theorem law_h.tw2698878598566780446 : True := trivial
theorem law_h.tw2712066544700508964 : True := trivial
theorem law_h.tw2733107933097315442 : True := trivial
theorem law_h.tw2796606135740645287 : True := trivial
theorem law_h.tw2812942133479266415 : True := trivial
theorem law_h.tw2823969260031396721 : True := trivial
theorem law_h.tw2874440511813308630 : True := trivial
theorem law_h.tw2926131306098262153 : True := trivial
theorem law_h.tw2945261653264520249 : True := trivial
theorem law_h.tw2954650080326031249 : True := trivial
theorem law_h.tw2966699342700956932 : True := trivial
theorem law_h.tw2980966558070815264 : True := trivial
theorem law_h.tw2983022674348276097 : True := trivial
theorem law_h.tw2991935562339501272 : True := trivial
theorem law_h.tw3019565041436425807 : True := trivial
theorem law_h.tw3024067983564314595 : True := trivial
theorem law_h.tw3037210430050975618 : True := trivial
theorem law_h.tw3080580232307829016 : True := trivial
theorem law_h.tw3110474712745733310 : True := trivial
theorem law_h.tw3147976596196484368 : True := trivial
theorem law_h.tw3198660380592135776 : True := trivial
theorem law_h.tw3320601552053081710 : True := trivial
theorem law_h.tw3346568575283978116 : True := trivial
theorem law_h.tw3433581975219827602 : True := trivial
theorem law_h.tw3466507354591449568 : True := trivial
theorem law_h.tw3487362950500994736 : True := trivial
theorem law_h.tw3494544646756519254 : True := trivial
theorem law_h.tw3513769884196741071 : True := trivial
theorem law_h.tw3520602866381974923 : True := trivial
theorem law_h.tw3523213997256516702 : True := trivial
theorem law_h.tw3555719697652020074 : True := trivial
theorem law_h.tw3600606255284853384 : True := trivial
theorem law_h.tw3612661755275957217 : True := trivial
theorem law_h.tw3624462092578734031 : True := trivial
theorem law_h.tw3645378009619962181 : True := trivial
theorem law_h.tw3750184728823738560 : True := trivial
theorem law_h.tw3798889811840521429 : True := trivial
theorem law_h.tw3818248021883630589 : True := trivial
theorem law_h.tw3821631481947330881 : True := trivial
theorem law_h.tw3841792935131966003 : True := trivial
theorem law_h.tw3868883403888041427 : True := trivial
theorem law_h.tw3868993362414759251 : True := trivial
theorem law_h.tw3870328222565575253 : True := trivial
theorem law_h.tw3926204635830213941 : True := trivial
theorem law_h.tw4005872289919406532 : True := trivial
theorem law_h.tw4057405931215392705 : True := trivial
theorem law_h.tw4101993418301387746 : True := trivial
theorem law_h.tw4119555037374076275 : True := trivial
theorem law_h.tw4186684563907883344 : True := trivial
theorem law_h.tw4221878148890489340 : True := trivial
theorem law_h.tw4230395783538226633 : True := trivial
theorem law_h.tw4328360987740664627 : True := trivial
theorem law_h.tw4341233664078642630 : True := trivial
theorem law_h.tw4361438032204947164 : True := trivial
theorem law_h.tw4371901440017043795 : True := trivial
theorem law_h.tw4389869770911735134 : True := trivial
theorem law_h.tw4414738792031390681 : True := trivial
theorem law_h.tw4457669141239769502 : True := trivial
theorem law_h.tw4477705932123718814 : True := trivial
theorem law_h.tw4502202361785410762 : True := trivial
theorem law_h.tw4526708641261682664 : True := trivial
theorem law_h.tw4581534362789970665 : True := trivial
theorem law_h.tw4582429008326322698 : True := trivial
theorem law_h.tw4612228662722329349 : True := trivial
theorem law_h.tw4653008909166697969 : True := trivial
theorem law_h.tw4667150822126873512 : True := trivial
theorem law_h.tw4667659008874661649 : True := trivial
theorem law_h.tw4670387905351354986 : True := trivial
theorem law_h.tw4679847060389549193 : True := trivial
theorem law_h.tw4688198131251335697 : True := trivial
theorem law_h.tw4702334123320758038 : True := trivial
theorem law_h.tw4879770822033008126 : True := trivial
theorem law_h.tw5001117103213944685 : True := trivial
theorem law_h.tw5015864377585636301 : True := trivial
theorem law_h.tw5047489143432635404 : True := trivial
theorem law_h.tw5055796907607190721 : True := trivial
theorem law_h.tw5141652864080140262 : True := trivial
theorem law_h.tw5171180553805350102 : True := trivial
theorem law_h.tw5198092824095205036 : True := trivial
theorem law_h.tw5210819987380389982 : True := trivial
theorem law_h.tw5305966954538185166 : True := trivial
theorem law_h.tw5316557406064960950 : True := trivial
theorem law_h.tw5359052007631178245 : True := trivial
theorem law_h.tw5403708623788725206 : True := trivial
theorem law_h.tw5411155721629109860 : True := trivial
theorem law_h.tw5446192061241003756 : True := trivial
theorem law_h.tw5448204417142831341 : True := trivial
theorem law_h.tw5481417097048532121 : True := trivial
theorem law_h.tw5494932163674684165 : True := trivial
theorem law_h.tw5527366833284873209 : True := trivial
theorem law_h.tw5566443626553491224 : True := trivial
theorem law_h.tw5591741821565237823 : True := trivial
theorem law_h.tw5600397725075511977 : True := trivial
theorem law_h.tw5602988545803979047 : True := trivial
theorem law_h.tw5626560960525030025 : True := trivial
theorem law_h.tw5661424923072721875 : True := trivial
theorem law_h.tw5709838415791601408 : True := trivial
theorem law_h.tw5764508737563245789 : True := trivial
theorem law_h.tw5812730832253751150 : True := trivial
theorem law_h.tw5825264586307983481 : True := trivial
theorem law_h.tw5900400966139595268 : True := trivial
theorem law_h.tw5910650723880941981 : True := trivial
theorem law_h.tw5987699124740661409 : True := trivial
theorem law_h.tw6045280484133179500 : True := trivial
theorem law_h.tw6095340157441932104 : True := trivial
theorem law_h.tw6099215554688298104 : True := trivial
theorem law_h.tw6180631761261221837 : True := trivial
theorem law_h.tw6198144198854054674 : True := trivial
theorem law_h.tw6232286012610214940 : True := trivial
theorem law_h.tw6249553097360532391 : True := trivial
theorem law_h.tw6257587234602565674 : True := trivial
theorem law_h.tw6293134096773073276 : True := trivial
theorem law_h.tw6294081486658474264 : True := trivial
theorem law_h.tw6376454682023426040 : True := trivial
theorem law_h.tw6428253779092433443 : True := trivial
theorem law_h.tw6499503927091099195 : True := trivial
theorem law_h.tw6540074161087097527 : True := trivial
theorem law_h.tw6572899873258520575 : True := trivial
theorem law_h.tw6576515485836428188 : True := trivial
theorem law_h.tw6622975680156772181 : True := trivial
theorem law_h.tw6696878044526823880 : True := trivial
theorem law_h.tw6700566084778592755 : True := trivial
theorem law_h.tw6781884286033080583 : True := trivial
theorem law_h.tw6859870762929066154 : True := trivial
theorem law_h.tw6870664528564844444 : True := trivial
theorem law_h.tw6871313449988959613 : True := trivial
theorem law_h.tw6893290813630340955 : True := trivial
theorem law_h.tw6909616214092620855 : True := trivial
theorem law_h.tw6935378624495617565 : True := trivial
theorem law_h.tw6972890986787815012 : True := trivial
theorem law_h.tw6993921298569995673 : True := trivial
theorem law_h.tw7055094813664366637 : True := trivial
theorem law_h.tw7070887630361327864 : True := trivial
theorem law_h.tw7134528916743243435 : True := trivial
theorem law_h.tw7140954102897160679 : True := trivial
theorem law_h.tw7141350377229620495 : True := trivial
theorem law_h.tw7211998531844745633 : True := trivial
theorem law_h.tw7224172974516522787 : True := trivial
theorem law_h.tw7237363260068481847 : True := trivial
theorem law_h.tw7282595492853681305 : True := trivial
theorem law_h.tw7356719984924007359 : True := trivial
theorem law_h.tw7415271812275143414 : True := trivial
theorem law_h.tw7467264337153839798 : True := trivial
theorem law_h.tw7503008671319459713 : True := trivial
theorem law_h.tw7537443686840782647 : True := trivial
theorem law_h.tw7547968182041075509 : True := trivial
theorem law_h.tw7564161166844496891 : True := trivial
theorem law_h.tw7625224227180780939 : True := trivial
theorem law_h.tw7636877078000370166 : True := trivial
theorem law_h.tw7650069841193161843 : True := trivial
theorem law_h.tw7786816690661956411 : True := trivial
theorem law_h.tw7818912699721913540 : True := trivial
theorem law_h.tw7877520667538000881 : True := trivial
theorem law_h.tw7882272398464095721 : True := trivial
theorem law_h.tw7888864304214678527 : True := trivial
theorem law_h.tw7910562975230611061 : True := trivial
theorem law_h.tw7911583109810434945 : True := trivial
theorem law_h.tw8002109242631555064 : True := trivial
theorem law_h.tw8003583005308610255 : True := trivial
theorem law_h.tw8043702166185493091 : True := trivial
theorem law_h.tw8090342521638472548 : True := trivial
theorem law_h.tw8111556027571088305 : True := trivial
theorem law_h.tw8149000456017493144 : True := trivial
theorem law_h.tw8167559890655229787 : True := trivial
theorem law_h.tw8184864866505008478 : True := trivial
theorem law_h.tw8189233316522450478 : True := trivial
theorem law_h.tw8237736080432609270 : True := trivial
theorem law_h.tw8276845543182176557 : True := trivial
theorem law_h.tw8294133082308591640 : True := trivial
theorem law_h.tw8327172867768897613 : True := trivial
theorem law_h.tw8374492560169575352 : True := trivial
theorem law_h.tw8391187901572760965 : True := trivial
theorem law_h.tw8395179595236697410 : True := trivial
theorem law_h.tw8410291414804716875 : True := trivial
theorem law_h.tw8415015896041015924 : True := trivial
theorem law_h.tw8454872952363657402 : True := trivial
theorem law_h.tw8458530001779020356 : True := trivial
theorem law_h.tw8479001673314400389 : True := trivial
theorem law_h.tw8558028471646428310 : True := trivial
theorem law_h.tw8570686696833556219 : True := trivial
theorem law_h.tw8591707786107588182 : True := trivial
theorem law_h.tw8621973886881629620 : True := trivial
theorem law_h.tw8633161098664365479 : True := trivial
theorem law_h.tw8648170216677109781 : True := trivial
theorem law_h.tw8656949681543523555 : True := trivial
theorem law_h.tw8670236621404202552 : True := trivial
theorem law_h.tw8672905006504142420 : True := trivial
theorem law_h.tw8759495230478915521 : True := trivial
theorem law_h.tw8784319718759615847 : True := trivial
theorem law_h.tw8828466392391464891 : True := trivial
theorem law_h.tw8872114772816722739 : True := trivial
theorem law_h.tw8875805133555970126 : True := trivial
theorem law_h.tw8910193736074278325 : True := trivial
theorem law_h.tw8922994173894747949 : True := trivial
theorem law_h.tw8964315545927245537 : True := trivial
theorem law_h.tw8967231656189322433 : True := trivial
theorem law_h.tw8983161141569986905 : True := trivial
theorem law_h.tw9000349915130094324 : True := trivial
theorem law_h.tw9012391780470885789 : True := trivial
theorem law_h.tw9061393913539905050 : True := trivial
theorem law_h.tw9082612262622369275 : True := trivial
theorem law_h.tw9084761696372888963 : True := trivial
theorem law_h.tw9100570590837044809 : True := trivial
theorem law_h.tw9126813152837943782 : True := trivial
theorem law_h.tw9144488156765901675 : True := trivial
theorem law_h.tw9191394720839435229 : True := trivial
theorem law_h.tw9239665110864921781 : True := trivial
theorem law_h.tw9266950505040274176 : True := trivial
theorem law_h.tw9309052750356275121 : True := trivial
theorem law_h.tw9312455152660091329 : True := trivial
theorem law_h.tw9319286691810062173 : True := trivial
theorem law_h.tw9329776390645938467 : True := trivial
theorem law_h.tw9338835385996864171 : True := trivial
theorem law_h.tw9467239963246116285 : True := trivial
theorem law_h.tw9482403192057678299 : True := trivial
theorem law_h.tw9482680118686510990 : True := trivial
theorem law_h.tw9495644251674130553 : True := trivial
theorem law_h.tw9505456517307342729 : True := trivial
theorem law_h.tw9515046412786378717 : True := trivial
theorem law_h.tw9724632500686814398 : True := trivial
theorem law_h.tw9754850559023064547 : True := trivial
theorem law_h.tw9758784126359584448 : True := trivial
theorem law_h.tw9766726007265907203 : True := trivial
theorem law_h.tw9780426244042123991 : True := trivial
theorem law_h.tw9855652004909429516 : True := trivial
theorem law_h.tw9859138582875358482 : True := trivial
theorem law_h.tw9913112952202370581 : True := trivial
theorem law_h.tw9925312274304511048 : True := trivial
theorem law_h.tw9952751070043652130 : True := trivial
theorem law_h.tw9961951919171565575 : True := trivial
theorem law_h.tw9992503735118505106 : True := trivial
theorem law_h.tw10046997026285007784 : True := trivial
theorem law_h.tw10061849888834990260 : True := trivial
theorem law_h.tw10077650707513541903 : True := trivial
theorem law_h.tw10081573010696236945 : True := trivial
theorem law_h.tw10173852818179709667 : True := trivial
theorem law_h.tw10179397583047391507 : True := trivial
theorem law_h.tw10181419006282901572 : True := trivial
theorem law_h.tw10202196259019105777 : True := trivial
theorem law_h.tw10212247439595784428 : True := trivial
theorem law_h.tw10216514592481491512 : True := trivial
theorem law_h.tw10224321626380944337 : True := trivial
theorem law_h.tw10282589415380804374 : True := trivial
theorem law_h.tw10312309056005993309 : True := trivial
theorem law_h.tw10332291567838204271 : True := trivial
theorem law_h.tw10338044449126278600 : True := trivial
theorem law_h.tw10341197308128775198 : True := trivial
theorem law_h.tw10346966729568069523 : True := trivial
theorem law_h.tw10458192541206713455 : True := trivial
theorem law_h.tw10459211900489347480 : True := trivial
theorem law_h.tw10519051858842980473 : True := trivial
theorem law_h.tw10530444040281436672 : True := trivial
theorem law_h.tw10573277624756097528 : True := trivial
theorem law_h.tw10644836699799619725 : True := trivial
theorem law_h.tw10679465219991819607 : True := trivial
theorem law_h.tw10808072888220907138 : True := trivial
theorem law_h.tw10861729498125152871 : True := trivial
theorem law_h.tw10864978189966598895 : True := trivial
theorem law_h.tw10889437335000091891 : True := trivial
theorem law_h.tw10925942052322998180 : True := trivial
theorem law_h.tw10979548970753781881 : True := trivial
theorem law_h.tw10980855351820549879 : True := trivial
theorem law_h.tw10992517271874296868 : True := trivial
theorem law_h.tw11042801071919978339 : True := trivial
theorem law_h.tw11048564494561744889 : True := trivial
theorem law_h.tw11065445772088902458 : True := trivial
theorem law_h.tw11100799189752261007 : True := trivial
theorem law_h.tw11200535218903799836 : True := trivial
theorem law_h.tw11218243566387507994 : True := trivial
theorem law_h.tw11259105871740359407 : True := trivial
theorem law_h.tw11307797462508219245 : True := trivial
theorem law_h.tw11308442181085538076 : True := trivial
theorem law_h.tw11433290520360297861 : True := trivial
theorem law_h.tw11541611547379740983 : True := trivial
theorem law_h.tw11587544270509854611 : True := trivial
theorem law_h.tw11650286770572464928 : True := trivial
theorem law_h.tw11671000290706719994 : True := trivial
theorem law_h.tw11711746396753997170 : True := trivial
theorem law_h.tw11714399621548409172 : True := trivial
theorem law_h.tw11911724457249732807 : True := trivial
theorem law_h.tw11948647357391006840 : True := trivial
theorem law_h.tw11963734421578785756 : True := trivial
theorem law_h.tw12033433053259066013 : True := trivial
theorem law_h.tw12057689524779618144 : True := trivial
theorem law_h.tw12069032705042578108 : True := trivial
theorem law_h.tw12071572879822388244 : True := trivial
theorem law_h.tw12137585336036643505 : True := trivial
theorem law_h.tw12194772340900088001 : True := trivial
theorem law_h.tw12197472780155798512 : True := trivial
theorem law_h.tw12244869057865505795 : True := trivial
theorem law_h.tw12246895759555234612 : True := trivial
theorem law_h.tw12251173183191491844 : True := trivial
theorem law_h.tw12269849447617597775 : True := trivial
theorem law_h.tw12270450051816772761 : True := trivial
theorem law_h.tw12292119573615000915 : True := trivial
theorem law_h.tw12313421565668753196 : True := trivial
theorem law_h.tw12344552902760874043 : True := trivial
theorem law_h.tw12431405489649518823 : True := trivial
theorem law_h.tw12489308804756533332 : True := trivial
theorem law_h.tw12537393082214133630 : True := trivial
theorem law_h.tw12543335011189805769 : True := trivial
theorem law_h.tw12546474872057912733 : True := trivial
theorem law_h.tw12570123588964959217 : True := trivial
theorem law_h.tw12594973520127229082 : True := trivial
theorem law_h.tw12623458635132983771 : True := trivial
theorem law_h.tw12624500711524322473 : True := trivial
theorem law_h.tw12627005606343055636 : True := trivial
theorem law_h.tw12709588255554376996 : True := trivial
theorem law_h.tw12730019892055020062 : True := trivial
theorem law_h.tw12776970887855030827 : True := trivial
theorem law_h.tw12787630508402368242 : True := trivial
theorem law_h.tw12861629388853566563 : True := trivial
theorem law_h.tw13032034309751100067 : True := trivial
theorem law_h.tw13081196021828851641 : True := trivial
theorem law_h.tw13105402075897417559 : True := trivial
theorem law_h.tw13173733096257998972 : True := trivial
theorem law_h.tw13209497615837778036 : True := trivial
theorem law_h.tw13215354256124517062 : True := trivial
theorem law_h.tw13280263009338512658 : True := trivial
theorem law_h.tw13326920019418859827 : True := trivial
theorem law_h.tw13387686347374594013 : True := trivial
theorem law_h.tw13556517239852756429 : True := trivial
theorem law_h.tw13663167041517585560 : True := trivial
theorem law_h.tw13725760741609566806 : True := trivial
theorem law_h.tw13747415248928904112 : True := trivial
theorem law_h.tw13785591697500365672 : True := trivial
theorem law_h.tw13787308421359565893 : True := trivial
theorem law_h.tw13813325094108109175 : True := trivial
theorem law_h.tw13814059643850828565 : True := trivial
theorem law_h.tw13821706909732824698 : True := trivial
theorem law_h.tw13825066114543268417 : True := trivial
theorem law_h.tw13837974414033321796 : True := trivial
theorem law_h.tw13885181055585247135 : True := trivial
theorem law_h.tw13944938002986718764 : True := trivial
theorem law_h.tw13970452047834525645 : True := trivial
theorem law_h.tw13979437952198646952 : True := trivial
theorem law_h.tw13983819890424301115 : True := trivial
theorem law_h.tw14096062245737142086 : True := trivial
theorem law_h.tw14106256307109200732 : True := trivial
theorem law_h.tw14116975145617023706 : True := trivial
theorem law_h.tw14121557462793320623 : True := trivial
theorem law_h.tw14127632823220617973 : True := trivial
theorem law_h.tw14158804058008538091 : True := trivial
theorem law_h.tw14180456178114045060 : True := trivial
theorem law_h.tw14181315600978108388 : True := trivial
theorem law_h.tw14201182471590326323 : True := trivial
theorem law_h.tw14223454990151854870 : True := trivial
theorem law_h.tw14262916366627068999 : True := trivial
theorem law_h.tw14300178096902941623 : True := trivial
theorem law_h.tw14336483891534402874 : True := trivial
theorem law_h.tw14357774549384262681 : True := trivial
theorem law_h.tw14370169424247458819 : True := trivial
theorem law_h.tw14502511545211506124 : True := trivial
theorem law_h.tw14553424743940860956 : True := trivial
theorem law_h.tw14781958764610906203 : True := trivial
theorem law_h.tw14830835546220232701 : True := trivial
theorem law_h.tw14912453066628754627 : True := trivial
theorem law_h.tw14939644612344398011 : True := trivial
theorem law_h.tw14999178978478994520 : True := trivial
theorem law_h.tw15039953360355103731 : True := trivial
theorem law_h.tw15073499523001483178 : True := trivial
theorem law_h.tw15079424185684254683 : True := trivial
theorem law_h.tw15080474256791301818 : True := trivial
theorem law_h.tw15105893439609843204 : True := trivial
theorem law_h.tw15134437288293599739 : True := trivial
theorem law_h.tw15172563811814121291 : True := trivial
theorem law_h.tw15202259872413170267 : True := trivial
theorem law_h.tw15283051034114661457 : True := trivial
theorem law_h.tw15290745977022396172 : True := trivial
theorem law_h.tw15294186797458585451 : True := trivial
theorem law_h.tw15297461799016900542 : True := trivial
theorem law_h.tw15302013567543639618 : True := trivial
theorem law_h.tw15306287206947408662 : True := trivial
theorem law_h.tw15314744879636704226 : True := trivial
theorem law_h.tw15350247497175985179 : True := trivial
theorem law_h.tw15474477676111776766 : True := trivial
theorem law_h.tw15520502405250874931 : True := trivial
theorem law_h.tw15542898783067319777 : True := trivial
theorem law_h.tw15606507980065141537 : True := trivial
theorem law_h.tw15614736445533286550 : True := trivial
theorem law_h.tw15629748493932377316 : True := trivial
theorem law_h.tw15652137797636731599 : True := trivial
theorem law_h.tw15655026431361952242 : True := trivial
theorem law_h.tw15678886324392870510 : True := trivial
theorem law_h.tw15716052184039632798 : True := trivial
theorem law_h.tw15747506476189935782 : True := trivial
theorem law_h.tw15761679111924024391 : True := trivial
theorem law_h.tw15826941130186221194 : True := trivial
theorem law_h.tw15827961128558220636 : True := trivial
theorem law_h.tw15856198963492575196 : True := trivial
theorem law_h.tw15910218859762270976 : True := trivial
theorem law_h.tw15927359128616301501 : True := trivial
theorem law_h.tw15956731566854251616 : True := trivial
theorem law_h.tw15968423232639659163 : True := trivial
theorem law_h.tw15975998965703135808 : True := trivial
theorem law_h.tw15992758528300176768 : True := trivial
theorem law_h.tw15997230683379623435 : True := trivial
theorem law_h.tw16014769470536193936 : True := trivial
theorem law_h.tw16105367370271369268 : True := trivial
theorem law_h.tw16187789997501220928 : True := trivial
theorem law_h.tw16222805426409957441 : True := trivial
theorem law_h.tw16297672400441754533 : True := trivial
theorem law_h.tw16327064665059299671 : True := trivial
theorem law_h.tw16338820545748331942 : True := trivial
theorem law_h.tw16339802563517509145 : True := trivial
theorem law_h.tw16415849180748952616 : True := trivial
theorem law_h.tw16425766353289810314 : True := trivial
theorem law_h.tw16469286180605519437 : True := trivial
theorem law_h.tw16470062077051403643 : True := trivial
theorem law_h.tw16503389165735961357 : True := trivial
theorem law_h.tw16513808114465484972 : True := trivial
theorem law_h.tw16524942395153964384 : True := trivial
theorem law_h.tw16527444731933178421 : True := trivial
theorem law_h.tw16559997753863878349 : True := trivial
theorem law_h.tw16579313610400561997 : True := trivial
theorem law_h.tw16581259259163190782 : True := trivial
theorem law_h.tw16642220313675571149 : True := trivial
theorem law_h.tw16651671749707472578 : True := trivial
theorem law_h.tw16668105349453137729 : True := trivial
theorem law_h.tw16675347182418876136 : True := trivial
theorem law_h.tw16683734671901775521 : True := trivial
theorem law_h.tw16696980081098386403 : True := trivial
theorem law_h.tw16700114363006015121 : True := trivial
theorem law_h.tw16721686437555241456 : True := trivial
theorem law_h.tw16762115666103661332 : True := trivial
theorem law_h.tw16767344523483789560 : True := trivial
theorem law_h.tw16790227021900811935 : True := trivial
theorem law_h.tw16792299246923423721 : True := trivial
theorem law_h.tw16793473725579460383 : True := trivial
theorem law_h.tw16794389897307801264 : True := trivial
theorem law_h.tw16903050525423119705 : True := trivial
theorem law_h.tw16909864269700248572 : True := trivial
theorem law_h.tw16910329489865334922 : True := trivial
theorem law_h.tw16945548424246930515 : True := trivial
theorem law_h.tw16977149328000845289 : True := trivial
theorem law_h.tw17040570635473303334 : True := trivial
theorem law_h.tw17100683656991710148 : True := trivial
theorem law_h.tw17104255155612966583 : True := trivial
theorem law_h.tw17138275988122248901 : True := trivial
theorem law_h.tw17159578801466845033 : True := trivial
theorem law_h.tw17174321342658860226 : True := trivial
theorem law_h.tw17195829230948260545 : True := trivial
theorem law_h.tw17215605203370730319 : True := trivial
theorem law_h.tw17256759379631987885 : True := trivial
theorem law_h.tw17265566930183409153 : True := trivial
theorem law_h.tw17443042225029120868 : True := trivial
theorem law_h.tw17521508113329716645 : True := trivial
theorem law_h.tw17528092017317435722 : True := trivial
theorem law_h.tw17585507077797739706 : True := trivial
theorem law_h.tw17621700502413743759 : True := trivial
theorem law_h.tw17675107839122393720 : True := trivial
theorem law_h.tw17676332838951985706 : True := trivial
theorem law_h.tw17710243002467820594 : True := trivial
theorem law_h.tw17724395057441367339 : True := trivial
theorem law_h.tw17730763578516016447 : True := trivial
theorem law_h.tw17761074050214910582 : True := trivial
theorem law_h.tw17768808249892333886 : True := trivial
theorem law_h.tw17784827814679024020 : True := trivial
theorem law_h.tw17808867409464347841 : True := trivial
theorem law_h.tw17905192900463850985 : True := trivial
theorem law_h.tw17905842892786023431 : True := trivial
theorem law_h.tw17912080776073888435 : True := trivial
theorem law_h.tw17925635028507210902 : True := trivial
theorem law_h.tw17944621943337986630 : True := trivial
theorem law_h.tw17972662733229894229 : True := trivial
theorem law_h.tw18007901528310452907 : True := trivial
theorem law_h.tw18013665041155522918 : True := trivial
theorem law_h.tw18030032161689693125 : True := trivial
theorem law_h.tw18104581183522864828 : True := trivial
theorem law_h.tw18123989275950122157 : True := trivial
theorem law_h.tw18128815656234663693 : True := trivial
theorem law_h.tw18235275750221210310 : True := trivial
theorem law_h.tw18249111170492942660 : True := trivial
theorem law_h.tw18334922301586413481 : True := trivial
theorem law_h.tw18429964789609736988 : True := trivial
theorem law_h.tw5425354584387096966 : True := trivial
set_option maxHeartbeats 8000000 in
set_option Elab.async true in
theorem law_h : PySem.Challenge.rw_qz0162_01.Holds := by
  w_on
  o_law
  o_head hok
  (case hw => w_witness2)
  dsimp only [hok, pick]
  k_go0
  (all_goals try k_fold)
  rename Shared => s1
  with_reducible refine' cut_stmts_e (a := [_]) (I := LW (ghostOf s1.heap [(433, 431), (428, 426)]) s1.heap.objs.size s1 (fun _ => True) [(431, tabObj #[]), (426, tabObj #[])]) ?ce (fun s' hI => ?lwT) ?lwH
  case ce => exact rfl
  case lwH =>
    (repeat' (first | (k_extra "nst") | (k_unfold; (try dsimp only)) | (k_end; kc_close) | walk1 | (dsimp only; walk1) | (leave1; walk_say "STEP leave1"; (try dsimp only)) | fail "no step"))
  case lwT =>
    obtain ⟨F1, N1, ha1, hb1, dz1, hs1, _⟩ := hI
    (first | with_reducible refine spR dz1 ?_ | with_reducible refine spA dz1 ?_)
    clear dz1
    dsimp only [SpA, SpR, List.cons_append, List.nil_append]
    intros
    with_reducible refine' cut_stmts_e (a := [_]) (I := LW (ghostOf s1.heap [(433, 431), (428, 426)]) s1.heap.objs.size s1 (fun _ => True) [(431, tabObj #[]), (426, tabObj #[])]) ?ce (fun s' hI => ?lwT) ?lwH
    case ce => exact rfl
    case lwH =>
      refine wpAny_execs_cons ?_
      refine For_T ?_
      (repeat' (first | (k_extra "nst") | (k_unfold; (try dsimp only)) | (k_end; kc_close) | walk1 | (dsimp only; walk1) | (leave1; walk_say "STEP leave1"; (try dsimp only)) | fail "no step"))
      refine ForListT_mk (J := JS (ghostOf s1.heap [(433, 431), (428, 426)]) s1.heap.objs.size s1 (fun _ => True) ?RR) (News.isList (by k_asm) (by k_mem)) (by intro v hv; simp at hv; rcases hv with rfl | rfl | rfl <;> exact ⟨_, rfl⟩) ?th0 (fun i I s h => js_it h) ?tst ?tfin
      case th0 =>
        (rename Fr _ _ _ _ => kF; rename News _ _ _ _ => kN; obtain ⟨F8, N8, d8⟩ := iter_new _ kF kN)
        (first | with_reducible refine spR d8 ?_ | with_reducible refine spA d8 ?_)
        clear d8
        dsimp only [SpA, SpR, List.cons_append, List.nil_append]
        intros
        refine' JS.mk (oI := { cls := .type "list_iterator", data := .fields #[.ref _, .int 0 0] }) (hI := ⟨rfl, rfl⟩) (F := F8) (N := pull5 N8) (ha := ?ha) (hb := ?hb) (d1 := ?d1) (d2 := ?d2) (hs := hs1) (hP := True.intro)
        (case ha => with_reducible assumption)
        (case hb => with_reducible assumption)
        all_goals (simp only [List.cons_append, List.nil_append, DifAll, DifR]; (repeat' (first | exact True.intro | refine AndD.mk ?_ ?_ | with_reducible assumption | exact Dif.r (by with_reducible assumption) | (show @Ne Nat _ _; omega))))
      case tst =>
        intro i I s8 v h8 hlt hJ hv8 hit hk
        cases hJ
        rename_i z oI c cnt a b ta tb h9 tk9 m9 hI F8 N8 ha hb d1 d2 hs hP
        obtain ⟨oI', F7, N7, c7, d7⟩ := iter_next F8 N8 d1 hk hit
        clear F8 N8 hI
        (first | with_reducible refine spR d1 ?_ | with_reducible refine spA d1 ?_)
        (first | with_reducible refine spR d2 ?_ | with_reducible refine spA d2 ?_)
        clear d1 d2
        dsimp only [SpA, SpR, List.cons_append, List.nil_append]
        intros
        obtain ⟨T, sq, ak, ts, ta, rfl, hT, dT, dT2, b1, b2⟩ : ∃ (T : Addr) (sq ak : Int) (ts ta : Tok), v = .ref T ∧ News (ghostOf s1.heap [(433, 431), (428, 426)]) s1.heap.objs.size h8 [(T, { cls := .type "tuple", data := .seq #[.int sq ts, .int ak ta] })] ∧ Dif z T ∧ Dif I T ∧ (0 ≤ sq ∧ sq < 256) ∧ (0 ≤ ak ∧ ak < 256) := by
          rcases (show i = 0 ∨ i = 1 ∨ i = 2 by (simp at hlt; omega)) with rfl | rfl | rfl
          all_goals (refine ⟨_, _, _, _, _, (Option.some.inj hv8).symm, newsSub N7 (by lcg_sub), by with_reducible assumption, by with_reducible assumption, by omega, by omega⟩)
        have N6 := news_one hT N7
        clear N7 hT
        (repeat' (first | (k_extra "nst") | (k_unfold; (try dsimp only)) | (k_end; kc_close) | walk1 | (dsimp only; walk1) | (leave1; walk_say "STEP leave1"; (try dsimp only)) | fail "no step"))
        refine ForList_mk (J := JS (ghostOf s1.heap [(433, 431), (428, 426)]) s1.heap.objs.size s1 (fun m => m (Str.ofString "seq") = some (.int sq ts) ∧ m (Str.ofString "ack") = some (.int ak ta)) ?RS) (News.isList (by k_asm) (by k_mem)) ?sh0 (fun i I s h => js_it h) ?sst ?sfin
        case sh0 =>
          (rename Fr _ _ _ _ => kF; rename News _ _ _ _ => kN; obtain ⟨F8, N8, d8⟩ := iter_new _ kF kN)
          (first | with_reducible refine spR d8 ?_ | with_reducible refine spA d8 ?_)
          clear d8
          dsimp only [SpA, SpR, List.cons_append, List.nil_append]
          intros
          refine' JS.mk (oI := { cls := .type "list_iterator", data := .fields #[.ref _, .int 0 0] }) (hI := ⟨rfl, rfl⟩) (F := F8) (N := pull4 N8) (ha := ?qha) (hb := ?qhb) (d1 := ?qd1) (d2 := ?qd2) (hs := ?qhs) (hP := ⟨?qp1, ?qp2⟩)
          (case qha => with_reducible assumption)
          (case qhb => with_reducible assumption)
          (case qhs => (repeat' (first | with_reducible assumption | rfl | exact (if_neg (by decide)).trans (by with_reducible assumption) | refine (if_neg (by decide)).trans ?_)))
          (case qp1 => (repeat' (first | with_reducible assumption | rfl | exact (if_neg (by decide)).trans (by with_reducible assumption) | refine (if_neg (by decide)).trans ?_)))
          (case qp2 => (repeat' (first | with_reducible assumption | rfl | exact (if_neg (by decide)).trans (by with_reducible assumption) | refine (if_neg (by decide)).trans ?_)))
          all_goals (simp only [List.cons_append, List.nil_append, DifAll, DifR]; (repeat' (first | exact True.intro | refine AndD.mk ?_ ?_ | with_reducible assumption | exact Dif.r (by with_reducible assumption) | (show @Ne Nat _ _; omega))))
        case sst =>
          clear ha hb hs
          intro i2 I2 s9 v h9' hlt2 hJ2 hv2 hit2 hk2
          cases hJ2
          rename_i z2 oI2 c2 cnt2 a2 b2' ta2 tb2 h92 tk92 m92 hI2 F82 N82 ha2 hb2 d12 d22 hs2 hP2
          obtain ⟨hP2, hP3⟩ := hP2
          obtain ⟨oI2', F72, N72, c72, d72⟩ := iter_next F82 N82 d12 hk2 hit2
          clear F82 N82 hI2
          (first | with_reducible refine spR d12 ?_ | with_reducible refine spA d12 ?_)
          (first | with_reducible refine spR d22 ?_ | with_reducible refine spA d22 ?_)
          clear d12 d22
          dsimp only [SpA, SpR, List.cons_append, List.nil_append]
          intros
          obtain ⟨st, tst, rfl, hst, hst2⟩ : ∃ st t, v = Value.int st t ∧ 1 ≤ st ∧ st ≤ 101 := by
            rcases (show i2 = 0 ∨ i2 = 1 by (simp at hlt2; omega)) with rfl | rfl
            all_goals exact ⟨_, _, (Option.some.inj hv2).symm, by omega, by omega⟩
          (repeat' (first | (k_extra "nst") | (k_unfold; (try dsimp only)) | (k_end; kc_close) | walk1 | (dsimp only; walk1) | (leave1; walk_say "STEP leave1"; (try dsimp only)) | fail "no step"))
        case sfin =>
          clear ha hb hs
          intro I2 s9 h9' hJ2 hk2
          obtain ⟨hI2, F82, N82, ha2, hb2, d12, d22, hs2, _⟩ := hJ2
          obtain ⟨F72, N72⟩ := iter_step F82 N82 d12 hk2
          (first | with_reducible refine spR d22 ?_ | with_reducible refine spA d22 ?_)
          clear d22
          dsimp only [SpA, SpR, List.cons_append, List.nil_append]
          intros
          refine wpAny_execs_nil (And.intro rfl ?_)
          refine' JS.mk (hI := ⟨c7, d7⟩) (F := F72) (N := newsSub N72 ?rsub) (ha := ha2) (hb := hb2) (d1 := ?rd1) (d2 := ?rd2) (hs := hs2) (hP := True.intro)
          (case rsub => lcg_sub)
          all_goals (simp only [List.cons_append, List.nil_append, DifAll, DifR]; (repeat' (first | exact True.intro | refine AndD.mk ?_ ?_ | with_reducible assumption | exact Dif.r (by with_reducible assumption) | (show @Ne Nat _ _; omega))))
      case tfin =>
        intro I s8 h8 hJ hk
        obtain ⟨hI, F8, N8, ha, hb, d1, d2, hs, _⟩ := hJ
        obtain ⟨F7, N7⟩ := iter_step F8 N8 d1 hk
        (first | with_reducible refine spR d2 ?_ | with_reducible refine spA d2 ?_)
        clear d2
        dsimp only [SpA, SpR, List.cons_append, List.nil_append]
        intros
        refine wpAny_execs_nil (And.intro rfl ?_)
        refine' LW.mk (F := F7) (N := newsSub N7 ?tsub) (ha := ha) (hb := hb) (dz := ?tdz) (hs := hs) (hP := True.intro)
        (case tsub => lcg_sub)
        (case tdz => (simp only [List.cons_append, List.nil_append, DifAll, DifR]; (repeat' (first | exact True.intro | refine AndD.mk ?_ ?_ | with_reducible assumption | exact Dif.r (by with_reducible assumption) | (show @Ne Nat _ _; omega)))))

    case lwT =>
      clear F1 N1 ha1 hb1 hs1
      obtain ⟨F1, N1, ha1, hb1, dz1, hs1, _⟩ := hI
      (first | with_reducible refine spR dz1 ?_ | with_reducible refine spA dz1 ?_)
      clear dz1
      dsimp only [SpA, SpR, List.cons_append, List.nil_append]
      intros
      with_reducible refine' cut_stmts_e (a := [_]) (I := LW (ghostOf s1.heap [(433, 431), (428, 426)]) s1.heap.objs.size s1 (fun m => ∃ i t, m (Str.ofString "iss") = some (.int i t) ∧ 0 ≤ i ∧ i < 256) [(431, tabObj #[]), (426, tabObj #[])]) ?ce (fun s' hI => ?lwT) ?lwH
      case ce => exact rfl
      case lwH =>
        (repeat' (first | (k_extra "nst") | (k_unfold; (try dsimp only)) | (k_end; kc_close) | walk1 | (dsimp only; walk1) | (leave1; walk_say "STEP leave1"; (try dsimp only)) | fail "no step"))
      case lwT =>
        clear F1 N1 ha1 hb1 hs1
        obtain ⟨F1, N1, ha1, hb1, dz1, hs1, ⟨is, ti, his, his0, his1⟩⟩ := hI
        (first | with_reducible refine spR dz1 ?_ | with_reducible refine spA dz1 ?_)
        clear dz1
        dsimp only [SpA, SpR, List.cons_append, List.nil_append]
        intros
        with_reducible refine' cut_stmts_e (a := [_]) (I := fun s' => ∃ h' tk' m pa pb, s' = { s1 with heap := h', toks := tk' } ∧ Fr (ghostOf s1.heap [(433, 431), (428, 426)]) s1.heap.objs.size h' m ∧ News (ghostOf s1.heap [(433, 431), (428, 426)]) s1.heap.objs.size h' [(431, tabObj pa), (426, tabObj pb)]) ?ce (fun s' hI => ?lwT) ?lwH
        case ce => exact rfl
        case lwH =>
          refine wpAny_execs_cons ?_
          refine For_J ?_
          (repeat' (first | (k_extra "nst") | (k_unfold; (try dsimp only)) | (k_end; kc_close) | walk1 | (dsimp only; walk1) | (leave1; walk_say "STEP leave1"; (try dsimp only)) | fail "no step"))
          refine ForList_mk (J := JW (ghostOf s1.heap [(433, 431), (428, 426)]) s1.heap.objs.size s1 (fun m => m (Str.ofString "iss") = some (.int is ti))) (News.isList (by k_asm) (by k_mem)) ?jh0 (fun i I s h => jw_it h) ?jst ?jfin
          case jh0 =>
            (rename Fr _ _ _ _ => kF; rename News _ _ _ _ => kN; obtain ⟨F8, N8, d8⟩ := iter_new _ kF kN)
            (first | with_reducible refine spR d8 ?_ | with_reducible refine spA d8 ?_)
            clear d8
            dsimp only [SpA, SpR, List.cons_append, List.nil_append]
            intros
            refine' JW.fresh (oI := { cls := .type "list_iterator", data := .fields #[.ref _, .int 0 0] }) (hI := ⟨rfl, rfl⟩) (F := F8) (N := newsSub N8 ?jsub) (ha := ha1) (hb := hb1) (d1 := ?jd1) (d2 := ?jd2) (d3 := ?jd3) (hs := hs1) (hP := his)
            (case jsub => ((try simp only [List.cons_append, List.nil_append]); lcg_sub))
            all_goals (simp only [List.cons_append, List.nil_append, DifAll, DifR]; (repeat' (first | exact True.intro | refine AndD.mk ?_ ?_ | with_reducible assumption | exact Dif.r (by with_reducible assumption) | (show @Ne Nat _ _; omega))))
          case jst =>
            (try clear F1 N1); clear ha1 hb1 hs1
            intro i I s8 v h8 hlt hJ hv8 hit hk
            cases hJ with
            | fresh hI F8 N8 ha hb d1 d2 d3 hs hP =>
              obtain ⟨oI', F7, N7, c7, d7⟩ := iter_next F8 N8 d1 hk hit
              clear F8 N8 hI
              obtain rfl : Value.bool false = v := Option.some.inj hv8
              (first | with_reducible refine spR d1 ?_ | with_reducible refine spA d1 ?_)
              (first | with_reducible refine spR d2 ?_ | with_reducible refine spA d2 ?_)
              (first | with_reducible refine spR d3 ?_ | with_reducible refine spA d3 ?_)
              clear d1 d2 d3
              dsimp only [SpA, SpR, List.cons_append, List.nil_append]
              intros
              (repeat' (first | (k_extra "nst") | (k_unfold; (try dsimp only)) | (k_end; kc_close) | walk1 | (dsimp only; walk1) | (leave1; walk_say "STEP leave1"; (try dsimp only)) | fail "no step"))
            | @later j J8 z8 cb cq oI8 ob oq c8 n8 a8 b8 ta8 tb8 ub uq vb vq h7 tk7 m7 hI F8 N8 ha hb d1 d2 d3 d4 eb fb eq' fq hs hP =>
              obtain rfl : j = 0 := by simp at hlt; omega
              obtain ⟨oI', F7, N7, c7, d7⟩ := iter_next F8 N8 d1 hk hit
              clear F8 N8 hI
              obtain rfl : Value.bool true = v := Option.some.inj hv8
              (first | with_reducible refine spR d1 ?_ | with_reducible refine spA d1 ?_)
              (first | with_reducible refine spR d2 ?_ | with_reducible refine spA d2 ?_)
              (first | with_reducible refine spR d3 ?_ | with_reducible refine spA d3 ?_)
              (first | with_reducible refine spR d4 ?_ | with_reducible refine spA d4 ?_)
              clear d1 d2 d3 d4
              dsimp only [SpA, SpR, List.cons_append, List.nil_append]
              intros
              (repeat' (first | (k_extra "nst") | (k_unfold; (try dsimp only)) | (k_end; kc_close) | walk1 | (dsimp only; walk1) | (leave1; walk_say "STEP leave1"; (try dsimp only)) | fail "no step"))
          case jfin =>
            intro I s8 h8 hJ hk
            generalize hn : Array.size _ = n at hJ
            cases hJ with
            | later hI F8 N8 ha hb d1 =>
              obtain ⟨F7, N7⟩ := iter_step F8 N8 d1 hk
              exact wpAny_execs_nil (And.intro rfl ⟨_, _, _, _, _, rfl, F7, newsSub N7 (List.forall_mem_cons.mpr ⟨List.Mem.tail _ (List.Mem.tail _ (List.Mem.head _)), List.forall_mem_cons.mpr ⟨List.Mem.tail _ (List.Mem.tail _ (List.Mem.tail _ (List.Mem.tail _ (List.Mem.head _)))), List.forall_mem_nil _⟩⟩)⟩)
        case lwT =>
          clear F1 N1 ha1 hb1 hs1 his
          obtain ⟨h9, tk9, m9, pa9, pb9, rfl, F9, N9⟩ := hI
          (repeat' (first | (k_extra "nst") | (k_unfold; (try dsimp only)) | (k_end; kc_close) | walk1 | (dsimp only; walk1) | (leave1; walk_say "STEP leave1"; (try dsimp only)) | fail "no step"))
          (all_goals (try k_data))
          all_goals w_report
end
end Mine
theorem PySem.Challenge.cw_qz0162_01_holds : PySem.Challenge.rw_qz0162_01.Holds := by
  exact Mine.law_h
