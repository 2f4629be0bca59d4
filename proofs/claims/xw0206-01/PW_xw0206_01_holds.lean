import PyProof.Rows.All
import Wide.All
import OpenK.AllK
import Wide.FinOn
import PySem.Challenge.RW_xw0206_01
open PySem PySem.W PySem.Spec PySem.Calls PyProof.Rows
set_option Elab.async false
set_option maxRecDepth 100000
set_option compiler.extract_closed false
namespace Mine
section
local macro_rules | `(tactic| o_head $_) => `(tactic| assumption)
set_option maxHeartbeats 8000000 in
/-- for its constant alone: the written part of the state that the top leaves (Mine.hda.heap_1) -/
theorem hda : PySem.Challenge.rw_xw0206_01.row.Holds → True := by
  intro h
  have h2 : PySem.Challenge.rw_xw0206_01.row.Holds := by
    k_head
  trivial
end

section
variable {α : Type} {a b : α} {x l l' m r r' : List α}
/-- l is x and r, in some order -/
noncomputable def Pull (x l r : List α) : Prop := l.Perm (x ++ r)
theorem pull_here : Pull [a] (a :: r) r := List.Perm.refl _
theorem pull_block : Pull x x [] := by unfold Pull; rw [List.append_nil]
theorem pull_skip (h : Pull x l r) : Pull x (b :: l) (b :: r) := (List.Perm.cons b h).trans List.perm_middle.symm
theorem pull_left (h : Pull x l r) : Pull x (l ++ m) (r ++ m) := by
  have := List.Perm.append_right m h
  rw [List.append_assoc] at this
  exact this
theorem pull_right (h : Pull x m r) : Pull x (l ++ m) (l ++ r) := by
  refine (List.Perm.append_left l h).trans ?_
  rw [← List.append_assoc, ← List.append_assoc]
  exact List.Perm.append_right r List.perm_append_comm
theorem pp_cons (hp : Pull [a] l' r') (h : l.Perm r') : (a :: l).Perm l' := (List.Perm.cons a h).trans hp.symm
theorem pp_block (hp : Pull x l' r') (h : l.Perm r') : (x ++ l).Perm l' := (List.Perm.append_left x h).trans hp.symm
theorem pp_cons_app (hp : Pull [a] l' r') (h : (l ++ m).Perm r') : ((a :: l) ++ m).Perm l' := pp_cons hp h
theorem pp_nil_app (h : m.Perm l') : (([] : List α) ++ m).Perm l' := h
theorem pp_assoc {y : List α} (h : (x ++ (y ++ m)).Perm l') : ((x ++ y) ++ m).Perm l' := by rw [List.append_assoc]; exact h
theorem pp_last (hp : Pull x l' r') (h : ([] : List α).Perm r') : x.Perm l' := by
  have h1 : r' = [] := List.nil_perm.mp h
  rw [h1] at hp
  have h2 : l'.Perm (x ++ []) := hp
  rw [List.append_nil] at h2
  exact h2.symm
end
local macro_rules | `(tactic| walk_at "m_pull") => `(tactic| first
  | with_reducible exact pull_here
  | with_reducible exact pull_block
  | ((with_reducible apply pull_skip); walk_at "m_pull")
  | ((with_reducible apply pull_left); walk_at "m_pull")
  | ((with_reducible apply pull_right); walk_at "m_pull"))
local macro_rules | `(tactic| walk_at "m_perm2") => `(tactic| first
  | with_reducible exact List.Perm.nil
  | ((with_reducible apply pp_cons); walk_at "m_pull"; walk_at "m_perm2")
  | ((with_reducible apply pp_cons_app); walk_at "m_pull"; walk_at "m_perm2")
  | ((with_reducible apply pp_nil_app); walk_at "m_perm2")
  | ((with_reducible apply pp_assoc); walk_at "m_perm2")
  | ((with_reducible apply pp_block); walk_at "m_pull"; walk_at "m_perm2")
  | exact List.Perm.nil
  | ((with_reducible apply pp_last); walk_at "m_pull"; exact List.Perm.nil))
theorem idp {p : Prop} (h : p) : p := h
/-- every object of h that stands outside the addresses 'as' stands in h' -/
noncomputable def Kept (h h' : Heap) (as : List Addr) : Prop := ∀ b o, h.get? b = some o → b ∉ as → h'.get? b = some o
structure Cx (w : World) (A : Around) (h₀ : Heap) (L : Addr) : Prop where
  below : ∃ A₀ base outer env, Below A₀ base outer h₀ ∧ A.frames = some (env :: outer) ∧ env.frame = some L ∧ env.scope.kind = .function
  kin : (Mine.hda.heap_1 w.params).In h₀
  top : ∃ loose mean mg mb, Top topProg loose mean mg mb h₀
  hand : A.handled = none
noncomputable abbrev adrs (l : List (Addr × Obj)) : List Addr := l.map (·.1)
noncomputable def Fresh (h : Heap) (lg lg' : List (Addr × Obj)) : Prop := ∀ p ∈ lg', p.1 ∈ adrs lg ∨ h.get? p.1 = none
noncomputable abbrev mkA (dp : Nat) (frs : List Env) (gd : Option (List Code)) (un : Nat) : Around := { depth := dp, frames := some frs, guards := gd, units := un }
theorem mkA_of {w : World} {A : Around} {h₀ : Heap} {L : Addr} (C : Cx w A h₀ L) : ∃ frs, A = mkA A.depth frs A.guards A.units := by
  obtain ⟨_, _, outer, env, _, hA, _, _⟩ := C.below
  have hh := C.hand
  refine ⟨env :: outer, ?_⟩
  obtain ⟨a, b, c, d, e⟩ := A
  dsimp only at hA hh
  subst hA hh
  rfl
/-- a call of f with vs over the ledger lg -/
noncomputable def Sp (w : World) (d : Nat) (f : Addr) (vs : List Value) (lg : List (Addr × Obj)) (post : Value → List (Addr × Obj) → Prop) : Prop :=
  ∀ (dp : Nat) (frs : List Env) (gd : Option (List Code)) (un : Nat) (h₀ : Heap) (L : Addr) (m : Str → Option Value) (s : Shared) (Q E : Value → Shared → Prop),
    Cx w (mkA dp frs gd un) h₀ L → dp + d < recursionLimit → un + 8 * d < cLine → Fr h₀ L s.heap m → News h₀ L s.heap lg → (adrs lg).Nodup →
    (∀ v lg' h' tk', Fr h₀ L h' m → News h₀ L h' lg' → (adrs lg').Nodup → Kept s.heap h' (adrs lg) → Fresh s.heap lg lg' → post v lg' → Q v { s with heap := h', toks := tk' }) →
    wpAny (model PySem.Challenge.rw_xw0206_01.row.prog w) (mkA dp frs gd un) (call (.ref f) vs) Q E s
/-- the end of a body that 'enter' has opened -/
noncomputable def Lv (h₀ : Heap) (L : Addr) (m : Str → Option Value) (g : Heap) (s : Shared) (lg : List (Addr × Obj)) (Q : Value → Shared → Prop) (v : Value) (s' : Shared) : Prop :=
  ∃ L' m' lg' h' tk', s' = { s with heap := h', toks := tk' } ∧ Fr g L' h' m' ∧ News g L' h' lg' ∧
    (Fr h₀ L h' m → News h₀ L h' lg' → Kept s.heap h' (adrs lg) → Fresh s.heap lg lg' → Q v s')
theorem Lv.intro {h₀ : Heap} {L : Addr} {m : Str → Option Value} {g : Heap} {s : Shared} {lg : List (Addr × Obj)} {Q : Value → Shared → Prop} {v : Value} {h' : Heap} {tk' : Nat}
    {L' : Addr} {m' : Str → Option Value} (lg' : List (Addr × Obj)) (F' : Fr g L' h' m') (N' : News g L' h' lg')
    (k : Fr h₀ L h' m → News h₀ L h' lg' → Kept s.heap h' (adrs lg) → Fresh s.heap lg lg' → Q v { s with heap := h', toks := tk' }) :
    Lv h₀ L m g s lg Q v { s with heap := h', toks := tk' } := ⟨L', m', lg', h', tk', rfl, F', N', k⟩
theorem enter {prog : Program} {w : World} {dp un : Nat} {frs : List Env} {gd : Option (List Code)} {s : Shared} {h₀ : Heap} {L : Addr} {m : Str → Option Value} {news : List (Addr × Obj)}
    {Q E : Value → Shared → Prop} {name qual : Str} {params : Arguments} {body : List Stmt} {scope : Scope} {dV kV doc pm cdv ct oc : Value} {an od : Option Addr} {osl : Array (Option Value)} {f : Addr} {vs : List Value} {binds : List (Str × Value)}
    (C : Cx w (mkA dp frs gd un) h₀ L) (F : Fr h₀ L s.heap m) (N : News h₀ L s.heap news)
    (ho : (Mine.hda.heap_1 w.params).lookup f = some ⟨oc, od, .func (fnOf name qual params body scope dV kV doc pm an cdv ct), osl⟩) (hcd : codeIn (Mine.hda.heap_1 w.params) cdv qual = true)
    (hroom : dp < recursionLimit)
    (hbind : BindsTo s (fnOf name qual params body scope dV kV doc pm an cdv ct) ⟨vs, []⟩ binds) (hloc : ∀ y ∈ binds, scope.names.lookup y.1 = some .local)
    (hcell : ∀ x ∈ scope.names, x.2 ≠ .cell)
    (h : ∀ A₀ base g L' h₁ loose mean mg mb, Below A₀ base frs g → Fr g L' h₁ (fun y => binds.reverse.lookup y) → News g L' h₁ news → (Mine.hda.heap_1 w.params).In g → Top topProg loose mean mg mb g →
      (∀ b o, s.heap.get? b = some o → b ∉ adrs news → g.get? b = some o) → (∀ p ∈ news, p.1 < L') →
      wpAny (model prog w) ((mkA dp frs gd un).deeper (envOf qual scope L' f cdv)) (execs body (envOf qual scope L' f cdv))
        (fun fl s' => Lv h₀ L m g s news Q (match fl with | .ret v => v | _ => .none) s')
        (fun _ _ => False)
        { s with heap := h₁, toks := s.toks + binds.length })
    (hco : scope.isCoroutine = false := by rfl) (hgen : scope.isGenerator = false := by rfl) (hk : scope.kind = .function := by rfl) :
    wpAny (model prog w) (mkA dp frs gd un) (call (.ref f) vs) Q E s := by
  obtain ⟨A₀, base, outer, env, B, hA, hf, hke⟩ := C.below
  obtain ⟨loose, mean, mg, mb, T⟩ := C.top
  have X := C.kin
  have hA' : frs = env :: outer := Option.some.inj hA
  subst hA'
  refine wpAny_call ?_
  obtain ⟨FG, BG, st, lv⟩ := groundX (A := mkA dp (env :: outer) gd un) (R := fun r s'' => match r with | .ok (.ret v) => Q v s'' | .ok _ => False | .error e => E e s'') B F N hA hf hke
  have nin : ∀ b o, s.heap.get? b = some o → b ∉ adrs news → (hideAll s.heap (news.map (·.1))).get? b = some o := fun b o e hb => hideAll_get _ e hb
  refine codeAny_call_def (A := mkA dp (env :: outer) gd un) (fd := fnOf name qual params body scope dV kV doc pm an cdv ct) (body := body) (binds := binds) hroom ((X.keeps F.keep) _ _ ho) rfl (T.nolimit.keeps F.keep) (codeRec_of (X.keeps F.keep) hcd) rfl hbind hcell hloc (fun h₁ hns hk₁ => ?_) hco hgen hk
  refine wpAny_mono (h _ base _ s.heap.objs.size h₁ loose mean mg mb BG ⟨hns, fun b o e => hk₁ b o (of_hideAll _ e), Nat.le_of_eq (hideAll_size _ _)⟩
    (fun p hp => ⟨hk₁ _ _ (N p hp).1, Nat.ne_of_lt (Heap.lt_size (N p hp).1), hideAll_none _ (List.mem_map_of_mem hp)⟩) (X.keeps st) (T.keeps st) nin (fun p hp => Heap.lt_size (N p hp).1)) (fun fl s' hl => ?_) fun _ _ y => y.elim
  obtain ⟨L', m', lg', h', tk', rfl, F', N', k⟩ := hl
  have kept : Kept s.heap h' (adrs news) := fun b o e hb => F'.keep b o (nin b o e hb)
  have fresh : Fresh s.heap news lg' := fun p hp => by
    by_cases hb : p.1 ∈ adrs news
    · exact .inl hb
    · refine .inr ?_
      cases q : s.heap.get? p.1 with
      | none => rfl
      | some o => have := (N' p hp).2.2; rw [nin _ _ q hb] at this; cases this
  exact lv _ _ ⟨L', m', lg', F', N', fun a b => k a b kept fresh⟩
theorem cx_in {w : World} {A₀ A : Around} {base g h : Heap} {outer : List Env} {L' f : Addr} {m : Str → Option Value} {loose : List Str} {mean : ExcName → Option Value} {mg mb : Str → Option Value} {qual : Str} {scope : Scope} {cdv : Value}
    (B : Below A₀ base outer g) (hA : A.frames = some outer) (hh : A.handled = none) (F : Fr g L' h m) (X : (Mine.hda.heap_1 w.params).In g) (T : Top topProg loose mean mg mb g) (hk : scope.kind = .function) :
    Cx w (A.deeper (envOf qual scope L' f cdv)) g L' := by
  refine ⟨⟨A₀, base, outer, envOf qual scope L' f cdv, B, ?_, rfl, hk⟩, X, ⟨loose, mean, mg, mb, T⟩, hh⟩
  show A.frames.map _ = _
  rw [hA]; rfl
theorem News.sub' {h₀ h : Heap} {L : Addr} {l l' : List (Addr × Obj)} (N : News h₀ L h l) (hs : ∀ p ∈ l', p ∈ l) : News h₀ L h l' := fun p hp => N p (hs p hp)
theorem News.app {h₀ h : Heap} {L : Addr} {l l' : List (Addr × Obj)} (N : News h₀ L h l) (N' : News h₀ L h l') : News h₀ L h (l ++ l') := fun p hp => (List.mem_append.mp hp).elim (N p) (N' p)
theorem News.left {h₀ h : Heap} {L : Addr} {l l' : List (Addr × Obj)} (N : News h₀ L h (l ++ l')) : News h₀ L h l := fun p hp => N p (List.mem_append.mpr (.inl hp))
theorem News.right {h₀ h : Heap} {L : Addr} {l l' : List (Addr × Obj)} (N : News h₀ L h (l ++ l')) : News h₀ L h l' := fun p hp => N p (List.mem_append.mpr (.inr hp))
theorem News.kept {h₀ h h' : Heap} {L : Addr} {l : List (Addr × Obj)} {as : List Addr} (N : News h₀ L h l) (k : Kept h h' as) (hd : ∀ p ∈ l, p.1 ∉ as) : News h₀ L h' l := fun p hp => ⟨k _ _ (N p hp).1 (hd p hp), (N p hp).2⟩
theorem fresh_nodup {h₀ h : Heap} {L : Addr} {lg lg' more : List (Addr × Obj)} (N : News h₀ L h more) (nd : (adrs (lg ++ more)).Nodup) (nd' : (adrs lg').Nodup) (fr : Fresh h lg lg') : (adrs (lg' ++ more)).Nodup := by
  unfold adrs at *
  rw [List.map_append, List.nodup_append] at nd ⊢
  refine ⟨nd', nd.2.1, ?_⟩
  rintro a ha b hb rfl
  obtain ⟨p, hp, rfl⟩ := List.mem_map.mp ha
  obtain ⟨q, hq, e⟩ := List.mem_map.mp hb
  rcases fr p hp with h1 | h1
  · exact nd.2.2 _ h1 _ hb rfl
  · have := (N q hq).1; rw [e, h1] at this; cases this
theorem Fresh.sub {h : Heap} {lg l l' : List (Addr × Obj)} (f : Fresh h lg l) (hs : ∀ p ∈ l', p ∈ l) : Fresh h lg l' := fun p hp => f p (hs p hp)
theorem Lv.fin {h₀ : Heap} {L : Addr} {m : Str → Option Value} {g : Heap} {s : Shared} {lg raw : List (Addr × Obj)} {Q : Value → Shared → Prop} {v : Value} {h' : Heap} {tk' : Nat} {post : Value → List (Addr × Obj) → Prop}
    {L' : Addr} {m' : Str → Option Value}
    (hQ : ∀ v lg' h' tk', Fr h₀ L h' m → News h₀ L h' lg' → (adrs lg').Nodup → Kept s.heap h' (adrs lg) → Fresh s.heap lg lg' → post v lg' → Q v { s with heap := h', toks := tk' })
    {α : Type} (lf : α → List (Addr × Obj)) (r : α) (F' : Fr g L' h' m') (N' : News g L' h' raw) (sub : ∀ p ∈ lf r, p ∈ raw) (nd : (adrs (lf r)).Nodup) (po : post v (lf r)) :
    Lv h₀ L m g s lg Q v { s with heap := h', toks := tk' } := Lv.intro raw F' N' fun F N k f => hQ v (lf r) h' tk' F (News.sub' N sub) nd k (Fresh.sub f sub) po
theorem Lv.own1 {h₀ : Heap} {L : Addr} {m : Str → Option Value} {g : Heap} {s : Shared} {lg : List (Addr × Obj)} {Q : Value → Shared → Prop} {v : Value} {h' : Heap} {tk' : Nat} {post : Value → List (Addr × Obj) → Prop}
    {L' D : Addr} {o : Obj} {m' : Str → Option Value}
    (hQ : ∀ v lg' h' tk', Fr h₀ L h' m → News h₀ L h' lg' → (adrs lg').Nodup → Kept s.heap h' (adrs lg) → Fresh s.heap lg lg' → (∃ own, lg' = own ++ lg ∧ post v own) → Q v { s with heap := h', toks := tk' })
    (F' : Fr g L' h' m') (N' : News g L' h' ((D, o) :: lg)) (nd : (adrs lg).Nodup) (lt : AllLt D lg) (po : post v [(D, o)]) :
    Lv h₀ L m g s lg Q v { s with heap := h', toks := tk' } := by
  refine Lv.intro ((D, o) :: lg) F' N' fun F N k f => hQ v ((D, o) :: lg) h' tk' F N (List.nodup_cons.mpr ⟨fun hm => ?_, nd⟩) k f ⟨_, rfl, po⟩
  obtain ⟨p, hp, e⟩ := List.mem_map.mp hm
  have := ktn_ltOf lt p hp
  rw [e] at this
  exact absurd this (Nat.lt_irrefl _)
theorem nodup_comm {a b : List (Addr × Obj)} (h : (adrs (a ++ b)).Nodup) : (adrs (b ++ a)).Nodup := by
  unfold adrs at *
  rw [List.map_append] at *
  exact List.perm_append_comm.nodup_iff.mp h
theorem nodup_perm {a b : List (Addr × Obj)} (h : (adrs a).Nodup) (p : a.Perm b) : (adrs b).Nodup := (p.map _).nodup_iff.mp h
/-- the frame rule: what is not handed over stays -/
theorem Sp.use {w : World} {d : Nat} {f : Addr} {vs : List Value} {lg : List (Addr × Obj)} {post : Value → List (Addr × Obj) → Prop} (H : Sp w d f vs lg post)
    {A : Around} {h₀ : Heap} {L : Addr} {m : Str → Option Value} {s : Shared} {Q E : Value → Shared → Prop} {all : List (Addr × Obj)} (more : List (Addr × Obj))
    (C : Cx w A h₀ L) (hd : A.depth + d < recursionLimit) (hu : A.units + 8 * d < cLine) (F : Fr h₀ L s.heap m) (N : News h₀ L s.heap all)
    (hs : ∀ p ∈ lg ++ more, p ∈ all) (nd : (adrs (lg ++ more)).Nodup)
    (k : ∀ v lg' h' tk', Fr h₀ L h' m → News h₀ L h' (lg' ++ more) → (adrs (lg' ++ more)).Nodup → Kept s.heap h' (adrs lg) → Fresh s.heap lg lg' → post v lg' → Q v { s with heap := h', toks := tk' }) :
    wpAny (model PySem.Challenge.rw_xw0206_01.row.prog w) A (call (.ref f) vs) Q E s := by
  have N1 := News.sub' N hs
  have nd1 : (adrs lg).Nodup := by unfold adrs at nd ⊢; rw [List.map_append, List.nodup_append] at nd; exact nd.1
  obtain ⟨frs, eA⟩ := mkA_of C
  rw [eA] at C ⊢
  refine H _ frs _ _ h₀ L m s Q E C hd hu F (News.left N1) nd1 fun v lg' h' tk' F' N' nd' kp fr po => ?_
  refine k v lg' h' tk' F' (News.app N' (News.kept (News.right N1) kp ?_)) (fresh_nodup (News.right N1) nd nd' fr) kp fr po
  intro p hp hq
  unfold adrs at nd
  rw [List.map_append, List.nodup_append] at nd
  exact nd.2.2 _ hq _ (List.mem_map_of_mem hp) rfl
/-- a call that leaves what it reads as it was: nothing else is asked -/
theorem Sp.read {w : World} {d : Nat} {f : Addr} {vs : List Value} {lg : List (Addr × Obj)} {post : Value → List (Addr × Obj) → Prop} (H : Sp w d f vs lg fun v lg' => ∃ own, lg' = own ++ lg ∧ post v own)
    {A : Around} {h₀ : Heap} {L : Addr} {m : Str → Option Value} {s : Shared} {Q E : Value → Shared → Prop} {all : List (Addr × Obj)}
    (C : Cx w A h₀ L) (hd : A.depth + d < recursionLimit) (hu : A.units + 8 * d < cLine) (F : Fr h₀ L s.heap m) (N : News h₀ L s.heap all)
    (hs : ∀ p ∈ lg, p ∈ all) (nd : (adrs lg).Nodup)
    (k : ∀ v own h' tk', Fr h₀ L h' m → News h₀ L h' (own ++ all) → (∀ b o, s.heap.get? b = some o → h'.get? b = some o) → (∀ p ∈ own, ∀ q ∈ all, p.1 ≠ q.1) → (adrs own).Nodup → post v own → Q v { s with heap := h', toks := tk' }) :
    wpAny (model PySem.Challenge.rw_xw0206_01.row.prog w) A (call (.ref f) vs) Q E s := by
  have N1 := News.sub' N hs
  obtain ⟨frs, eA⟩ := mkA_of C
  rw [eA] at C ⊢
  refine H _ frs _ _ h₀ L m s Q E C hd hu F N1 nd fun v lg' h' tk' F' N' nd' kp fr po => ?_
  obtain ⟨own, rfl, po⟩ := po
  have all' : ∀ b o, s.heap.get? b = some o → h'.get? b = some o := fun b o e => by
    by_cases hb : b ∈ adrs lg
    · obtain ⟨p, hp, rfl⟩ := List.mem_map.mp hb
      have h1 := (N1 p hp).1
      rw [e] at h1
      rw [Option.some.inj h1]
      exact (N' p (List.mem_append.mpr (.inr hp))).1
    · exact kp b o e hb
  unfold adrs at nd'
  rw [List.map_append, List.nodup_append] at nd'
  refine k v own h' tk' F' (News.app (News.left N') fun p hp => ⟨all' _ _ (N p hp).1, (N p hp).2⟩) all' ?_ nd'.1 po
  intro p hp q hq e
  rcases fr p (List.mem_append.mpr (.inl hp)) with h1 | h1
  · exact nd'.2.2 _ (List.mem_map_of_mem hp) _ h1 rfl
  · have := (N q hq).1; rw [← e, h1] at this; cases this
theorem deep_d {dp un D d : Nat} {frs : List Env} {gd : Option (List Code)} {env : Env} (h : dp + D < recursionLimit) (h2 : Nat.ble (d + 1) D = true) : ((mkA dp frs gd un).deeper env).depth + d < recursionLimit := by
  have h3 := Nat.le_of_ble_eq_true h2
  show dp + 1 + d < recursionLimit
  omega
theorem deep_u {dp un D d : Nat} {frs : List Env} {gd : Option (List Code)} {env : Env} (h : un + 8 * D < cLine) (h2 : Nat.ble (d + 1) D = true) : ((mkA dp frs gd un).deeper env).units + 8 * d < cLine := by
  have h3 := Nat.le_of_ble_eq_true h2
  show un + 3 + 8 * d < cLine
  omega
local macro_rules | `(tactic| walk_at "m_room") => `(tactic| first | (apply deep_d; (· assumption); (· rfl)) | (apply deep_u; (· assumption); (· rfl)) | (dsimp only [Around.deeper]; omega))
noncomputable def ownRefs : List Nat := [108, 122, 129, 136, 143, 171, 178, 290, 297, 304, 311, 316, 321, 28, 33]
theorem own_call {M : Model} {A : Around} {n : Nat} {vs : List Value} {kw : List (Str × Value)} {Q E : Value → Shared → Prop} {s : Shared} (_ : ownRefs.contains n = true) (h : wpAny M A (call (Value.ref n) vs kw) Q E s) : wpAny M A (call (Value.ref n) vs kw) Q E s := h
local macro_rules | `(tactic| walk_at "m_own") => `(tactic| first | ((with_reducible refine own_call ?hq ?_); (case hq => decide)) | (with_reducible show wpAny _ _ (exec (Stmt.While _ _ _ _) _) _ _ _))
local macro_rules | `(tactic| walk_at "m_fill") => `(tactic| (have hk9 : PySem.Challenge.rw_xw0206_01 = PySem.Challenge.rw_xw0206_01 ∧ Mine.hda.heap_1 = Mine.hda.heap_1 := (by k_fill; exact ⟨rfl, rfl⟩); clear hk9))
local macro_rules | `(tactic| walk_at "m_enter") => `(tactic| (
  k_dflt (refine' enter ?k1 ?k2 ?k3 ?k6 ?k7 ?k8 ?k9 ?kB ?c5 ?_ ?c2 ?c3 ?c4; (case k1 => assumption); (case k2 => k_asm); (case k3 => k_asm); (case k6 => k_is); (case k7 => k_is); (case k8 => omega); (case k9 => exact BindsTo.of_eq rfl); (case c5 => decide); (case kB => exact locs rfl); (case c2 => exact rfl); (case c3 => exact rfl); (case c4 => exact rfl); k_whole; (rename Fr _ _ _ _ => Fo); (rename News _ _ _ _ => No); (rename Cx _ _ _ _ => Co); clear Fo No Co; intro A₀' base' g' L' h' loose' mean' mg' mb' B' F' N' X' T' kp' lt'; (try dsimp only); (try k_fold))))
local macro_rules | `(tactic| walk_at "m_leave") => `(tactic| (refine Lv.intro _ (by k_asm) (by k_asm) ?_; intro F' N' kp' fr'))
local macro_rules | `(tactic| walk_at "m_open") => `(tactic| (walk_at "m_fill"; walk_at "m_enter"))
local macro_rules | `(tactic| walk_at "call builtin:len") => `(tactic| ((with_reducible show wpAny _ _ (call (Value.builtin "len") [Value.ref _]) _ _ _); (refine PyProof.Rows.len_list (News.isList (by k_asm) (by k_mem)) (by first | omega | (simp only [Array.size_push, List.size_toArray, List.length_append, List.length_map, List.length_cons, List.length_nil]; omega)) ?_)))
local macro_rules | `(tactic| k_room) => `(tactic| ((try simp only [depth_under_make, depth_under_kw, depth_in1, depth_deeper, depth_caller]); (try dsimp only); omega))
local macro_rules | `(tactic| walk_at "m_steps") => `(tactic| repeat' (first | (k_unfold; (try dsimp only)) | (refine idp ?_; k_unfold; (try dsimp only)) | walk1 | (dsimp only; k_unfold; (try dsimp only)) | (dsimp only; walk1) | fail "no step"))
local macro_rules | `(tactic| walk_at "m_sub") => `(tactic| ((try simp only [List.nil_append, List.cons_append]); repeat' (first | exact List.forall_mem_nil _ | (refine' List.forall_mem_cons.mpr (And.intro ?_ ?_); focus k_mem) | (refine' List.forall_mem_append.mpr (And.intro ?_ ?_)))))
section
theorem fm (a b : Int) (hb : 0 < b) : 0 ≤ a.fmod b ∧ a.fmod b < b := by
  rw [Int.fmod_eq_emod_of_nonneg _ (Int.le_of_lt hb)]
  exact ⟨Int.emod_nonneg _ (Int.ne_of_gt hb), Int.emod_lt_of_pos _ hb⟩
theorem mul_take {x a b : Int} (hb : 0 < b) (h : b ≤ 2147483647) (k : Int) : IntMulOk ([x, a.fmod b].getD (Int.toNat 1) 0) k := by
  have := fm a b hb
  have e : [x, a.fmod b].getD (Int.toNat 1) 0 = a.fmod b := rfl
  rw [e]
  exact .of_left (intBits_le_64 (by omega) (by omega))
section
local macro_rules | `(tactic| mul_fits) => `(tactic| exact mul_take (by decide) (by decide) _)
set_option maxHeartbeats 8000000 in
theorem take_sp (w : World) (aS : Addr) (x y : Int) (t u : Tok) (n : Nat) (top : Int) (tt : Tok) (hx : 0 ≤ x) (hy : 0 ≤ y) (hy2 : y < 2147483647) (h0 : 0 < top) (hup : top < 1000) :
    Sp w 5 290 [.ref aS, .int top tt] [(aS, listOf #[.int x t, .int y u] n)] (fun v lg' => ∃ r tr x' t' y' u' n', v = .int r tr ∧ 0 ≤ r ∧ r < top ∧ lg' = [(aS, listOf #[.int x' t', .int y' u'] n')] ∧ 0 ≤ x' ∧ 0 ≤ y' ∧ y' < 2147483647) := by
  intro dp frs gd un h₀ L m s Q E C hd hu F N nd hQ
  walk_at "m_open"
  walk_at "m_steps"
  · walk_at "m_leave"
    rename_i F9 N9 k9 f9
    refine hQ _ _ _ _ F9 N9 (by simp [adrs]) k9 f9 ⟨_, _, _, _, _, _, _, rfl, (fm _ _ h0).1, (fm _ _ h0).2, rfl, ?_, hy, hy2⟩
    exact Int.fdiv_nonneg hx (Int.le_of_lt h0)
  · walk_at "m_leave"
    rename_i F9 N9 k9 f9
    exact hQ _ _ _ _ F9 N9 (by simp [adrs]) k9 f9 ⟨_, _, _, _, _, _, _, rfl, (fm _ _ h0).1, (fm _ _ h0).2, rfl, hx, (fm _ _ (by decide)).1, (fm _ _ (by decide)).2⟩
end
end
section
structure RowA where
  i : Addr
  d : Addr
  kl : Addr
  al : Addr
  nl : Addr
  t0 : Tok
  t1 : Tok
  t2 : Tok
  t3 : Tok
  t4 : Tok
  t5 : Tok
  t6 : Tok
  t7 : Tok
  t8 : Tok
  kd : Value
  nm : Value
  ur : Value
  lo : Value
  va : Value
  pa : Value
  ks : Array Value
  as : Array Value
  ns : Array Value
  nk : Nat
  na : Nat
  nn : Nat
noncomputable abbrev rowEs (P : Params) (r : RowA) : List DictEntry := [⟨PyData.keyHash P (Str.ofString "kind"), .str (Str.ofString "kind") r.t0, r.kd⟩, ⟨PyData.keyHash P (Str.ofString "name"), .str (Str.ofString "name") r.t1, r.nm⟩,
  ⟨PyData.keyHash P (Str.ofString "uri"), .str (Str.ofString "uri") r.t2, r.ur⟩, ⟨PyData.keyHash P (Str.ofString "local"), .str (Str.ofString "local") r.t3, r.lo⟩, ⟨PyData.keyHash P (Str.ofString "value"), .str (Str.ofString "value") r.t4, r.va⟩,
  ⟨PyData.keyHash P (Str.ofString "parent"), .str (Str.ofString "parent") r.t5, r.pa⟩, ⟨PyData.keyHash P (Str.ofString "children"), .str (Str.ofString "children") r.t6, .ref r.kl⟩, ⟨PyData.keyHash P (Str.ofString "attributes"), .str (Str.ofString "attributes") r.t7, .ref r.al⟩,
  ⟨PyData.keyHash P (Str.ofString "namespaces"), .str (Str.ofString "namespaces") r.t8, .ref r.nl⟩]
noncomputable abbrev rowLg (P : Params) (r : RowA) : List (Addr × Obj) := [(r.i, instObj 83 r.d), (r.d, dictOf (rowEs P r) 9), (r.kl, listOf r.ks r.nk), (r.al, listOf r.as r.na), (r.nl, listOf r.ns r.nn)]
noncomputable abbrev treeEs (P : Params) (k : Tok) (R : Addr) : List DictEntry := [⟨PyData.keyHash P (Str.ofString "rows"), .str (Str.ofString "rows") k, .ref R⟩]
structure TreeA where
  T : Addr
  d : Addr
  R : Addr
  k : Tok
  n : Nat
  rows : List RowA
noncomputable abbrev TreeA.items (t : TreeA) : Array Value := (t.rows.map fun r => Value.ref r.i).toArray
noncomputable abbrev treeHd (P : Params) (t : TreeA) : List (Addr × Obj) := [(t.T, instObj 272 t.d), (t.d, dictOf (treeEs P t.k t.R) 1), (t.R, listOf t.items t.n)]
noncomputable abbrev treeLg (P : Params) (t : TreeA) : List (Addr × Obj) := treeHd P t ++ t.rows.flatMap (rowLg P)
theorem new_row_fin {P : Params} {h₀ : Heap} {L : Addr} {m : Str → Option Value} {g : Heap} {s : Shared} {Q : Value → Shared → Prop} {h' : Heap} {tk' : Nat} {L' : Addr} {m' : Str → Option Value}
    {t : TreeA} {kd nm ur lo va pa : Value} {post : Value → List (Addr × Obj) → Prop} {kl al nl i d : Addr} {t0 t1 t2 t3 t4 t5 t6 t7 t8 tk : Tok} {k : Int}
    (hQ : ∀ v lg' h' tk', Fr h₀ L h' m → News h₀ L h' lg' → (adrs lg').Nodup → Kept s.heap h' (adrs (treeHd P t)) → Fresh s.heap (treeHd P t) lg' → post v lg' → Q v { s with heap := h', toks := tk' })
    (F' : Fr g L' h' m')
    (N' : News g L' h' [(nl, listOf #[] 0), (al, listOf #[] 0), (kl, listOf #[] 0), (i, instObj 83 d), (d, dictOf (rowEs P ⟨i, d, kl, al, nl, t0, t1, t2, t3, t4, t5, t6, t7, t8, kd, nm, ur, lo, va, pa, #[], #[], #[], 0, 0, 0⟩) 9),
      (t.T, instObj 272 t.d), (t.d, dictOf (treeEs P t.k t.R) 1), (t.R, listOf (t.rows.map (fun (r : RowA) => Value.ref r.i) ++ [Value.ref i]).toArray (t.n + 1))])
    (ne : ([t.T, t.d, t.R, i, d, kl, al, nl] : List Nat).Nodup) (hk : k = t.rows.length)
    (po : ∀ r : RowA, r.kd = kd ∧ r.nm = nm ∧ r.ur = ur ∧ r.lo = lo ∧ r.va = va ∧ r.pa = pa ∧ r.ks = #[] ∧ r.as = #[] ∧ r.ns = #[] → post (.int t.rows.length tk) (treeHd P { t with rows := t.rows ++ [r], n := t.n + 1 } ++ rowLg P r)) :
    Lv h₀ L m g s (treeHd P t) Q (.int k tk) { s with heap := h', toks := tk' } := by
  subst hk
  refine Lv.fin hQ (fun r : RowA => treeHd P { t with rows := t.rows ++ [r], n := t.n + 1 } ++ rowLg P r) ⟨i, d, kl, al, nl, t0, t1, t2, t3, t4, t5, t6, t7, t8, kd, nm, ur, lo, va, pa, #[], #[], #[], 0, 0, 0⟩ F' N' ?_ ne (po _ ⟨rfl, rfl, rfl, rfl, rfl, rfl, rfl, rfl, rfl⟩)
  simp only [treeHd, rowLg, TreeA.items, List.map_append, List.map_cons, List.map_nil]
  walk_at "m_sub"
noncomputable abbrev TreeA.push (t : TreeA) (q : RowA) : TreeA := { t with rows := t.rows ++ [q], n := t.n + 1 }
set_option maxHeartbeats 8000000 in
theorem new_row_sp (w : World) (t : TreeA) (kd nm ur lo va pa : Value) (hs : t.rows.length < 1000) :
    Sp w 5 108 [.ref t.T, kd, nm, ur, lo, va, pa] (treeHd w.params t) (fun v lg' => ∃ r tk, v = .int t.rows.length tk ∧ lg' = treeHd w.params (t.push r) ++ rowLg w.params r ∧
      r.kd = kd ∧ r.nm = nm ∧ r.ur = ur ∧ r.lo = lo ∧ r.va = va ∧ r.pa = pa ∧ r.ks = #[] ∧ r.as = #[] ∧ r.ns = #[]) := by
  intro dp frs gd un h₀ L m s Q E C hd hu F N nd hQ
  have hsz : t.items.size < 1000 := by simpa [TreeA.items] using hs
  have e1 : t.T ≠ t.d ∧ t.T ≠ t.R ∧ t.d ≠ t.R := by simpa [adrs, and_assoc] using nd
  obtain ⟨e1, e2, e3⟩ := e1
  replace e1 := neN e1
  replace e2 := neN e2
  replace e3 := neN e3
  unfold treeHd at N
  walk_at "m_open"
  walk_at "m_steps"
  refine new_row_fin hQ (by k_asm) (by k_asm) ?_ ?_ ?_
  · simp only [List.nodup_cons, List.mem_cons, List.not_mem_nil, or_false, not_or, List.nodup_nil, and_true, not_false_eq_true]
    omega
  · simp only [List.size_toArray, List.length_append, List.length_map, List.length_cons, List.length_nil]; omega
  · intro r hr
    exact ⟨r, _, rfl, rfl, hr⟩
end
local macro_rules | `(tactic| walk_at "subscriptTail") => `(tactic| ((with_reducible show wpAny _ _ (subscriptTail _ _ (Value.ref _) (Value.int _ _)) _ _ _); (refine PyProof.Rows.item_list (News.isList (by k_asm) (by k_mem)) (by omega) (by omega) (by assumption) ?_)))
local macro_rules | `(tactic| walk_at "m_cx") => `(tactic| exact cx_in (by assumption) rfl rfl (by k_asm) (by assumption) (by assumption) rfl)
local macro_rules | `(tactic| walk_at "m_read") => `(tactic| (intro v' own' h' tk' F' N' all' ne' nd' po'; (obtain ⟨hv', ho'⟩ := po'); (subst hv'; subst ho'); (try simp only [List.nil_append] at N')))
local macro_rules | `(tactic| k_handed) => `(tactic| assumption)
section
theorem TreeA.nd3 {P : Params} {t : TreeA} (nd : (adrs (treeHd P t)).Nodup) : @Ne Nat t.T t.d ∧ @Ne Nat t.T t.R ∧ @Ne Nat t.d t.R := by
  simpa [adrs, and_assoc] using nd
theorem TreeA.at {t : TreeA} {j : Nat} {r : RowA} (hj : t.rows[j]? = some r) : (j : Int) < (t.items.size : Int) ∧ t.items[((j : Nat) : Int).toNat]? = some (.ref r.i) := by
  have h1 := (List.getElem?_eq_some_iff.mp hj).1
  refine ⟨by simpa [TreeA.items] using h1, ?_⟩
  rw [Int.toNat_natCast]
  simp [TreeA.items, hj]
set_option maxHeartbeats 8000000 in
theorem row_sp (w : World) (t : TreeA) (j : Nat) (tk : Tok) (r : RowA) (hj : t.rows[j]? = some r) (hs : t.rows.length < 1000) :
    Sp w 3 115 [.ref t.T, .int j tk] (treeHd w.params t) (fun v lg' => ∃ own, lg' = own ++ treeHd w.params t ∧ v = .ref r.i ∧ own = []) := by
  intro dp frs gd un h₀ L m s Q E C hd hu F N nd hQ
  have hsz : t.items.size < 1000 := by simpa [TreeA.items] using hs
  obtain ⟨e1, e2, e3⟩ := TreeA.nd3 nd
  obtain ⟨hlt, hx⟩ := TreeA.at hj
  unfold treeHd at N
  walk_at "m_open"
  walk_at "m_steps"
  exact Lv.fin hQ (fun _ : Unit => treeHd w.params t) () (by k_asm) (by k_asm) (fun _ h => h) nd ⟨[], rfl, rfl, rfl⟩
theorem row_mem {P : Params} {t : TreeA} {j : Nat} {r : RowA} (hj : t.rows[j]? = some r) : ∀ p ∈ rowLg P r, p ∈ treeLg P t := fun p hp =>
  List.mem_append.mpr (.inr (List.mem_flatMap.mpr ⟨r, List.mem_of_getElem? hj, hp⟩))
section
local macro_rules | `(tactic| walk_at "call ref") => `(tactic| ((with_reducible show wpAny _ _ (call (Value.ref 115) _) _ _ _); k_dflt (refine Sp.read (row_sp _ _ _ _ _ (by assumption) (by assumption)) (by walk_at "m_cx") (by walk_at "m_room") (by walk_at "m_room") (by k_asm) (by k_asm) (by walk_at "m_sub") (by assumption) ?_); walk_at "m_read"))
set_option maxHeartbeats 8000000 in
theorem parent_sp (w : World) (t : TreeA) (j : Nat) (tk : Tok) (r : RowA) (hj : t.rows[j]? = some r) (hs : t.rows.length < 1000) (hp : handedIn r.pa = true) :
    Sp w 5 227 [.ref t.T, .int j tk] ((r.i, instObj 83 r.d) :: (r.d, dictOf (rowEs w.params r) 9) :: treeHd w.params t) (fun v lg' => ∃ own, lg' = own ++ (r.i, instObj 83 r.d) :: (r.d, dictOf (rowEs w.params r) 9) :: treeHd w.params t ∧ v = r.pa ∧ own = []) := by
  intro dp frs gd un h₀ L m s Q E C hd hu F N nd hQ
  have nd1 : (adrs (treeHd w.params t)).Nodup := (List.nodup_cons.mp (List.nodup_cons.mp nd).2).2
  unfold treeHd at N
  walk_at "m_open"
  walk_at "m_steps"
  exact Lv.fin hQ (fun _ : Unit => (r.i, instObj 83 r.d) :: (r.d, dictOf (rowEs w.params r) 9) :: treeHd w.params t) () (by k_asm) (by k_asm) (fun _ h => h) nd ⟨[], rfl, rfl, rfl⟩
set_option maxHeartbeats 8000000 in
theorem children_sp (w : World) (t : TreeA) (j : Nat) (tk : Tok) (r : RowA) (hj : t.rows[j]? = some r) (hs : t.rows.length < 1000) (hz : r.ks.size < 1000) :
    Sp w 5 234 [.ref t.T, .int j tk] ((r.i, instObj 83 r.d) :: (r.d, dictOf (rowEs w.params r) 9) :: (r.kl, listOf r.ks r.nk) :: treeHd w.params t) (fun v lg' => ∃ own, lg' = own ++ (r.i, instObj 83 r.d) :: (r.d, dictOf (rowEs w.params r) 9) :: (r.kl, listOf r.ks r.nk) :: treeHd w.params t ∧ ∃ l c, v = .ref l ∧ own = [(l, listOf r.ks c)]) := by
  intro dp frs gd un h₀ L m s Q E C hd hu F N nd hQ
  have nd1 : (adrs (treeHd w.params t)).Nodup := (List.nodup_cons.mp (List.nodup_cons.mp (List.nodup_cons.mp nd).2).2).2
  unfold treeHd at N
  walk_at "m_open"
  walk_at "m_steps"
  show Lv _ _ _ _ _ _ _ _ _
  exact Lv.own1 hQ (by k_asm) (by k_asm) nd (by simp only [AllLt, and_true]; assumption) ⟨_, _, rfl, rfl⟩
set_option maxHeartbeats 8000000 in
theorem attributes_sp (w : World) (t : TreeA) (j : Nat) (tk : Tok) (r : RowA) (hj : t.rows[j]? = some r) (hs : t.rows.length < 1000) (hz : r.as.size < 1000) :
    Sp w 5 241 [.ref t.T, .int j tk] ((r.i, instObj 83 r.d) :: (r.d, dictOf (rowEs w.params r) 9) :: (r.al, listOf r.as r.na) :: treeHd w.params t) (fun v lg' => ∃ own, lg' = own ++ (r.i, instObj 83 r.d) :: (r.d, dictOf (rowEs w.params r) 9) :: (r.al, listOf r.as r.na) :: treeHd w.params t ∧ ∃ l c, v = .ref l ∧ own = [(l, listOf r.as c)]) := by
  intro dp frs gd un h₀ L m s Q E C hd hu F N nd hQ
  have nd1 : (adrs (treeHd w.params t)).Nodup := (List.nodup_cons.mp (List.nodup_cons.mp (List.nodup_cons.mp nd).2).2).2
  unfold treeHd at N
  walk_at "m_open"
  walk_at "m_steps"
  show Lv _ _ _ _ _ _ _ _ _
  exact Lv.own1 hQ (by k_asm) (by k_asm) nd (by simp only [AllLt, and_true]; assumption) ⟨_, _, rfl, rfl⟩
set_option maxHeartbeats 8000000 in
theorem namespaces_sp (w : World) (t : TreeA) (j : Nat) (tk : Tok) (r : RowA) (hj : t.rows[j]? = some r) (hs : t.rows.length < 1000) (hz : r.ns.size < 1000) :
    Sp w 5 248 [.ref t.T, .int j tk] ((r.i, instObj 83 r.d) :: (r.d, dictOf (rowEs w.params r) 9) :: (r.nl, listOf r.ns r.nn) :: treeHd w.params t) (fun v lg' => ∃ own, lg' = own ++ (r.i, instObj 83 r.d) :: (r.d, dictOf (rowEs w.params r) 9) :: (r.nl, listOf r.ns r.nn) :: treeHd w.params t ∧ ∃ l c, v = .ref l ∧ own = [(l, listOf r.ns c)]) := by
  intro dp frs gd un h₀ L m s Q E C hd hu F N nd hQ
  have nd1 : (adrs (treeHd w.params t)).Nodup := (List.nodup_cons.mp (List.nodup_cons.mp (List.nodup_cons.mp nd).2).2).2
  unfold treeHd at N
  walk_at "m_open"
  walk_at "m_steps"
  show Lv _ _ _ _ _ _ _ _ _
  exact Lv.own1 hQ (by k_asm) (by k_asm) nd (by simp only [AllLt, and_true]; assumption) ⟨_, _, rfl, rfl⟩
end
end
local macro_rules | `(tactic| walk_at "m_steps") => `(tactic| repeat' ((fail_if_success (walk_at "m_own")); first | (k_unfold; (try dsimp only)) | (refine idp ?_; k_unfold; (try dsimp only)) | walk1 | (dsimp only; k_unfold; (try dsimp only)) | (dsimp only; walk1) | fail "no step"))
local macro_rules | `(tactic| walk_at "call ref") => `(tactic| ((with_reducible show wpAny _ _ (call (Value.ref 115) _) _ _ _); k_dflt (refine Sp.read (row_sp _ _ _ _ _ (by assumption) (by omega)) (by walk_at "m_cx") (by walk_at "m_room") (by walk_at "m_room") (by k_asm) (by k_asm) (by walk_at "m_sub") (by assumption) ?_); walk_at "m_read"))
local macro_rules | `(tactic| k_ne) => `(tactic| ((try dsimp only); first | assumption | exact Ne.symm (by assumption) | (refine neN ?_; omega)))
section
theorem notin_parents {prog : Program} {w : World} {A : Around} {s : Shared} {Q E : Value → Shared → Prop} {v : Value} {k a b : Tok} (hk : v = .str (Str.ofString "root") k ∨ v = .str (Str.ofString "element") k)
    (ht : IsTup s.heap 66 [Value.str (Str.ofString "root") a, Value.str (Str.ofString "element") b].toArray) (h : Q (.bool false) s) : wpAny (model prog w) A (compareOp .NotIn v (.ref 66)) Q E s := by
  rcases hk with hk | hk <;> subst hk
  · exact notin_tuple_strs (ys := [Str.ofString "root", Str.ofString "element"]) ht (StrsAre.cons _ _ (StrsAre.cons _ _ StrsAre.nil)) (by
      have e : (!([Str.ofString "root", Str.ofString "element"].any (· == Str.ofString "root"))) = false := by decide
      rw [e]; exact h)
  · exact notin_tuple_strs (ys := [Str.ofString "root", Str.ofString "element"]) ht (StrsAre.cons _ _ (StrsAre.cons _ _ StrsAre.nil)) (by
      have e : (!([Str.ofString "root", Str.ofString "element"].any (· == Str.ofString "element"))) = false := by decide
      rw [e]; exact h)
theorem TreeA.push_at {t : TreeA} {j : Nat} {r : RowA} (q : RowA) (hj : t.rows[j]? = some r) : (t.push q).rows[j]? = some r := by
  show (t.rows ++ [q])[j]? = some r
  rw [List.getElem?_append_left (List.getElem?_eq_some_iff.mp hj).1]; exact hj
section
local macro_rules | `(tactic| walk_at "compareOp NotIn") => `(tactic| ((with_reducible show wpAny _ _ (compareOp CmpOp.NotIn (RowA.kd _) (Value.ref 66)) _ _ _); k_dflt (refine' notin_parents (by assumption) (tupK (Frag.In.keeps (by k_asm) (Fr.keep (by k_asm))) ?e9) ?_; (case e9 => k_is))))
set_option maxHeartbeats 8000000 in
theorem add_child_some (w : World) (t : TreeA) (p : Nat) (tk : Tok) (r : RowA) (kd nm ur lo va : Value) (k : Tok) (hj : t.rows[p]? = some r) (hs : t.rows.length < 900) (hz : r.ks.size < 1000) (hk : r.kd = .str (Str.ofString "root") k ∨ r.kd = .str (Str.ofString "element") k) :
    Sp w 10 129 [.ref t.T, .int p tk, kd, nm, ur, lo, va] ((r.i, instObj 83 r.d) :: (r.d, dictOf (rowEs w.params r) 9) :: (r.kl, listOf r.ks r.nk) :: treeHd w.params t) (fun v lg' => ∃ q k', v = .int t.rows.length k' ∧ lg' = (r.i, instObj 83 r.d) :: (r.d, dictOf (rowEs w.params r) 9) :: (r.kl, listOf (r.ks.push v) (r.nk + 1)) :: (treeHd w.params (t.push q) ++ rowLg w.params q) ∧
      q.kd = kd ∧ q.nm = nm ∧ q.ur = ur ∧ q.lo = lo ∧ q.va = va ∧ q.pa = .int p tk ∧ q.ks = #[] ∧ q.as = #[] ∧ q.ns = #[]) := by
  intro dp frs gd un h₀ L m s Q E C hd hu F N nd hQ
  have nd1 : (adrs (treeHd w.params t)).Nodup := (List.nodup_cons.mp (List.nodup_cons.mp (List.nodup_cons.mp nd).2).2).2
  have hpl := (List.getElem?_eq_some_iff.mp hj).1
  have hh : handedIn r.kd = true := by rcases hk with h | h <;> rw [h] <;> rfl
  unfold treeHd at N
  walk_at "m_open"
  walk_at "m_steps"
  refine Sp.use (new_row_sp _ _ _ _ _ _ _ _ (by omega)) [(r.i, instObj 83 r.d), (r.d, dictOf (rowEs w.params r) 9), (r.kl, listOf r.ks r.nk)] (by walk_at "m_cx") (by walk_at "m_room") (by walk_at "m_room") (by k_asm) (by k_asm) (by walk_at "m_sub")
    (by simp only [adrs, List.map_cons, List.map_nil, List.cons_append, List.nil_append, List.nodup_cons, List.mem_cons, List.not_mem_nil, or_false, not_or, List.nodup_nil, and_true, not_false_eq_true] at nd ⊢; grind) ?_
  rintro _ _ h1 tk1 F1 N1 nd2 kp1 fr1 ⟨q, k1, rfl, rfl, hq⟩
  have hx := (TreeA.at (TreeA.push_at q hj)).2
  have hx' := (TreeA.at (TreeA.push_at q hj)).1
  simp only [treeHd, rowLg, List.cons_append, List.nil_append] at N1
  have nd3 := nodup_comm nd2
  simp only [adrs, treeHd, rowLg, List.map_cons, List.map_nil, List.cons_append, List.nil_append, List.nodup_cons, List.mem_cons, List.not_mem_nil, or_false, not_or, List.nodup_nil, and_true, not_false_eq_true] at nd2
  have ne1 : r.kl ≠ t.T ∧ r.kl ≠ t.d ∧ r.kl ≠ t.R ∧ r.kl ≠ q.i ∧ r.kl ≠ q.d ∧ r.kl ≠ q.kl ∧ r.kl ≠ q.al ∧ r.kl ≠ q.nl ∧ r.kl ≠ r.i ∧ r.kl ≠ r.d := by
    grind
  obtain ⟨n1, n2, n3, n4, n5, n6, n7, n8, n9, n10⟩ := ne1
  walk_at "m_steps"
  refine Lv.fin hQ (fun _ : Unit => (r.i, instObj 83 r.d) :: (r.d, dictOf (rowEs w.params r) 9) :: (r.kl, listOf (r.ks.push (.int t.rows.length k1)) (r.nk + 1)) :: (treeHd w.params (t.push q) ++ rowLg w.params q)) () (by k_asm) (by k_asm) ?_ nd3 ⟨q, k1, rfl, rfl, hq⟩
  simp only [treeHd, rowLg]
  walk_at "m_sub"
end
end
local macro_rules | `(tactic| walk_at "m_perm3") => `(tactic| (letI : DecidableEq (Addr × Obj) := fun _ _ => Classical.propDecidable _; refine List.perm_iff_count.mpr fun a9 => ?_; simp only [List.count_append, List.count_cons, List.count_nil]; omega))
local macro_rules | `(tactic| walk_at "m_perm") => `(tactic| first | walk_at "m_perm2" | walk_at "m_perm3")
section
/-- lists of the ledger, one a rearrangement of the other -/
inductive Kd where
  | root | elem | text | attr | ns
  deriving DecidableEq
noncomputable def Kd.str : Kd → String
  | .root => "root" | .elem => "element" | .text => "text" | .attr => "attribute" | .ns => "namespace"
noncomputable def Kd.sort : Kd → Nat
  | .ns => 0 | .attr => 1 | _ => 2
structure Nd where
  kd : Kd
  par : Option Nat
noncomputable def under (nds : List Nd) (i c : Nat) : List Nat := nds.zipIdx.filterMap fun p => if p.1.par = some i ∧ p.1.kd.sort = c then some p.2 else none
theorem under_add (nds : List Nd) (n : Nd) (i c : Nat) : under (nds ++ [n]) i c = under nds i c ++ if n.par = some i ∧ n.kd.sort = c then [nds.length] else [] := by
  unfold under
  rw [List.zipIdx_append, List.filterMap_append]
  congr 1
  simp only [List.zipIdx_cons, List.zipIdx_nil, List.filterMap_cons, List.filterMap_nil, Nat.zero_add]
  split <;> rename_i h <;> split at h <;> simp_all
theorem under_lt {nds : List Nd} {i c j : Nat} (h : j ∈ under nds i c) : ∃ n, nds[j]? = some n ∧ n.par = some i ∧ n.kd.sort = c := by
  unfold under at h
  obtain ⟨p, hp, e⟩ := List.mem_filterMap.mp h
  split at e
  · rename_i hc
    cases e
    exact ⟨p.1, by simpa [List.mem_zipIdx_iff_getElem?] using hp, hc⟩
  · cases e
noncomputable abbrev nints (l : List Nat) : List Int := List.map (fun (a : Nat) => (a : Int)) l
noncomputable def aName (i : Nat) : Str := Str.ofString "a" ++ Str.ofString (toString (i : Int))
noncomputable def pName (i : Nat) : Str := Str.ofString "p" ++ Str.ofString (toString (i : Int))
structure RowOk (nds : List Nd) (i : Nat) (n : Nd) (r : RowA) : Prop where
  kd : ∃ k, r.kd = .str (Str.ofString n.kd.str) k
  pa : match n.par with | none => r.pa = .none | some p => ∃ k, r.pa = .int p k
  ks : IntsAre r.ks.toList (nints (under nds i 2))
  as : IntsAre r.as.toList (nints (under nds i 1))
  ns : IntsAre r.ns.toList (nints (under nds i 0))
  at' : n.kd = .attr → (∃ k, r.ur = .str (Str.ofString "") k) ∧ ∃ k, r.lo = .str (aName i) k
  nm : n.kd = .ns → ∃ k, r.nm = .str (pName i) k
structure TreeOk (t : TreeA) (nds : List Nd) : Prop where
  len : t.rows.length = nds.length
  row : ∀ i r n, t.rows[i]? = some r → nds[i]? = some n → RowOk nds i n r
  par : ∀ (i : Nat) (n : Nd) (p : Nat), nds[i]? = some n → n.par = some p → p < i
theorem under_getElem {nds : List Nd} {n : Nd} {i c : Nat} (h : n.par ≠ some i) : under (nds ++ [n]) i c = under nds i c := by
  rw [under_add, if_neg (fun x => h x.1), List.append_nil]
theorem perm_erase {α : Type} : ∀ (l : List α) (i : Nat) (h : i < l.length), l.Perm (l[i] :: l.eraseIdx i)
  | x :: l, 0, _ => List.Perm.refl _
  | x :: l, i + 1, h => by
    have := perm_erase l i (Nat.lt_of_succ_lt_succ h)
    exact (List.Perm.cons x this).trans (List.Perm.swap _ _ _)
theorem rows_split {t : TreeA} {p : Nat} {r : RowA} (P : Params) (hj : t.rows[p]? = some r) : (t.rows.flatMap (rowLg P)).Perm (rowLg P r ++ (t.rows.eraseIdx p).flatMap (rowLg P)) := by
  obtain ⟨h, e⟩ := List.getElem?_eq_some_iff.mp hj
  subst e
  have := perm_erase t.rows p h
  exact this.flatMap_right (rowLg P)
/-- the tree behind one more node q, the parent's row turned to r' -/
noncomputable abbrev TreeA.add (t : TreeA) (q : RowA) (p : Nat) (r' : RowA) : TreeA := { t with rows := t.rows.set p r' ++ [q], n := t.n + 1 }
theorem add_items {t : TreeA} {q : RowA} {p : Nat} {r r' : RowA} (hj : t.rows[p]? = some r) (hi : r'.i = r.i) : (t.add q p r').items = (t.push q).items := by
  obtain ⟨h, e⟩ := List.getElem?_eq_some_iff.mp hj
  unfold TreeA.items TreeA.add TreeA.push
  congr 1
  simp only [List.map_append, List.map_cons, List.map_nil]
  congr 1
  apply List.ext_getElem?
  intro k
  simp only [List.getElem?_map, List.getElem?_set]
  split
  · rename_i h1
    subst h1
    rw [hj]; simp [hi]
  · rfl
theorem add_split {t : TreeA} {q : RowA} {p : Nat} {r r' : RowA} (P : Params) (hj : t.rows[p]? = some r) (hi : r'.i = r.i) :
    (treeLg P (t.add q p r')).Perm (rowLg P r' ++ (treeHd P (t.push q) ++ rowLg P q) ++ (t.rows.eraseIdx p).flatMap (rowLg P)) := by
  obtain ⟨h, e⟩ := List.getElem?_eq_some_iff.mp hj
  have e1 : treeHd P (t.add q p r') = treeHd P (t.push q) := by
    show [_, _, (_, listOf (t.add q p r').items _)] = _
    rw [add_items hj hi]
  have h2 : (t.rows.set p r')[p]? = some r' := by simp [h]
  have e2 := rows_split (t := { t with rows := t.rows.set p r' }) P h2
  dsimp only at e2
  rw [List.eraseIdx_set_eq] at e2
  have e3 : (t.add q p r').rows.flatMap (rowLg P) = (t.rows.set p r').flatMap (rowLg P) ++ rowLg P q := by simp [List.flatMap_append]
  unfold treeLg
  rw [e1, e3]
  refine (List.Perm.append_left _ (List.Perm.append_right _ e2)).trans ?_
  generalize treeHd P (t.push q) = A
  generalize (t.rows.eraseIdx p).flatMap (rowLg P) = B
  generalize rowLg P r' = C
  generalize rowLg P q = D
  walk_at "m_perm"
theorem tree_split {t : TreeA} {p : Nat} {r : RowA} (P : Params) (hj : t.rows[p]? = some r) :
    (treeLg P t).Perm (rowLg P r ++ treeHd P t ++ (t.rows.eraseIdx p).flatMap (rowLg P)) := by
  refine (List.Perm.append_left _ (rows_split P hj)).trans ?_
  generalize treeHd P t = A
  generalize (t.rows.eraseIdx p).flatMap (rowLg P) = B
  generalize rowLg P r = C
  walk_at "m_perm"
/-- one more node beneath p -/
theorem TreeOk.add {t : TreeA} {nds : List Nd} (T : TreeOk t nds) {p : Nat} {r q r' : RowA} {kd : Kd} {tk : Tok} (hj : t.rows[p]? = some r)
    (hq : RowOk (nds ++ [⟨kd, some p⟩]) nds.length ⟨kd, some p⟩ q)
    (h0 : r'.kd = r.kd ∧ r'.pa = r.pa ∧ r'.ur = r.ur ∧ r'.lo = r.lo ∧ r'.nm = r.nm)
    (hk : r'.ks.toList = r.ks.toList ++ if kd.sort = 2 then [.int nds.length tk] else [])
    (ha : r'.as.toList = r.as.toList ++ if kd.sort = 1 then [.int nds.length tk] else [])
    (hn : r'.ns.toList = r.ns.toList ++ if kd.sort = 0 then [.int nds.length tk] else []) : TreeOk (t.add q p r') (nds ++ [⟨kd, some p⟩]) := by
  obtain ⟨h, e⟩ := List.getElem?_eq_some_iff.mp hj
  have hlen := T.len
  have hpn : p < nds.length := by omega
  have grow : ∀ (vs : List Value) (c : Nat), IntsAre vs (nints (under nds p c)) → IntsAre (vs ++ if kd.sort = c then [.int nds.length tk] else []) (nints (under (nds ++ [⟨kd, some p⟩]) p c)) := by
    intro vs c hv
    rw [under_add]
    by_cases hc : kd.sort = c
    · simp only [hc, and_self, if_true, nints, List.map_append, List.map_cons, List.map_nil]
      exact hv.append (.cons _ _ .nil)
    · simp only [hc, and_false, if_false, List.append_nil]; exact hv
  refine ⟨by simp [hlen], ?_, ?_⟩
  · intro i x n hx hn'
    by_cases hi : i = nds.length
    · subst hi
      have e1 : (t.add q p r').rows[nds.length]? = some q := by simp [← hlen]
      have e2 : (nds ++ [⟨kd, some p⟩])[nds.length]? = some ⟨kd, some p⟩ := by simp
      rw [e1] at hx; rw [e2] at hn'
      cases hx; cases hn'
      exact hq
    · have hil : i < nds.length := by
        have := (List.getElem?_eq_some_iff.mp hn').1
        simp at this; omega
      have e2 : nds[i]? = some n := by rwa [List.getElem?_append_left hil] at hn'
      have e1 : (t.rows.set p r')[i]? = some x := by
        have hx' : (t.rows.set p r' ++ [q])[i]? = some x := hx
        rwa [List.getElem?_append_left (by simp; omega)] at hx'
      by_cases hip : i = p
      · subst hip
        have e3 : x = r' := by
          have : (t.rows.set i r')[i]? = some r' := by simp [h]
          rw [this] at e1; exact (Option.some.inj e1).symm
        subst e3
        have R := T.row i r n hj e2
        obtain ⟨k1, k2, k3, k4, k5⟩ := h0
        refine ⟨k1 ▸ R.kd, ?_, hk ▸ grow _ 2 R.ks, ha ▸ grow _ 1 R.as, hn ▸ grow _ 0 R.ns, k3 ▸ k4 ▸ R.at', k5 ▸ R.nm⟩
        rw [k2]; exact R.pa
      · have e3 : t.rows[i]? = some x := by rwa [List.getElem?_set_ne (fun q => hip q.symm)] at e1
        have R := T.row i x n e3 e2
        have un : ∀ c, under (nds ++ [⟨kd, some p⟩]) i c = under nds i c := fun c => under_getElem (fun q => hip (Option.some.inj q).symm)
        exact ⟨R.kd, R.pa, un 2 ▸ R.ks, un 1 ▸ R.as, un 0 ▸ R.ns, R.at', R.nm⟩
  · intro i n k hn' hk'
    by_cases hi : i = nds.length
    · subst hi
      simp at hn'
      subst hn'
      cases hk'
      exact hpn
    · have hil : i < nds.length := by
        have := (List.getElem?_eq_some_iff.mp hn').1
        simp at this; omega
      rw [List.getElem?_append_left hil] at hn'
      exact T.par i n k hn' hk'
/-- one more node beneath none -/
theorem TreeOk.push {t : TreeA} {nds : List Nd} (T : TreeOk t nds) {q : RowA} {kd : Kd} (hq : RowOk (nds ++ [⟨kd, none⟩]) nds.length ⟨kd, none⟩ q) : TreeOk (t.push q) (nds ++ [⟨kd, none⟩]) := by
  have hlen := T.len
  refine ⟨by simp [hlen], ?_, ?_⟩
  · intro i x n hx hn'
    by_cases hi : i = nds.length
    · subst hi
      have e1 : (t.push q).rows[nds.length]? = some q := by simp [← hlen]
      have e2 : (nds ++ [⟨kd, none⟩])[nds.length]? = some ⟨kd, none⟩ := by simp
      rw [e1] at hx; rw [e2] at hn'
      cases hx; cases hn'
      exact hq
    · have hil : i < nds.length := by
        have := (List.getElem?_eq_some_iff.mp hn').1
        simp at this; omega
      have e2 : nds[i]? = some n := by rwa [List.getElem?_append_left hil] at hn'
      have e1 : t.rows[i]? = some x := by
        have hx' : (t.rows ++ [q])[i]? = some x := hx
        rwa [List.getElem?_append_left (by omega)] at hx'
      have R := T.row i x n e1 e2
      have un : ∀ c, under (nds ++ [⟨kd, none⟩]) i c = under nds i c := fun c => under_getElem (by intro q; cases q)
      exact ⟨R.kd, R.pa, un 2 ▸ R.ks, un 1 ▸ R.as, un 0 ▸ R.ns, R.at', R.nm⟩
  · intro i n k hn' hk'
    by_cases hi : i = nds.length
    · subst hi
      simp at hn'
      subst hn'
      cases hk'
    · have hil : i < nds.length := by
        have := (List.getElem?_eq_some_iff.mp hn').1
        simp at this; omega
      rw [List.getElem?_append_left hil] at hn'
      exact T.par i n k hn' hk'
/-- nothing lies beneath a node that is not yet made -/
theorem under_none {t : TreeA} {nds : List Nd} (T : TreeOk t nds) (n : Nd) (hn : ∀ p, n.par = some p → p < nds.length) (c : Nat) : under (nds ++ [n]) nds.length c = [] := by
  rw [under_add, if_neg (fun x => absurd (hn _ x.1) (Nat.lt_irrefl _)), List.append_nil]
  refine List.eq_nil_iff_forall_not_mem.mpr fun j hj => ?_
  obtain ⟨m, h1, h2, _⟩ := under_lt hj
  have := T.par j m _ h1 h2
  have := (List.getElem?_eq_some_iff.mp h1).1
  omega
end
section
theorem walks_listE {prog : Program} {w : World} {A : Around} (hh : A.handled = none) (I ax : Addr) (hne : ax ≠ I) (vs : Array Value) (n : Nat) :
    Walks prog w A I [I, ax] [I] vs.size (fun i v => vs[i]? = some v) (fun i h => h.IsListIter I ax i ∧ h.get? ax = some (listOf vs n)) := by
  have W := Walks.list (prog := prog) (w := w) hh I ax hne vs
  have il : ∀ h : Heap, h.get? ax = some (listOf vs n) → h.IsList ax vs := fun h e => ⟨_, e, rfl, n, rfl⟩
  refine ⟨W.sub, ?_, ?_, ?_, ?_⟩
  · intro i h h' st hk
    exact ⟨st.1.at fun o e => hk I (by simp) o e, hk ax (by simp) _ st.2⟩
  · intro i s Q E hi st hQ
    refine W.item i s Q E hi ⟨st.1, il _ st.2⟩ fun v h' tk hP st' hk => ?_
    exact hQ v h' tk hP ⟨st'.1, hk ax _ (by simpa using hne) st.2⟩ hk
  · intro s Q E st hQ
    exact W.done s Q E ⟨st.1, il _ st.2⟩ hQ
  · intro i s Q E st hQ
    exact W.self i s Q E ⟨st.1, il _ st.2⟩ hQ
noncomputable def Turn (h₀ : Heap) (L : Addr) (J : (Str → Option Value) → List (Addr × Obj) → Prop) (keep : List (Addr × Obj)) (s : Shared) (Q : Flow → Shared → Prop) (f : Flow) (s₂ : Shared) : Prop :=
  match f with
  | .ret v => Q (.ret v) s₂
  | .brk => Q .next s₂
  | _ => ∃ h' tk' m' news', s₂ = { s with heap := h', toks := tk' } ∧ Fr h₀ L h' m' ∧ News h₀ L h' (keep ++ news') ∧ (adrs (keep ++ news')).Nodup ∧ J m' news'
theorem for_list {prog : Program} {w : World} {A : Around} {s : Shared} {env : Env} {h₀ : Heap} {x : Str} {body : List Stmt} {Q : Flow → Shared → Prop} {E : Value → Shared → Prop}
    {l : Addr} {vs : Array Value} {n : Nat} {m₀ : Str → Option Value} {news : List (Addr × Obj)} (J : Nat → (Str → Option Value) → List (Addr × Obj) → Prop)
    (hh : A.handled = none) (F : Fr h₀ env.locals s.heap m₀) (N : News h₀ env.locals s.heap ((l, listOf vs n) :: news)) (nd : (adrs ((l, listOf vs n) :: news)).Nodup) (hj : J 0 m₀ news)
    (turn : ∀ i v m₁ news₁ h tk I oI, vs[i]? = some v → J i m₁ news₁ → Fr h₀ env.locals h (fun y => if y = x then some v else m₁ y) → News h₀ env.locals h ([(I, oI), (l, listOf vs n)] ++ news₁) → (adrs ([(I, oI), (l, listOf vs n)] ++ news₁)).Nodup →
      wpAny (model prog w) A (execs body env) (Turn h₀ env.locals (J (i + 1)) [(I, oI), (l, listOf vs n)] s Q) E { s with heap := h, toks := tk })
    (done : ∀ m₁ news₁ h tk, J vs.size m₁ news₁ → Fr h₀ env.locals h m₁ → News h₀ env.locals h ((l, listOf vs n) :: news₁) → (adrs ((l, listOf vs n) :: news₁)).Nodup → Q .next { s with heap := h, toks := tk }) :
    wpAny (model prog w) A (pyIter (.ref l)) (fun it s₂ => LoopAtV prog w A h₀ env x body Q E it s₂) E s := by
  have Nl := N _ (List.Mem.head _)
  have Nn : News h₀ env.locals s.heap news := fun p hp => N p (.tail _ hp)
  have hol : s.heap.get? l = some (listOf vs n) := Nl.1
  have hls : s.heap.IsList l vs := ⟨_, hol, rfl, n, rfl⟩
  have hne : l ≠ s.heap.objs.size := Nat.ne_of_lt (Heap.lt_size hol)
  have hlL : l ≠ env.locals := Nl.2.1
  refine wpAny_pyIter_list hls ?_
  have W := walks_listE (prog := prog) (w := w) hh s.heap.objs.size l hne vs n
  have hl0 : h₀.get? l = none := Nl.2.2
  refine ⟨_, _, _, vs.size, _, _, m₀, (l, listOf vs n) :: news, (fun i m nx => ∃ nx', nx = (l, listOf vs n) :: nx' ∧ (adrs ((l, listOf vs n) :: nx')).Nodup ∧ (∀ p ∈ nx', p.1 ≠ s.heap.objs.size) ∧ J i m nx'), rfl, W, ?_, ?_, ?_, ⟨⟨_, Heap.get?_push_size _ rfl, rfl, rfl⟩, Heap.get?_push_of_some _ hol⟩, F.push _, (fun p hp => ⟨Heap.get?_push_of_some _ (N p hp).1, (N p hp).2⟩), ⟨news, rfl, nd, fun p hp => Nat.ne_of_lt (Heap.lt_size (Nn p hp).1), hj⟩, ?_, ?_⟩
  · intro hm
    rcases List.mem_cons.mp hm with e | hm
    · exact absurd F.ns.lt (e ▸ Nat.lt_irrefl _)
    · exact hlL (List.mem_singleton.mp hm).symm
  · intro b hb
    rw [List.mem_singleton.mp hb]
    exact next_is_new F
  · intro p hp hI
    exact absurd (Heap.lt_size (N p hp).1) ((List.mem_singleton.mp hI) ▸ Nat.lt_irrefl _)
  · rintro i v m₁ newsX s₁ own ⟨hh', tk', rfl⟩ hin hP ⟨news₁, rfl, hnd, hIn, hJ⟩ hoff hown hget hfp st F₁ N₁
    obtain ⟨⟨oI, hoI, _⟩, hol'⟩ := st
    have hI0 : h₀.get? s.heap.objs.size = none := next_is_new F
    have mI : (s.heap.objs.size, oI) ∈ own := hfp _ (.head _) hI0 _ hoI
    have ml : (l, listOf vs n) ∈ own := hfp _ (.tail _ (.head _)) hl0 _ hol'
    have N₂ : News h₀ env.locals hh' ([(s.heap.objs.size, oI), (l, listOf vs n)] ++ news₁) := fun p hp => by
      rcases List.mem_append.mp hp with h | h
      · rcases List.mem_cons.mp h with rfl | h
        · exact N₁ _ (List.mem_append.mpr (.inl mI))
        · rw [List.mem_singleton.mp h]; exact N₁ _ (List.mem_append.mpr (.inl ml))
      · exact N₁ _ (List.mem_append.mpr (.inr (.tail _ h)))
    have nd₂ : (adrs ([(s.heap.objs.size, oI), (l, listOf vs n)] ++ news₁)).Nodup := by
      refine List.nodup_cons.mpr ⟨fun hm => ?_, hnd⟩
      rcases List.mem_cons.mp hm with e | hm
      · exact hne e.symm
      · obtain ⟨p, hp, e⟩ := List.mem_map.mp hm
        exact hIn p hp e
    refine wpAny_mono (turn i v m₁ news₁ hh' tk' _ oI hP hJ F₁ N₂ nd₂) (fun f s₂ p => ?_) fun _ _ e => e
    have own2 : ∀ p ∈ own, p = (s.heap.objs.size, oI) ∨ p = (l, listOf vs n) := fun p hp => by
      have h2 := hget p hp
      rcases List.mem_cons.mp (hown p hp) with h1 | h1
      · rw [h1] at h2
        exact .inl (Prod.ext h1 (Option.some.inj (h2.symm.trans hoI)))
      · have h1 := List.mem_singleton.mp h1
        rw [h1] at h2
        exact .inr (Prod.ext h1 (Option.some.inj (h2.symm.trans hol')))
    have fin : (∃ h' tk' m' news', s₂ = { s with heap := h', toks := tk' } ∧ Fr h₀ env.locals h' m' ∧ News h₀ env.locals h' ([(s.heap.objs.size, oI), (l, listOf vs n)] ++ news') ∧ (adrs ([(s.heap.objs.size, oI), (l, listOf vs n)] ++ news')).Nodup ∧ J (i + 1) m' news') →
        LoopStepU h₀ env.locals [s.heap.objs.size] own (fun m nx => ∃ nx', nx = (l, listOf vs n) :: nx' ∧ (adrs ((l, listOf vs n) :: nx')).Nodup ∧ (∀ p ∈ nx', p.1 ≠ s.heap.objs.size) ∧ J (i + 1) m nx') { s with heap := hh', toks := tk' } .next s₂ := by
      rintro ⟨h', tk2, m', news', rfl, F', N', nd', hJ'⟩
      have nI := (List.nodup_cons.mp nd').1
      refine ⟨rfl, h', tk2, m', (l, listOf vs n) :: news', rfl, F', fun p hp => ?_, fun p hp hI => ?_, news', rfl, (List.nodup_cons.mp nd').2, fun p hp e => ?_, hJ'⟩
      · rcases List.mem_append.mp hp with h | h
        · rcases own2 p h with rfl | rfl
          · exact N' _ (List.mem_append.mpr (.inl (.head _)))
          · exact N' _ (List.mem_append.mpr (.inl (.tail _ (.head _))))
        · exact N' p (.tail _ h)
      · exact nI (List.mem_map.mpr ⟨p, hp, List.mem_singleton.mp hI⟩)
      · exact nI (List.mem_cons.mpr (.inr (List.mem_map.mpr ⟨p, hp, e⟩)))
    cases f with
    | ret v => exact .ret p
    | brk => exact .brk p
    | next => exact .next (fin p)
    | cont => exact .cont (fin p)
  · rintro h' tk m' newsX F' N' _ ⟨news', rfl, hnd, _, hJ⟩
    exact done m' news' h' tk hJ F' N' hnd
end
local macro_rules | `(tactic| walk_at "m_sub") => `(tactic| ((try simp only [List.nil_append, List.cons_append]); repeat' (first | exact List.forall_mem_nil _ | (refine' List.forall_mem_cons.mpr (And.intro ?_ ?_); focus k_mem) | (refine' List.forall_mem_append.mpr (And.intro ?_ ?_)) | (intro p9 hp9; k_mem))))
local macro_rules | `(tactic| k_mem) => `(tactic| assumption)
local macro_rules | `(tactic| walk_at "compareOp NotEq") => `(tactic| ((with_reducible show wpAny _ _ (compareOp _ (RowA.kd _) _) _ _ _); (rename (RowA.kd _ = Value.str _ _) => hk9); rw [hk9]))
local macro_rules | `(tactic| walk_at "compareOp Eq") => `(tactic| ((with_reducible show wpAny _ _ (compareOp _ (RowA.ur _) _) _ _ _); (rename (RowA.ur _ = Value.str _ _) => hk9); rw [hk9]))
local macro_rules | `(tactic| walk_at "compareOp Eq") => `(tactic| ((with_reducible show wpAny _ _ (compareOp _ (RowA.lo _) _) _ _ _); (rename (RowA.lo _ = Value.str _ _) => hk9); rw [hk9]))
local macro_rules | `(tactic| walk_at "compareOp Eq") => `(tactic| ((with_reducible show wpAny _ _ (compareOp _ (RowA.nm _) _) _ _ _); (rename (RowA.nm _ = Value.str _ _) => hk9); rw [hk9]))
theorem ne_front {l others : List (Addr × Obj)} {d : Addr} {o : Obj} (nd : (adrs l).Nodup) (hp : l.Perm ((d, o) :: others)) : ∀ p ∈ others, p.1 ≠ d := by
  intro p hq e
  subst e
  exact (List.nodup_cons.mp (nodup_perm nd hp)).1 (show p.1 ∈ adrs others from List.mem_map_of_mem hq)
/-- a frame's map m with some names turned -/
noncomputable def ov (l : List (Str × Option Value)) (m : Str → Option Value) : Str → Option Value := fun y => match l.lookup y with | some u => u | none => m y
theorem ov_off {l : List (Str × Option Value)} {m : Str → Option Value} {y : Str} (h : ∀ p ∈ l, y ≠ p.1) : ov l m y = m y := by
  unfold ov
  have : l.lookup y = none := by
    rw [List.lookup_eq_none_iff]
    intro p hp
    simpa using h p hp
  rw [this]
theorem ov_of (names : List Str) {m m₀ : Str → Option Value} (h : ∀ y, (∀ n ∈ names, y ≠ n) → m y = m₀ y) : m = ov (names.map fun n => (n, m n)) m₀ := by
  funext y
  by_cases hy : y ∈ names
  · unfold ov
    have : (names.map fun n => (n, m n)).lookup y = some (m y) := by
      clear h
      induction names with
      | nil => cases hy
      | cons a r ih =>
        rw [List.map_cons, List.lookup_cons]
        by_cases e : y = a
        · subst e; simp
        · have : (y == a) = false := by simpa using e
          rw [this]
          exact ih ((List.mem_cons.mp hy).resolve_left e)
    rw [this]
  · have hn : ∀ n ∈ names, y ≠ n := fun n hn e => hy (e ▸ hn)
    rw [ov_off (fun p hp => by obtain ⟨n, hn', rfl⟩ := List.mem_map.mp hp; exact hn n hn')]
    exact h y hn
theorem all_sub {l l' : List (Addr × Obj)} {d : Addr} (F : ∀ p ∈ l, p.1 ≠ d) (hs : ∀ p ∈ l', p ∈ l) : ∀ p ∈ l', p.1 ≠ d := fun p hp => F p (hs p hp)
theorem ne_sub {l : List (Addr × Obj)} {a d : Addr} {o : Obj} (F : ∀ p ∈ l, p.1 ≠ d) (h : (a, o) ∈ l) : a ≠ d := F _ h
local macro_rules | `(tactic| k_all) => `(tactic| (refine all_sub (by assumption) ?_; walk_at "m_sub"; done))
local macro_rules | `(tactic| k_ne) => `(tactic| (dsimp only; exact ne_sub (by assumption) (by k_mem)))
set_option maxHeartbeats 8000000 in
theorem element_row_sp (w : World) (t : TreeA) (j : Nat) (tk : Tok) (r : RowA) (k : Tok) (hj : t.rows[j]? = some r) (hs : t.rows.length < 900) (hk : r.kd = .str (Str.ofString "element") k) :
    Sp w 5 164 [.ref t.T, .int j tk] ((r.i, instObj 83 r.d) :: (r.d, dictOf (rowEs w.params r) 9) :: treeHd w.params t) (fun v lg' => ∃ own, lg' = own ++ (r.i, instObj 83 r.d) :: (r.d, dictOf (rowEs w.params r) 9) :: treeHd w.params t ∧ v = .ref r.i ∧ own = []) := by
  intro dp frs gd un h₀ L m s Q E C hd hu F N nd hQ
  have nd1 : (adrs (treeHd w.params t)).Nodup := (List.nodup_cons.mp (List.nodup_cons.mp nd).2).2
  have hh : handedIn r.kd = true := by rw [hk]; rfl
  unfold treeHd at N
  walk_at "m_open"
  walk_at "m_steps"
  exact Lv.fin hQ (fun _ : Unit => (r.i, instObj 83 r.d) :: (r.d, dictOf (rowEs w.params r) 9) :: treeHd w.params t) () (by k_asm) (by k_asm) (fun _ h => h) nd ⟨[], rfl, rfl, rfl⟩
local macro_rules | `(tactic| walk_at "call ref") => `(tactic| ((with_reducible show wpAny _ _ (call (Value.ref 164) _) _ _ _); k_dflt (refine Sp.read (element_row_sp _ _ _ _ _ _ (by assumption) (by omega) (by assumption)) (by walk_at "m_cx") (by walk_at "m_room") (by walk_at "m_room") (by k_asm) (by k_asm) (by walk_at "m_sub") (by assumption) ?_); walk_at "m_read"))
noncomputable def RoEnd (h₀ : Heap) (L : Addr) (s : Shared) (keep : List (Addr × Obj)) (names : List Str) (m₀ : Str → Option Value) (f : Flow) (s₂ : Shared) : Prop :=
  f = .next ∧ ∃ h' tk' m', s₂ = { s with heap := h', toks := tk' } ∧ Fr h₀ L h' m' ∧ News h₀ L h' keep ∧ (∀ y, (∀ k ∈ names, y ≠ k) → m' y = m₀ y)
theorem RoEnd.intro {h₀ : Heap} {L : Addr} {s : Shared} {keep : List (Addr × Obj)} {names : List Str} {m₀ m' : Str → Option Value} {h' : Heap} {tk' : Nat} (F : Fr h₀ L h' m') (N : News h₀ L h' keep) (hm : ∀ y, (∀ k ∈ names, y ≠ k) → m' y = m₀ y) :
    RoEnd h₀ L s keep names m₀ .next { s with heap := h', toks := tk' } := ⟨rfl, h', tk', m', rfl, F, N, hm⟩
theorem eq_str_ne {prog : Program} {w : World} {A : Around} {s : Shared} {Q E : Value → Shared → Prop} {a b : Str} {t u : Tok} (hne : a ≠ b) (h : Q (.bool false) s) : wpAny (model prog w) A (compareOp .Eq (.str a t) (.str b u)) Q E s :=
  eq_str (by have e : (a == b) = false := by simpa using hne
             rw [e]; exact h)
local macro_rules | `(tactic| walk_at "compareOp Eq str str") => `(tactic| (refine eq_str_ne (by assumption) ?_))
theorem for_list_ro {prog : Program} {w : World} {A : Around} {s : Shared} {env : Env} {h₀ : Heap} {x : Str} {body : List Stmt} {Q : Flow → Shared → Prop} {E : Value → Shared → Prop}
    {l : Addr} {vs : Array Value} {n : Nat} {m₀ : Str → Option Value} (news : List (Addr × Obj)) (z : Str)
    (hh : A.handled = none) (F : Fr h₀ env.locals s.heap m₀) (N : News h₀ env.locals s.heap ((l, listOf vs n) :: news)) (nd : (adrs ((l, listOf vs n) :: news)).Nodup)
    (turn : ∀ (i : Nat) v u1 u2 h tk I oI, vs[i]? = some v → Fr h₀ env.locals h (fun y => if y = x then some v else ov [(x, u1), (z, u2)] m₀ y) → News h₀ env.locals h ((I, oI) :: (l, listOf vs n) :: news) →
      wpAny (model prog w) A (execs body env) (RoEnd h₀ env.locals s ((I, oI) :: (l, listOf vs n) :: news) [x, z] (ov [(x, u1), (z, u2)] m₀)) E { s with heap := h, toks := tk })
    (done : ∀ u1 u2 h tk, Fr h₀ env.locals h (ov [(x, u1), (z, u2)] m₀) → News h₀ env.locals h ((l, listOf vs n) :: news) → Q .next { s with heap := h, toks := tk }) :
    wpAny (model prog w) A (pyIter (.ref l)) (fun it s₂ => LoopAtV prog w A h₀ env x body Q E it s₂) E s := by
  refine for_list (fun _ m nx => nx = news ∧ ∀ y, (∀ k ∈ [x, z], y ≠ k) → m y = m₀ y) hh F N nd ⟨rfl, fun _ _ => rfl⟩ ?_ ?_
  · rintro i v m₁ news₁ h tk I oI hv ⟨rfl, hm⟩ F₁ N₁ nd₁
    have e := ov_of [x, z] hm
    rw [e] at F₁
    refine wpAny_mono (turn i v (m₁ x) (m₁ z) h tk I oI hv F₁ N₁) ?_ fun _ _ e => e
    rintro f s₂ ⟨rfl, h', tk', m', rfl, F', N', hm'⟩
    refine ⟨h', tk', m', _, rfl, F', N', nd₁, rfl, fun y hy => ?_⟩
    rw [hm' y hy, ov_off]
    intro p hp
    simp only [List.mem_cons, List.not_mem_nil, or_false] at hp
    rcases hp with rfl | rfl
    · exact hy x (by simp)
    · exact hy z (by simp)
  · rintro m₁ news₁ h tk ⟨rfl, hm⟩ F₁ N₁ _
    have e := ov_of [x, z] hm
    rw [e] at F₁
    exact done _ _ h tk F₁ N₁
set_option maxHeartbeats 8000000 in
theorem set_attribute_x (w : World) (t : TreeA) (p : Nat) (tk : Tok) (r : RowA) (nm lo : Str) (ur va : Value) (k k1 k2 k3 : Tok) (ats : List Nat) (rest : List (Addr × Obj)) (hj : t.rows[p]? = some r) (hs : t.rows.length < 900) (hk : r.kd = .str (Str.ofString "element") k)
    (hz : r.as.size < 900) (ha : IntsAre r.as.toList (nints ats)) (hr : ∀ a ∈ ats, ∃ x kx y ky, t.rows[a]? = some x ∧ (x.i, instObj 83 x.d) ∈ rest ∧ (x.d, dictOf (rowEs w.params x) 9) ∈ rest ∧ x.ur = .str (Str.ofString "") kx ∧ x.lo = .str y ky ∧ y ≠ lo) :
    Sp w 10 171 [.ref t.T, .int p tk, .str nm k1, .str (Str.ofString "") k2, .str lo k3, va] ((r.i, instObj 83 r.d) :: (r.d, dictOf (rowEs w.params r) 9) :: (r.al, listOf r.as r.na) :: (treeHd w.params t ++ rest)) (fun v lg' => ∃ q k', v = .int t.rows.length k' ∧ lg' = (r.i, instObj 83 r.d) :: (r.d, dictOf (rowEs w.params r) 9) :: (r.al, listOf (r.as.push v) (r.na + 1)) :: (treeHd w.params (t.push q) ++ rowLg w.params q ++ rest) ∧
      (∃ kk, q.kd = .str (Str.ofString "attribute") kk) ∧ q.nm = .str nm k1 ∧ q.ur = .str (Str.ofString "") k2 ∧ q.lo = .str lo k3 ∧ q.va = va ∧ q.pa = .int p tk ∧ q.ks = #[] ∧ q.as = #[] ∧ q.ns = #[]) := by
  intro dp frs gd un h₀ L m s Q E C hd hu F N nd hQ
  have nd1 : (adrs ((r.i, instObj 83 r.d) :: (r.d, dictOf (rowEs w.params r) 9) :: treeHd w.params t)).Nodup := by
    have h := nodup_perm nd (b := ((r.i, instObj 83 r.d) :: (r.d, dictOf (rowEs w.params r) 9) :: treeHd w.params t) ++ ((r.al, listOf r.as r.na) :: rest)) (by walk_at "m_perm")
    unfold adrs at h ⊢
    rw [List.map_append, List.nodup_append] at h
    exact h.1
  have hpl := (List.getElem?_eq_some_iff.mp hj).1
  unfold treeHd at N
  simp only [List.cons_append, List.nil_append] at N
  walk_at "m_open"
  walk_at "m_steps"
  refine for_list_ro (vs := r.as) (n := r.na) ([(r.i, instObj 83 r.d), (r.d, dictOf (rowEs w.params r) 9)] ++ (treeHd w.params t ++ rest)) (Str.ofString "known") rfl (by k_asm) (News.sub' (by k_asm) ?_) (nodup_perm nd ?_) ?_ ?_
  · simp only [treeHd]
    walk_at "m_sub"
  · walk_at "m_perm"
  · intro i v u1 u2 h tk I oI hv F1 N1
    obtain ⟨a, ta, rfl, hin⟩ := ha.at i v (by simpa using hv)
    obtain ⟨a', ha', rfl⟩ := List.mem_map.mp (List.mem_of_getElem? hin)
    obtain ⟨x, kx, y, ky, hxj, hx1, hx2, hx3, hx4, hx5⟩ := hr a' ha'
    have hat := (TreeA.at hxj).2
    have hat' := (List.getElem?_eq_some_iff.mp hxj).1
    simp only [treeHd, List.cons_append, List.nil_append] at N1
    have hh1 : handedIn x.ur = true := by rw [hx3]; rfl
    have hh2 : handedIn x.lo = true := by rw [hx4]; rfl
    walk_at "m_steps"
    refine RoEnd.intro (by k_asm) (by k_asm) ?_
    intro y hy
    have hy1 := hy _ (List.Mem.head _)
    have hy2 := hy _ (List.Mem.tail _ (List.Mem.head _))
    rw [if_neg hy2, if_neg hy1]
  · intro u1 u2 h tk F1 N1
    simp only [treeHd, List.cons_append, List.nil_append] at N1
    walk_at "m_steps"
    refine Sp.use (new_row_sp _ _ _ _ _ _ _ _ (by omega)) ((r.al, listOf r.as r.na) :: (r.i, instObj 83 r.d) :: (r.d, dictOf (rowEs w.params r) 9) :: rest) (by walk_at "m_cx") (by walk_at "m_room") (by walk_at "m_room") (by k_asm) (by k_asm) (by walk_at "m_sub")
      (nodup_perm nd (by walk_at "m_perm")) ?_
    rintro _ _ h2 tk2 F2 N2 nd2 kp2 fr2 ⟨q, kq, rfl, rfl, hq⟩
    have ne9 := ne_front (d := r.al) (o := listOf r.as r.na) (others := treeHd w.params (t.push q) ++ rowLg w.params q ++ ((r.i, instObj 83 r.d) :: (r.d, dictOf (rowEs w.params r) 9) :: rest)) nd2 (by walk_at "m_perm")
    simp only [treeHd, rowLg, List.cons_append, List.nil_append] at N2 ne9
    walk_at "m_steps"
    have nd3 : (adrs ((r.i, instObj 83 r.d) :: (r.d, dictOf (rowEs w.params r) 9) :: (r.al, listOf r.as r.na) :: (treeHd w.params (t.push q) ++ rowLg w.params q ++ rest))).Nodup := nodup_perm nd2 (by walk_at "m_perm")
    refine Lv.fin hQ (fun _ : Unit => (r.i, instObj 83 r.d) :: (r.d, dictOf (rowEs w.params r) 9) :: (r.al, listOf (r.as.push (.int t.rows.length kq)) (r.na + 1)) :: (treeHd w.params (t.push q) ++ rowLg w.params q ++ rest)) () (by k_asm) (by k_asm) ?_ nd3 ⟨q, kq, rfl, rfl, ⟨_, hq.1⟩, hq.2⟩
    simp only [treeHd, rowLg, List.cons_append, List.nil_append]
    walk_at "m_sub"
set_option maxHeartbeats 8000000 in
theorem add_namespace_x (w : World) (t : TreeA) (p : Nat) (tk : Tok) (r : RowA) (nm : Str) (va : Value) (k k1 : Tok) (ats : List Nat) (rest : List (Addr × Obj)) (hj : t.rows[p]? = some r) (hs : t.rows.length < 900) (hk : r.kd = .str (Str.ofString "element") k)
    (hz : r.ns.size < 900) (ha : IntsAre r.ns.toList (nints ats)) (hr : ∀ a ∈ ats, ∃ x y ky, t.rows[a]? = some x ∧ (x.i, instObj 83 x.d) ∈ rest ∧ (x.d, dictOf (rowEs w.params x) 9) ∈ rest ∧ x.nm = .str y ky ∧ y ≠ nm) :
    Sp w 10 178 [.ref t.T, .int p tk, .str nm k1, va] ((r.i, instObj 83 r.d) :: (r.d, dictOf (rowEs w.params r) 9) :: (r.nl, listOf r.ns r.nn) :: (treeHd w.params t ++ rest)) (fun v lg' => ∃ q k', v = .int t.rows.length k' ∧ lg' = (r.i, instObj 83 r.d) :: (r.d, dictOf (rowEs w.params r) 9) :: (r.nl, listOf (r.ns.push v) (r.nn + 1)) :: (treeHd w.params (t.push q) ++ rowLg w.params q ++ rest) ∧
      (∃ kk, q.kd = .str (Str.ofString "namespace") kk) ∧ q.nm = .str nm k1 ∧ q.pa = .int p tk ∧ q.ks = #[] ∧ q.as = #[] ∧ q.ns = #[]) := by
  intro dp frs gd un h₀ L m s Q E C hd hu F N nd hQ
  have nd1 : (adrs ((r.i, instObj 83 r.d) :: (r.d, dictOf (rowEs w.params r) 9) :: treeHd w.params t)).Nodup := by
    have h := nodup_perm nd (b := ((r.i, instObj 83 r.d) :: (r.d, dictOf (rowEs w.params r) 9) :: treeHd w.params t) ++ ((r.nl, listOf r.ns r.nn) :: rest)) (by walk_at "m_perm")
    unfold adrs at h ⊢
    rw [List.map_append, List.nodup_append] at h
    exact h.1
  have hpl := (List.getElem?_eq_some_iff.mp hj).1
  unfold treeHd at N
  simp only [List.cons_append, List.nil_append] at N
  walk_at "m_open"
  walk_at "m_steps"
  refine for_list_ro (vs := r.ns) (n := r.nn) ([(r.i, instObj 83 r.d), (r.d, dictOf (rowEs w.params r) 9)] ++ (treeHd w.params t ++ rest)) (Str.ofString "node") rfl (by k_asm) (News.sub' (by k_asm) ?_) (nodup_perm nd ?_) ?_ ?_
  · simp only [treeHd]
    walk_at "m_sub"
  · walk_at "m_perm"
  · intro i v u1 u2 h tk I oI hv F1 N1
    obtain ⟨a, ta, rfl, hin⟩ := ha.at i v (by simpa using hv)
    obtain ⟨a', ha', rfl⟩ := List.mem_map.mp (List.mem_of_getElem? hin)
    obtain ⟨x, y, ky, hxj, hx1, hx2, hx3, hx5⟩ := hr a' ha'
    have hat := (TreeA.at hxj).2
    have hat' := (List.getElem?_eq_some_iff.mp hxj).1
    simp only [treeHd, List.cons_append, List.nil_append] at N1
    have hh1 : handedIn x.nm = true := by rw [hx3]; rfl
    walk_at "m_steps"
    refine RoEnd.intro (by k_asm) (by k_asm) ?_
    intro y hy
    have hy1 := hy _ (List.Mem.head _)
    rw [if_neg hy1]
  · intro u1 u2 h tk F1 N1
    simp only [treeHd, List.cons_append, List.nil_append] at N1
    walk_at "m_steps"
    refine Sp.use (new_row_sp _ _ _ _ _ _ _ _ (by omega)) ((r.nl, listOf r.ns r.nn) :: (r.i, instObj 83 r.d) :: (r.d, dictOf (rowEs w.params r) 9) :: rest) (by walk_at "m_cx") (by walk_at "m_room") (by walk_at "m_room") (by k_asm) (by k_asm) (by walk_at "m_sub")
      (nodup_perm nd (by walk_at "m_perm")) ?_
    rintro _ _ h2 tk2 F2 N2 nd2 kp2 fr2 ⟨q, kq, rfl, rfl, hq⟩
    have ne9 := ne_front (d := r.nl) (o := listOf r.ns r.nn) (others := treeHd w.params (t.push q) ++ rowLg w.params q ++ ((r.i, instObj 83 r.d) :: (r.d, dictOf (rowEs w.params r) 9) :: rest)) nd2 (by walk_at "m_perm")
    simp only [treeHd, rowLg, List.cons_append, List.nil_append] at N2 ne9
    walk_at "m_steps"
    have nd3 : (adrs ((r.i, instObj 83 r.d) :: (r.d, dictOf (rowEs w.params r) 9) :: (r.nl, listOf r.ns r.nn) :: (treeHd w.params (t.push q) ++ rowLg w.params q ++ rest))).Nodup := nodup_perm nd2 (by walk_at "m_perm")
    refine Lv.fin hQ (fun _ : Unit => (r.i, instObj 83 r.d) :: (r.d, dictOf (rowEs w.params r) 9) :: (r.nl, listOf (r.ns.push (.int t.rows.length kq)) (r.nn + 1)) :: (treeHd w.params (t.push q) ++ rowLg w.params q ++ rest)) () (by k_asm) (by k_asm) ?_ nd3 ⟨q, kq, rfl, rfl, ⟨_, hq.1⟩, hq.2.1, hq.2.2.2.2.2⟩
    simp only [treeHd, rowLg, List.cons_append, List.nil_append]
    walk_at "m_sub"
theorem Sp.lift {w : World} {d : Nat} {f : Addr} {vs : List Value} {lg lgX : List (Addr × Obj)} {post post' : Value → List (Addr × Obj) → Prop} (H : Sp w d f vs lg post) (more : List (Addr × Obj)) (hp : lgX.Perm (lg ++ more))
    (hpost : ∀ v lg', post v lg' → ∃ lgY, lgY.Perm (lg' ++ more) ∧ post' v lgY) : Sp w d f vs lgX post' := by
  intro dp frs gd un h₀ L m s Q E C hd hu F N nd hQ
  refine Sp.use H more C hd hu F N (fun p h => hp.mem_iff.mpr h) (nodup_perm nd hp) fun v lg' h' tk' F' N' nd' kp fr po => ?_
  obtain ⟨lgY, hY, po'⟩ := hpost v lg' po
  refine hQ v lgY h' tk' F' (News.sub' N' fun p h => hY.mem_iff.mp h) (nodup_perm nd' hY.symm) ?_ ?_ po'
  · intro b o e hb
    refine kp b o e fun hm => hb ?_
    obtain ⟨p, h1, h2⟩ := List.mem_map.mp hm
    exact List.mem_map.mpr ⟨p, hp.mem_iff.mpr (List.mem_append.mpr (.inl h1)), h2⟩
  · intro p h
    rcases List.mem_append.mp (hY.mem_iff.mp h) with h1 | h1
    · rcases fr p h1 with h2 | h2
      · obtain ⟨q, h3, h4⟩ := List.mem_map.mp h2
        exact .inl (List.mem_map.mpr ⟨q, hp.mem_iff.mpr (List.mem_append.mpr (.inl h3)), h4⟩)
      · exact .inr h2
    · exact .inl (List.mem_map.mpr ⟨p, hp.mem_iff.mpr (List.mem_append.mpr (.inr h1)), rfl⟩)
noncomputable def TPost (P : Params) (t : TreeA) (nds : List Nd) (n : Nd) (v : Value) (lg' : List (Addr × Obj)) : Prop :=
  ∃ t' k, v = .int nds.length k ∧ lg' = treeLg P t' ∧ t'.T = t.T ∧ TreeOk t' (nds ++ [n])
noncomputable def ParV (par : Option Nat) (pv : Value) : Prop := match par with | none => pv = .none | some p => ∃ k, pv = .int p k
theorem RowOk.new {t : TreeA} {nds : List Nd} (T : TreeOk t nds) (n : Nd) (hn : ∀ p, n.par = some p → p < nds.length) {q : RowA} (kd : ∃ k, q.kd = .str (Str.ofString n.kd.str) k) (pa : ParV n.par q.pa)
    (e : q.ks = #[] ∧ q.as = #[] ∧ q.ns = #[]) (at' : n.kd = .attr → (∃ k, q.ur = .str (Str.ofString "") k) ∧ ∃ k, q.lo = .str (aName nds.length) k) (nm : n.kd = .ns → ∃ k, q.nm = .str (pName nds.length) k) : RowOk (nds ++ [n]) nds.length n q := by
  obtain ⟨e1, e2, e3⟩ := e
  refine ⟨kd, pa, ?_, ?_, ?_, at', nm⟩ <;> rw [under_none T n hn]
  · rw [e1]; exact .nil
  · rw [e2]; exact .nil
  · rw [e3]; exact .nil
theorem push_lg (P : Params) (t : TreeA) (q : RowA) : treeLg P (t.push q) = treeHd P (t.push q) ++ (t.rows.flatMap (rowLg P) ++ rowLg P q) := by
  show treeHd P (t.push q) ++ (t.rows ++ [q]).flatMap (rowLg P) = _
  simp [List.flatMap_append]
set_option maxHeartbeats 8000000 in
theorem new_root_sp (w : World) (t : TreeA) (nds : List Nd) (T : TreeOk t nds) (hs : nds.length < 900) : Sp w 10 122 [.ref t.T] (treeLg w.params t) (TPost w.params t nds ⟨.root, none⟩) := by
  intro dp frs gd un h₀ L m s Q E C hd hu F N nd hQ
  have hlen := T.len
  unfold treeLg treeHd at N
  simp only [List.cons_append, List.nil_append] at N
  walk_at "m_open"
  walk_at "m_steps"
  refine Sp.use (new_row_sp _ _ _ _ _ _ _ _ (by omega)) (t.rows.flatMap (rowLg w.params)) (by walk_at "m_cx") (by walk_at "m_room") (by walk_at "m_room") (by k_asm) (by k_asm) (by walk_at "m_sub") nd ?_
  rintro _ _ h2 tk2 F2 N2 nd2 kp2 fr2 ⟨q, kq, rfl, rfl, hq⟩
  walk_at "m_steps"
  have nd3 : (adrs (treeLg w.params (t.push q))).Nodup := by rw [push_lg]; exact nodup_perm nd2 (by walk_at "m_perm")
  refine Lv.fin hQ (fun _ : Unit => treeLg w.params (t.push q)) () (by k_asm) (by k_asm) ?_ nd3 ⟨t.push q, _, by rw [hlen], rfl, rfl, T.push (RowOk.new T _ (by intro p h; cases h) ⟨_, hq.1⟩ hq.2.2.2.2.2.1 hq.2.2.2.2.2.2 (by intro h; cases h) (by intro h; cases h))⟩
  rw [push_lg]
  intro p hp
  simp only [List.mem_append] at hp ⊢
  rcases hp with hp | hp | hp
  · exact .inl (.inl hp)
  · exact .inr hp
  · exact .inl (.inr hp)
set_option maxHeartbeats 8000000 in
theorem add_child_none (w : World) (t : TreeA) (nds : List Nd) (kd : Kd) (k : Tok) (nm ur lo va : Value) (hkd : kd ≠ .attr ∧ kd ≠ .ns) (T : TreeOk t nds) (hs : nds.length < 900) :
    Sp w 10 129 [.ref t.T, .none, .str (Str.ofString kd.str) k, nm, ur, lo, va] (treeLg w.params t) (TPost w.params t nds ⟨kd, none⟩) := by
  intro dp frs gd un h₀ L m s Q E C hd hu F N nd hQ
  have hlen := T.len
  unfold treeLg treeHd at N
  simp only [List.cons_append, List.nil_append] at N
  walk_at "m_open"
  walk_at "m_steps"
  refine Sp.use (new_row_sp _ _ _ _ _ _ _ _ (by omega)) (t.rows.flatMap (rowLg w.params)) (by walk_at "m_cx") (by walk_at "m_room") (by walk_at "m_room") (by k_asm) (by k_asm) (by walk_at "m_sub") nd ?_
  rintro _ _ h2 tk2 F2 N2 nd2 kp2 fr2 ⟨q, kq, rfl, rfl, hq⟩
  walk_at "m_steps"
  have nd3 : (adrs (treeLg w.params (t.push q))).Nodup := by rw [push_lg]; exact nodup_perm nd2 (by walk_at "m_perm")
  refine Lv.fin hQ (fun _ : Unit => treeLg w.params (t.push q)) () (by k_asm) (by k_asm) ?_ nd3 ⟨t.push q, _, by rw [hlen], rfl, rfl, T.push (RowOk.new T _ (by intro p h; cases h) ⟨_, hq.1⟩ hq.2.2.2.2.2.1 hq.2.2.2.2.2.2 (fun h => absurd h hkd.1) (fun h => absurd h hkd.2))⟩
  rw [push_lg]
  intro p hp
  simp only [List.mem_append] at hp ⊢
  rcases hp with hp | hp | hp
  · exact .inl (.inl hp)
  · exact .inr hp
  · exact .inl (.inr hp)
theorem name_inj {c : Str} {a b : Nat} (h : c ++ Str.ofString (toString (a : Int)) = c ++ Str.ofString (toString (b : Int))) : a = b := by
  have h1 := congrArg (fun x : Str => x.cps.toList) h
  simp only [Str.cps_append, Array.toList_append] at h1
  have h2 := List.append_cancel_left h1
  rw [KIN.signs_num, KIN.signs_num] at h2
  have h3 := congrArg NumText.digitsVal h2
  rwa [KIN.val_back, KIN.val_back] at h3
theorem aName_ne {a b : Nat} (h : a ≠ b) : aName a ≠ aName b := fun e => h (name_inj e)
theorem pName_ne {a b : Nat} (h : a ≠ b) : pName a ≠ pName b := fun e => h (name_inj e)
theorem mem_rest {P : Params} {t : TreeA} {a p : Nat} {x : RowA} (hx : t.rows[a]? = some x) (hne : a ≠ p) : ∀ y ∈ rowLg P x, y ∈ (t.rows.eraseIdx p).flatMap (rowLg P) := fun y hy =>
  List.mem_flatMap.mpr ⟨x, List.mem_eraseIdx_iff_getElem?.mpr ⟨a, hne, hx⟩, hy⟩
theorem under_size {t : TreeA} {nds : List Nd} (T : TreeOk t nds) (i c : Nat) : (under nds i c).length ≤ nds.length := by
  unfold under
  exact Nat.le_trans (List.length_filterMap_le _ _) (by simp)
theorem TreeOk.get {t : TreeA} {nds : List Nd} (T : TreeOk t nds) {p : Nat} {n : Nd} (hn : nds[p]? = some n) : ∃ r, t.rows[p]? = some r ∧ RowOk nds p n r := by
  have h := (List.getElem?_eq_some_iff.mp hn).1
  have h2 : p < t.rows.length := by rw [T.len]; exact h
  exact ⟨t.rows[p], List.getElem?_eq_getElem h2, T.row p _ n (List.getElem?_eq_getElem h2) hn⟩
theorem RowOk.ksz {nds : List Nd} {i : Nat} {n : Nd} {r : RowA} {t : TreeA} (R : RowOk nds i n r) (T : TreeOk t nds) : r.ks.size ≤ nds.length ∧ r.as.size ≤ nds.length ∧ r.ns.size ≤ nds.length := by
  have h1 := R.ks.length; have h2 := R.as.length; have h3 := R.ns.length
  simp only [nints, List.length_map, Array.length_toList] at h1 h2 h3
  rw [h1, h2, h3]
  exact ⟨under_size T _ _, under_size T _ _, under_size T _ _⟩
theorem add_child_sp (w : World) (t : TreeA) (nds : List Nd) (kd : Kd) (par : Option Nat) (pv : Value) (k : Tok) (nm ur lo va : Value) (hkd : kd = .elem ∨ kd = .text) (hpv : ParV par pv) (hpar : ∀ p, par = some p → ∃ n, nds[p]? = some n ∧ (n.kd = .root ∨ n.kd = .elem)) (T : TreeOk t nds) (hs : nds.length < 800) :
    Sp w 10 129 [.ref t.T, pv, .str (Str.ofString kd.str) k, nm, ur, lo, va] (treeLg w.params t) (TPost w.params t nds ⟨kd, par⟩) := by
  have h2 : kd.sort = 2 := by rcases hkd with h | h <;> rw [h] <;> rfl
  have hk3 : kd ≠ .attr ∧ kd ≠ .ns := by rcases hkd with h | h <;> rw [h] <;> exact ⟨nofun, nofun⟩
  cases par with
  | none => rw [show pv = .none from hpv]; exact add_child_none w t nds kd k nm ur lo va hk3 T (by omega)
  | some p =>
    obtain ⟨tk, rfl⟩ := hpv
    obtain ⟨n, hn, hnk⟩ := hpar p rfl
    obtain ⟨r, hj, R⟩ := T.get hn
    have hlen := T.len
    have hz := R.ksz T
    obtain ⟨kk, hkk⟩ := R.kd
    have hk : r.kd = .str (Str.ofString "root") kk ∨ r.kd = .str (Str.ofString "element") kk := by
      rcases hnk with h | h <;> rw [h] at hkk
      · exact .inl hkk
      · exact .inr hkk
    refine Sp.lift (add_child_some w t p tk r _ nm ur lo va kk hj (by omega) (by omega) hk) ([(r.al, listOf r.as r.na), (r.nl, listOf r.ns r.nn)] ++ (t.rows.eraseIdx p).flatMap (rowLg w.params)) ((tree_split w.params hj).trans ?_) ?_
    · generalize treeHd w.params t = B
      generalize (t.rows.eraseIdx p).flatMap (rowLg w.params) = D
      simp only [rowLg]
      walk_at "m_perm"
    · rintro v lg' ⟨q, k', rfl, rfl, hq⟩
      refine ⟨treeLg w.params (t.add q p { r with ks := r.ks.push (.int t.rows.length k'), nk := r.nk + 1 }), (add_split w.params hj (by rfl)).trans ?_, ⟨_, k', by rw [hlen], rfl, rfl, ?_⟩⟩
      · generalize treeHd w.params (t.push q) = B
        generalize (t.rows.eraseIdx p).flatMap (rowLg w.params) = D
        generalize rowLg w.params q = C
        rw [show rowLg w.params { r with ks := r.ks.push (.int t.rows.length k'), nk := r.nk + 1 } = [(r.i, instObj 83 r.d), (r.d, dictOf (rowEs w.params r) 9), (r.kl, listOf (r.ks.push (.int t.rows.length k')) (r.nk + 1)), (r.al, listOf r.as r.na), (r.nl, listOf r.ns r.nn)] from rfl]
        walk_at "m_perm"
      · have hpn := (List.getElem?_eq_some_iff.mp hn).1
        refine T.add hj (RowOk.new T _ (fun p' h => by cases h; exact hpn) ⟨_, hq.1⟩ ⟨_, hq.2.2.2.2.2.1⟩ hq.2.2.2.2.2.2 (fun h => absurd h hk3.1) (fun h => absurd h hk3.2)) ⟨rfl, rfl, rfl, rfl, rfl⟩ (tk := k') ?_ ?_ ?_
        · rw [if_pos h2, ← hlen]; simp
        · rw [if_neg (by rw [h2]; decide), List.append_nil]
        · rw [if_neg (by rw [h2]; decide), List.append_nil]
theorem set_attribute_sp (w : World) (t : TreeA) (nds : List Nd) (p : Nat) (tk : Tok) (va : Value) (nm : Str) (k1 k2 k3 : Tok) (hn : ∃ n, nds[p]? = some n ∧ n.kd = .elem) (T : TreeOk t nds) (hs : nds.length < 800) :
    Sp w 10 171 [.ref t.T, .int p tk, .str nm k1, .str (Str.ofString "") k2, .str (aName nds.length) k3, va] (treeLg w.params t) (TPost w.params t nds ⟨.attr, some p⟩) := by
  obtain ⟨n, hn, hnk⟩ := hn
  obtain ⟨r, hj, R⟩ := T.get hn
  have hlen := T.len
  have hz := R.ksz T
  obtain ⟨kk, hkk⟩ := R.kd
  rw [hnk] at hkk
  refine Sp.lift (set_attribute_x w t p tk r nm (aName nds.length) (.int 0 0) va kk k1 k2 k3 (under nds p 1) ([(r.kl, listOf r.ks r.nk), (r.nl, listOf r.ns r.nn)] ++ (t.rows.eraseIdx p).flatMap (rowLg w.params)) hj (by omega) hkk (by omega) R.as ?_) [] ((tree_split w.params hj).trans ?_) ?_
  · intro a ha
    obtain ⟨m, h1, h2, h3⟩ := under_lt ha
    have hm : m.kd = .attr := by
      revert h3
      cases m.kd <;> first | (intro _; rfl) | (intro h; cases h)
    obtain ⟨x, hx, X⟩ := T.get h1
    obtain ⟨⟨kx, hx1⟩, ky, hx2⟩ := X.at' hm
    have hap := T.par a m p h1 h2
    have hal := (List.getElem?_eq_some_iff.mp h1).1
    have hmem := mem_rest (P := w.params) hx (Nat.ne_of_gt hap)
    exact ⟨x, kx, _, ky, hx, List.mem_append.mpr (.inr (hmem _ (.head _))), List.mem_append.mpr (.inr (hmem _ (.tail _ (.head _)))), hx1, hx2, aName_ne (Nat.ne_of_lt hal)⟩
  · generalize treeHd w.params t = B
    generalize (t.rows.eraseIdx p).flatMap (rowLg w.params) = D
    simp only [rowLg]
    walk_at "m_perm"
  · rintro v lg' ⟨q, k', rfl, rfl, hq⟩
    refine ⟨treeLg w.params (t.add q p { r with as := r.as.push (.int t.rows.length k'), na := r.na + 1 }), (add_split w.params hj (by rfl)).trans ?_, ⟨_, k', by rw [hlen], rfl, rfl, ?_⟩⟩
    · generalize treeHd w.params (t.push q) = B
      generalize (t.rows.eraseIdx p).flatMap (rowLg w.params) = D
      generalize rowLg w.params q = C
      rw [show rowLg w.params { r with as := r.as.push (.int t.rows.length k'), na := r.na + 1 } = [(r.i, instObj 83 r.d), (r.d, dictOf (rowEs w.params r) 9), (r.kl, listOf r.ks r.nk), (r.al, listOf (r.as.push (.int t.rows.length k')) (r.na + 1)), (r.nl, listOf r.ns r.nn)] from rfl]
      walk_at "m_perm"
    · have hpn := (List.getElem?_eq_some_iff.mp hn).1
      refine T.add hj (RowOk.new T _ (fun p' h => by cases h; exact hpn) hq.1 ⟨_, hq.2.2.2.2.2.1⟩ hq.2.2.2.2.2.2 (fun _ => ⟨⟨_, hq.2.2.1⟩, _, hq.2.2.2.1⟩) (fun h => by cases h)) ⟨rfl, rfl, rfl, rfl, rfl⟩ (tk := k') ?_ ?_ ?_
      · rw [if_neg (by decide), List.append_nil]
      · rw [if_pos (show Kd.attr.sort = 1 from rfl), ← hlen]; simp
      · rw [if_neg (by decide), List.append_nil]
theorem add_namespace_sp (w : World) (t : TreeA) (nds : List Nd) (p : Nat) (tk : Tok) (va : Value) (k1 : Tok) (hn : ∃ n, nds[p]? = some n ∧ n.kd = .elem) (T : TreeOk t nds) (hs : nds.length < 800) :
    Sp w 10 178 [.ref t.T, .int p tk, .str (pName nds.length) k1, va] (treeLg w.params t) (TPost w.params t nds ⟨.ns, some p⟩) := by
  obtain ⟨n, hn, hnk⟩ := hn
  obtain ⟨r, hj, R⟩ := T.get hn
  have hlen := T.len
  have hz := R.ksz T
  obtain ⟨kk, hkk⟩ := R.kd
  rw [hnk] at hkk
  refine Sp.lift (add_namespace_x w t p tk r (pName nds.length) va kk k1 (under nds p 0) ([(r.kl, listOf r.ks r.nk), (r.al, listOf r.as r.na)] ++ (t.rows.eraseIdx p).flatMap (rowLg w.params)) hj (by omega) hkk (by omega) R.ns ?_) [] ((tree_split w.params hj).trans ?_) ?_
  · intro a ha
    obtain ⟨m, h1, h2, h3⟩ := under_lt ha
    have hm : m.kd = .ns := by
      revert h3
      cases m.kd <;> first | (intro _; rfl) | (intro h; cases h)
    obtain ⟨x, hx, X⟩ := T.get h1
    obtain ⟨ky, hx2⟩ := X.nm hm
    have hap := T.par a m p h1 h2
    have hal := (List.getElem?_eq_some_iff.mp h1).1
    have hmem := mem_rest (P := w.params) hx (Nat.ne_of_gt hap)
    exact ⟨x, _, ky, hx, List.mem_append.mpr (.inr (hmem _ (.head _))), List.mem_append.mpr (.inr (hmem _ (.tail _ (.head _)))), hx2, pName_ne (Nat.ne_of_lt hal)⟩
  · generalize treeHd w.params t = B
    generalize (t.rows.eraseIdx p).flatMap (rowLg w.params) = D
    simp only [rowLg]
    walk_at "m_perm"
  · rintro v lg' ⟨q, k', rfl, rfl, hq⟩
    refine ⟨treeLg w.params (t.add q p { r with ns := r.ns.push (.int t.rows.length k'), nn := r.nn + 1 }), (add_split w.params hj (by rfl)).trans ?_, ⟨_, k', by rw [hlen], rfl, rfl, ?_⟩⟩
    · generalize treeHd w.params (t.push q) = B
      generalize (t.rows.eraseIdx p).flatMap (rowLg w.params) = D
      generalize rowLg w.params q = C
      rw [show rowLg w.params { r with ns := r.ns.push (.int t.rows.length k'), nn := r.nn + 1 } = [(r.i, instObj 83 r.d), (r.d, dictOf (rowEs w.params r) 9), (r.kl, listOf r.ks r.nk), (r.al, listOf r.as r.na), (r.nl, listOf (r.ns.push (.int t.rows.length k')) (r.nn + 1))] from rfl]
      walk_at "m_perm"
    · have hpn := (List.getElem?_eq_some_iff.mp hn).1
      refine T.add hj (RowOk.new T _ (fun p' h => by cases h; exact hpn) hq.1 ⟨_, hq.2.2.1⟩ hq.2.2.2 (fun h => by cases h) (fun _ => ⟨_, hq.2.1⟩)) ⟨rfl, rfl, rfl, rfl, rfl⟩ (tk := k') ?_ ?_ ?_
      · rw [if_neg (by decide), List.append_nil]
      · rw [if_neg (by decide), List.append_nil]
      · rw [if_pos (show Kd.ns.sort = 0 from rfl), ← hlen]; simp
set_option maxHeartbeats 8000000 in
theorem add_element_sp (w : World) (t : TreeA) (nds : List Nd) (par : Option Nat) (pv : Value) (nm ur lo : Str) (k1 k2 k3 : Tok) (hpv : ParV par pv) (hpar : ∀ p, par = some p → ∃ n, nds[p]? = some n ∧ (n.kd = .root ∨ n.kd = .elem)) (T : TreeOk t nds) (hs : nds.length < 800) :
    Sp w 14 136 [.ref t.T, pv, .str nm k1, .str ur k2, .str lo k3] (treeLg w.params t) (TPost w.params t nds ⟨.elem, par⟩) := by
  intro dp frs gd un h₀ L m s Q E C hd hu F N nd hQ
  unfold treeLg treeHd at N
  simp only [List.cons_append, List.nil_append] at N
  walk_at "m_open"
  walk_at "m_steps"
  refine Sp.use (add_child_sp w t nds .elem par pv _ _ _ _ _ (by first | exact .inl rfl | exact .inr rfl) hpv hpar T hs) [] (by walk_at "m_cx") (by walk_at "m_room") (by walk_at "m_room") (by k_asm) (by k_asm) (by walk_at "m_sub") (by rw [List.append_nil]; exact nd) ?_
  rintro _ _ h2 tk2 F2 N2 nd2 kp2 fr2 ⟨t', kq, rfl, rfl, hT, hT2⟩
  rw [List.append_nil] at N2 nd2
  walk_at "m_steps"
  exact Lv.fin hQ (fun _ : Unit => treeLg w.params t') () (by k_asm) (by k_asm) (fun _ h => h) nd2 ⟨t', kq, rfl, rfl, hT, hT2⟩
set_option maxHeartbeats 8000000 in
theorem add_text_sp (w : World) (t : TreeA) (nds : List Nd) (par : Option Nat) (pv : Value) (va : Str) (k1 : Tok) (hpv : ParV par pv) (hpar : ∀ p, par = some p → ∃ n, nds[p]? = some n ∧ (n.kd = .root ∨ n.kd = .elem)) (T : TreeOk t nds) (hs : nds.length < 800) :
    Sp w 14 143 [.ref t.T, pv, .str va k1] (treeLg w.params t) (TPost w.params t nds ⟨.text, par⟩) := by
  intro dp frs gd un h₀ L m s Q E C hd hu F N nd hQ
  unfold treeLg treeHd at N
  simp only [List.cons_append, List.nil_append] at N
  walk_at "m_open"
  walk_at "m_steps"
  refine Sp.use (add_child_sp w t nds .text par pv _ _ _ _ _ (by first | exact .inl rfl | exact .inr rfl) hpv hpar T hs) [] (by walk_at "m_cx") (by walk_at "m_room") (by walk_at "m_room") (by k_asm) (by k_asm) (by walk_at "m_sub") (by rw [List.append_nil]; exact nd) ?_
  rintro _ _ h2 tk2 F2 N2 nd2 kp2 fr2 ⟨t', kq, rfl, rfl, hT, hT2⟩
  rw [List.append_nil] at N2 nd2
  walk_at "m_steps"
  exact Lv.fin hQ (fun _ : Unit => treeLg w.params t') () (by k_asm) (by k_asm) (fun _ h => h) nd2 ⟨t', kq, rfl, rfl, hT, hT2⟩
structure TupA where
  a : Addr
  pv : Value
  sv : Value
structure BookA where
  B : Addr
  o : Obj
  ts : List TupA
noncomputable abbrev tupObj (vs : List Value) : Obj := { cls := .type "tuple", data := .seq vs.toArray }
noncomputable abbrev tupLg (x : TupA) : Addr × Obj := (x.a, tupObj [x.pv, x.sv])
noncomputable abbrev bookLg (b : BookA) : List (Addr × Obj) := (b.B, b.o) :: b.ts.map tupLg
noncomputable def BookA.kvs (b : BookA) : List (Int × Value) := b.ts.zipIdx.map fun p => ((p.2 : Int), .ref p.1.a)
structure BookOk (w : World) (b : BookA) (nds : List Nd) : Prop where
  lo : (b.B == sysModules) = false
  len : b.ts.length = nds.length
  dict : b.o.IsDictOf (intKind PySem.Challenge.rw_xw0206_01.row.prog w) b.kvs
  tup : ∀ (i : Nat) (x : TupA) (n : Nd), b.ts[i]? = some x → nds[i]? = some n → ParV n.par x.pv ∧ ∃ k, x.sv = .int n.kd.sort k
theorem BookA.kvs_len (b : BookA) : b.kvs.length = b.ts.length := by simp [BookA.kvs]
theorem BookA.kvs_add (b : BookA) (x : TupA) : ({ b with ts := b.ts ++ [x] } : BookA).kvs = b.kvs ++ [((b.ts.length : Int), .ref x.a)] := by
  simp [BookA.kvs, List.zipIdx_append]
theorem BookA.kvs_get {b : BookA} {i : Nat} {x : TupA} (h : b.ts[i]? = some x) : b.kvs[i]? = some ((i : Int), .ref x.a) := by
  simp [BookA.kvs, h]
theorem BookA.kvs_at {b : BookA} {i : Nat} {x : TupA} (nd : (b.kvs.map (·.1)).Nodup) (h : b.ts[i]? = some x) : valueAt b.kvs (i : Int) = some (.ref x.a) := valueAt_of_get nd (b.kvs_get h)
theorem BookA.kvs_lt {b : BookA} {p : Int × Value} (h : p ∈ b.kvs) : ∃ i : Nat, p.1 = i ∧ i < b.ts.length := by
  obtain ⟨q, hq, rfl⟩ := List.mem_map.mp h
  have := List.mem_zipIdx_iff_getElem?.mp hq
  exact ⟨q.2, rfl, (List.getElem?_eq_some_iff.mp this).1⟩
theorem BookA.stored (b : BookA) (v : Value) : PySem.stored b.kvs (b.ts.length : Int) v = b.kvs ++ [((b.ts.length : Int), v)] := by
  unfold PySem.stored
  rw [if_neg]
  intro h
  obtain ⟨p, hp, e⟩ := List.any_eq_true.mp h
  obtain ⟨i, h1, h2⟩ := BookA.kvs_lt hp
  have e' : p.1 = (b.ts.length : Int) := by simpa using e
  omega
theorem BookOk.nodup {w : World} {b : BookA} {nds : List Nd} (B : BookOk w b nds) : (b.kvs.map (·.1)).Nodup := by
  obtain ⟨es, ep, _, _, _, _, h⟩ := B.dict
  exact h
section
variable {prog : Program} {w : World} {A : Around} {E : Value → Shared → Prop} {s : Shared} {h₀ : Heap} {L : Addr} {m : Str → Option Value} {K : Type} [DecidableEq K] {knd : KeyKind prog w K} {d : Addr} {o : Obj} {kvs : List (K × Value)} {k : K} {key v : Value} {all : List (Addr × Obj)}
theorem dset {Q : Unit → Shared → Prop} (others : List (Addr × Obj)) (hkey : knd.is k key = true) (F : Fr h₀ L s.heap m) (N : News h₀ L s.heap all) (hs : ∀ p ∈ (d, o) :: others, p ∈ all) (hne : ∀ p ∈ others, p.1 ≠ d) (hd : o.IsDictOf knd kvs) (hsz : kvs.length ≤ sizeLine)
    (h : ∀ h' o', Fr h₀ L h' m → News h₀ L h' ((d, o') :: others) → o'.IsDictOf knd (stored kvs k v) → Q () { s with heap := h', toks := s.toks + 1 }) : wpAny (model prog w) A (setItem (.ref d) key v) Q E s := by
  have N1 := News.sub' N hs
  have hm := N1 (d, o) (.head _)
  refine wpAny_setItem_pairs (hsz := hsz) hkey (Heap.dictOf_iff.mpr ⟨o, hm.1, hd⟩) fun h' hmm hs' => ?_
  obtain ⟨o', ho', hd'⟩ := Heap.dictOf_iff.mp hmm
  refine h h' o' (F.change hs' hm.2.1 hm.2.2) ?_ hd'
  have := News.setIn (own := []) (rest := others) (d := d) (o := o) (N1 : News h₀ L s.heap ([] ++ (d, o) :: others)) (fun p hp => nomatch hp) hne hs' ho'
  simpa using this
theorem dlen {Q : Value → Shared → Prop} (N : News h₀ L s.heap all) (hm : (d, o) ∈ all) (lo : (d == sysModules) = false) (hd : o.IsDictOf knd kvs) (hz : kvs.length < 1000) (n : Int) (hn : (kvs.length : Int) = n) (h : Q (.int n (s.toks + 1)) { s with toks := s.toks + 1 + 1 }) :
    wpAny (model prog w) A (call (.builtin "len") [.ref d]) Q E s := by
  subst hn
  exact call_len_dict lo (Heap.dictOf_iff.mpr ⟨o, (N _ hm).1, hd⟩) (by omega) h
end
section
noncomputable def wordOf : Kd → String
  | .root => "" | .elem => "element" | .text => "text" | .attr => "attribute" | .ns => "namespace"
noncomputable abbrev stLg (P : Params) (t : TreeA) (b : BookA) : List (Addr × Obj) := treeHd P t ++ (b.B, b.o) :: (b.ts.map tupLg ++ t.rows.flatMap (rowLg P))
theorem stLg_perm (P : Params) (t : TreeA) (b : BookA) : (stLg P t b).Perm (treeLg P t ++ bookLg b) := by
  unfold stLg treeLg bookLg
  generalize treeHd P t = X
  generalize t.rows.flatMap (rowLg P) = Y
  generalize b.ts.map tupLg = Z
  walk_at "m_perm"
noncomputable def Mid (g : Heap) (L : Addr) (s : Shared) (J : (Str → Option Value) → List (Addr × Obj) → Prop) (f : Flow) (s' : Shared) : Prop :=
  f = .next ∧ ∃ h' tk' m' lg, s' = { s with heap := h', toks := tk' } ∧ Fr g L h' m' ∧ News g L h' lg ∧ J m' lg
theorem Mid.intro {g h' : Heap} {L : Addr} {s : Shared} {J : (Str → Option Value) → List (Addr × Obj) → Prop} {tk' : Nat} {m' : Str → Option Value} {lg : List (Addr × Obj)} (F : Fr g L h' m') (N : News g L h' lg) (j : J m' lg) : Mid g L s J .next { s with heap := h', toks := tk' } :=
  ⟨rfl, h', tk', m', lg, rfl, F, N, j⟩
theorem cut {M : Model} {A : Around} {tr : Sem Flow} {E : Value → Shared → Prop} {Q : Flow → Shared → Prop} {g : Heap} {L : Addr} {m₀ : Str → Option Value} {s s₁ : Shared} (F : Fr g L s₁.heap m₀) (J : (Str → Option Value) → (Str → Option Value) → List (Addr × Obj) → Prop)
    (h1 : wpAny M A tr (Mid g L s (J m₀)) E s₁) (h2 : ∀ h' tk' m' lg, Fr g L h' m' → News g L h' lg → J m₀ m' lg → Q .next { s with heap := h', toks := tk' }) : wpAny M A tr Q E s₁ :=
  wpAny_mono h1 (fun f s' h => by obtain ⟨rfl, h', tk', m', lg, rfl, F', N', j⟩ := h; exact h2 h' tk' m' lg F' N' j) fun _ _ e => e
section
local macro_rules | `(tactic| walk_at "call builtin:len") => `(tactic| ((with_reducible show wpAny _ _ (call (Value.builtin "len") [Value.ref (BookA.B _)]) _ _ _); k_dflt (refine dlen (by k_asm) (by k_mem) (BookOk.lo (by assumption)) (BookOk.dict (by assumption)) (by rw [BookA.kvs_len]; omega) _ (by rw [BookA.kvs_len, BookOk.len (by assumption)]) ?_)))
set_option maxHeartbeats 8000000 in
theorem put_sp (w : World) (t : TreeA) (nds : List Nd) (b : BookA) (kd : Kd) (p : Nat) (pt kw : Tok) (hkd : kd ≠ .root) (hn : ∃ n, nds[p]? = some n ∧ (n.kd = .elem ∨ (n.kd = .root ∧ kd = .elem))) (T : TreeOk t nds) (B : BookOk w b nds) (hs : nds.length < 800) :
    Sp w 20 304 [.ref t.T, .ref b.B, .int p pt, .str (Str.ofString (wordOf kd)) kw] (stLg w.params t b) (fun v lg' => ∃ t' b' k, v = .int nds.length k ∧ lg' = stLg w.params t' b' ∧ t'.T = t.T ∧ b'.B = b.B ∧ TreeOk t' (nds ++ [⟨kd, some p⟩]) ∧ BookOk w b' (nds ++ [⟨kd, some p⟩])) := by
  intro dp frs gd un h₀ L m s Q E C hd hu F N nd hQ
  have hbl := B.len
  unfold stLg treeHd at N
  simp only [List.cons_append, List.nil_append] at N
  walk_at "m_open"
  walk1
  walk1
  refine cut (s := s) (by k_asm) (fun m₀ m' lg => ∃ t' k, m' = (fun y => if y = Str.ofString "node" then some (.int nds.length k) else m₀ y) ∧ lg = stLg w.params t' b ∧ (adrs lg).Nodup ∧ t'.T = t.T ∧ TreeOk t' (nds ++ [⟨kd, some p⟩])) ?_ ?_
  · have pm := stLg_perm w.params t b
    have nd9 := nodup_perm nd pm
    walk_at "m_steps"
    · have hk : kd = .ns := by
        rename ((Str.ofString (wordOf kd) == _) = true) => h9
        revert h9; cases kd <;> first | (intro _; rfl) | (intro h; exact absurd h (by decide))
      subst hk
      refine Sp.use (add_namespace_sp w t nds p _ _ _ (by obtain ⟨n, h1, h2⟩ := hn; exact ⟨n, h1, h2.elim id (fun h => by cases h.2)⟩) T hs) (bookLg b) (by walk_at "m_cx") (by walk_at "m_room") (by walk_at "m_room") (by k_asm) (by k_asm) (fun x hx => pm.mem_iff.mpr hx) nd9 ?_
      rintro _ _ h2 tk2 F2 N2 nd2 kp2 fr2 ⟨t', kq, rfl, rfl, hT, hT2⟩
      walk_at "m_steps"
      exact Mid.intro (by k_asm) (News.sub' (l' := stLg w.params t' b) (by k_asm) (fun x hx => (stLg_perm w.params t' b).mem_iff.mp hx)) ⟨t', kq, rfl, rfl, nodup_perm nd2 (stLg_perm w.params t' b).symm, hT, hT2⟩
    · have hk : kd = .attr := by
        rename ((Str.ofString (wordOf kd) == _) = true) => h9
        revert h9; cases kd <;> first | (intro _; rfl) | (intro h; exact absurd h (by decide))
      subst hk
      refine Sp.use (set_attribute_sp w t nds p _ _ _ _ _ _ (by obtain ⟨n, h1, h2⟩ := hn; exact ⟨n, h1, h2.elim id (fun h => by cases h.2)⟩) T hs) (bookLg b) (by walk_at "m_cx") (by walk_at "m_room") (by walk_at "m_room") (by k_asm) (by k_asm) (fun x hx => pm.mem_iff.mpr hx) nd9 ?_
      rintro _ _ h2 tk2 F2 N2 nd2 kp2 fr2 ⟨t', kq, rfl, rfl, hT, hT2⟩
      walk_at "m_steps"
      exact Mid.intro (by k_asm) (News.sub' (l' := stLg w.params t' b) (by k_asm) (fun x hx => (stLg_perm w.params t' b).mem_iff.mp hx)) ⟨t', kq, rfl, rfl, nodup_perm nd2 (stLg_perm w.params t' b).symm, hT, hT2⟩
    · have hk : kd = .text := by
        rename ((Str.ofString (wordOf kd) == _) = true) => h9
        revert h9; cases kd <;> first | (intro _; rfl) | (intro h; exact absurd h (by decide))
      subst hk
      refine Sp.use (add_text_sp w t nds (some p) _ _ _ ⟨_, rfl⟩ (by intro q hq; cases hq; obtain ⟨n, h1, h2⟩ := hn; exact ⟨n, h1, .inr (h2.elim id (fun h => by cases h.2))⟩) T hs) (bookLg b) (by walk_at "m_cx") (by walk_at "m_room") (by walk_at "m_room") (by k_asm) (by k_asm) (fun x hx => pm.mem_iff.mpr hx) nd9 ?_
      rintro _ _ h2 tk2 F2 N2 nd2 kp2 fr2 ⟨t', kq, rfl, rfl, hT, hT2⟩
      walk_at "m_steps"
      exact Mid.intro (by k_asm) (News.sub' (l' := stLg w.params t' b) (by k_asm) (fun x hx => (stLg_perm w.params t' b).mem_iff.mp hx)) ⟨t', kq, rfl, rfl, nodup_perm nd2 (stLg_perm w.params t' b).symm, hT, hT2⟩
    · have hk : kd = .elem := by
        rename ((Str.ofString (wordOf kd) == Str.ofString "namespace") = false) => h9
        rename ((Str.ofString (wordOf kd) == Str.ofString "attribute") = false) => h8
        rename ((Str.ofString (wordOf kd) == Str.ofString "text") = false) => h7
        revert h9 h8 h7 hkd; cases kd <;> first | (intro _ _ _ _; rfl) | (intro h; exact absurd rfl h) | (intro _ h; exact absurd h (by decide)) | (intro _ _ h; exact absurd h (by decide)) | (intro _ _ _ h; exact absurd h (by decide))
      subst hk
      refine Sp.use (add_element_sp w t nds (some p) _ _ _ _ _ _ _ ⟨_, rfl⟩ (by intro q hq; cases hq; obtain ⟨n, h1, h2⟩ := hn; exact ⟨n, h1, h2.elim .inr (fun h => .inl h.1)⟩) T hs) (bookLg b) (by walk_at "m_cx") (by walk_at "m_room") (by walk_at "m_room") (by k_asm) (by k_asm) (fun x hx => pm.mem_iff.mpr hx) nd9 ?_
      rintro _ _ h2 tk2 F2 N2 nd2 kp2 fr2 ⟨t', kq, rfl, rfl, hT, hT2⟩
      walk_at "m_steps"
      exact Mid.intro (by k_asm) (News.sub' (l' := stLg w.params t' b) (by k_asm) (fun x hx => (stLg_perm w.params t' b).mem_iff.mp hx)) ⟨t', kq, rfl, rfl, nodup_perm nd2 (stLg_perm w.params t' b).symm, hT, hT2⟩
  · rintro h' tk' m' lg F1 N1 ⟨t', kq, rfl, rfl, nd1, hT, hT2⟩
    unfold stLg treeHd at N1
    simp only [List.cons_append, List.nil_append] at N1
    walk_at "m_steps"
    rename_i v9 hv9 D9 h9 F9 N9 l9
    have hv : ∃ k, v9 = .int kd.sort k := by
      revert hv9
      cases kd
      · exact absurd rfl hkd
      · intro h; cases (show Reads default v9 (.int 2) [] from h default); exact ⟨_, rfl⟩
      · intro h; cases (show Reads default v9 (.int 2) [] from h default); exact ⟨_, rfl⟩
      · intro h; cases (show Reads default v9 (.int 1) [] from h default); exact ⟨_, rfl⟩
      · intro h; cases (show Reads default v9 (.int 0) [] from h default); exact ⟨_, rfl⟩
    obtain ⟨k9, rfl⟩ := hv
    have lt9 : AllLt D9 (stLg w.params t' b) := ⟨l9.2.1, l9.2.2.1, l9.2.2.2.1, l9.2.2.2.2.1, l9.2.2.2.2.2⟩
    have nin : D9 ∉ adrs (stLg w.params t' b) := fun hm => by
      obtain ⟨q, hq, e⟩ := List.mem_map.mp hm
      have := ktn_ltOf lt9 q hq
      rw [e] at this; exact absurd this (Nat.lt_irrefl _)
    have ne9 := ne_front (d := b.B) (o := b.o) (others := treeHd w.params t' ++ (b.ts.map tupLg ++ t'.rows.flatMap (rowLg w.params))) nd1 (by
      unfold stLg
      generalize treeHd w.params t' = X
      walk_at "m_perm")
    refine dset (knd := intKind _ w) (k := (nds.length : Int)) (kvs := b.kvs) ((D9, tupObj [.int p pt, .int kd.sort k9]) :: (treeHd w.params t' ++ (b.ts.map tupLg ++ t'.rows.flatMap (rowLg w.params)))) (by simp [intKind, Value.isInt]) F9 N9 ?_ ?_ B.dict (by rw [BookA.kvs_len, hbl]; have : sizeLine = 2 ^ 24 := rfl; omega) ?_
    · intro q hq
      simp only [treeHd, List.mem_append, List.mem_cons, List.not_mem_nil, or_false] at hq ⊢
      rcases hq with h | h | (h | h | h) | h | h <;> simp [h]
    · exact List.forall_mem_cons.mpr ⟨fun e => nin (by have e' : D9 = b.B := e; rw [e']; exact List.mem_map.mpr ⟨(b.B, b.o), List.mem_append.mpr (.inr (.head _)), rfl⟩), ne9⟩
    · intro h3 o3 F3 N3 hd3
      walk_at "m_steps"
      have e3 : ({ B := b.B, o := o3, ts := b.ts ++ [⟨D9, .int p pt, .int kd.sort k9⟩] } : BookA).kvs = PySem.stored b.kvs (nds.length : Int) (.ref D9) := by
        rw [← hbl, BookA.stored]
        exact BookA.kvs_add b _
      have nd3 : (adrs (stLg w.params t' { B := b.B, o := o3, ts := b.ts ++ [⟨D9, .int p pt, .int kd.sort k9⟩] })).Nodup := by
        have h1 : (adrs ((D9, tupObj [.int p pt, .int kd.sort k9]) :: stLg w.params t' b)).Nodup := List.nodup_cons.mpr ⟨nin, nd1⟩
        have h2 : (adrs ((D9, tupObj [.int p pt, .int kd.sort k9]) :: stLg w.params t' { b with o := o3 })).Nodup := h1
        refine nodup_perm h2 ?_
        simp only [stLg, List.map_append, List.map_cons, List.map_nil]
        generalize treeHd w.params t' = X
        generalize List.map tupLg b.ts = Y
        generalize List.flatMap (rowLg w.params) t'.rows = Z
        show List.Perm ((D9, tupObj [.int p pt, .int kd.sort k9]) :: (X ++ (b.B, o3) :: (Y ++ Z))) (X ++ (b.B, o3) :: ((Y ++ [(D9, tupObj [.int p pt, .int kd.sort k9])]) ++ Z))
        generalize (D9, tupObj [.int p pt, .int kd.sort k9]) = U
        generalize (b.B, o3) = V
        walk_at "m_perm"
      refine Lv.fin hQ (fun _ : Unit => stLg w.params t' { B := b.B, o := o3, ts := b.ts ++ [⟨D9, .int p pt, .int kd.sort k9⟩] }) () (by k_asm) (by k_asm) ?_ nd3 ⟨t', _, kq, rfl, rfl, hT, rfl, hT2, ⟨B.lo, by simp [hbl], e3 ▸ hd3, ?_⟩⟩
      · simp only [stLg, List.map_append, List.map_cons, List.map_nil]
        intro q hq
        simp only [List.mem_append, List.mem_cons, List.not_mem_nil, or_false] at hq ⊢
        rcases hq with hq | hq | (hq | hq) | hq
        · exact .inr (.inr (.inl hq))
        · exact .inl hq
        · exact .inr (.inr (.inr (.inl hq)))
        · exact .inr (.inl hq)
        · exact .inr (.inr (.inr (.inr hq)))
      · intro i x n hx hn'
        by_cases hi : i = nds.length
        · subst hi
          have e1 : (b.ts ++ [⟨D9, .int p pt, .int kd.sort k9⟩])[nds.length]? = some ⟨D9, .int p pt, .int kd.sort k9⟩ := by simp [← hbl]
          have e2 : (nds ++ [⟨kd, some p⟩])[nds.length]? = some ⟨kd, some p⟩ := by simp
          rw [e1] at hx; rw [e2] at hn'
          cases hx; cases hn'
          exact ⟨⟨_, rfl⟩, _, rfl⟩
        · have hil : i < nds.length := by
            have := (List.getElem?_eq_some_iff.mp hn').1
            simp at this; omega
          rw [List.getElem?_append_left hil] at hn'
          have hx' : (b.ts ++ [⟨D9, .int p pt, .int kd.sort k9⟩])[i]? = some x := hx
          rw [List.getElem?_append_left (by omega)] at hx'
          exact B.tup i x n hx' hn'
end
end
theorem mul_ite_nonneg {a : Int} {p : Prop} [Decidable p] (h : 0 ≤ a) : 0 ≤ a * (if p then 1 else 0) := by
  split
  · rw [Int.mul_one]; exact h
  · rw [Int.mul_zero]; exact Int.le_refl 0
/-- the pool of draws: two ints -/
noncomputable def Src (aS : Addr) (e : Addr × Obj) : Prop := ∃ x t y u n, e = (aS, listOf #[.int x t, .int y u] n) ∧ 0 ≤ x ∧ 0 ≤ y ∧ y < 2147483647
theorem take_go (w : World) {aS : Addr} {e : Addr × Obj} (S : Src aS e) (top : Int) (tt : Tok) (h0 : 0 < top) (hup : top < 1000) :
    Sp w 5 290 [.ref aS, .int top tt] [e] (fun v lg' => ∃ r tr e', v = .int r tr ∧ 0 ≤ r ∧ r < top ∧ lg' = [e'] ∧ Src aS e') := by
  obtain ⟨x, t, y, u, n, rfl, h1, h2, h3⟩ := S
  intro dp frs gd un h₀ L m s Q E C hd hu F N nd hQ
  refine take_sp w aS x y t u n top tt h1 h2 h3 h0 hup dp frs gd un h₀ L m s Q E C hd hu F N nd fun v lg' h' tk' F' N' nd' kp fr po => ?_
  obtain ⟨r, tr, x', t', y', u', n', rfl, hr1, hr2, rfl, hx, hy1, hy2⟩ := po
  exact hQ _ _ _ _ F' N' nd' kp fr ⟨r, tr, _, rfl, hr1, hr2, rfl, x', t', y', u', n', rfl, hx, hy1, hy2⟩
set_option maxHeartbeats 8000000 in
theorem one_sp (w : World) (aS l : Addr) (x y : Int) (t u : Tok) (n : Nat) (vs : Array Value) (nn : Nat) (hx : 0 ≤ x) (hy : 0 ≤ y) (hy2 : y < 2147483647) (h0 : 0 < vs.size) (hup : vs.size < 1000) :
    Sp w 9 297 [.ref aS, .ref l] [(aS, listOf #[.int x t, .int y u] n), (l, listOf vs nn)] (fun v lg' => ∃ (i : Nat) (e' : Addr × Obj), vs[i]? = some v ∧ lg' = [e', (l, listOf vs nn)] ∧ Src aS e') := by
  intro dp frs gd un h₀ L m s Q E C hd hu F N nd hQ
  walk_at "m_open"
  walk_at "m_steps"
  refine Sp.use (take_go w ⟨x, t, y, u, n, rfl, hx, hy, hy2⟩ _ _ (by omega) (by omega)) [(l, listOf vs nn)] (by walk_at "m_cx") (by walk_at "m_room") (by walk_at "m_room") (by k_asm) (by k_asm) (by walk_at "m_sub") nd ?_
  rintro _ _ h2 tk2 F2 N2 nd2 kp2 fr2 ⟨r, kr, e', rfl, hr0, hr1, rfl, S⟩
  have hi : vs[r.toNat]? = some (vs[r.toNat]'(by omega)) := Array.getElem?_eq_getElem _
  simp only [List.cons_append, List.nil_append] at N2
  walk_at "m_steps"
  refine Lv.fin hQ (fun _ : Unit => [e', (l, listOf vs nn)]) () (by k_asm) (by k_asm) (fun _ h => h) nd2 ⟨r.toNat, e', ?_, rfl, S⟩
  exact hi
theorem one_go (w : World) {aS : Addr} {e : Addr × Obj} (S : Src aS e) (l : Addr) (vs : Array Value) (nn : Nat) (h0 : 0 < vs.size) (hup : vs.size < 1000) :
    Sp w 9 297 [.ref aS, .ref l] [e, (l, listOf vs nn)] (fun v lg' => ∃ (i : Nat) (e' : Addr × Obj), vs[i]? = some v ∧ lg' = [e', (l, listOf vs nn)] ∧ Src aS e') := by
  obtain ⟨x, t, y, u, n, rfl, h1, h2, h3⟩ := S
  exact one_sp w aS l x y t u n vs nn h1 h2 h3 h0 hup
noncomputable def lineOf (nds : List Nd) (i : Nat) : List Nat :=
  i :: match nds[i]? with
    | some n => (match n.par with | some p => if p < i then lineOf nds p else [] | none => [])
    | none => []
termination_by i
noncomputable def WEnd (h₀ : Heap) (L : Addr) (s : Shared) (J : Nat → (Str → Option Value) → List (Addr × Obj) → Prop) (Q : Flow → Shared → Prop) (n : Nat) (f : Flow) (s₃ : Shared) : Prop := WhileStep2 h₀ L s J Q n f s₃
theorem WEnd.intro {h₀ h' : Heap} {L : Addr} {s : Shared} {J : Nat → (Str → Option Value) → List (Addr × Obj) → Prop} {Q : Flow → Shared → Prop} {n n' : Nat} {m : Str → Option Value} {news : List (Addr × Obj)} {tk : Nat}
    (F : Fr h₀ L h' m) (N : News h₀ L h' news) (hn : n' < n) (j : J n' m news) : WEnd h₀ L s J Q n .next { s with heap := h', toks := tk } := ⟨h', tk, m, news, n', rfl, F, N, hn, j⟩
theorem while_m {prog : Program} {w : World} {A : Around} {E : Value → Shared → Prop} {Q : Flow → Shared → Prop} {s : Shared} {env : Env} {h₀ : Heap} {L : Addr} {test : Expr} {body : List Stmt} {pos : Pos} {m₀ : Str → Option Value} {news : List (Addr × Obj)} {hp : Heap} {tk : Nat}
    (F : Fr h₀ L hp m₀) (N : News h₀ L hp news) (J : (Str → Option Value) → Nat → (Str → Option Value) → List (Addr × Obj) → Prop) {n₀ : Nat} (hJ : J m₀ n₀ m₀ news)
    (turn : ∀ n m₁ news₁ h₁ tk₁, Fr h₀ L h₁ m₁ → News h₀ L h₁ news₁ → J m₀ n m₁ news₁ →
      wpAny (model prog w) A (isTrue test env (eval test env)) (fun b s₂ =>
        if b = true then wpAny (model prog w) A (execs body env) (WEnd h₀ L s (J m₀) Q n) E s₂ else Q .next s₂) E { s with heap := h₁, toks := tk₁ })
    (hE : PassesOwn (model prog w) A env E := by passes_own) :
    wpAny (model prog w) A (exec (.While test body [] pos) env) Q E { s with heap := hp, toks := tk } :=
  While_inv2 (s := { s with heap := hp, toks := tk }) (J m₀) F N hJ (fun n m₁ news₁ h₁ tk₁ F₁ N₁ J₁ => turn n m₁ news₁ h₁ tk₁ F₁ N₁ J₁) hE
section
variable {w : World} {A : Around} {E : Value → Shared → Prop} {s : Shared} {h₀ : Heap} {L : Addr} {all : List (Addr × Obj)} {value slice : Expr}
theorem item_last {l : Addr} {pre : List Value} {v : Value} {u : Tok} {Q : Value → Shared → Prop} {prog : Program} (hl : s.heap.IsList l (pre ++ [v]).toArray) (hz : pre.length < 100000) (h : Q v s)
    (hs : subscripted slice false (.ref l) (.int (-1) u) = operate [.ref l, .int (-1) u] (getItem (.ref l) (.int (-1) u)) := by with_unfolding_all rfl) : wpAny (model prog w) A (subscriptTail value slice (.ref l) (.int (-1) u)) Q E s := by
  refine tail_any hl.typeIs slot_list_getitem.lookup (wpAny_getItem_list_neg hl (by decide) ?_ (by decide) ?_ h) hs
  · simp; omega
  · have e : ((-1 : Int) + ((pre ++ [v]).toArray.size : Nat)).toNat = pre.length := by simp; omega
    rw [e]; simp
theorem book_item {b : BookA} {nds : List Nd} {j : Nat} {k : Tok} {x : TupA} {Q : Value → Shared → Prop} (N : News h₀ L s.heap all) (hm : (b.B, b.o) ∈ all) (B : BookOk w b nds) (hx : b.ts[j]? = some x) (h : Q (.ref x.a) { s with toks := s.toks + 1 })
    (hs : subscripted slice false (.ref b.B) (.int j k) = operate [.ref b.B, .int j k] (getItem (.ref b.B) (.int j k)) := by with_unfolding_all rfl) :
    wpAny (model PySem.Challenge.rw_xw0206_01.row.prog w) A (subscriptTail value slice (.ref b.B) (.int j k)) Q E s :=
  have hd : s.heap.DictOf (intKind PySem.Challenge.rw_xw0206_01.row.prog w) b.B b.kvs := Heap.dictOf_iff.mpr ⟨b.o, (N _ hm).1, B.dict⟩
  tail_any hd.typeIs slot_dict_getitem.lookup (wpAny_getItem_of (knd := intKind _ w) (k := (j : Int)) (by simp [intKind, Value.isInt]) hd.mapOf (BookA.kvs_at B.nodup hx) h) hs
theorem tup_item0 {x : TupA} {u : Tok} {Q : Value → Shared → Prop} {prog : Program} (N : News h₀ L s.heap all) (hm : (x.a, tupObj [x.pv, x.sv]) ∈ all) (h : Q x.pv s)
    (hs : subscripted slice false (.ref x.a) (.int 0 u) = operate [.ref x.a, .int 0 u] (getItem (.ref x.a) (.int 0 u)) := by with_unfolding_all rfl) : wpAny (model prog w) A (subscriptTail value slice (.ref x.a) (.int 0 u)) Q E s :=
  item_tupleT (l := [x.pv, x.sv]) (j := 0) (News.isTup N hm) (by decide) (by decide) rfl rfl h hs
theorem tup_item1 {x : TupA} {u : Tok} {Q : Value → Shared → Prop} {prog : Program} (N : News h₀ L s.heap all) (hm : (x.a, tupObj [x.pv, x.sv]) ∈ all) (h : Q x.sv s)
    (hs : subscripted slice false (.ref x.a) (.int 1 u) = operate [.ref x.a, .int 1 u] (getItem (.ref x.a) (.int 1 u)) := by with_unfolding_all rfl) : wpAny (model prog w) A (subscriptTail value slice (.ref x.a) (.int 1 u)) Q E s :=
  item_tupleT (l := [x.pv, x.sv]) (j := 1) (News.isTup N hm) (by decide) (by decide) rfl rfl h hs
end
local macro_rules | `(tactic| walk_at "compareOp") => `(tactic| ((with_reducible show wpAny _ _ (compareOp _ (TupA.pv _) _) _ _ _); (rename (TupA.pv _ = _) => hk9); rw [hk9]))
local macro_rules | `(tactic| walk_at "subscriptTail") => `(tactic| ((with_reducible show wpAny _ _ (subscriptTail _ _ (Value.ref (BookA.B _)) (Value.int _ _)) _ _ _); k_dflt (refine book_item (by k_asm) (by k_mem) (by assumption) (by assumption) ?_)))
local macro_rules | `(tactic| walk_at "subscriptTail") => `(tactic| ((with_reducible show wpAny _ _ (subscriptTail _ _ (Value.ref _) (Value.int (-1) _)) _ _ _); k_dflt (refine item_last (News.isList (by k_asm) (by k_mem)) (by omega) ?_)))
local macro_rules | `(tactic| walk_at "subscriptTail") => `(tactic| ((with_reducible show wpAny _ _ (subscriptTail _ _ (Value.ref (TupA.a _)) (Value.int 0 _)) _ _ _); k_dflt (refine tup_item0 (by k_asm) (by k_mem) ?_)))
local macro_rules | `(tactic| walk_at "subscriptTail") => `(tactic| ((with_reducible show wpAny _ _ (subscriptTail _ _ (Value.ref (TupA.a _)) (Value.int 1 _)) _ _ _); k_dflt (refine tup_item1 (by k_asm) (by k_mem) ?_)))
set_option maxHeartbeats 8000000 in
theorem line_sp (w : World) (b : BookA) (nds : List Nd) (i : Nat) (ki : Tok) (B : BookOk w b nds) (hi : i < nds.length) (hs : nds.length < 800) (hpar : ∀ (i : Nat) (n : Nd) (p : Nat), nds[i]? = some n → n.par = some p → p < i) :
    Sp w 5 311 [.ref b.B, .int i ki] (bookLg b) (fun v lg' => ∃ own, lg' = own ++ bookLg b ∧ ∃ l vs c, v = .ref l ∧ own = [(l, listOf (List.toArray vs) c)] ∧ IntsAre vs (nints (lineOf nds i))) := by
  intro dp frs gd un h₀ L m s Q E C hd hu F N nd hQ
  have hbl := B.len
  unfold bookLg at N
  walk_at "m_open"
  walk_at "m_steps"
  rename_i l9 h8 lt9 h9 F9 N9
  refine while_m (s := s) F9 N9 (fun m₀ n m₁ news₁ => m₁ = m₀ ∧ ∃ (kj : Tok) (vs : List Value) (pre : List Nat) (c : Nat), n < nds.length ∧ news₁ = (l9, listOf (vs ++ [Value.int (n : Int) kj]).toArray c) :: (b.B, b.o) :: b.ts.map tupLg ∧ IntsAre vs (nints pre) ∧ pre.length + n ≤ i ∧ pre ++ lineOf nds n = lineOf nds i) (n₀ := i) ⟨rfl, ki, [], [], 0, hi, rfl, .nil, by simp, rfl⟩ ?_
  rintro j m₁ news₁ h₁ tk₁ F1 N1 ⟨rfl, kj, vs, pre, c, hj, rfl, hvs, hlen, hl⟩
  have hjb : j < b.ts.length := by omega
  have hx : b.ts[j]? = some b.ts[j] := List.getElem?_eq_getElem hjb
  have hn : nds[j]? = some nds[j] := List.getElem?_eq_getElem hj
  obtain ⟨hpv, -⟩ := B.tup j _ _ hx hn
  have hxm : tupLg b.ts[j] ∈ b.ts.map tupLg := List.mem_map_of_mem (List.getElem_mem hjb)
  generalize b.ts[j] = x at hx hpv hxm
  have hvl : vs.length < 100000 := by
    have := hvs.length
    simp only [nints, List.length_map] at this
    omega
  unfold tupLg at hxm
  cases hp : nds[j].par with
  | none =>
    rw [hp] at hpv
    replace hpv : x.pv = .none := hpv
    walk_at "m_steps"
    have e : lineOf nds j = [j] := by rw [lineOf, hn]; simp only [hp]
    refine Lv.own1 hQ (by k_asm) (by k_asm) nd lt9 ⟨l9, _, c, rfl, rfl, ?_⟩
    rw [← hl, e]
    simp only [nints, List.map_append, List.map_cons, List.map_nil]
    exact hvs.append (.cons _ _ .nil)
  | some p =>
    rw [hp] at hpv
    obtain ⟨kp, hpv⟩ := hpv
    walk_at "m_steps"
    rename_i F8 N8
    rename (x.pv = _) => hk9
    rw [hk9, List.push_toArray] at N8
    have hpj := hpar j _ p hn hp
    have e : lineOf nds j = j :: lineOf nds p := by rw [lineOf, hn]; simp only [hp]; rw [if_pos hpj]
    refine WEnd.intro (by k_asm) N8 hpj ⟨rfl, kp, vs ++ [Value.int (j : Int) kj], pre ++ [j], c + 1, by omega, rfl, ?_, ?_, ?_⟩
    · simp only [nints, List.map_append, List.map_cons, List.map_nil]
      exact hvs.append (.cons _ _ .nil)
    · simp only [List.length_append, List.length_cons, List.length_nil]; omega
    · rw [← hl, e]; simp
section
variable {prog : Program} {w : World} {A : Around} {E : Value → Shared → Prop} {s : Shared}
theorem hash_none {Q : Int → Shared → Prop} (h : Q 4238894112 { s with toks := s.toks + 1 }) : wpAny (model prog w) A (pyHash .none) Q E s := by
  show wpAny (model prog w) A (pyHashByItsType .none) Q E s
  unfold pyHashByItsType
  have hT : s.TypeIs .none "NoneType" := rfl
  have hv : [Value.none].any Value.onHeap = false := rfl
  refine wpAny_bind (wpAny_cRoomFor_byValue hv ?_)
  refine wpAny_bind (wpAny_specialOf hT F.slot_NoneType_hash.lookup ?_)
  rw [if_neg (by decide)]
  refine wpAny_bind (wpAny_specialOf hT F.slot_NoneType_hash.lookup ?_)
  rw [if_neg (by decide)]
  refine wpAny_bind (wpAny_callSpecialIfBoundUnlessNone?_slot hT F.slot_NoneType_hash
    (wpAny_call_entry F.slot_NoneType_hash hT F.entry_NoneType_hash (show wpAny _ _ (do ret (← mkInt 0xFCA86420)) _ _ s from wpAny_ret_mkInt ?_) (F.args_NoneType_hash_1 _)))
  exact wpAny_pure (show Q (if ((4238894112 : Int) == -1) = true then -2 else 4238894112) _ from by rw [if_neg (by decide)]; exact h)
noncomputable def isOpt : Option Int → Value → Bool
  | none, .none => true
  | some i, v => Value.isInt i v
  | none, _ => false
theorem isOpt_none {v : Value} (h : isOpt none v = true) : v = .none := by cases v <;> first | rfl | cases h
noncomputable def optKind (prog : Program) (w : World) : KeyKind prog w (Option Int) where
  is := isOpt
  hash := fun k => match k with | none => 4238894112 | some i => hashInt i
  inj := fun v a b ha hb => by
    cases a with
    | none =>
      obtain rfl := isOpt_none ha
      cases b with
      | none => rfl
      | some j => cases hb
    | some i =>
      obtain ⟨t, rfl⟩ := Value.isInt_shape ha
      cases b with
      | none => cases hb
      | some j => rw [Value.isInt_inj (.int i t) i j ha hb]
  byValue := fun k v h => by
    cases k with
    | none => obtain rfl := isOpt_none h; rfl
    | some i => obtain ⟨t, rfl⟩ := Value.isInt_shape h; rfl
  pyHash := fun {A E s k v Q} hv h => by
    cases k with
    | none => obtain rfl := isOpt_none hv; exact hash_none h
    | some i => obtain ⟨t, rfl⟩ := Value.isInt_shape hv; exact wpAny_pyHash_int h
  eqBool := fun {A E s a b u v Q} hu hv h => by
    cases a with
    | none =>
      obtain rfl := isOpt_none hu
      cases b with
      | none =>
        obtain rfl := isOpt_none hv
        unfold PySem.eqBool
        refine wpAny_holding ?_
        rw [if_pos (by decide)]
        exact wpAny_bind (wpAny_rule (wpAny_pure (by simpa using h)))
      | some j =>
        obtain ⟨t, rfl⟩ := Value.isInt_shape hv
        unfold PySem.eqBool
        refine wpAny_holding ?_
        rw [if_neg (by simp)]
        exact wpAny_bind (EqNone.eq_none_int (wpAny_truthy_bool (by simpa using h)))
    | some i =>
      obtain ⟨t, rfl⟩ := Value.isInt_shape hu
      cases b with
      | none =>
        obtain rfl := isOpt_none hv
        unfold PySem.eqBool
        refine wpAny_holding ?_
        rw [if_neg (by simp)]
        exact wpAny_bind (EqNone.eq_int_none (wpAny_truthy_bool (by simpa using h)))
      | some j =>
        obtain ⟨u, rfl⟩ := Value.isInt_shape hv
        refine wpAny_eqBool_int ?_
        have e : (i == j) = decide (some i = some j) := by by_cases h : i = j <;> simp [h]
        rw [e]; exact h
  «strs» := fun k x t v h => by
    cases k with
    | none => cases h
    | some i => simp [isOpt, Value.isInt] at h
end
section
variable {prog : Program} {w : World} {A : Around} {E : Value → Shared → Prop} {s : Shared} {h₀ : Heap} {L : Addr} {m : Str → Option Value} {K : Type} [DecidableEq K] {knd : KeyKind prog w K} {d : Addr} {o : Obj} {kvs : List (K × Value)} {k : K} {key v : Value} {all : List (Addr × Obj)}
theorem lappend {a : Addr} {its : Array Value} {n : Nat} {x : Value} {Q : Value → Shared → Prop} (others : List (Addr × Obj)) (F : Fr h₀ L s.heap m) (N : News h₀ L s.heap all) (hs : ∀ p ∈ (a, listOf its n) :: others, p ∈ all) (hne : ∀ p ∈ others, p.1 ≠ a) (hsz : its.size ≤ sizeLine)
    (h : ∀ h', Fr h₀ L h' m → News h₀ L h' ((a, listOf (its.push x) (n + 1)) :: others) → Q .none { s with heap := h' }) : wpAny (model prog w) A (call (.builtin "list.append") [.ref a, x]) Q E s :=
  append_K F (News.sub' N hs) (Upd.head hne) h hsz
theorem sd_pairs {dflt : Value} {Q : Value → Shared → Prop} (hkey : knd.is k key = true) (hm : s.heap.DictOf knd d kvs)
    (hthere : ∀ v, valueAt kvs k = some v → Q v { s with toks := s.toks + 1 })
    (hnew : valueAt kvs k = none → ∀ h', h'.DictOf knd d (kvs ++ [(k, dflt)]) → Heap.SameBut d s.heap h' → Q dflt { s with heap := h', toks := s.toks + 1 })
    (hsz : kvs.length ≤ sizeLine) : wpAny (model prog w) A (dictSetDefault d key dflt) Q E s := by
  have hmap := hm.mapOf
  obtain ⟨o, es, ep, ho, hc, hd, hk, hp, hn⟩ := hm
  have hes : es.size ≤ sizeLine := by
    have e1 := hp.length
    have e2 : es.toList.length = es.size := by simp
    omega
  have hval : (findBy knd.is es k) = valueAt kvs k := by
    rw [← hp.find k]; obtain ⟨l⟩ := es; simp [findBy]
  unfold dictSetDefault
  try with_reducible refine wpAny_holding ?_
  refine wpAny_bind (knd.pyHash hkey ?_)
  refine wpAny_bind (wpAny_dictFind_of (s := { s with toks := s.toks + 1 }) hkey ho hd hk ?_)
  have hidx : (es.findIdx? fun e => knd.is k e.key) = kvs.findIdx? fun kv => decide (kv.1 = k) := by
    rw [← hp.findIdx k]; obtain ⟨l⟩ := es; simp
  cases hi : es.findIdx? fun e => knd.is k e.key with
  | some i =>
    have hfk : valueAt kvs k = (es[i]?).map (·.val) := by rw [← hval, findBy_of_findIdx?, hi]
    refine wpAny_bind (wpAny_dictEntries (s := { s with toks := s.toks + 1 }) ho hd ?_)
    cases he : es[i]? with
    | none =>
      exfalso
      have hlt : i < es.size := (Array.findIdx?_eq_some_iff_findIdx_eq.mp hi).1
      rw [Array.getElem?_eq_getElem hlt] at he
      cases he
    | some e =>
      rw [he] at hfk
      exact wpAny_bind (wpAny_rule (wpAny_pure (hthere e.val hfk)))
  | none =>
    have hfk : valueAt kvs k = none := by rw [← hval, findBy_of_findIdx?, hi]
    have hnot : k ∉ kvs.map (·.1) := not_mem_of_findIdx_none (hidx ▸ hi)
    refine wpAny_bind (wpAny_rule (wpAny_bind (wpAny_updateDictKeys (hz := hes) (s := { s with toks := s.toks + 1 }) ho hd (wpAny_pure (hnew hfk _ ⟨_, _, ep + 1, Heap.get?_update_self _ ho (Obj.isFreed_of_dict (Obj.data_mapDictKeys hd _)),
      hc.mapDictKeys _, Obj.data_mapDictKeys hd _, hk.push hkey _, ?_, ?_⟩ (Heap.SameBut.update ..))))))
    · have := hp.append hkey (knd.hash k) dflt
      obtain ⟨l⟩ := es
      simpa using this
    · rw [List.map_append, List.nodup_append]
      refine ⟨hn, by simp, ?_⟩
      intro a ha b hb
      simp only [List.map_cons, List.map_nil, List.mem_singleton] at hb
      subst hb
      exact fun e => hnot (e ▸ ha)
theorem sd_call {dflt : Value} {Q : Value → Shared → Prop} (others : List (Addr × Obj)) (hkey : knd.is k key = true) (lo : (d == sysModules) = false) (F : Fr h₀ L s.heap m) (N : News h₀ L s.heap all) (hs : ∀ p ∈ (d, o) :: others, p ∈ all) (hne : ∀ p ∈ others, p.1 ≠ d) (hd : o.IsDictOf knd kvs) (hsz : kvs.length ≤ sizeLine)
    (hthere : ∀ v, valueAt kvs k = some v → Q v { s with toks := s.toks + 1 })
    (hnew : valueAt kvs k = none → ∀ h' o', Fr h₀ L h' m → News h₀ L h' ((d, o') :: others) → o'.IsDictOf knd (kvs ++ [(k, dflt)]) → Q dflt { s with heap := h', toks := s.toks + 1 }) :
    wpAny (model prog w) A (call (.builtin "dict.setdefault") [.ref d, key, dflt]) Q E s := by
  have N1 := News.sub' N hs
  have hm := N1 (d, o) (.head _)
  have hD : s.heap.DictOf knd d kvs := Heap.dictOf_iff.mpr ⟨o, hm.1, hd⟩
  refine wpAny_call_entry PySem.F.slot_dict_setdefault hD.typeIs PySem.F.entry_dict_setdefault ?_ (PySem.F.args_dict_setdefault_3 _ _ _)
  unfold Builtin.«dict.setdefault»
  refine wpAny_bind ?_
  unfold Builtin.Dict.keyAndDefault
  refine wpAny_bind (wpAny_notOrdered_dict hD.typeIs ?_)
  show wpAny _ _ (pure (d, key, some dflt)) _ _ s
  refine wpAny_pure ?_
  show wpAny _ _ (if (d == sysModules) = true then _ else (dictSetDefault d key dflt >>= _)) _ _ s
  rw [if_neg (by rw [lo]; exact Bool.false_ne_true)]
  refine wpAny_bind (sd_pairs hkey hD (fun v hv => wpAny_pure ⟨v, rfl, hthere v hv⟩) (fun hn h' hm' hs' => ?_) hsz)
  obtain ⟨o', ho', hd'⟩ := Heap.dictOf_iff.mp hm'
  refine wpAny_pure ⟨dflt, rfl, hnew hn h' o' (F.change hs' hm.2.1 hm.2.2) ?_ hd'⟩
  have := News.setIn (own := []) (rest := others) (d := d) (o := o) (N1 : News h₀ L s.heap ([] ++ (d, o) :: others)) (fun p hp => nomatch hp) hne hs' ho'
  simpa using this
end
structure LA where
  k : Option Nat
  a : Addr
  vs : List Value
  c : Nat
  ns : List Nat
noncomputable def LA.lg (e : LA) : Addr × Obj := (e.a, listOf e.vs.toArray e.c)
noncomputable abbrev oint (k : Option Nat) : Option Int := k.map fun (n : Nat) => (n : Int)
noncomputable def LA.kv (e : LA) : Option Int × Value := (oint e.k, .ref e.a)
noncomputable def LA.put (e : LA) (x : Nat) (v : Value) : LA := { e with vs := e.vs ++ [v], c := e.c + 1, ns := e.ns ++ [x] }
noncomputable def shape (G : List LA) : List (Option Nat × List Nat) := G.map fun e => (e.k, e.ns)
structure FndOk (w : World) (o : Obj) (G : List LA) (bd : Nat) : Prop where
  dict : o.IsDictOf (optKind PySem.Challenge.rw_xw0206_01.row.prog w) (G.map LA.kv)
  iar : ∀ e ∈ G, IntsAre e.vs (nints e.ns)
  len : G.length ≤ bd + 1
  sz : ∀ e ∈ G, e.ns.length ≤ bd
noncomputable def setd (g : List (Option Nat × List Nat)) (k : Option Nat) : List (Option Nat × List Nat) := if k ∈ g.map (·.1) then g else g ++ [(k, [])]
noncomputable def app (g : List (Option Nat × List Nat)) (k : Option Nat) (x : Nat) : List (Option Nat × List Nat) := g.map fun p => if p.1 = k then (p.1, p.2 ++ [x]) else p
theorem oint_inj {a b : Option Nat} (h : oint a = oint b) : a = b := by
  cases a with
  | none => cases b with
    | none => rfl
    | some j => cases h
  | some i => cases b with
    | none => cases h
    | some j => simp only [oint, Option.map_some, Option.some.injEq] at h; rw [Int.ofNat.inj h]
theorem isOpt_oint (k : Option Nat) (v : Value) (h : match k with | none => v = .none | some i => ∃ t, v = .int i t) : isOpt (oint k) v = true := by
  cases k with
  | none => subst h; rfl
  | some i => obtain ⟨t, rfl⟩ := h; simp [isOpt, Value.isInt]
theorem FndOk.keys {w : World} {o : Obj} {G : List LA} {bd : Nat} (h : FndOk w o G bd) : (G.map LA.k).Nodup := by
  obtain ⟨es, ep, _, _, _, _, hn⟩ := h.dict
  rw [List.map_map] at hn
  have e : (G.map ((fun x => x.1) ∘ LA.kv)) = (G.map LA.k).map oint := by rw [List.map_map]; rfl
  rw [e] at hn
  exact (List.pairwise_map.mp hn).imp fun h e => h (congrArg oint e)
theorem app_shape {pre post : List LA} {e : LA} {x : Nat} {v : Value} (hn : ((pre ++ e :: post).map LA.k).Nodup) : shape (pre ++ e.put x v :: post) = app (shape (pre ++ e :: post)) e.k x := by
  rw [List.map_append, List.map_cons, List.nodup_append] at hn
  obtain ⟨_, h2, h3⟩ := hn
  have h4 := (List.nodup_cons.mp h2).1
  unfold shape app
  simp only [List.map_append, List.map_cons, List.map_map]
  refine congr (congrArg _ ?_) (congr (congrArg _ ?_) ?_)
  · refine List.map_congr_left fun p hp => ?_
    have : p.k ≠ e.k := h3 _ (List.mem_map_of_mem hp) _ (.head _)
    simp [this]
  · simp [LA.put]
  · refine List.map_congr_left fun p hp => ?_
    have : p.k ≠ e.k := fun h => h4 (h ▸ List.mem_map_of_mem hp)
    simp only [Function.comp, this, if_false]
section
variable {w : World} {A : Around} {E : Value → Shared → Prop} {s : Shared} {h₀ : Heap} {L : Addr} {m : Str → Option Value} {all : List (Addr × Obj)} {D a : Addr} {o : Obj} {G : List LA} {bd ca : Nat} {k : Option Nat} {key : Value}
theorem valueAt_kv {G : List LA} {k : Option Nat} {v : Value} (h : valueAt (G.map LA.kv) (oint k) = some v) : ∃ pre e post, G = pre ++ e :: post ∧ e.k = k ∧ v = .ref e.a := by
  unfold valueAt at h
  obtain ⟨p, hp, rfl⟩ := Option.map_eq_some_iff.mp h
  have hm := List.mem_of_find?_eq_some hp
  have he := List.find?_some hp
  obtain ⟨e, hm', rfl⟩ := List.mem_map.mp hm
  obtain ⟨pre, post, rfl⟩ := List.append_of_mem hm'
  exact ⟨pre, e, post, rfl, oint_inj (of_decide_eq_true he), rfl⟩
theorem valueAt_kv_none {G : List LA} {k : Option Nat} (h : valueAt (G.map LA.kv) (oint k) = none) : k ∉ G.map LA.k := by
  intro hm
  obtain ⟨e, he, rfl⟩ := List.mem_map.mp hm
  unfold valueAt at h
  rw [Option.map_eq_none_iff, List.find?_eq_none] at h
  exact h _ (List.mem_map_of_mem he) (by simp [LA.kv])
theorem shape_keys (G : List LA) : (shape G).map (·.1) = G.map LA.k := by
  unfold shape; rw [List.map_map]; rfl
theorem FndOk.mono {b' : Nat} (h : FndOk w o G bd) (hb : bd ≤ b') : FndOk w o G b' := ⟨h.dict, h.iar, by have := h.len; omega, fun e he => by have := h.sz e he; omega⟩
theorem sd_found {Q : Value → Shared → Prop} (others : List (Addr × Obj)) (hkey : isOpt (oint k) key = true) (lo : (D == sysModules) = false) (F : Fr h₀ L s.heap m) (N : News h₀ L s.heap all)
    (hs : ∀ p ∈ (D, o) :: (a, listOf #[] ca) :: (others ++ G.map LA.lg), p ∈ all) (nd : (adrs ((D, o) :: (a, listOf #[] ca) :: (others ++ G.map LA.lg))).Nodup) (ok : FndOk w o G bd) (hb : bd < 100000)
    (h : ∀ h' tk' o' pre e post, Fr h₀ L h' m → News h₀ L h' ((D, o') :: (others ++ (pre ++ e :: post).map LA.lg)) → (adrs ((D, o') :: (others ++ (pre ++ e :: post).map LA.lg))).Nodup → FndOk w o' (pre ++ e :: post) (bd + 1) → e.k = k → shape (pre ++ e :: post) = setd (shape G) k → Q (.ref e.a) { s with heap := h', toks := tk' }) :
    wpAny (model PySem.Challenge.rw_xw0206_01.row.prog w) A (call (.builtin "dict.setdefault") [.ref D, key, .ref a]) Q E s := by
  have nd1 := List.nodup_cons.mp nd
  have nd2 := List.nodup_cons.mp nd1.2
  refine sd_call (knd := optKind PySem.Challenge.rw_xw0206_01.row.prog w) (k := oint k) ((a, listOf #[] ca) :: (others ++ G.map LA.lg)) hkey lo F N hs (fun p hp e => nd1.1 (List.mem_map.mpr ⟨p, hp, e⟩)) ok.dict ?_ (fun v hv => ?_) (fun hv h' o' F' N' hd' => ?_)
  · have := ok.len; rw [List.length_map]; unfold sizeLine; omega
  · obtain ⟨pre, e, post, rfl, he, rfl⟩ := valueAt_kv hv
    refine h s.heap _ o pre e post F (News.sub' N fun p hp => hs p ?_) (List.nodup_cons.mpr ⟨fun hm => nd1.1 (.tail _ hm), nd2.2⟩) (ok.mono (by omega)) he ?_
    · rcases List.mem_cons.mp hp with rfl | hp
      · exact .head _
      · exact .tail _ (.tail _ hp)
    · unfold setd
      rw [if_pos]
      rw [shape_keys, List.map_append, List.map_cons]
      exact List.mem_append.mpr (.inr (he ▸ .head _))
  · have hk := valueAt_kv_none hv
    have pm : ((D, o') :: (a, listOf #[] ca) :: (others ++ G.map LA.lg)).Perm ((D, o') :: (others ++ (G ++ LA.mk k a [] ca [] :: []).map LA.lg)) := by
      rw [List.map_append]
      show List.Perm _ ((D, o') :: (others ++ (G.map LA.lg ++ [(a, listOf #[] ca)])))
      generalize G.map LA.lg = Z
      letI : DecidableEq (Addr × Obj) := fun _ _ => Classical.propDecidable _
      refine List.perm_iff_count.mpr fun a9 => ?_
      simp only [List.count_append, List.count_cons, List.count_nil]
      omega
    refine h h' _ o' G (LA.mk k a [] ca []) [] F' (News.sub' N' fun p hp => pm.mem_iff.mpr hp) (nodup_perm (b := (D, o') :: (others ++ (G ++ LA.mk k a [] ca [] :: []).map LA.lg)) (a := (D, o') :: (a, listOf #[] ca) :: (others ++ G.map LA.lg)) nd pm) ⟨?_, ?_, ?_, ?_⟩ rfl ?_
    · rw [List.map_append]; exact hd'
    · intro e he
      rcases List.mem_append.mp he with he | he
      · exact ok.iar e he
      · rw [List.mem_singleton.mp he]; exact .nil
    · have := ok.len; simp; omega
    · intro e he
      rcases List.mem_append.mp he with he | he
      · have := ok.sz e he; omega
      · rw [List.mem_singleton.mp he]; simp
    · unfold setd
      rw [if_neg (by rw [shape_keys]; exact hk)]
      unfold shape; rw [List.map_append]; rfl
theorem app_found {Q : Value → Shared → Prop} {pre post : List LA} {e : LA} {x : Nat} {kx : Tok} (others : List (Addr × Obj)) (F : Fr h₀ L s.heap m) (N : News h₀ L s.heap all)
    (hs : ∀ p ∈ (D, o) :: (others ++ (pre ++ e :: post).map LA.lg), p ∈ all) (nd : (adrs ((D, o) :: (others ++ (pre ++ e :: post).map LA.lg))).Nodup) (ok : FndOk w o (pre ++ e :: post) bd) (hb : bd < 200000)
    (h : ∀ h', Fr h₀ L h' m → News h₀ L h' ((D, o) :: (others ++ (pre ++ e.put x (.int x kx) :: post).map LA.lg)) → (adrs ((D, o) :: (others ++ (pre ++ e.put x (.int x kx) :: post).map LA.lg))).Nodup → FndOk w o (pre ++ e.put x (.int x kx) :: post) (bd + 1) → shape (pre ++ e.put x (.int x kx) :: post) = app (shape (pre ++ e :: post)) e.k x → Q .none { s with heap := h' }) :
    wpAny (model PySem.Challenge.rw_xw0206_01.row.prog w) A (call (.builtin "list.append") [.ref e.a, .int x kx]) Q E s := by
  have pm : ∀ e' : LA, ((D, o) :: (others ++ (pre ++ e' :: post).map LA.lg)).Perm (e'.lg :: (D, o) :: (others ++ (pre ++ post).map LA.lg)) := fun e' => by
    rw [List.map_append, List.map_append, List.map_cons]
    generalize pre.map LA.lg = Z
    generalize post.map LA.lg = Y
    letI : DecidableEq (Addr × Obj) := fun _ _ => Classical.propDecidable _
    refine List.perm_iff_count.mpr fun a9 => ?_
    simp only [List.count_append, List.count_cons, List.count_nil]
    omega
  have hm : e ∈ pre ++ e :: post := List.mem_append.mpr (.inr (.head _))
  have hv := ok.iar e hm
  have hz := ok.sz e hm
  have hl := hv.length
  simp only [nints, List.length_map] at hl
  have nd1 := nodup_perm nd (pm e)
  refine lappend ((D, o) :: (others ++ (pre ++ post).map LA.lg)) F N (fun p hp => hs p ((pm e).mem_iff.mpr hp)) (fun p hp eq => (List.nodup_cons.mp nd1).1 (List.mem_map.mpr ⟨p, hp, eq⟩)) (by simp; unfold sizeLine; omega) fun h' F' N' => ?_
  refine h h' F' (News.sub' N' fun p hp => ?_) ?_ ⟨?_, ?_, ?_, ?_⟩ (app_shape ok.keys)
  · have := (pm (e.put x (.int x kx))).mem_iff.mp hp
    rw [show (e.put x (.int x kx)).lg = (e.a, listOf (e.vs.toArray.push (.int x kx)) (e.c + 1)) by simp [LA.lg, LA.put]] at this
    exact this
  · have : adrs ((D, o) :: (others ++ (pre ++ e.put x (.int x kx) :: post).map LA.lg)) = adrs ((D, o) :: (others ++ (pre ++ e :: post).map LA.lg)) := by
      simp only [adrs, List.map_append, List.map_cons]; rfl
    rw [this]; exact nd
  · have : (pre ++ e.put x (.int x kx) :: post).map LA.kv = (pre ++ e :: post).map LA.kv := by simp only [List.map_append, List.map_cons]; rfl
    rw [this]; exact ok.dict
  · intro e' he'
    rcases List.mem_append.mp he' with he' | he'
    · exact ok.iar _ (List.mem_append.mpr (.inl he'))
    · rcases List.mem_cons.mp he' with rfl | he'
      · simp only [LA.put, nints, List.map_append, List.map_cons, List.map_nil]
        exact hv.append (.cons _ _ .nil)
      · exact ok.iar _ (List.mem_append.mpr (.inr (.tail _ he')))
  · have := ok.len
    simp only [List.length_append, List.length_cons] at this ⊢; omega
  · intro e' he'
    rcases List.mem_append.mp he' with he' | he'
    · have := ok.sz _ (List.mem_append.mpr (.inl he')); omega
    · rcases List.mem_cons.mp he' with rfl | he'
      · simp only [LA.put, List.length_append, List.length_cons, List.length_nil]; omega
      · have := ok.sz _ (List.mem_append.mpr (.inr (.tail _ he'))); omega
end
noncomputable def parOf (nds : List Nd) (i : Nat) : Option Nat := match nds[i]? with | some n => n.par | none => none
noncomputable def Has (g : List (Option Nat × List Nat)) (k : Option Nat) (x : Nat) : Prop := ∃ l, (k, l) ∈ g ∧ x ∈ l
noncomputable def step (nds : List Nd) (g : List (Option Nat × List Nat)) (x : Nat) : List (Option Nat × List Nat) :=
  if (setd g (parOf nds x)).any (fun p => decide (p.1 = parOf nds x ∧ x ∈ p.2)) then setd g (parOf nds x) else app (setd g (parOf nds x)) (parOf nds x) x
noncomputable def dueOf (nds : List Nd) (nodes : List Nat) : List (Option Nat × List Nat) := (nodes.flatMap (lineOf nds)).foldl (step nds) [(none, [])]
theorem any_has {g : List (Option Nat × List Nat)} {k : Option Nat} {x : Nat} : g.any (fun p => decide (p.1 = k ∧ x ∈ p.2)) = true ↔ Has g k x := by
  rw [List.any_eq_true]
  constructor
  · rintro ⟨p, hp, e⟩
    obtain ⟨rfl, h2⟩ := of_decide_eq_true e
    exact ⟨p.2, hp, h2⟩
  · rintro ⟨l, hl, hx⟩
    exact ⟨_, hl, decide_eq_true ⟨rfl, hx⟩⟩
theorem has_setd {g : List (Option Nat × List Nat)} {k k' : Option Nat} {x : Nat} : Has (setd g k) k' x ↔ Has g k' x := by
  unfold setd
  split
  · exact Iff.rfl
  · constructor
    · rintro ⟨l, hl, hx⟩
      rcases List.mem_append.mp hl with h | h
      · exact ⟨l, h, hx⟩
      · cases List.mem_singleton.mp h; cases hx
    · rintro ⟨l, hl, hx⟩
      exact ⟨l, List.mem_append.mpr (.inl hl), hx⟩
theorem has_app {g : List (Option Nat × List Nat)} {k k' : Option Nat} {x y : Nat} : Has (app g k x) k' y ↔ Has g k' y ∨ (k' = k ∧ y = x ∧ k ∈ g.map (·.1)) := by
  unfold app
  constructor
  · rintro ⟨l, hl, hx⟩
    obtain ⟨p, hp, e⟩ := List.mem_map.mp hl
    by_cases hk : p.1 = k
    · rw [if_pos hk] at e
      obtain ⟨rfl, rfl⟩ := Prod.mk.inj e
      rcases List.mem_append.mp hx with h | h
      · exact .inl ⟨p.2, hp, h⟩
      · exact .inr ⟨hk, List.mem_singleton.mp h, hk ▸ List.mem_map_of_mem hp⟩
    · rw [if_neg hk] at e
      subst e
      exact .inl ⟨_, hp, hx⟩
  · rintro (⟨l, hl, hx⟩ | ⟨rfl, rfl, hk⟩)
    · by_cases hk : k' = k
      · exact ⟨l ++ [x], List.mem_map.mpr ⟨_, hl, by rw [if_pos hk]⟩, List.mem_append.mpr (.inl hx)⟩
      · exact ⟨l, List.mem_map.mpr ⟨_, hl, by rw [if_neg hk]⟩, hx⟩
    · obtain ⟨p, hp, rfl⟩ := List.mem_map.mp hk
      exact ⟨p.2 ++ [y], List.mem_map.mpr ⟨p, hp, by rw [if_pos rfl]⟩, List.mem_append.mpr (.inr (.head _))⟩
theorem mem_setd (g : List (Option Nat × List Nat)) (k : Option Nat) : k ∈ (setd g k).map (·.1) := by
  unfold setd
  split
  · assumption
  · rw [List.map_append]; exact List.mem_append.mpr (.inr (.head _))
theorem step_has {nds : List Nd} {g : List (Option Nat × List Nat)} {x : Nat} (h : Has g (parOf nds x) x) : step nds g x = g := by
  unfold step
  rw [if_pos (any_has.mpr (has_setd.mpr h))]
  unfold setd
  obtain ⟨l, hl, _⟩ := h
  rw [if_pos (List.mem_map_of_mem (f := (·.1)) hl)]
theorem step_not {nds : List Nd} {g : List (Option Nat × List Nat)} {x : Nat} (h : ¬ Has g (parOf nds x) x) : step nds g x = app (setd g (parOf nds x)) (parOf nds x) x := by
  unfold step
  rw [if_neg (fun e => h (has_setd.mp (any_has.mp e)))]
theorem lineOf_none {nds : List Nd} {i : Nat} (h : parOf nds i = none) : lineOf nds i = [i] := by
  rw [lineOf]
  unfold parOf at h
  cases hn : nds[i]? with
  | none => rfl
  | some n => rw [hn] at h; simp only at h ⊢; rw [h]
theorem lineOf_some {nds : List Nd} {i p : Nat} (h : parOf nds i = some p) (hp : p < i) : lineOf nds i = i :: lineOf nds p := by
  rw [lineOf]
  unfold parOf at h
  cases hn : nds[i]? with
  | none => rw [hn] at h; cases h
  | some n => rw [hn] at h; simp only at h ⊢; rw [h]; simp only; rw [if_pos hp]
noncomputable def upOf (nds : List Nd) : Option Nat → List Nat
  | none => []
  | some i => lineOf nds i
theorem lineOf_up {nds : List Nd} {i : Nat} (h : ∀ p, parOf nds i = some p → p < i) : lineOf nds i = i :: upOf nds (parOf nds i) := by
  cases hp : parOf nds i with
  | none => exact lineOf_none hp
  | some p => exact lineOf_some hp (h p hp)
/-- what is met: it stands in the found lists, and so do all that lie above -/
theorem fold_closed {nds : List Nd} {g : List (Option Nat × List Nat)} {ms : List Nat} (hpar : ∀ i p, parOf nds i = some p → p < i) (hA : ∀ j ∈ ms, Has g (parOf nds j) j) (hC : ∀ j ∈ ms, ∀ p, parOf nds j = some p → p ∈ ms) :
    ∀ i, i ∈ ms → (lineOf nds i).foldl (step nds) g = g := by
  intro i
  induction i using Nat.strongRecOn with
  | _ i ih =>
    intro hi
    rw [lineOf_up (hpar i), List.foldl_cons, step_has (hA i hi)]
    cases hp : parOf nds i with
    | none => rfl
    | some p => exact ih p (hpar i p hp) (hC i hi p hp)
theorem TreeOk.parOf_lt {t : TreeA} {nds : List Nd} (T : TreeOk t nds) (i p : Nat) (h : parOf nds i = some p) : p < i := by
  unfold parOf at h
  cases hn : nds[i]? with
  | none => rw [hn] at h; cases h
  | some n => rw [hn] at h; exact T.par i n p hn h
section
variable {prog : Program} {w : World} {A : Around} {E : Value → Shared → Prop} {s : Shared} {h₀ : Heap} {L : Addr} {m : Str → Option Value} {d : Addr} {o : Obj} {all : List (Addr × Obj)} {v : Value}
theorem made_none {Q : Value → Shared → Prop} (others : List (Addr × Obj)) (F : Fr h₀ L s.heap m) (N : News h₀ L s.heap all) (hs : ∀ p ∈ (d, o) :: others, p ∈ all) (hne : ∀ p ∈ others, p.1 ≠ d) (hd : o.IsDictOf (optKind prog w) [])
    (h : ∀ h' o', Fr h₀ L h' m → News h₀ L h' ((d, o') :: others) → o'.IsDictOf (optKind prog w) [(none, v)] → Q (.ref d) { s with heap := h', toks := s.toks + 1 }) : KdnMade prog w (optKind prog w) d Q [(.none, v)] s := by
  have N1 := News.sub' N hs
  have hm := N1 (d, o) (.head _)
  refine ⟨[(none, v)], ?_, Heap.dictOf_iff.mpr ⟨o, hm.1, hd⟩, fun h' hmm hs' => ?_⟩
  · exact ⟨rfl, rfl, trivial⟩
  · obtain ⟨o', ho', hd'⟩ := Heap.dictOf_iff.mp hmm
    refine h h' o' (F.change hs' hm.2.1 hm.2.2) ?_ hd'
    have := News.setIn (own := []) (rest := others) (d := d) (o := o) (N1 : News h₀ L s.heap ([] ++ (d, o) :: others)) (fun p hp => nomatch hp) hne hs' ho'
    simpa using this
end
theorem Sp.rlift {w : World} {d : Nat} {f : Addr} {vs : List Value} {lg big : List (Addr × Obj)} {post : Value → List (Addr × Obj) → Prop} (H : Sp w d f vs lg fun v lg' => ∃ own, lg' = own ++ lg ∧ post v own) (more : List (Addr × Obj)) (hp : big.Perm (lg ++ more)) :
    Sp w d f vs big fun v lg' => ∃ own, lg' = own ++ big ∧ post v own := by
  refine Sp.lift H more hp ?_
  rintro v _ ⟨own, rfl, po⟩
  refine ⟨own ++ big, ?_, own, rfl, po⟩
  rw [List.append_assoc]
  exact List.Perm.append_left _ hp
theorem parT (w : World) (t : TreeA) (nds : List Nd) (j : Nat) (tk : Tok) (T : TreeOk t nds) (hj : j < nds.length) (hs : nds.length < 800) :
    Sp w 5 227 [.ref t.T, .int j tk] (treeLg w.params t) (fun v lg' => ∃ own, lg' = own ++ treeLg w.params t ∧ ParV (parOf nds j) v ∧ own = []) := by
  have hn : nds[j]? = some nds[j] := List.getElem?_eq_getElem hj
  obtain ⟨r, hr, R⟩ := T.get hn
  have hlen := T.len
  have hpa : ParV (parOf nds j) r.pa := by
    unfold parOf; rw [hn]; exact R.pa
  have hh : handedIn r.pa = true := by
    cases hp : parOf nds j with
    | none => rw [hp] at hpa; rw [show r.pa = .none from hpa]; rfl
    | some p => rw [hp] at hpa; obtain ⟨k, hk⟩ := hpa; rw [hk]; rfl
  have H := parent_sp w t j tk r hr (by omega) hh
  have H2 := Sp.rlift (big := treeLg w.params t) H ((r.kl, listOf r.ks r.nk) :: (r.al, listOf r.as r.na) :: (r.nl, listOf r.ns r.nn) :: (t.rows.eraseIdx j).flatMap (rowLg w.params)) ((tree_split w.params hr).trans (by
    generalize treeHd w.params t = B
    generalize (t.rows.eraseIdx j).flatMap (rowLg w.params) = D
    simp only [rowLg]
    walk_at "m_perm"))
  intro dp frs gd un h₀ L m s Q E C hd hu F N nd hQ
  exact H2 dp frs gd un h₀ L m s Q E C hd hu F N nd fun v lg' h' tk' a b c d e f => hQ v lg' h' tk' a b c d e (by
    obtain ⟨own, h1, h2, h3⟩ := f
    exact ⟨own, h1, h2 ▸ hpa, h3⟩)
noncomputable def ListV (v : Value) (own : List (Addr × Obj)) (ns : List Nat) : Prop := ∃ l c vs, v = .ref l ∧ own = [(l, listOf (List.toArray vs) c)] ∧ IntsAre vs (nints ns)
theorem kidT (w : World) (t : TreeA) (nds : List Nd) (j : Nat) (tk : Tok) (T : TreeOk t nds) (hj : j < nds.length) (hs : nds.length < 800) :
    Sp w 5 234 [.ref t.T, .int j tk] (treeLg w.params t) (fun v lg' => ∃ own, lg' = own ++ treeLg w.params t ∧ ListV v own (under nds j 2)) := by
  have hn : nds[j]? = some nds[j] := List.getElem?_eq_getElem hj
  obtain ⟨r, hr, R⟩ := T.get hn
  have hlen := T.len
  have hz := R.ksz T
  have H := children_sp w t j tk r hr (by omega) (by omega)
  have H2 := Sp.rlift (big := treeLg w.params t) H ((r.al, listOf r.as r.na) :: (r.nl, listOf r.ns r.nn) :: (t.rows.eraseIdx j).flatMap (rowLg w.params)) ((tree_split w.params hr).trans (by
    generalize treeHd w.params t = B
    generalize (t.rows.eraseIdx j).flatMap (rowLg w.params) = D
    simp only [rowLg]
    walk_at "m_perm"))
  intro dp frs gd un h₀ L m s Q E C hd hu F N nd hQ
  exact H2 dp frs gd un h₀ L m s Q E C hd hu F N nd fun v lg' h' tk' a b c d e f => hQ v lg' h' tk' a b c d e (by
    obtain ⟨own, h1, l, c, h2, h3⟩ := f
    exact ⟨own, h1, l, c, r.ks.toList, h2, h3, R.ks⟩)
theorem attT (w : World) (t : TreeA) (nds : List Nd) (j : Nat) (tk : Tok) (T : TreeOk t nds) (hj : j < nds.length) (hs : nds.length < 800) :
    Sp w 5 241 [.ref t.T, .int j tk] (treeLg w.params t) (fun v lg' => ∃ own, lg' = own ++ treeLg w.params t ∧ ListV v own (under nds j 1)) := by
  have hn : nds[j]? = some nds[j] := List.getElem?_eq_getElem hj
  obtain ⟨r, hr, R⟩ := T.get hn
  have hlen := T.len
  have hz := R.ksz T
  have H := attributes_sp w t j tk r hr (by omega) (by omega)
  have H2 := Sp.rlift (big := treeLg w.params t) H ((r.kl, listOf r.ks r.nk) :: (r.nl, listOf r.ns r.nn) :: (t.rows.eraseIdx j).flatMap (rowLg w.params)) ((tree_split w.params hr).trans (by
    generalize treeHd w.params t = B
    generalize (t.rows.eraseIdx j).flatMap (rowLg w.params) = D
    simp only [rowLg]
    walk_at "m_perm"))
  intro dp frs gd un h₀ L m s Q E C hd hu F N nd hQ
  exact H2 dp frs gd un h₀ L m s Q E C hd hu F N nd fun v lg' h' tk' a b c d e f => hQ v lg' h' tk' a b c d e (by
    obtain ⟨own, h1, l, c, h2, h3⟩ := f
    exact ⟨own, h1, l, c, r.as.toList, h2, h3, R.as⟩)
theorem nspT (w : World) (t : TreeA) (nds : List Nd) (j : Nat) (tk : Tok) (T : TreeOk t nds) (hj : j < nds.length) (hs : nds.length < 800) :
    Sp w 5 248 [.ref t.T, .int j tk] (treeLg w.params t) (fun v lg' => ∃ own, lg' = own ++ treeLg w.params t ∧ ListV v own (under nds j 0)) := by
  have hn : nds[j]? = some nds[j] := List.getElem?_eq_getElem hj
  obtain ⟨r, hr, R⟩ := T.get hn
  have hlen := T.len
  have hz := R.ksz T
  have H := namespaces_sp w t j tk r hr (by omega) (by omega)
  have H2 := Sp.rlift (big := treeLg w.params t) H ((r.kl, listOf r.ks r.nk) :: (r.al, listOf r.as r.na) :: (t.rows.eraseIdx j).flatMap (rowLg w.params)) ((tree_split w.params hr).trans (by
    generalize treeHd w.params t = B
    generalize (t.rows.eraseIdx j).flatMap (rowLg w.params) = D
    simp only [rowLg]
    walk_at "m_perm"))
  intro dp frs gd un h₀ L m s Q E C hd hu F N nd hQ
  exact H2 dp frs gd un h₀ L m s Q E C hd hu F N nd fun v lg' h' tk' a b c d e f => hQ v lg' h' tk' a b c d e (by
    obtain ⟨own, h1, l, c, h2, h3⟩ := f
    exact ⟨own, h1, l, c, r.ns.toList, h2, h3, R.ns⟩)
theorem ov_two {x z : Str} {m m₀ : Str → Option Value} {u : Option Value} (hx : m x = u) (h : ∀ y, (∀ k ∈ [x, z], y ≠ k) → m y = m₀ y) : ∃ u2, m = ov [(x, u), (z, u2)] m₀ := ⟨m z, by rw [← hx]; exact ov_of [x, z] h⟩
theorem for_listM {prog : Program} {w : World} {A : Around} {s : Shared} {env : Env} {h₀ : Heap} {x : Str} {body : List Stmt} {Q : Flow → Shared → Prop} {E : Value → Shared → Prop}
    {l : Addr} {vs : Array Value} {n : Nat} {m₀ : Str → Option Value} {news : List (Addr × Obj)} (J : (Str → Option Value) → Nat → (Str → Option Value) → List (Addr × Obj) → Prop)
    (hh : A.handled = none) (F : Fr h₀ env.locals s.heap m₀) (N : News h₀ env.locals s.heap ((l, listOf vs n) :: news)) (nd : (adrs ((l, listOf vs n) :: news)).Nodup) (hj : J m₀ 0 m₀ news)
    (turn : ∀ i v m₁ news₁ h tk I oI, vs[i]? = some v → J m₀ i m₁ news₁ → Fr h₀ env.locals h (fun y => if y = x then some v else m₁ y) → News h₀ env.locals h ([(I, oI), (l, listOf vs n)] ++ news₁) → (adrs ([(I, oI), (l, listOf vs n)] ++ news₁)).Nodup →
      wpAny (model prog w) A (execs body env) (Turn h₀ env.locals (J m₀ (i + 1)) [(I, oI), (l, listOf vs n)] s Q) E { s with heap := h, toks := tk })
    (done : ∀ m₁ news₁ h tk, J m₀ vs.size m₁ news₁ → Fr h₀ env.locals h m₁ → News h₀ env.locals h ((l, listOf vs n) :: news₁) → (adrs ((l, listOf vs n) :: news₁)).Nodup → Q .next { s with heap := h, toks := tk }) :
    wpAny (model prog w) A (pyIter (.ref l)) (fun it s₂ => LoopAtV prog w A h₀ env x body Q E it s₂) E s := for_list (J m₀) hh F N nd hj turn done
theorem Turn.intro {h₀ h' : Heap} {L : Addr} {J : (Str → Option Value) → List (Addr × Obj) → Prop} {keep news' : List (Addr × Obj)} {s : Shared} {Q : Flow → Shared → Prop} {m' : Str → Option Value} {tk' : Nat}
    (F' : Fr h₀ L h' m') (N' : News h₀ L h' (keep ++ news')) (nd : (adrs (keep ++ news')).Nodup) (j : J m' news') : Turn h₀ L J keep s Q .next { s with heap := h', toks := tk' } := ⟨h', tk', m', news', rfl, F', N', nd, j⟩
theorem take_line {nds : List Nd} {nodes : List Nat} {i j : Nat} {g g' : List (Option Nat × List Nat)} (hj : nodes[i]? = some j) (hg : g = ((nodes.take i).flatMap (lineOf nds)).foldl (step nds) [(none, [])]) (h : g' = (lineOf nds j).foldl (step nds) g) : g' = ((nodes.take (i + 1)).flatMap (lineOf nds)).foldl (step nds) [(none, [])] := by
  rw [List.take_add_one, hj, List.flatMap_append, List.foldl_append, ← hg, h]
  simp
noncomputable def hereOf (c : Option Nat) (v : Value) : Prop := match c with | none => v = .none | some i => ∃ t, v = .int i t
noncomputable def MetOk (w : World) (oM : Obj) (ms : List Nat) : Prop := ∃ kvs : List (Int × Value), oM.IsDictOf (intKind PySem.Challenge.rw_xw0206_01.row.prog w) kvs ∧ kvs.map (·.1) = nints ms
structure ClimbOk (nds : List Nd) (g : List (Option Nat × List Nat)) (ms : List Nat) (c : Option Nat) : Prop where
  A : ∀ j ∈ ms, Has g (parOf nds j) j
  B : ∀ k j, Has g k j → j ∈ ms
  C : ∀ j ∈ ms, ∀ p, parOf nds j = some p → p ∈ ms ∨ c = some p
theorem ClimbOk.next {nds : List Nd} {g g' : List (Option Nat × List Nat)} {ms : List Nat} {a : Nat} (h : ClimbOk nds g ms (some a)) (hg : g' = app (setd g (parOf nds a)) (parOf nds a) a) : ClimbOk nds g' (ms ++ [a]) (parOf nds a) := by
  subst hg
  refine ⟨fun j hj => ?_, fun k j hj => ?_, fun j hj p hp => ?_⟩
  · rcases List.mem_append.mp hj with hj | hj
    · exact has_app.mpr (.inl (has_setd.mpr (h.A j hj)))
    · rw [List.mem_singleton.mp hj]
      exact has_app.mpr (.inr ⟨rfl, rfl, mem_setd _ _⟩)
  · rcases has_app.mp hj with hj | ⟨_, rfl, _⟩
    · exact List.mem_append.mpr (.inl (h.B _ _ (has_setd.mp hj)))
    · exact List.mem_append.mpr (.inr (.head _))
  · rcases List.mem_append.mp hj with hj | hj
    · rcases h.C j hj p hp with h1 | h1
      · exact .inl (List.mem_append.mpr (.inl h1))
      · cases h1
        exact .inl (List.mem_append.mpr (.inr (.head _)))
    · rw [List.mem_singleton.mp hj] at hp
      exact .inr hp
section
variable {w : World} {A : Around} {E : Value → Shared → Prop} {s : Shared} {h₀ : Heap} {L : Addr} {m : Str → Option Value} {M : Addr} {oM : Obj} {all : List (Addr × Obj)} {ms : List Nat} {a : Nat} {ta : Tok}
theorem MetOk.any {kvs : List (Int × Value)} (hk : kvs.map (·.1) = nints ms) (a : Nat) : (valueAt kvs (a : Int)).isSome = decide (a ∈ ms) := by
  rw [valueAt_isSome_eq_any, Bool.eq_iff_iff, List.any_eq_true, decide_eq_true_iff]
  have e : (a : Int) ∈ nints ms ↔ a ∈ ms := by
    constructor
    · intro h
      obtain ⟨b, hb, e⟩ := List.mem_map.mp h
      rw [← Int.ofNat.inj e]; exact hb
    · exact fun h => List.mem_map_of_mem (f := fun (a : Nat) => (a : Int)) h
  rw [← e, ← hk]
  constructor
  · rintro ⟨p, hp, h⟩
    rw [← of_decide_eq_true h]; exact List.mem_map_of_mem hp
  · intro h
    obtain ⟨p, hp, h⟩ := List.mem_map.mp h
    exact ⟨p, hp, decide_eq_true h⟩
theorem notin_met {b : Bool} {Q : Value → Shared → Prop} (N : News h₀ L s.heap all) (hm : (M, oM) ∈ all) (lo : (M == sysModules) = false) (hM : MetOk w oM ms) (hb : decide (a ∈ ms) = !b) (h : Q (.bool b) { s with toks := s.toks + 1 }) :
    wpAny (model PySem.Challenge.rw_xw0206_01.row.prog w) A (compareOp .NotIn (.int a ta) (.ref M)) Q E s := by
  obtain ⟨kvs, hd, hk⟩ := hM
  have hD : s.heap.DictOf (intKind PySem.Challenge.rw_xw0206_01.row.prog w) M kvs := Heap.dictOf_iff.mpr ⟨oM, (N _ hm).1, hd⟩
  refine wpAny_notIn_of (knd := intKind _ w) (k := (a : Int)) (by simp [intKind, Value.isInt]) lo hD.mapOf ?_
  rw [MetOk.any hk, hb, Bool.not_not]; exact h
theorem met_set {v : Value} {Q : Unit → Shared → Prop} (others : List (Addr × Obj)) (F : Fr h₀ L s.heap m) (N : News h₀ L s.heap all) (hs : ∀ p ∈ (M, oM) :: others, p ∈ all) (hne : ∀ p ∈ others, p.1 ≠ M) (hM : MetOk w oM ms) (ha : a ∉ ms) (hsz : ms.length < 100000)
    (h : ∀ h' o', Fr h₀ L h' m → News h₀ L h' ((M, o') :: others) → MetOk w o' (ms ++ [a]) → Q () { s with heap := h', toks := s.toks + 1 }) :
    wpAny (model PySem.Challenge.rw_xw0206_01.row.prog w) A (setItem (.ref M) (.int a ta) v) Q E s := by
  obtain ⟨kvs, hd, hk⟩ := hM
  have hlen : kvs.length = ms.length := by have := congrArg List.length hk; simpa [nints] using this
  refine dset (knd := intKind _ w) (k := (a : Int)) others (by simp [intKind, Value.isInt]) F N hs hne hd (by unfold sizeLine; omega) fun h' o' F' N' hd' => h h' o' F' N' ?_
  refine ⟨_, hd', ?_⟩
  unfold stored
  have e := MetOk.any hk a
  rw [valueAt_isSome_eq_any, decide_eq_false ha] at e
  rw [if_neg (by rw [e]; exact Bool.false_ne_true)]
  rw [List.map_append, hk]
  simp [nints]
end
local macro_rules | `(tactic| walk_at "eval Dict") => `(tactic| (k_dflt (refine' kdn_eval (knd := optKind PySem.Challenge.rw_xw0206_01.row.prog _) ?F ?N ?b ?a ?l ?e ?n ?_; (case F => k_asm); (case N => k_asm); (case b => exact Top.nolimit (by k_asm)); (case a => rfl); (case l => rfl); (case e => exact List.cons_ne_nil _ _); (case n => exact Nat.le_of_ble_eq_true rfl)); intro d' h' o' F' N' l1 lo' hd'))
local macro_rules | `(tactic| walk_at "getMethod ref") => `(tactic| ((with_reducible show wpAny _ _ (getMethod (Value.ref _) (Str.ofString "setdefault") _) _ _ _); k_dflt (refine kob_method (knd := optKind _ _) PySem.F.slot_dict_setdefault PySem.F.type_dict_setdefault (by k_asm) (by k_mem) (by assumption) ?_)))
local macro_rules | `(tactic| walk_at "m_ownC") => `(tactic| first | (with_reducible show wpAny _ _ (call (Value.ref 227) _) _ _ _) | (with_reducible show wpAny _ _ (call (Value.builtin "dict.setdefault") _) _ _ _) | (with_reducible show wpAny _ _ (call (Value.builtin "list.append") _) _ _ _) | (with_reducible show wpAny _ _ (call (Value.ref 234) _) _ _ _) | (with_reducible show wpAny _ _ (call (Value.ref 241) _) _ _ _) | (with_reducible show wpAny _ _ (call (Value.ref 248) _) _ _ _))
section
local macro_rules | `(tactic| walk_at "m_for") => `(tactic| ((rename Fr _ _ _ _ => lF'); (with_unfolding_all refine' For_invVF lF' ?k1 ?k2 ?_; (case k1 => exact rfl); (case k2 => exact rfl); k_whole)))
local macro_rules | `(tactic| walk_at "m_own") => `(tactic| first | walk_at "m_ownC")
local macro_rules | `(tactic| walk_at "compareOp NotIn") => `(tactic| ((with_reducible show wpAny _ _ (compareOp CmpOp.NotIn (Value.int _ _) (Value.ref _)) _ _ _); k_dflt (refine notin_met (by k_asm) (by k_mem) (by assumption) (by assumption) (by assumption) ?_)))
set_option maxHeartbeats 8000000 in
theorem marked_sp (w : World) (t : TreeA) (nds : List Nd) (T : TreeOk t nds) (hs : nds.length < 800) (ln : Addr) (vs : List Value) (nodes : List Nat) (nn : Nat) (hv : IntsAre vs (nints nodes)) (hn : ∀ i ∈ nodes, i < nds.length) (hl : nodes.length < 10) :
    Sp w 12 28 [.ref t.T, .ref ln] ((ln, listOf vs.toArray nn) :: treeLg w.params t) (fun v lg' => ∃ D o G, v = .ref D ∧ lg' = (D, o) :: (G.map LA.lg ++ (ln, listOf vs.toArray nn) :: treeLg w.params t) ∧ (∃ bd, FndOk w o G bd) ∧ shape G = dueOf nds nodes ∧ (D == sysModules) = false) := by
  intro dp frs gd un h₀ L m s Q E C hd hu F N nd hQ
  have ndT := (List.nodup_cons.mp nd).2
  unfold treeLg treeHd at N
  simp only [List.cons_append, List.nil_append] at N
  walk_at "m_open"
  walk_at "m_steps"
  rename_i D0 hA oD lD loD hdD l0 hB FB NB lB
  refine made_none ((l0, listOf #[] 0) :: (ln, listOf vs.toArray nn) :: treeLg w.params t) FB NB (by unfold treeLg treeHd; walk_at "m_sub") ?_ hdD ?_
  · intro p hp
    rcases List.mem_cons.mp hp with rfl | hp
    · exact Nat.ne_of_gt lB.1
    · exact Nat.ne_of_lt (lD p hp)
  have nd0 : ∀ o1, (adrs ((D0, o1) :: (l0, listOf #[] 0) :: (ln, listOf vs.toArray nn) :: treeLg w.params t)).Nodup := fun o1 => by
    refine List.nodup_cons.mpr ⟨?_, List.nodup_cons.mpr ⟨?_, nd⟩⟩
    · intro hm
      obtain ⟨p, hp, e⟩ := List.mem_map.mp hm
      rcases List.mem_cons.mp hp with rfl | hp
      · exact Nat.ne_of_gt lB.1 e
      · exact Nat.ne_of_lt (lD p hp) e
    · intro hm
      obtain ⟨p, hp, e⟩ := List.mem_map.mp hm
      exact Nat.ne_of_lt (Nat.lt_trans (lD p hp) lB.1) e
  intro h1 o1 F1 N1 hd1
  unfold treeLg treeHd at N1
  simp only [List.cons_append, List.nil_append] at N1
  walk_at "m_steps"
  rename_i M hM oM loM _ _ hiM _ lM _ _ _ _ _ _ FM NM
  have ndM : (adrs ((ln, listOf vs.toArray nn) :: ((D0, o1) :: (M, oM) :: (treeLg w.params t ++ [(l0, listOf #[] 0)])))).Nodup := by
    have h2 : (adrs ((M, oM) :: (D0, o1) :: (l0, listOf #[] 0) :: (ln, listOf vs.toArray nn) :: treeLg w.params t)).Nodup := List.nodup_cons.mpr ⟨fun hm => by
      obtain ⟨p, hp, e⟩ := List.mem_map.mp hm
      exact Nat.ne_of_lt (ktn_ltOf (l := (D0, o1) :: (l0, listOf #[] 0) :: (ln, listOf vs.toArray nn) :: treeLg w.params t) lM p hp) e, nd0 o1⟩
    refine nodup_perm h2 ?_
    generalize treeLg w.params t = Z
    walk_at "m_perm"
  with_unfolding_all refine' For_invVF FM ?k1 ?k2 ?_
  (case k1 => exact rfl)
  (case k2 => exact rfl)
  walk1
  refine for_listM (vs := vs.toArray) (n := nn) (fun m₀ i m₁ news₁ => (∀ y, (∀ k ∈ [Str.ofString "node", Str.ofString "here", Str.ofString "above"], y ≠ k) → m₁ y = m₀ y) ∧ ∃ oD G oM ms, news₁ = (D0, oD) :: (M, oM) :: (treeLg w.params t ++ G.map LA.lg) ∧
    FndOk w oD G (2 * ms.length) ∧ MetOk w oM ms ∧ ClimbOk nds (shape G) ms none ∧ ms.length ≤ i * 800 ∧ shape G = ((nodes.take i).flatMap (lineOf nds)).foldl (step nds) [(none, [])]) rfl (by k_asm) (News.sub' (by k_asm) ?_) ndM ?_ ?_ ?_
  · unfold treeLg treeHd; walk_at "m_sub"
  · exact ⟨fun _ _ => rfl, o1, [LA.mk none l0 [] 0 []], oM, [], rfl, ⟨hd1, fun e he => by rw [List.mem_singleton.mp he]; exact .nil, by simp, fun e he => by rw [List.mem_singleton.mp he]; simp⟩, ⟨[], hiM, rfl⟩,
      ⟨nofun, fun k j ⟨l, hl, hj⟩ => (by cases List.mem_singleton.mp hl; cases hj), nofun⟩, by simp, rfl⟩
  · rintro i v m₁' news₁ h tk I oI hvi ⟨hm, oD1, G, oM1, ms, rfl, ok, hM, cl, hms, hg⟩ F3 N3 nd3
    obtain ⟨j, tj, rfl, hin⟩ := hv.at i v (by simpa using hvi)
    rw [List.getElem?_map] at hin
    obtain ⟨j, hj9, rfl⟩ := Option.map_eq_some_iff.mp hin
    have hj : j ∈ nodes := List.mem_of_getElem? hj9
    have hi9 : i < nodes.length := (List.getElem?_eq_some_iff.mp hj9).1
    have e3 := ov_of [Str.ofString "node", Str.ofString "here", Str.ofString "above"] hm
    rw [e3] at F3
    simp only [treeLg, treeHd, List.cons_append, List.nil_append, List.append_assoc] at N3
    walk_at "m_steps"
    clear hiM
    rename_i _ F4 N4
    replace N4 : News _ _ _ ((I, oI) :: (ln, listOf vs.toArray nn) :: (D0, oD1) :: (M, oM1) :: (treeLg w.params t ++ G.map LA.lg)) := N4
    refine while_m (s := s) F4 N4 (fun m₀ n m₁ news₁ => (∀ y, (∀ k ∈ [Str.ofString "here", Str.ofString "above"], y ≠ k) → m₁ y = m₀ y) ∧ ∃ c vh oD G2 oM ms, m₁ (Str.ofString "here") = some vh ∧ hereOf c vh ∧ n = (match c with | none => 0 | some a => a + 1) ∧ (∀ a, c = some a → a < nds.length) ∧
      news₁ = (I, oI) :: (ln, listOf vs.toArray nn) :: (D0, oD) :: (M, oM) :: (treeLg w.params t ++ G2.map LA.lg) ∧ (adrs news₁).Nodup ∧ FndOk w oD G2 (2 * ms.length) ∧ MetOk w oM ms ∧ ClimbOk nds (shape G2) ms c ∧ ms.length + n ≤ i * 800 + 800 ∧
      (upOf nds c).foldl (step nds) (shape G2) = (lineOf nds j).foldl (step nds) (shape G)) (n₀ := j + 1) ?_ ?_
    · exact ⟨fun _ _ => rfl, some j, .int j tj, oD1, G, oM1, ms, rfl, ⟨tj, rfl⟩, rfl, fun a h => (by cases h; exact hn j hj), rfl, nd3, ok, hM, ⟨cl.A, cl.B, fun a h p hp => .inl ((cl.C a h p hp).resolve_right nofun)⟩, (by have := hn j hj; omega), rfl⟩
    rintro n m₁ news₁ h₁ tk₁ F5 N5 ⟨hm5, c, vh, oD2, G2, oM2, ms2, hh, hc, rfl, hcl, rfl, nd5, ok2, hM2, cl2, hms2, hg2⟩
    obtain ⟨u2, e5⟩ := ov_two hh hm5
    rw [e5] at F5
    clear hM ok
    have N5' : News _ _ _ ([(I, oI), (ln, listOf vs.toArray nn)] ++ ((D0, oD2) :: (M, oM2) :: (treeLg w.params t ++ G2.map LA.lg))) := N5
    have hmm := fun (y : Str) (hy : ∀ k ∈ [Str.ofString "node", Str.ofString "here", Str.ofString "above"], y ≠ k) =>
      (hm5 y (fun k hk => hy k (.tail _ hk))).trans ((if_neg (hy _ (.tail _ (.head _)))).trans ((if_neg (hy _ (.head _))).trans (ov_off fun p hp => by
        obtain ⟨k, hk, rfl⟩ := List.mem_map.mp hp
        exact hy k hk)))
    simp only [treeLg, treeHd, List.cons_append, List.nil_append, List.append_assoc] at N5
    cases c with
    | none =>
      obtain rfl := hc
      walk_at "m_steps"
      refine Turn.intro (m' := m₁) (by rw [e5]; exact F5) N5' nd5 ⟨hmm, oD2, G2, oM2, ms2, rfl, ok2, hM2, cl2, by simp only at hms2; omega, take_line hj9 hg hg2⟩
    | some a =>
      obtain ⟨ta, rfl⟩ := hc
      by_cases ha : a ∈ ms2
      · have hb9 : decide (a ∈ ms2) = !false := decide_eq_true ha
        walk_at "m_steps"
        have hgN := fold_closed T.parOf_lt cl2.A (fun j hj p hp => (cl2.C j hj p hp).elim id fun h => (by cases h; exact ha)) a ha
        refine Turn.intro (m' := m₁) (by rw [e5]; exact F5) N5' nd5 ⟨hmm, oD2, G2, oM2, ms2, rfl, ok2, hM2, ⟨cl2.A, cl2.B, fun j hj p hp => .inl ((cl2.C j hj p hp).elim id fun h => (by cases h; exact ha))⟩, by simp only at hms2; omega, take_line hj9 hg (hgN.symm.trans hg2)⟩
      · have hb9 : decide (a ∈ ms2) = !true := decide_eq_false ha
        walk_at "m_steps"
        have pmM : ((I, oI) :: (ln, listOf vs.toArray nn) :: (D0, oD2) :: (M, oM2) :: (treeLg w.params t ++ G2.map LA.lg)).Perm ((M, oM2) :: ((I, oI) :: (ln, listOf vs.toArray nn) :: (D0, oD2) :: (treeLg w.params t ++ G2.map LA.lg))) := by
          generalize treeLg w.params t = X
          generalize G2.map LA.lg = Y
          walk_at "m_perm"
        refine met_set ((I, oI) :: (ln, listOf vs.toArray nn) :: (D0, oD2) :: (treeLg w.params t ++ G2.map LA.lg)) F5 N5' (fun p hp => pmM.mem_iff.mpr hp) (ne_front nd5 pmM) hM2 ha (by simp only at hms2; omega) ?_
        intro h6 oM6 F6 N6 hM6
        have nd6 : (adrs ((M, oM6) :: ((I, oI) :: (ln, listOf vs.toArray nn) :: (D0, oD2) :: (treeLg w.params t ++ G2.map LA.lg)))).Nodup := by
          have h := nodup_perm nd5 pmM
          exact h
        have N6' := N6
        simp only [treeLg, treeHd, List.cons_append, List.nil_append, List.append_assoc] at N6
        walk_at "m_steps"
        refine Sp.read (parT w t nds a ta T (hcl a rfl) hs) (by walk_at "m_cx") (by walk_at "m_room") (by walk_at "m_room") (by k_asm) N6' (fun p hp => .tail _ (.tail _ (.tail _ (.tail _ (List.mem_append.mpr (.inl hp)))))) ndT ?_
        rintro vp own' h7 tk7 F7 N7 all7 ne7 nd7 ⟨hvp, rfl⟩
        simp only [treeLg, treeHd, List.cons_append, List.nil_append, List.append_assoc] at N7
        have hd9 := ok2.dict
        have hh9 : handedIn vp = true := by
          cases hp : parOf nds a with
          | none => rw [hp] at hvp; rw [show vp = .none from hvp]; rfl
          | some p => rw [hp] at hvp; obtain ⟨k, hk⟩ := hvp; rw [hk]; rfl
        walk_at "m_steps"
        rename_i l9 h9 F9 N9 lt9
        replace N9 : News _ _ _ ((l9, listOf #[] 0) :: (M, oM6) :: (I, oI) :: (ln, listOf vs.toArray nn) :: (D0, oD2) :: (treeLg w.params t ++ G2.map LA.lg)) := N9
        have pm9 : ((l9, listOf #[] 0) :: (M, oM6) :: (I, oI) :: (ln, listOf vs.toArray nn) :: (D0, oD2) :: (treeLg w.params t ++ G2.map LA.lg)).Perm ((D0, oD2) :: (l9, listOf #[] 0) :: (((I, oI) :: (ln, listOf vs.toArray nn) :: (M, oM6) :: treeLg w.params t) ++ G2.map LA.lg)) := by
          generalize treeLg w.params t = X
          generalize G2.map LA.lg = Y
          walk_at "m_perm"
        have nd9 : (adrs ((l9, listOf #[] 0) :: (M, oM6) :: (I, oI) :: (ln, listOf vs.toArray nn) :: (D0, oD2) :: (treeLg w.params t ++ G2.map LA.lg))).Nodup := List.nodup_cons.mpr ⟨fun hm => by
          obtain ⟨p, hp, e⟩ := List.mem_map.mp hm
          exact Nat.ne_of_lt (ktn_ltOf (l := (M, oM6) :: (I, oI) :: (ln, listOf vs.toArray nn) :: (D0, oD2) :: (treeLg w.params t ++ G2.map LA.lg)) lt9 p hp) e, nd6⟩
        refine sd_found (k := parOf nds a) ((I, oI) :: (ln, listOf vs.toArray nn) :: (M, oM6) :: treeLg w.params t) (isOpt_oint _ _ hvp) loD F9 N9 (fun p hp => pm9.mem_iff.mpr hp) (nodup_perm nd9 pm9) ok2 (by simp only at hms2; omega) ?_
        intro h10 tk10 oD3 pre e post F10 N10 nd10 ok3 he hsh3
        have pm10 : ((D0, oD3) :: (((I, oI) :: (ln, listOf vs.toArray nn) :: (M, oM6) :: treeLg w.params t) ++ (pre ++ e :: post).map LA.lg)).Perm ((e.a, listOf e.vs.toArray e.c) :: (M, oM6) :: (I, oI) :: (ln, listOf vs.toArray nn) :: (D0, oD3) :: (treeLg w.params t ++ (pre ++ post).map LA.lg)) := by
          rw [List.map_append, List.map_append, List.map_cons, show LA.lg e = (e.a, listOf e.vs.toArray e.c) from rfl]
          generalize treeLg w.params t = X
          generalize pre.map LA.lg = Y
          generalize post.map LA.lg = Z
          walk_at "m_perm"
        have N11 := News.sub' N10 fun p hp => pm10.mem_iff.mpr hp
        simp only [treeLg, treeHd, List.cons_append, List.nil_append, List.append_assoc] at N11
        walk_at "m_steps"
        refine app_found ((I, oI) :: (ln, listOf vs.toArray nn) :: (M, oM6) :: treeLg w.params t) F10 N10 (fun p hp => hp) nd10 ok3 (by simp only at hms2; omega) ?_
        intro h12 F12 N12 nd12 ok4 hsh4
        have pm12 : ((D0, oD3) :: (((I, oI) :: (ln, listOf vs.toArray nn) :: (M, oM6) :: treeLg w.params t) ++ (pre ++ e.put a (.int a ta) :: post).map LA.lg)).Perm ((I, oI) :: (ln, listOf vs.toArray nn) :: (D0, oD3) :: (M, oM6) :: (treeLg w.params t ++ (pre ++ e.put a (.int a ta) :: post).map LA.lg)) := by
          generalize treeLg w.params t = X
          generalize (pre ++ e.put a (.int a ta) :: post).map LA.lg = Y
          walk_at "m_perm"
        clear N10 N11
        have N13 := News.sub' N12 fun p hp => pm12.mem_iff.mpr hp
        clear N12
        simp only [treeLg, treeHd, List.cons_append, List.nil_append, List.append_assoc] at N13
        walk_at "m_steps"
        rename_i F14 N14
        replace N14 : News _ _ _ ((I, oI) :: (ln, listOf vs.toArray nn) :: (D0, oD3) :: (M, oM6) :: (treeLg w.params t ++ (pre ++ e.put a (.int a ta) :: post).map LA.lg)) := N14
        rw [he, hsh3] at hsh4
        refine WEnd.intro (n' := match parOf nds a with | none => 0 | some p => p + 1) F14 N14 (by
          show _ < a + 1
          cases hp : parOf nds a with
          | none => exact Nat.succ_pos _
          | some p => exact Nat.succ_lt_succ (T.parOf_lt a p hp)) ⟨fun y hy => ?_, parOf nds a, vp, oD3, _, oM6, ms2 ++ [a], rfl, hvp, rfl, fun p hp => Nat.lt_trans (T.parOf_lt a p hp) (hcl a rfl), rfl, nodup_perm nd12 pm12, ok4.mono (by simp only [List.length_append, List.length_cons, List.length_nil]; omega), hM6, cl2.next hsh4, ?_, ?_⟩
        · have h1 := hy _ (.head _)
          have h2 := hy _ (.tail _ (.head _))
          refine (if_neg h1).trans ((if_neg h2).trans (ov_off ?_))
          intro p hp
          simp only [List.mem_cons, List.not_mem_nil, or_false] at hp
          rcases hp with rfl | rfl
          · exact h1
          · exact h2
        · simp only [List.length_append, List.length_cons, List.length_nil] at hms2 ⊢
          cases hp : parOf nds a with
          | none => simp only; omega
          | some p => have := T.parOf_lt a p hp; simp only; omega
        · rw [hsh4, ← hg2]
          show _ = (lineOf nds a).foldl (step nds) (shape G2)
          rw [lineOf_up (T.parOf_lt a), List.foldl_cons, step_not (fun h => ha (cl2.B _ _ h))]
  · rintro m₁ news₁ h tk ⟨hm, oD1, G, oM1, ms, rfl, ok, hM, cl, hms, hg⟩ F3 N3 nd3
    rw [ov_of [Str.ofString "node", Str.ofString "here", Str.ofString "above"] hm] at F3
    clear hiM
    simp only [treeLg, treeHd, List.cons_append, List.nil_append, List.append_assoc] at N3
    walk_at "m_steps"
    have hsz : vs.toArray.size = nodes.length := by
      have := hv.length
      simpa [nints] using this
    rw [hsz, List.take_length] at hg
    have N3' : News _ _ _ ((ln, listOf vs.toArray nn) :: (D0, oD1) :: (M, oM1) :: (treeLg w.params t ++ G.map LA.lg)) := N3
    have pmE : ((ln, listOf vs.toArray nn) :: (D0, oD1) :: (M, oM1) :: (treeLg w.params t ++ G.map LA.lg)).Perm ((M, oM1) :: ((D0, oD1) :: (G.map LA.lg ++ (ln, listOf vs.toArray nn) :: treeLg w.params t))) := by
      generalize treeLg w.params t = X
      generalize G.map LA.lg = Y
      walk_at "m_perm"
    have nd4 := List.nodup_cons.mp (nodup_perm nd3 pmE)
    exact Lv.fin hQ (fun _ : Unit => (D0, oD1) :: (G.map LA.lg ++ (ln, listOf vs.toArray nn) :: treeLg w.params t)) () F3 N3' (fun p hp => pmE.mem_iff.mpr (.tail _ hp)) nd4.2 ⟨D0, oD1, G, rfl, rfl, ⟨_, ok⟩, hg, loD⟩
end
theorem enterC {prog : Program} {w : World} {dp un : Nat} {frs : List Env} {gd : Option (List Code)} {s : Shared} {h₀ : Heap} {L : Addr} {m : Str → Option Value} {news : List (Addr × Obj)}
    {Q E : Value → Shared → Prop} {name qual : Str} {params : Arguments} {body : List Stmt} {scope : Scope} {dV kV doc pm cdv ct oc : Value} {an od : Option Addr} {osl : Array (Option Value)} {f : Addr} {vs : List Value} {binds : List (Str × Value)}
    (C : Cx w (mkA dp frs gd un) h₀ L) (F : Fr h₀ L s.heap m) (N : News h₀ L s.heap news)
    (ho : (Mine.hda.heap_1 w.params).lookup f = some ⟨oc, od, .func (fnOf name qual params body scope dV kV doc pm an cdv ct), osl⟩) (hcd : codeIn (Mine.hda.heap_1 w.params) cdv qual = true)
    (hroom : dp < recursionLimit)
    (hbind : BindsTo s (fnOf name qual params body scope dV kV doc pm an cdv ct) ⟨vs, []⟩ binds)
    (hkind : (binds.all fun y => scope.names.lookup y.1 == some .local || scope.names.lookup y.1 == some .cell) = true)
    (hnd : ((cellsFrom 0 scope.names []).map (·.1)).Nodup)
    (h : ∀ A₀ base g L' h₁ tk cells loose mean mg mb, Below A₀ base frs g → Fr g L' h₁ (bindL (envOfC qual scope L' f cdv).kindOf binds fun _ => none) → News g L' h₁ (cells ++ news) →
      CellsAre (bindC (envOfC qual scope L' f cdv).kindOf binds fun _ => none) (cellsFrom (L' + 1) scope.names []) cells → (Mine.hda.heap_1 w.params).In g → Top topProg loose mean mg mb g →
      (∀ b o, s.heap.get? b = some o → b ∉ adrs news → g.get? b = some o) → (∀ p ∈ news, p.1 < L') →
      wpAny (model prog w) ((mkA dp frs gd un).deeper (envOfC qual scope L' f cdv)) (execs body (envOfC qual scope L' f cdv))
        (fun fl s' => Lv h₀ L m g s news Q (match fl with | .ret v => v | _ => .none) s')
        (fun _ _ => False)
        { s with heap := h₁, toks := tk })
    (hco : scope.isCoroutine = false := by rfl) (hgen : scope.isGenerator = false := by rfl) (hk : scope.kind = .function := by rfl) :
    wpAny (model prog w) (mkA dp frs gd un) (call (.ref f) vs) Q E s := by
  obtain ⟨A₀, base, outer, env, B, hA, hf, hke⟩ := C.below
  obtain ⟨loose, mean, mg, mb, T⟩ := C.top
  have X := C.kin
  have hA' : frs = env :: outer := Option.some.inj hA
  subst hA'
  refine wpAny_call ?_
  obtain ⟨FG, BG, st, lv⟩ := groundX (A := mkA dp (env :: outer) gd un) (R := fun r s'' => match r with | .ok (.ret v) => Q v s'' | .ok _ => False | .error e => E e s'') B F N hA hf hke
  have nin : ∀ b o, s.heap.get? b = some o → b ∉ adrs news → (hideAll s.heap (news.map (·.1))).get? b = some o := fun b o e hb => hideAll_get _ e hb
  refine codeAny_call_function (A := mkA dp (env :: outer) gd un) hroom ((X.keeps F.keep) _ _ ho) rfl hco hgen rfl (codeRec_of (X.keeps F.keep) hcd) (hbind _ _ _ _ ?_)
  refine wpAny_newFunctionEnv_cells hk (kindsX hkind _) fun env' he s' x => ?_
  subst he
  refine ⟨(T.nolimit.keeps F.keep).keeps x.toInCall.keep, codeAny_func ?_⟩
  obtain ⟨h₁, tk, rfl, _⟩ := x.done
  have hk₁ := x.toInCall.keep
  obtain ⟨cells, NC, Y⟩ := Cl.news (h₀ := s.heap) (Nat.le_refl _) fun n c hm => ⟨x.cell n c (lookup_of_mem_nodup (cellsFrom_names scope.names 0 (s.heap.objs.size + 1) [] [] rfl ▸ hnd) hm), x.above n c hm⟩
  refine wpAny_mono (h _ base _ s.heap.objs.size h₁ tk cells loose mean mg mb BG ⟨x.toInCall.ns, fun b o e => hk₁ b o (of_hideAll _ e), Nat.le_of_eq (hideAll_size _ _)⟩ (fun p hp => ?_) Y (X.keeps st) (T.keeps st) nin (fun p hp => Heap.lt_size (N p hp).1)) (fun fl s' hl => ?_) fun _ _ y => y.elim
  · rcases List.mem_append.mp hp with hp | hp
    · refine ⟨(NC p hp).1, (NC p hp).2.1, ?_⟩
      cases q : (hideAll s.heap (news.map (·.1))).get? p.1 with
      | none => rfl
      | some o => have := of_hideAll _ q; rw [(NC p hp).2.2] at this; cases this
    · exact ⟨hk₁ _ _ (N p hp).1, Nat.ne_of_lt (Heap.lt_size (N p hp).1), hideAll_none _ (List.mem_map_of_mem hp)⟩
  obtain ⟨L', m', lg', h', tk', rfl, F', N', k⟩ := hl
  have kept : Kept s.heap h' (adrs news) := fun b o e hb => F'.keep b o (nin b o e hb)
  have fresh : Fresh s.heap news lg' := fun p hp => by
    by_cases hb : p.1 ∈ adrs news
    · exact .inl hb
    · refine .inr ?_
      cases q : s.heap.get? p.1 with
      | none => rfl
      | some o => have := (N' p hp).2.2; rw [nin _ _ q hb] at this; cases this
  exact lv _ _ ⟨L', m', lg', F', N', fun a b => k a b kept fresh⟩
theorem cx_inC {w : World} {A₀ A : Around} {base g h : Heap} {outer : List Env} {L' f : Addr} {m : Str → Option Value} {loose : List Str} {mean : ExcName → Option Value} {mg mb : Str → Option Value} {qual : Str} {scope : Scope} {cdv : Value}
    (B : Below A₀ base outer g) (hA : A.frames = some outer) (hh : A.handled = none) (F : Fr g L' h m) (X : (Mine.hda.heap_1 w.params).In g) (T : Top topProg loose mean mg mb g) (hk : scope.kind = .function) :
    Cx w (A.deeper (envOfC qual scope L' f cdv)) g L' := by
  refine ⟨⟨A₀, base, outer, envOfC qual scope L' f cdv, B, ?_, rfl, hk⟩, X, ⟨loose, mean, mg, mb, T⟩, hh⟩
  show A.frames.map _ = _
  rw [hA]; rfl
/-- the turns of a list comprehension, by an invariant -/
theorem compInv {prog : Program} {w : World} {A : Around} {h₀ : Heap} {L : Addr} {m : Str → Option Value} {env : Env} {elt : Expr} {x : Str} {scope : Scope} {cl : List (Str × Addr)} {s : Shared} {S : List (Addr × Obj) → Prop} {P : Nat → Value → Prop} {Fin : List Value → List (Addr × Obj) → Prop} {n : Nat}
    (J : Nat → List Value → List (Addr × Obj) → Prop)
    (turn : ∀ i ys news v I oI C oC D m₂ h tk (E' : Value → Shared → Prop), i < n → P i v → J i ys news → LCg.NsObj oC m₂ → m₂ x = some v → Fr h₀ L h m → News h₀ L h ((I, oI) :: (C, oC) :: (D, LCg.lst ys) :: news) → LCg.Off3 I C D news →
      wpAny (model prog w) A (eval elt (compEnvC scope cl C env)) (LCg.CompEnd h₀ L m { s with heap := h, toks := tk } I oI C oC D (LCg.lst ys) S (fun y news' => J (i + 1) (ys ++ [y]) news')) E' { s with heap := h, toks := tk })
    (fin : ∀ ys news, J n ys news → Fin ys news) :
    ∀ k i ys news, i + k = n → J i ys news → LCg.CompRest prog w A h₀ L m env elt x scope cl s S P Fin k i ys news := by
  intro k
  induction k with
  | zero =>
    intro i ys news hk hJ
    obtain rfl : i = n := hk
    exact LCg.CompRest.zero (fin ys news hJ)
  | succ k ih =>
    intro i ys news hk hJ
    refine LCg.CompRest.succ fun v I oI C oC D m₂ h tk E' hP hC hx F N off ne => ?_
    refine wpAny_mono (turn i ys news v I oI C oC D m₂ h tk E' (by omega) hP hJ hC hx F N off) (fun y s₂ h₂ => ?_) fun _ _ e => e
    obtain ⟨h', tk', news', e, F', N', off', hS', j⟩ := h₂
    exact ⟨h', tk', news', e, F', N', off', hS', ih (i + 1) (ys ++ [y]) news' (by omega) j⟩
theorem off3_of {I C D : Addr} {l : List (Addr × Obj)} {oI oC oD : Obj} {all : List (Addr × Obj)} (h : ∀ p ∈ l, ∀ q ∈ all, p.1 ≠ q.1) (hI : (I, oI) ∈ all) (hC : (C, oC) ∈ all) (hD : (D, oD) ∈ all) : LCg.Off3 I C D l :=
  LCg.Off3.of fun p hp => ⟨h p hp _ hI, h p hp _ hC, h p hp _ hD⟩
theorem off3_app {I C D : Addr} {l l' : List (Addr × Obj)} (h : LCg.Off3 I C D l) (h' : LCg.Off3 I C D l') : LCg.Off3 I C D (l ++ l') := LCg.Off3.of fun p hp => (List.mem_append.mp hp).elim (h.mem p) (h'.mem p)
theorem off1_ne {D : Addr} : ∀ {l : List (Addr × Obj)}, LCg.Off1 D l → ∀ p ∈ l, p.1 ≠ D
  | [], _, _, h => nomatch h
  | _ :: _, x, p, h => by
    rcases List.mem_cons.mp h with rfl | h
    · exact x.1
    · exact off1_ne x.2 p h
theorem marked_rd (w : World) (t : TreeA) (nds : List Nd) (T : TreeOk t nds) (hs : nds.length < 800) (ln : Addr) (vs : List Value) (nodes : List Nat) (nn : Nat) (hv : IntsAre vs (nints nodes)) (hn : ∀ i ∈ nodes, i < nds.length) (hl : nodes.length < 10) :
    Sp w 12 28 [.ref t.T, .ref ln] ((ln, listOf vs.toArray nn) :: treeLg w.params t) (fun v lg' => ∃ own, lg' = own ++ (ln, listOf vs.toArray nn) :: treeLg w.params t ∧ ∃ D o G, v = .ref D ∧ own = (D, o) :: G.map LA.lg ∧ (∃ bd, FndOk w o G bd) ∧ shape G = dueOf nds nodes ∧ (D == sysModules) = false) := by
  intro dp frs gd un h₀ L m s Q E C hd hu F N nd hQ
  refine marked_sp w t nds T hs ln vs nodes nn hv hn hl dp frs gd un h₀ L m s Q E C hd hu F N nd fun v lg' h' tk' F' N' nd' kp fr po => hQ v lg' h' tk' F' N' nd' kp fr ?_
  obtain ⟨D, o, G, rfl, rfl, hf, hsh⟩ := po
  exact ⟨(D, o) :: G.map LA.lg, rfl, D, o, G, rfl, rfl, hf, hsh⟩
theorem lineOf_len (nds : List Nd) : ∀ i, (lineOf nds i).length ≤ i + 1 := by
  intro i
  induction i using Nat.strongRecOn with
  | _ i ih =>
    rw [lineOf]
    cases nds[i]? with
    | none => simp
    | some n =>
      simp only
      cases n.par with
      | none => simp
      | some p =>
        simp only
        split
        · rename_i h; have := ih p h; simp; omega
        · simp
theorem lineOf_lt {nds : List Nd} {i : Nat} (h : i < nds.length) : ∀ j ∈ lineOf nds i, j < nds.length := by
  induction i using Nat.strongRecOn with
  | _ i ih =>
    rw [lineOf]
    intro j hj
    rcases List.mem_cons.mp hj with rfl | hj
    · exact h
    · cases hn : nds[i]? with
      | none => rw [hn] at hj; cases hj
      | some n =>
        rw [hn] at hj
        simp only at hj
        cases hp : n.par with
        | none => rw [hp] at hj; cases hj
        | some p =>
          rw [hp] at hj
          simp only at hj
          split at hj
          · rename_i hlt; exact ih p hlt (Nat.lt_trans hlt h) j hj
          · cases hj
theorem fr_none {h₀ h : Heap} {L : Addr} {m : Str → Option Value} (_F : Fr h₀ L h m) : True := trivial
theorem step_of {nds : List Nd} {g : List (Option Nat × List Nat)} {a : Nat} {pre post : List LA} {e2 : LA} (hsh : shape (pre ++ e2 :: post) = setd g (parOf nds a)) (hk : e2.k = parOf nds a) (hn : ((pre ++ e2 :: post).map LA.k).Nodup) :
    step nds g a = if a ∈ e2.ns then setd g (parOf nds a) else app (setd g (parOf nds a)) (parOf nds a) a := by
  rw [List.map_append, List.map_cons, List.nodup_append] at hn
  obtain ⟨_, h2, h3⟩ := hn
  have h4 := (List.nodup_cons.mp h2).1
  have key : Has (setd g (parOf nds a)) (parOf nds a) a ↔ a ∈ e2.ns := by
    rw [← hsh]
    constructor
    · rintro ⟨l, hl, ha⟩
      obtain ⟨e', he', eq⟩ := List.mem_map.mp hl
      obtain ⟨e1, rfl⟩ := Prod.mk.inj eq
      rcases List.mem_append.mp he' with he' | he'
      · exact absurd (e1.trans hk.symm) (h3 _ (List.mem_map_of_mem he') _ (.head _))
      · rcases List.mem_cons.mp he' with rfl | he'
        · exact ha
        · exact absurd (List.mem_map_of_mem (f := LA.k) he') (by rw [e1, ← hk]; exact h4)
    · exact fun ha => ⟨e2.ns, List.mem_map.mpr ⟨e2, List.mem_append.mpr (.inr (.head _)), by rw [hk]⟩, ha⟩
  unfold step
  by_cases ha : a ∈ e2.ns
  · rw [if_pos (any_has.mpr (key.mpr ha)), if_pos ha]
  · rw [if_neg (fun h => ha (key.mp (any_has.mp h))), if_neg ha]
section
variable {w : World} {A : Around} {E : Value → Shared → Prop} {s : Shared} {h₀ : Heap} {L : Addr} {all : List (Addr × Obj)} {D D' : Addr} {o o' : Obj} {G G' : List LA} {bd bd' : Nat}
theorem la_list (N : News h₀ L s.heap all) {e : LA} (he : e.lg ∈ all) : s.heap.IsList e.a e.vs.toArray := News.isList N (n := e.c) he
theorem notin_la {b : Bool} {a : Nat} {ta : Tok} {e : LA} {Q : Value → Shared → Prop} (N : News h₀ L s.heap all) (hm : (e.a, listOf e.vs.toArray e.c) ∈ all) (hi : IntsAre e.vs (nints e.ns)) (hb : decide (a ∈ e.ns) = !b) (h : Q (.bool b) s) :
    wpAny (model PySem.Challenge.rw_xw0206_01.row.prog w) A (compareOp .NotIn (.int a ta) (.ref e.a)) Q E s := by
  refine notin_list_ints (News.isList N hm) hi ?_
  have e1 : (nints e.ns).any (· == (a : Int)) = decide (a ∈ e.ns) := by
    rw [Bool.eq_iff_iff, List.any_eq_true, decide_eq_true_iff]
    constructor
    · rintro ⟨x, hx, h⟩
      obtain ⟨c, hc, rfl⟩ := List.mem_map.mp hx
      have : c = a := Int.ofNat.inj (by simpa using h)
      exact this ▸ hc
    · exact fun h => ⟨_, List.mem_map_of_mem (f := fun (a : Nat) => (a : Int)) h, by simp⟩
  rw [e1, hb, Bool.not_not]
  exact h
theorem found_hits (N : News h₀ L s.heap all) (hG : ∀ e ∈ G, e.lg ∈ all) (hG' : ∀ e ∈ G', e.lg ∈ all) (ok : ∀ e ∈ G, IntsAre e.vs (nints e.ns)) (ok' : FndOk w o' G' bd') (hsh : ∀ e ∈ G, (e.k, e.ns) ∈ shape G') (hu : A.in1.units + 64 < cLine) :
    KeqHits A.in1 s (G'.map LA.kv) (G.map LA.kv) true := by
  induction G with
  | nil => exact .nil
  | cons e r ih =>
    obtain ⟨e', he', hk⟩ := List.mem_map.mp (hsh e (.head _))
    obtain ⟨hk1, hk2⟩ := Prod.mk.inj hk
    have hnd : ((G'.map LA.kv).map (·.1)).Nodup := by
      obtain ⟨es, ep, _, _, _, _, h⟩ := ok'.dict
      exact h
    have hv : valueAt (G'.map LA.kv) (oint e.k) = some (.ref e'.a) := by
      obtain ⟨i, hi⟩ := List.mem_iff_getElem?.mp (List.mem_map_of_mem (f := LA.kv) he')
      exact valueAt_of_get hnd (i := i) (by rw [hi, ← hk1]; rfl)
    have x := KeqHits.hit (r := r.map LA.kv) hv (keq_ints (A := A) (la_list N (hG e (.head _))) (ok e (.head _)) (la_list N (hG' e' he')) (ok'.iar e' he') hu) (ih (fun a h => hG a (.tail _ h)) (fun a h => ok a (.tail _ h)) (fun a h => hsh a (.tail _ h)))
    rw [hk2, decide_eq_true rfl] at x
    exact x
theorem found_eq {Q : Value → Shared → Prop} (N : News h₀ L s.heap all) (lo : (D == sysModules) = false) (lo' : (D' == sysModules) = false) (hD : (D, o) ∈ all) (hD' : (D', o') ∈ all) (hG : ∀ e ∈ G, e.lg ∈ all) (hG' : ∀ e ∈ G', e.lg ∈ all) (ok : FndOk w o G bd) (ok' : FndOk w o' G' bd')
    (hsh : shape G = shape G') (hu : A.units + 66 < cLine) (h : Q (.bool true) s) : wpAny (model PySem.Challenge.rw_xw0206_01.row.prog w) A (compareOp .Eq (.ref D) (.ref D')) Q E s := by
  refine keq_eq (knd := optKind _ w) lo lo' (Heap.dictOf_iff.mpr ⟨o, (N _ hD).1, ok.dict⟩) (Heap.dictOf_iff.mpr ⟨o', (N _ hD').1, ok'.dict⟩) (by omega) (fun _ => found_hits N hG hG' ok.iar ok' (fun e he => hsh ▸ List.mem_map_of_mem (f := fun (e : LA) => (e.k, e.ns)) he) (by show A.units + 1 + 64 < cLine; omega)) ?_
  have hl : (G.map LA.kv).length = (G'.map LA.kv).length := by
    have := congrArg List.length hsh
    simpa [shape] using this
  rw [hl]
  simpa using h
end
local macro_rules | `(tactic| walk_at "m_own") => `(tactic| first | walk_at "m_ownC" | (with_reducible show wpAny _ _ (exec (Stmt.For _ _ _ _ _) _) _ _ _) | (with_reducible show wpAny _ _ (compareOp CmpOp.Eq (Value.ref _) (Value.ref _)) _ _ _) | (with_reducible show LCg.CompSrc _ _ _ _ _ _ _ _ _ _ _ _ _ _) | (with_reducible show wpAny _ _ (eval (Expr.ListComp _ _ _ _) _) _ _ _))
local macro_rules | `(tactic| walk_at "compareOp NotIn int ref") => `(tactic| ((with_reducible show wpAny _ _ (compareOp CmpOp.NotIn (Value.int _ _) (Value.ref (LA.a _))) _ _ _); k_dflt (refine notin_la (by k_asm) (by k_mem) (by assumption) (by assumption) ?_)))
local macro_rules | `(tactic| walk_at "m_enterC") => `(tactic| (
  k_dflt (refine' enterC ?k1 ?k2 ?k3 ?k6 ?k7 ?k8 ?k9 ?kB ?kD ?_ ?c2 ?c3 ?c4; (case k1 => assumption); (case k2 => k_asm); (case k3 => k_asm); (case k6 => k_is); (case k7 => k_is); (case k8 => omega); (case k9 => exact BindsTo.of_eq rfl); (case kB => exact rfl); (case kD => decide +kernel); (case c2 => exact rfl); (case c3 => exact rfl); (case c4 => exact rfl); k_whole; (rename Fr _ _ _ _ => Fo); (rename News _ _ _ _ => No); (rename Cx _ _ _ _ => Co); clear Fo No Co; intro A₀' base' g' L' h' tk' cells' loose' mean' mg' mb' B' F' N' Y' X' T' kp' lt'; k_cells Y'; (try simp only [List.cons_append, List.nil_append] at N'); (try dsimp only); (try k_fold))))
local macro_rules | `(tactic| walk_at "m_openC") => `(tactic| (walk_at "m_fill"; walk_at "m_enterC"))
noncomputable abbrev stB (P : Params) (t : TreeA) (b : BookA) : List (Addr × Obj) := (b.B, b.o) :: (treeHd P t ++ (b.ts.map tupLg ++ t.rows.flatMap (rowLg P)))
theorem stB_perm (P : Params) (t : TreeA) (b : BookA) : (stB P t b).Perm (treeLg P t ++ bookLg b) := by
  unfold stB treeLg bookLg
  generalize treeHd P t = X
  generalize t.rows.flatMap (rowLg P) = Y
  generalize b.ts.map tupLg = Z
  walk_at "m_perm"
set_option maxHeartbeats 8000000 in
theorem lines_right_sp (w : World) (t : TreeA) (b : BookA) (nds : List Nd) (T : TreeOk t nds) (B : BookOk w b nds) (hs : nds.length < 800) (ln : Addr) (vs : List Value) (nodes : List Nat) (nn : Nat) (hv : IntsAre vs (nints nodes)) (hn : ∀ i ∈ nodes, i < nds.length) (hl : nodes.length < 10) :
    Sp w 20 316 [.ref t.T, .ref b.B, .ref ln] ((ln, listOf vs.toArray nn) :: stB w.params t b) (fun v lg' => ∃ own, lg' = own ++ (ln, listOf vs.toArray nn) :: stB w.params t b ∧ v = .bool true ∧ own = []) := by
  intro dp frs gd un h₀ L m s Q E C hd hu F N nd hQ
  have ndS := (List.nodup_cons.mp nd).2
  have ndB : (adrs (bookLg b)).Nodup := by
    have h := nodup_perm ndS (stB_perm w.params t b)
    unfold adrs at h ⊢
    rw [List.map_append, List.nodup_append] at h
    exact h.2.1
  have hbS : ∀ p ∈ bookLg b, p ∈ stB w.params t b := fun p hp => (stB_perm w.params t b).mem_iff.mpr (List.mem_append.mpr (.inr hp))
  have htS : ∀ p ∈ treeLg w.params t, p ∈ stB w.params t b := fun p hp => (stB_perm w.params t b).mem_iff.mpr (List.mem_append.mpr (.inl hp))
  walk_at "m_openC"
  walk_at "m_steps"
  rename_i L1 _h _tk _lo _me _mg _mb _B _X _T _kp _lt oC dC D0 hA oD lD loD hdD l0 hB FB NB lB
  refine made_none ((l0, listOf #[] 0) :: (L1 + 1, oC) :: (ln, listOf vs.toArray nn) :: stB w.params t b) FB NB (by generalize stB w.params t b = Z; walk_at "m_sub") ?_ hdD ?_
  · intro p hp
    rcases List.mem_cons.mp hp with rfl | hp
    · exact Nat.ne_of_gt lB.1
    · exact Nat.ne_of_lt (lD p hp)
  intro h1 o1 F1 N1 hd1
  have ltL : L1 + 1 < D0 := lD _ (.head _)
  have nd0 : (adrs ((D0, o1) :: (l0, listOf #[] 0) :: (L1 + 1, oC) :: (ln, listOf vs.toArray nn) :: stB w.params t b)).Nodup := by
    refine List.nodup_cons.mpr ⟨?_, List.nodup_cons.mpr ⟨?_, List.nodup_cons.mpr ⟨?_, nd⟩⟩⟩
    · intro hm
      obtain ⟨p, hp, e⟩ := List.mem_map.mp hm
      rcases List.mem_cons.mp hp with rfl | hp
      · exact Nat.ne_of_gt lB.1 e
      · exact Nat.ne_of_lt (lD p hp) e
    · intro hm
      obtain ⟨p, hp, e⟩ := List.mem_map.mp hm
      exact Nat.ne_of_lt (Nat.lt_trans (lD p hp) lB.1) e
    · intro hm
      obtain ⟨p, hp, e⟩ := List.mem_map.mp hm
      exact Nat.ne_of_lt (Nat.lt_succ_of_lt (_lt p hp)) e
  have N1' := N1
  simp only [stB, treeHd, List.cons_append, List.nil_append] at N1
  walk_at "m_steps"
  k_dflt (refine LCg.ListComp_U (F₀ := by k_asm) (by with_unfolding_all rfl) (by decide) (by rfl) (by decide) (by rfl) ?_)
  walk1
  refine LCg.CompSrc.ledger (news := (D0, o1) :: (l0, listOf #[] 0) :: (L1 + 1, oC) :: (ln, listOf vs.toArray nn) :: stB w.params t b) (by rfl) (by k_asm) N1' (.tail _ (.tail _ (.tail _ (.head _)))) (by have := hv.length; simp [nints] at this; unfold sizeLine; simp; omega) ?_
  intro g9
  refine compInv (fun i ys news => ∃ LL : List LA, ys = LL.map (fun e => Value.ref e.a) ∧ news = (D0, o1) :: (l0, listOf #[] 0) :: (L1 + 1, oC) :: (ln, listOf vs.toArray nn) :: (stB w.params t b ++ LL.map LA.lg) ∧ (adrs news).Nodup ∧ (∀ e ∈ LL, IntsAre e.vs (nints e.ns) ∧ (∀ a ∈ e.ns, a < nds.length) ∧ e.ns.length ≤ 800) ∧ LL.map LA.ns = (nodes.take i).map (lineOf nds)) ?_ ?_ _ 0 [] _ (Nat.zero_add _) ⟨[], rfl, by rw [List.map_nil, List.append_nil], nd0, nofun, rfl⟩
  · rintro i ys news v I oI C oC2 D m₂ h tk E' hi hP ⟨LL, rfl, rfl, ndJ, hLi, hLn⟩ hC hx F9 N9 off
    obtain ⟨j, tj, rfl, hin⟩ := hv.at i v (by simpa using hP)
    rw [List.getElem?_map] at hin
    obtain ⟨j, hj9, rfl⟩ := Option.map_eq_some_iff.mp hin
    have hj : j ∈ nodes := List.mem_of_getElem? hj9
    have N9' := N9
    simp only [stB, treeHd, List.cons_append, List.nil_append, List.append_assoc] at N9
    walk_at "m_steps"
    refine Sp.read (line_sp w b nds j tj B (hn j hj) hs T.par) (cx_inC (by assumption) rfl rfl (by k_asm) (by assumption) (by assumption) rfl) (by walk_at "m_room") (by walk_at "m_room") (by k_asm) N9' (fun p hp => .tail _ (.tail _ (.tail _ (.tail _ (.tail _ (.tail _ (.tail _ (List.mem_append.mpr (.inl (hbS p hp)))))))))) ndB ?_
    rintro vv own h2 tk2 F2 N2 all2 ne2 nd2 ⟨l, vs2, c, rfl, rfl, hv2⟩
    have pm : ((l, listOf vs2.toArray c) :: ((D0, o1) :: (l0, listOf #[] 0) :: (L1 + 1, oC) :: (ln, listOf vs.toArray nn) :: (stB w.params t b ++ LL.map LA.lg))).Perm ((D0, o1) :: (l0, listOf #[] 0) :: (L1 + 1, oC) :: (ln, listOf vs.toArray nn) :: (stB w.params t b ++ (LL ++ [LA.mk none l vs2 c (lineOf nds j)]).map LA.lg)) := by
      rw [List.map_append]
      show List.Perm _ ((D0, o1) :: (l0, listOf #[] 0) :: (L1 + 1, oC) :: (ln, listOf vs.toArray nn) :: (stB w.params t b ++ (LL.map LA.lg ++ [(l, listOf vs2.toArray c)])))
      generalize stB w.params t b = X
      generalize LL.map LA.lg = Y
      walk_at "m_perm"
    have neA : ∀ q ∈ (I, oI) :: (C, oC2) :: (D, LCg.lst (LL.map fun e => Value.ref e.a)) :: (D0, o1) :: (l0, listOf #[] 0) :: (L1 + 1, oC) :: (ln, listOf vs.toArray nn) :: (stB w.params t b ++ LL.map LA.lg), l ≠ q.1 := fun q hq => ne2 _ (.head _) q hq
    have ndl : (adrs ((l, listOf vs2.toArray c) :: ((D0, o1) :: (l0, listOf #[] 0) :: (L1 + 1, oC) :: (ln, listOf vs.toArray nn) :: (stB w.params t b ++ LL.map LA.lg)))).Nodup := List.nodup_cons.mpr ⟨fun hm => by
      obtain ⟨q, hq, e⟩ := List.mem_map.mp hm
      exact neA q (.tail _ (.tail _ (.tail _ hq))) e.symm, ndJ⟩
    show LCg.CompEnd _ _ _ _ _ _ _ _ _ _ _ _ _ _
    refine LCg.CompEnd.intro F2 N2 ((D0, o1) :: (l0, listOf #[] 0) :: (L1 + 1, oC) :: (ln, listOf vs.toArray nn) :: (stB w.params t b ++ (LL ++ [LA.mk none l vs2 c (lineOf nds j)]).map LA.lg)) ?_ (LCg.Off3.of fun p hp => ?_) (Or.inr ⟨_, .tail _ (.tail _ (.tail _ (.head _))), rfl, _, rfl⟩) ⟨LL ++ [LA.mk none l vs2 c (lineOf nds j)], by simp, rfl, nodup_perm ndl pm, ?_, ?_⟩
    · intro p hp
      rcases List.mem_cons.mp hp with rfl | hp
      · exact .tail _ (.head _)
      rcases List.mem_cons.mp hp with rfl | hp
      · exact .tail _ (.tail _ (.head _))
      rcases List.mem_cons.mp hp with rfl | hp
      · exact .tail _ (.tail _ (.tail _ (.head _)))
      rcases List.mem_cons.mp (pm.mem_iff.mpr hp) with rfl | hp
      · exact .head _
      · exact .tail _ (.tail _ (.tail _ (.tail _ hp)))
    · rcases List.mem_cons.mp (pm.mem_iff.mpr hp) with rfl | hp
      · exact ⟨neA _ (.head _), neA _ (.tail _ (.head _)), neA _ (.tail _ (.tail _ (.head _)))⟩
      · exact off.mem p hp
    · intro e he
      rcases List.mem_append.mp he with he | he
      · exact hLi e he
      · rw [List.mem_singleton.mp he]
        exact ⟨hv2, lineOf_lt (hn j hj), by have := lineOf_len nds j; have := hn j hj; show (lineOf nds j).length ≤ 800; omega⟩
    · rw [List.map_append, hLn, List.take_add_one, hj9]
      simp
  · rintro ys news ⟨LL, rfl, rfl, ndJ, hLi, hLn⟩
    have hLlen : LL.length ≤ nodes.length := by
      have := congrArg List.length hLn
      simp at this
      omega
    unfold LCg.FinE
    intro DL h5 tk5 F5 N5 o5
    have ndD : (adrs ((DL, LCg.lst (LL.map fun e => Value.ref e.a)) :: (D0, o1) :: (l0, listOf #[] 0) :: (L1 + 1, oC) :: (ln, listOf vs.toArray nn) :: (stB w.params t b ++ LL.map LA.lg))).Nodup := List.nodup_cons.mpr ⟨fun hm => by
      obtain ⟨q, hq, e⟩ := List.mem_map.mp hm
      exact off1_ne o5 q hq e, ndJ⟩
    simp only [stB, treeHd, List.cons_append, List.nil_append, List.append_assoc] at N5
    walk_at "m_steps"
    rename_i F6 N6
    with_unfolding_all refine' For_invVF F6 ?k1 ?k2 ?_
    (case k1 => exact rfl)
    (case k2 => exact rfl)
    walk1
    have pm6 : ((DL, LCg.lst (LL.map fun e => Value.ref e.a)) :: (D0, o1) :: (l0, listOf #[] 0) :: (L1 + 1, oC) :: (ln, listOf vs.toArray nn) :: (stB w.params t b ++ LL.map LA.lg)).Perm ((DL, listOf (LL.map fun e => Value.ref e.a).toArray (LL.map fun e => Value.ref e.a).length) :: ((D0, o1) :: (L1 + 1, oC) :: (ln, listOf vs.toArray nn) :: (stB w.params t b ++ (LL.map LA.lg ++ [(l0, listOf #[] 0)])))) := by
      refine List.Perm.cons _ ?_
      generalize stB w.params t b = X
      generalize LL.map LA.lg = Y
      walk_at "m_perm"
    refine for_listM (vs := (LL.map fun e => Value.ref e.a).toArray) (n := (LL.map fun e => Value.ref e.a).length) (fun m₀ i m₁ news₁ => (∀ y, (∀ k ∈ [Str.ofString "line", Str.ofString "one", Str.ofString "some"], y ≠ k) → m₁ y = m₀ y) ∧ ∃ oD2 G, news₁ = (D0, oD2) :: (L1 + 1, oC) :: (ln, listOf vs.toArray nn) :: (stB w.params t b ++ (LL.map LA.lg ++ G.map LA.lg)) ∧
      FndOk w oD2 G (2 * (800 * i)) ∧ shape G = ((LL.take i).flatMap LA.ns).foldl (step nds) [(none, [])]) rfl F6 (News.sub' N6 ?_) (nodup_perm ndD pm6) ?_ ?_ ?_
    · intro p hp
      have h9 := pm6.mem_iff.mpr hp
      simp only [stB, treeHd, List.cons_append, List.nil_append, List.append_assoc] at h9
      exact .tail _ h9
    · exact ⟨fun _ _ => rfl, o1, [LA.mk none l0 [] 0 []], rfl, ⟨hd1, fun e he => by rw [List.mem_singleton.mp he]; exact .nil, by simp, fun e he => by rw [List.mem_singleton.mp he]; simp⟩, rfl⟩
    · rintro i v m₁' news₁ h tk I oI hvi ⟨hm, oD2, G, rfl, ok, hg⟩ F7 N7 nd7
      rw [List.getElem?_toArray, List.getElem?_map] at hvi
      obtain ⟨e, heL, rfl⟩ := Option.map_eq_some_iff.mp hvi
      obtain ⟨hiE, hltE, hlE⟩ := hLi e (List.mem_of_getElem? heL)
      obtain ⟨La, Lb, hLL⟩ := List.append_of_mem (List.mem_of_getElem? heL)
      have hi9 : i < LL.length := (List.getElem?_eq_some_iff.mp heL).1
      have e3 := ov_of [Str.ofString "line", Str.ofString "one", Str.ofString "some"] hm
      rw [e3] at F7
      generalize hV : (DL, listOf (LL.map fun e => Value.ref e.a).toArray (LL.map fun e => Value.ref e.a).length) = V at N7 nd7 ⊢
      have pm7 : ∀ (oo : Obj) (GG : List LA), ((I, oI) :: V :: (D0, oo) :: (L1 + 1, oC) :: (ln, listOf vs.toArray nn) :: (stB w.params t b ++ (LL.map LA.lg ++ GG.map LA.lg))).Perm ((e.a, listOf e.vs.toArray e.c) :: ((I, oI) :: V :: (D0, oo) :: (L1 + 1, oC) :: (ln, listOf vs.toArray nn) :: (stB w.params t b ++ ((La ++ Lb).map LA.lg ++ GG.map LA.lg)))) := fun oo GG => by
        rw [hLL, List.map_append, List.map_append, List.map_cons, show LA.lg e = (e.a, listOf e.vs.toArray e.c) from rfl]
        generalize stB w.params t b = X
        generalize La.map LA.lg = Y
        generalize Lb.map LA.lg = Z
        generalize GG.map LA.lg = U
        walk_at "m_perm"
      walk_at "m_steps"
      with_unfolding_all refine' For_invVF F7 ?k1 ?k2 ?_
      (case k1 => exact rfl)
      (case k2 => exact rfl)
      walk1
      refine for_listM (vs := e.vs.toArray) (n := e.c) (fun m₀ j m₁ news₁ => (∀ y, (∀ k ∈ [Str.ofString "one", Str.ofString "some"], y ≠ k) → m₁ y = m₀ y) ∧ ∃ oD3 G2, news₁ = (I, oI) :: V :: (D0, oD3) :: (L1 + 1, oC) :: (ln, listOf vs.toArray nn) :: (stB w.params t b ++ ((La ++ Lb).map LA.lg ++ G2.map LA.lg)) ∧
        FndOk w oD3 G2 (2 * (800 * i + j)) ∧ shape G2 = (e.ns.take j).foldl (step nds) (shape G)) rfl F7 (News.sub' N7 fun p hp => (pm7 _ _).mem_iff.mpr hp) (nodup_perm nd7 (pm7 _ _)) ⟨fun _ _ => rfl, oD2, G, rfl, ok.mono (by omega), rfl⟩ ?_ ?_
      · rintro j v2 m₂' news₂ h2 tk2 I2 oI2 hvj ⟨hm2, oD3, G2, rfl, ok2, hg2⟩ F8 N8 nd8
        obtain ⟨a, ta, rfl, hin⟩ := hiE.at j v2 (by simpa using hvj)
        rw [List.getElem?_map] at hin
        obtain ⟨a, ha9, rfl⟩ := Option.map_eq_some_iff.mp hin
        have haM : a ∈ e.ns := List.mem_of_getElem? ha9
        have haN := hltE a haM
        have hjl : j < e.ns.length := (List.getElem?_eq_some_iff.mp ha9).1
        have hab : a < b.ts.length := by rw [B.len]; exact haN
        have hx : b.ts[a]? = some b.ts[a] := List.getElem?_eq_getElem hab
        have hn9 : nds[a]? = some nds[a] := List.getElem?_eq_getElem haN
        obtain ⟨hpv, -⟩ := B.tup a _ _ hx hn9
        have hpk : ParV (parOf nds a) b.ts[a].pv := by unfold parOf; rw [hn9]; exact hpv
        have hxm : tupLg b.ts[a] ∈ b.ts.map tupLg := List.mem_map_of_mem (List.getElem_mem hab)
        clear hpv
        generalize b.ts[a] = x at hx hpk hxm
        have hxm' : (x.a, tupObj [x.pv, x.sv]) ∈ b.ts.map tupLg ++ (t.rows.flatMap (rowLg w.params) ++ ((La ++ Lb).map LA.lg ++ G2.map LA.lg)) := List.mem_append.mpr (.inl hxm)
        have hh9 : handedIn x.pv = true := by
          cases hp : parOf nds a with
          | none => rw [hp] at hpk; rw [show x.pv = .none from hpk]; rfl
          | some p => rw [hp] at hpk; obtain ⟨k, hk⟩ := hpk; rw [hk]; rfl
        have hd9 := ok2.dict
        have e4 := ov_of [Str.ofString "one", Str.ofString "some"] hm2
        rw [e4] at F8
        have nd8' := nd8
        simp only [stB, treeHd, List.cons_append, List.nil_append, List.append_assoc] at N8
        walk_at "m_steps"
        rename_i l9 h9 F9 N9 lt9
        have N9' := News.sub' N9 (l' := (l9, listOf #[] 0) :: (I2, oI2) :: (e.a, listOf e.vs.toArray e.c) :: (I, oI) :: V :: (D0, oD3) :: (L1 + 1, oC) :: (ln, listOf vs.toArray nn) :: (stB w.params t b ++ ((La ++ Lb).map LA.lg ++ G2.map LA.lg))) (fun p hp => by simp only [stB, treeHd, List.cons_append, List.nil_append, List.append_assoc] at hp; exact hp)
        have nd9 : (adrs ((l9, listOf #[] 0) :: (I2, oI2) :: (e.a, listOf e.vs.toArray e.c) :: (I, oI) :: V :: (D0, oD3) :: (L1 + 1, oC) :: (ln, listOf vs.toArray nn) :: (stB w.params t b ++ ((La ++ Lb).map LA.lg ++ G2.map LA.lg)))).Nodup := List.nodup_cons.mpr ⟨fun hm => by
          obtain ⟨p, hp, eq⟩ := List.mem_map.mp hm
          simp only [stB, treeHd, List.cons_append, List.nil_append, List.append_assoc] at hp
          exact Nat.ne_of_lt ((fun (l : List (Addr × Obj)) (hl : p ∈ l) (h : AllLt l9 l) => ktn_ltOf h p hl) _ hp lt9) eq, nd8'⟩
        have pm9 : ((l9, listOf #[] 0) :: (I2, oI2) :: (e.a, listOf e.vs.toArray e.c) :: (I, oI) :: V :: (D0, oD3) :: (L1 + 1, oC) :: (ln, listOf vs.toArray nn) :: (stB w.params t b ++ ((La ++ Lb).map LA.lg ++ G2.map LA.lg))).Perm ((D0, oD3) :: (l9, listOf #[] 0) :: (((e.a, listOf e.vs.toArray e.c) :: (I2, oI2) :: (I, oI) :: V :: (L1 + 1, oC) :: (ln, listOf vs.toArray nn) :: (stB w.params t b ++ (La ++ Lb).map LA.lg)) ++ G2.map LA.lg)) := by
          generalize stB w.params t b = X
          generalize (La ++ Lb).map LA.lg = Y
          generalize G2.map LA.lg = Z
          walk_at "m_perm"
        refine sd_found (k := parOf nds a) ((e.a, listOf e.vs.toArray e.c) :: (I2, oI2) :: (I, oI) :: V :: (L1 + 1, oC) :: (ln, listOf vs.toArray nn) :: (stB w.params t b ++ (La ++ Lb).map LA.lg)) (isOpt_oint _ _ hpk) loD F9 N9' (fun p hp => pm9.mem_iff.mpr hp) (nodup_perm nd9 pm9) ok2 (by omega) ?_
        intro h10 tk10 oD4 pre e2 post F10 N10 nd10 ok3 he hsh3
        have hst := step_of hsh3 he ok3.keys
        have hi3 := ok3.iar e2 (List.mem_append.mpr (.inr (.head _)))
        have pm10 : ((D0, oD4) :: (((e.a, listOf e.vs.toArray e.c) :: (I2, oI2) :: (I, oI) :: V :: (L1 + 1, oC) :: (ln, listOf vs.toArray nn) :: (stB w.params t b ++ (La ++ Lb).map LA.lg)) ++ (pre ++ e2 :: post).map LA.lg)).Perm ((e2.a, listOf e2.vs.toArray e2.c) :: (I2, oI2) :: (e.a, listOf e.vs.toArray e.c) :: (I, oI) :: V :: (D0, oD4) :: (L1 + 1, oC) :: (ln, listOf vs.toArray nn) :: (stB w.params t b ++ ((La ++ Lb).map LA.lg ++ (pre ++ post).map LA.lg))) := by
          rw [List.map_append (l₁ := pre), List.map_append (l₁ := pre), List.map_cons, show LA.lg e2 = (e2.a, listOf e2.vs.toArray e2.c) from rfl]
          generalize stB w.params t b = X
          generalize (La ++ Lb).map LA.lg = U
          generalize pre.map LA.lg = Y
          generalize post.map LA.lg = Z
          walk_at "m_perm"
        have pm12 : ∀ ee : LA, ((D0, oD4) :: (((e.a, listOf e.vs.toArray e.c) :: (I2, oI2) :: (I, oI) :: V :: (L1 + 1, oC) :: (ln, listOf vs.toArray nn) :: (stB w.params t b ++ (La ++ Lb).map LA.lg)) ++ (pre ++ ee :: post).map LA.lg)).Perm ([(I2, oI2), (e.a, listOf e.vs.toArray e.c)] ++ ((I, oI) :: V :: (D0, oD4) :: (L1 + 1, oC) :: (ln, listOf vs.toArray nn) :: (stB w.params t b ++ ((La ++ Lb).map LA.lg ++ (pre ++ ee :: post).map LA.lg)))) := fun ee => by
          generalize stB w.params t b = X
          generalize (La ++ Lb).map LA.lg = U
          generalize (pre ++ ee :: post).map LA.lg = Y
          walk_at "m_perm"
        have N11 := News.sub' N10 fun p hp => pm10.mem_iff.mpr hp
        clear N10
        simp only [stB, treeHd, List.cons_append, List.nil_append, List.append_assoc] at N11
        by_cases haE : a ∈ e2.ns
        · have hb9 : decide (a ∈ e2.ns) = !false := decide_eq_true haE
          rw [if_pos haE] at hst
          walk_at "m_steps"
          rename_i F14 N14
          have N14' := News.sub' N14 (l' := (e2.a, listOf e2.vs.toArray e2.c) :: (I2, oI2) :: (e.a, listOf e.vs.toArray e.c) :: (I, oI) :: V :: (D0, oD4) :: (L1 + 1, oC) :: (ln, listOf vs.toArray nn) :: (stB w.params t b ++ ((La ++ Lb).map LA.lg ++ (pre ++ post).map LA.lg))) (fun p hp => by simp only [stB, treeHd, List.cons_append, List.nil_append, List.append_assoc] at hp; exact hp)
          rw [← e4] at F14
          refine Turn.intro F14 (News.sub' N14' fun p hp => pm10.mem_iff.mp ((pm12 e2).mem_iff.mpr hp)) (nodup_perm nd10 (pm12 e2)) ⟨fun y hy => (if_neg (hy _ (.tail _ (.head _)))).trans ((if_neg (hy _ (.head _))).trans (hm2 y hy)), oD4, _, rfl, ok3.mono (by omega), ?_⟩
          rw [hsh3, ← hst, hg2, List.take_add_one, ha9, List.foldl_append]
          rfl
        · have hb9 : decide (a ∈ e2.ns) = !true := decide_eq_false haE
          rw [if_neg haE] at hst
          walk_at "m_steps"
          rename_i F14 N14
          have N14' := News.sub' N14 (l' := (e2.a, listOf e2.vs.toArray e2.c) :: (I2, oI2) :: (e.a, listOf e.vs.toArray e.c) :: (I, oI) :: V :: (D0, oD4) :: (L1 + 1, oC) :: (ln, listOf vs.toArray nn) :: (stB w.params t b ++ ((La ++ Lb).map LA.lg ++ (pre ++ post).map LA.lg))) (fun p hp => by simp only [stB, treeHd, List.cons_append, List.nil_append, List.append_assoc] at hp; exact hp)
          refine app_found ((e.a, listOf e.vs.toArray e.c) :: (I2, oI2) :: (I, oI) :: V :: (L1 + 1, oC) :: (ln, listOf vs.toArray nn) :: (stB w.params t b ++ (La ++ Lb).map LA.lg)) F14 N14' (fun p hp => pm10.mem_iff.mp hp) nd10 ok3 (by omega) ?_
          intro h12 F12 N12 nd12 ok4 hsh4
          rw [he, hsh3, ← hst] at hsh4
          walk_at "m_steps"
          rw [← e4] at F12
          refine Turn.intro F12 (News.sub' N12 fun p hp => (pm12 _).mem_iff.mpr hp) (nodup_perm nd12 (pm12 _)) ⟨fun y hy => (if_neg (hy _ (.tail _ (.head _)))).trans ((if_neg (hy _ (.head _))).trans (hm2 y hy)), oD4, _, rfl, ok4.mono (by omega), ?_⟩
          rw [hsh4, hg2, List.take_add_one, ha9, List.foldl_append]
          rfl
      · rintro m₂' news₂ h2 tk2 ⟨hm2, oD3, G2, rfl, ok2, hg2⟩ F8 N8 nd8
        walk_at "m_steps"
        have hsz : e.vs.toArray.size = e.ns.length := by
          have := hiE.length
          simpa [nints] using this
        rw [hsz, List.take_length] at hg2
        rw [hsz] at ok2
        refine Turn.intro F8 (News.sub' N8 fun p hp => (pm7 _ _).mem_iff.mp hp) (nodup_perm nd8 (pm7 _ _).symm) ⟨fun y hy => (hm2 y (fun k hk => hy k (.tail _ hk))).trans ((if_neg (hy _ (.head _))).trans (ov_off fun p hp => by
          obtain ⟨k, hk, rfl⟩ := List.mem_map.mp hp
          exact hy k hk)), oD3, G2, rfl, ok2.mono (by omega), ?_⟩
        rw [hg2, hg, List.take_add_one, heL, List.flatMap_append, List.foldl_append]
        simp
    · rintro m₁' news₁ h tk ⟨hm, oD2, G, rfl, ok, hg⟩ F7 N7 nd7
      rw [ov_of [Str.ofString "line", Str.ofString "one", Str.ofString "some"] hm] at F7
      have N7' := N7
      simp only [stB, treeHd, List.cons_append, List.nil_append, List.append_assoc] at N7
      walk_at "m_steps"
      have ndM : (adrs ((ln, listOf vs.toArray nn) :: treeLg w.params t)).Nodup := by
        have h := nodup_perm nd (List.Perm.cons _ (stB_perm w.params t b))
        rw [← List.cons_append] at h
        unfold adrs at h ⊢
        rw [List.map_append, List.nodup_append] at h
        exact h.1
      refine Sp.read (marked_rd w t nds T hs ln vs nodes nn hv hn hl) (cx_inC (by assumption) rfl rfl (by k_asm) (by assumption) (by assumption) rfl) (by walk_at "m_room") (by walk_at "m_room") (by k_asm) N7' (fun p hp => by
        rcases List.mem_cons.mp hp with rfl | hp
        · exact .tail _ (.tail _ (.tail _ (.head _)))
        · exact .tail _ (.tail _ (.tail _ (.tail _ (List.mem_append.mpr (.inl (htS p hp))))))) ndM ?_
      rintro vm own h8 tk8 F8 N8 all8 ne8 nd8 ⟨D9, o9, G9, rfl, rfl, ⟨bd9, ok9⟩, hsh9, lo9⟩
      walk_at "m_steps"
      refine found_eq N8 lo9 loD (List.mem_append.mpr (.inl (.head _))) (List.mem_append.mpr (.inr (.tail _ (.head _)))) (fun e he => List.mem_append.mpr (.inl (.tail _ (List.mem_map_of_mem he)))) (fun e he => List.mem_append.mpr (.inr (.tail _ (.tail _ (.tail _ (.tail _ (List.mem_append.mpr (.inr (List.mem_append.mpr (.inr (List.mem_map_of_mem he)))))))))) ) ok9 ok ?_ (by walk_at "m_room") ?_
      · rw [hsh9, hg, List.size_toArray, List.length_map, List.take_length]
        have hsz : vs.toArray.size = nodes.length := by
          have := hv.length
          simpa [nints] using this
        rw [hsz, List.take_length] at hLn
        unfold dueOf
        show (List.flatten (nodes.map (lineOf nds))).foldl (step nds) [(none, [])] = (List.flatten (LL.map LA.ns)).foldl (step nds) [(none, [])]
        rw [hLn]
      · walk_at "m_steps"
        exact Lv.fin hQ (fun _ : Unit => (ln, listOf vs.toArray nn) :: stB w.params t b) () F8 N8 (fun p hp => List.mem_append.mpr (.inr (by
          rcases List.mem_cons.mp hp with rfl | hp
          · exact .tail _ (.tail _ (.tail _ (.head _)))
          · exact .tail _ (.tail _ (.tail _ (.tail _ (List.mem_append.mpr (.inl hp)))))))) nd ⟨[], rfl, rfl, rfl⟩
section
variable {prog : Program} {w : World} {A : Around} {s : Shared}
theorem kcd_loop {kx vx target iter : PySem.Expr} {scope : Scope} {pos : Pos} {it : Value} {D : Addr} {env : Env} {R : Result → Shared → Prop} (I : Nat → Shared → Prop)
    (turn : ∀ n s, I n s → wpAny (model prog w) A (pyNext it) (fun r s₁ => match r with
      | none => R (.ok .next) s₁
      | some v => wpAny (model prog w) A (letOwnedTupleGo target it v) (fun _ s₀ => wpAny (model prog w) A (assign target env v) (fun _ s₂ =>
          wpAny (model prog w) A (eval kx env) (fun kv s₄ => wpAny (model prog w) A (eval vx env) (fun vv s₅ =>
            wpAny (model prog w) A (dictSet D kv vv) (fun _ s₆ => ∃ m, m < n ∧ I m s₆) (notedBy (model prog w) A env fun e s' => R (.error e) s') s₅) (notedBy (model prog w) A env fun e s' => R (.error e) s') s₄) (notedBy (model prog w) A env fun e s' => R (.error e) s') s₂)
          (notedBy (model prog w) A env fun e s' => R (.error e) s') s₀) (notedBy (model prog w) A env fun e s' => R (.error e) s') s₁) (notedBy (model prog w) A env fun e s' => R (.error e) s') s)
    (n : Nat) (h : I n s) : codeAny (model prog w) A (.compLoop (.DictComp kx vx [⟨target, iter, [], 0⟩] scope pos) 0 it (.ref D) env) R s := by
  refine codeAny_loop rfl I (fun n s hI => ?_) n h
  show wpAny _ A ((compTurn (.DictComp kx vx [⟨target, iter, [], 0⟩] scope pos) 0 it (.ref D) env).onRaise (fun x => do noteFrame x env; theTreesLotGoes x)) _ _ s
  refine wpAny_noted ?_
  rw [compTurn_dict]
  refine wpAny_bind (wpAny_standAt (wpAny_bind (wpAny_mono (turn n s hI) (fun r s₁ h₁ => ?_) fun _ _ h' => h')))
  cases r with
  | none => exact wpAny_pure h₁
  | some v =>
    refine wpAny_bind (wpAny_mono h₁ (fun _ s₀ h₀' => ?_) fun _ _ h' => h')
    refine wpAny_bind (wpAny_mono h₀' (fun _ s₂ h₂ => ?_) fun _ _ h' => h')
    refine wpAny_bind (wpAny_tests_nil ?_)
    exact wpAny_bind (wpAny_bind (wpAny_mono h₂ (fun kv s₄ h₄ => wpAny_bind (wpAny_holding (wpAny_mono h₄ (fun vv s₅ h₅ => wpAny_bind (wpAny_standAt (wpAny_holding (wpAny_mono h₅ (fun _ s₆ h₆ => wpAny_pure ⟨rfl, h₆⟩) fun _ _ h' => h')))) fun _ _ h' => h'))) fun _ _ h' => h'))
end
section
variable {prog : Program} {w : World} {A : Around} {E : Value → Shared → Prop} {env : Env} {K : Type} [DecidableEq K] {knd : KeyKind prog w K}
noncomputable def Filled (key : Nat → K) (PV : Nat → Value → Prop) (i : Nat) (kvs : List (K × Value)) : Prop := kvs.length = i ∧ ∀ j, j < i → ∃ v, kvs[j]? = some (key j, v) ∧ PV j v
theorem Filled.add {key : Nat → K} {PV : Nat → Value → Prop} {i : Nat} {kvs : List (K × Value)} (h : Filled key PV i kvs) (hk : ∀ j, j < i → key j ≠ key i) {v : Value} (hv : PV i v) : Filled key PV (i + 1) (stored kvs (key i) v) := by
  have hn : ¬ (kvs.any (fun kv => decide (kv.1 = key i)) = true) := by
    intro e
    obtain ⟨p, hp, e⟩ := List.any_eq_true.mp e
    obtain ⟨j, hj⟩ := List.mem_iff_getElem?.mp hp
    have hlt : j < i := by rw [← h.1]; exact (List.getElem?_eq_some_iff.mp hj).1
    obtain ⟨u, hu, _⟩ := h.2 j hlt
    rw [hj] at hu
    cases hu
    exact hk j hlt (of_decide_eq_true e)
  unfold stored
  rw [if_neg hn]
  refine ⟨by rw [List.length_append, h.1]; rfl, fun j hj => ?_⟩
  by_cases hji : j < i
  · obtain ⟨u, hu, hp⟩ := h.2 j hji
    exact ⟨u, by rw [List.getElem?_append_left (by rw [h.1]; exact hji)]; exact hu, hp⟩
  · obtain rfl : j = i := by omega
    exact ⟨v, by rw [List.getElem?_append_right (by rw [h.1]; exact Nat.le_refl _), h.1, Nat.sub_self]; rfl, hv⟩
/-- {b: a for a, b in it} -/
theorem dictSwap {iter : Expr} {a b : Str} {pa pb pk pv tp : Pos} {kk : Nat} {scope : Scope} {cl : List (Str × Addr)} {pos : Pos} {s : Shared} {Q : Value → Shared → Prop} (key : Nat → K) (PV : Nat → Value → Prop)
    (hh : A.handled = none) (hclos : closureFor scope env = pure cl) (hcell : ∀ y ∈ scope.names, y.2 ≠ .cell) (hkind : scope.kind = .function)
    (hnames : ∀ y ∈ scope.names, y.2 = .local → scope.names.lookup y.1 = some .local) (ha : scope.names.lookup a = some .local) (hb : scope.names.lookup b = some .local) (hab : a ≠ b)
    (hda : (a == ("__debug__" : Str)) = false) (hdb : (b == ("__debug__" : Str)) = false)
    (h : wpAny (model prog w) A (eval iter env) (fun xv s₁ => wpAny (model prog w) A (pyIter xv) (fun it s₂ => ∃ I fp wr n Pt St Md, it = .ref I ∧ WalksT prog w A I fp wr n Pt St Md ∧ n ≤ sizeLine ∧ St 0 s₂.heap ∧ (∀ b ∈ fp, b < s₂.heap.objs.size) ∧
      (∀ i vals, i < n → Pt i vals → ∃ x y, vals = #[x, y] ∧ knd.is (key i) y = true ∧ PV i x) ∧ (∀ i j, j < i → i < n → key j ≠ key i) ∧
      (∀ D h' tk kvs, s₂.heap.get? D = none → s₂.heap.objs.size ≤ D → h'.DictOf knd D kvs → Filled key PV n kvs →
        (∀ b o, b ∉ wr → s₂.heap.get? b = some o → h'.get? b = some o) → Q (.ref D) { s₂ with heap := h', toks := tk })) E s₁) E s)
    (hs : ∀ x, foldedSetIterable iter env x = pure x := by intro _; rfl) :
    wpAny (model prog w) A (eval (.DictComp (.Name b pk) (.Name a pv) [⟨.Tuple [.Name a pa, .Name b pb] kk tp, iter, [], 0⟩] scope pos) env) Q E s := by
  rw [arm_eval_DictComp]
  refine wpAny_comprehension_free (use := none) rfl hs hclos hkind hnames (wpAny_mono h (fun xv s₁ h₁ => wpAny_mono h₁ (fun it s₂ h₂ => ?_) fun _ _ e => e) fun _ _ e => e)
  obtain ⟨I, fp, wr, n, Pt, St, Md, rfl, W, hsz, hst, hfp, hP, hkey, hQ⟩ := h₂
  refine wpAny_newObj_type (wpAny_newFunctionEnv hcell (by intro y hy; simp at hy) (fun h₁ hns₁ hsb₁ => ?_) hkind)
  dsimp only at hns₁ hsb₁ ⊢
  have hnew : (s₂.heap.push { cls := .type "dict", dict := none, data := .dict #[] }).DictOf knd s₂.heap.objs.size [] := Heap.DictOf.new s₂.heap
  generalize hH2 : s₂.heap.push { cls := .type "dict", dict := none, data := .dict #[] } = H2 at hns₁ hsb₁ hnew ⊢
  have hC : H2.objs.size = s₂.heap.objs.size + 1 := by rw [← hH2, Heap.size_push]
  have hDC : s₂.heap.objs.size ≠ H2.objs.size := by rw [hC]; exact Nat.ne_of_lt (Nat.lt_succ_self _)
  have below : ∀ b, b < s₂.heap.objs.size → b ≠ H2.objs.size ∧ b ≠ s₂.heap.objs.size := fun b hb => ⟨by rw [hC]; exact Nat.ne_of_lt (Nat.lt_succ_of_lt hb), Nat.ne_of_lt hb⟩
  have hDf : s₂.heap.objs.size ∉ fp := fun hm => Nat.lt_irrefl _ (hfp _ hm)
  have hCf : H2.objs.size ∉ fp := fun hm => by have := hfp _ hm; rw [hC] at this; exact Nat.lt_irrefl _ (Nat.lt_of_succ_lt this)
  have hCw : H2.objs.size ∉ wr := fun hm => hCf (W.sub _ hm)
  have hDw : s₂.heap.objs.size ∉ wr := fun hm => hDf (W.sub _ hm)
  have old : ∀ b o, s₂.heap.get? b = some o → h₁.get? b = some o := fun b o e => hsb₁.extBut b o (below b (Heap.lt_size e)).1 (Heap.get?_push_of_some _ (hH2 ▸ Heap.get?_push_of_some _ e))
  have hacc : h₁.DictOf knd s₂.heap.objs.size [] := hnew.at fun o e => hsb₁.extBut _ _ hDC (Heap.get?_push_of_some _ e)
  have hst₁ : St 0 h₁ := W.frame _ _ _ hst fun b _ o e => old b o e
  have fresh : ∀ a, s₂.heap.objs.size ≤ a → s₂.heap.get? a = none := fun a ha => by
    cases e : s₂.heap.get? a with
    | none => rfl
    | some o' => exact absurd (Heap.lt_size e) (Nat.not_lt.mpr ha)
  have hpk : ((compEnvC scope cl H2.objs.size env).scope.kind == .class || ((compEnvC scope cl H2.objs.size env).scope.kind == .module && (compEnvC scope cl H2.objs.size env).locals != (compEnvC scope cl H2.objs.size env).globals)) = false := by simp [compEnvC, relabel, hkind]
  have loop : ∀ s₃ : Shared, s₃ = { s₂ with heap := h₁, toks := s₂.toks + ([] : List (Str × Value)).length } →
      codeAny (model prog w) A (.compLoop (.DictComp (.Name b pk) (.Name a pv) [⟨.Tuple [.Name a pa, .Name b pb] kk tp, iter, [], 0⟩] scope pos) 0 (.ref I) (.ref s₂.heap.objs.size) (compEnvC scope cl H2.objs.size env))
        (compPost (model prog w) A E none Q (.ref s₂.heap.objs.size) H2.objs.size) s₃ := by
    rintro s₃ rfl
    refine kcd_loop (fun k s' => ∃ h' tk m' kvs i, s' = { s₂ with heap := h', toks := tk } ∧ i ≤ n ∧ k = n + 1 - i ∧ St i h' ∧ h'.DictOf knd s₂.heap.objs.size kvs ∧ h'.Ns H2.objs.size m' ∧ Filled key PV i kvs ∧
      (∀ b o, b ∉ wr → s₂.heap.get? b = some o → h'.get? b = some o)) ?_ (n + 1) ⟨h₁, _, _, [], 0, rfl, Nat.zero_le _, rfl, hst₁, hacc, hns₁, ⟨rfl, nofun⟩, fun b o _ e => old b o e⟩
    rintro k s' ⟨h', tk, m', kvs, i, rfl, hi, rfl, hst', hacc', hn', hF, hk⟩
    by_cases hlt : i < n
    · refine W.item i _ _ _ hlt hst' fun T vals h₂ tk₂ hPt hTs hT hM hk₂ => ?_
      obtain ⟨x, y, rfl, hky, hPV⟩ := hP i vals hlt hPt
      have hTl : T ∉ wr := W.apart i T h₂ hM
      refine W.go _ _ _ i T _ _ _ hM fun h₃ hst₃ hk₃ => ?_
      have hT₃ : h₃.IsTuple T #[x, y] := by
        obtain ⟨o, ho, r⟩ := hT
        exact ⟨o, hk₃ _ _ hTl ho, r⟩
      have hn₃ : h₃.Ns H2.objs.size m' := hn'.at' fun o e => hk₃ _ o hCw (hk₂ _ o hCw e)
      refine kcp_assign (env := compEnvC scope cl H2.objs.size env) hh hT₃ (lookup_relabel_local ha) (lookup_relabel_local hb) hpk hn₃ fun h₄ tk₄ hn₄ hk₄ => ?_
      refine ldVarK hn₄ (by simp : _ = some y) ?_ hkind (lookup_relabel_local hb) hdb
      refine ldVarK hn₄ (by rw [if_neg hab]; simp : _ = some x) ?_ hkind (lookup_relabel_local ha) hda
      have hacc₄ : h₄.DictOf knd s₂.heap.objs.size kvs := hacc'.at fun o e => hk₄ _ o hDC (hk₃ _ o hDw (hk₂ _ o hDw e))
      refine wpAny_dictSet_pairs (hsz := by rw [hF.1]; omega) hky hacc₄ fun h₆ hl₆ hs₆ => ?_
      refine ⟨n + 1 - (i + 1), by omega, h₆, _, _, stored kvs (key i) x, i + 1, rfl, hlt, rfl, ?_, hl₆, hn₄.sameBut hs₆ (Ne.symm hDC), hF.add (fun j hj => hkey i j hj hlt) hPV, fun b o hbw e => ?_⟩
      · exact W.frame _ _ _ hst₃ fun b hb o e => hs₆.extBut b o (fun q => hDf (q ▸ hb)) (hk₄ b o (fun q => hCf (by have q' : b = H2.objs.size := q; rw [← q']; exact hb)) e)
      · have hl := Heap.lt_size e
        exact hs₆.extBut b o (below b hl).2 (hk₄ b o (below b hl).1 (hk₃ b o hbw (hk₂ b o hbw (hk b o hbw e))))
    · obtain rfl : i = n := Nat.le_antisymm hi (Nat.not_lt.mp hlt)
      refine W.done _ _ _ hst' fun h₂ tk₂ hk₂ => ?_
      refine ⟨m', hn'.at' fun o e => hk₂ _ o hCw e, fun h'' hs'' => hQ _ h'' tk₂ kvs (fresh _ (Nat.le_refl _)) (Nat.le_refl _) ((hacc'.at fun o e => hk₂ _ o hDw e).extBut hs''.extBut hDC) hF fun b o hbw e => hs''.extBut b o (below b (Heap.lt_size e)).1 (hk₂ b o hbw (hk b o hbw e))⟩
  exact codeAny_compStart_dict (loop _ rfl) (W.self 0 _ _ _ hst₁ (loop _ rfl))
end
section
variable {prog : Program} {w : World} {A : Around} {E : Value → Shared → Prop} {s : Shared} {h₀ : Heap} {L : Addr} {m : Str → Option Value} {news : List (Addr × Obj)}
noncomputable abbrev eKey (every : List Nat) (i : Nat) : Int := ((every.getD i 0 : Nat) : Int)
noncomputable abbrev isAt (i : Nat) (v : Value) : Prop := ∃ t, v = Value.int (i : Int) t
theorem enum_swap {l : Addr} {vs : List Value} {n : Nat} {every : List Nat} {Q : Value → Shared → Prop} (hh : A.handled = none) (F : Fr h₀ L s.heap m) (N : News h₀ L s.heap news) (hm : (l, listOf (List.toArray vs) n) ∈ news)
    (hi : IntsAre vs (nints every)) (hnd : every.Nodup) (hz : every.length ≤ 1000) (hbig : h₀.NoLimit)
    (h : ∀ D h' tk o kvs, Fr h₀ L h' m → News h₀ L h' ((D, o) :: news) → (∀ p ∈ news, p.1 < D) → (D == sysModules) = false → o.IsDictOf (intKind prog w) kvs → Filled (eKey every) isAt every.length kvs → Q (.ref D) { s with heap := h', toks := tk }) :
    wpAny (model prog w) A (call (.type "enumerate") [.ref l]) (fun xv s₁ => wpAny (model prog w) A (pyIter xv) (fun it s₂ => ∃ I fp wr n Pt St Md, it = .ref I ∧ WalksT prog w A I fp wr n Pt St Md ∧ n ≤ sizeLine ∧ St 0 s₂.heap ∧ (∀ b ∈ fp, b < s₂.heap.objs.size) ∧
      (∀ i vals, i < n → Pt i vals → ∃ x y, vals = #[x, y] ∧ (intKind prog w).is (eKey every i) y = true ∧ isAt i x) ∧ (∀ i j, j < i → i < n → eKey every j ≠ eKey every i) ∧
      (∀ D h' tk kvs, s₂.heap.get? D = none → s₂.heap.objs.size ≤ D → h'.DictOf (intKind prog w) D kvs → Filled (eKey every) isAt n kvs →
        (∀ b o, b ∉ wr → s₂.heap.get? b = some o → h'.get? b = some o) → Q (.ref D) { s₂ with heap := h', toks := tk })) E s₁) E s := by
  have hl : s.heap.IsList l vs.toArray := News.isList N hm
  have hlt : l < s.heap.objs.size := Heap.lt_size (N _ hm).1
  have hvl : vs.length = every.length := by have := hi.length; simpa [nints] using this
  refine call_enumerate_list hl fun h' hE hI hsz hk => ?_
  refine wpAny_pyIter_enum hE ?_
  refine ⟨_, _, _, _, _, _, _, rfl, WalksT.enumerate hh (s.heap.objs.size + 1) s.heap.objs.size l (Nat.succ_ne_self _) (Nat.ne_of_lt (Nat.lt_succ_of_lt hlt)) (Nat.ne_of_lt hlt) vs.toArray, ?_, ⟨⟨_, hE⟩, hI, hl.at fun o e => hk _ o e⟩, ?_, ?_, ?_, ?_⟩
  · rw [List.size_toArray, hvl]; unfold sizeLine; omega
  · intro b hb
    show b < h'.objs.size
    rw [hsz]
    simp only [List.mem_cons, List.not_mem_nil, or_false] at hb
    rcases hb with rfl | rfl | rfl
    · exact Nat.lt_succ_self _
    · exact Nat.lt_succ_of_lt (Nat.lt_succ_self _)
    · exact Nat.lt_succ_of_lt (Nat.lt_succ_of_lt hlt)
  · rintro i vals hin ⟨t, x, hx, rfl⟩
    obtain ⟨a, ta, rfl, ha⟩ := hi.at i x (by simpa using hx)
    rw [List.getElem?_map] at ha
    obtain ⟨a, ha9, rfl⟩ := Option.map_eq_some_iff.mp ha
    refine ⟨_, _, rfl, ?_, t, rfl⟩
    rw [eKey, List.getD_eq_getElem?_getD, ha9]
    simp [intKind, Value.isInt]
  · intro i j hji hin
    rw [List.size_toArray, hvl] at hin
    have hj := Nat.lt_trans hji hin
    intro e
    have e' := Int.ofNat.inj e
    rw [List.getD_eq_getElem?_getD, List.getD_eq_getElem?_getD, List.getElem?_eq_getElem hin, List.getElem?_eq_getElem hj] at e'
    have e2 : every[j] = every[i] := e'
    exact (List.pairwise_iff_getElem.mp hnd j i hj hin hji) e2
  · intro D h2 tk kvs hDn hDs hd hF hk2
    have hDs' : s.heap.objs.size + 2 ≤ D := by
      have : h'.objs.size ≤ D := hDs
      rw [hsz] at this; exact this
    have up : ∀ b o, s.heap.get? b = some o → h2.get? b = some o := fun b o e => by
      have hb := Heap.lt_size e
      refine hk2 b o (fun hm => ?_) (hk b o e)
      simp only [List.mem_cons, List.not_mem_nil, or_false] at hm
      rcases hm with rfl | rfl
      · exact absurd (Nat.lt_succ_of_lt hb) (Nat.lt_irrefl _)
      · exact Nat.lt_irrefl _ hb
    obtain ⟨o, ho, hdo⟩ := Heap.dictOf_iff.mp hd
    have hL : L < D := Nat.lt_of_lt_of_le F.ns.lt (Nat.le_trans (Nat.le_add_right _ 2) hDs')
    have hlow := modules_low hbig
    rw [List.size_toArray, hvl] at hF
    refine h D h2 tk o kvs (F.keeps up) (fun p hp => ?_) (fun p hp => Nat.lt_of_lt_of_le (Heap.lt_size (N p hp).1) (Nat.le_trans (Nat.le_add_right _ 2) hDs')) (beq_eq_false_iff_ne.mpr (Nat.ne_of_gt (Nat.lt_trans hlow (Nat.lt_of_le_of_lt F.above hL)))) hdo hF
    rcases List.mem_cons.mp hp with rfl | hp
    · exact ⟨ho, Nat.ne_of_gt hL, Heap.get?_none_of_le (Nat.le_trans F.above (Nat.le_of_lt hL))⟩
    · exact ⟨up _ _ (N p hp).1, (N p hp).2⟩
end
theorem code32 {w : World} {h : Heap} (X : (Mine.hda.heap_1 w.params).In h) : CodeHd h 32 30 :=
  by
  walk_at "m_fill"
  have h1 := X 32 _ (by k_is)
  exact ⟨_, _, _, _, _, _, _, _, _, h1, rfl, rfl, rfl, rfl, rfl, rfl, rfl, rfl, by decide⟩
structure TabA where
  ps : Array Value
  own : List (Addr × Obj)
noncomputable abbrev tabLg (τ : TabA) : List (Addr × Obj) := (30, tabObj τ.ps) :: τ.own
noncomputable def TabHas (pos : Pos) (qual : Str) (τ : TabA) (c' : Addr) : Prop := ∃ oc vs t, τ = ⟨#[rawInt pos.line, rawInt pos.col, .ref c'], [(c', oc)]⟩ ∧ oc.data = .fields vs ∧ vs[1]? = some (.str qual t)
noncomputable def TabOk (pos : Pos) (qual : Str) (τ : TabA) : Prop := τ = ⟨#[], []⟩ ∨ ∃ c', TabHas pos qual τ c'
section
variable {M : Model} {A : Around} {E : Value → Shared → Prop} {s : Shared} {h₀ : Heap} {L a c : Addr} {m mg mb : Str → Option Value} {cn : Str} {cs : Scope} {ccd : Value} {cl : List (Str × Addr)} {all rest : List (Addr × Obj)}
  {p : Program} {loose : List Str} {mean : ExcName → Option Value} {params : Arguments} {body : Expr} {scope : Scope} {pos : Pos} {clos : List (Str × Addr)} {τ : TabA}
theorem lam_any {Q : Value → Shared → Prop} (F : Fr h₀ L s.heap m) (N : News h₀ L s.heap all) (hs : ∀ q ∈ tabLg τ ++ rest, q ∈ all) (nd : (adrs (tabLg τ ++ rest)).Nodup) (T : Top p loose mean mg mb h₀) (C : CodeHd h₀ c 30) (hcd : ccd = .ref c)
    (hτ : TabOk pos ((envX cn cs L a ccd cl).qual ++ "<lambda>") τ) (hdef : defaultsOf params (envX cn cs L a ccd cl) = ([], [])) (hcl : closureFor scope (envX cn cs L a ccd cl) = pure clos)
    (h : ∀ f c' τ' ctv pm h' tk, TabHas pos ((envX cn cs L a ccd cl).qual ++ "<lambda>") τ' c' → Fr h₀ L h' m →
      News h₀ L h' ((f, kla_obj "<lambda>" ((envX cn cs L a ccd cl).qual ++ "<lambda>") params body scope clos pm c' ctv) :: (tabLg τ' ++ rest)) → (∀ q ∈ tabLg τ' ++ rest, q.1 < f) → (adrs (tabLg τ' ++ rest)).Nodup → Q (.ref f) { s with heap := h', toks := tk }) :
    wpAny M A (eval (.Lambda params body scope pos) (envX cn cs L a ccd cl)) Q E s := by
  have N1 := News.sub' N hs
  refine kla_eval hdef ?_
  rcases hτ with rfl | ⟨c', oc, vs, t, rfl, hd, hv⟩
  · have U : UpdF 30 (tabObj #[]) ((30, tabObj #[]) :: rest) (fun o => (30, o) :: rest) := UpdF.head (by
      intro q hq e
      have h1 := (List.nodup_cons.mp nd).1
      exact h1 (List.mem_map.mpr ⟨q, hq, e⟩))
    refine kla_nest F N1 T C hcd U True.intro rfl hcl fun f c' oc vs t ctv h' tk F' N' hd hv l1 l2 => ?_
    have l3 : ∀ q ∈ rest, q.1 < c' := fun q hq => l1 q (.tail _ hq)
    have l4 : (30 : Addr) < c' := l1 _ (.head _)
    refine h f c' ⟨#[rawInt pos.line, rawInt pos.col, .ref c'], [(c', oc)]⟩ ctv ((mg (Str.ofString "__name__")).getD .none) h' tk ⟨oc, vs, t, rfl, hd, hv⟩ F' (News.sub' N' fun q hq => ?_) (fun q hq => ?_) ?_
    · rcases List.mem_cons.mp hq with rfl | hq
      · exact .head _
      rcases List.mem_cons.mp hq with rfl | hq
      · exact .tail _ (.tail _ (.head _))
      rcases List.mem_cons.mp hq with rfl | hq
      · exact .tail _ (.head _)
      · exact .tail _ (.tail _ (.tail _ hq))
    · rcases List.mem_cons.mp hq with rfl | hq
      · exact Nat.lt_trans l4 l2
      rcases List.mem_cons.mp hq with rfl | hq
      · exact l2
      · exact Nat.lt_trans (l3 q hq) l2
    · refine List.nodup_cons.mpr ⟨fun hm => ?_, List.nodup_cons.mpr ⟨fun hm => ?_, (List.nodup_cons.mp nd).2⟩⟩
      · rcases List.mem_cons.mp hm with e | hm
        · exact Nat.ne_of_lt l4 e
        · exact (List.nodup_cons.mp nd).1 hm
      · obtain ⟨q, hq, e⟩ := List.mem_map.mp hm
        exact Nat.ne_of_lt (l3 q hq) e
  · refine kla_hit (c' := c') F N1 T C hcd (.head _) (by simp [TriplesOk, rawInt]) (by simp [codeAmong, rawInt]) hcl fun f ctv h' tk F' N' l1 => ?_
    exact h f c' ⟨#[rawInt pos.line, rawInt pos.col, .ref c'], [(c', oc)]⟩ ctv ((mg (Str.ofString "__name__")).getD .none) h' tk ⟨oc, vs, t, rfl, hd, hv⟩ F' N' l1 nd
end
section
local macro_rules | `(tactic| walk_at "m_own") => `(tactic| first | (with_reducible show wpAny _ _ (subscriptTail _ _ (Value.ref _) (Value.int _ _)) _ _ _))
noncomputable abbrev lamPos : Pos := { line := 20, col := 28, endLine := 20, endCol := 52 }
noncomputable abbrev lamQual : Str := Str.ofString "sorted_beneath" ++ Str.ofString ".<locals>." ++ Str.ofString "<lambda>"
noncomputable abbrev lamParams : Arguments := { posonlyargs := [], args := [{ arg := Str.ofString "node", annotation := none, pos := { line := 20, col := 35, endLine := 20, endCol := 39 } }], vararg := none, kwonlyargs := [], kw_defaults := [], kwarg := none, defaults := [] }
noncomputable abbrev lamBody : Expr := (Expr.Name (Str.ofString "known") { line := 20, col := 41, endLine := 20, endCol := 46 }).Subscript (Expr.Name (Str.ofString "node") { line := 20, col := 47, endLine := 20, endCol := 51 }) { line := 20, col := 41, endLine := 20, endCol := 52 }
noncomputable abbrev lamScope : Scope := { kind := ScopeKind.function, names := [(Str.ofString "node", NameKind.local), (Str.ofString "known", NameKind.free)], isGenerator := false, isCoroutine := false }
set_option maxHeartbeats 4000000 in
theorem key_turn {w : World} {A A₀ : Around} {base g : Heap} {L : Addr} {m mg mb : Str → Option Value} {s : Shared} {news : List (Addr × Obj)} {env : Env} {outer : List Env} {loose : List Str} {mean : ExcName → Option Value} {E : Value → Shared → Prop}
    {f c' cA D : Addr} {pm ctv : Value} {oc oC oD : Obj} {vs : Array Value} {tq tn ti : Tok} {n i : Int} {kvs : List (Int × Value)}
    (B : Below A₀ base outer g) (F : Fr g L s.heap m) (X : (Mine.hda.heap_1 w.params).In g) (N : News g L s.heap news) (T : Top topProg loose mean mg mb g) (hA : A.frames = some (env :: outer)) (hf : env.frame = some L) (hke : env.scope.kind = .function) (hroom : A.depth < recursionLimit)
    (mf : (f, kla_obj "<lambda>" lamQual lamParams lamBody lamScope [(Str.ofString "known", cA)] pm c' ctv) ∈ news) (mc : (c', oc) ∈ news) (hoc : oc.data = .fields vs) (hvc : vs[1]? = some (.str lamQual tq))
    (mC : (cA, oC) ∈ news) (dC : oC.data = .cell (some (.ref D))) (mD : (D, oD) ∈ news) (hD : oD.IsDictOf (intKind PySem.Challenge.rw_xw0206_01.row.prog w) kvs) (hv : valueAt kvs n = some (.int i ti)) :
    wpAny (model PySem.Challenge.rw_xw0206_01.row.prog w) A (call (.ref f) [.int n tn]) (fun v s' => ∃ h' tk, v = .int i ti ∧ s' = { s with heap := h', toks := tk } ∧ Fr g L h' m ∧ News g L h' news) E s := by
  refine wpAny_call (kla_code B F X N T hA hf hke mf (codeRec_news N mc hoc hvc) hroom rfl (locs rfl) (fun g' L' h₁ FG F' N' B' X' T' => ?_) rfl rfl rfl (by decide))
  walk1
  k_dflt (refine nameX_F N' (by rfl) mC dC ?_)
  k_dflt (refine nameX_L F' (by rfl) ?_)
  have hDo : h₁.DictOf (intKind PySem.Challenge.rw_xw0206_01.row.prog w) D kvs := Heap.dictOf_iff.mpr ⟨oD, (N' _ mD).1, hD⟩
  k_dflt (refine tail_any (Heap.DictOf.typeIs (s := { s with heap := h₁, toks := _ }) hDo) slot_dict_getitem.lookup (wpAny_getItem_of (knd := intKind _ w) (k := n) (by simp [intKind, Value.isInt]) hDo.mapOf hv ?_) (by with_unfolding_all rfl))
  exact leaveK_ F' N' (fun F'' N'' => ⟨h₁, _, rfl, rfl, F'', N''⟩)
end
local macro_rules | `(tactic| walk_at "m_own") => `(tactic| first | (with_reducible show wpAny _ _ (call (Value.type "enumerate") _) _ _ _) | (with_reducible show wpAny _ _ (eval (Expr.DictComp _ _ _ _ _) _) _ _ _) | (with_reducible show wpAny _ _ (eval (Expr.Lambda _ _ _ _) _) _ _ _) | (with_reducible show wpAny _ _ (binaryOp Operator.Add (Value.ref _) (Value.ref _)) _ _ _) | (with_reducible show wpAny _ _ (call (Value.builtin "sorted") _ _) _ _ _) | (with_reducible show wpAny _ _ (storeName _ (Str.ofString "known") _) _ _ _) | (with_reducible show wpAny _ _ (subscriptTail _ _ (Value.ref _) (Value.int _ _)) _ _ _))
noncomputable abbrev tabT (P : Params) (τ : TabA) (t : TreeA) : List (Addr × Obj) := (30, tabObj τ.ps) :: (treeHd P t ++ (τ.own ++ t.rows.flatMap (rowLg P)))
theorem tabT_perm (P : Params) (τ : TabA) (t : TreeA) : (tabT P τ t).Perm (tabLg τ ++ treeLg P t) := by
  unfold tabT tabLg treeLg
  generalize treeHd P t = X
  generalize t.rows.flatMap (rowLg P) = Y
  walk_at "m_perm"
noncomputable def everyOf (nds : List Nd) (p : Nat) : List Nat := under nds p 0 ++ under nds p 1 ++ under nds p 2
noncomputable def SwapEnd (w : World) (h₀ : Heap) (L : Addr) (m : Str → Option Value) (news : List (Addr × Obj)) (every : List Nat) (s : Shared) (v : Value) (s' : Shared) : Prop :=
  ∃ D h' tk o kvs, v = .ref D ∧ s' = { s with heap := h', toks := tk } ∧ Fr h₀ L h' m ∧ News h₀ L h' ((D, o) :: news) ∧ (∀ p ∈ news, p.1 < D) ∧ (D == sysModules) = false ∧ o.IsDictOf (intKind PySem.Challenge.rw_xw0206_01.row.prog w) kvs ∧ Filled (eKey every) isAt every.length kvs
theorem swap_cut {w : World} {M : Model} {A : Around} {tr : Sem Value} {E Q : Value → Shared → Prop} {h₀ h : Heap} {L : Addr} {m : Str → Option Value} {tk : Nat} (news : List (Addr × Obj)) (every : List Nat) (s : Shared) (_F : Fr h₀ L h m)
    (h1 : wpAny M A tr (SwapEnd w h₀ L m news every s) E { s with heap := h, toks := tk })
    (h2 : ∀ D h' tk o kvs, Fr h₀ L h' m → News h₀ L h' ((D, o) :: news) → (∀ p ∈ news, p.1 < D) → (D == sysModules) = false → o.IsDictOf (intKind PySem.Challenge.rw_xw0206_01.row.prog w) kvs → Filled (eKey every) isAt every.length kvs → Q (.ref D) { s with heap := h', toks := tk }) :
    wpAny M A tr Q E { s with heap := h, toks := tk } :=
  wpAny_mono h1 (fun v s' hend => by
    obtain ⟨D, h7, tk7, oD, kvs, rfl, rfl, F7, N7, ltD, loD, hD, hF⟩ := hend
    exact h2 D h7 tk7 oD kvs F7 N7 ltD loD hD hF) fun _ _ e => e
set_option maxHeartbeats 8000000 in
theorem sorted_x (w : World) (t : TreeA) (τ : TabA) (nds : List Nd) (T : TreeOk t nds) (hτ : TabOk lamPos lamQual τ) (hs : nds.length < 300) (ls : Addr) (vs : List Value) (nodes : List Nat) (nn : Nat) (hv : IntsAre vs (nints nodes)) (p : Nat) (tp : Tok) (hp : p < nds.length) (hn : ∀ i ∈ nodes, i ∈ everyOf nds p) (hnd : (everyOf nds p).Nodup) (hl : nodes.length < 64) (hl2 : 2 ≤ nodes.length) :
    Sp w 12 33 [.ref t.T, .int p tp, .ref ls] ((ls, listOf vs.toArray nn) :: tabT w.params τ t) (fun v lg' => ∃ τ' l' c' vs' ns', v = .ref l' ∧ lg' = (l', listOf (List.toArray vs') c') :: (ls, listOf vs.toArray nn) :: tabT w.params τ' t ∧ TabOk lamPos lamQual τ' ∧
      IntsAre vs' (nints ns') ∧ ns'.Perm nodes ∧ ns'.Pairwise (fun x y => (everyOf nds p).idxOf x ≤ (everyOf nds p).idxOf y)) := by
  intro dp frs gd un h₀ L m s Q E C hd hu F N nd hQ
  have hvl : vs.toArray.size = nodes.length := by have := hv.length; simpa [nints] using this
  have ndS := (List.nodup_cons.mp nd).2
  have htS : ∀ q ∈ treeLg w.params t, q ∈ tabT w.params τ t := fun q hq => (tabT_perm w.params τ t).mem_iff.mpr (List.mem_append.mpr (.inr hq))
  have ndT : (adrs (treeLg w.params t)).Nodup := by
    have h := nodup_perm ndS (tabT_perm w.params τ t)
    unfold adrs at h ⊢
    rw [List.map_append, List.nodup_append] at h
    exact h.2.1
  have hu0 := under_size T p 0
  have hu1 := under_size T p 1
  have hu2 := under_size T p 2
  walk_at "m_openC"
  walk_at "m_steps"
  rename_i _A _b G0 L1 _h _tk _lo _me _mg _mb _B F0 _X _T _kp _lt oC dC N0
  refine Sp.read (nspT w t nds p tp T hp (by omega)) (cx_inC (by assumption) rfl rfl (by k_asm) (by assumption) (by assumption) rfl) (by walk_at "m_room") (by walk_at "m_room") (by k_asm) (by k_asm) (fun q hq => .tail _ (.tail _ (htS q hq))) ndT ?_
  rintro v1 own1 h1 tk1 F1 N1 all1 ne1 nd1 ⟨l1, c1, vs1, rfl, rfl, hv1⟩
  simp only [List.cons_append, List.nil_append] at N1
  walk_at "m_steps"
  refine Sp.read (attT w t nds p tp T hp (by omega)) (cx_inC (by assumption) rfl rfl (by k_asm) (by assumption) (by assumption) rfl) (by walk_at "m_room") (by walk_at "m_room") (by k_asm) (by k_asm) (fun q hq => .tail _ (.tail _ (.tail _ (htS q hq)))) ndT ?_
  rintro v2 own2 h2 tk2 F2 N2 all2 ne2 nd2 ⟨l2, c2, vs2, rfl, rfl, hv2⟩
  simp only [List.cons_append, List.nil_append] at N2
  walk_at "m_steps"
  refine kmk_add_ints F2 N2 (News.isList N2 (.tail _ (.head _))) (News.isList N2 (.head _)) hv1 hv2 ?_ (by simp only [nints, List.length_map]; unfold sizeLine; omega)
  intro l3 vs3 h3 F3 N3 lt3 hv3
  walk_at "m_steps"
  refine Sp.read (kidT w t nds p tp T hp (by omega)) (cx_inC (by assumption) rfl rfl (by k_asm) (by assumption) (by assumption) rfl) (by walk_at "m_room") (by walk_at "m_room") (by k_asm) (by k_asm) (fun q hq => .tail _ (.tail _ (.tail _ (.tail _ (.tail _ (htS q hq)))))) ndT ?_
  rintro v4 own4 h4 tk4 F4 N4 all4 ne4 nd4 ⟨l4, c4, vs4, rfl, rfl, hv4⟩
  simp only [List.cons_append, List.nil_append] at N4
  walk_at "m_steps"
  refine kmk_add_ints F4 N4 (News.isList N4 (.tail _ (.head _))) (News.isList N4 (.head _)) hv3 hv4 ?_ (by simp only [nints, List.length_map, List.length_append]; unfold sizeLine; omega)
  intro le vse h5 F5 N5 lt5 hve
  have hve' : IntsAre vse (nints (everyOf nds p)) := by
    unfold everyOf; simp only [nints, List.map_append]; exact hve
  have N5' := News.sub' N5 (l' := (le, listOf vse.toArray 0) :: (L1 + 1, oC) :: (ls, listOf vs.toArray nn) :: tabT w.params τ t) (fun q hq => by
    rcases List.mem_cons.mp hq with rfl | hq
    · exact .head _
    · exact .tail _ (.tail _ (.tail _ (.tail _ (.tail _ hq)))))
  have ltC : ∀ q ∈ (ls, listOf vs.toArray nn) :: tabT w.params τ t, q.1 < L1 + 1 := fun q hq => Nat.lt_succ_of_lt (_lt q hq)
  have ltE : L1 + 1 < le := lt5 _ (.tail _ (.tail _ (.tail _ (.tail _ (.head _)))))
  clear N5 lt5 N4 N3 N2 N1 N0 ne1 ne2 ne4 lt3
  walk_at "m_steps"
  rename_i h6 F6 N6
  have hz6 : (everyOf nds p).length ≤ 1000 := by unfold everyOf; simp only [List.length_append]; omega
  refine swap_cut (w := w) ((le, listOf vse.toArray 0) :: (L1 + 1, oC) :: (ls, listOf vs.toArray nn) :: tabT w.params τ t) (everyOf nds p) s F6 ?_ ?_
  · k_dflt (refine dictSwap (knd := intKind PySem.Challenge.rw_xw0206_01.row.prog w) (eKey (everyOf nds p)) isAt rfl (by with_unfolding_all rfl) (by decide) (by rfl) (by decide) (by rfl) (by rfl) (by decide) (by decide) (by decide) ?_)
    walk_at "m_steps"
    k_dflt (refine enum_swap rfl F6 N6 (.head _) hve' hnd hz6 (Top.nolimit (by assumption)) ?_)
    intro D h7 tk7 oD kvs F7 N7 ltD loD hD hF
    exact ⟨D, h7, tk7, oD, kvs, rfl, rfl, F7, N7, ltD, loD, hD, hF⟩
  intro D h7 tk7 oD kvs F7 N7 ltD loD hD hF
  have N7' := News.sub' N7 (l' := (L1 + 1, oC) :: (D, oD) :: (ls, listOf vs.toArray nn) :: tabT w.params τ t) (fun q hq => by
    rcases List.mem_cons.mp hq with rfl | hq
    · exact .tail _ (.tail _ (.head _))
    rcases List.mem_cons.mp hq with rfl | hq
    · exact .head _
    · exact .tail _ (.tail _ (.tail _ hq)))
  have ltCD : L1 + 1 < D := ltD _ (.tail _ (.head _))
  have neC : ∀ q ∈ (D, oD) :: (ls, listOf vs.toArray nn) :: tabT w.params τ t, q.1 ≠ L1 + 1 := fun q hq => by
    rcases List.mem_cons.mp hq with rfl | hq
    · exact Nat.ne_of_gt ltCD
    · exact Nat.ne_of_lt (ltC q hq)
  have ltDr : ∀ q ∈ (ls, listOf vs.toArray nn) :: tabT w.params τ t, q.1 < D := fun q hq => Nat.lt_trans (ltC q hq) ltCD
  clear N7 N6
  walk_at "m_steps"
  k_dflt (refine storeX_C F7 N7' (by rfl) (UpdF.head neC) dC ?_)
  intro h8 oC8 F8 N8 dC8
  have ndX : (adrs ((L1 + 1, oC8) :: (D, oD) :: (ls, listOf vs.toArray nn) :: tabT w.params τ t)).Nodup := by
    refine List.nodup_cons.mpr ⟨fun hm => ?_, List.nodup_cons.mpr ⟨fun hm => ?_, nd⟩⟩
    · obtain ⟨q, hq, e⟩ := List.mem_map.mp hm
      exact neC q hq e
    · obtain ⟨q, hq, e⟩ := List.mem_map.mp hm
      exact Nat.ne_of_lt (ltDr q hq) e
  have pmX : ((L1 + 1, oC8) :: (D, oD) :: (ls, listOf vs.toArray nn) :: tabT w.params τ t).Perm (tabLg τ ++ ((L1 + 1, oC8) :: (D, oD) :: (ls, listOf vs.toArray nn) :: treeLg w.params t)) := by
    refine (List.Perm.append_left [(L1 + 1, oC8), (D, oD), (ls, listOf vs.toArray nn)] (tabT_perm w.params τ t)).trans ?_
    generalize tabLg τ = X
    generalize treeLg w.params t = Y
    walk_at "m_perm"
  walk_at "m_steps"
  k_dflt (refine lam_any (τ := τ) F8 N8 (fun q hq => pmX.mem_iff.mpr hq) (nodup_perm ndX pmX) (by assumption) (code32 (by assumption)) rfl hτ rfl (by rfl) ?_)
  intro f c' τ' ctv pm h9 tk9 hτ' F9 N9 ltf ndF
  have hτ2 : TabOk lamPos lamQual τ' := .inr ⟨c', hτ'⟩
  obtain ⟨oc, vsc, tq, rfl, hoc, hvc⟩ := hτ'
  walk_at "m_steps"
  show wpAny _ _ (call (.builtin "sorted") [.ref ls] [(Str.ofString "key", .ref f)]) _ _ _
  have hl64 : (nints nodes).length < 64 := by simpa [nints] using hl
  k_dflt (refine ksk_letter (b := false) (fun x => (((everyOf nds p).idxOf x.toNat : Nat) : Int)) F9 N9 (News.isList N9 (.tail _ (.tail _ (.tail _ (.tail _ (.tail _ (.head _))))))) hv hl64 (ksk_s1 _ _) (fun x => ksk_l1 _ _) (fun x => ksk_t1 _ _) ?_ ?_)
  · intro n tn h10 tk10 own10 hn10 F10 N10
    obtain ⟨a, ha, rfl⟩ := List.mem_map.mp hn10
    have haE := hn a ha
    have hi9 : (everyOf nds p).idxOf a < (everyOf nds p).length := List.idxOf_lt_length_of_mem haE
    obtain ⟨vk, hkv, ti, rfl⟩ := hF.2 _ hi9
    have hnod : (kvs.map (·.1)).Nodup := by
      obtain ⟨es, ep, _, _, _, _, h⟩ := hD
      exact h
    have ek : eKey (everyOf nds p) ((everyOf nds p).idxOf a) = (a : Int) := by
      unfold eKey
      rw [List.getD_eq_getElem?_getD, List.getElem?_eq_getElem hi9, List.getElem_idxOf]
      rfl
    rw [ek] at hkv
    have hva := valueAt_of_get hnod hkv
    refine wpAny_mono (key_turn _B F10 (by assumption) N10 (by assumption) rfl rfl rfl (by dsimp only [Around.deeper, Around.in1]; omega) (List.mem_append.mpr (.inl (.head _))) (List.mem_append.mpr (.inl (.tail _ (.tail _ (.head _))))) hoc hvc (List.mem_append.mpr (.inl (.tail _ (.tail _ (.tail _ (.head _)))))) dC8 (List.mem_append.mpr (.inl (.tail _ (.tail _ (.tail _ (.tail _ (.head _))))))) hD hva) (fun v s' hq => ?_) (fun _ _ x => x)
    obtain ⟨h', tk', rfl, rfl, F', N'⟩ := hq
    exact KskEnd.intro F' N' (fun q hq => hq)
  · intro D11 vs11 ns11 c11 h11 tk11 F11 N11 lt11 hI11 hlen11 hperm11 hpw11 _
    walk_at "m_steps"
    have ens : nints (ns11.map Int.toNat) = ns11 := by
      unfold nints
      rw [List.map_map]
      conv => rhs; rw [← List.map_id ns11]
      refine List.map_congr_left fun x hx => ?_
      obtain ⟨a, _, rfl⟩ := List.mem_map.mp (hperm11.mem_iff.mp hx)
      rfl
    have hp11 : (ns11.map Int.toNat).Perm nodes := by
      have h := hperm11.map Int.toNat
      unfold nints at h
      rw [List.map_map] at h
      have e : nodes.map (Int.toNat ∘ fun (a : Nat) => (a : Int)) = nodes := by
        conv => rhs; rw [← List.map_id nodes]
        exact List.map_congr_left fun x _ => rfl
      rw [e] at h
      exact h
    have pmF : (tabLg ⟨#[rawInt lamPos.line, rawInt lamPos.col, .ref c'], [(c', oc)]⟩ ++ ((L1 + 1, oC8) :: (D, oD) :: (ls, listOf vs.toArray nn) :: treeLg w.params t)).Perm ((L1 + 1, oC8) :: (D, oD) :: ((ls, listOf vs.toArray nn) :: tabT w.params ⟨#[rawInt lamPos.line, rawInt lamPos.col, .ref c'], [(c', oc)]⟩ t)) := by
      refine List.Perm.trans ?_ (List.Perm.append_left [(L1 + 1, oC8), (D, oD), (ls, listOf vs.toArray nn)] (tabT_perm w.params _ t).symm)
      generalize tabLg ⟨#[rawInt lamPos.line, rawInt lamPos.col, .ref c'], [(c', oc)]⟩ = X
      generalize treeLg w.params t = Y
      walk_at "m_perm"
    have ndG := (List.nodup_cons.mp (List.nodup_cons.mp (nodup_perm ndF pmF)).2).2
    refine Lv.fin hQ (fun _ : Unit => (D11, listOf (List.toArray vs11) c11) :: (ls, listOf vs.toArray nn) :: tabT w.params ⟨#[rawInt lamPos.line, rawInt lamPos.col, .ref c'], [(c', oc)]⟩ t) () F11 N11 (fun q hq => ?_) (List.nodup_cons.mpr ⟨fun hm => ?_, ndG⟩) ⟨_, D11, c11, vs11, ns11.map Int.toNat, rfl, rfl, hτ2, by rw [ens]; exact hI11, hp11, ?_⟩
    · rcases List.mem_cons.mp hq with rfl | hq
      · exact .head _
      · exact .tail _ (.tail _ (pmF.mem_iff.mpr (.tail _ (.tail _ hq))))
    · obtain ⟨q, hq, e⟩ := List.mem_map.mp hm
      exact Nat.ne_of_lt (lt11 q (.tail _ (pmF.mem_iff.mpr (.tail _ (.tail _ hq))))) e
    · refine List.pairwise_map.mpr (hpw11.imp fun {x y} h => ?_)
      rw [if_neg (by decide)] at h
      exact Int.ofNat_le.mp h
set_option maxHeartbeats 8000000 in
theorem sorted_lt2 (w : World) (lgr : List (Addr × Obj)) (ls T : Addr) (vs : List Value) (nn : Nat) (pv : Value) (hl2 : vs.length < 2) :
    Sp w 12 33 [.ref T, pv, .ref ls] ((ls, listOf vs.toArray nn) :: lgr) (fun v lg' => v = .ref ls ∧ lg' = (ls, listOf vs.toArray nn) :: lgr) := by
  intro dp frs gd un h₀ L m s Q E C hd hu F N nd hQ
  have hvl : vs.toArray.size = vs.length := by simp
  walk_at "m_openC"
  walk_at "m_steps"
  show Lv _ _ _ _ _ _ _ _ _
  rename_i NX
  exact Lv.fin hQ (fun _ : Unit => (ls, listOf vs.toArray nn) :: lgr) () (by k_asm) NX (fun q hq => .tail _ hq) nd ⟨rfl, rfl⟩
/-- every ask lies within n; the answers are those of lt; what comes out is as Q says -/
noncomputable def Good {α : Type} (n : Nat) (lt : Nat → Nat → Bool) : KasT α → (α → Prop) → Prop
  | .ret a, Q => Q a
  | .ask i j k, Q => i < n ∧ j < n ∧ Good n lt (k (lt i j)) Q
theorem Good.bind {α β : Type} {n : Nat} {lt : Nat → Nat → Bool} {f : α → KasT β} {Q : β → Prop} : ∀ (t : KasT α), Good n lt t (fun a => Good n lt (f a) Q) → Good n lt (t.bind f) Q
  | .ret _, h => h
  | .ask i j k, h => ⟨h.1, h.2.1, Good.bind (k (lt i j)) h.2.2⟩
theorem Good.mono {α : Type} {n : Nat} {lt : Nat → Nat → Bool} {Q Q' : α → Prop} (hq : ∀ a, Q a → Q' a) : ∀ (t : KasT α), Good n lt t Q → Good n lt t Q'
  | .ret a, h => hq a h
  | .ask i j k, h => ⟨h.1, h.2.1, Good.mono hq (k (lt i j)) h.2.2⟩
theorem Good.wp {α : Type} {n : Nat} {lt : Nat → Nat → Bool} {cmp : Nat → Nat → (Bool → Shared → Prop) → Shared → Prop} {Q : α → Prop} {R : α → Shared → Prop} (I : Shared → Prop)
    (hc : ∀ i j s C, i < n → j < n → I s → (∀ s', I s' → C (lt i j) s') → cmp i j C s) (hR : ∀ a s, Q a → I s → R a s) : ∀ (t : KasT α) (s : Shared), Good n lt t Q → I s → t.kasWp cmp R s
  | .ret a, s, h, hI => hR a s h hI
  | .ask i j k, s, h, hI => hc i j s _ h.1 h.2.1 hI fun s' hI' => Good.wp I hc hR (k (lt i j)) s' h.2.2 hI'
noncomputable abbrev ltR (r : Nat → Nat) (i j : Nat) : Bool := decide (r i < r j)
noncomputable def Pm (n : Nat) (p : Array Nat) : Prop := p.toList.Perm (List.range n)
noncomputable def RK (r : Nat → Nat) (p : Array Nat) (i : Nat) : Nat := r (p.getD i 0)
noncomputable def Inj (n : Nat) (r : Nat → Nat) : Prop := ∀ i j, i < n → j < n → r i = r j → i = j
noncomputable def Up (r : Nat → Nat) (p : Array Nat) (m : Nat) : Prop := ∀ i j, i < j → j < m → RK r p i < RK r p j
theorem Pm.size {n : Nat} {p : Array Nat} (h : Pm n p) : p.size = n := by
  have := h.length_eq
  simpa using this
theorem Pm.getD {n i : Nat} {p : Array Nat} (h : Pm n p) (hi : i < n) : ∃ hs : i < p.toList.length, p.getD i 0 = p.toList[i] := by
  have hs := h.size
  refine ⟨by simp; omega, ?_⟩
  rw [Array.getD_eq_getD_getElem?, Array.getElem?_eq_getElem (by omega)]
  simp
theorem Pm.lt {n i : Nat} {p : Array Nat} (h : Pm n p) (hi : i < n) : p.getD i 0 < n := by
  obtain ⟨hs, e⟩ := h.getD hi
  rw [e]
  exact List.mem_range.mp (h.mem_iff.mp (List.getElem_mem hs))
theorem Pm.ne {n i j : Nat} {p : Array Nat} (h : Pm n p) (hi : i < n) (hj : j < n) (hij : i < j) : p.getD i 0 ≠ p.getD j 0 := by
  obtain ⟨hs, e⟩ := h.getD hi
  obtain ⟨hs', e'⟩ := h.getD hj
  rw [e, e']
  have nd : p.toList.Nodup := h.symm.nodup_iff.mp List.nodup_range
  exact List.pairwise_iff_getElem.mp nd i j hs hs' hij
theorem Pm.rk {n i j : Nat} {r : Nat → Nat} {p : Array Nat} (h : Pm n p) (hr : Inj n r) (hi : i < n) (hj : j < n) (hij : i < j) : RK r p i ≠ RK r p j := fun e => h.ne hi hj hij (hr _ _ (h.lt hi) (h.lt hj) e)
theorem Up.succ {r : Nat → Nat} {p : Array Nat} {m : Nat} (h : Up r p m) (h1 : 1 ≤ m) (hl : RK r p (m - 1) < RK r p m) : Up r p (m + 1) := by
  intro i j hij hj
  by_cases hjm : j < m
  · exact h i j hij hjm
  · obtain rfl : j = m := by omega
    by_cases hi : i = j - 1
    · subst hi; exact hl
    · exact Nat.lt_trans (h i (j - 1) (by omega) (by omega)) hl
noncomputable def Dn (r : Nat → Nat) (p : Array Nat) (m : Nat) : Prop := ∀ i j, i < j → j < m → RK r p j < RK r p i
theorem good_asc {n : Nat} {r : Nat → Nat} {p : Array Nat} (hp : Pm n p) (hr : Inj n r) : ∀ f m, 1 ≤ m → m + f ≤ n → Up r p m → Good n (ltR r) (kas_asc p f m) (fun m' => m ≤ m' ∧ m' ≤ m + f ∧ Up r p m' ∧ (m' < m + f → RK r p m' < RK r p (m' - 1)))
  | 0, m, _, _, hu => ⟨Nat.le_refl _, Nat.le_refl _, hu, fun h => absurd h (Nat.lt_irrefl _)⟩
  | f + 1, m, h1, hm, hu => by
    refine ⟨hp.lt (by omega), hp.lt (by omega), ?_⟩
    dsimp only
    by_cases hc : ltR r (p.getD m 0) (p.getD (m - 1) 0) = true
    · rw [if_pos hc]
      exact ⟨Nat.le_refl _, Nat.le_add_right _ _, hu, fun _ => of_decide_eq_true hc⟩
    · rw [if_neg hc]
      have hne := hp.rk hr (i := m - 1) (j := m) (by omega) (by omega) (by omega)
      have hnl : ¬ RK r p m < RK r p (m - 1) := fun h => hc (decide_eq_true h)
      refine Good.mono (fun m' h => ⟨by omega, by omega, h.2.2.1, fun h' => h.2.2.2 (by omega)⟩) _ (good_asc hp hr f (m + 1) (by omega) (by omega) (hu.succ h1 (by omega)))
theorem good_desc {n : Nat} {r : Nat → Nat} {p : Array Nat} (hp : Pm n p) (hr : Inj n r) : ∀ f m, 1 ≤ m → m + f ≤ n → Dn r p m → Good n (ltR r) (kas_desc f p m 0) (fun a => a.1 = p ∧ m ≤ a.2.1 ∧ a.2.1 ≤ m + f ∧ a.2.2 = 0 ∧ Dn r p a.2.1)
  | 0, m, _, _, hu => ⟨rfl, Nat.le_refl _, Nat.le_refl _, rfl, hu⟩
  | f + 1, m, h1, hm, hu => by
    refine ⟨hp.lt (by omega), hp.lt (by omega), ?_⟩
    dsimp only
    by_cases hc : ltR r (p.getD m 0) (p.getD (m - 1) 0) = true
    · rw [if_pos hc, if_neg (Nat.lt_irrefl 0)]
      have hl : RK r p m < RK r p (m - 1) := of_decide_eq_true hc
      refine Good.mono (fun a h => ⟨h.1, by omega, by omega, h.2.2.2⟩) _ (good_desc hp hr f (m + 1) (by omega) (by omega) ?_)
      intro i j hij hj
      by_cases hjm : j < m
      · exact hu i j hij hjm
      · obtain rfl : j = m := by omega
        by_cases hi : i = j - 1
        · subst hi; exact hl
        · exact Nat.lt_trans hl (hu i (j - 1) (by omega) (by omega))
    · rw [if_neg hc]
      have hne := hp.rk hr (i := m - 1) (j := m) (by omega) (by omega) (by omega)
      have hnl : ¬ RK r p m < RK r p (m - 1) := fun h => hc (decide_eq_true h)
      refine ⟨hp.lt (by omega), hp.lt (by omega), ?_⟩
      dsimp only
      have hd : ltR r (p.getD (m - 1) 0) (p.getD m 0) = true := decide_eq_true (show RK r p (m - 1) < RK r p m by omega)
      rw [if_pos hd]
      exact ⟨rfl, Nat.le_refl _, Nat.le_add_right _ _, rfl, hu⟩
theorem good_place {n k : Nat} {r : Nat → Nat} {p : Array Nat} (hp : Pm n p) (hr : Inj n r) (hk : k < n) (hu : Up r p k) : ∀ f l u, l ≤ u → u ≤ k → u ≤ l + f → (∀ i, i < l → RK r p i < RK r p k) → (∀ i, u ≤ i → i < k → RK r p k < RK r p i) →
    Good n (ltR r) (kas_place p k f l u) (fun l' => l' ≤ k ∧ (∀ i, i < l' → RK r p i < RK r p k) ∧ (∀ i, l' ≤ i → i < k → RK r p k < RK r p i))
  | 0, l, u, h1, h2, h3, ha, hb => ⟨by omega, ha, fun i hi hik => hb i (by omega) hik⟩
  | f + 1, l, u, h1, h2, h3, ha, hb => by
    unfold kas_place
    by_cases hlu : l ≥ u
    · rw [if_pos hlu]
      exact ⟨by omega, ha, fun i hi hik => hb i (by omega) hik⟩
    · rw [if_neg hlu]
      have hmid : (l + u) / 2 < u := by omega
      have hlm : l ≤ (l + u) / 2 := by omega
      refine ⟨hp.lt hk, hp.lt (by omega), ?_⟩
      dsimp only
      generalize (l + u) / 2 = q at hmid hlm
      by_cases hc : ltR r (p.getD k 0) (p.getD q 0) = true
      · rw [if_pos hc]
        have hl : RK r p k < RK r p q := of_decide_eq_true hc
        refine good_place hp hr hk hu f l q hlm (by omega) (by omega) ha fun i hi hik => ?_
        by_cases hiq : i = q
        · subst hiq; exact hl
        · exact Nat.lt_trans hl (hu q i (by omega) hik)
      · rw [if_neg hc]
        have hne := hp.rk hr (i := q) (j := k) (by omega) hk (by omega)
        have hnl : ¬ RK r p k < RK r p q := fun h => hc (decide_eq_true h)
        refine good_place hp hr hk hu f (q + 1) u (by omega) h2 (by omega) (fun i hi => ?_) hb
        by_cases hiq : i = q
        · subst hiq; omega
        · have := hu i q (by omega) (by omega); omega
theorem rk_of {r : Nat → Nat} {p q : Array Nat} {i j : Nat} (h : p[i]? = q[j]?) : RK r p i = RK r q j := by
  unfold RK
  rw [Array.getD_eq_getD_getElem?, Array.getD_eq_getD_getElem?, h]
theorem rk_bubble {r : Nat → Nat} {p : Array Nat} {k l : Nat} (hk : k < p.size) (hl : l ≤ k) (i : Nat) : RK r (bubble p k (k - l)) i = if i = l then RK r p k else if l < i ∧ i ≤ k then RK r p (i - 1) else RK r p i := by
  have h := getElem?_bubble hk (k - l) (Nat.sub_le _ _) i
  rw [show k - (k - l) = l by omega] at h
  split
  · rename_i hi; rw [if_pos hi] at h; exact rk_of h
  · rename_i hi
    rw [if_neg hi] at h
    split
    · rename_i hi2; rw [if_pos hi2] at h; exact rk_of h
    · rename_i hi2; rw [if_neg hi2] at h; exact rk_of h
theorem rk_rev {r : Nat → Nat} {p : Array Nat} {m : Nat} (hm : m ≤ p.size) (i : Nat) : RK r (kas_rev p 0 m) i = if i < m then RK r p (m - 1 - i) else RK r p i := by
  have h := getElem?_mirror_all (xs := p) (i := 0) hm i
  split
  · rename_i hi
    rw [if_pos ⟨Nat.zero_le _, hi⟩, Nat.zero_add] at h
    exact rk_of h
  · rename_i hi
    rw [if_neg (fun x => hi x.2)] at h
    exact rk_of h
theorem Pm.bubble {n k d : Nat} {p : Array Nat} (h : Pm n p) : Pm n (bubble p k d) := (Array.perm_iff_toList_perm.mp (bubble_perm p k d)).trans h
theorem Pm.rev {n m : Nat} {p : Array Nat} (h : Pm n p) : Pm n (kas_rev p 0 m) := (Array.perm_iff_toList_perm.mp (mirror_perm p 0 m _)).trans h
theorem good_bin {n : Nat} {r : Nat → Nat} (hr : Inj n r) : ∀ f k (p : Array Nat), Pm n p → k + f = n → Up r p k → Good n (ltR r) (kas_bin f p k) (fun p' => Pm n p' ∧ Up r p' n)
  | 0, k, p, hp, hk, hu => by
    obtain rfl : k = n := hk
    exact ⟨hp, hu⟩
  | f + 1, k, p, hp, hk, hu => by
    unfold kas_bin
    refine Good.bind _ (Good.mono (fun l h => ?_) _ (good_place hp hr (by omega) hu k 0 k (Nat.zero_le _) (Nat.le_refl _) (by omega) (fun i hi => absurd hi (Nat.not_lt_zero _)) (fun i hi hik => absurd hik (by omega))))
    obtain ⟨hl, ha, hb⟩ := h
    refine good_bin hr f (k + 1) _ hp.bubble (by omega) ?_
    intro i j hij hj
    have hks : k < p.size := by rw [hp.size]; omega
    rw [rk_bubble hks hl, rk_bubble hks hl]
    by_cases h1 : j = l
    · rw [if_pos h1, if_neg (by omega), if_neg (by omega)]
      exact ha i (by omega)
    · rw [if_neg h1]
      by_cases h2 : i = l
      · rw [if_pos h2, if_pos (by omega)]
        exact hb (j - 1) (by omega) (by omega)
      · rw [if_neg h2]
        by_cases h3 : l < j ∧ j ≤ k
        · rw [if_pos h3]
          by_cases h4 : l < i ∧ i ≤ k
          · rw [if_pos h4]; exact hu (i - 1) (j - 1) (by omega) (by omega)
          · rw [if_neg h4]; exact hu i (j - 1) (by omega) (by omega)
        · rw [if_neg h3, if_neg (by omega)]
          exact hu i j hij (by omega)
theorem good_count {n : Nat} {r : Nat → Nat} {p : Array Nat} (hr : Inj n r) (hp : Pm n p) (h2 : 2 ≤ n) : Good n (ltR r) (kas_count n p) (fun a => 1 ≤ a.1 ∧ a.1 ≤ n ∧ Pm n a.2 ∧ Up r a.2 a.1) := by
  unfold kas_count
  refine Good.bind _ (Good.mono (fun m h => ?_) _ (good_asc hp hr (n - 1) 1 (Nat.le_refl _) (by omega) (fun i j hij hj => absurd hij (by omega))))
  obtain ⟨h1, hm, hu, hs⟩ := h
  by_cases hmn : (m == n) = true
  · rw [if_pos hmn]
    exact ⟨h1, by omega, hp, hu⟩
  · rw [if_neg hmn]
    have hmn' : m ≠ n := fun e => hmn (by simpa using e)
    by_cases hm1 : m > 1
    · rw [if_pos hm1]
      refine ⟨hp.lt (by omega), hp.lt (by omega), ?_⟩
      dsimp only
      have hc : ltR r (p.getD 0 0) (p.getD (m - 1) 0) = true := decide_eq_true (hu 0 (m - 1) (by omega) (by omega))
      rw [if_pos hc]
      exact ⟨h1, by omega, hp, hu⟩
    · rw [if_neg hm1]
      obtain rfl : m = 1 := by omega
      have h10 := hs (by omega)
      unfold kas_descPart
      refine Good.bind _ (Good.mono (fun a h => ?_) _ (good_desc hp hr (n - (1 + 1)) (1 + 1) (by omega) (by omega) (fun i j hij hj => ?_)))
      · obtain ⟨e1, b1, b2, e2, hd⟩ := h
        rw [e1, e2, if_neg (Nat.lt_irrefl 0)]
        unfold kas_tail3
        have hms : a.2.1 ≤ p.size := by rw [hp.size]; omega
        refine Good.bind _ (Good.mono (fun m' h => ⟨by omega, by omega, hp.rev, h.2.2.1⟩) _ (good_asc hp.rev hr (n - a.2.1) a.2.1 (by omega) (by omega) (fun i j hij hj => ?_)))
        rw [rk_rev hms, rk_rev hms, if_pos (by omega), if_pos (by omega)]
        exact hd _ _ (by omega) (by omega)
      · obtain rfl : i = 0 := by omega
        obtain rfl : j = 1 := by omega
        exact h10
theorem good_sort {n : Nat} {r : Nat → Nat} (hr : Inj n r) (h2 : 2 ≤ n) : Good n (ltR r) (kas_sort n) (fun p => Pm n p ∧ Up r p n) := by
  unfold kas_sort
  have hp : Pm n (List.toArray (List.range n)) := List.Perm.refl _
  refine Good.bind _ (Good.mono (fun a h => ?_) _ (good_count hr hp h2))
  obtain ⟨h1, hn, hpa, hu⟩ := h
  by_cases hlt : a.1 < n
  · rw [if_pos hlt, Nat.max_eq_left h1]
    exact good_bin hr _ _ _ hpa (by omega) hu
  · rw [if_neg hlt]
    obtain e : a.1 = n := by omega
    rw [e] at hu
    exact ⟨hpa, hu⟩
section
variable {prog : Program} {w : World} {A : Around} {s : Shared} {Q : Bool → Shared → Prop}
theorem tup_ask {x y : Addr} {a b c d : Int} {t1 t2 t3 t4 : Tok} (hx : s.heap.get? x = some (tupObj [.int a t1, .int b t2])) (hy : s.heap.get? y = some (tupObj [.int c t3, .int d t4]))
    (h : Q (decide (a < c ∨ (a = c ∧ b < d))) s) : wpAny (model prog w) A (keyLt' (tuples' true) (.ref x) (.ref y)) Q (fun _ _ => False) s := by
  refine kat_lt (xs := #[.int a t1, .int b t2]) (ys := #[.int c t3, .int d t4]) hx rfl hy rfl ?_
  show KatLex prog w A true (decide (2 < 2)) Q [(.int a t1, .int c t3), (.int b t2, .int d t4)] 0 s
  refine kat_cons (wpAny_eqBool_int ?_)
  by_cases hac : a = c
  · rw [show (a == c) = true by simpa using hac]
    refine kat_yes (kat_cons (wpAny_eqBool_int ?_))
    by_cases hbd : b = d
    · rw [show (b == d) = true by simpa using hbd]
      refine kat_yes (kat_nil ?_)
      have e : decide (a < c ∨ (a = c ∧ b < d)) = decide (2 < 2) := by
        rw [decide_eq_decide]; omega
      rw [← e]; exact h
    · rw [show (b == d) = false by simpa using hbd]
      refine kat_no ?_
      show wpAny _ _ (oneLt' false _ _) _ _ _
      refine kat_one _ _ (wpAny_lt_int ?_)
      have e : decide (a < c ∨ (a = c ∧ b < d)) = decide (b < d) := by
        rw [decide_eq_decide]; omega
      rw [e] at h; exact h
  · rw [show (a == c) = false by simpa using hac]
    refine kat_no ?_
    show wpAny _ _ (oneLt' true _ _) _ _ _
    refine oneLt_int ?_
    have e : decide (a < c ∨ (a = c ∧ b < d)) = decide (a < c) := by
      rw [decide_eq_decide]; omega
    rw [e] at h; exact h
end
structure RowT where
  a : Addr
  i : Nat
  j : Nat
  ti : Tok
  tj : Tok
noncomputable def RowT.lg (x : RowT) : Addr × Obj := (x.a, tupObj [.int (x.i : Int) x.ti, .int (x.j : Int) x.tj])
noncomputable abbrev RowT.rk (x : RowT) : Nat := x.i * 1000000 + x.j
noncomputable abbrev rowRefs (rs : List RowT) : List Value := rs.map fun x => Value.ref x.a
noncomputable def rkAt (rs : List RowT) (k : Nat) : Nat := match rs[k]? with | some x => x.rk | none => 0
section
variable {prog : Program} {w : World} {A : Around} {E : Value → Shared → Prop} {s : Shared} {h₀ : Heap} {L : Addr} {m : Str → Option Value} {news : List (Addr × Obj)} {Q : Value → Shared → Prop}
theorem tup_tups {h : Heap} : ∀ (rs : List RowT), (∀ x ∈ rs, h.get? x.a = some (x.lg).2) → KatTups h (rowRefs rs) (rs.map fun x => Value.int (x.i : Int) x.ti)
  | [], _ => trivial
  | x :: r, hx => KatTups.cons (xs := #[.int (x.i : Int) x.ti, .int (x.j : Int) x.tj]) (hx x (.head _)) rfl rfl rfl (tup_tups r fun y hy => hx y (.tail _ hy))
theorem tup_sorted {l : Addr} {n : Nat} {rs : List RowT} (F : Fr h₀ L s.heap m) (N : News h₀ L s.heap news) (hl : (l, listOf (rowRefs rs).toArray n) ∈ news) (hr : ∀ x ∈ rs, x.lg ∈ news) (hb : ∀ x ∈ rs, x.j < 1000000) (hnd : (rs.map RowT.rk).Nodup) (h2 : 2 ≤ rs.length) (h64 : rs.length < 64)
    (h : ∀ D h' c rs', Fr h₀ L h' m → News h₀ L h' ((D, listOf (rowRefs rs').toArray c) :: news) → (∀ q ∈ news, q.1 < D) → rs'.Perm rs → rs'.Pairwise (fun x y => x.rk < y.rk) → Q (.ref D) { s with heap := h' }) :
    wpAny (model prog w) A (call (.builtin "sorted") [.ref l]) Q E s := by
  have hlen : (rowRefs rs).length = rs.length := List.length_map ..
  refine kat_sorted F N (News.isList N hl) (by rw [hlen]; exact h2) (by rw [hlen]; exact h64) fun D e1 h' F' N' lt => ?_
  have ht : ∀ x ∈ rs, h'.get? x.a = some (x.lg).2 := fun x hx => (N' _ (.tail _ (hr x hx))).1
  refine kat_kind (s := { s with heap := h' }) (T := .type "int") (tup_tups rs ht) (by rw [List.length_map]; omega) (fun v hv => ?_) rfl ?_
  · obtain ⟨x, _, rfl⟩ := List.mem_map.mp hv
    exact .now
  have hrk : Inj rs.length (rkAt rs) := by
    intro i j hi hj e
    unfold rkAt at e
    rw [List.getElem?_eq_getElem hi, List.getElem?_eq_getElem hj] at e
    have e' : (rs.map RowT.rk)[i]'(by rw [List.length_map]; exact hi) = (rs.map RowT.rk)[j]'(by rw [List.length_map]; exact hj) := by
      rw [List.getElem_map, List.getElem_map]; exact e
    rcases Nat.lt_trichotomy i j with hlt | heq | hgt
    · exact absurd e' (List.pairwise_iff_getElem.mp hnd i j _ _ hlt)
    · exact heq
    · exact absurd e'.symm (List.pairwise_iff_getElem.mp hnd j i _ _ hgt)
  have hg : Good (rowRefs rs).length (ltR (rkAt rs)) (kas_sort (rowRefs rs).length) (fun p => Pm (rowRefs rs).length p ∧ Up (rkAt rs) p (rowRefs rs).length) := by
    rw [hlen]; exact good_sort hrk h2
  refine Good.wp (fun s' => s' = { s with heap := h' }) ?_ ?_ _ _ hg rfl
  · rintro i j s' C hi hj rfl hC
    rw [hlen] at hi hj
    unfold kas_ask
    have gi : (rowRefs rs).getD i .none = .ref rs[i].a := by rw [List.getD_eq_getElem?_getD, List.getElem?_map, List.getElem?_eq_getElem hi]; rfl
    have gj : (rowRefs rs).getD j .none = .ref rs[j].a := by rw [List.getD_eq_getElem?_getD, List.getElem?_map, List.getElem?_eq_getElem hj]; rfl
    rw [gi, gj]
    refine tup_ask (s := { s with heap := h' }) (ht _ (List.getElem_mem hi)) (ht _ (List.getElem_mem hj)) ?_
    have e : decide ((rs[i].i : Int) < rs[j].i ∨ ((rs[i].i : Int) = rs[j].i ∧ (rs[i].j : Int) < rs[j].j)) = ltR (rkAt rs) i j := by
      unfold ltR rkAt
      rw [List.getElem?_eq_getElem hi, List.getElem?_eq_getElem hj, decide_eq_decide]
      have h1 := hb _ (List.getElem_mem hi)
      have h2 := hb _ (List.getElem_mem hj)
      simp only [RowT.rk]
      omega
    rw [e]
    exact hC _ rfl
  · rintro p s' ⟨hp, hu⟩ rfl
    rw [hlen] at hp hu
    have hgd : ∀ i ∈ p.toList, i < rs.length := fun i hi => List.mem_range.mp (hp.mem_iff.mp hi)
    let rs' : List RowT := p.toList.map fun i => rs.getD i ⟨0, 0, 0, 0, 0⟩
    have hout : (p.toList.map fun i => (rowRefs rs).getD i Value.none) = rowRefs rs' := by
      unfold rowRefs
      rw [List.map_map]
      refine List.map_congr_left fun i hi => ?_
      have hi' := hgd i hi
      simp only [Function.comp, List.getD_eq_getElem?_getD, List.getElem?_map, List.getElem?_eq_getElem hi']
      rfl
    have hperm : rs'.Perm rs := by
      have e : (List.range rs.length).map (fun i => rs.getD i ⟨0, 0, 0, 0, 0⟩) = rs := by
        apply List.ext_getElem
        · simp
        · intro i h1 h2
          rw [List.getElem_map, List.getElem_range, List.getD_eq_getElem?_getD, List.getElem?_eq_getElem h2]
          rfl
      have := List.Perm.map (fun i => rs.getD i ⟨0, 0, 0, 0, 0⟩) hp
      rw [e] at this
      exact this
    have hpw : rs'.Pairwise (fun x y => x.rk < y.rk) := by
      refine List.pairwise_map.mpr (List.pairwise_iff_getElem.mpr fun i j hi hj hij => ?_)
      have hsz := hp.size
      have hi' : i < p.size := by simpa using hi
      have hj' : j < p.size := by simpa using hj
      have h1 := hu i j hij (by omega)
      have gi := hgd _ (List.getElem_mem hi)
      have gj := hgd _ (List.getElem_mem hj)
      unfold RK rkAt at h1
      rw [Array.getD_eq_getD_getElem?, Array.getD_eq_getD_getElem?, Array.getElem?_eq_getElem hi', Array.getElem?_eq_getElem hj'] at h1
      have ei : p.toList[i] = p[i] := by simp
      have ej : p.toList[j] = p[j] := by simp
      rw [List.getD_eq_getElem?_getD, List.getD_eq_getElem?_getD, ei, ej]
      rw [ei] at gi
      rw [ej] at gj
      simp only [Option.getD_some, List.getElem?_eq_getElem gi, List.getElem?_eq_getElem gj] at h1 ⊢
      exact h1
    rw [hout]
    exact KasFin.intro F' N' (UpdF.head fun q hq => Nat.ne_of_lt (lt q hq)) fun h'' c F'' N'' => h D h'' c rs' F'' N'' lt hperm hpw
end
/-- the turns of a list comprehension over pairs, by an invariant -/
theorem compInvP {prog : Program} {w : World} {A : Around} {h₀ : Heap} {L : Addr} {m : Str → Option Value} {env : Env} {elt : Expr} {x x₂ : Str} {scope : Scope} {cl : List (Str × Addr)} {s : Shared} {S : List (Addr × Obj) → Prop} {P : Nat → Value → Prop} {Fin : List Value → List (Addr × Obj) → Prop} {n : Nat}
    (J : Nat → List Value → List (Addr × Obj) → Prop)
    (turn : ∀ i ys news v, i < n → P i v → J i ys news → ∃ (t : Addr) (ot : Obj) (v₁ v₂ : Value) (nt : Nat), v = .ref t ∧ (t, ot) ∈ news ∧ ot.cls = .type "tuple" ∧ ot.data = .seq #[v₁, v₂] nt ∧
      ∀ I oI C oC D m₂ h tk (E' : Value → Shared → Prop), LCg.NsObj oC m₂ → m₂ x = some v₁ → m₂ x₂ = some v₂ → Fr h₀ L h m → News h₀ L h ((I, oI) :: (C, oC) :: (D, LCg.lst ys) :: news) → LCg.Off3 I C D news →
      wpAny (model prog w) A (eval elt (compEnvC scope cl C env)) (LCg.CompEnd h₀ L m { s with heap := h, toks := tk } I oI C oC D (LCg.lst ys) S (fun y news' => J (i + 1) (ys ++ [y]) news')) E' { s with heap := h, toks := tk })
    (fin : ∀ ys news, J n ys news → Fin ys news) :
    ∀ k i ys news, i + k = n → J i ys news → LCp.CompRestP prog w A h₀ L m env elt x x₂ scope cl s S P Fin k i ys news := by
  intro k
  induction k with
  | zero =>
    intro i ys news hk hJ
    obtain rfl : i = n := hk
    exact LCp.CompRestP.zero (fin ys news hJ)
  | succ k ih =>
    intro i ys news hk hJ
    refine LCp.CompRestP.succ fun v hP => ?_
    obtain ⟨t, ot, v₁, v₂, nt, e1, e2, e3, e4, hw⟩ := turn i ys news v (by omega) hP hJ
    refine ⟨t, ot, v₁, v₂, nt, e1, e2, e3, e4, fun I oI C oC D m₂ h tk E' hC hx hx2 F N off ne => ?_⟩
    refine wpAny_mono (hw I oI C oC D m₂ h tk E' hC hx hx2 F N off) (fun y s₂ h₂ => ?_) fun _ _ e => e
    obtain ⟨h', tk', news', e, F', N', off', hS', j⟩ := h₂
    exact ⟨h', tk', news', e, F', N', off', hS', ih (i + 1) (ys ++ [y]) news' (by omega) j⟩
theorem under_up (nds : List Nd) (i c : Nat) : (under nds i c).Pairwise (· < ·) := by
  unfold under
  rw [List.pairwise_filterMap]
  refine List.pairwise_iff_getElem.mpr fun a b ha hb hab x hx y hy => ?_
  rw [List.getElem_zipIdx] at hx hy
  split at hx
  · cases hx
    split at hy
    · cases hy
      show 0 + a < 0 + b
      omega
    · cases hy
  · cases hx
noncomputable def nrk (nds : List Nd) (x : Nat) : Nat := (match nds[x]? with | some n => n.kd.sort | none => 0) * 1000000 + x
theorem nrk_under {nds : List Nd} {i c x : Nat} (h : x ∈ under nds i c) : nrk nds x = c * 1000000 + x ∧ x < nds.length := by
  obtain ⟨n, hn, _, hc⟩ := under_lt h
  unfold nrk
  rw [hn]
  exact ⟨by rw [← hc], (List.getElem?_eq_some_iff.mp hn).1⟩
theorem every_up {nds : List Nd} {p : Nat} (hs : nds.length < 1000000) : (everyOf nds p).Pairwise (fun x y => nrk nds x < nrk nds y) := by
  have part : ∀ c, (under nds p c).Pairwise (fun x y => nrk nds x < nrk nds y) := fun c => (under_up nds p c).imp_of_mem fun {x y} hx hy h => by
    rw [(nrk_under hx).1, (nrk_under hy).1]; omega
  unfold everyOf
  rw [List.pairwise_append, List.pairwise_append]
  refine ⟨⟨part 0, part 1, fun x hx y hy => ?_⟩, part 2, fun x hx y hy => ?_⟩
  · have h1 := nrk_under hx; have h2 := nrk_under hy; omega
  · have h2 := nrk_under hy
    rcases List.mem_append.mp hx with hx | hx
    · have h1 := nrk_under hx; omega
    · have h1 := nrk_under hx; omega
theorem every_nodup {nds : List Nd} {p : Nat} (hs : nds.length < 1000000) : (everyOf nds p).Nodup := by
  refine List.Pairwise.imp (fun {a b} (h : nrk nds a < nrk nds b) => ?_) (every_up (p := p) hs)
  intro e
  rw [e] at h
  exact Nat.lt_irrefl _ h
theorem every_le {nds : List Nd} {p x y : Nat} (hs : nds.length < 1000000) (hx : x ∈ everyOf nds p) (hy : y ∈ everyOf nds p) (h : (everyOf nds p).idxOf x ≤ (everyOf nds p).idxOf y) : nrk nds x ≤ nrk nds y := by
  have lx := List.idxOf_lt_length_of_mem hx
  have ly := List.idxOf_lt_length_of_mem hy
  by_cases e : (everyOf nds p).idxOf x = (everyOf nds p).idxOf y
  · have h1 := List.getElem_idxOf lx
    have h2 := List.getElem_idxOf ly
    have : x = y := by rw [← h1, ← h2]; simp only [e]
    rw [this]; exact Nat.le_refl _
  · have h3 := List.pairwise_iff_getElem.mp (every_up (p := p) hs) _ _ lx ly (by omega)
    rw [List.getElem_idxOf, List.getElem_idxOf] at h3
    omega
theorem every_mem {nds : List Nd} {p x : Nat} (h : parOf nds x = some p) (hk : x < nds.length) : x ∈ everyOf nds p := by
  have hn : nds[x]? = some nds[x] := List.getElem?_eq_getElem hk
  have hp : nds[x].par = some p := by unfold parOf at h; rw [hn] at h; exact h
  have hu : x ∈ under nds p nds[x].kd.sort := by
    unfold under
    refine List.mem_filterMap.mpr ⟨(nds[x], x), List.mem_zipIdx_iff_getElem?.mpr hn, ?_⟩
    rw [if_pos ⟨hp, rfl⟩]
  unfold everyOf
  cases hk : nds[x].kd <;> rw [hk] at hu <;> simp only [Kd.sort] at hu <;> simp [hu]
theorem rise_eq {f : Nat → Nat} {l l' : List Nat} (hi : ∀ x ∈ l, ∀ y ∈ l, f x = f y → x = y) (p : l.Perm l') (h : l.Pairwise (fun x y => f x ≤ f y)) (h' : l'.Pairwise (fun x y => f x ≤ f y)) : l = l' :=
  p.eq_of_pairwise (fun a b ha hb h1 h2 => hi a ha b (p.mem_iff.mpr hb) (by omega)) h h'
section
variable {prog : Program} {w : World} {A : Around} {E : Value → Shared → Prop} {s : Shared} {h₀ : Heap} {L : Addr} {m : Str → Option Value} {news : List (Addr × Obj)}
/-- the sort of a list of fewer than two items asks nothing -/
theorem short_sort {a : Addr} {vs : List Value} {n : Nat} {P : PySem.Fin → Shared → Prop} (ho : s.heap.get? a = some (seqObj "list" vs.toArray n)) (hs : vs.length < 2)
    (h : P (.done (.ret .none)) { s with heap := sortedHeap s.heap a vs vs.toArray }) : wpAny (model prog w) A (Builtin.«list.sort» ⟨[.ref a], []⟩) P E s := by
  have h2 : vs.toArray.size < 2 := by simpa using hs
  have hz : vs.toArray.size ≤ sizeLine := by rw [sizeLine_eq]; omega
  obtain ⟨e1, ho1⟩ : ∃ e1, (s.heap.update a (Obj.mapSeq fun _ => #[])).get? a = some (seqObj "list" #[] e1) := ⟨_, get?_update_seq ho fun _ => #[]⟩
  have ha : a < (s.heap.update a (Obj.mapSeq fun _ => #[])).objs.size := Heap.lt_size ho1
  have ho2 : (((s.heap.update a (Obj.mapSeq fun _ => #[])).push (seqObj "tuple" vs.toArray 0)).push (seqObj "list" #[] 0)).get? a = some (seqObj "list" #[] e1) :=
    Heap.get?_push_of_some _ (Heap.get?_push_of_some _ ho1)
  have hv : (vs.toArray.zip vs.toArray).map (·.2) = vs.toArray := by
    apply Array.toList_inj.mp
    rw [Array.toList_map, Array.toList_zip]
    rw [List.map_snd_zip (Nat.le_refl _)]
  rw [list_sort_plain]
  refine wpAny_bind (listItems_at ho rfl (wpAny_bind (listUpdate_at ho rfl (wpAny_bind (seqEpoch_at ho1 rfl (wpAny_bind (wpAny_newTuple (wpAny_bind (wpAny_newList (wpAny_holding ?_) (Nat.zero_le _))) (by show vs.length ≤ _; rw [sizeLine_eq]; omega))))) hz (Nat.zero_le _))))
  show wpAny (model prog w) A _ P E { s with heap := ((s.heap.update a (Obj.mapSeq fun _ => #[])).push (seqObj "tuple" vs.toArray 0)).push (seqObj "list" #[] 0) }
  dsimp only
  rw [if_pos h2, if_pos h2]
  refine wpAny_bind (wpAny_pure ?_)
  rw [StateT.run_pure]
  refine wpAny_bind (wpAny_pure ?_)
  dsimp only
  have ha2 : arrOf (SortSt.mk' general' (vs.toArray.zip vs.toArray) #[] 7 none) = vs.toArray.zip vs.toArray := rfl
  rw [ha2, hv]
  refine wpAny_bind (seqEpoch_at ho2 rfl (wpAny_bind (listUpdate_at ho2 rfl ?_ (Nat.zero_le _) (Nat.le_succ_of_le hz))))
  simp only [bne_self_eq_false, Bool.false_eq_true, if_false]
  exact wpAny_pure h
theorem short_sorted {l : Addr} {vs : List Value} {Q : Value → Shared → Prop} (F : Fr h₀ L s.heap m) (N : News h₀ L s.heap news) (hl : s.heap.IsList l vs.toArray) (hs : vs.length < 2)
    (h : ∀ D c h', Fr h₀ L h' m → News h₀ L h' ((D, PySem.W.listOf vs.toArray c) :: news) → (∀ q ∈ news, q.1 < D) → Q (.ref D) { s with heap := h' }) :
    wpAny (model prog w) A (call (.builtin "sorted") [.ref l]) Q E s := by
  have hz : vs.length ≤ sizeLine := by rw [sizeLine_eq]; omega
  obtain ⟨e, he⟩ := sortedAll_at s.heap vs vs.toArray
  have hsz : ((s.heap.push (seqObj "list" #[] 0)).update s.heap.objs.size (Obj.mapSeq (· ++ vs.toArray))).objs.size = s.heap.objs.size + 1 := by
    rw [Heap.size_update, size_push']
  have hoL : (((s.heap.push (seqObj "list" #[] 0)).update s.heap.objs.size (Obj.mapSeq (· ++ vs.toArray))).push (seqObj "list" vs.toArray 0)).get? (s.heap.objs.size + 1) = some (seqObj "list" vs.toArray 0) :=
    hsz ▸ Heap.get?_push_size _ rfl
  refine Calls.call_function_entry kind_sorted plain_sorted entry_sorted (args_sorted1 _) ?_
  unfold Builtin.«sorted»
  refine wpAny_bind (m := checkCount "sorted" 1 1 _) (wpAny_pure (wpAny_bind (collect_list hl (wpAny_bind (wpAny_newList ?_ hz)) hz)))
  show wpAny _ _ _ _ _ { s with heap := ((s.heap.push (seqObj "list" #[] 0)).update s.heap.objs.size (Obj.mapSeq (· ++ vs.toArray))).push (seqObj "list" vs.toArray 0) }
  rw [hsz]
  refine wpAny_bind (wpAny_holding (wpAny_call_entry slot_list_sort ⟨_, hoL, rfl⟩ entry_list_sort (short_sort hoL hs ⟨_, rfl, wpAny_pure ⟨_, rfl, ?_⟩⟩) (args_list_sort _)))
  exact h _ e _ (F.kept fun _ _ => sortedAll_old) (N.kept_cons F (fun _ _ => sortedAll_old) (Nat.le_succ _) he) fun q hq => Nat.lt_succ_of_lt (Heap.lt_size (N q hq).1)
end
noncomputable abbrev tabB (P : Params) (τ : TabA) (t : TreeA) (b : BookA) : List (Addr × Obj) := (30, tabObj τ.ps) :: (b.B, b.o) :: (treeHd P t ++ (τ.own ++ (b.ts.map tupLg ++ t.rows.flatMap (rowLg P))))
theorem tabB_perm (P : Params) (τ : TabA) (t : TreeA) (b : BookA) : (tabB P τ t b).Perm (tabT P τ t ++ bookLg b) := by
  unfold tabB tabT bookLg
  generalize treeHd P t = X
  generalize t.rows.flatMap (rowLg P) = Y
  generalize b.ts.map tupLg = Z
  walk_at "m_perm"
theorem sorted_any (w : World) (t : TreeA) (τ : TabA) (nds : List Nd) (T : TreeOk t nds) (hτ : TabOk lamPos lamQual τ) (hs : nds.length < 300) (ls : Addr) (vs : List Value) (nodes : List Nat) (nn : Nat) (hv : IntsAre vs (nints nodes)) (p : Nat) (tp : Tok) (hp : p < nds.length) (hn : ∀ i ∈ nodes, i ∈ everyOf nds p) (hnd : (everyOf nds p).Nodup) (hl : nodes.length < 64) :
    Sp w 12 33 [.ref t.T, .int p tp, .ref ls] ((ls, listOf vs.toArray nn) :: tabT w.params τ t) (fun v lg' => ∃ τ' l' c' vs' ns' own, v = .ref l' ∧ lg' = own ++ (ls, listOf vs.toArray nn) :: tabT w.params τ' t ∧ (l', listOf (List.toArray vs') c') ∈ own ++ [(ls, listOf vs.toArray nn)] ∧ TabOk lamPos lamQual τ' ∧
      IntsAre vs' (nints ns') ∧ ns'.Perm nodes ∧ ns'.Pairwise (fun x y => (everyOf nds p).idxOf x ≤ (everyOf nds p).idxOf y)) := by
  intro dp frs gd un h₀ L m s Q E C hd hu F N nd hQ
  by_cases h2 : 2 ≤ nodes.length
  · refine sorted_x w t τ nds T hτ hs ls vs nodes nn hv p tp hp hn hnd hl h2 dp frs gd un h₀ L m s Q E C hd hu F N nd fun v lg' h' tk' F' N' nd' kp fr po => hQ v lg' h' tk' F' N' nd' kp fr ?_
    obtain ⟨τ', l', c', vs', ns', rfl, rfl, h1, h2, h3, h4⟩ := po
    exact ⟨τ', l', c', vs', ns', [(l', listOf (List.toArray vs') c')], rfl, rfl, .head _, h1, h2, h3, h4⟩
  · have hvl : vs.length = nodes.length := by have := hv.length; simpa [nints] using this
    refine sorted_lt2 w (tabT w.params τ t) ls t.T vs nn (.int p tp) (by omega) dp frs gd un h₀ L m s Q E C hd hu F N nd fun v lg' h' tk' F' N' nd' kp fr po => hQ v lg' h' tk' F' N' nd' kp fr ?_
    obtain ⟨rfl, rfl⟩ := po
    refine ⟨τ, ls, nn, vs, nodes, [], rfl, rfl, .head _, hτ, hv, .refl _, ?_⟩
    match nodes, h2 with
    | [], _ => exact .nil
    | [_], _ => exact List.pairwise_singleton ..
    | _ :: _ :: _, h2 => simp at h2
theorem nodup_map_on {α β : Type} {f : α → β} : ∀ {l : List α}, (∀ x ∈ l, ∀ y ∈ l, f x = f y → x = y) → l.Nodup → (l.map f).Nodup
  | [], _, _ => .nil
  | a :: l, h, nd => by
    have n1 := List.nodup_cons.mp nd
    refine List.nodup_cons.mpr ⟨fun hm => ?_, nodup_map_on (fun x hx y hy => h x (.tail _ hx) y (.tail _ hy)) n1.2⟩
    obtain ⟨b, hb, e⟩ := List.mem_map.mp hm
    rw [h b (.tail _ hb) a (.head _) e] at hb
    exact n1.1 hb
theorem nrk_inj {nds : List Nd} {x y : Nat} (hx : x < 1000000) (hy : y < 1000000) (e : nrk nds x = nrk nds y) : x = y := by
  unfold nrk at e
  omega
section
variable {prog : Program} {w : World} {A : Around} {E : Value → Shared → Prop} {s : Shared} {h₀ : Heap} {L : Addr} {m : Str → Option Value} {news : List (Addr × Obj)} {Q : Value → Shared → Prop}
theorem tup_sorted_any {l : Addr} {n : Nat} {rs : List RowT} (F : Fr h₀ L s.heap m) (N : News h₀ L s.heap news) (hl : (l, listOf (rowRefs rs).toArray n) ∈ news) (hr : ∀ x ∈ rs, x.lg ∈ news) (hb : ∀ x ∈ rs, x.j < 1000000) (hnd : (rs.map RowT.rk).Nodup) (h64 : rs.length < 64)
    (h : ∀ D h' c rs', Fr h₀ L h' m → News h₀ L h' ((D, listOf (rowRefs rs').toArray c) :: news) → (∀ q ∈ news, q.1 < D) → rs'.Perm rs → rs'.Pairwise (fun x y => x.rk < y.rk) → Q (.ref D) { s with heap := h' }) :
    wpAny (model prog w) A (call (.builtin "sorted") [.ref l]) Q E s := by
  by_cases h2 : 2 ≤ rs.length
  · exact tup_sorted F N hl hr hb hnd h2 h64 h
  · refine short_sorted F N (News.isList N hl) (by rw [List.length_map]; omega) fun D c h' F' N' lt => h D h' c rs F' N' lt (.refl _) ?_
    match rs, h2 with
    | [], _ => exact .nil
    | [_], _ => exact List.pairwise_singleton ..
    | _ :: _ :: _, h2 => simp at h2
end
set_option maxHeartbeats 8000000 in
theorem beneath_sp (w : World) (t : TreeA) (τ : TabA) (b : BookA) (nds : List Nd) (T : TreeOk t nds) (B : BookOk w b nds) (hτ : TabOk lamPos lamQual τ) (hs : nds.length < 300) (ls : Addr) (vs : List Value) (nodes : List Nat) (nn : Nat) (hv : IntsAre vs (nints nodes)) (p : Nat) (tp : Tok) (hp : p < nds.length) (hn : ∀ i ∈ nodes, i < nds.length ∧ parOf nds i = some p) (hnn : nodes.Nodup) (hl : nodes.length < 64) :
    Sp w 16 321 [.ref t.T, .ref b.B, .int p tp, .ref ls] ((ls, listOf vs.toArray nn) :: tabB w.params τ t b) (fun v lg' => ∃ τ', v = .bool true ∧ lg' = (ls, listOf vs.toArray nn) :: tabB w.params τ' t b ∧ TabOk lamPos lamQual τ') := by
  intro dp frs gd un h₀ L m s Q E C hd hu F N nd hQ
  have hvl : vs.toArray.size = nodes.length := by have := hv.length; simpa [nints] using this
  have hlo := B.lo
  have hbm : (b.B, b.o) ∈ tabB w.params τ t b := .tail _ (.head _)
  walk_at "m_openC"
  walk_at "m_steps"
  rename_i _A _b G0 L1 _h _tk _lo _me _mg _mb _B F0 _X _T _kp _lt oC dC N0
  have lt1 : ∀ q ∈ (ls, listOf vs.toArray nn) :: tabB w.params τ t b, q.1 ≠ L1 + 1 := fun q hq => Nat.ne_of_lt (Nat.lt_succ_of_lt (_lt q hq))
  have nd0 : (adrs ((L1 + 1, oC) :: (ls, listOf vs.toArray nn) :: tabB w.params τ t b)).Nodup := List.nodup_cons.mpr ⟨fun hm => by
    obtain ⟨q, hq, e⟩ := List.mem_map.mp hm
    exact lt1 q hq e, nd⟩
  k_dflt (refine LCg.ListComp_U (F₀ := by k_asm) (by with_unfolding_all rfl) (by decide) (by rfl) (by decide) (by rfl) ?_)
  walk1
  refine LCg.CompSrc.ledger (news := (L1 + 1, oC) :: (ls, listOf vs.toArray nn) :: tabB w.params τ t b) (by rfl) (by k_asm) N0 (.tail _ (.head _)) (by have := hv.length; simp [nints] at this; unfold sizeLine; simp; omega) ?_
  intro g9
  refine compInv (fun i ys news => ∃ RS : List RowT, ys = rowRefs RS ∧ news = (L1 + 1, oC) :: (ls, listOf vs.toArray nn) :: (tabB w.params τ t b ++ RS.map RowT.lg) ∧ (adrs news).Nodup ∧ (∀ x ∈ RS, x.rk = nrk nds x.j) ∧ RS.map RowT.j = nodes.take i) ?_ ?_ _ 0 [] _ (Nat.zero_add _) ⟨[], rfl, by rw [List.map_nil, List.append_nil], nd0, nofun, rfl⟩
  · rintro i ys news v I oI C oC2 D m₂ h tk E' hi hP ⟨RS, rfl, rfl, ndJ, hRk, hRj⟩ hC hx F9 N9 off
    obtain ⟨j, tj, rfl, hin⟩ := hv.at i v (by simpa using hP)
    rw [List.getElem?_map] at hin
    obtain ⟨j, hj9, rfl⟩ := Option.map_eq_some_iff.mp hin
    have hj : j ∈ nodes := List.mem_of_getElem? hj9
    obtain ⟨hjN, -⟩ := hn j hj
    have hjb : j < b.ts.length := by rw [B.len]; exact hjN
    have hx9 : b.ts[j]? = some b.ts[j] := List.getElem?_eq_getElem hjb
    have hn9 : nds[j]? = some nds[j] := List.getElem?_eq_getElem hjN
    obtain ⟨-, ksv, hsv⟩ := B.tup j _ _ hx9 hn9
    have hxm : tupLg b.ts[j] ∈ b.ts.map tupLg := List.mem_map_of_mem (List.getElem_mem hjb)
    generalize b.ts[j] = x at hx9 hsv hxm
    have hxm' : (x.a, tupObj [x.pv, x.sv]) ∈ τ.own ++ (b.ts.map tupLg ++ (t.rows.flatMap (rowLg w.params) ++ RS.map RowT.lg)) := List.mem_append.mpr (.inr (List.mem_append.mpr (.inl hxm)))
    have N9' := N9
    simp only [tabB, treeHd, List.cons_append, List.nil_append, List.append_assoc] at N9
    walk_at "m_steps"
    k_dflt (refine book_item (by k_asm) (.tail _ (.tail _ (.tail _ (.tail _ (.tail _ (.tail _ (.head _))))))) B hx9 ?_)
    walk_at "m_steps"
    k_dflt (refine tup_item1 (by k_asm) (.tail _ (.tail _ (.tail _ (.tail _ (.tail _ (.tail _ (.tail _ (.tail _ (.tail _ (.tail _ hxm')))))))))) ?_)
    rw [hsv]
    walk_at "m_steps"
    rename_i D9 h10 F10 N10 lt10
    generalize hsr : nds[j].kd.sort = sr at N10 hsv
    have N10' := News.sub' N10 (l' := (D9, tupObj [Value.int (sr : Int) ksv, Value.int (j : Int) tj]) :: (I, oI) :: (C, oC2) :: (D, LCg.lst (rowRefs RS)) :: (L1 + 1, oC) :: (ls, listOf vs.toArray nn) :: (tabB w.params τ t b ++ RS.map RowT.lg)) (fun q hq => by simp only [tabB, treeHd, List.cons_append, List.nil_append, List.append_assoc] at hq; exact hq)
    have neA : ∀ q ∈ (I, oI) :: (C, oC2) :: (D, LCg.lst (rowRefs RS)) :: (L1 + 1, oC) :: (ls, listOf vs.toArray nn) :: (tabB w.params τ t b ++ RS.map RowT.lg), D9 ≠ q.1 := fun q hq => by
      simp only [tabB, treeHd, List.cons_append, List.nil_append, List.append_assoc] at hq
      exact Nat.ne_of_gt ((fun (l : List (Addr × Obj)) (hl : q ∈ l) (h : AllLt D9 l) => ktn_ltOf h q hl) _ hq lt10)
    have pm : ((D9, tupObj [Value.int (sr : Int) ksv, Value.int (j : Int) tj]) :: (L1 + 1, oC) :: (ls, listOf vs.toArray nn) :: (tabB w.params τ t b ++ RS.map RowT.lg)).Perm ((L1 + 1, oC) :: (ls, listOf vs.toArray nn) :: (tabB w.params τ t b ++ (RS ++ [RowT.mk D9 sr j ksv tj]).map RowT.lg)) := by
      rw [List.map_append]
      show List.Perm _ ((L1 + 1, oC) :: (ls, listOf vs.toArray nn) :: (tabB w.params τ t b ++ (RS.map RowT.lg ++ [(D9, tupObj [Value.int (sr : Int) ksv, Value.int (j : Int) tj])])))
      generalize tabB w.params τ t b = X
      generalize RS.map RowT.lg = Y
      walk_at "m_perm"
    have ndl : (adrs ((D9, tupObj [Value.int (sr : Int) ksv, Value.int (j : Int) tj]) :: (L1 + 1, oC) :: (ls, listOf vs.toArray nn) :: (tabB w.params τ t b ++ RS.map RowT.lg))).Nodup := List.nodup_cons.mpr ⟨fun hm => by
      obtain ⟨q, hq, e⟩ := List.mem_map.mp hm
      exact neA q (.tail _ (.tail _ (.tail _ hq))) e.symm, ndJ⟩
    refine LCg.CompEnd.intro F10 N10' ((L1 + 1, oC) :: (ls, listOf vs.toArray nn) :: (tabB w.params τ t b ++ (RS ++ [RowT.mk D9 sr j ksv tj]).map RowT.lg)) ?_ (LCg.Off3.of fun q hq => ?_) (Or.inr ⟨_, .tail _ (.head _), rfl, _, rfl⟩) ⟨RS ++ [RowT.mk D9 sr j ksv tj], by simp [rowRefs], rfl, nodup_perm ndl pm, ?_, ?_⟩
    · intro q hq
      rcases List.mem_cons.mp hq with rfl | hq
      · exact .tail _ (.head _)
      rcases List.mem_cons.mp hq with rfl | hq
      · exact .tail _ (.tail _ (.head _))
      rcases List.mem_cons.mp hq with rfl | hq
      · exact .tail _ (.tail _ (.tail _ (.head _)))
      rcases List.mem_cons.mp (pm.mem_iff.mpr hq) with rfl | hq
      · exact .head _
      · exact .tail _ (.tail _ (.tail _ (.tail _ hq)))
    · rcases List.mem_cons.mp (pm.mem_iff.mpr hq) with rfl | hq
      · exact ⟨neA _ (.head _), neA _ (.tail _ (.head _)), neA _ (.tail _ (.tail _ (.head _)))⟩
      · exact off.mem q hq
    · intro y hy
      rcases List.mem_append.mp hy with hy | hy
      · exact hRk y hy
      · rw [List.mem_singleton.mp hy]
        show sr * 1000000 + j = nrk nds j
        unfold nrk
        rw [hn9, ← hsr]
    · rw [List.map_append, hRj, List.take_add_one, hj9]
      rfl
  · rintro ys news ⟨RS, rfl, rfl, ndJ, hRk, hRj⟩
    rw [hvl, List.take_length] at hRj
    have hRl : RS.length = nodes.length := by rw [← hRj, List.length_map]
    have hRn : ∀ x ∈ RS, x.j < nds.length ∧ parOf nds x.j = some p := fun x hx => hn _ (hRj ▸ List.mem_map_of_mem hx)
    have hrk : (RS.map RowT.rk).Nodup := by
      have e1 : RS.map RowT.rk = nodes.map (nrk nds) := by
        rw [← hRj, List.map_map]
        exact List.map_congr_left hRk
      rw [e1]
      exact nodup_map_on (fun x hx y hy e => nrk_inj (by have := (hn x hx).1; omega) (by have := (hn y hy).1; omega) e) hnn
    unfold LCg.FinE
    intro DL h5 tk5 F5 N5 o5
    have N5' := N5
    simp only [tabB, treeHd, List.cons_append, List.nil_append, List.append_assoc] at N5
    walk_at "m_steps"
    clear N5
    k_dflt (refine tup_sorted_any (rs := RS) F5 N5' (.head _) (fun x hx => .tail _ (.tail _ (.tail _ (List.mem_append.mpr (.inr (List.mem_map_of_mem hx)))))) (fun x hx => by have := (hRn x hx).1; omega) hrk (by omega) ?_)
    intro D6 h6 c6 RS' F6 N6 lt6 pm6 pw6
    have hRn' : ∀ x ∈ RS', x.rk = nrk nds x.j := fun x hx => hRk x (pm6.mem_iff.mp hx)
    have ndD : (adrs ((DL, LCg.lst (rowRefs RS)) :: (L1 + 1, oC) :: (ls, listOf vs.toArray nn) :: (tabB w.params τ t b ++ RS.map RowT.lg))).Nodup := List.nodup_cons.mpr ⟨fun hm => by
      obtain ⟨q, hq, e⟩ := List.mem_map.mp hm
      exact off1_ne o5 q hq e, ndJ⟩
    have nd6 : (adrs ((D6, listOf (rowRefs RS').toArray c6) :: (DL, LCg.lst (rowRefs RS)) :: (L1 + 1, oC) :: (ls, listOf vs.toArray nn) :: (tabB w.params τ t b ++ RS.map RowT.lg))).Nodup := List.nodup_cons.mpr ⟨fun hm => by
      obtain ⟨q, hq, e⟩ := List.mem_map.mp hm
      exact Nat.ne_of_lt (lt6 q hq) e, ndD⟩
    clear N5'
    have p6 : ((D6, listOf (rowRefs RS').toArray c6) :: (DL, LCg.lst (rowRefs RS)) :: (L1 + 1, oC) :: (ls, listOf vs.toArray nn) :: (tabB w.params τ t b ++ RS.map RowT.lg)).Perm (((ls, listOf vs.toArray nn) :: tabT w.params τ t) ++ ((DL, LCg.lst (rowRefs RS)) :: (L1 + 1, oC) :: (D6, listOf (rowRefs RS').toArray c6) :: (bookLg b ++ RS.map RowT.lg))) := by
      have h := tabB_perm w.params τ t b
      refine (List.Perm.append (List.Perm.refl [(D6, listOf (rowRefs RS').toArray c6), (DL, LCg.lst (rowRefs RS)), (L1 + 1, oC), (ls, listOf vs.toArray nn)]) (List.Perm.append_right (RS.map RowT.lg) h)).trans ?_
      generalize bookLg b = X
      generalize tabT w.params τ t = Y
      generalize RS.map RowT.lg = Z
      walk_at "m_perm"
    walk_at "m_steps"
    rename_i F6s N6s
    refine Sp.use (sorted_any w t τ nds T hτ hs ls vs nodes nn hv p tp hp (fun i hi => every_mem (hn i hi).2 (hn i hi).1) (every_nodup (by omega)) hl) ((DL, LCg.lst (rowRefs RS)) :: (L1 + 1, oC) :: (D6, listOf (rowRefs RS').toArray c6) :: (bookLg b ++ RS.map RowT.lg)) (cx_inC (by assumption) rfl rfl (by k_asm) (by assumption) (by assumption) rfl) (by walk_at "m_room") (by walk_at "m_room") (by k_asm) N6s (fun q hq => p6.mem_iff.mpr hq) (nodup_perm nd6 p6) ?_
    rintro v lg' h7 tk7 F7 N7 nd7 kp7 fr7 ⟨τ', l', c', vs', ns', own, rfl, rfl, hl', hτ', hI', hp', hpw'⟩
    clear N6s kp7 fr7
    have hl7 : (l', listOf vs'.toArray c') ∈ (own ++ (ls, listOf vs.toArray nn) :: tabT w.params τ' t) ++ ((DL, LCg.lst (rowRefs RS)) :: (L1 + 1, oC) :: (D6, listOf (rowRefs RS').toArray c6) :: (bookLg b ++ RS.map RowT.lg)) := by
      refine List.mem_append.mpr (.inl ?_)
      rcases List.mem_append.mp hl' with h | h
      · exact List.mem_append.mpr (.inl h)
      · rw [List.mem_singleton.mp h]; exact List.mem_append.mpr (.inr (.head _))
    have p7 : ((own ++ (ls, listOf vs.toArray nn) :: tabT w.params τ' t) ++ ((DL, LCg.lst (rowRefs RS)) :: (L1 + 1, oC) :: (D6, listOf (rowRefs RS').toArray c6) :: (bookLg b ++ RS.map RowT.lg))).Perm (((ls, listOf vs.toArray nn) :: tabB w.params τ' t b) ++ (own ++ ((DL, LCg.lst (rowRefs RS)) :: (L1 + 1, oC) :: (D6, listOf (rowRefs RS').toArray c6) :: RS.map RowT.lg))) := by
      refine List.Perm.trans ?_ (List.Perm.append_right _ (List.Perm.cons _ (tabB_perm w.params τ' t b).symm))
      generalize bookLg b = X
      generalize tabT w.params τ' t = Y
      generalize RS.map RowT.lg = Z
      walk_at "m_perm"
    generalize hA7 : (own ++ (ls, listOf vs.toArray nn) :: tabT w.params τ' t) ++ ((DL, LCg.lst (rowRefs RS)) :: (L1 + 1, oC) :: (D6, listOf (rowRefs RS').toArray c6) :: (bookLg b ++ RS.map RowT.lg)) = all7 at N7 nd7 hl7 p7
    have m6 : (D6, listOf (rowRefs RS').toArray c6) ∈ all7 := by
      rw [← hA7]; exact List.mem_append.mpr (.inr (.tail _ (.tail _ (.head _))))
    have mR : ∀ x ∈ RS, x.lg ∈ all7 := fun x hx => by
      rw [← hA7]; exact List.mem_append.mpr (.inr (.tail _ (.tail _ (.tail _ (List.mem_append.mpr (.inr (List.mem_map_of_mem hx)))))))
    walk_at "m_steps"
    k_dflt (refine LCp.ListComp_P (F₀ := by k_asm) (by with_unfolding_all rfl) (by decide) (by rfl) (by decide) (by rfl) (by rfl) (by decide) ?_)
    walk1
    refine LCp.SrcLP.ledger (news := all7) (by rfl) (by k_asm) N7 m6 (by rw [sizeLine_eq, List.size_toArray, List.length_map, pm6.length_eq]; omega) ?_
    intro g8
    have hsz8 : (rowRefs RS').toArray.size = RS'.length := by rw [List.size_toArray, List.length_map]
    refine compInvP (fun i ys news => news = all7 ∧ IntsAre ys (nints ((RS'.map RowT.j).take i))) ?_ ?_ _ 0 [] _ (Nat.zero_add _) ⟨rfl, .nil⟩
    · rintro i ys news v hi hP ⟨rfl, hys⟩
      rw [List.getElem?_toArray, List.getElem?_map] at hP
      obtain ⟨x, hx9, rfl⟩ := Option.map_eq_some_iff.mp hP
      refine ⟨x.a, x.lg.2, .int x.i x.ti, .int x.j x.tj, _, rfl, mR x (pm6.mem_iff.mp (List.mem_of_getElem? hx9)), rfl, rfl, ?_⟩
      intro I oI C oC2 D m₂ h tk E' hC hx hx2 F9 N9 off
      walk_at "m_steps"
      refine LCg.CompEnd.intro F9 N9 news (fun q hq => hq) off (Or.inr ⟨_, m6, rfl, _, rfl⟩) ⟨rfl, ?_⟩
      rw [List.take_add_one, List.getElem?_map, hx9]
      simp only [nints, List.map_append, Option.map_some, Option.toList_some, List.map_cons, List.map_nil]
      exact hys.append (.cons _ _ .nil)
    · rintro ys news ⟨rfl, hys⟩
      unfold LCg.FinE
      intro D8 h8 tk8 F8 N8 o8
      have hj8 : ((RS'.map RowT.j).take (rowRefs RS').toArray.size) = RS'.map RowT.j := List.take_of_length_le (by rw [hsz8, List.length_map]; exact Nat.le_refl _)
      rw [hj8] at hys
      have hpj : (RS'.map RowT.j).Perm nodes := by rw [← hRj]; exact pm6.map RowT.j
      have heq : ns' = RS'.map RowT.j := by
        refine rise_eq (f := nrk nds) (fun x hx y hy e => nrk_inj ?_ ?_ e) (hp'.trans hpj.symm) ?_ ?_
        · have := (hn x (hp'.mem_iff.mp hx)).1; omega
        · have := (hn y (hp'.mem_iff.mp hy)).1; omega
        · refine hpw'.imp_of_mem fun {x y} hx hy h => ?_
          have h1 := hn x (hp'.mem_iff.mp hx)
          have h2 := hn y (hp'.mem_iff.mp hy)
          exact every_le (by omega) (every_mem h1.2 h1.1) (every_mem h2.2 h2.1) h
        · refine List.pairwise_map.mpr (pw6.imp_of_mem fun {x y} hx hy h => ?_)
          rw [hRn' x hx, hRn' y hy] at h
          exact Nat.le_of_lt h
      walk_at "m_steps"
      k_dflt (refine eq_intsK (News.isList N8 (.tail _ hl7)) hI' (News.isList N8 (.head _)) hys (by walk_at "m_room") ?_)
      rw [heq, decide_eq_true rfl]
      walk_at "m_steps"
      have nd8 : (adrs ((ls, listOf vs.toArray nn) :: tabB w.params τ' t b)).Nodup := by
        have h := nodup_perm nd7 p7
        unfold adrs at h ⊢
        rw [List.map_append, List.nodup_append] at h
        exact h.1
      exact Lv.fin hQ (fun _ : Unit => (ls, listOf vs.toArray nn) :: tabB w.params τ' t b) () F8 N8 (fun q hq => .tail _ (p7.mem_iff.mpr (List.mem_append.mpr (.inl hq)))) nd8 ⟨τ', rfl, rfl, hτ'⟩
section
variable {prog : Program} {w : World} {A : Around} {s : Shared} {env : Env} {h₀ : Heap} {x : Str} {body : List Stmt} {Q : Flow → Shared → Prop} {E : Value → Shared → Prop}
/-- a for over a range: the turns by an invariant over the frame and the ledger -/
theorem for_rangeM {r : Addr} {a₀ b₀ : Int} {t₀ u₀ v₀ : Tok} {n : Nat} {m₀ : Str → Option Value} {news : List (Addr × Obj)} (J : (Str → Option Value) → Nat → (Str → Option Value) → List (Addr × Obj) → Prop)
    (hh : A.handled = none) (hr : IsRange s.heap r a₀ b₀ 1 t₀ u₀ v₀) (hsmall : Builtin.Range.small a₀ b₀ 1 = true) (hn : Builtin.Range.rangeSize a₀ b₀ 1 = (n : Int)) (F : Fr h₀ env.locals s.heap m₀) (N : News h₀ env.locals s.heap news) (nd : (adrs news).Nodup) (hj : J m₀ 0 m₀ news)
    (turn : ∀ i k t m₁ news₁ h tk I oI, i < n → J m₀ i m₁ news₁ → Fr h₀ env.locals h (fun y => if y = x then some (.int k t) else m₁ y) → News h₀ env.locals h ([(I, oI)] ++ news₁) → (adrs ([(I, oI)] ++ news₁)).Nodup →
      wpAny (model prog w) A (execs body env) (Turn h₀ env.locals (J m₀ (i + 1)) [(I, oI)] s Q) E { s with heap := h, toks := tk })
    (done : ∀ m₁ news₁ h tk, J m₀ n m₁ news₁ → Fr h₀ env.locals h m₁ → News h₀ env.locals h news₁ → (adrs news₁).Nodup → Q .next { s with heap := h, toks := tk }) :
    wpAny (model prog w) A (pyIter (.ref r)) (fun it s₂ => LoopAtV prog w A h₀ env x body Q E it s₂) E s := by
  refine wpAny_pyIter_range hr hsmall ?_
  have W : Walks prog w A s.heap.objs.size [s.heap.objs.size] [s.heap.objs.size] n (fun i v => i < n ∧ ∃ t, v = .int (a₀ + i * 1) t)
      (fun i h => IsRangeIter h s.heap.objs.size (a₀ + (i : Nat) * 1) ((n : Int) - (i : Nat)) 1) := (Walks.range hh _ a₀ 1 n).bound
  refine ⟨_, _, _, n, _, _, m₀, news, (fun i m nx => (adrs nx).Nodup ∧ (∀ p ∈ nx, p.1 ≠ s.heap.objs.size) ∧ J m₀ i m nx), rfl, W, ?_, ?_, ?_, (by show IsRangeIter _ _ _ _ _; rw [hn]; simpa using Heap.get?_push_size _ rfl), F.push _, (fun p hp => ⟨Heap.get?_push_of_some _ (N p hp).1, (N p hp).2⟩), ⟨nd, fun p hp => Nat.ne_of_lt (Heap.lt_size (N p hp).1), hj⟩, ?_, ?_⟩
  · intro hm
    exact absurd F.ns.lt ((List.mem_singleton.mp hm) ▸ Nat.lt_irrefl _)
  · intro b hb
    rw [List.mem_singleton.mp hb]
    exact next_is_new F
  · intro p hp hI
    exact absurd (Heap.lt_size (N p hp).1) ((List.mem_singleton.mp hI) ▸ Nat.lt_irrefl _)
  · rintro i v m₁ news₁ s₁ own ⟨hh', tk', rfl⟩ hin ⟨_, t, rfl⟩ ⟨hnd, hIn, hJ⟩ hoff hown hget hfp st F₁ N₁
    have hI0 : h₀.get? s.heap.objs.size = none := next_is_new F
    obtain ⟨oI, hoI⟩ : ∃ o, hh'.get? s.heap.objs.size = some o := ⟨_, st⟩
    have mI := hfp _ (List.mem_singleton.mpr rfl) hI0 _ hoI
    have N₂ : News h₀ env.locals hh' ([(s.heap.objs.size, oI)] ++ news₁) := fun p hp => by
      rcases List.mem_append.mp hp with h | h
      · rw [List.mem_singleton.mp h]; exact N₁ _ (List.mem_append.mpr (.inl mI))
      · exact N₁ _ (List.mem_append.mpr (.inr h))
    have nd₂ : (adrs ([(s.heap.objs.size, oI)] ++ news₁)).Nodup := List.nodup_cons.mpr ⟨fun hm => by
      obtain ⟨p, hp, e⟩ := List.mem_map.mp hm
      exact hIn p hp e, hnd⟩
    refine wpAny_mono (turn i _ t m₁ news₁ hh' tk' _ oI hin hJ F₁ N₂ nd₂) (fun f s₂ p => ?_) fun _ _ e => e
    have fin : (∃ h' tk' m' news', s₂ = { s with heap := h', toks := tk' } ∧ Fr h₀ env.locals h' m' ∧ News h₀ env.locals h' ([(s.heap.objs.size, oI)] ++ news') ∧ (adrs ([(s.heap.objs.size, oI)] ++ news')).Nodup ∧ J m₀ (i + 1) m' news') →
        LoopStepU h₀ env.locals [s.heap.objs.size] own (fun m nx => (adrs nx).Nodup ∧ (∀ p ∈ nx, p.1 ≠ s.heap.objs.size) ∧ J m₀ (i + 1) m nx) { s with heap := hh', toks := tk' } .next s₂ := by
      rintro ⟨h', tk2, m', news', rfl, F', N', nd', hJ'⟩
      have nI := (List.nodup_cons.mp nd').1
      have nI' : ∀ p ∈ news', p.1 ≠ s.heap.objs.size := fun p hp e => nI (List.mem_map.mpr ⟨p, hp, e⟩)
      refine ⟨rfl, h', tk2, m', news', rfl, F', fun p hp => ?_, fun p hp hI => nI' p hp (List.mem_singleton.mp hI), (List.nodup_cons.mp nd').2, nI', hJ'⟩
      rcases List.mem_append.mp hp with h | h
      · have h2 := hget p h
        have h1 := List.mem_singleton.mp (hown p h)
        rw [h1] at h2
        have e : p = (s.heap.objs.size, oI) := Prod.ext h1 (Option.some.inj (h2.symm.trans hoI))
        rw [e]
        exact N' _ (List.mem_append.mpr (.inl (.head _)))
      · exact N' p (List.mem_append.mpr (.inr h))
    cases f with
    | ret v => exact .ret p
    | brk => exact .brk p
    | next => exact .next (fin p)
    | cont => exact .cont (fin p)
  · rintro h' tk m' news' F' N' _ ⟨hnd, _, hJ⟩
    exact done m' news' h' tk hJ F' N' hnd
end
section
variable {prog : Program} {w : World} {A : Around} {E : Value → Shared → Prop} {s : Shared} {h₀ : Heap} {L : Addr} {m : Str → Option Value} {all : List (Addr × Obj)}
theorem cut_at (y : Value) (q : List Value) : ∀ p : List Value, kl_cut (p ++ y :: q) p.length = some (p, y, q)
  | [] => rfl
  | x :: p => by
    show (match kl_cut (p ++ y :: q) p.length with | some (a, b, c) => some (x :: a, b, c) | none => none) = _
    rw [cut_at y q p]
/-- list.pop at a place within the list -/
theorem lpop {a : Addr} {p q : List Value} {y : Value} {n : Nat} {i : Int} {u : Tok} {Q : Value → Shared → Prop} (others : List (Addr × Obj)) (hi : i = (p.length : Int)) (F : Fr h₀ L s.heap m) (N : News h₀ L s.heap all) (hs : ∀ x ∈ (a, PySem.W.listOf (p ++ y :: q).toArray n) :: others, x ∈ all) (hne : ∀ x ∈ others, x.1 ≠ a)
    (hsz : (p ++ y :: q).length ≤ 1000) (h : ∀ h', Fr h₀ L h' m → News h₀ L h' ((a, PySem.W.listOf (p ++ q).toArray (n + 1)) :: others) → Q y { s with heap := h' }) : wpAny (model prog w) A (call (.builtin "list.pop") [.ref a, .int i u]) Q E s := by
  subst hi
  have hl : p.length < (p ++ y :: q).length := by simp
  have hz : ((p.length : Int) : Int) < 2 ^ 63 := by omega
  refine kl_popAt (its := (p ++ y :: q).toArray) (k := p.length) (p := p) (q := q) (y := y) F (fun x hx => N x (hs x hx)) ?_ ?_ (cut_at y q p) (Upd.head hne) ?_ h
  · unfold Builtin.List.listFitsIndex
    rw [Bool.and_eq_true, decide_eq_true_iff, decide_eq_true_iff]
    omega
  · have e1 : ¬ ((p.length : Int) < 0) := by omega
    have e2 : (decide (0 ≤ (p.length : Int)) && decide ((p.length : Int) < ((p ++ y :: q).length : Int))) = true := by
      rw [Bool.and_eq_true, decide_eq_true_iff, decide_eq_true_iff]; omega
    simp only [seqIndex?, List.size_toArray, if_neg e1, e2, if_true, Int.toNat_natCast]
  · rw [sizeLine_eq]; show (p ++ y :: q).length ≤ _; omega
end
/-- the record of a law, out of the text -/
noncomputable abbrev recOf {q : Program} {n : Str} {d : DefRec} {k : List (Str × Expr)} (_ : defOf q n = some (d, k)) : DefRec := d
noncomputable abbrev lawRec : DefRec := recOf (q := PySem.Challenge.rw_xw0206_01.row.prog) (n := PySem.Challenge.rw_xw0206_01.row.name) (by rfl)
noncomputable abbrev lawEnv (L fa : Addr) (cd : Value) : Env := envOfC lawRec.name lawRec.scope L fa cd
noncomputable def LawEnd (g : Heap) (s : Shared) (f : Flow) (s' : Shared) : Prop :=
  ∃ h' tk' L m' lg ps, f = .ret (.bool true) ∧ s' = { s with heap := h', toks := tk' } ∧ Fr g L h' m' ∧ News g L h' lg ∧ (30, tabObj ps) ∈ lg
section
local macro_rules | `(tactic| walk_at "m_own") => `(tactic| (with_reducible show wpAny _ _ (call (Value.builtin "list.pop") _) _ _ _))
theorem law_dp {env : Env} {d : Nat} (h : d ≤ 100) : (callerA.deeper env).depth + d < recursionLimit := by
  show (1 + claimMargin) + 1 + d < recursionLimit
  unfold claimMargin recursionLimit
  omega
theorem law_un {env : Env} {d : Nat} (h : d ≤ 1000) : (callerA.deeper env).units + d < cLine := by
  have e : (callerA.deeper env).units ≤ 8 := by
    show (callerA.deeper env).units ≤ 8
    exact Nat.le_of_ble_eq_true rfl
  unfold cLine
  omega
theorem law_cx {w : World} {g h : Heap} {L fa : Addr} {m : Str → Option Value} {loose : List Str} {mean : ExcName → Option Value} {mg mb : Str → Option Value} {qual : Str} {scope : Scope} {cd : Value}
    (B : Below callerA g [] g) (F : Fr g L h m) (X : (Mine.hda.heap_1 w.params).In g) (T : Top topProg loose mean mg mb g) (hk : scope.kind = .function) : Cx w (callerA.deeper (envOfC qual scope L fa cd)) g L := cx_inC B rfl rfl F X T hk
theorem ints_cut : ∀ (k : Nat) (l : List Nat) (vs : List Value), IntsAre vs (nints l) → k < l.length → ∃ (pv : List Value) (y : Value) (qv : List Value) (pl : List Nat) (x : Nat) (ql : List Nat) (tx : Tok), vs = pv ++ y :: qv ∧ l = pl ++ x :: ql ∧ pv.length = k ∧ pl.length = k ∧ y = .int (x : Int) tx ∧ IntsAre (pv ++ qv) (nints (pl ++ ql))
  | 0, x :: r, v :: vs, h, _ => by
    cases h with
    | cons n tx h => exact ⟨[], _, vs, [], x, r, tx, rfl, rfl, rfl, rfl, rfl, h⟩
  | k + 1, x :: r, v :: vs, h, hk => by
    cases h with
    | cons n tx h =>
      obtain ⟨pv, y, qv, pl, z, ql, tz, rfl, rfl, h1, h2, rfl, h3⟩ := ints_cut k r vs h (by simpa using hk)
      exact ⟨_ :: pv, _, qv, x :: pl, z, ql, tz, rfl, rfl, by simp [h1], by simp [h2], rfl, .cons _ _ h3⟩
  | _, _ :: _, [], h, _ => nomatch h
theorem mv_perm (pl ql sns : List Nat) (x : Nat) : (pl ++ x :: ql ++ sns).Perm (pl ++ ql ++ (sns ++ [x])) := by
  refine List.perm_iff_count.mpr fun a => ?_
  simp only [List.count_append, List.count_cons, List.count_nil]
  omega
set_option maxHeartbeats 8000000 in
theorem law_while (w : World) (g : Heap) (L fa : Addr) (cd : Value) {loose : List Str} {mean : ExcName → Option Value} {mg mb : Str → Option Value} (B' : Below callerA g [] g) (X' : (Mine.hda.heap_1 w.params).In g) (T' : Top topProg loose mean mg mb g)
    (t : TreeA) (τ : TabA) (b : BookA) (nds : List Nd) (TO : TreeOk t nds) (BO : BookOk w b nds) (hτ : TabOk lamPos lamQual τ) (hs : nds.length < 300) (aS : Addr) (e : Addr × Obj) (S : Src aS e)
    (oT oB oS : Obj) (dT : oT.data = .cell (some (.ref t.T))) (dB : oB.data = .cell (some (.ref b.B))) (dS : oS.data = .cell (some (.ref aS)))
    (ll lsm : Addr) (lv sv : List Value) (lns sns : List Nat) (c1 c2 : Nat) (hlv : IntsAre lv (nints lns)) (hsv : IntsAre sv (nints sns)) (p : Nat) (tp : Tok) (hp : p < nds.length)
    (hin : ∀ i ∈ lns ++ sns, i < nds.length ∧ parOf nds i = some p) (hnn : (lns ++ sns).Nodup) (h64 : (lns ++ sns).length < 64)
    (s : Shared) (h : Heap) (tk : Nat) (m : Str → Option Value) (F : Fr g L h (ov [(Str.ofString "left", some (.ref ll)), (Str.ofString "some", some (.ref lsm)), (Str.ofString "parent", some (.int p tp))] m))
    (N : News g L h ((ll, listOf lv.toArray c1) :: (lsm, listOf sv.toArray c2) :: (L + 1, oT) :: (L + 1 + 1, oB) :: (L + 1 + 1 + 1, oS) :: e :: tabB w.params τ t b))
    (nd : (adrs ((ll, listOf lv.toArray c1) :: (lsm, listOf sv.toArray c2) :: (L + 1, oT) :: (L + 1 + 1, oB) :: (L + 1 + 1 + 1, oS) :: e :: tabB w.params τ t b)).Nodup) :
    wpAny (model PySem.Challenge.rw_xw0206_01.row.prog w) (callerA.deeper (lawEnv L fa cd)) (execs (lawRec.body.drop 14) (lawEnv L fa cd)) (LawEnd g s) (fun _ _ => False) { s with heap := h, toks := tk } := by
  dsimp only [lawEnv, lawRec, recOf, List.drop]
  walk_at "m_fill"
  walk_at "m_steps"
  refine while_m (s := s) F N (fun m₀ n m₁ news₁ => m₁ = m₀ ∧ ∃ e lv sv lns sns c1 c2, n = lns.length ∧ Src aS e ∧ news₁ = (ll, listOf (List.toArray lv) c1) :: (lsm, listOf (List.toArray sv) c2) :: (L + 1, oT) :: (L + 1 + 1, oB) :: (L + 1 + 1 + 1, oS) :: e :: tabB w.params τ t b ∧ (adrs news₁).Nodup ∧ IntsAre lv (nints lns) ∧ IntsAre sv (nints sns) ∧
    (∀ i ∈ lns ++ sns, i < nds.length ∧ parOf nds i = some p) ∧ (lns ++ sns).Nodup ∧ (lns ++ sns).length < 64) (n₀ := lns.length) ⟨rfl, e, lv, sv, lns, sns, c1, c2, rfl, S, rfl, nd, hlv, hsv, hin, hnn, h64⟩ ?_
  clear N F nd S hlv hsv hin hnn h64
  clear lv sv lns sns c1 c2 e
  rintro n m₁ news₁ h₁ tk₁ F1 N1 ⟨rfl, e, lv, sv, lns, sns, c1, c2, rfl, S, rfl, nd, hlv, hsv, hin, hnn, h64⟩
  have N1' := N1
  have hl9 : lv.length = lns.length := by have := hlv.length; simpa [nints] using this
  have hs9 : sv.length = sns.length := by have := hsv.length; simpa [nints] using this
  have hla : lns.length + sns.length < 64 := by rw [← List.length_append]; exact h64
  simp only [tabB, treeHd, List.cons_append, List.nil_append] at N1
  walk_at "m_steps"
  · rename_i l9 h9 F9 N9 lt9 ha
    have hl0 : lns = [] := by
      have h := of_decide_eq_true ha
      unfold nints at h
      exact List.map_eq_nil_iff.mp h
    subst hl0
    rw [List.nil_append] at hin hnn h64
    have pm : ((ll, listOf lv.toArray c1) :: (lsm, listOf sv.toArray c2) :: (L + 1, oT) :: (L + 1 + 1, oB) :: (L + 1 + 1 + 1, oS) :: e :: tabB w.params τ t b).Perm (((lsm, listOf sv.toArray c2) :: tabB w.params τ t b) ++ [(ll, listOf lv.toArray c1), (L + 1, oT), (L + 1 + 1, oB), (L + 1 + 1 + 1, oS), e]) := by
      generalize tabB w.params τ t b = X
      walk_at "m_perm"
    have N9' := News.sub' N9 (l' := (ll, listOf lv.toArray c1) :: (lsm, listOf sv.toArray c2) :: (L + 1, oT) :: (L + 1 + 1, oB) :: (L + 1 + 1 + 1, oS) :: e :: tabB w.params τ t b) (fun q hq => .tail _ hq)
    refine Sp.use (beneath_sp w t τ b nds TO BO hτ hs lsm sv sns c2 hsv p tp hp hin hnn h64) [(ll, listOf lv.toArray c1), (L + 1, oT), (L + 1 + 1, oB), (L + 1 + 1 + 1, oS), e] (law_cx (by assumption) (by k_asm) (by assumption) (by assumption) rfl) (law_dp (Nat.le_of_ble_eq_true rfl)) (law_un (Nat.le_of_ble_eq_true rfl)) (by k_asm) N9' (fun q hq => pm.mem_iff.mpr hq) (nodup_perm nd pm) ?_
    rintro v lg' h2 tk2 F2 N2 nd2 kp2 fr2 ⟨τ', rfl, rfl, hτ'⟩
    walk_at "m_steps"
    exact ⟨h2, tk2, L, _, _, τ'.ps, rfl, rfl, F2, N2, List.mem_append.mpr (.inl (.tail _ (.head _)))⟩
  · rename_i l9 h9 F9 N9 lt9 ha
    have hl0 : 0 < lns.length := by
      cases lns with
      | nil => exact absurd ha (by decide)
      | cons x r => simp
    have pm : ((ll, listOf lv.toArray c1) :: (lsm, listOf sv.toArray c2) :: (L + 1, oT) :: (L + 1 + 1, oB) :: (L + 1 + 1 + 1, oS) :: e :: tabB w.params τ t b).Perm ([e] ++ ((ll, listOf lv.toArray c1) :: (lsm, listOf sv.toArray c2) :: (L + 1, oT) :: (L + 1 + 1, oB) :: (L + 1 + 1 + 1, oS) :: tabB w.params τ t b)) := by
      generalize tabB w.params τ t b = X
      walk_at "m_perm"
    have N9' := News.sub' N9 (l' := (ll, listOf lv.toArray c1) :: (lsm, listOf sv.toArray c2) :: (L + 1, oT) :: (L + 1 + 1, oB) :: (L + 1 + 1 + 1, oS) :: e :: tabB w.params τ t b) (fun q hq => .tail _ hq)
    refine Sp.use (take_go w S _ _ (by simp; omega) (by simp; omega)) ((ll, listOf lv.toArray c1) :: (lsm, listOf sv.toArray c2) :: (L + 1, oT) :: (L + 1 + 1, oB) :: (L + 1 + 1 + 1, oS) :: tabB w.params τ t b) (law_cx (by assumption) (by k_asm) (by assumption) (by assumption) rfl) (law_dp (Nat.le_of_ble_eq_true rfl)) (law_un (Nat.le_of_ble_eq_true rfl)) (by k_asm) N9' (fun q hq => pm.mem_iff.mpr hq) (nodup_perm nd pm) ?_
    rintro v lg' h2 tk2 F2 N2 nd2 kp2 fr2 ⟨r, tr, e', rfl, hr0, hr1, rfl, S'⟩
    clear N9 N9' kp2 fr2
    have N2' := N2
    simp only [tabB, treeHd, List.cons_append, List.nil_append] at N2
    walk_at "m_steps"
    obtain ⟨k, rfl⟩ : ∃ k : Nat, r = (k : Int) := ⟨r.toNat, by omega⟩
    have hk : k < lns.length := by
      have e1 : (nints lns).length = lns.length := List.length_map ..
      omega
    obtain ⟨pv, y, qv, pl, x, ql, tx, rfl, rfl, hpv, hpl, rfl, hI⟩ := ints_cut k lns lv hlv hk
    have nd3 := nodup_perm nd2 (b := (ll, listOf (pv ++ Value.int (x : Int) tx :: qv).toArray c1) :: ((lsm, listOf sv.toArray c2) :: (L + 1, oT) :: (L + 1 + 1, oB) :: (L + 1 + 1 + 1, oS) :: e' :: tabB w.params τ t b)) (by
      generalize tabB w.params τ t b = X
      walk_at "m_perm")
    have ne3 : ∀ q ∈ (lsm, listOf sv.toArray c2) :: (L + 1, oT) :: (L + 1 + 1, oB) :: (L + 1 + 1 + 1, oS) :: e' :: tabB w.params τ t b, q.1 ≠ ll := ne_front nd3 (.refl _)
    k_dflt (refine lpop (p := pv) (q := qv) (y := Value.int (x : Int) tx) (n := c1) ((lsm, listOf sv.toArray c2) :: (L + 1, oT) :: (L + 1 + 1, oB) :: (L + 1 + 1 + 1, oS) :: e' :: tabB w.params τ t b) (by rw [hpv]) F2 N2' (fun q hq => by
      rcases List.mem_cons.mp hq with rfl | hq
      · exact .tail _ (.head _)
      rcases List.mem_cons.mp hq with rfl | hq
      · exact .tail _ (.tail _ (.head _))
      rcases List.mem_cons.mp hq with rfl | hq
      · exact .tail _ (.tail _ (.tail _ (.head _)))
      rcases List.mem_cons.mp hq with rfl | hq
      · exact .tail _ (.tail _ (.tail _ (.tail _ (.head _))))
      rcases List.mem_cons.mp hq with rfl | hq
      · exact .tail _ (.tail _ (.tail _ (.tail _ (.tail _ (.head _)))))
      rcases List.mem_cons.mp hq with rfl | hq
      · exact .head _
      · exact .tail _ (.tail _ (.tail _ (.tail _ (.tail _ (.tail _ hq)))))) ne3 (by omega) ?_)
    intro h4 F4 N4
    walk_at "m_steps"
    have nd4 := nodup_perm (a := (ll, listOf (pv ++ qv).toArray (c1 + 1)) :: ((lsm, listOf sv.toArray c2) :: (L + 1, oT) :: (L + 1 + 1, oB) :: (L + 1 + 1 + 1, oS) :: e' :: tabB w.params τ t b)) nd3 (b := (lsm, listOf sv.toArray c2) :: ((ll, listOf (pv ++ qv).toArray (c1 + 1)) :: (L + 1, oT) :: (L + 1 + 1, oB) :: (L + 1 + 1 + 1, oS) :: e' :: tabB w.params τ t b)) (by
      generalize tabB w.params τ t b = X
      walk_at "m_perm")
    k_dflt (refine lappend ((ll, listOf (pv ++ qv).toArray (c1 + 1)) :: (L + 1, oT) :: (L + 1 + 1, oB) :: (L + 1 + 1 + 1, oS) :: e' :: tabB w.params τ t b) F4 N4 (fun q hq => by
      rcases List.mem_cons.mp hq with rfl | hq
      · exact .tail _ (.head _)
      rcases List.mem_cons.mp hq with rfl | hq
      · exact .head _
      · exact .tail _ (.tail _ hq)) (ne_front nd4 (.refl _)) (by rw [sizeLine_eq]; show sv.toArray.size ≤ _; rw [List.size_toArray]; omega) ?_)
    intro h5 F5 N5
    walk_at "m_steps"
    rw [List.push_toArray] at N5
    refine WEnd.intro (n' := (pl ++ ql).length) F5 (News.sub' N5 (l' := (ll, listOf (pv ++ qv).toArray (c1 + 1)) :: (lsm, listOf (sv ++ [Value.int (x : Int) tx]).toArray (c2 + 1)) :: (L + 1, oT) :: (L + 1 + 1, oB) :: (L + 1 + 1 + 1, oS) :: e' :: tabB w.params τ t b) (fun q hq => by
      rcases List.mem_cons.mp hq with rfl | hq
      · exact .tail _ (.head _)
      rcases List.mem_cons.mp hq with rfl | hq
      · exact .head _
      · exact .tail _ (.tail _ hq))) (by simp) ⟨rfl, e', pv ++ qv, sv ++ [Value.int (x : Int) tx], pl ++ ql, sns ++ [x], c1 + 1, c2 + 1, rfl, S', rfl, nd3, hI, ?_, ?_, ?_, ?_⟩
    · simp only [nints, List.map_append, List.map_cons, List.map_nil]
      exact hsv.append (.cons _ _ .nil)
    · exact fun i hi => hin i ((mv_perm pl ql sns x).mem_iff.mpr hi)
    · exact (mv_perm pl ql sns x).nodup_iff.mp hnn
    · simp only [List.length_append, List.length_cons, List.length_nil] at hla ⊢
      omega
end
section
variable {w : World} {A : Around} {E : Value → Shared → Prop} {s : Shared} {h₀ : Heap} {L : Addr} {m : Str → Option Value} {news : List (Addr × Obj)}
theorem ints_of_at : ∀ (vs : List Value) (ns : List Nat), vs.length = ns.length → (∀ (i : Nat) (v : Value), vs[i]? = some v → ∃ x t, ns[i]? = some x ∧ v = .int (x : Int) t) → IntsAre vs (nints ns)
  | [], [], _, _ => .nil
  | v :: vs, n :: ns, hl, h => by
    obtain ⟨x, t, e1, rfl⟩ := h 0 v rfl
    cases e1
    exact .cons _ _ (ints_of_at vs ns (by simpa using hl) fun i u hu => h (i + 1) u hu)
theorem sorted_nints {l : List Int} {n : Nat} (p : l.Perm (nints (List.range n))) (h : l.Pairwise (fun x y => x ≤ y)) : l = nints (List.range n) := by
  refine p.eq_of_pairwise (fun a b _ _ h1 h2 => Int.le_antisymm h1 h2) h (List.pairwise_map.mpr ?_)
  exact List.pairwise_lt_range.imp fun {a b} h => by omega
/-- sorted(book): the keys 0, 1, .. -/
theorem book_sorted {b : BookA} {nds : List Nd} {Q : Value → Shared → Prop} (hh : A.handled = none) (F : Fr h₀ L s.heap m) (N : News h₀ L s.heap news) (hm : (b.B, b.o) ∈ news) (B : BookOk w b nds) (h64 : nds.length < 64)
    (h : ∀ D vs c h' tk, Fr h₀ L h' m → News h₀ L h' ((D, PySem.W.listOf (List.toArray vs) c) :: news) → (∀ q ∈ news, q.1 < D) → IntsAre vs (nints (List.range nds.length)) → Q (.ref D) { s with heap := h', toks := tk }) :
    wpAny (model PySem.Challenge.rw_xw0206_01.row.prog w) A (call (.builtin "sorted") [.ref b.B]) Q E s := by
  have hd : s.heap.DictOf (intKind PySem.Challenge.rw_xw0206_01.row.prog w) b.B b.kvs := Heap.dictOf_iff.mpr ⟨b.o, (N _ hm).1, B.dict⟩
  obtain ⟨ep, hat⟩ := hd.dictAt
  have hn : b.kvs.length = nds.length := by rw [BookA.kvs_len, B.len]
  refine kdu_sorted (kdl_dict (knd := intKind PySem.Challenge.rw_xw0206_01.row.prog w) (kvs := b.kvs) (ep := ep) B.lo) hh F N hat (by rw [hn, sizeLine_eq]; omega) fun D h' tk vs F' N' l1 hl hv => ?_
  have hI : IntsAre vs (nints (List.range nds.length)) := by
    refine ints_of_at vs _ (by rw [hl, hn, List.length_range]) fun i v hi => ?_
    obtain ⟨k, x, hx, hk⟩ := hv i v hi
    have hi9 : i < b.ts.length := by
      have h1 := (List.getElem?_eq_some_iff.mp hx).1
      rw [BookA.kvs_len] at h1; exact h1
    have hx2 := BookA.kvs_get (List.getElem?_eq_getElem hi9)
    rw [hx] at hx2
    cases hx2
    have hk' : v.isInt (i : Int) = true := hk
    refine ⟨i, ?_⟩
    cases v <;> simp only [Value.isInt, Bool.false_eq_true] at hk'
    rename_i n t
    refine ⟨t, by rw [List.getElem?_range (by rw [← B.len]; exact hi9)], ?_⟩
    rw [show n = (i : Int) by simpa using hk']
  refine ksk_lsort (its := vs.toArray) (n := 0) (news' := fun o => (D, o) :: news) F' N' (fun o => Upd.head fun q hq => Nat.ne_of_lt (l1 q hq)) rfl hI (by rw [List.length_map, List.length_range]; exact h64) fun vs' ns' c h2 F2 N2 hI2 _ hp hP _ => ?_
  rw [sorted_nints hp hP] at hI2
  exact h D vs' c h2 tk F2 N2 l1 hI2
end
local macro_rules | `(tactic| walk_at "m_ownA") => `(tactic| first | (with_reducible show wpAny _ _ (call (Value.builtin "list.pop") _) _ _ _) | (with_reducible show wpAny _ _ (pyIter (Value.ref _)) _ _ _) | (with_reducible show wpAny _ _ (call (Value.ref 283) _) _ _ _) | (with_reducible show wpAny _ _ (call (Value.builtin "sorted") _) _ _ _))
section
local macro_rules | `(tactic| walk_at "m_own") => `(tactic| first | walk_at "m_ownA")
set_option maxHeartbeats 8000000 in
theorem law_for3 (w : World) (g : Heap) (L fa : Addr) (cd : Value) {loose : List Str} {mean : ExcName → Option Value} {mg mb : Str → Option Value} (B' : Below callerA g [] g) (X' : (Mine.hda.heap_1 w.params).In g) (T' : Top topProg loose mean mg mb g)
    (t : TreeA) (τ : TabA) (b : BookA) (nds : List Nd) (TO : TreeOk t nds) (BO : BookOk w b nds) (hτ : TabOk lamPos lamQual τ) (hs : nds.length < 64) (aS : Addr) (e : Addr × Obj) (S : Src aS e)
    (oT oB oS : Obj) (dT : oT.data = .cell (some (.ref t.T))) (dB : oB.data = .cell (some (.ref b.B))) (dS : oS.data = .cell (some (.ref aS)))
    (ll lsm : Addr) (p : Nat) (tp : Tok) (hp : p < nds.length)
    (s : Shared) (h : Heap) (tk : Nat) (m : Str → Option Value) (F : Fr g L h (ov [(Str.ofString "left", some (.ref ll)), (Str.ofString "some", some (.ref lsm)), (Str.ofString "parent", some (.int p tp))] m))
    (N : News g L h ((ll, listOf #[] 0) :: (lsm, listOf #[] 0) :: (L + 1, oT) :: (L + 1 + 1, oB) :: (L + 1 + 1 + 1, oS) :: e :: tabB w.params τ t b))
    (nd : (adrs ((ll, listOf #[] 0) :: (lsm, listOf #[] 0) :: (L + 1, oT) :: (L + 1 + 1, oB) :: (L + 1 + 1 + 1, oS) :: e :: tabB w.params τ t b)).Nodup) :
    wpAny (model PySem.Challenge.rw_xw0206_01.row.prog w) (callerA.deeper (lawEnv L fa cd)) (execs (lawRec.body.drop 13) (lawEnv L fa cd)) (LawEnd g s) (fun _ _ => False) { s with heap := h, toks := tk } := by
  have K := fun (lv : List Value) (e : Addr × Obj) (S : Src aS e) (lns : List Nat) (c1 : Nat) hlv hin hnn h64 (m : Str → Option Value) h tk F N nd => law_while w g L fa cd B' X' T' t τ b nds TO BO hτ (by omega) aS e S oT oB oS dT dB dS ll lsm lv [] lns [] c1 0 hlv .nil p tp hp hin hnn h64 s h tk m F N nd
  dsimp only [lawEnv, lawRec, recOf, List.drop] at K ⊢
  walk_at "m_fill"
  have N0 := N
  simp only [tabB, treeHd, List.cons_append, List.nil_append] at N
  walk_at "m_steps"
  with_unfolding_all refine' For_invVF F ?k1 ?k2 ?_
  (case k1 => exact rfl)
  (case k2 => exact rfl)
  walk_at "m_steps"
  k_dflt (refine book_sorted rfl (by k_asm) N0 (.tail _ (.tail _ (.tail _ (.tail _ (.tail _ (.tail _ (.tail _ (.head _)))))))) BO hs ?_)
  intro D vs c h1 tk1 F1 N1 lt1 hvs
  have hvl : vs.length = nds.length := by have h := hvs.length; simpa [nints] using h
  have nd1 : (adrs ((D, listOf (List.toArray vs) c) :: (ll, listOf #[] 0) :: (lsm, listOf #[] 0) :: (L + 1, oT) :: (L + 1 + 1, oB) :: (L + 1 + 1 + 1, oS) :: e :: tabB w.params τ t b)).Nodup := List.nodup_cons.mpr ⟨fun hm => by
    obtain ⟨q, hq, e⟩ := List.mem_map.mp hm
    exact Nat.ne_of_lt (lt1 q hq) e, nd⟩
  walk_at "m_steps"
  refine for_listM (fun m₀ i m₁ news₁ => (∀ y, (∀ k ∈ [Str.ofString "node"], y ≠ k) → m₁ y = m₀ y) ∧ ∃ e lv lns c1, Src aS e ∧ news₁ = (ll, listOf (List.toArray lv) c1) :: (lsm, listOf #[] 0) :: (L + 1, oT) :: (L + 1 + 1, oB) :: (L + 1 + 1 + 1, oS) :: e :: tabB w.params τ t b ∧ IntsAre lv (nints lns) ∧ (∀ x ∈ lns, x < i ∧ parOf nds x = some p) ∧ lns.Nodup ∧ lns.length ≤ i) rfl F1 N1 nd1 ⟨fun _ _ => rfl, e, [], [], 0, S, rfl, .nil, nofun, .nil, Nat.le_refl _⟩ ?_ ?_
  · clear K N N0 N1 nd1 nd lt1 S
    clear e
    rintro i v m₁ news₁ h2 tk2 I oI hvi ⟨hm, e, lv, lns, c1, S, rfl, hlv, hin, hnn, hli⟩ F2 N2 nd2
    have hvi' : vs[i]? = some v := by simpa using hvi
    obtain ⟨x9, tx, rfl, hx9⟩ := hvs.at i v hvi'
    rw [List.getElem?_map] at hx9
    obtain ⟨x8, hx8, rfl⟩ := Option.map_eq_some_iff.mp hx9
    obtain ⟨hi9, hx7⟩ := List.getElem?_eq_some_iff.mp hx8
    rw [List.length_range] at hi9
    rw [List.getElem_range] at hx7
    subst hx7
    have hl9 : lv.length = lns.length := by have := hlv.length; simpa [nints] using this
    have hib : i < b.ts.length := by rw [BO.len]; exact hi9
    have hbx : b.ts[i]? = some b.ts[i] := List.getElem?_eq_getElem hib
    have hn9 : nds[i]? = some nds[i] := List.getElem?_eq_getElem hi9
    obtain ⟨hpv, -⟩ := BO.tup i _ _ hbx hn9
    have hpk : ParV (parOf nds i) b.ts[i].pv := by unfold parOf; rw [hn9]; exact hpv
    have hxm : tupLg b.ts[i] ∈ b.ts.map tupLg := List.mem_map_of_mem (List.getElem_mem hib)
    clear hpv
    generalize b.ts[i] = x at hbx hpk hxm
    have hxm' : (x.a, tupObj [x.pv, x.sv]) ∈ τ.own ++ (b.ts.map tupLg ++ t.rows.flatMap (rowLg w.params)) := List.mem_append.mpr (.inr (List.mem_append.mpr (.inl hxm)))
    have e4 := ov_of [Str.ofString "node"] hm
    rw [e4] at F2
    have N3 := N2
    simp only [tabB, treeHd, List.cons_append, List.nil_append] at N2
    walk_at "m_steps"
    k_dflt (refine book_item (by k_asm) (.tail _ (.tail _ (.tail _ (.tail _ (.tail _ (.tail _ (.tail _ (.tail _ (.tail _ (.head _)))))))))) BO hbx ?_)
    walk_at "m_steps"
    k_dflt (refine tup_item0 (by k_asm) (.tail _ (.tail _ (.tail _ (.tail _ (.tail _ (.tail _ (.tail _ (.tail _ (.tail _ (.tail _ (.tail _ (.tail _ (.tail _ hxm'))))))))))))) ?_)
    cases hq : parOf nds i with
    | none =>
      rw [hq] at hpk
      rw [show x.pv = Value.none from hpk]
      walk_at "m_steps"
      rw [← e4] at F2
      exact Turn.intro F2 N3 nd2 ⟨fun y hy => (if_neg (hy _ (.head _))).trans (hm y hy), e, lv, lns, c1, S, rfl, hlv, fun x hx => ⟨Nat.lt_succ_of_lt (hin x hx).1, (hin x hx).2⟩, hnn, Nat.le_succ_of_le hli⟩
    | some q =>
      rw [hq] at hpk
      obtain ⟨kq, hpq⟩ := hpk
      rw [hpq]
      walk_at "m_steps"
      · rename_i ha
        obtain rfl : q = p := by omega
        have pm : ([(I, oI), (D, listOf (List.toArray vs) c)] ++ (ll, listOf (List.toArray lv) c1) :: (lsm, listOf #[] 0) :: (L + 1, oT) :: (L + 1 + 1, oB) :: (L + 1 + 1 + 1, oS) :: e :: tabB w.params τ t b).Perm ([e] ++ ((I, oI) :: (D, listOf (List.toArray vs) c) :: (ll, listOf (List.toArray lv) c1) :: (lsm, listOf #[] 0) :: (L + 1, oT) :: (L + 1 + 1, oB) :: (L + 1 + 1 + 1, oS) :: tabB w.params τ t b)) := by
          generalize tabB w.params τ t b = X
          walk_at "m_perm"
        refine Sp.use (take_go w S _ _ (by omega) (by omega)) ((I, oI) :: (D, listOf (List.toArray vs) c) :: (ll, listOf (List.toArray lv) c1) :: (lsm, listOf #[] 0) :: (L + 1, oT) :: (L + 1 + 1, oB) :: (L + 1 + 1 + 1, oS) :: tabB w.params τ t b) (law_cx (by assumption) (by k_asm) (by assumption) (by assumption) rfl) (law_dp (Nat.le_of_ble_eq_true rfl)) (law_un (Nat.le_of_ble_eq_true rfl)) (by k_asm) N3 (fun q hq => pm.mem_iff.mpr hq) (nodup_perm nd2 pm) ?_
        rintro v lg' h5 tk5 F5 N5 nd5 kp5 fr5 ⟨r, tr, e', rfl, hr0, hr1, rfl, S'⟩
        clear N3 N2 kp5 fr5
        have N6 := N5
        simp only [tabB, treeHd, List.cons_append, List.nil_append] at N5
        walk_at "m_steps"
        · have pm7 : ([e'] ++ ((I, oI) :: (D, listOf (List.toArray vs) c) :: (ll, listOf (List.toArray lv) c1) :: (lsm, listOf #[] 0) :: (L + 1, oT) :: (L + 1 + 1, oB) :: (L + 1 + 1 + 1, oS) :: tabB w.params τ t b)).Perm ((ll, listOf (List.toArray lv) c1) :: ((I, oI) :: (D, listOf (List.toArray vs) c) :: (lsm, listOf #[] 0) :: (L + 1, oT) :: (L + 1 + 1, oB) :: (L + 1 + 1 + 1, oS) :: e' :: tabB w.params τ t b)) := by
            generalize tabB w.params τ t b = X
            walk_at "m_perm"
          have pm8 : ∀ o : Obj, ((ll, o) :: ((I, oI) :: (D, listOf (List.toArray vs) c) :: (lsm, listOf #[] 0) :: (L + 1, oT) :: (L + 1 + 1, oB) :: (L + 1 + 1 + 1, oS) :: e' :: tabB w.params τ t b)).Perm ([(I, oI), (D, listOf (List.toArray vs) c)] ++ (ll, o) :: (lsm, listOf #[] 0) :: (L + 1, oT) :: (L + 1 + 1, oB) :: (L + 1 + 1 + 1, oS) :: e' :: tabB w.params τ t b) := fun o => by
            generalize tabB w.params τ t b = X
            walk_at "m_perm"
          have nd7 := nodup_perm nd5 pm7
          k_dflt (refine lappend ((I, oI) :: (D, listOf (List.toArray vs) c) :: (lsm, listOf #[] 0) :: (L + 1, oT) :: (L + 1 + 1, oB) :: (L + 1 + 1 + 1, oS) :: e' :: tabB w.params τ t b) F5 N6 (fun q hq => pm7.mem_iff.mpr hq) (ne_front nd5 pm7) (by rw [sizeLine_eq]; show lv.toArray.size ≤ _; rw [List.size_toArray]; omega) ?_)
          intro h7 F7 N7
          walk_at "m_steps"
          rw [List.push_toArray] at N7
          rw [← e4] at F7
          refine Turn.intro F7 (News.sub' N7 fun q hq => (pm8 _).mem_iff.mpr hq) (nodup_perm (a := (ll, listOf (lv ++ [Value.int (i : Int) tx]).toArray (c1 + 1)) :: _) nd7 (pm8 _)) ⟨fun y hy => (if_neg (hy _ (.head _))).trans (hm y hy), e', lv ++ [Value.int (i : Int) tx], lns ++ [i], c1 + 1, S', rfl, ?_, ?_, ?_, ?_⟩
          · simp only [nints, List.map_append, List.map_cons, List.map_nil]
            exact hlv.append (.cons _ _ .nil)
          · intro x hx
            rcases List.mem_append.mp hx with hx | hx
            · exact ⟨Nat.lt_succ_of_lt (hin x hx).1, (hin x hx).2⟩
            · rw [List.mem_singleton.mp hx]; exact ⟨Nat.lt_succ_self _, hq⟩
          · refine List.nodup_append.mpr ⟨hnn, List.pairwise_singleton .., ?_⟩
            intro x hx y hy e
            rw [List.mem_singleton.mp hy] at e
            exact Nat.lt_irrefl _ (e ▸ (hin x hx).1)
          · rw [List.length_append, List.length_singleton]; omega
        · have pm8 : ([e'] ++ ((I, oI) :: (D, listOf (List.toArray vs) c) :: (ll, listOf (List.toArray lv) c1) :: (lsm, listOf #[] 0) :: (L + 1, oT) :: (L + 1 + 1, oB) :: (L + 1 + 1 + 1, oS) :: tabB w.params τ t b)).Perm ([(I, oI), (D, listOf (List.toArray vs) c)] ++ (ll, listOf (List.toArray lv) c1) :: (lsm, listOf #[] 0) :: (L + 1, oT) :: (L + 1 + 1, oB) :: (L + 1 + 1 + 1, oS) :: e' :: tabB w.params τ t b) := by
            generalize tabB w.params τ t b = X
            walk_at "m_perm"
          rw [← e4] at F5
          exact Turn.intro F5 (News.sub' N6 fun q hq => pm8.mem_iff.mpr hq) (nodup_perm nd5 pm8) ⟨fun y hy => (if_neg (hy _ (.head _))).trans (hm y hy), e', lv, lns, c1, S', rfl, hlv, fun x hx => ⟨Nat.lt_succ_of_lt (hin x hx).1, (hin x hx).2⟩, hnn, Nat.le_succ_of_le hli⟩
      · rw [← e4] at F2
        exact Turn.intro F2 N3 nd2 ⟨fun y hy => (if_neg (hy _ (.head _))).trans (hm y hy), e, lv, lns, c1, S, rfl, hlv, fun x hx => ⟨Nat.lt_succ_of_lt (hin x hx).1, (hin x hx).2⟩, hnn, Nat.le_succ_of_le hli⟩
  · rintro m₁ news₁ h2 tk2 ⟨hm, e, lv, lns, c1, S, rfl, hlv, hin, hnn, hli⟩ F2 N2 nd2
    rw [List.size_toArray, hvl] at hin hli
    have hla : lns.length < 64 := by omega
    have em : m₁ = ov [(Str.ofString "left", some (.ref ll)), (Str.ofString "some", some (.ref lsm)), (Str.ofString "parent", some (.int p tp))] m₁ := by
      have h9 := ov_of [Str.ofString "left", Str.ofString "some", Str.ofString "parent"] (m := m₁) (m₀ := m₁) fun _ _ => rfl
      simp only [List.map_cons, List.map_nil] at h9
      rw [hm (Str.ofString "left") (by decide), hm (Str.ofString "some") (by decide), hm (Str.ofString "parent") (by decide)] at h9
      exact h9
    rw [em] at F2
    exact K lv e S lns c1 hlv (by simpa using fun i hi => ⟨(hin i hi).1, (hin i hi).2⟩) (by simpa using hnn) (by simpa using hla) m₁ h2 tk2 F2 (News.sub' N2 fun q hq => .tail _ hq) (List.nodup_cons.mp nd2).2
end
section
local macro_rules | `(tactic| walk_at "m_own") => `(tactic| first | walk_at "m_ownA")
local macro_rules | `(tactic| walk_at "m_own") => `(tactic| first | (with_reducible show wpAny _ _ (execs (Stmt.For _ _ _ _ _ :: _) _) _ _ _) | (with_reducible show wpAny _ _ (exec (Stmt.Assign _ (Expr.ListComp _ _ _ _) _) _) _ _ _) | (with_reducible show LCg.CompEnd _ _ _ _ _ _ _ _ _ _ _ _ _ _))
noncomputable abbrev cells (L : Addr) (oT oB oS : Obj) : List (Addr × Obj) := [(L + 1, oT), (L + 1 + 1, oB), (L + 1 + 1 + 1, oS)]
theorem fr_ov {g h : Heap} {L : Addr} {M : Str → Option Value} (names : List Str) (F : Fr g L h M) : Fr g L h (ov (names.map fun n => (n, M n)) M) :=
  Eq.subst (motive := fun x => Fr g L h x) (ov_of names (m := M) (m₀ := M) fun _ _ => rfl) F
theorem rsize (k : Nat) : Builtin.Range.rangeSize 0 (k : Int) 1 = (k : Int) := by
  rw [rangeSize_nat]; omega
theorem rsmall (k : Nat) (h : k < 1000) : Builtin.Range.small 0 (k : Int) 1 = true := small_one (by omega) (by omega) (by omega) (by omega)
theorem tabB_stB (P : Params) (τ : TabA) (t : TreeA) (b : BookA) : (tabB P τ t b).Perm (stB P t b ++ tabLg τ) := by
  unfold tabB stB tabLg
  generalize treeHd P t = X
  generalize t.rows.flatMap (rowLg P) = Y
  generalize b.ts.map tupLg = Z
  walk_at "m_perm"
set_option maxHeartbeats 8000000 in
theorem law_nodes (w : World) (g : Heap) (L fa : Addr) (cd : Value) {loose : List Str} {mean : ExcName → Option Value} {mg mb : Str → Option Value} (B' : Below callerA g [] g) (X' : (Mine.hda.heap_1 w.params).In g) (T' : Top topProg loose mean mg mb g)
    (t : TreeA) (τ : TabA) (b : BookA) (nds : List Nd) (TO : TreeOk t nds) (BO : BookOk w b nds) (hτ : TabOk lamPos lamQual τ) (hs : nds.length < 64) (aS : Addr) (e : Addr × Obj) (S : Src aS e)
    (oT oB oS : Obj) (dT : oT.data = .cell (some (.ref t.T))) (dB : oB.data = .cell (some (.ref b.B))) (dS : oS.data = .cell (some (.ref aS)))
    (le : Addr) (ev : List Value) (els : List Nat) (ce : Nat) (hev : IntsAre ev (nints els)) (hel : ∀ x ∈ els, x < nds.length) (he0 : 0 < els.length) (he1 : els.length < 64)
    (s : Shared) (h : Heap) (tk : Nat) (m : Str → Option Value) (F : Fr g L h (ov [(Str.ofString "elements", some (.ref le))] m))
    (N : News g L h ((le, listOf ev.toArray ce) :: (L + 1, oT) :: (L + 1 + 1, oB) :: (L + 1 + 1 + 1, oS) :: e :: tabB w.params τ t b))
    (nd : (adrs ((le, listOf ev.toArray ce) :: (L + 1, oT) :: (L + 1 + 1, oB) :: (L + 1 + 1 + 1, oS) :: e :: tabB w.params τ t b)).Nodup) :
    wpAny (model PySem.Challenge.rw_xw0206_01.row.prog w) (callerA.deeper (lawEnv L fa cd)) (execs (lawRec.body.drop 10) (lawEnv L fa cd)) (LawEnd g s) (fun _ _ => False) { s with heap := h, toks := tk } := by
  have K := fun (e : Addr × Obj) (S : Src aS e) (ll lsm : Addr) (p : Nat) (tp : Tok) hp (m : Str → Option Value) h tk F N nd => law_for3 w g L fa cd B' X' T' t τ b nds TO BO hτ hs aS e S oT oB oS dT dB dS ll lsm p tp hp s h tk m F N nd
  dsimp only [lawEnv, lawRec, recOf, List.drop] at K ⊢
  walk_at "m_fill"
  have hn0 : 0 < nds.length := by
    obtain ⟨x, hx⟩ := List.exists_mem_of_length_pos he0
    exact Nat.lt_of_le_of_lt (Nat.zero_le _) (hel x hx)
  have hvl : ev.length = els.length := by have h := hev.length; simpa [nints] using h
  have pm : ((le, listOf ev.toArray ce) :: (L + 1, oT) :: (L + 1 + 1, oB) :: (L + 1 + 1 + 1, oS) :: e :: tabB w.params τ t b).Perm ([e] ++ ((le, listOf ev.toArray ce) :: (L + 1, oT) :: (L + 1 + 1, oB) :: (L + 1 + 1 + 1, oS) :: tabB w.params τ t b)) := by
    generalize tabB w.params τ t b = X
    walk_at "m_perm"
  have N0 := N
  simp only [tabB, treeHd, List.cons_append, List.nil_append] at N
  walk_at "m_steps"
  k_dflt (refine LCg.Assign_ListComp_U (F₀ := by k_asm) (by rfl) (by with_unfolding_all rfl) (by with_unfolding_all rfl) (by decide) (by rfl) (by decide) (by rfl) (by rfl) (by rfl) ?_)
  walk_at "m_steps"
  refine Sp.use (take_go w S _ _ (by omega) (by omega)) ((le, listOf ev.toArray ce) :: (L + 1, oT) :: (L + 1 + 1, oB) :: (L + 1 + 1 + 1, oS) :: tabB w.params τ t b) (law_cx (by assumption) (by k_asm) (by assumption) (by assumption) rfl) (law_dp (Nat.le_of_ble_eq_true rfl)) (law_un (Nat.le_of_ble_eq_true rfl)) (by k_asm) N0 (fun q hq => pm.mem_iff.mpr hq) (nodup_perm nd pm) ?_
  rintro v lg' h2 tk2 F2 N2 nd2 kp2 fr2 ⟨r, tr, e', rfl, hr0, hr1, rfl, S'⟩
  clear N N0 kp2 fr2 S
  obtain ⟨k, rfl⟩ : ∃ k : Nat, r = (k : Int) := ⟨r.toNat, by omega⟩
  have hk5 : k < 5 := by omega
  have N3 := News.sub' N2 (l' := (le, listOf ev.toArray ce) :: (L + 1, oT) :: (L + 1 + 1, oB) :: (L + 1 + 1 + 1, oS) :: e' :: tabB w.params τ t b) (fun q hq => by
    have pm' : ((le, listOf ev.toArray ce) :: (L + 1, oT) :: (L + 1 + 1, oB) :: (L + 1 + 1 + 1, oS) :: e' :: tabB w.params τ t b).Perm ([e'] ++ ((le, listOf ev.toArray ce) :: (L + 1, oT) :: (L + 1 + 1, oB) :: (L + 1 + 1 + 1, oS) :: tabB w.params τ t b)) := by
      generalize tabB w.params τ t b = X
      walk_at "m_perm"
    exact pm'.mem_iff.mp hq)
  simp only [tabB, treeHd, List.cons_append, List.nil_append] at N2
  walk_at "m_steps"
  rename_i hR FR NR kR
  try clear N3
  refine LCg.CompSrc.range (a := 0) (b := (k : Int)) (n := k) (by rfl) FR NR hR (rsmall k (by omega)) (rsize k) (by rw [sizeLine_eq]; omega) ?_
  intro g9
  have nd3 : (adrs ((le, listOf ev.toArray ce) :: (L + 1, oT) :: (L + 1 + 1, oB) :: (L + 1 + 1 + 1, oS) :: e' :: tabB w.params τ t b)).Nodup := nodup_perm nd2 (by
    generalize tabB w.params τ t b = X
    walk_at "m_perm")
  refine compInv (fun i ys news => ∃ e ns, Src aS e ∧ news = (le, listOf ev.toArray ce) :: (L + 1, oT) :: (L + 1 + 1, oB) :: (L + 1 + 1 + 1, oS) :: e :: tabB w.params τ t b ∧ (adrs news).Nodup ∧ IntsAre ys (nints ns) ∧ (∀ x ∈ ns, x < nds.length) ∧ ns.length = i) ?_ ?_ _ 0 [] _ (Nat.zero_add _) ⟨e', [], S', rfl, nd3, .nil, nofun, rfl⟩
  · clear K NR nd3 nd2 hR kR S' nd
    try clear N2
    try clear N
    rintro i ys news v I oI C oC D m₂ h tk E' hi ⟨ti, rfl⟩ ⟨e, ns, S, rfl, ndJ, hys, hns, rfl⟩ hC hx F9 N9 off
    have N9' := N9
    simp only [tabB, treeHd, List.cons_append, List.nil_append] at N9
    walk_at "m_steps"
    k_dflt (refine book_sorted rfl (by k_asm) N9' (.tail _ (.tail _ (.tail _ (.tail _ (.tail _ (.tail _ (.tail _ (.tail _ (.tail _ (.head _)))))))))) BO hs ?_)
    intro D3 vs3 c3 h3 tk3 F3 N3 lt3 hvs3
    walk_at "m_steps"
    have hvl3 : vs3.length = nds.length := by have h := hvs3.length; simpa [nints] using h
    have offm := off.mem
    have nd3 : (adrs ((D3, listOf (List.toArray vs3) c3) :: ((le, listOf ev.toArray ce) :: (L + 1, oT) :: (L + 1 + 1, oB) :: (L + 1 + 1 + 1, oS) :: e :: tabB w.params τ t b))).Nodup := List.nodup_cons.mpr ⟨fun hm => by
      obtain ⟨q, hq, e⟩ := List.mem_map.mp hm
      exact Nat.ne_of_lt (lt3 q (.tail _ (.tail _ (.tail _ hq)))) e, ndJ⟩
    have pm3 : ((D3, listOf (List.toArray vs3) c3) :: ((le, listOf ev.toArray ce) :: (L + 1, oT) :: (L + 1 + 1, oB) :: (L + 1 + 1 + 1, oS) :: e :: tabB w.params τ t b)).Perm ([e, (D3, listOf (List.toArray vs3) c3)] ++ ((le, listOf ev.toArray ce) :: (L + 1, oT) :: (L + 1 + 1, oB) :: (L + 1 + 1 + 1, oS) :: tabB w.params τ t b)) := by
      generalize tabB w.params τ t b = X
      walk_at "m_perm"
    have hsub : ∀ q ∈ (D3, listOf (List.toArray vs3) c3) :: ((le, listOf ev.toArray ce) :: (L + 1, oT) :: (L + 1 + 1, oB) :: (L + 1 + 1 + 1, oS) :: e :: tabB w.params τ t b), q ∈ (D3, listOf (List.toArray vs3) c3) :: (I, oI) :: (C, oC) :: (D, LCg.lst ys) :: ((le, listOf ev.toArray ce) :: (L + 1, oT) :: (L + 1 + 1, oB) :: (L + 1 + 1 + 1, oS) :: e :: tabB w.params τ t b) := fun q hq => by
      rcases List.mem_cons.mp hq with rfl | hq
      · exact .head _
      · exact .tail _ (.tail _ (.tail _ (.tail _ hq)))
    have he9 : e ∈ (le, listOf ev.toArray ce) :: (L + 1, oT) :: (L + 1 + 1, oB) :: (L + 1 + 1 + 1, oS) :: e :: tabB w.params τ t b := .tail _ (.tail _ (.tail _ (.tail _ (.head _))))
    have N3' := News.sub' N3 (l' := (D3, listOf (List.toArray vs3) c3) :: (I, oI) :: (C, oC) :: (D, LCg.lst ys) :: ((le, listOf ev.toArray ce) :: (L + 1, oT) :: (L + 1 + 1, oB) :: (L + 1 + 1 + 1, oS) :: e :: tabB w.params τ t b)) (fun q hq => hq)
    refine Sp.use (one_go w S D3 (List.toArray vs3) c3 (by rw [List.size_toArray]; omega) (by rw [List.size_toArray]; omega)) ((le, listOf ev.toArray ce) :: (L + 1, oT) :: (L + 1 + 1, oB) :: (L + 1 + 1 + 1, oS) :: tabB w.params τ t b) (law_cx (by assumption) (by k_asm) (by assumption) (by assumption) rfl) (law_dp (Nat.le_of_ble_eq_true rfl)) (law_un (Nat.le_of_ble_eq_true rfl)) F3 N3' (fun q hq => hsub q (pm3.mem_iff.mpr hq)) (nodup_perm nd3 pm3) ?_
    rintro v lg' h4 tk4 F4 N4 nd4 kp4 fr4 ⟨i9, e4, hi9, rfl, S4⟩
    obtain ⟨x9, tx, rfl, hx9⟩ := hvs3.at i9 v (by simpa using hi9)
    rw [List.getElem?_map] at hx9
    obtain ⟨x8, hx8, rfl⟩ := Option.map_eq_some_iff.mp hx9
    have hx7 : x8 < nds.length := List.mem_range.mp (List.mem_of_getElem? hx8)
    have keep3 : ∀ q ∈ [(I, oI), (C, oC), (D, LCg.lst ys)], q.1 ∉ adrs [e, (D3, listOf (List.toArray vs3) c3)] := fun q hq hm => by
      have h1 : q.1 ≠ D3 := Nat.ne_of_lt (lt3 q (by
        rcases List.mem_cons.mp hq with rfl | hq
        · exact .head _
        rcases List.mem_cons.mp hq with rfl | hq
        · exact .tail _ (.head _)
        rw [List.mem_singleton.mp hq]; exact .tail _ (.tail _ (.head _))))
      rcases List.mem_cons.mp hm with h | hm
      · obtain ⟨o1, o2, o3⟩ := offm e he9
        rcases List.mem_cons.mp hq with rfl | hq
        · exact o1 h.symm
        rcases List.mem_cons.mp hq with rfl | hq
        · exact o2 h.symm
        rw [List.mem_singleton.mp hq] at h; exact o3 h.symm
      · exact h1 (List.mem_singleton.mp hm)
    have NI := News.kept (News.sub' N3' (l' := [(I, oI), (C, oC), (D, LCg.lst ys)]) (fun q hq => by
      rcases List.mem_cons.mp hq with rfl | hq
      · exact .tail _ (.head _)
      rcases List.mem_cons.mp hq with rfl | hq
      · exact .tail _ (.tail _ (.head _))
      rw [List.mem_singleton.mp hq]; exact .tail _ (.tail _ (.tail _ (.head _))))) kp4 keep3
    have pm4 : ([e4, (D3, listOf (List.toArray vs3) c3)] ++ ((le, listOf ev.toArray ce) :: (L + 1, oT) :: (L + 1 + 1, oB) :: (L + 1 + 1 + 1, oS) :: tabB w.params τ t b)).Perm ((D3, listOf (List.toArray vs3) c3) :: ((le, listOf ev.toArray ce) :: (L + 1, oT) :: (L + 1 + 1, oB) :: (L + 1 + 1 + 1, oS) :: e4 :: tabB w.params τ t b)) := by
      generalize tabB w.params τ t b = X
      walk_at "m_perm"
    have e4a : e4.1 = e.1 := by
      obtain ⟨_, _, _, _, _, h1, _⟩ := S
      obtain ⟨_, _, _, _, _, h2, _⟩ := S4
      rw [h1, h2]
    clear N3 N3' kp4 fr4 N9 N9'
    walk_at "m_steps"
    show LCg.CompEnd _ _ _ _ _ _ _ _ _ _ _ _ _ _
    refine LCg.CompEnd.intro F4 (News.app NI N4) ((le, listOf ev.toArray ce) :: (L + 1, oT) :: (L + 1 + 1, oB) :: (L + 1 + 1 + 1, oS) :: e4 :: tabB w.params τ t b) ?_ (LCg.Off3.of fun q hq => ?_) True.intro ⟨e4, ns ++ [x8], S4, rfl, (List.nodup_cons.mp (nodup_perm nd4 pm4)).2, ?_, ?_, by rw [List.length_append]; rfl⟩
    · intro q hq
      rcases List.mem_cons.mp hq with rfl | hq
      · exact .head _
      rcases List.mem_cons.mp hq with rfl | hq
      · exact .tail _ (.head _)
      rcases List.mem_cons.mp hq with rfl | hq
      · exact .tail _ (.tail _ (.head _))
      · exact .tail _ (.tail _ (.tail _ (pm4.mem_iff.mpr (.tail _ hq))))
    · rcases List.mem_cons.mp hq with rfl | hq
      · exact offm _ (.head _)
      rcases List.mem_cons.mp hq with rfl | hq
      · exact offm _ (.tail _ (.head _))
      rcases List.mem_cons.mp hq with rfl | hq
      · exact offm _ (.tail _ (.tail _ (.head _)))
      rcases List.mem_cons.mp hq with rfl | hq
      · exact offm _ (.tail _ (.tail _ (.tail _ (.head _))))
      rcases List.mem_cons.mp hq with rfl | hq
      · rw [e4a]; exact offm _ he9
      · exact offm _ (.tail _ (.tail _ (.tail _ (.tail _ (.tail _ hq)))))
    · simp only [nints, List.map_append, List.map_cons, List.map_nil]
      exact hys.append (.cons _ _ .nil)
    · intro x hx
      rcases List.mem_append.mp hx with hx | hx
      · exact hns x hx
      · rw [List.mem_singleton.mp hx]; exact hx7
  · rintro ys news ⟨e, ns, S, rfl, ndJ, hys, hns, hnl⟩
    unfold LCg.FinA
    intro Dn h5 tk5 F5 N5 o5
    have ndD : (adrs ((Dn, LCg.lst ys) :: (le, listOf ev.toArray ce) :: (L + 1, oT) :: (L + 1 + 1, oB) :: (L + 1 + 1 + 1, oS) :: e :: tabB w.params τ t b)).Nodup := List.nodup_cons.mpr ⟨fun hm => by
      obtain ⟨q, hq, e⟩ := List.mem_map.mp hm
      exact off1_ne o5 q hq e, ndJ⟩
    have N5' := N5
    simp only [tabB, treeHd, List.cons_append, List.nil_append] at N5
    walk_at "m_steps"
    have hsB : ∀ q ∈ (Dn, LCg.lst ys) :: stB w.params t b, q ∈ (Dn, LCg.lst ys) :: (le, listOf ev.toArray ce) :: (L + 1, oT) :: (L + 1 + 1, oB) :: (L + 1 + 1 + 1, oS) :: e :: tabB w.params τ t b := fun q hq => by
      rcases List.mem_cons.mp hq with rfl | hq
      · exact .head _
      · exact .tail _ (.tail _ (.tail _ (.tail _ (.tail _ (.tail _ ((tabB_stB w.params τ t b).mem_iff.mpr (List.mem_append.mpr (.inl hq))))))))
    have pB : ((Dn, LCg.lst ys) :: (le, listOf ev.toArray ce) :: (L + 1, oT) :: (L + 1 + 1, oB) :: (L + 1 + 1 + 1, oS) :: e :: tabB w.params τ t b).Perm (((Dn, LCg.lst ys) :: stB w.params t b) ++ ((le, listOf ev.toArray ce) :: (L + 1, oT) :: (L + 1 + 1, oB) :: (L + 1 + 1 + 1, oS) :: e :: tabLg τ)) := by
      refine (List.Perm.append_left [(Dn, LCg.lst ys), (le, listOf ev.toArray ce), (L + 1, oT), (L + 1 + 1, oB), (L + 1 + 1 + 1, oS), e] (tabB_stB w.params τ t b)).trans ?_
      generalize stB w.params t b = X
      generalize tabLg τ = Y
      walk_at "m_perm"
    have ndB : (adrs ((Dn, LCg.lst ys) :: stB w.params t b)).Nodup := by
      have h := nodup_perm ndD pB
      unfold adrs at h ⊢
      rw [List.map_append, List.nodup_append] at h
      exact h.1
    refine Sp.read (lines_right_sp w t b nds TO BO (by omega) Dn ys ns ys.length hys hns (by omega)) (law_cx (by assumption) (by k_asm) (by assumption) (by assumption) rfl) (law_dp (Nat.le_of_ble_eq_true rfl)) (law_un (Nat.le_of_ble_eq_true rfl)) (by k_asm) N5' hsB ndB ?_
    rintro v own h6 tk6 F6 N6 all6 ne6 nd6 ⟨rfl, rfl⟩
    clear all6 ne6 nd6
    try clear N5'
    try clear N5
    have N6' := N6
    simp only [tabB, treeHd, List.cons_append, List.nil_append] at N6
    walk_at "m_steps"
    have pm7 : ∀ e : Addr × Obj, ((Dn, LCg.lst ys) :: (le, listOf ev.toArray ce) :: (L + 1, oT) :: (L + 1 + 1, oB) :: (L + 1 + 1 + 1, oS) :: e :: tabB w.params τ t b).Perm ([e, (le, listOf ev.toArray ce)] ++ ((Dn, LCg.lst ys) :: (L + 1, oT) :: (L + 1 + 1, oB) :: (L + 1 + 1 + 1, oS) :: tabB w.params τ t b)) := fun e => by
      generalize tabB w.params τ t b = X
      walk_at "m_perm"
    refine Sp.use (one_go w S le (List.toArray ev) ce (by rw [List.size_toArray]; omega) (by rw [List.size_toArray]; omega)) ((Dn, LCg.lst ys) :: (L + 1, oT) :: (L + 1 + 1, oB) :: (L + 1 + 1 + 1, oS) :: tabB w.params τ t b) (law_cx (by assumption) (by k_asm) (by assumption) (by assumption) rfl) (law_dp (Nat.le_of_ble_eq_true rfl)) (law_un (Nat.le_of_ble_eq_true rfl)) (by k_asm) N6' (fun q hq => (pm7 e).mem_iff.mpr hq) (nodup_perm ndD (pm7 e)) ?_
    rintro v lg' h7 tk7 F7 N7 nd7 kp7 fr7 ⟨i9, e7, hi9, rfl, S7⟩
    obtain ⟨p, tp, rfl, hp9⟩ := hev.at i9 v (by simpa using hi9)
    rw [List.getElem?_map] at hp9
    obtain ⟨p, hp8, rfl⟩ := Option.map_eq_some_iff.mp hp9
    have hp7 : p < nds.length := hel p (List.mem_of_getElem? hp8)
    have nd7' := nodup_perm nd7 (pm7 e7).symm
    have N7' := News.sub' N7 (l' := (Dn, LCg.lst ys) :: (le, listOf ev.toArray ce) :: (L + 1, oT) :: (L + 1 + 1, oB) :: (L + 1 + 1 + 1, oS) :: e7 :: tabB w.params τ t b) (fun q hq => (pm7 e7).mem_iff.mp hq)
    clear kp7 fr7 nd7 N7
    try clear N6
    try clear N6'
    have N7 := N7'
    simp only [tabB, treeHd, List.cons_append, List.nil_append] at N7
    walk_at "m_steps"
    rename_i ll _h1 lt1 lsm _h2 lt2 DT _h3 lt3 _h4 _h5 _h6 _h7 F9 N9
    have ndc := (List.nodup_cons.mp (List.nodup_cons.mp nd7').2).2
    have l1 : ∀ q ∈ (L + 1, oT) :: (L + 1 + 1, oB) :: (L + 1 + 1 + 1, oS) :: e7 :: tabB w.params τ t b, q.1 < ll := fun q hq => by
      have hq2 : q ∈ (Dn, LCg.lst ys) :: (le, listOf ev.toArray ce) :: (L + 1, oT) :: (L + 1 + 1, oB) :: (L + 1 + 1 + 1, oS) :: e7 :: tabB w.params τ t b := .tail _ (.tail _ hq)
      simp only [tabB, treeHd, List.cons_append, List.nil_append] at hq2
      exact (fun (l : List (Addr × Obj)) (hl : q ∈ l) (h : AllLt ll l) => ktn_ltOf h q hl) _ hq2 lt1
    have l2 : ∀ q ∈ (L + 1, oT) :: (L + 1 + 1, oB) :: (L + 1 + 1 + 1, oS) :: e7 :: tabB w.params τ t b, q.1 < lsm := fun q hq => Nat.lt_trans (l1 q hq) lt2.1
    have nd9 : (adrs ((ll, listOf #[] 0) :: (lsm, listOf #[] 0) :: (L + 1, oT) :: (L + 1 + 1, oB) :: (L + 1 + 1 + 1, oS) :: e7 :: tabB w.params τ t b)).Nodup := by
      refine List.nodup_cons.mpr ⟨fun hm => ?_, List.nodup_cons.mpr ⟨fun hm => ?_, ndc⟩⟩
      · rcases List.mem_cons.mp hm with h | hm
        · exact Nat.ne_of_lt lt2.1 h
        · obtain ⟨q, hq, e⟩ := List.mem_map.mp hm
          exact Nat.ne_of_lt (l1 q hq) e
      · obtain ⟨q, hq, e⟩ := List.mem_map.mp hm
        exact Nat.ne_of_lt (l2 q hq) e
    have N9' := News.sub' N9 (l' := (ll, listOf #[] 0) :: (lsm, listOf #[] 0) :: (L + 1, oT) :: (L + 1 + 1, oB) :: (L + 1 + 1 + 1, oS) :: e7 :: tabB w.params τ t b) (fun q hq => by
      rcases List.mem_cons.mp hq with rfl | hq
      · exact .tail _ (.tail _ (.head _))
      rcases List.mem_cons.mp hq with rfl | hq
      · exact .tail _ (.head _)
      · simp only [tabB, treeHd, List.cons_append, List.nil_append] at hq
        exact .tail _ (.tail _ (.tail _ (.tail _ (.tail _ hq)))))
    exact K e7 S7 ll lsm p tp hp7 _ _ _ (fr_ov [Str.ofString "left", Str.ofString "some", Str.ofString "parent"] F9) N9' nd9
end
local macro_rules | `(tactic| walk_at "m_own") => `(tactic| first | walk_at "m_ownA" | (with_reducible show wpAny _ _ (call (Value.type "range") _) _ _ _))
local macro_rules | `(tactic| walk_at "m_own") => `(tactic| first | (with_reducible show wpAny _ _ (execs (Stmt.Assign _ (Expr.ListComp _ _ _ _) _ :: _) _) _ _ _))
theorem rsizeC (c k : Nat) : Builtin.Range.rangeSize 0 ((c : Int) + (k : Int)) 1 = ((c + k : Nat) : Int) := by
  rw [rangeSize_nat]; omega
theorem rsmallC (c k : Nat) (h : c + k < 1000) : Builtin.Range.small 0 ((c : Int) + (k : Int)) 1 = true := small_one (by omega) (by omega) (by omega) (by omega)
/-- what stands between the turns of the loops that build -/
noncomputable def Grow (w : World) (τ : TabA) (aS aT aB le L : Addr) (oT oB oS : Obj) (nb eb : Nat) (news : List (Addr × Obj)) : Prop :=
  ∃ (e : Addr × Obj) (t : TreeA) (b : BookA) (nds : List Nd) (ev : List Value) (els : List Nat) (ce : Nat), Src aS e ∧ t.T = aT ∧ b.B = aB ∧ TreeOk t nds ∧ BookOk w b nds ∧ nds.length ≤ nb ∧ IntsAre ev (nints els) ∧ (∀ x ∈ els, ∃ n, nds[x]? = some n ∧ n.kd = .elem) ∧ 0 < els.length ∧ els.length ≤ eb ∧
    news = (le, listOf ev.toArray ce) :: (L + 1, oT) :: (L + 1 + 1, oB) :: (L + 1 + 1 + 1, oS) :: e :: tabB w.params τ t b
theorem tabB_stLg (P : Params) (τ : TabA) (t : TreeA) (b : BookA) : (tabB P τ t b).Perm (stLg P t b ++ tabLg τ) := by
  unfold tabB stLg tabLg
  generalize treeHd P t = X
  generalize t.rows.flatMap (rowLg P) = Y
  generalize b.ts.map tupLg = Z
  walk_at "m_perm"
theorem word_of {i : Nat} {v : Value} {k1 k2 k3 k4 k5 : Tok} (h : (#[Value.str (Str.ofString "element") k1, Value.str (Str.ofString "element") k2, Value.str (Str.ofString "text") k3, Value.str (Str.ofString "attribute") k4, Value.str (Str.ofString "namespace") k5] : Array Value)[i]? = some v) :
    ∃ kd kw, kd ≠ Kd.root ∧ v = .str (Str.ofString (wordOf kd)) kw := by
  match i, h with
  | 0, h => cases h; exact ⟨.elem, _, nofun, rfl⟩
  | 1, h => cases h; exact ⟨.elem, _, nofun, rfl⟩
  | 2, h => cases h; exact ⟨.text, _, nofun, rfl⟩
  | 3, h => cases h; exact ⟨.attr, _, nofun, rfl⟩
  | 4, h => cases h; exact ⟨.ns, _, nofun, rfl⟩
  | n + 5, h => simp at h
set_option maxHeartbeats 8000000 in
theorem law_for2 (w : World) (g : Heap) (L fa : Addr) (cd : Value) {loose : List Str} {mean : ExcName → Option Value} {mg mb : Str → Option Value} (B' : Below callerA g [] g) (X' : (Mine.hda.heap_1 w.params).In g) (T' : Top topProg loose mean mg mb g)
    (τ : TabA) (hτ : TabOk lamPos lamQual τ) (aS aT aB : Addr) (oT oB oS : Obj) (dT : oT.data = .cell (some (.ref aT))) (dB : oB.data = .cell (some (.ref aB))) (dS : oS.data = .cell (some (.ref aS)))
    (t : TreeA) (b : BookA) (nds : List Nd) (TO : TreeOk t nds) (BO : BookOk w b nds) (hT : t.T = aT) (hB : b.B = aB) (hs : nds.length ≤ 6) (e : Addr × Obj) (S : Src aS e)
    (le : Addr) (ev : List Value) (els : List Nat) (ce : Nat) (hev : IntsAre ev (nints els)) (hel : ∀ x ∈ els, ∃ n, nds[x]? = some n ∧ n.kd = .elem) (he0 : 0 < els.length) (he1 : els.length ≤ 3)
    (s : Shared) (h : Heap) (tk : Nat) (m : Str → Option Value) (F : Fr g L h (ov [(Str.ofString "elements", some (.ref le))] m))
    (N : News g L h ((le, listOf ev.toArray ce) :: (L + 1, oT) :: (L + 1 + 1, oB) :: (L + 1 + 1 + 1, oS) :: e :: tabB w.params τ t b))
    (nd : (adrs ((le, listOf ev.toArray ce) :: (L + 1, oT) :: (L + 1 + 1, oB) :: (L + 1 + 1 + 1, oS) :: e :: tabB w.params τ t b)).Nodup) :
    wpAny (model PySem.Challenge.rw_xw0206_01.row.prog w) (callerA.deeper (lawEnv L fa cd)) (execs (lawRec.body.drop 9) (lawEnv L fa cd)) (LawEnd g s) (fun _ _ => False) { s with heap := h, toks := tk } := by
  have K := fun (t : TreeA) (b : BookA) (nds : List Nd) TO BO hs (e : Addr × Obj) (S : Src aS e) dT dB (ev : List Value) (els : List Nat) (ce : Nat) hev hel he0 he1 (m : Str → Option Value) h tk F N nd => law_nodes w g L fa cd B' X' T' t τ b nds TO BO hτ hs aS e S oT oB oS dT dB dS le ev els ce hev hel he0 he1 s h tk m F N nd
  dsimp only [lawEnv, lawRec, recOf, List.drop] at K ⊢
  walk_at "m_fill"
  have pm : ∀ e : Addr × Obj, ((le, listOf ev.toArray ce) :: (L + 1, oT) :: (L + 1 + 1, oB) :: (L + 1 + 1 + 1, oS) :: e :: tabB w.params τ t b).Perm ([e] ++ ((le, listOf ev.toArray ce) :: (L + 1, oT) :: (L + 1 + 1, oB) :: (L + 1 + 1 + 1, oS) :: tabB w.params τ t b)) := fun e => by
    generalize tabB w.params τ t b = X
    walk_at "m_perm"
  have N0 := N
  simp only [tabB, treeHd, List.cons_append, List.nil_append] at N
  walk_at "m_steps"
  with_unfolding_all refine' For_invVF F ?k1 ?k2 ?_
  (case k1 => exact rfl)
  (case k2 => exact rfl)
  walk_at "m_steps"
  refine Sp.use (take_go w S _ _ (by omega) (by omega)) ((le, listOf ev.toArray ce) :: (L + 1, oT) :: (L + 1 + 1, oB) :: (L + 1 + 1 + 1, oS) :: tabB w.params τ t b) (law_cx (by assumption) (by k_asm) (by assumption) (by assumption) rfl) (law_dp (Nat.le_of_ble_eq_true rfl)) (law_un (Nat.le_of_ble_eq_true rfl)) (by k_asm) N0 (fun q hq => (pm e).mem_iff.mpr hq) (nodup_perm nd (pm e)) ?_
  rintro v lg' h2 tk2 F2 N2 nd2 kp2 fr2 ⟨r, tr, e', rfl, hr0, hr1, rfl, S'⟩
  clear N N0 kp2 fr2
  obtain ⟨k, rfl⟩ : ∃ k : Nat, r = (k : Int) := ⟨r.toNat, by omega⟩
  have hk6 : k < 6 := by omega
  have N3 := News.sub' N2 (l' := (le, listOf ev.toArray ce) :: (L + 1, oT) :: (L + 1 + 1, oB) :: (L + 1 + 1 + 1, oS) :: e' :: tabB w.params τ t b) (fun q hq => (pm e').mem_iff.mp hq)
  have nd3 := nodup_perm nd2 (pm e').symm
  simp only [tabB, treeHd, List.cons_append, List.nil_append] at N2
  walk_at "m_steps"
  k_dflt (refine range1_rows F2 N3 ?_)
  intro hR tkR t1 u1 v1 iR FR NR kR
  walk_at "m_steps"
  refine for_rangeM (n := 2 + k) (a₀ := 0) (b₀ := 2 + (k : Int)) (fun m₀ i m₁ news₁ => (∀ y, (∀ k ∈ [Str.ofString "turn", Str.ofString "word", Str.ofString "node"], y ≠ k) → m₁ y = m₀ y) ∧ Grow w τ aS aT aB le L oT oB oS (6 + i) (3 + i) news₁) rfl iR (rsmallC 2 k (by omega)) (rsizeC 2 k) FR NR nd3 ⟨fun _ _ => rfl, e', t, b, nds, ev, els, ce, S', hT, hB, TO, BO, hs, hev, hel, he0, he1, rfl⟩ ?_ ?_
  · clear K N3 NR FR iR nd3 nd2 nd S S' TO BO hT hB hs hev hel he0 he1 pm
    try clear N2
    clear kR hr0 hr1 F2 F
    clear e e' ev els ce t b nds
    rintro i kk tk9 m₁ news₁ h tk I oI hi ⟨hm, e, t, b, nds, ev, els, ce, S, hT, hB, TO, BO, hs, hev, hel, he0, he1, rfl⟩ F1 N1 nd1
    subst hT hB
    have e4 := ov_of [Str.ofString "turn", Str.ofString "word", Str.ofString "node"] hm
    rw [e4] at F1
    have N0 := N1
    simp only [tabB, treeHd, List.cons_append, List.nil_append] at N1
    walk_at "m_steps"
    rename_i lw h2 F2 N2 lt2
    have hvl : ev.length = els.length := by have h := hev.length; simpa [nints] using h
    have nd2 : ∀ o : Obj, (adrs ((lw, o) :: ([(I, oI)] ++ (le, listOf (List.toArray ev) ce) :: (L + 1, oT) :: (L + 1 + 1, oB) :: (L + 1 + 1 + 1, oS) :: e :: tabB w.params τ t b))).Nodup := fun o => List.nodup_cons.mpr ⟨fun hm => by
      obtain ⟨q, hq, e⟩ := List.mem_map.mp hm
      exact Nat.ne_of_lt (lt2 q hq) e, nd1⟩
    have pm2 : ∀ (o : Obj) (e : Addr × Obj), ((lw, o) :: ([(I, oI)] ++ (le, listOf (List.toArray ev) ce) :: (L + 1, oT) :: (L + 1 + 1, oB) :: (L + 1 + 1 + 1, oS) :: e :: tabB w.params τ t b)).Perm ([e, (lw, o)] ++ ((I, oI) :: (le, listOf (List.toArray ev) ce) :: (L + 1, oT) :: (L + 1 + 1, oB) :: (L + 1 + 1 + 1, oS) :: tabB w.params τ t b)) := fun o e => by
      generalize tabB w.params τ t b = X
      walk_at "m_perm"
    refine Sp.use (one_go w S lw _ 0 (Nat.le_of_ble_eq_true rfl) (Nat.le_of_ble_eq_true rfl)) ((I, oI) :: (le, listOf (List.toArray ev) ce) :: (L + 1, oT) :: (L + 1 + 1, oB) :: (L + 1 + 1 + 1, oS) :: tabB w.params τ t b) (law_cx (by assumption) (by k_asm) (by assumption) (by assumption) rfl) (law_dp (Nat.le_of_ble_eq_true rfl)) (law_un (Nat.le_of_ble_eq_true rfl)) F2 N2 (fun q hq => (pm2 _ e).mem_iff.mpr hq) (nodup_perm (nd2 _) (pm2 _ e)) ?_
    rintro v lg' h3 tk3 F3 N3 nd3 kp3 fr3 ⟨i9, e3, hi9, rfl, S3⟩
    obtain ⟨kd, kw, hkd, rfl⟩ := word_of hi9
    have N3' := News.sub' N3 (l' := (I, oI) :: (le, listOf (List.toArray ev) ce) :: (L + 1, oT) :: (L + 1 + 1, oB) :: (L + 1 + 1 + 1, oS) :: e3 :: tabB w.params τ t b) (fun q hq => (pm2 _ e3).mem_iff.mp (.tail _ hq))
    have nd3' := (List.nodup_cons.mp (nodup_perm nd3 (pm2 _ e3).symm)).2
    clear kp3 fr3 N2 N3 nd3 nd2 hi9 lt2
    try clear N0
    try clear N1
    have N3 := N3'
    simp only [tabB, treeHd, List.cons_append, List.nil_append] at N3
    walk_at "m_steps"
    rename_i h4 F4 N4
    have pm5 : ∀ e : Addr × Obj, ((I, oI) :: (le, listOf (List.toArray ev) ce) :: (L + 1, oT) :: (L + 1 + 1, oB) :: (L + 1 + 1 + 1, oS) :: e :: tabB w.params τ t b).Perm ([e, (le, listOf (List.toArray ev) ce)] ++ ((I, oI) :: (L + 1, oT) :: (L + 1 + 1, oB) :: (L + 1 + 1 + 1, oS) :: tabB w.params τ t b)) := fun e => by
      generalize tabB w.params τ t b = X
      walk_at "m_perm"
    have N4' := News.sub' N4 (l' := (I, oI) :: (le, listOf (List.toArray ev) ce) :: (L + 1, oT) :: (L + 1 + 1, oB) :: (L + 1 + 1 + 1, oS) :: e3 :: tabB w.params τ t b) (fun q hq => hq)
    refine Sp.use (one_go w S3 le (List.toArray ev) ce (by rw [List.size_toArray]; omega) (by rw [List.size_toArray]; omega)) ((I, oI) :: (L + 1, oT) :: (L + 1 + 1, oB) :: (L + 1 + 1 + 1, oS) :: tabB w.params τ t b) (law_cx (by assumption) (by k_asm) (by assumption) (by assumption) rfl) (law_dp (Nat.le_of_ble_eq_true rfl)) (law_un (Nat.le_of_ble_eq_true rfl)) F4 N4' (fun q hq => (pm5 e3).mem_iff.mpr hq) (nodup_perm nd3' (pm5 e3)) ?_
    rintro v lg' h5 tk5 F5 N5 nd5 kp5 fr5 ⟨i8, e5, hi8, rfl, S5⟩
    obtain ⟨p, tp, rfl, hp9⟩ := hev.at i8 v (by simpa using hi8)
    rw [List.getElem?_map] at hp9
    obtain ⟨p, hp8, rfl⟩ := Option.map_eq_some_iff.mp hp9
    obtain ⟨np, hnp, hnk⟩ := hel p (List.mem_of_getElem? hp8)
    have N5' := News.sub' N5 (l' := (I, oI) :: (le, listOf (List.toArray ev) ce) :: (L + 1, oT) :: (L + 1 + 1, oB) :: (L + 1 + 1 + 1, oS) :: e5 :: tabB w.params τ t b) (fun q hq => (pm5 e5).mem_iff.mp hq)
    have nd5' := nodup_perm nd5 (pm5 e5).symm
    clear kp5 fr5 N4 N4' N5 nd5
    try clear N3
    try clear N3'
    have N5 := N5'
    simp only [tabB, treeHd, List.cons_append, List.nil_append] at N5
    walk_at "m_steps"
    have pm6 : ∀ (t : TreeA) (b : BookA), ((I, oI) :: (le, listOf (List.toArray ev) ce) :: (L + 1, oT) :: (L + 1 + 1, oB) :: (L + 1 + 1 + 1, oS) :: e5 :: tabB w.params τ t b).Perm (stLg w.params t b ++ ((I, oI) :: (le, listOf (List.toArray ev) ce) :: (L + 1, oT) :: (L + 1 + 1, oB) :: (L + 1 + 1 + 1, oS) :: e5 :: tabLg τ)) := fun t b => by
      refine (List.Perm.append_left [(I, oI), (le, listOf (List.toArray ev) ce), (L + 1, oT), (L + 1 + 1, oB), (L + 1 + 1 + 1, oS), e5] (tabB_stLg w.params τ t b)).trans ?_
      generalize stLg w.params t b = X
      generalize tabLg τ = Y
      walk_at "m_perm"
    refine Sp.use (put_sp w t nds b kd p tp kw hkd ⟨np, hnp, .inl hnk⟩ TO BO (by omega)) ((I, oI) :: (le, listOf (List.toArray ev) ce) :: (L + 1, oT) :: (L + 1 + 1, oB) :: (L + 1 + 1 + 1, oS) :: e5 :: tabLg τ) (law_cx (by assumption) (by k_asm) (by assumption) (by assumption) rfl) (law_dp (Nat.le_of_ble_eq_true rfl)) (law_un (Nat.le_of_ble_eq_true rfl)) F5 N5' (fun q hq => (pm6 t b).mem_iff.mpr hq) (nodup_perm nd5' (pm6 t b)) ?_
    rintro v lg' h6 tk6 F6 N6 nd6 kp6 fr6 ⟨t', b', kv, rfl, rfl, hT', hB', TO', BO'⟩
    have N6' := News.sub' N6 (l' := (I, oI) :: (le, listOf (List.toArray ev) ce) :: (L + 1, oT) :: (L + 1 + 1, oB) :: (L + 1 + 1 + 1, oS) :: e5 :: tabB w.params τ t' b') (fun q hq => (pm6 t' b').mem_iff.mp hq)
    have nd6' := nodup_perm nd6 (pm6 t' b').symm
    have hlen' : (nds ++ [(⟨kd, some p⟩ : Nd)]).length = nds.length + 1 := by simp
    have hel' : ∀ x ∈ els, ∃ n, (nds ++ [(⟨kd, some p⟩ : Nd)])[x]? = some n ∧ n.kd = .elem := fun x hx => by
      obtain ⟨n, h1, h2⟩ := hel x hx
      exact ⟨n, by rw [List.getElem?_append_left (List.getElem?_eq_some_iff.mp h1).1]; exact h1, h2⟩
    clear kp6 fr6 N5 N5' N6 nd6
    have N6 := N6'
    simp only [tabB, treeHd, List.cons_append, List.nil_append] at N6
    walk_at "m_steps"
    · have hk : kd = .elem := by
        rename ((Str.ofString (wordOf kd) == _) = true) => h9
        revert h9 hkd; cases kd <;> first | (intro _ _; rfl) | (intro h; exact absurd rfl h) | (intro _ h; exact absurd h (by decide))
      subst hk
      rename Fr _ _ _ _ => F7
      rename News _ _ _ _ => N7
      have pm7 : ∀ o : Obj, ((I, oI) :: (le, o) :: (L + 1, oT) :: (L + 1 + 1, oB) :: (L + 1 + 1 + 1, oS) :: e5 :: tabB w.params τ t' b').Perm ((le, o) :: ((I, oI) :: (L + 1, oT) :: (L + 1 + 1, oB) :: (L + 1 + 1 + 1, oS) :: e5 :: tabB w.params τ t' b')) := fun o => by
        generalize tabB w.params τ t' b' = X
        walk_at "m_perm"
      have N7' := News.sub' N7 (l' := (I, oI) :: (le, listOf (List.toArray ev) ce) :: (L + 1, oT) :: (L + 1 + 1, oB) :: (L + 1 + 1 + 1, oS) :: e5 :: tabB w.params τ t' b') (fun q hq => hq)
      have nd7 := nodup_perm nd6' (pm7 _)
      k_dflt (refine lappend ((I, oI) :: (L + 1, oT) :: (L + 1 + 1, oB) :: (L + 1 + 1 + 1, oS) :: e5 :: tabB w.params τ t' b') F7 N7' (fun q hq => (pm7 _).mem_iff.mpr hq) (ne_front nd6' (pm7 _)) (by rw [sizeLine_eq]; show (List.toArray ev).size ≤ _; rw [List.size_toArray]; omega) ?_)
      intro h8 F8 N8
      walk_at "m_steps"
      rw [List.push_toArray] at N8
      refine Turn.intro F8 (News.sub' N8 (fun q hq => (pm7 _).mem_iff.mp hq)) (nodup_perm (a := (le, listOf (ev ++ [Value.int (nds.length : Int) kv]).toArray (ce + 1)) :: _) nd7 (pm7 _).symm) ⟨fun y hy => (if_neg (hy _ (.tail _ (.tail _ (.head _))))).trans ((if_neg (hy _ (.tail _ (.head _)))).trans ((if_neg (hy _ (.head _))).trans (ov_off fun p hp => by
        obtain ⟨k, hk, rfl⟩ := List.mem_map.mp hp
        exact hy k hk))), e5, t', b', nds ++ [⟨.elem, some p⟩], ev ++ [Value.int (nds.length : Int) kv], els ++ [nds.length], ce + 1, S5, hT', hB', TO', BO', by rw [hlen']; omega, ?_, ?_, ?_, ?_, rfl⟩
      · simp only [nints, List.map_append, List.map_cons, List.map_nil]
        exact hev.append (.cons _ _ .nil)
      · intro x hx
        rcases List.mem_append.mp hx with hx | hx
        · exact hel' x hx
        · rw [List.mem_singleton.mp hx]
          exact ⟨⟨.elem, some p⟩, by simp, rfl⟩
      · rw [List.length_append]; omega
      · rw [List.length_append, List.length_singleton]; omega
    · rename Fr _ _ _ _ => F7
      rename News _ _ _ _ => N7
      exact Turn.intro F7 (News.sub' N7 (fun q hq => hq)) nd6' ⟨fun y hy => (if_neg (hy _ (.tail _ (.tail _ (.head _))))).trans ((if_neg (hy _ (.tail _ (.head _)))).trans ((if_neg (hy _ (.head _))).trans (ov_off fun p hp => by
        obtain ⟨k, hk, rfl⟩ := List.mem_map.mp hp
        exact hy k hk))), e5, t', b', nds ++ [⟨kd, some p⟩], ev, els, ce, S5, hT', hB', TO', BO', by rw [hlen']; omega, hev, hel', he0, by omega, rfl⟩
  · rintro m₁ news₁ h tk ⟨hm, e, t, b, nds, ev, els, ce, S, hT, hB, TO, BO, hs, hev, hel, he0, he1, rfl⟩ F1 N1 nd1
    have em := fr_ov [Str.ofString "elements"] F1
    simp only [List.map_cons, List.map_nil, hm (Str.ofString "elements") (by decide)] at em
    exact K t b nds TO BO (by omega) e S (by rw [hT]; exact dT) (by rw [hB]; exact dB) ev els ce hev (fun x hx => by obtain ⟨n, h1, _⟩ := hel x hx; exact (List.getElem?_eq_some_iff.mp h1).1) he0 (by omega) _ h tk em N1 nd1
section
variable {w : World} {A : Around} {E : Value → Shared → Prop} {s : Shared} {h₀ : Heap} {L : Addr} {m : Str → Option Value} {all : List (Addr × Obj)}
theorem book_add {b : BookA} {nds : List Nd} {n : Nd} {pv sv : Value} {D : Addr} {o' : Obj} (B : BookOk w b nds) (hpv : ParV n.par pv) (hsv : ∃ k, sv = .int n.kd.sort k) (hd : o'.IsDictOf (intKind PySem.Challenge.rw_xw0206_01.row.prog w) (PySem.stored b.kvs (nds.length : Int) (.ref D))) :
    BookOk w { B := b.B, o := o', ts := b.ts ++ [⟨D, pv, sv⟩] } (nds ++ [n]) := by
  have hbl := B.len
  have e3 : ({ B := b.B, o := o', ts := b.ts ++ [⟨D, pv, sv⟩] } : BookA).kvs = PySem.stored b.kvs (nds.length : Int) (.ref D) := by
    rw [← hbl, BookA.stored]
    exact BookA.kvs_add b _
  refine ⟨B.lo, by simp [hbl], e3 ▸ hd, fun i x n' hx hn' => ?_⟩
  by_cases hi : i = nds.length
  · subst hi
    have e1 : (b.ts ++ [(⟨D, pv, sv⟩ : TupA)])[nds.length]? = some ⟨D, pv, sv⟩ := by simp [← hbl]
    have e2 : (nds ++ [n])[nds.length]? = some n := by simp
    have hx' : (b.ts ++ [(⟨D, pv, sv⟩ : TupA)])[nds.length]? = some x := hx
    rw [e1] at hx'; rw [e2] at hn'
    cases hx'; cases hn'
    exact ⟨hpv, hsv⟩
  · have hil : i < nds.length := by
      have := (List.getElem?_eq_some_iff.mp hn').1
      simp at this; omega
    rw [List.getElem?_append_left hil] at hn'
    have hx' : (b.ts ++ [(⟨D, pv, sv⟩ : TupA)])[i]? = some x := hx
    rw [List.getElem?_append_left (by omega)] at hx'
    exact B.tup i x n' hx' hn'
end
section
variable {w : World} {A : Around} {E : Value → Shared → Prop} {s : Shared} {h₀ : Heap} {L : Addr} {m : Str → Option Value} {all : List (Addr × Obj)}
theorem store_book {τ : TabA} {t : TreeA} {b : BookA} {nds : List Nd} {pv sv : Value} {D : Addr} {kt : Tok} {Q : Unit → Shared → Prop} (pre : List (Addr × Obj)) {aB : Addr} (hBa : b.B = aB) (B : BookOk w b nds) (n : Nd) (hpv : ParV n.par pv) (hsv : ∃ k, sv = .int n.kd.sort k) (hs : nds.length < 800)
    (F : Fr h₀ L s.heap m) (N : News h₀ L s.heap ((D, tupObj [pv, sv]) :: (pre ++ tabB w.params τ t b))) (nd : (adrs ((D, tupObj [pv, sv]) :: (pre ++ tabB w.params τ t b))).Nodup)
    (h : ∀ h' b', Fr h₀ L h' m → News h₀ L h' (pre ++ tabB w.params τ t b') → (adrs (pre ++ tabB w.params τ t b')).Nodup → b'.B = b.B → BookOk w b' (nds ++ [n]) → Q () { s with heap := h', toks := s.toks + 1 }) :
    wpAny (model PySem.Challenge.rw_xw0206_01.row.prog w) A (setItem (.ref aB) (.int (nds.length : Int) kt) (.ref D)) Q E s := by
  subst hBa
  have hbl := B.len
  have pm : ∀ o : Obj, ((D, tupObj [pv, sv]) :: (pre ++ tabB w.params τ t { b with o := o })).Perm ((b.B, o) :: ((D, tupObj [pv, sv]) :: (pre ++ (30, tabObj τ.ps) :: (treeHd w.params t ++ (τ.own ++ (b.ts.map tupLg ++ t.rows.flatMap (rowLg w.params))))))) := fun o => by
    unfold tabB
    generalize treeHd w.params t = X
    generalize t.rows.flatMap (rowLg w.params) = Y
    generalize b.ts.map tupLg = Z
    walk_at "m_perm"
  refine dset (knd := intKind _ w) (k := (nds.length : Int)) (kvs := b.kvs) ((D, tupObj [pv, sv]) :: (pre ++ (30, tabObj τ.ps) :: (treeHd w.params t ++ (τ.own ++ (b.ts.map tupLg ++ t.rows.flatMap (rowLg w.params)))))) (by simp [intKind, Value.isInt]) F N (fun q hq => (pm b.o).mem_iff.mpr hq) (ne_front nd (pm b.o)) B.dict (by rw [BookA.kvs_len, hbl, sizeLine_eq]; omega) ?_
  intro h' o' F' N' hd'
  have pm2 : ((b.B, o') :: ((D, tupObj [pv, sv]) :: (pre ++ (30, tabObj τ.ps) :: (treeHd w.params t ++ (τ.own ++ (b.ts.map tupLg ++ t.rows.flatMap (rowLg w.params))))))).Perm (pre ++ tabB w.params τ t { B := b.B, o := o', ts := b.ts ++ [⟨D, pv, sv⟩] }) := by
    simp only [tabB, List.map_append, List.map_cons, List.map_nil]
    show List.Perm _ (pre ++ (30, tabObj τ.ps) :: (b.B, o') :: (treeHd w.params t ++ (τ.own ++ ((b.ts.map tupLg ++ [(D, tupObj [pv, sv])]) ++ t.rows.flatMap (rowLg w.params)))))
    generalize treeHd w.params t = X
    generalize t.rows.flatMap (rowLg w.params) = Y
    generalize b.ts.map tupLg = Z
    walk_at "m_perm"
  have nd1 := nodup_perm nd (pm b.o)
  exact h h' _ F' (News.sub' N' fun q hq => pm2.mem_iff.mpr hq) (nodup_perm (a := (b.B, o') :: _) nd1 pm2) rfl (book_add B hpv hsv hd')
end
noncomputable abbrev base1 (L : Addr) (oT oB oS : Obj) (e : Addr × Obj) : List (Addr × Obj) := [(L + 1, oT), (L + 1 + 1, oB), (L + 1 + 1 + 1, oS), e]
noncomputable def Grow1 (w : World) (τ : TabA) (aS aT aB le L : Addr) (oT oB oS : Obj) (i : Nat) (news : List (Addr × Obj)) : Prop :=
  ∃ (e : Addr × Obj) (t : TreeA) (b : BookA) (nds : List Nd) (ev : List Value) (els : List Nat) (ce : Nat), Src aS e ∧ t.T = aT ∧ b.B = aB ∧ TreeOk t nds ∧ BookOk w b nds ∧ nds.length ≤ 2 * i ∧ IntsAre ev (nints els) ∧ (∀ x ∈ els, ∃ n, nds[x]? = some n ∧ n.kd = .elem) ∧ els.length = i ∧
    news = (le, listOf ev.toArray ce) :: (L + 1, oT) :: (L + 1 + 1, oB) :: (L + 1 + 1 + 1, oS) :: e :: tabB w.params τ t b
theorem tabB_tree (P : Params) (τ : TabA) (t : TreeA) (b : BookA) : (tabB P τ t b).Perm (treeLg P t ++ (tabLg τ ++ bookLg b)) := by
  unfold tabB treeLg bookLg tabLg
  generalize treeHd P t = X
  generalize t.rows.flatMap (rowLg P) = Y
  generalize b.ts.map tupLg = Z
  walk_at "m_perm"
set_option maxHeartbeats 8000000 in
theorem law_for1 (w : World) (g : Heap) (L fa : Addr) (cd : Value) {loose : List Str} {mean : ExcName → Option Value} {mg mb : Str → Option Value} (B' : Below callerA g [] g) (X' : (Mine.hda.heap_1 w.params).In g) (T' : Top topProg loose mean mg mb g)
    (τ : TabA) (hτ : TabOk lamPos lamQual τ) (aS aT aB : Addr) (oT oB oS : Obj) (dT : oT.data = .cell (some (.ref aT))) (dB : oB.data = .cell (some (.ref aB))) (dS : oS.data = .cell (some (.ref aS)))
    (t : TreeA) (b : BookA) (TO : TreeOk t []) (BO : BookOk w b []) (hT : t.T = aT) (hB : b.B = aB) (e : Addr × Obj) (S : Src aS e) (le : Addr)
    (s : Shared) (h : Heap) (tk : Nat) (m : Str → Option Value) (F : Fr g L h (ov [(Str.ofString "elements", some (.ref le))] m))
    (N : News g L h ((le, listOf #[] 0) :: (L + 1, oT) :: (L + 1 + 1, oB) :: (L + 1 + 1 + 1, oS) :: e :: tabB w.params τ t b))
    (nd : (adrs ((le, listOf #[] 0) :: (L + 1, oT) :: (L + 1 + 1, oB) :: (L + 1 + 1 + 1, oS) :: e :: tabB w.params τ t b)).Nodup) :
    wpAny (model PySem.Challenge.rw_xw0206_01.row.prog w) (callerA.deeper (lawEnv L fa cd)) (execs (lawRec.body.drop 8) (lawEnv L fa cd)) (LawEnd g s) (fun _ _ => False) { s with heap := h, toks := tk } := by
  have K := fun (t : TreeA) (b : BookA) (nds : List Nd) TO BO hT hB hs (e : Addr × Obj) (S : Src aS e) (ev : List Value) (els : List Nat) (ce : Nat) hev hel he0 he1 (m : Str → Option Value) h tk F N nd => law_for2 w g L fa cd B' X' T' τ hτ aS aT aB oT oB oS dT dB dS t b nds TO BO hT hB hs e S le ev els ce hev hel he0 he1 s h tk m F N nd
  dsimp only [lawEnv, lawRec, recOf, List.drop] at K ⊢
  walk_at "m_fill"
  have pm : ∀ e : Addr × Obj, ((le, listOf #[] 0) :: (L + 1, oT) :: (L + 1 + 1, oB) :: (L + 1 + 1 + 1, oS) :: e :: tabB w.params τ t b).Perm ([e] ++ ((le, listOf #[] 0) :: (L + 1, oT) :: (L + 1 + 1, oB) :: (L + 1 + 1 + 1, oS) :: tabB w.params τ t b)) := fun e => by
    generalize tabB w.params τ t b = X
    walk_at "m_perm"
  have N0 := N
  simp only [tabB, treeHd, List.cons_append, List.nil_append] at N
  walk_at "m_steps"
  with_unfolding_all refine' For_invVF F ?k1 ?k2 ?_
  (case k1 => exact rfl)
  (case k2 => exact rfl)
  walk_at "m_steps"
  refine Sp.use (take_go w S _ _ (by omega) (by omega)) ((le, listOf #[] 0) :: (L + 1, oT) :: (L + 1 + 1, oB) :: (L + 1 + 1 + 1, oS) :: tabB w.params τ t b) (law_cx (by assumption) (by k_asm) (by assumption) (by assumption) rfl) (law_dp (Nat.le_of_ble_eq_true rfl)) (law_un (Nat.le_of_ble_eq_true rfl)) (by k_asm) N0 (fun q hq => (pm e).mem_iff.mpr hq) (nodup_perm nd (pm e)) ?_
  rintro v lg' h2 tk2 F2 N2 nd2 kp2 fr2 ⟨r, tr, e', rfl, hr0, hr1, rfl, S'⟩
  clear N N0 kp2 fr2
  obtain ⟨k, rfl⟩ : ∃ k : Nat, r = (k : Int) := ⟨r.toNat, by omega⟩
  have hk3 : k < 3 := by omega
  have N3 := News.sub' N2 (l' := (le, listOf #[] 0) :: (L + 1, oT) :: (L + 1 + 1, oB) :: (L + 1 + 1 + 1, oS) :: e' :: tabB w.params τ t b) (fun q hq => (pm e').mem_iff.mp hq)
  have nd3 := nodup_perm nd2 (pm e').symm
  simp only [tabB, treeHd, List.cons_append, List.nil_append] at N2
  walk_at "m_steps"
  k_dflt (refine range1_rows F2 N3 ?_)
  intro hR tkR t1 u1 v1 iR FR NR kR
  walk_at "m_steps"
  refine for_rangeM (n := 1 + k) (a₀ := 0) (b₀ := 1 + (k : Int)) (fun m₀ i m₁ news₁ => (∀ y, (∀ k ∈ [Str.ofString "turn", Str.ofString "node"], y ≠ k) → m₁ y = m₀ y) ∧ Grow1 w τ aS aT aB le L oT oB oS i news₁) rfl iR (rsmallC 1 k (by omega)) (rsizeC 1 k) FR NR nd3 ⟨fun _ _ => rfl, e', t, b, [], [], [], 0, S', hT, hB, TO, BO, Nat.le_refl _, .nil, nofun, rfl, rfl⟩ ?_ ?_
  · clear K N3 NR FR iR nd3 nd2 nd S S' TO BO hT hB pm
    try clear N2
    clear kR hr0 hr1 F2 F
    clear e e' t b
    rintro i kk tk9 m₁ news₁ h tk I oI hi ⟨hm, e, t, b, nds, ev, els, ce, S, hT, hB, TO, BO, hs, hev, hel, he1, rfl⟩ F1 N1 nd1
    subst hT hB he1
    have e4 := ov_of [Str.ofString "turn", Str.ofString "node"] hm
    rw [e4] at F1
    have N0 := N1
    have nd1' : (adrs ((I, oI) :: (le, listOf (List.toArray ev) ce) :: (L + 1, oT) :: (L + 1 + 1, oB) :: (L + 1 + 1 + 1, oS) :: e :: tabB w.params τ t b)).Nodup := nd1
    simp only [tabB, treeHd, List.cons_append, List.nil_append] at N1
    walk_at "m_steps"
    have hvl : ev.length = els.length := by have h := hev.length; simpa [nints] using h
    have pm3 : ∀ (e : Addr × Obj) (t : TreeA) (b : BookA), ((I, oI) :: (le, listOf (List.toArray ev) ce) :: (L + 1, oT) :: (L + 1 + 1, oB) :: (L + 1 + 1 + 1, oS) :: e :: tabB w.params τ t b).Perm (treeLg w.params t ++ ((I, oI) :: (le, listOf (List.toArray ev) ce) :: (L + 1, oT) :: (L + 1 + 1, oB) :: (L + 1 + 1 + 1, oS) :: e :: (tabLg τ ++ bookLg b))) := fun e t b => by
      refine (List.Perm.append_left [(I, oI), (le, listOf (List.toArray ev) ce), (L + 1, oT), (L + 1 + 1, oB), (L + 1 + 1 + 1, oS), e] (tabB_tree w.params τ t b)).trans ?_
      generalize treeLg w.params t = X
      generalize tabLg τ = Y
      generalize bookLg b = Z
      walk_at "m_perm"
    have pm4 : ∀ (e : Addr × Obj) (t : TreeA) (b : BookA), ((I, oI) :: (le, listOf (List.toArray ev) ce) :: (L + 1, oT) :: (L + 1 + 1, oB) :: (L + 1 + 1 + 1, oS) :: e :: tabB w.params τ t b).Perm ([e] ++ ((I, oI) :: (le, listOf (List.toArray ev) ce) :: (L + 1, oT) :: (L + 1 + 1, oB) :: (L + 1 + 1 + 1, oS) :: tabB w.params τ t b)) := fun e t b => by
      generalize tabB w.params τ t b = X
      walk_at "m_perm"
    refine Sp.use (new_root_sp w t nds TO (by omega)) ((I, oI) :: (le, listOf (List.toArray ev) ce) :: (L + 1, oT) :: (L + 1 + 1, oB) :: (L + 1 + 1 + 1, oS) :: e :: (tabLg τ ++ bookLg b)) (law_cx (by assumption) (by k_asm) (by assumption) (by assumption) rfl) (law_dp (Nat.le_of_ble_eq_true rfl)) (law_un (Nat.le_of_ble_eq_true rfl)) (by k_asm) N0 (fun q hq => (pm3 e t b).mem_iff.mpr hq) (nodup_perm nd1' (pm3 e t b)) ?_
    rintro v lg' h3 tk3 F3 N3 nd3 kp3 fr3 ⟨t3, k3, rfl, rfl, hT3, TO3⟩
    have N3' := News.sub' N3 (l' := (I, oI) :: (le, listOf (List.toArray ev) ce) :: (L + 1, oT) :: (L + 1 + 1, oB) :: (L + 1 + 1 + 1, oS) :: e :: tabB w.params τ t3 b) (fun q hq => (pm3 e t3 b).mem_iff.mp hq)
    have nd3' := nodup_perm nd3 (pm3 e t3 b).symm
    clear kp3 fr3 N3 nd3 nd1 nd1'
    try clear N0
    try clear N1
    have N3 := N3'
    simp only [tabB, treeHd, List.cons_append, List.nil_append] at N3
    walk_at "m_steps"
    rename Fr _ _ _ _ => F4
    rename News _ _ _ _ => N4
    have N4' := News.sub' N4 (l' := (I, oI) :: (le, listOf (List.toArray ev) ce) :: (L + 1, oT) :: (L + 1 + 1, oB) :: (L + 1 + 1 + 1, oS) :: e :: tabB w.params τ t3 b) (fun q hq => hq)
    refine Sp.use (take_go w S _ _ (by omega) (by omega)) ((I, oI) :: (le, listOf (List.toArray ev) ce) :: (L + 1, oT) :: (L + 1 + 1, oB) :: (L + 1 + 1 + 1, oS) :: tabB w.params τ t3 b) (law_cx (by assumption) (by k_asm) (by assumption) (by assumption) rfl) (law_dp (Nat.le_of_ble_eq_true rfl)) (law_un (Nat.le_of_ble_eq_true rfl)) F4 N4' (fun q hq => (pm4 e t3 b).mem_iff.mpr hq) (nodup_perm nd3' (pm4 e t3 b)) ?_
    rintro v lg' h5 tk5 F5 N5 nd5 kp5 fr5 ⟨r, tr, e5, rfl, hr0, hr1, rfl, S5⟩
    have N5' := News.sub' N5 (l' := (I, oI) :: (le, listOf (List.toArray ev) ce) :: (L + 1, oT) :: (L + 1 + 1, oB) :: (L + 1 + 1 + 1, oS) :: e5 :: tabB w.params τ t3 b) (fun q hq => (pm4 e5 t3 b).mem_iff.mp hq)
    have nd5' := nodup_perm nd5 (pm4 e5 t3 b).symm
    clear kp5 fr5 N5 nd5 nd3' N4 N4'
    try clear N3
    try clear N3'
    have N5 := N5'
    simp only [tabB, treeHd, List.cons_append, List.nil_append] at N5
    have hs5 : (nds ++ [(⟨.root, none⟩ : Nd)]).length = nds.length + 1 := by simp
    walk_at "m_steps"
    · have a6 : ∀ {D : Addr} {o : Obj}, (∀ q ∈ (I, oI) :: (le, listOf (List.toArray ev) ce) :: (L + 1, oT) :: (L + 1 + 1, oB) :: (L + 1 + 1 + 1, oS) :: e5 :: tabB w.params τ t3 b, q.1 < D) → (adrs ((D, o) :: ([(I, oI), (le, listOf (List.toArray ev) ce), (L + 1, oT), (L + 1 + 1, oB), (L + 1 + 1 + 1, oS), e5] ++ tabB w.params τ t3 b))).Nodup := fun hlt => List.nodup_cons.mpr ⟨fun hm => by
        obtain ⟨q, hq, e⟩ := List.mem_map.mp hm
        exact Nat.ne_of_lt (hlt q hq) e, nd5'⟩
      rename_i hr tk6 D6 h6 F6 N6 lt6
      k_dflt (refine store_book [(I, oI), (le, listOf (List.toArray ev) ce), (L + 1, oT), (L + 1 + 1, oB), (L + 1 + 1 + 1, oS), e5] rfl BO ⟨.root, none⟩ rfl ⟨_, rfl⟩ (by omega) F6 (News.sub' N6 fun q hq => hq) (a6 fun q hq => by
        simp only [tabB, treeHd, List.cons_append, List.nil_append] at hq
        exact (fun (l : List (Addr × Obj)) (hl : q ∈ l) (h : AllLt D6 l) => ktn_ltOf h q hl) _ hq lt6) ?_)
      intro h7 b7 F7 N7 nd7 hB7 BO7
      clear N6 lt6 a6
      try clear N5
      try clear N5'
      have N7' := N7
      simp only [tabB, treeHd, List.cons_append, List.nil_append, hT3, hB7] at N7
      walk_at "m_steps"
      have hadd := add_element_sp w t3 (nds ++ [⟨.root, none⟩]) none .none (Str.ofString "e") (Str.ofString "") (Str.ofString "e")
      rw [hT3] at hadd
      refine Sp.use (hadd _ _ _ rfl nofun TO3 (by omega)) ((I, oI) :: (le, listOf (List.toArray ev) ce) :: (L + 1, oT) :: (L + 1 + 1, oB) :: (L + 1 + 1 + 1, oS) :: e5 :: (tabLg τ ++ bookLg b7)) (law_cx (by assumption) (by k_asm) (by assumption) (by assumption) rfl) (law_dp (Nat.le_of_ble_eq_true rfl)) (law_un (Nat.le_of_ble_eq_true rfl)) (by k_asm) N7' (fun q hq => (pm3 e5 t3 b7).mem_iff.mpr hq) (nodup_perm nd7 (pm3 e5 t3 b7)) ?_
      rintro v lg' h8 tk8 F8 N8 nd8 kp8 fr8 ⟨t8, k8, rfl, rfl, hT8, TO8⟩
      have hT9 : t8.T = t.T := hT8.trans hT3
      have N8' := News.sub' N8 (l' := (I, oI) :: (le, listOf (List.toArray ev) ce) :: (L + 1, oT) :: (L + 1 + 1, oB) :: (L + 1 + 1 + 1, oS) :: e5 :: tabB w.params τ t8 b7) (fun q hq => (pm3 e5 t8 b7).mem_iff.mp hq)
      have nd8' := nodup_perm nd8 (pm3 e5 t8 b7).symm
      clear kp8 fr8 N8 nd8 nd7 N7' F7
      try clear N7
      have N8 := N8'
      simp only [tabB, treeHd, List.cons_append, List.nil_append, hT9, hB7] at N8
      walk_at "m_steps"
      have a6 : ∀ {D : Addr} {o : Obj}, (∀ q ∈ (I, oI) :: (le, listOf (List.toArray ev) ce) :: (L + 1, oT) :: (L + 1 + 1, oB) :: (L + 1 + 1 + 1, oS) :: e5 :: tabB w.params τ t8 b7, q.1 < D) → (adrs ((D, o) :: ([(I, oI), (le, listOf (List.toArray ev) ce), (L + 1, oT), (L + 1 + 1, oB), (L + 1 + 1 + 1, oS), e5] ++ tabB w.params τ t8 b7))).Nodup := fun hlt => List.nodup_cons.mpr ⟨fun hm => by
        obtain ⟨q, hq, e⟩ := List.mem_map.mp hm
        exact Nat.ne_of_lt (hlt q hq) e, nd8'⟩
      rename_i D9 h9 F9 N9 lt9
      have N9' := News.sub' N9 (l' := (D9, tupObj [Value.none, Value.int 2 _]) :: ([(I, oI), (le, listOf (List.toArray ev) ce), (L + 1, oT), (L + 1 + 1, oB), (L + 1 + 1 + 1, oS), e5] ++ tabB w.params τ t8 b7)) (fun q hq => by
        simp only [tabB, treeHd, List.cons_append, List.nil_append, hT9, hB7] at hq ⊢
        exact hq)
      k_dflt (refine store_book [(I, oI), (le, listOf (List.toArray ev) ce), (L + 1, oT), (L + 1 + 1, oB), (L + 1 + 1 + 1, oS), e5] hB7 BO7 ⟨.elem, none⟩ rfl ⟨_, rfl⟩ (by omega) F9 N9' (a6 fun q hq => by
        simp only [tabB, treeHd, List.cons_append, List.nil_append, hT9, hB7] at hq
        exact (fun (l : List (Addr × Obj)) (hl : q ∈ l) (h : AllLt D9 l) => ktn_ltOf h q hl) _ hq lt9) ?_)
      intro hA bA FA NA ndA hBA BOA
      clear N9 N9' lt9 a6
      try clear N8
      try clear N8'
      have hBA' : bA.B = b.B := hBA.trans hB7
      have N9 := NA
      simp only [tabB, treeHd, List.cons_append, List.nil_append, hT9, hBA'] at N9
      walk_at "m_steps"
      rename Fr _ _ _ _ => F9
      rename News _ _ _ _ => N9
      have pm7 : ∀ o : Obj, ((I, oI) :: (le, o) :: (L + 1, oT) :: (L + 1 + 1, oB) :: (L + 1 + 1 + 1, oS) :: e5 :: tabB w.params τ t8 bA).Perm ((le, o) :: ((I, oI) :: (L + 1, oT) :: (L + 1 + 1, oB) :: (L + 1 + 1 + 1, oS) :: e5 :: tabB w.params τ t8 bA)) := fun o => by
        generalize tabB w.params τ t8 bA = X
        walk_at "m_perm"
      have nd7 := nodup_perm ndA (pm7 _)
      k_dflt (refine lappend ((I, oI) :: (L + 1, oT) :: (L + 1 + 1, oB) :: (L + 1 + 1 + 1, oS) :: e5 :: tabB w.params τ t8 bA) F9 NA (fun q hq => (pm7 _).mem_iff.mpr hq) (ne_front ndA (pm7 _)) (by rw [sizeLine_eq]; show (List.toArray ev).size ≤ _; rw [List.size_toArray]; omega) ?_)
      intro hB2 FB2 NB2
      walk_at "m_steps"
      rw [List.push_toArray] at NB2
      refine Turn.intro FB2 (News.sub' NB2 (fun q hq => (pm7 _).mem_iff.mp hq)) (nodup_perm (a := (le, listOf (ev ++ [Value.int ((nds ++ [(⟨.root, none⟩ : Nd)]).length : Int) k8]).toArray (ce + 1)) :: _) nd7 (pm7 _).symm) ⟨fun y hy => (if_neg (hy _ (.tail _ (.head _)))).trans ((if_neg (hy _ (.tail _ (.head _)))).trans ((if_neg (hy _ (.head _))).trans (ov_off fun p hp => by
        obtain ⟨k, hk, rfl⟩ := List.mem_map.mp hp
        exact hy k hk))), e5, t8, bA, nds ++ [⟨.root, none⟩] ++ [⟨.elem, none⟩], ev ++ [Value.int ((nds ++ [(⟨.root, none⟩ : Nd)]).length : Int) k8], els ++ [(nds ++ [(⟨.root, none⟩ : Nd)]).length], ce + 1, S5, hT9, hBA', TO8, BOA, by simp; omega, ?_, ?_, ?_, rfl⟩
      · simp only [nints, List.map_append, List.map_cons, List.map_nil]
        exact hev.append (.cons _ _ .nil)
      · intro x hx
        rcases List.mem_append.mp hx with hx | hx
        · obtain ⟨n, h1, h2⟩ := hel x hx
          refine ⟨n, ?_, h2⟩
          rw [List.getElem?_append_left (by have := (List.getElem?_eq_some_iff.mp h1).1; simp; omega), List.getElem?_append_left (List.getElem?_eq_some_iff.mp h1).1]
          exact h1
        · rw [List.mem_singleton.mp hx]
          exact ⟨⟨.elem, none⟩, by simp, rfl⟩
      · rw [List.length_append, List.length_singleton]
    · have a6 : ∀ {D : Addr} {o : Obj}, (∀ q ∈ (I, oI) :: (le, listOf (List.toArray ev) ce) :: (L + 1, oT) :: (L + 1 + 1, oB) :: (L + 1 + 1 + 1, oS) :: e5 :: tabB w.params τ t3 b, q.1 < D) → (adrs ((D, o) :: ([(I, oI), (le, listOf (List.toArray ev) ce), (L + 1, oT), (L + 1 + 1, oB), (L + 1 + 1 + 1, oS), e5] ++ tabB w.params τ t3 b))).Nodup := fun hlt => List.nodup_cons.mpr ⟨fun hm => by
        obtain ⟨q, hq, e⟩ := List.mem_map.mp hm
        exact Nat.ne_of_lt (hlt q hq) e, nd5'⟩
      rename_i hr tk6 D6 h6 F6 N6 lt6
      k_dflt (refine store_book [(I, oI), (le, listOf (List.toArray ev) ce), (L + 1, oT), (L + 1 + 1, oB), (L + 1 + 1 + 1, oS), e5] rfl BO ⟨.root, none⟩ rfl ⟨_, rfl⟩ (by omega) F6 (News.sub' N6 fun q hq => hq) (a6 fun q hq => by
        simp only [tabB, treeHd, List.cons_append, List.nil_append] at hq
        exact (fun (l : List (Addr × Obj)) (hl : q ∈ l) (h : AllLt D6 l) => ktn_ltOf h q hl) _ hq lt6) ?_)
      intro h7 b7 F7 N7 nd7 hB7 BO7
      clear N6 lt6 a6
      try clear N5
      try clear N5'
      have N7' := N7
      simp only [tabB, treeHd, List.cons_append, List.nil_append, hT3, hB7] at N7
      walk_at "m_steps"
      rename Fr _ _ _ _ => F8
      have pm6 : ∀ (t : TreeA) (b : BookA), ((I, oI) :: (le, listOf (List.toArray ev) ce) :: (L + 1, oT) :: (L + 1 + 1, oB) :: (L + 1 + 1 + 1, oS) :: e5 :: tabB w.params τ t b).Perm (stLg w.params t b ++ ((I, oI) :: (le, listOf (List.toArray ev) ce) :: (L + 1, oT) :: (L + 1 + 1, oB) :: (L + 1 + 1 + 1, oS) :: e5 :: tabLg τ)) := fun t b => by
        refine (List.Perm.append_left [(I, oI), (le, listOf (List.toArray ev) ce), (L + 1, oT), (L + 1 + 1, oB), (L + 1 + 1 + 1, oS), e5] (tabB_stLg w.params τ t b)).trans ?_
        generalize stLg w.params t b = X
        generalize tabLg τ = Y
        walk_at "m_perm"
      have hput := fun pt kw => put_sp w t3 (nds ++ [⟨.root, none⟩]) b7 .elem nds.length pt kw nofun ⟨⟨.root, none⟩, by simp, .inr ⟨rfl, rfl⟩⟩ TO3 BO7 (by omega)
      rw [hT3, hB7] at hput
      refine Sp.use (hput _ _) ((I, oI) :: (le, listOf (List.toArray ev) ce) :: (L + 1, oT) :: (L + 1 + 1, oB) :: (L + 1 + 1 + 1, oS) :: e5 :: tabLg τ) (law_cx (by assumption) (by k_asm) (by assumption) (by assumption) rfl) (law_dp (Nat.le_of_ble_eq_true rfl)) (law_un (Nat.le_of_ble_eq_true rfl)) F8 N7' (fun q hq => (pm6 t3 b7).mem_iff.mpr hq) (nodup_perm nd7 (pm6 t3 b7)) ?_
      rintro v lg' hA tkA FA NA0 ndA0 kpA frA ⟨tA, bA, kA, rfl, rfl, hTA, hBA, TOA, BOA⟩
      have NA := News.sub' NA0 (l' := (I, oI) :: (le, listOf (List.toArray ev) ce) :: (L + 1, oT) :: (L + 1 + 1, oB) :: (L + 1 + 1 + 1, oS) :: e5 :: tabB w.params τ tA bA) (fun q hq => (pm6 tA bA).mem_iff.mp hq)
      have ndA := nodup_perm ndA0 (pm6 tA bA).symm
      clear kpA frA NA0 ndA0 N7' nd7 hput
      try clear N7
      have N9 := NA
      simp only [tabB, treeHd, List.cons_append, List.nil_append, hTA, hBA] at N9
      walk_at "m_steps"
      rename Fr _ _ _ _ => F9
      rename News _ _ _ _ => N9
      have NA := News.sub' N9 (l' := (I, oI) :: (le, listOf (List.toArray ev) ce) :: (L + 1, oT) :: (L + 1 + 1, oB) :: (L + 1 + 1 + 1, oS) :: e5 :: tabB w.params τ tA bA) (fun q hq => by
        first
        | exact hq
        | (simp only [tabB, treeHd, List.cons_append, List.nil_append, hTA, hBA] at hq; exact hq)
        | (simp only [tabB, treeHd, List.cons_append, List.nil_append, hTA, hBA] at hq ⊢; exact hq))
      have pm7 : ∀ o : Obj, ((I, oI) :: (le, o) :: (L + 1, oT) :: (L + 1 + 1, oB) :: (L + 1 + 1 + 1, oS) :: e5 :: tabB w.params τ tA bA).Perm ((le, o) :: ((I, oI) :: (L + 1, oT) :: (L + 1 + 1, oB) :: (L + 1 + 1 + 1, oS) :: e5 :: tabB w.params τ tA bA)) := fun o => by
        generalize tabB w.params τ tA bA = X
        walk_at "m_perm"
      have nd7 := nodup_perm ndA (pm7 _)
      k_dflt (refine lappend ((I, oI) :: (L + 1, oT) :: (L + 1 + 1, oB) :: (L + 1 + 1 + 1, oS) :: e5 :: tabB w.params τ tA bA) F9 NA (fun q hq => (pm7 _).mem_iff.mpr hq) (ne_front ndA (pm7 _)) (by rw [sizeLine_eq]; show (List.toArray ev).size ≤ _; rw [List.size_toArray]; omega) ?_)
      intro hB2 FB2 NB2
      walk_at "m_steps"
      rw [List.push_toArray] at NB2
      refine Turn.intro FB2 (News.sub' NB2 (fun q hq => (pm7 _).mem_iff.mp hq)) (nodup_perm (a := (le, listOf (ev ++ [Value.int ((nds ++ [(⟨.root, none⟩ : Nd)]).length : Int) kA]).toArray (ce + 1)) :: _) nd7 (pm7 _).symm) ⟨fun y hy => (if_neg (hy _ (.tail _ (.head _)))).trans ((if_neg (hy _ (.tail _ (.head _)))).trans ((if_neg (hy _ (.head _))).trans (ov_off fun p hp => by
        obtain ⟨k, hk, rfl⟩ := List.mem_map.mp hp
        exact hy k hk))), e5, tA, bA, nds ++ [⟨.root, none⟩] ++ [⟨.elem, some nds.length⟩], ev ++ [Value.int ((nds ++ [(⟨.root, none⟩ : Nd)]).length : Int) kA], els ++ [(nds ++ [(⟨.root, none⟩ : Nd)]).length], ce + 1, S5, hTA, hBA, TOA, BOA, by simp; omega, ?_, ?_, ?_, rfl⟩
      · simp only [nints, List.map_append, List.map_cons, List.map_nil]
        exact hev.append (.cons _ _ .nil)
      · intro x hx
        rcases List.mem_append.mp hx with hx | hx
        · obtain ⟨n, h1, h2⟩ := hel x hx
          refine ⟨n, ?_, h2⟩
          rw [List.getElem?_append_left (by have := (List.getElem?_eq_some_iff.mp h1).1; simp; omega), List.getElem?_append_left (List.getElem?_eq_some_iff.mp h1).1]
          exact h1
        · rw [List.mem_singleton.mp hx]
          exact ⟨⟨.elem, some nds.length⟩, by simp, rfl⟩
      · rw [List.length_append, List.length_singleton]
  · rintro m₁ news₁ h tk ⟨hm, e, t, b, nds, ev, els, ce, S, hT, hB, TO, BO, hs, hev, hel, he1, rfl⟩ F1 N1 nd1
    have em := fr_ov [Str.ofString "elements"] F1
    simp only [List.map_cons, List.map_nil, hm (Str.ofString "elements") (by decide)] at em
    exact K t b nds TO BO hT hB (by omega) e S ev els ce hev hel (by omega) (by omega) _ h tk em N1 nd1
/-- a contract over one base heap alone -/
noncomputable def SpAt (w : World) (d : Nat) (f : Addr) (vs : List Value) (lg : List (Addr × Obj)) (post : Value → List (Addr × Obj) → Prop) (h₀ : Heap) : Prop :=
  ∀ (dp : Nat) (frs : List Env) (gd : Option (List Code)) (un : Nat) (L : Addr) (m : Str → Option Value) (s : Shared) (Q E : Value → Shared → Prop),
    Cx w (mkA dp frs gd un) h₀ L → dp + d < recursionLimit → un + 8 * d < cLine → Fr h₀ L s.heap m → News h₀ L s.heap lg → (adrs lg).Nodup →
    (∀ v lg' h' tk', Fr h₀ L h' m → News h₀ L h' lg' → (adrs lg').Nodup → Kept s.heap h' (adrs lg) → Fresh s.heap lg lg' → post v lg' → Q v { s with heap := h', toks := tk' }) →
    wpAny (model PySem.Challenge.rw_xw0206_01.row.prog w) (mkA dp frs gd un) (call (.ref f) vs) Q E s
theorem SpAt.use {w : World} {d : Nat} {f : Addr} {vs : List Value} {lg : List (Addr × Obj)} {post : Value → List (Addr × Obj) → Prop} {h₀ : Heap} (H : SpAt w d f vs lg post h₀)
    {A : Around} {L : Addr} {m : Str → Option Value} {s : Shared} {Q E : Value → Shared → Prop} {all : List (Addr × Obj)} (more : List (Addr × Obj))
    (C : Cx w A h₀ L) (hd : A.depth + d < recursionLimit) (hu : A.units + 8 * d < cLine) (F : Fr h₀ L s.heap m) (N : News h₀ L s.heap all)
    (hs : ∀ p ∈ lg ++ more, p ∈ all) (nd : (adrs (lg ++ more)).Nodup)
    (k : ∀ v lg' h' tk', Fr h₀ L h' m → News h₀ L h' (lg' ++ more) → (adrs (lg' ++ more)).Nodup → post v lg' → Q v { s with heap := h', toks := tk' }) :
    wpAny (model PySem.Challenge.rw_xw0206_01.row.prog w) A (call (.ref f) vs) Q E s := by
  have N1 := News.sub' N hs
  have nd1 : (adrs lg).Nodup ∧ ∀ a ∈ adrs lg, ∀ b ∈ adrs more, a ≠ b := by
    unfold adrs at nd ⊢
    rw [List.map_append, List.nodup_append] at nd
    exact ⟨nd.1, nd.2.2⟩
  obtain ⟨frs, eA⟩ := mkA_of C
  rw [eA] at C ⊢
  refine H _ frs _ _ L m s Q E C hd hu F (News.left N1) nd1.1 fun v lg' h' tk' F' N' nd' kp fr po => ?_
  exact k v lg' h' tk' F' (News.app N' (News.kept (News.right N1) kp fun p hp hq => nd1.2 _ hq _ (List.mem_map_of_mem hp) rfl)) (fresh_nodup (News.right N1) nd nd' fr) po
set_option maxHeartbeats 8000000 in
theorem pool_base (w : World) (l : Addr) (vs : List Value) (ns : List Int) (hi : IntsAre vs ns) (hlen : ns.length ≤ 63) (h₀ : Heap) (hl : h₀.IsList l vs.toArray) :
    SpAt w 5 283 [.ref l] [] (fun v lg' => ∃ aS e, v = .ref aS ∧ lg' = [e] ∧ Src aS e) h₀ := by
  intro dp frs gd un L m s Q E C hd hu F N nd hQ
  have hls : s.heap.IsList l vs.toArray := hl.at fun o e => F.keep l o e
  walk_at "m_fill"
  k_dflt (refine' enter ?k1 ?k2 ?k3 ?k6 ?k7 ?k8 ?k9 ?kB ?c5 ?_ ?c2 ?c3 ?c4; (case k1 => assumption); (case k2 => k_asm); (case k3 => k_asm); (case k6 => k_is); (case k7 => k_is); (case k8 => omega); (case k9 => exact BindsTo.of_eq rfl); (case c5 => decide); (case kB => exact locs rfl); (case c2 => exact rfl); (case c3 => exact rfl); (case c4 => exact rfl))
  intro A₀' base' g' L' h' loose' mean' mg' mb' B' F' N' X' T' kp' lt'
  have hlg : g'.IsList l vs.toArray := hls.at fun o e => kp' l o e (List.not_mem_nil)
  clear hls hl F N C kp'
  try dsimp only
  try k_fold
  walk_at "m_steps"
  all_goals try (walk1; walk_at "m_steps")
  all_goals show Lv _ _ _ _ _ _ _ _ _
  all_goals refine Lv.fin hQ (fun z : Addr × Obj => [z]) (_, _) (by k_asm) (by k_asm) (fun _ h => h) ?_ ⟨_, _, rfl, rfl, _, _, _, _, _, rfl, mul_ite_nonneg (by split <;> omega), (fm _ _ (by decide)).1, (fm _ _ (by decide)).2⟩
  all_goals exact List.nodup_cons.mpr ⟨List.not_mem_nil, .nil⟩
section
local macro_rules | `(tactic| walk_at "m_own") => `(tactic| (with_reducible show wpAny _ _ (execs (Stmt.For _ _ _ _ _ :: _) _) _ _ _))
theorem nd_cons {D : Addr} {o : Obj} {l : List (Addr × Obj)} (h : ∀ q ∈ l, q.1 < D) (nd : (adrs l).Nodup) : (adrs ((D, o) :: l)).Nodup := List.nodup_cons.mpr ⟨fun hm => by
  obtain ⟨q, hq, e⟩ := List.mem_map.mp hm
  exact Nat.ne_of_lt (h q hq) e, nd⟩
theorem treeOk_nil {T d R : Addr} {k : Tok} {n : Nat} : TreeOk ⟨T, d, R, k, n, []⟩ [] := ⟨rfl, fun i r n h => by simp at h, fun i n p h => by simp at h⟩
theorem bookOk_nil {w : World} {D : Addr} {o : Obj} (lo : (D == sysModules) = false) (hi : o.IsDictOf (intKind PySem.Challenge.rw_xw0206_01.row.prog w) []) : BookOk w ⟨D, o, []⟩ [] := ⟨lo, rfl, hi, fun i x n h => by simp at h⟩
set_option maxHeartbeats 8000000 in
theorem law_mid (w : World) (g : Heap) (L fa : Addr) (cd : Value) {loose : List Str} {mean : ExcName → Option Value} {mg mb : Str → Option Value} (B' : Below callerA g [] g) (X' : (Mine.hda.heap_1 w.params).In g) (T' : Top topProg loose mean mg mb g)
    (τ : TabA) (hτ : TabOk lamPos lamQual τ) (aT aB : Addr) (oT oB oS : Obj) (dT : oT.data = .cell (some (.ref aT))) (dB : oB.data = .cell (some (.ref aB))) (dS : oS.data = .cell none)
    (ls : Addr) (vs : List Value) (ns : List Int) (hi : IntsAre vs ns) (hlen : ns.length ≤ 63) (hl : g.IsList ls vs.toArray)
    (s : Shared) (h : Heap) (tk : Nat) (m : Str → Option Value) (F : Fr g L h (ov [(Str.ofString "script", some (.ref ls))] m))
    (N : News g L h ((L + 1, oT) :: (L + 1 + 1, oB) :: (L + 1 + 1 + 1, oS) :: tabLg τ))
    (nd : (adrs ((L + 1, oT) :: (L + 1 + 1, oB) :: (L + 1 + 1 + 1, oS) :: tabLg τ)).Nodup) :
    wpAny (model PySem.Challenge.rw_xw0206_01.row.prog w) (callerA.deeper (lawEnv L fa cd)) (execs (lawRec.body.drop 6) (lawEnv L fa cd)) (LawEnd g s) (fun _ _ => False) { s with heap := h, toks := tk } := by
  have K := fun aS aT aB oT oB oS dT dB dS (t : TreeA) (b : BookA) TO BO hT hB (e : Addr × Obj) (S : Src aS e) (le : Addr) (m : Str → Option Value) h tk F N nd => law_for1 w g L fa cd B' X' T' τ hτ aS aT aB oT oB oS dT dB dS t b TO BO hT hB e S le s h tk m F N nd
  dsimp only [lawEnv, lawRec, recOf, List.drop] at K ⊢
  walk_at "m_fill"
  walk_at "m_steps"
  refine SpAt.use (pool_base w ls vs ns hi hlen g hl) ((L + 1, oT) :: (L + 1 + 1, oB) :: (L + 1 + 1 + 1, oS) :: tabLg τ) (law_cx (by assumption) (by k_asm) (by assumption) (by assumption) rfl) (law_dp (Nat.le_of_ble_eq_true rfl)) (law_un (Nat.le_of_ble_eq_true rfl)) (by k_asm) N (fun q hq => hq) nd ?_
  rintro v lg' h2 tk2 F2 N2 nd2 ⟨aS, e, rfl, rfl, S⟩
  clear N nd
  have p3 : ([e] ++ (L + 1, oT) :: (L + 1 + 1, oB) :: (L + 1 + 1 + 1, oS) :: tabLg τ).Perm ((L + 1 + 1 + 1, oS) :: (e :: (L + 1, oT) :: (L + 1 + 1, oB) :: tabLg τ)) := by
    generalize tabLg τ = X
    walk_at "m_perm"
  have ne3 := ne_front nd2 p3
  have N3 := News.sub' N2 (fun q hq => p3.mem_iff.mpr hq)
  have nd3 := nodup_perm nd2 p3
  walk_at "m_steps"
  rename_i h_a oS4 dS4 tk_a xT dTd h_b l1a l2a g_b L_b h_c B_b X_b T_b tk_b lR h_d l1b h_e F_e N_e Tc kX dD h_f oD loD hsD fsD hiD fiD l1c lE h_g l1d DT h_h l1e h_i F6 N6
  have q3 : ∀ q ∈ (L + 1 + 1 + 1, oS4) :: (e :: (L + 1, oT) :: (L + 1 + 1, oB) :: tabLg τ), q.1 < dTd := fun q hq => by
    simp only [tabLg] at hq
    exact (fun (l : List (Addr × Obj)) (hl : q ∈ l) (h : AllLt dTd l) => ktn_ltOf h q hl) _ hq l1a
  have nd4 : (adrs ((L + 1 + 1 + 1, oS4) :: (e :: (L + 1, oT) :: (L + 1 + 1, oB) :: tabLg τ))).Nodup := nd3
  obtain ⟨⟨T0, d0, R0, k0, n0, rows0⟩, hT0, hr0, N0, hR0, hd0, hn0⟩ : ∃ t0 : TreeA, t0.T = xT ∧ t0.rows = [] ∧ News g L h_i ((lE, listOf #[] 0) :: (dD, oD) :: (t0.R, listOf #[] 0) :: (t0.T, instObj 272 t0.d) :: (t0.d, dictOf (treeEs w.params t0.k t0.R) 1) :: (L + 1 + 1 + 1, oS4) :: (e :: (L + 1, oT) :: (L + 1 + 1, oB) :: tabLg τ)) ∧ t0.R = lR ∧ t0.d = dTd ∧ t0.n = 0 :=
    ⟨⟨xT, dTd, lR, _, 0, []⟩, rfl, rfl, News.sub' N6 (fun q hq => .tail _ hq), rfl, rfl, rfl⟩
  dsimp only at hT0 hr0 N0 hR0 hd0 hn0
  subst hT0 hr0 hR0 hd0 hn0
  have q4 := fun q hq => Nat.lt_trans (q3 q hq) l2a
  have nd5 := nd_cons (o := instObj 272 d0) (l := (d0, dictOf (treeEs w.params k0 R0) 1) :: (L + 1 + 1 + 1, oS4) :: (e :: (L + 1, oT) :: (L + 1 + 1, oB) :: tabLg τ)) (fun q hq => by
    rcases List.mem_cons.mp hq with rfl | hq
    · exact l2a
    · exact q4 q hq) (nd_cons q3 nd4)
  have q5 : ∀ q ∈ (T0, instObj 272 d0) :: (d0, dictOf (treeEs w.params k0 R0) 1) :: (L + 1 + 1 + 1, oS4) :: (e :: (L + 1, oT) :: (L + 1 + 1, oB) :: tabLg τ), q.1 < R0 := fun q hq => by
    rcases List.mem_cons.mp hq with rfl | hq
    · exact l1b.1
    rcases List.mem_cons.mp hq with rfl | hq
    · exact l1b.2.1
    · exact Nat.lt_trans (q4 q hq) l1b.1
  have q6 : ∀ q ∈ (R0, listOf #[] 0) :: (T0, instObj 272 d0) :: (d0, dictOf (treeEs w.params k0 R0) 1) :: (L + 1 + 1 + 1, oS4) :: (e :: (L + 1, oT) :: (L + 1 + 1, oB) :: tabLg τ), q.1 < dD := fun q hq => by
    rcases List.mem_cons.mp hq with rfl | hq
    · exact l1c.1
    · exact Nat.lt_trans (q5 q hq) l1c.1
  have q7 : ∀ q ∈ (dD, oD) :: (R0, listOf #[] 0) :: (T0, instObj 272 d0) :: (d0, dictOf (treeEs w.params k0 R0) 1) :: (L + 1 + 1 + 1, oS4) :: (e :: (L + 1, oT) :: (L + 1 + 1, oB) :: tabLg τ), q.1 < lE := fun q hq => by
    rcases List.mem_cons.mp hq with rfl | hq
    · exact l1d.1
    · exact Nat.lt_trans (q6 q hq) l1d.1
  have nd7 := nd_cons (o := listOf #[] 0) q7 (nd_cons q6 (nd_cons q5 nd5))
  have pm7 : ∀ oT oB : Obj, ((lE, listOf #[] 0) :: (dD, oD) :: (R0, listOf #[] 0) :: (T0, instObj 272 d0) :: (d0, dictOf (treeEs w.params k0 R0) 1) :: (L + 1 + 1 + 1, oS4) :: (e :: (L + 1, oT) :: (L + 1 + 1, oB) :: tabLg τ)).Perm ((L + 1, oT) :: ((L + 1 + 1, oB) :: (lE, listOf #[] 0) :: (L + 1 + 1 + 1, oS4) :: e :: tabB w.params τ ⟨T0, d0, R0, k0, 0, []⟩ ⟨dD, oD, []⟩)) := fun oT oB => by
    show List.Perm _ ((L + 1, oT) :: ((L + 1 + 1, oB) :: (lE, listOf #[] 0) :: (L + 1 + 1 + 1, oS4) :: e :: (30, tabObj τ.ps) :: (dD, oD) :: ([(T0, instObj 272 d0), (d0, dictOf (treeEs w.params k0 R0) 1), (R0, listOf #[] 0)] ++ (τ.own ++ ([] ++ [])))))
    unfold tabLg
    generalize τ.own = X
    walk_at "m_perm"
  have nd8 := nodup_perm nd7 (pm7 oT oB)
  have N8 := News.sub' N0 (fun q hq => (pm7 oT oB).mem_iff.mpr hq)
  have ne8 := ne_front nd7 (pm7 oT oB)
  clear N6 N0 nd7 q7 q6 q5 nd5 q4 nd4 q3 l1a l1b l1c l1d l1e nd3 ne3 p3 nd2
  k_dflt (refine storeX_C F6 N8 (by rfl) (UpdF.head ne8) dT ?_)
  intro h9 oT9 F9 N9 dT9
  walk_at "m_steps"
  have pm9 : ∀ oT oB : Obj, ((L + 1, oT) :: ((L + 1 + 1, oB) :: (lE, listOf #[] 0) :: (L + 1 + 1 + 1, oS4) :: e :: tabB w.params τ ⟨T0, d0, R0, k0, 0, []⟩ ⟨dD, oD, []⟩)).Perm ((L + 1 + 1, oB) :: ((L + 1, oT) :: (lE, listOf #[] 0) :: (L + 1 + 1 + 1, oS4) :: e :: tabB w.params τ ⟨T0, d0, R0, k0, 0, []⟩ ⟨dD, oD, []⟩)) := fun oT oB => List.Perm.swap ..
  have nd9 := nodup_perm (a := (L + 1, oT9) :: ((L + 1 + 1, oB) :: (lE, listOf #[] 0) :: (L + 1 + 1 + 1, oS4) :: e :: tabB w.params τ ⟨T0, d0, R0, k0, 0, []⟩ ⟨dD, oD, []⟩)) nd8 (pm9 oT9 oB)
  have N10 := News.sub' N9 (fun q hq => (pm9 oT9 oB).mem_iff.mpr hq)
  clear N8 N9 ne8 nd8 dT
  k_dflt (refine storeX_C F9 N10 (by rfl) (UpdF.head (ne_front nd9 (.refl _))) dB ?_)
  intro h11 oB11 F11 N11 dB11
  have pmE : ((L + 1 + 1, oB11) :: ((L + 1, oT9) :: (lE, listOf #[] 0) :: (L + 1 + 1 + 1, oS4) :: e :: tabB w.params τ ⟨T0, d0, R0, k0, 0, []⟩ ⟨dD, oD, []⟩)).Perm ((lE, listOf #[] 0) :: (L + 1, oT9) :: (L + 1 + 1, oB11) :: (L + 1 + 1 + 1, oS4) :: e :: tabB w.params τ ⟨T0, d0, R0, k0, 0, []⟩ ⟨dD, oD, []⟩) := by
    generalize tabB w.params τ ⟨T0, d0, R0, k0, 0, []⟩ ⟨dD, oD, []⟩ = X
    walk_at "m_perm"
  have ndE := nodup_perm (a := (L + 1 + 1, oB11) :: _) nd9 pmE
  have N12 := News.sub' N11 (fun q hq => pmE.mem_iff.mpr hq)
  clear N10 N11 nd9
  walk_at "m_steps"
  rename Fr _ _ _ _ => FF
  rename News _ _ _ _ => NF
  exact K aS T0 dD oT9 oB11 oS4 dT9 dB11 dS4 ⟨T0, d0, R0, k0, 0, []⟩ ⟨dD, oD, []⟩ treeOk_nil (bookOk_nil loD hiD) rfl rfl e S lE _ _ _ (fr_ov [Str.ofString "elements"] FF) (News.sub' NF fun q hq => hq) ndE
end
local macro_rules | `(tactic| walk_at "m_ownB") => `(tactic| first | (with_reducible show wpAny _ _ (compareOp CmpOp.NotEq (Value.ref _) (Value.ref _)) _ _ _) | (with_reducible show KdnMade _ _ _ _ _ _ _) | (with_reducible show wpAny _ _ (execs (Stmt.Assign _ _ _ :: _) _) _ _ _))
section
local macro_rules | `(tactic| walk_at "m_own") => `(tactic| first | walk_at "m_ownB")
noncomputable def nds0 : List Nd := [⟨.root, none⟩, ⟨.elem, some 0⟩, ⟨.text, some 1⟩, ⟨.attr, some 1⟩, ⟨.elem, some 1⟩, ⟨.ns, some 1⟩, ⟨.attr, some 1⟩]
theorem line0_0 : lineOf nds0 0 = [0] := by rw [lineOf]; rfl
theorem line0_1 : lineOf nds0 1 = [1, 0] := by
  rw [lineOf]
  show 1 :: (if 0 < 1 then lineOf nds0 0 else []) = _
  rw [line0_0]; rfl
theorem line0_3 : lineOf nds0 3 = [3, 1, 0] := by
  rw [lineOf]
  show 3 :: (if 1 < 3 then lineOf nds0 1 else []) = _
  rw [line0_1]; rfl
theorem line0_4 : lineOf nds0 4 = [4, 1, 0] := by
  rw [lineOf]
  show 4 :: (if 1 < 4 then lineOf nds0 1 else []) = _
  rw [line0_1]; rfl
theorem due0 : dueOf nds0 [4, 3, 4] = [(none, [0]), (some 1, [4, 3]), (some 0, [1])] := by
  unfold dueOf
  simp only [List.flatMap_cons, List.flatMap_nil, line0_3, line0_4]
  decide
theorem due1 : dueOf nds0 [] = [(none, [])] := rfl
theorem ev0 : (under nds0 1 0 ++ under nds0 1 1 ++ under nds0 1 2) = [5, 3, 6, 2, 4] := by decide
section
variable {prog : Program} {w : World} {A : Around} {E : Value → Shared → Prop} {s : Shared} {h₀ : Heap} {L : Addr} {m : Str → Option Value} {d : Addr} {o : Obj} {all : List (Addr × Obj)} {v : Value}
theorem made_opt {Q : Value → Shared → Prop} {vs : List (Value × Value)} {kvs : List (Option Int × Value)} (others : List (Addr × Obj)) (hc : Carries (optKind prog w) vs kvs) (hk : merged [] kvs = kvs) (F : Fr h₀ L s.heap m) (N : News h₀ L s.heap all) (hs : ∀ p ∈ (d, o) :: others, p ∈ all) (hne : ∀ p ∈ others, p.1 ≠ d) (hd : o.IsDictOf (optKind prog w) [])
    (h : ∀ h' o', Fr h₀ L h' m → News h₀ L h' ((d, o') :: others) → o'.IsDictOf (optKind prog w) kvs → Q (.ref d) { s with heap := h', toks := s.toks + vs.length }) : KdnMade prog w (optKind prog w) d Q vs s := by
  have N1 := News.sub' N hs
  have hm := N1 (d, o) (.head _)
  refine ⟨kvs, hc, Heap.dictOf_iff.mpr ⟨o, hm.1, hd⟩, fun h' hmm hs' => ?_⟩
  rw [hk] at hmm
  obtain ⟨o', ho', hd'⟩ := Heap.dictOf_iff.mp hmm
  refine h h' o' (F.change hs' hm.2.1 hm.2.2) ?_ hd'
  have := News.setIn (own := []) (rest := others) (d := d) (o := o) (N1 : News h₀ L s.heap ([] ++ (d, o) :: others)) (fun p hp => nomatch hp) hne hs' ho'
  simpa using this
end
section
variable {w : World} {A : Around} {E : Value → Shared → Prop} {s : Shared} {h₀ : Heap} {L : Addr} {all : List (Addr × Obj)} {D D' : Addr} {o o' : Obj} {G G' : List LA} {bd bd' : Nat}
theorem found_ne {Q : Value → Shared → Prop} (N : News h₀ L s.heap all) (lo : (D == sysModules) = false) (lo' : (D' == sysModules) = false) (hD : (D, o) ∈ all) (hD' : (D', o') ∈ all) (hG : ∀ e ∈ G, e.lg ∈ all) (hG' : ∀ e ∈ G', e.lg ∈ all) (ok : FndOk w o G bd) (ok' : FndOk w o' G' bd')
    (hsub : ∀ x ∈ shape G, x ∈ shape G') (hlen : (shape G).length = (shape G').length) (hu : A.units + 66 < cLine) (h : Q (.bool false) s) : wpAny (model PySem.Challenge.rw_xw0206_01.row.prog w) A (compareOp .NotEq (.ref D) (.ref D')) Q E s := by
  refine keq_ne (knd := optKind _ w) lo lo' (Heap.dictOf_iff.mpr ⟨o, (N _ hD).1, ok.dict⟩) (Heap.dictOf_iff.mpr ⟨o', (N _ hD').1, ok'.dict⟩) (by omega) (fun _ => found_hits N hG hG' ok.iar ok' (fun e he => hsub _ (List.mem_map_of_mem (f := fun (e : LA) => (e.k, e.ns)) he)) (by show A.units + 1 + 64 < cLine; omega)) ?_
  have hl : (G.map LA.kv).length = (G'.map LA.kv).length := by
    simpa [shape] using hlen
  rw [hl]
  simpa using h
end
set_option maxHeartbeats 8000000 in
theorem law_5 (w : World) (g : Heap) (L fa : Addr) (cd : Value) {loose : List Str} {mean : ExcName → Option Value} {mg mb : Str → Option Value} (B' : Below callerA g [] g) (X' : (Mine.hda.heap_1 w.params).In g) (T' : Top topProg loose mean mg mb g)
    (t : TreeA) (τ : TabA) (b : BookA) (TO : TreeOk t nds0) (BO : BookOk w b nds0) (hτ : TabOk lamPos lamQual τ) (oT oB oS : Obj) (dT : oT.data = .cell (some (.ref t.T))) (dB : oB.data = .cell (some (.ref b.B))) (dS : oS.data = .cell none)
    (ls : Addr) (vs : List Value) (ns : List Int) (hi : IntsAre vs ns) (hlen : ns.length ≤ 63) (hl : g.IsList ls vs.toArray)
    (s : Shared) (h : Heap) (tk : Nat) (m : Str → Option Value) (F : Fr g L h (ov [(Str.ofString "script", some (.ref ls))] m))
    (N : News g L h ((L + 1, oT) :: (L + 1 + 1, oB) :: (L + 1 + 1 + 1, oS) :: tabB w.params τ t b))
    (nd : (adrs ((L + 1, oT) :: (L + 1 + 1, oB) :: (L + 1 + 1 + 1, oS) :: tabB w.params τ t b)).Nodup) :
    wpAny (model PySem.Challenge.rw_xw0206_01.row.prog w) (callerA.deeper (lawEnv L fa cd)) (execs (lawRec.body.drop 5) (lawEnv L fa cd)) (LawEnd g s) (fun _ _ => False) { s with heap := h, toks := tk } := by
  have K := fun (m : Str → Option Value) h tk F N nd => law_mid w g L fa cd B' X' T' τ hτ t.T b.B oT oB oS dT dB dS ls vs ns hi hlen hl s h tk m F N nd
  dsimp only [lawEnv, lawRec, recOf, List.drop] at K ⊢
  walk_at "m_fill"
  have N0 := N
  simp only [tabB, treeHd, List.cons_append, List.nil_append] at N
  walk1
  walk_at "m_steps"
  rename_i l1 h1 F1 N1 lt1
  have hsT : ∀ q ∈ treeLg w.params t, q ∈ tabB w.params τ t b := fun q hq => (tabB_tree w.params τ t b).mem_iff.mpr (List.mem_append.mpr (.inl hq))
  have ndT : (adrs (treeLg w.params t)).Nodup := by
    have h := nodup_perm (List.nodup_cons.mp (List.nodup_cons.mp (List.nodup_cons.mp nd).2).2).2 (tabB_tree w.params τ t b)
    unfold adrs at h ⊢
    rw [List.map_append, List.nodup_append] at h
    exact h.1
  have lt1' : ∀ q ∈ (L + 1, oT) :: (L + 1 + 1, oB) :: (L + 1 + 1 + 1, oS) :: tabB w.params τ t b, q.1 < l1 := fun q hq => by
    simp only [tabB, treeHd, List.cons_append, List.nil_append] at hq
    exact (fun (l : List (Addr × Obj)) (hl : q ∈ l) (h : AllLt l1 l) => ktn_ltOf h q hl) _ hq lt1
  refine Sp.read (marked_rd w t nds0 TO (by decide) l1 _ [4, 3, 4] 0 (.cons _ _ (.cons _ _ (.cons _ _ .nil))) (by decide) (by decide)) (law_cx (by assumption) (by k_asm) (by assumption) (by assumption) rfl) (law_dp (Nat.le_of_ble_eq_true rfl)) (law_un (Nat.le_of_ble_eq_true rfl)) F1 N1 (fun q hq => by
    rcases List.mem_cons.mp hq with rfl | hq
    · exact .head _
    · exact .tail _ (.tail _ (.tail _ (.tail _ (hsT q hq))))) (nd_cons (fun q hq => lt1' q (.tail _ (.tail _ (.tail _ (hsT q hq))))) ndT) ?_
  rintro vm own h3 tk3 F3 N3 all3 ne3 nd3 ⟨D9, o9, G9, rfl, rfl, ⟨bd9, ok9⟩, hsh9, lo9⟩
  clear all3 ne3 nd3
  try clear N1
  walk_at "m_steps"
  rename_i dd h4 od ld lod hdd a1 h5 la1 a2 h6 la2 a3 h7 F7 N7 la3
  obtain ⟨k1, k2, k3, k4, N7⟩ : ∃ k1 k2 k3 k4, News g L h7 ((a3, listOf (List.toArray [Value.int ((4 : Nat) : Int) k1, Value.int ((3 : Nat) : Int) k2]) 0) :: (a2, listOf (List.toArray [Value.int ((1 : Nat) : Int) k3]) 0) :: (a1, listOf (List.toArray [Value.int ((0 : Nat) : Int) k4]) 0) :: (dd, od) :: ((D9, o9) :: List.map LA.lg G9 ++ (l1, _) :: (L + 1, oT) :: (L + 1 + 1, oB) :: (L + 1 + 1 + 1, oS) :: tabB w.params τ t b)) := ⟨_, _, _, _, N7⟩
  generalize hR : (D9, o9) :: List.map LA.lg G9 ++ (l1, _) :: (L + 1, oT) :: (L + 1 + 1, oB) :: (L + 1 + 1 + 1, oS) :: tabB w.params τ t b = REST at N7 ld
  refine made_opt (kvs := [(none, .ref a1), (some 0, .ref a2), (some 1, .ref a3)]) ((a3, listOf (List.toArray [Value.int ((4 : Nat) : Int) k1, Value.int ((3 : Nat) : Int) k2]) 0) :: (a2, listOf (List.toArray [Value.int ((1 : Nat) : Int) k3]) 0) :: (a1, listOf (List.toArray [Value.int ((0 : Nat) : Int) k4]) 0) :: REST) ⟨rfl, rfl, rfl, rfl, rfl, rfl, trivial⟩ rfl F7 N7 (fun q hq => by
    rcases List.mem_cons.mp hq with rfl | hq
    · exact .tail _ (.tail _ (.tail _ (.head _)))
    rcases List.mem_cons.mp hq with rfl | hq
    · exact .head _
    rcases List.mem_cons.mp hq with rfl | hq
    · exact .tail _ (.head _)
    rcases List.mem_cons.mp hq with rfl | hq
    · exact .tail _ (.tail _ (.head _))
    · exact .tail _ (.tail _ (.tail _ (.tail _ hq)))) (fun q hq => by
    rcases List.mem_cons.mp hq with rfl | hq
    · exact Nat.ne_of_gt la3.2.2.1
    rcases List.mem_cons.mp hq with rfl | hq
    · exact Nat.ne_of_gt la2.2.1
    rcases List.mem_cons.mp hq with rfl | hq
    · exact Nat.ne_of_gt la1.1
    · exact Nat.ne_of_lt (ld q hq)) hdd ?_
  intro h8 o8 F8 N8 hd8
  have ok8 : FndOk w o8 [LA.mk none a1 [Value.int ((0 : Nat) : Int) k4] 0 [0], LA.mk (some 0) a2 [Value.int ((1 : Nat) : Int) k3] 0 [1], LA.mk (some 1) a3 [Value.int ((4 : Nat) : Int) k1, Value.int ((3 : Nat) : Int) k2] 0 [4, 3]] 2 := by
    refine ⟨hd8, fun e he => ?_, Nat.le_of_ble_eq_true rfl, fun e he => ?_⟩
    · rcases List.mem_cons.mp he with rfl | he
      · exact .cons _ _ .nil
      rcases List.mem_cons.mp he with rfl | he
      · exact .cons _ _ .nil
      rw [List.mem_singleton.mp he]; exact .cons _ _ (.cons _ _ .nil)
    · rcases List.mem_cons.mp he with rfl | he
      · exact Nat.le_of_ble_eq_true rfl
      rcases List.mem_cons.mp he with rfl | he
      · exact Nat.le_of_ble_eq_true rfl
      rw [List.mem_singleton.mp he]; exact Nat.le_of_ble_eq_true rfl
  have sh8 : shape [LA.mk none a1 [Value.int ((0 : Nat) : Int) k4] 0 [0], LA.mk (some 0) a2 [Value.int ((1 : Nat) : Int) k3] 0 [1], LA.mk (some 1) a3 [Value.int ((4 : Nat) : Int) k1, Value.int ((3 : Nat) : Int) k2] 0 [4, 3]] = [(none, [0]), (some 0, [1]), (some 1, [4, 3])] := rfl
  have mR : ∀ q ∈ (D9, o9) :: List.map LA.lg G9, q ∈ (dd, o8) :: (a3, listOf (List.toArray [Value.int ((4 : Nat) : Int) k1, Value.int ((3 : Nat) : Int) k2]) 0) :: (a2, listOf (List.toArray [Value.int ((1 : Nat) : Int) k3]) 0) :: (a1, listOf (List.toArray [Value.int ((0 : Nat) : Int) k4]) 0) :: REST := fun q hq => by
    rw [← hR]; exact .tail _ (.tail _ (.tail _ (.tail _ (List.mem_append.mpr (.inl hq)))))
  walk_at "m_steps"
  k_dflt (refine found_ne N8 lo9 lod (mR _ (.head _)) (.head _) (fun e he => mR _ (.tail _ (List.mem_map_of_mem he))) (fun e he => ?_) ok9 ok8 ?_ ?_ (law_un (Nat.le_of_ble_eq_true rfl)) ?_)
  · rcases List.mem_cons.mp he with rfl | he
    · exact .tail _ (.tail _ (.tail _ (.head _)))
    rcases List.mem_cons.mp he with rfl | he
    · exact .tail _ (.tail _ (.head _))
    rw [List.mem_singleton.mp he]; exact .tail _ (.head _)
  · rw [hsh9, due0, sh8]
    decide
  · rw [hsh9, due0, sh8]
    rfl
  have NA := News.sub' N8 (l' := (L + 1, oT) :: (L + 1 + 1, oB) :: (L + 1 + 1 + 1, oS) :: tabB w.params τ t b) (fun q hq => by
    rw [← hR]
    exact .tail _ (.tail _ (.tail _ (.tail _ (List.mem_append.mpr (.inr (.tail _ hq)))))))
  clear N7 N8 mR ok8 hd8 ok9 hR
  have NB := NA
  simp only [tabB, treeHd, List.cons_append, List.nil_append] at NB
  walk_at "m_steps"
  rename_i l2 h9 F9 N9 lt2
  have lt2' : ∀ q ∈ (L + 1, oT) :: (L + 1 + 1, oB) :: (L + 1 + 1 + 1, oS) :: tabB w.params τ t b, q.1 < l2 := fun q hq => by
    simp only [tabB, treeHd, List.cons_append, List.nil_append] at hq
    exact (fun (l : List (Addr × Obj)) (hl : q ∈ l) (h : AllLt l2 l) => ktn_ltOf h q hl) _ hq lt2
  have N9' := News.sub' N9 (l' := (l2, listOf (List.toArray []) 0) :: (L + 1, oT) :: (L + 1 + 1, oB) :: (L + 1 + 1 + 1, oS) :: tabB w.params τ t b) (fun q hq => hq)
  refine Sp.read (marked_rd w t nds0 TO (by decide) l2 [] [] 0 .nil (by decide) (by decide)) (law_cx (by assumption) (by k_asm) (by assumption) (by assumption) rfl) (law_dp (Nat.le_of_ble_eq_true rfl)) (law_un (Nat.le_of_ble_eq_true rfl)) F9 N9' (fun q hq => by
    rcases List.mem_cons.mp hq with rfl | hq
    · exact .head _
    · exact .tail _ (.tail _ (.tail _ (.tail _ (hsT q hq))))) (nd_cons (fun q hq => lt2' q (.tail _ (.tail _ (.tail _ (hsT q hq))))) ndT) ?_
  rintro vm own h10 tk10 F10 N10 all10 ne10 nd10 ⟨DA, oA, GA, rfl, rfl, ⟨bdA, okA⟩, hshA, loA⟩
  clear all10 ne10 nd10 N9 N9'
  try clear NA
  try clear NB
  walk_at "m_steps"
  rename_i de h11 oe le loe hde a4 h12 F12 N12 la4
  generalize hR : (DA, oA) :: List.map LA.lg GA ++ (l2, listOf (List.toArray []) 0) :: (L + 1, oT) :: (L + 1 + 1, oB) :: (L + 1 + 1 + 1, oS) :: tabB w.params τ t b = REST2 at N12 le
  refine made_none ((a4, listOf #[] 0) :: REST2) F12 N12 (fun q hq => by
    rcases List.mem_cons.mp hq with rfl | hq
    · exact .tail _ (.head _)
    rcases List.mem_cons.mp hq with rfl | hq
    · exact .head _
    · exact .tail _ (.tail _ hq)) (fun q hq => by
    rcases List.mem_cons.mp hq with rfl | hq
    · exact Nat.ne_of_gt la4.1
    · exact Nat.ne_of_lt (le q hq)) hde ?_
  intro h13 o13 F13 N13 hd13
  have ok13 : FndOk w o13 [LA.mk none a4 [] 0 []] 2 := by
    refine ⟨hd13, fun e he => ?_, Nat.le_of_ble_eq_true rfl, fun e he => ?_⟩
    · rw [List.mem_singleton.mp he]; exact .nil
    · rw [List.mem_singleton.mp he]; exact Nat.le_of_ble_eq_true rfl
  have mR : ∀ q ∈ (DA, oA) :: List.map LA.lg GA, q ∈ (de, o13) :: (a4, listOf #[] 0) :: REST2 := fun q hq => by
    rw [← hR]; exact .tail _ (.tail _ (List.mem_append.mpr (.inl hq)))
  walk_at "m_steps"
  k_dflt (refine found_ne N13 loA loe (mR _ (.head _)) (.head _) (fun e he => mR _ (.tail _ (List.mem_map_of_mem he))) (fun e he => ?_) okA ok13 ?_ ?_ (law_un (Nat.le_of_ble_eq_true rfl)) ?_)
  · rw [List.mem_singleton.mp he]; exact .tail _ (.head _)
  · rw [hshA, due1]
    exact fun x hx => hx
  · rw [hshA, due1]
    rfl
  have NC := News.sub' N13 (l' := (L + 1, oT) :: (L + 1 + 1, oB) :: (L + 1 + 1 + 1, oS) :: tabLg τ) (fun q hq => by
    rw [← hR]
    refine .tail _ (.tail _ (List.mem_append.mpr (.inr (.tail _ ?_))))
    rcases List.mem_cons.mp hq with rfl | hq
    · exact .head _
    rcases List.mem_cons.mp hq with rfl | hq
    · exact .tail _ (.head _)
    rcases List.mem_cons.mp hq with rfl | hq
    · exact .tail _ (.tail _ (.head _))
    · exact .tail _ (.tail _ (.tail _ ((tabB_tree w.params τ t b).mem_iff.mpr (List.mem_append.mpr (.inr (List.mem_append.mpr (.inl hq))))))))
  have ndC : (adrs ((L + 1, oT) :: (L + 1 + 1, oB) :: (L + 1 + 1 + 1, oS) :: tabLg τ)).Nodup := by
    have pC : ((L + 1, oT) :: (L + 1 + 1, oB) :: (L + 1 + 1 + 1, oS) :: tabB w.params τ t b).Perm (((L + 1, oT) :: (L + 1 + 1, oB) :: (L + 1 + 1 + 1, oS) :: tabLg τ) ++ (treeLg w.params t ++ bookLg b)) := by
      refine (List.Perm.append_left [(L + 1, oT), (L + 1 + 1, oB), (L + 1 + 1 + 1, oS)] (tabB_tree w.params τ t b)).trans ?_
      generalize treeLg w.params t = X
      generalize tabLg τ = Y
      generalize bookLg b = Z
      walk_at "m_perm"
    have h := nodup_perm nd pC
    unfold adrs at h ⊢
    rw [List.map_append, List.nodup_append] at h
    exact h.1
  walk_at "m_steps"
  rename Fr _ _ _ _ => FF
  exact K m _ _ FF NC ndC
end
section
local macro_rules | `(tactic| walk_at "m_own") => `(tactic| first | walk_at "m_ownB")
local macro_rules | `(tactic| walk_at "m_own") => `(tactic| (with_reducible show wpAny _ _ (execs (Stmt.If _ _ _ _ :: _) _) _ _ _))
theorem sorted_rd (w : World) (ls T : Addr) (vs : List Value) (nn : Nat) (pv : Value) (hl2 : vs.length < 2) :
    Sp w 12 33 [.ref T, pv, .ref ls] [(ls, listOf vs.toArray nn)] (fun v lg' => ∃ own, lg' = own ++ [(ls, listOf vs.toArray nn)] ∧ (v = .ref ls ∧ own = [])) := by
  intro dp frs gd un h₀ L m s Q E C hd hu F N nd hQ
  refine sorted_lt2 w [] ls T vs nn pv hl2 dp frs gd un h₀ L m s Q E C hd hu F N nd fun v lg' h' tk' F' N' nd' kp fr po => hQ v lg' h' tk' F' N' nd' kp fr ?_
  obtain ⟨rfl, rfl⟩ := po
  exact ⟨[], rfl, rfl, rfl⟩
set_option maxHeartbeats 8000000 in
theorem law_4 (w : World) (g : Heap) (L fa : Addr) (cd : Value) {loose : List Str} {mean : ExcName → Option Value} {mg mb : Str → Option Value} (B' : Below callerA g [] g) (X' : (Mine.hda.heap_1 w.params).In g) (T' : Top topProg loose mean mg mb g)
    (t : TreeA) (τ : TabA) (b : BookA) (TO : TreeOk t nds0) (BO : BookOk w b nds0) (hτ : TabOk lamPos lamQual τ) (oT oB oS : Obj) (dT : oT.data = .cell (some (.ref t.T))) (dB : oB.data = .cell (some (.ref b.B))) (dS : oS.data = .cell none)
    (ls : Addr) (vs : List Value) (ns : List Int) (hi : IntsAre vs ns) (hlen : ns.length ≤ 63) (hl : g.IsList ls vs.toArray)
    (s : Shared) (h : Heap) (tk : Nat) (m : Str → Option Value) (F : Fr g L h (ov [(Str.ofString "script", some (.ref ls))] m))
    (N : News g L h ((L + 1, oT) :: (L + 1 + 1, oB) :: (L + 1 + 1 + 1, oS) :: tabB w.params τ t b))
    (nd : (adrs ((L + 1, oT) :: (L + 1 + 1, oB) :: (L + 1 + 1 + 1, oS) :: tabB w.params τ t b)).Nodup) :
    wpAny (model PySem.Challenge.rw_xw0206_01.row.prog w) (callerA.deeper (lawEnv L fa cd)) (execs (lawRec.body.drop 4) (lawEnv L fa cd)) (LawEnd g s) (fun _ _ => False) { s with heap := h, toks := tk } := by
  have K := fun (m : Str → Option Value) h tk F N nd => law_5 w g L fa cd B' X' T' t τ b TO BO hτ oT oB oS dT dB dS ls vs ns hi hlen hl s h tk m F N nd
  dsimp only [lawEnv, lawRec, recOf, List.drop] at K ⊢
  walk_at "m_fill"
  have N0 := N
  simp only [tabB, treeHd, List.cons_append, List.nil_append] at N
  walk1
  walk_at "m_steps"
  rename_i l1 h1 F1 N1 lt1
  have N1' := News.sub' N1 (l' := (l1, listOf (List.toArray []) 0) :: (L + 1, oT) :: (L + 1 + 1, oB) :: (L + 1 + 1 + 1, oS) :: tabB w.params τ t b) (fun q hq => hq)
  refine Sp.read (sorted_rd w l1 t.T [] 0 _ (by decide)) (law_cx (by assumption) (by k_asm) (by assumption) (by assumption) rfl) (law_dp (Nat.le_of_ble_eq_true rfl)) (law_un (Nat.le_of_ble_eq_true rfl)) F1 N1' (fun q hq => by rw [List.mem_singleton.mp hq]; exact .head _) (List.pairwise_singleton ..) ?_
  rintro v own h3 tk3 F3 N3 all3 ne3 nd3 ⟨rfl, rfl⟩
  clear all3 ne3 nd3 N1 N1'
  rw [List.nil_append] at N3
  walk_at "m_steps"
  rename_i l2 h4 F4 N4 lt4
  k_dflt (refine ne_intsK (vs := []) (us := []) (News.isList N4 (.tail _ (.head _))) .nil (News.isList N4 (.head _)) .nil (law_un (Nat.le_of_ble_eq_true rfl)) ?_)
  rw [decide_eq_true rfl]
  have N5 := News.sub' N4 (l' := (L + 1, oT) :: (L + 1 + 1, oB) :: (L + 1 + 1 + 1, oS) :: tabB w.params τ t b) (fun q hq => .tail _ (.tail _ hq))
  clear N4 lt4 lt1
  have N6 := N5
  simp only [tabB, treeHd, List.cons_append, List.nil_append] at N6
  walk_at "m_steps"
  rename_i l3 h6 F6 N6 lt6
  obtain ⟨k4, N6'⟩ : ∃ k4, News g L h6 ((l3, listOf (List.toArray [Value.int 4 k4]) 0) :: (L + 1, oT) :: (L + 1 + 1, oB) :: (L + 1 + 1 + 1, oS) :: tabB w.params τ t b) := ⟨_, News.sub' N6 (fun q hq => hq)⟩
  refine Sp.read (sorted_rd w l3 t.T [Value.int 4 k4] 0 _ (Nat.le_of_ble_eq_true rfl)) (law_cx (by assumption) (by k_asm) (by assumption) (by assumption) rfl) (law_dp (Nat.le_of_ble_eq_true rfl)) (law_un (Nat.le_of_ble_eq_true rfl)) F6 N6' (fun q hq => by rw [List.mem_singleton.mp hq]; exact .head _) (List.pairwise_singleton ..) ?_
  rintro v own h7 tk7 F7 N7 all7 ne7 nd7 ⟨rfl, rfl⟩
  clear all7 ne7 nd7 N6 N6'
  rw [List.nil_append] at N7
  walk_at "m_steps"
  rename_i l5 h8 F8 N8 lt8
  obtain ⟨k5, N8'⟩ : ∃ k5, News g L h8 ((l5, listOf (List.toArray [Value.int 4 k5]) 0) :: (l3, listOf (List.toArray [Value.int 4 k4]) 0) :: (L + 1, oT) :: (L + 1 + 1, oB) :: (L + 1 + 1 + 1, oS) :: tabB w.params τ t b) := ⟨_, News.sub' N8 (fun q hq => hq)⟩
  k_dflt (refine ne_intsK (vs := [Value.int 4 k4]) (us := [Value.int 4 k5]) (ns := [4]) (ms := [4]) (News.isList N8' (.tail _ (.head _))) (.cons _ _ .nil) (News.isList N8' (.head _)) (.cons _ _ .nil) (law_un (Nat.le_of_ble_eq_true rfl)) ?_)
  rw [decide_eq_true rfl]
  have N9 := News.sub' N8' (l' := (L + 1, oT) :: (L + 1 + 1, oB) :: (L + 1 + 1 + 1, oS) :: tabB w.params τ t b) (fun q hq => .tail _ (.tail _ hq))
  clear N8 N8'
  walk_at "m_steps"
  rename Fr _ _ _ _ => FF
  exact K m _ _ FF N9 nd
end
section
local macro_rules | `(tactic| walk_at "m_own") => `(tactic| first | walk_at "m_ownB")
local macro_rules | `(tactic| walk_at "m_own") => `(tactic| (with_reducible show wpAny _ _ (execs (Stmt.If _ _ _ _ :: _) _) _ _ _))
theorem ev0' : everyOf nds0 1 = [5, 3, 6, 2, 4] := ev0
theorem told_sorted {l : List Nat} (p : l.Perm [5, 3, 2]) (h : l.Pairwise (fun x y => (everyOf nds0 1).idxOf x ≤ (everyOf nds0 1).idxOf y)) : l = [5, 3, 2] := by
  refine rise_eq (f := fun x => (everyOf nds0 1).idxOf x) (fun x hx y hy e => ?_) p h ?_
  · rw [ev0'] at e
    have hx' := p.mem_iff.mp hx
    have hy' : y ∈ [5, 3, 2] := p.mem_iff.mp hy
    revert e
    simp only [List.mem_cons, List.not_mem_nil, or_false] at hx' hy'
    rcases hx' with rfl | rfl | rfl <;> rcases hy' with rfl | rfl | rfl <;> decide
  · rw [ev0']; decide
set_option maxHeartbeats 8000000 in
theorem law_3 (w : World) (g : Heap) (L fa : Addr) (cd : Value) {loose : List Str} {mean : ExcName → Option Value} {mg mb : Str → Option Value} (B' : Below callerA g [] g) (X' : (Mine.hda.heap_1 w.params).In g) (T' : Top topProg loose mean mg mb g)
    (t : TreeA) (τ : TabA) (b : BookA) (TO : TreeOk t nds0) (BO : BookOk w b nds0) (hτ : TabOk lamPos lamQual τ) (oT oB oS : Obj) (dT : oT.data = .cell (some (.ref t.T))) (dB : oB.data = .cell (some (.ref b.B))) (dS : oS.data = .cell none)
    (ls : Addr) (vs : List Value) (ns : List Int) (hi : IntsAre vs ns) (hlen : ns.length ≤ 63) (hl : g.IsList ls vs.toArray)
    (lsm : Addr) (sv : List Value) (c : Nat) (hsv : IntsAre sv (nints [2, 3, 4, 5, 6]))
    (s : Shared) (h : Heap) (tk : Nat) (m : Str → Option Value) (F : Fr g L h (ov [(Str.ofString "script", some (.ref ls)), (Str.ofString "some", some (.ref lsm))] m))
    (N : News g L h ((lsm, listOf sv.toArray c) :: (L + 1, oT) :: (L + 1 + 1, oB) :: (L + 1 + 1 + 1, oS) :: tabB w.params τ t b))
    (nd : (adrs ((lsm, listOf sv.toArray c) :: (L + 1, oT) :: (L + 1 + 1, oB) :: (L + 1 + 1 + 1, oS) :: tabB w.params τ t b)).Nodup) :
    wpAny (model PySem.Challenge.rw_xw0206_01.row.prog w) (callerA.deeper (lawEnv L fa cd)) (execs (lawRec.body.drop 3) (lawEnv L fa cd)) (LawEnd g s) (fun _ _ => False) { s with heap := h, toks := tk } := by
  have K := fun (τ : TabA) hτ (m : Str → Option Value) h tk F N nd => law_4 w g L fa cd B' X' T' t τ b TO BO hτ oT oB oS dT dB dS ls vs ns hi hlen hl s h tk m F N nd
  dsimp only [lawEnv, lawRec, recOf, List.drop] at K ⊢
  walk_at "m_fill"
  have N0 := N
  simp only [tabB, treeHd, List.cons_append, List.nil_append] at N
  walk1
  walk_at "m_steps"
  have pm1 : ∀ τ : TabA, ((lsm, listOf sv.toArray c) :: (L + 1, oT) :: (L + 1 + 1, oB) :: (L + 1 + 1 + 1, oS) :: tabB w.params τ t b).Perm (((lsm, listOf sv.toArray c) :: tabB w.params τ t b) ++ [(L + 1, oT), (L + 1 + 1, oB), (L + 1 + 1 + 1, oS)]) := fun τ => by
    generalize tabB w.params τ t b = X
    walk_at "m_perm"
  refine Sp.use (beneath_sp w t τ b nds0 TO BO hτ (by decide) lsm sv [2, 3, 4, 5, 6] c hsv 1 _ (by decide) (by decide) (by decide) (by decide)) [(L + 1, oT), (L + 1 + 1, oB), (L + 1 + 1 + 1, oS)] (law_cx (by assumption) (by k_asm) (by assumption) (by assumption) rfl) (law_dp (Nat.le_of_ble_eq_true rfl)) (law_un (Nat.le_of_ble_eq_true rfl)) (by k_asm) N0 (fun q hq => (pm1 τ).mem_iff.mpr hq) (nodup_perm nd (pm1 τ)) ?_
  rintro v lg' h2 tk2 F2 N2 nd2 kp2 fr2 ⟨τ', rfl, rfl, hτ'⟩
  have N3 := News.sub' N2 (fun q hq => (pm1 τ').mem_iff.mp hq)
  have nd3 := (List.nodup_cons.mp (nodup_perm nd2 (pm1 τ').symm)).2
  clear N2 kp2 fr2
  try clear N0
  have N3' := News.sub' N3 (fun q hq => .tail _ hq)
  clear N3
  have N4 := N3'
  simp only [tabB, treeHd, List.cons_append, List.nil_append] at N4
  walk_at "m_steps"
  rename_i l1 h5 F5 N5 lt5
  have lt5' : ∀ q ∈ (L + 1, oT) :: (L + 1 + 1, oB) :: (L + 1 + 1 + 1, oS) :: tabB w.params τ' t b, q.1 < l1 := fun q hq => by
    simp only [tabB, treeHd, List.cons_append, List.nil_append] at hq
    exact (fun (l : List (Addr × Obj)) (hl : q ∈ l) (h : AllLt l1 l) => ktn_ltOf h q hl) _ hq lt5
  obtain ⟨k5, k3, k2, N5'⟩ : ∃ k5 k3 k2, News g L h5 ((l1, listOf (List.toArray [Value.int ((5 : Nat) : Int) k5, Value.int ((3 : Nat) : Int) k3, Value.int ((2 : Nat) : Int) k2]) 0) :: (L + 1, oT) :: (L + 1 + 1, oB) :: (L + 1 + 1 + 1, oS) :: tabB w.params τ' t b) := ⟨_, _, _, News.sub' N5 (fun q hq => hq)⟩
  have hI1 : IntsAre [Value.int ((5 : Nat) : Int) k5, Value.int ((3 : Nat) : Int) k3, Value.int ((2 : Nat) : Int) k2] (nints [5, 3, 2]) := .cons _ _ (.cons _ _ (.cons _ _ .nil))
  generalize [Value.int ((5 : Nat) : Int) k5, Value.int ((3 : Nat) : Int) k3, Value.int ((2 : Nat) : Int) k2] = us at N5' hI1
  have nd5 := nd_cons (o := listOf (List.toArray us) 0) lt5' nd3
  have pm2 : ∀ τ : TabA, ((l1, listOf (List.toArray us) 0) :: (L + 1, oT) :: (L + 1 + 1, oB) :: (L + 1 + 1 + 1, oS) :: tabB w.params τ t b).Perm (((l1, listOf (List.toArray us) 0) :: tabT w.params τ t) ++ ((L + 1, oT) :: (L + 1 + 1, oB) :: (L + 1 + 1 + 1, oS) :: bookLg b)) := fun τ => by
    refine (List.Perm.append_left [(l1, listOf (List.toArray us) 0), (L + 1, oT), (L + 1 + 1, oB), (L + 1 + 1 + 1, oS)] (tabB_perm w.params τ t b)).trans ?_
    generalize tabT w.params τ t = X
    generalize bookLg b = Y
    walk_at "m_perm"
  refine Sp.use (sorted_any w t τ' nds0 TO hτ' (by decide) l1 us [5, 3, 2] 0 hI1 1 _ (by decide) (by rw [ev0']; decide) (by rw [ev0']; decide) (by decide)) ((L + 1, oT) :: (L + 1 + 1, oB) :: (L + 1 + 1 + 1, oS) :: bookLg b) (law_cx (by assumption) (by k_asm) (by assumption) (by assumption) rfl) (law_dp (Nat.le_of_ble_eq_true rfl)) (law_un (Nat.le_of_ble_eq_true rfl)) F5 N5' (fun q hq => (pm2 τ').mem_iff.mpr hq) (nodup_perm nd5 (pm2 τ')) ?_
  rintro v lg' h6 tk6 F6 N6 nd6 kp6 fr6 ⟨τ2, l', c', vs', ns', own, rfl, rfl, hl', hτ2, hI', hp', hpw'⟩
  obtain rfl := told_sorted hp' hpw'
  clear N5 N5' kp6 fr6 lt5 lt5'
  try clear N3'
  try clear N4
  have hl6 : (l', listOf (List.toArray vs') c') ∈ (own ++ (l1, listOf (List.toArray us) 0) :: tabT w.params τ2 t) ++ ((L + 1, oT) :: (L + 1 + 1, oB) :: (L + 1 + 1 + 1, oS) :: bookLg b) := by
    refine List.mem_append.mpr (.inl ?_)
    rcases List.mem_append.mp hl' with h | h
    · exact List.mem_append.mpr (.inl h)
    · rw [List.mem_singleton.mp h]; exact List.mem_append.mpr (.inr (.head _))
  have pm6 : ((own ++ (l1, listOf (List.toArray us) 0) :: tabT w.params τ2 t) ++ ((L + 1, oT) :: (L + 1 + 1, oB) :: (L + 1 + 1 + 1, oS) :: bookLg b)).Perm (((L + 1, oT) :: (L + 1 + 1, oB) :: (L + 1 + 1 + 1, oS) :: tabB w.params τ2 t b) ++ (own ++ [(l1, listOf (List.toArray us) 0)])) := by
    refine List.Perm.trans ?_ (List.Perm.append_right _ (List.Perm.append_left [(L + 1, oT), (L + 1 + 1, oB), (L + 1 + 1 + 1, oS)] (tabB_perm w.params τ2 t b).symm))
    generalize tabT w.params τ2 t = X
    generalize bookLg b = Y
    walk_at "m_perm"
  generalize hA6 : (own ++ (l1, listOf (List.toArray us) 0) :: tabT w.params τ2 t) ++ ((L + 1, oT) :: (L + 1 + 1, oB) :: (L + 1 + 1 + 1, oS) :: bookLg b) = all6 at N6 nd6 hl6 pm6
  walk_at "m_steps"
  rename_i l8 h8 F8 N8 lt8
  obtain ⟨j5, j3, j2, N8'⟩ : ∃ k5 k3 k2, News g L h8 ((l8, listOf (List.toArray [Value.int ((5 : Nat) : Int) k5, Value.int ((3 : Nat) : Int) k3, Value.int ((2 : Nat) : Int) k2]) 0) :: all6) := ⟨_, _, _, News.sub' N8 (fun q hq => hq)⟩
  k_dflt (refine ne_intsK (us := [Value.int ((5 : Nat) : Int) j5, Value.int ((3 : Nat) : Int) j3, Value.int ((2 : Nat) : Int) j2]) (ms := nints [5, 3, 2]) (News.isList N8' (.tail _ hl6)) hI' (News.isList N8' (.head _)) (.cons _ _ (.cons _ _ (.cons _ _ .nil))) (law_un (Nat.le_of_ble_eq_true rfl)) ?_)
  rw [decide_eq_true rfl]
  have N9 := News.sub' N8' (l' := (L + 1, oT) :: (L + 1 + 1, oB) :: (L + 1 + 1 + 1, oS) :: tabB w.params τ2 t b) (fun q hq => .tail _ (pm6.mem_iff.mpr (List.mem_append.mpr (.inl hq))))
  have nd9 : (adrs ((L + 1, oT) :: (L + 1 + 1, oB) :: (L + 1 + 1 + 1, oS) :: tabB w.params τ2 t b)).Nodup := by
    have h := nodup_perm nd6 pm6
    unfold adrs at h ⊢
    rw [List.map_append, List.nodup_append] at h
    exact h.1
  clear N8 N8'
  walk_at "m_steps"
  rename Fr _ _ _ _ => FF
  exact K τ2 hτ2 _ _ _ (fr_ov [Str.ofString "script"] FF) N9 nd9
end
section
local macro_rules | `(tactic| walk_at "m_own") => `(tactic| first | walk_at "m_ownB")
local macro_rules | `(tactic| walk_at "m_own") => `(tactic| first | (with_reducible show wpAny _ _ (execs (Stmt.If _ _ _ _ :: _) _) _ _ _) | (with_reducible show LCg.CompEnd _ _ _ _ _ _ _ _ _ _ _ _ _ _) | (with_reducible show wpAny _ _ (exec (Stmt.Assign _ (Expr.ListComp _ _ _ _) _) _) _ _ _))
theorem told_word {i : Nat} {v : Value} {k1 k2 k3 k4 k5 : Tok} (h : (#[Value.str (Str.ofString "text") k1, Value.str (Str.ofString "attribute") k2, Value.str (Str.ofString "element") k3, Value.str (Str.ofString "namespace") k4, Value.str (Str.ofString "attribute") k5] : Array Value)[i]? = some v) :
    ∃ kd kw, kd ≠ Kd.root ∧ v = .str (Str.ofString (wordOf kd)) kw ∧ nds0.take (2 + (i + 1)) = nds0.take (2 + i) ++ [⟨kd, some 1⟩] ∧ (nds0.take (2 + i)).length = 2 + i ∧ [2, 3, 4, 5, 6].take (i + 1) = [2, 3, 4, 5, 6].take i ++ [2 + i] ∧ (∃ n, (nds0.take (2 + i))[1]? = some n ∧ n.kd = .elem) := by
  match i, h with
  | 0, h => cases h; exact ⟨.text, _, nofun, rfl, rfl, rfl, rfl, _, rfl, rfl⟩
  | 1, h => cases h; exact ⟨.attr, _, nofun, rfl, rfl, rfl, rfl, _, rfl, rfl⟩
  | 2, h => cases h; exact ⟨.elem, _, nofun, rfl, rfl, rfl, rfl, _, rfl, rfl⟩
  | 3, h => cases h; exact ⟨.ns, _, nofun, rfl, rfl, rfl, rfl, _, rfl, rfl⟩
  | 4, h => cases h; exact ⟨.attr, _, nofun, rfl, rfl, rfl, rfl, _, rfl, rfl⟩
  | n + 5, h => simp at h
set_option maxHeartbeats 8000000 in
theorem law_2 (w : World) (g : Heap) (L fa : Addr) (cd : Value) {loose : List Str} {mean : ExcName → Option Value} {mg mb : Str → Option Value} (B' : Below callerA g [] g) (X' : (Mine.hda.heap_1 w.params).In g) (T' : Top topProg loose mean mg mb g)
    (t : TreeA) (τ : TabA) (b : BookA) (TO : TreeOk t (nds0.take 2)) (BO : BookOk w b (nds0.take 2)) (hτ : TabOk lamPos lamQual τ) (oT oB oS : Obj) (dT : oT.data = .cell (some (.ref t.T))) (dB : oB.data = .cell (some (.ref b.B))) (dS : oS.data = .cell none)
    (ls : Addr) (vs : List Value) (ns : List Int) (hi : IntsAre vs ns) (hlen : ns.length ≤ 63) (hl : g.IsList ls vs.toArray)
    (s : Shared) (h : Heap) (tk : Nat) (m : Str → Option Value) (F : Fr g L h (ov [(Str.ofString "script", some (.ref ls))] m))
    (N : News g L h ((L + 1, oT) :: (L + 1 + 1, oB) :: (L + 1 + 1 + 1, oS) :: tabB w.params τ t b))
    (nd : (adrs ((L + 1, oT) :: (L + 1 + 1, oB) :: (L + 1 + 1 + 1, oS) :: tabB w.params τ t b)).Nodup) :
    wpAny (model PySem.Challenge.rw_xw0206_01.row.prog w) (callerA.deeper (lawEnv L fa cd)) (execs (lawRec.body.drop 2) (lawEnv L fa cd)) (LawEnd g s) (fun _ _ => False) { s with heap := h, toks := tk } := by
  have K := fun (t : TreeA) (b : BookA) TO BO dT dB (lsm : Addr) (sv : List Value) (c : Nat) hsv (m : Str → Option Value) h tk F N nd => law_3 w g L fa cd B' X' T' t τ b TO BO hτ oT oB oS dT dB dS ls vs ns hi hlen hl lsm sv c hsv s h tk m F N nd
  dsimp only [lawEnv, lawRec, recOf, List.drop] at K ⊢
  walk_at "m_fill"
  have N0 := N
  simp only [tabB, treeHd, List.cons_append, List.nil_append] at N
  walk1
  walk_at "m_steps"
  k_dflt (refine LCg.Assign_ListComp_U (F₀ := by k_asm) (by rfl) (by with_unfolding_all rfl) (by with_unfolding_all rfl) (by decide) (by rfl) (by decide) (by rfl) (by rfl) (by rfl) ?_)
  walk_at "m_steps"
  rename_i lw h1 F1 N1 lt1
  obtain ⟨k1, k2, k3, k4, k5, N1'⟩ : ∃ k1 k2 k3 k4 k5, News g L h1 ((lw, listOf #[Value.str (Str.ofString "text") k1, Value.str (Str.ofString "attribute") k2, Value.str (Str.ofString "element") k3, Value.str (Str.ofString "namespace") k4, Value.str (Str.ofString "attribute") k5] 0) :: (L + 1, oT) :: (L + 1 + 1, oB) :: (L + 1 + 1 + 1, oS) :: tabB w.params τ t b) := ⟨_, _, _, _, _, News.sub' N1 (fun q hq => hq)⟩
  have lt1' : ∀ q ∈ (L + 1, oT) :: (L + 1 + 1, oB) :: (L + 1 + 1 + 1, oS) :: tabB w.params τ t b, q.1 < lw := fun q hq => by
    simp only [tabB, treeHd, List.cons_append, List.nil_append] at hq
    exact (fun (l : List (Addr × Obj)) (hl : q ∈ l) (h : AllLt lw l) => ktn_ltOf h q hl) _ hq lt1
  refine LCg.CompSrc.ledger (its := #[Value.str (Str.ofString "text") k1, Value.str (Str.ofString "attribute") k2, Value.str (Str.ofString "element") k3, Value.str (Str.ofString "namespace") k4, Value.str (Str.ofString "attribute") k5]) (by rfl) F1 N1' (.head _) (Nat.le_of_ble_eq_true rfl) ?_
  intro g9
  have nd1 := nd_cons (o := listOf #[Value.str (Str.ofString "text") k1, Value.str (Str.ofString "attribute") k2, Value.str (Str.ofString "element") k3, Value.str (Str.ofString "namespace") k4, Value.str (Str.ofString "attribute") k5] 0) lt1' nd
  generalize hW : (lw, listOf #[Value.str (Str.ofString "text") k1, Value.str (Str.ofString "attribute") k2, Value.str (Str.ofString "element") k3, Value.str (Str.ofString "namespace") k4, Value.str (Str.ofString "attribute") k5] 0) = W at nd1 N1' ⊢
  refine compInv (fun i ys news => ∃ t' b', news = W :: (L + 1, oT) :: (L + 1 + 1, oB) :: (L + 1 + 1 + 1, oS) :: tabB w.params τ t' b' ∧ (adrs news).Nodup ∧ t'.T = t.T ∧ b'.B = b.B ∧ TreeOk t' (nds0.take (2 + i)) ∧ BookOk w b' (nds0.take (2 + i)) ∧ IntsAre ys (nints ([2, 3, 4, 5, 6].take i))) ?_ ?_ _ 0 [] _ (Nat.zero_add _) ⟨t, b, rfl, nd1, rfl, rfl, TO, BO, .nil⟩
  · clear K N1' nd1 nd TO BO lt1 lt1'
    try clear N1
    try clear N0
    try clear N
    rintro i ys news v I oI C oC D m₂ h tk E' hi9 hP ⟨t', b', rfl, ndJ, hT', hB', TO, BO, hys⟩ hC hx F9 N9 off
    obtain ⟨kd, kw, hkd, rfl, hk1, hk2, hk3, hn⟩ := told_word hP
    have N9' := N9
    simp only [tabB, treeHd, List.cons_append, List.nil_append, hT', hB'] at N9
    walk_at "m_steps"
    have offm := off.mem
    have pm3 : ∀ (t : TreeA) (b : BookA), (W :: (L + 1, oT) :: (L + 1 + 1, oB) :: (L + 1 + 1 + 1, oS) :: tabB w.params τ t b).Perm (stLg w.params t b ++ (W :: (L + 1, oT) :: (L + 1 + 1, oB) :: (L + 1 + 1 + 1, oS) :: tabLg τ)) := fun t b => by
      refine (List.Perm.append_left [W, (L + 1, oT), (L + 1 + 1, oB), (L + 1 + 1 + 1, oS)] (tabB_stLg w.params τ t b)).trans ?_
      generalize stLg w.params t b = X
      generalize tabLg τ = Y
      walk_at "m_perm"
    have hput := fun pt => put_sp w t' (nds0.take (2 + i)) b' kd 1 pt kw hkd (by obtain ⟨n, h1, h2⟩ := hn; exact ⟨n, h1, .inl h2⟩) TO BO (by rw [hk2]; have : i < 5 := hi9; omega)
    rw [hT', hB'] at hput
    have hsub : ∀ q ∈ W :: (L + 1, oT) :: (L + 1 + 1, oB) :: (L + 1 + 1 + 1, oS) :: tabB w.params τ t' b', q ∈ (I, oI) :: (C, oC) :: (D, LCg.lst ys) :: (W :: (L + 1, oT) :: (L + 1 + 1, oB) :: (L + 1 + 1 + 1, oS) :: tabB w.params τ t' b') := fun q hq => .tail _ (.tail _ (.tail _ hq))
    refine Sp.use (hput _) (W :: (L + 1, oT) :: (L + 1 + 1, oB) :: (L + 1 + 1 + 1, oS) :: tabLg τ) (law_cx (by assumption) (by k_asm) (by assumption) (by assumption) rfl) (law_dp (Nat.le_of_ble_eq_true rfl)) (law_un (Nat.le_of_ble_eq_true rfl)) F9 N9' (fun q hq => hsub q ((pm3 t' b').mem_iff.mpr hq)) (nodup_perm ndJ (pm3 t' b')) ?_
    rintro v lg' h4 tk4 F4 N4 nd4 kp4 fr4 ⟨t2, b2, kv, rfl, rfl, hT2, hB2, TO2, BO2⟩
    have offI : ∀ q ∈ stLg w.params t' b', q.1 ≠ I ∧ q.1 ≠ C ∧ q.1 ≠ D := fun q hq => offm q ((pm3 t' b').mem_iff.mpr (List.mem_append.mpr (.inl hq)))
    have NI := News.kept (News.sub' N9' (l' := [(I, oI), (C, oC), (D, LCg.lst ys)]) (fun q hq => by
      rcases List.mem_cons.mp hq with rfl | hq
      · exact .head _
      rcases List.mem_cons.mp hq with rfl | hq
      · exact .tail _ (.head _)
      rw [List.mem_singleton.mp hq]; exact .tail _ (.tail _ (.head _)))) kp4 (fun q hq hm => by
      obtain ⟨x, hx, e⟩ := List.mem_map.mp hm
      obtain ⟨o1, o2, o3⟩ := offI x hx
      rcases List.mem_cons.mp hq with rfl | hq
      · exact o1 e
      rcases List.mem_cons.mp hq with rfl | hq
      · exact o2 e
      rw [List.mem_singleton.mp hq] at e; exact o3 e)
    have newI : ∀ q ∈ stLg w.params t2 b2, q.1 ≠ I ∧ q.1 ≠ C ∧ q.1 ≠ D := fun q hq => by
      rcases fr4 q hq with h1 | h1
      · obtain ⟨x, hx, e⟩ := List.mem_map.mp h1
        rw [← e]; exact offI x hx
      · refine ⟨fun e => ?_, fun e => ?_, fun e => ?_⟩
        · have h2 := (N9' (I, oI) (.head _)).1
          dsimp only at h1 h2
          rw [e, h2] at h1; cases h1
        · have h2 := (N9' (C, oC) (.tail _ (.head _))).1
          dsimp only at h1 h2
          rw [e, h2] at h1; cases h1
        · have h2 := (N9' (D, LCg.lst ys) (.tail _ (.tail _ (.head _)))).1
          dsimp only at h1 h2
          rw [e, h2] at h1; cases h1
    have N4' := News.sub' N4 (fun q hq => (pm3 t2 b2).mem_iff.mp hq)
    have nd4' := nodup_perm nd4 (pm3 t2 b2).symm
    have offN : ∀ q ∈ W :: (L + 1, oT) :: (L + 1 + 1, oB) :: (L + 1 + 1 + 1, oS) :: tabB w.params τ t2 b2, q.1 ≠ I ∧ q.1 ≠ C ∧ q.1 ≠ D := fun q hq => by
      rcases List.mem_append.mp ((pm3 t2 b2).mem_iff.mp hq) with h1 | h1
      · exact newI q h1
      · exact offm q ((pm3 t' b').mem_iff.mpr (List.mem_append.mpr (.inr h1)))
    clear kp4 fr4 N9' N4 nd4 hput
    try clear N9
    walk_at "m_steps"
    rw [hk2]
    refine LCg.CompEnd.intro F4 (News.app NI N4') (W :: (L + 1, oT) :: (L + 1 + 1, oB) :: (L + 1 + 1 + 1, oS) :: tabB w.params τ t2 b2) (fun q hq => hq) (LCg.Off3.of offN) (Or.inr ⟨_, by rw [hW]; exact .head _, rfl, _, rfl⟩) ⟨t2, b2, rfl, nd4', hT2, hB2, ?_, ?_, ?_⟩
    · rw [hk1]; exact TO2
    · rw [hk1]; exact BO2
    · rw [hk3]
      simp only [nints, List.map_append, List.map_cons, List.map_nil]
      exact hys.append (.cons _ _ .nil)
  · rintro ys news ⟨t', b', rfl, ndJ, hT', hB', TO', BO', hys⟩
    unfold LCg.FinA
    intro Dn h5 tk5 F5 N5 o5
    have ndD : (adrs ((Dn, LCg.lst ys) :: W :: (L + 1, oT) :: (L + 1 + 1, oB) :: (L + 1 + 1 + 1, oS) :: tabB w.params τ t' b')).Nodup := List.nodup_cons.mpr ⟨fun hm => by
      obtain ⟨q, hq, e⟩ := List.mem_map.mp hm
      exact off1_ne o5 q hq e, ndJ⟩
    have pmD : ((Dn, LCg.lst ys) :: W :: (L + 1, oT) :: (L + 1 + 1, oB) :: (L + 1 + 1 + 1, oS) :: tabB w.params τ t' b').Perm (W :: (Dn, LCg.lst ys) :: (L + 1, oT) :: (L + 1 + 1, oB) :: (L + 1 + 1 + 1, oS) :: tabB w.params τ t' b') := List.Perm.swap ..
    exact K t' b' TO' BO' (by rw [hT']; exact dT) (by rw [hB']; exact dB) Dn ys ys.length hys _ _ _ (fr_ov [Str.ofString "script", Str.ofString "some"] F5) (News.sub' N5 fun q hq => pmD.mem_iff.mpr (.tail _ hq)) (List.nodup_cons.mp (nodup_perm ndD pmD)).2
end
section
local macro_rules | `(tactic| walk_at "m_own") => `(tactic| first | (with_reducible show wpAny _ _ (execs (Stmt.Assign _ (Expr.ListComp _ _ _ _) _ :: _) _) _ _ _) | (with_reducible show wpAny _ _ (eval (Expr.Dict _ _ _) _) _ _ _) | (with_reducible show KdnMade _ _ _ _ _ _ _))
section
variable {prog : Program} {w : World} {A : Around} {E : Value → Shared → Prop} {s : Shared} {h₀ : Heap} {L : Addr} {m : Str → Option Value} {d : Addr} {o : Obj} {all : List (Addr × Obj)} {v : Value}
theorem made_int {Q : Value → Shared → Prop} {vs : List (Value × Value)} {kvs : List (Int × Value)} (others : List (Addr × Obj)) (hc : Carries (intKind prog w) vs kvs) (hk : merged [] kvs = kvs) (F : Fr h₀ L s.heap m) (N : News h₀ L s.heap all) (hs : ∀ p ∈ (d, o) :: others, p ∈ all) (hne : ∀ p ∈ others, p.1 ≠ d) (hd : o.IsDictOf (intKind prog w) [])
    (h : ∀ h' o', Fr h₀ L h' m → News h₀ L h' ((d, o') :: others) → o'.IsDictOf (intKind prog w) kvs → Q (.ref d) { s with heap := h', toks := s.toks + vs.length }) : KdnMade prog w (intKind prog w) d Q vs s := by
  have N1 := News.sub' N hs
  have hm := N1 (d, o) (.head _)
  refine ⟨kvs, hc, Heap.dictOf_iff.mpr ⟨o, hm.1, hd⟩, fun h' hmm hs' => ?_⟩
  rw [hk] at hmm
  obtain ⟨o', ho', hd'⟩ := Heap.dictOf_iff.mp hmm
  refine h h' o' (F.change hs' hm.2.1 hm.2.2) ?_ hd'
  have := News.setIn (own := []) (rest := others) (d := d) (o := o) (N1 : News h₀ L s.heap ([] ++ (d, o) :: others)) (fun p hp => nomatch hp) hne hs' ho'
  simpa using this
end
theorem book_two {w : World} {D Da Db : Addr} {o : Obj} {ka kb kc : Tok} (lo : (D == sysModules) = false) (hd : o.IsDictOf (intKind PySem.Challenge.rw_xw0206_01.row.prog w) [((0 : Int), Value.ref Da), ((1 : Int), Value.ref Db)]) :
    BookOk w ⟨D, o, [⟨Da, .none, .int 2 ka⟩, ⟨Db, .int ((0 : Nat) : Int) kb, .int 2 kc⟩]⟩ (nds0.take 2) := by
  refine ⟨lo, rfl, hd, fun i x n hx hn => ?_⟩
  match i, hx, hn with
  | 0, hx, hn => cases hx; cases hn; exact ⟨rfl, _, rfl⟩
  | 1, hx, hn => cases hx; cases hn; exact ⟨⟨_, rfl⟩, _, rfl⟩
  | i + 2, hx, hn => simp [nds0] at hn
set_option maxHeartbeats 8000000 in
theorem law_0 (w : World) (g : Heap) (L fa : Addr) (cd : Value) {loose : List Str} {mean : ExcName → Option Value} {mg mb : Str → Option Value} (B' : Below callerA g [] g) (X' : (Mine.hda.heap_1 w.params).In g) (T' : Top topProg loose mean mg mb g)
    (τ : TabA) (hτ : TabOk lamPos lamQual τ) (oT oB oS : Obj) (dT : oT.data = .cell none) (dB : oB.data = .cell none) (dS : oS.data = .cell none)
    (ls : Addr) (vs : List Value) (ns : List Int) (hi : IntsAre vs ns) (hlen : ns.length ≤ 63) (hl : g.IsList ls vs.toArray)
    (s : Shared) (h : Heap) (tk : Nat) (m : Str → Option Value) (F : Fr g L h (ov [(Str.ofString "script", some (.ref ls))] m))
    (N : News g L h ((L + 1, oT) :: (L + 1 + 1, oB) :: (L + 1 + 1 + 1, oS) :: tabLg τ))
    (nd : (adrs ((L + 1, oT) :: (L + 1 + 1, oB) :: (L + 1 + 1 + 1, oS) :: tabLg τ)).Nodup) :
    wpAny (model PySem.Challenge.rw_xw0206_01.row.prog w) (callerA.deeper (lawEnv L fa cd)) (execs lawRec.body (lawEnv L fa cd)) (LawEnd g s) (fun _ _ => False) { s with heap := h, toks := tk } := by
  have K := fun (t : TreeA) (b : BookA) TO BO oT oB dT dB (m : Str → Option Value) h tk F N nd => law_2 w g L fa cd B' X' T' t τ b TO BO hτ oT oB oS dT dB dS ls vs ns hi hlen hl s h tk m F N nd
  dsimp only [lawEnv, lawRec, recOf, List.drop] at K ⊢
  walk_at "m_fill"
  have N0 := N
  simp only [tabLg] at N
  walk1
  walk_at "m_steps"
  rename_i xT dTd h_b F_b N_b l1a l2a g_b L_b h_c FG_b B_b X_b T_b tk_b lR h_d l1b h_e F_e N_e kF kN Tc kX
  k_dflt (refine' kdn_eval (knd := intKind PySem.Challenge.rw_xw0206_01.row.prog _) ?F ?N ?b ?a ?l ?e ?n ?_; (case F => k_asm); (case N => k_asm); (case b => exact Top.nolimit (by k_asm)); (case a => rfl); (case l => rfl); (case e => exact List.cons_ne_nil _ _); (case n => exact Nat.le_of_ble_eq_true rfl))
  intro dD h2 oD F2 N2 lD loD hdD
  walk_at "m_steps"
  rename_i Da h_f l1d Db h_g F4 N4 l1e
  obtain ⟨k0, ka, kb, kc, N4'⟩ : ∃ k0 ka kb kc, News g L h_g ((Db, tupObj [Value.int ((0 : Nat) : Int) kb, Value.int 2 kc]) :: (Da, tupObj [Value.none, Value.int 2 ka]) :: (dD, oD) :: (lR, listOf #[] 0) :: (xT, instObj 272 dTd) :: (dTd, dictOf (treeEs w.params k0 lR) 1) :: (L + 1, oT) :: (L + 1 + 1, oB) :: (L + 1 + 1 + 1, oS) :: tabLg τ) := ⟨_, _, _, _, News.sub' N4 (fun q hq => hq)⟩
  have q3 : ∀ q ∈ (L + 1, oT) :: (L + 1 + 1, oB) :: (L + 1 + 1 + 1, oS) :: tabLg τ, q.1 < dTd := fun q hq => by
    simp only [tabLg] at hq
    exact (fun (l : List (Addr × Obj)) (hl : q ∈ l) (h : AllLt dTd l) => ktn_ltOf h q hl) _ hq l1a
  have nd5 := nd_cons (o := instObj 272 dTd) (l := (dTd, dictOf (treeEs w.params k0 lR) 1) :: (L + 1, oT) :: (L + 1 + 1, oB) :: (L + 1 + 1 + 1, oS) :: tabLg τ) (fun q hq => by
    rcases List.mem_cons.mp hq with rfl | hq
    · exact l2a
    · exact Nat.lt_trans (q3 q hq) l2a) (nd_cons q3 nd)
  have q5 : ∀ q ∈ (xT, instObj 272 dTd) :: (dTd, dictOf (treeEs w.params k0 lR) 1) :: (L + 1, oT) :: (L + 1 + 1, oB) :: (L + 1 + 1 + 1, oS) :: tabLg τ, q.1 < lR := fun q hq => by
    rcases List.mem_cons.mp hq with rfl | hq
    · exact l1b.1
    rcases List.mem_cons.mp hq with rfl | hq
    · exact l1b.2.1
    · exact Nat.lt_trans (Nat.lt_trans (q3 q hq) l2a) l1b.1
  have hdD1 : lR < dD := lD _ (.head _)
  have q6 : ∀ q ∈ (lR, listOf #[] 0) :: (xT, instObj 272 dTd) :: (dTd, dictOf (treeEs w.params k0 lR) 1) :: (L + 1, oT) :: (L + 1 + 1, oB) :: (L + 1 + 1 + 1, oS) :: tabLg τ, q.1 < dD := fun q hq => by
    rcases List.mem_cons.mp hq with rfl | hq
    · exact hdD1
    · exact Nat.lt_trans (q5 q hq) hdD1
  have q7 : ∀ q ∈ (lR, listOf #[] 0) :: (xT, instObj 272 dTd) :: (dTd, dictOf (treeEs w.params k0 lR) 1) :: (L + 1, oT) :: (L + 1 + 1, oB) :: (L + 1 + 1 + 1, oS) :: tabLg τ, q.1 < Da := fun q hq => Nat.lt_trans (q6 q hq) l1d.1
  refine made_int (kvs := [((0 : Int), .ref Da), ((1 : Int), .ref Db)]) ((Db, tupObj [Value.int ((0 : Nat) : Int) kb, Value.int 2 kc]) :: (Da, tupObj [Value.none, Value.int 2 ka]) :: (lR, listOf #[] 0) :: (xT, instObj 272 dTd) :: (dTd, dictOf (treeEs w.params k0 lR) 1) :: (L + 1, oT) :: (L + 1 + 1, oB) :: (L + 1 + 1 + 1, oS) :: tabLg τ) ⟨rfl, rfl, rfl, rfl, trivial⟩ rfl F4 N4' (fun q hq => by
    rcases List.mem_cons.mp hq with rfl | hq
    · exact .tail _ (.tail _ (.head _))
    rcases List.mem_cons.mp hq with rfl | hq
    · exact .head _
    rcases List.mem_cons.mp hq with rfl | hq
    · exact .tail _ (.head _)
    · exact .tail _ (.tail _ (.tail _ hq))) (fun q hq => by
    rcases List.mem_cons.mp hq with rfl | hq
    · exact Nat.ne_of_gt l1e.2.1
    rcases List.mem_cons.mp hq with rfl | hq
    · exact Nat.ne_of_gt l1d.1
    · exact Nat.ne_of_lt (q6 q hq)) hdD ?_
  intro h5 oD5 F5 N5 hD5
  clear N4 N4'
  walk_at "m_steps"
  rename Fr _ _ _ _ => F6
  rename News _ _ _ _ => N6
  have nd6 := nd_cons (o := listOf #[] 0) q5 nd5
  have nd7 := nd_cons (o := tupObj [Value.none, Value.int 2 ka]) q7 nd6
  have q8 : ∀ q ∈ (Da, tupObj [Value.none, Value.int 2 ka]) :: (lR, listOf #[] 0) :: (xT, instObj 272 dTd) :: (dTd, dictOf (treeEs w.params k0 lR) 1) :: (L + 1, oT) :: (L + 1 + 1, oB) :: (L + 1 + 1 + 1, oS) :: tabLg τ, q.1 < Db := fun q hq => by
    rcases List.mem_cons.mp hq with rfl | hq
    · exact l1e.1
    · exact Nat.lt_trans (q7 q hq) l1e.1
  have nd8 := nd_cons (o := tupObj [Value.int ((0 : Nat) : Int) kb, Value.int 2 kc]) q8 nd7
  have nd9 : (adrs ((dD, oD5) :: (Db, tupObj [Value.int ((0 : Nat) : Int) kb, Value.int 2 kc]) :: (Da, tupObj [Value.none, Value.int 2 ka]) :: (lR, listOf #[] 0) :: (xT, instObj 272 dTd) :: (dTd, dictOf (treeEs w.params k0 lR) 1) :: (L + 1, oT) :: (L + 1 + 1, oB) :: (L + 1 + 1 + 1, oS) :: tabLg τ)).Nodup := List.nodup_cons.mpr ⟨fun hm => by
    obtain ⟨q, hq, e⟩ := List.mem_map.mp hm
    rcases List.mem_cons.mp hq with rfl | hq
    · exact Nat.ne_of_gt l1e.2.1 e
    rcases List.mem_cons.mp hq with rfl | hq
    · exact Nat.ne_of_gt l1d.1 e
    · exact Nat.ne_of_lt (q6 q hq) e, nd8⟩
  obtain ⟨t0, b0, hT0, hB0, TO0, BO0, pm9⟩ : ∃ (t0 : TreeA) (b0 : BookA), t0.T = xT ∧ b0.B = dD ∧ TreeOk t0 [] ∧ BookOk w b0 (nds0.take 2) ∧ ((dD, oD5) :: (Db, tupObj [Value.int ((0 : Nat) : Int) kb, Value.int 2 kc]) :: (Da, tupObj [Value.none, Value.int 2 ka]) :: (lR, listOf #[] 0) :: (xT, instObj 272 dTd) :: (dTd, dictOf (treeEs w.params k0 lR) 1) :: (L + 1, oT) :: (L + 1 + 1, oB) :: (L + 1 + 1 + 1, oS) :: tabLg τ).Perm ((L + 1, oT) :: ((L + 1 + 1, oB) :: (L + 1 + 1 + 1, oS) :: tabB w.params τ t0 b0)) := by
    refine ⟨⟨xT, dTd, lR, k0, 0, []⟩, ⟨dD, oD5, [⟨Da, .none, .int 2 ka⟩, ⟨Db, .int ((0 : Nat) : Int) kb, .int 2 kc⟩]⟩, rfl, rfl, treeOk_nil, book_two loD hD5, ?_⟩
    show List.Perm _ ((L + 1, oT) :: ((L + 1 + 1, oB) :: (L + 1 + 1 + 1, oS) :: (30, tabObj τ.ps) :: (dD, oD5) :: ([(xT, instObj 272 dTd), (dTd, dictOf (treeEs w.params k0 lR) 1), (lR, listOf #[] 0)] ++ (τ.own ++ ([(Da, tupObj [Value.none, Value.int 2 ka]), (Db, tupObj [Value.int ((0 : Nat) : Int) kb, Value.int 2 kc])] ++ [])))))
    unfold tabLg
    generalize τ.own = X
    generalize (Db, tupObj [Value.int ((0 : Nat) : Int) kb, Value.int 2 kc]) = Y
    generalize (Da, tupObj [Value.none, Value.int 2 ka]) = Z
    walk_at "m_perm"
  have N7 := News.sub' N6 (l' := (L + 1, oT) :: ((L + 1 + 1, oB) :: (L + 1 + 1 + 1, oS) :: tabB w.params τ t0 b0)) (fun q hq => .tail _ (pm9.mem_iff.mpr hq))
  have ndA := nodup_perm nd9 pm9
  clear pm9 nd9 nd8 nd7 nd6 nd5 q8 q7 q6 q5 q3 l1a l2a l1b l1d l1e lD hdD1 N6 hD5 loD hdD
  subst hT0 hB0
  k_dflt (refine storeX_C F6 N7 (by rfl) (UpdF.head (ne_front ndA (.refl _))) dT ?_)
  intro h8 oT8 F8 N8 dT8
  have ndB : (adrs ((L + 1 + 1, oB) :: ((L + 1, oT8) :: (L + 1 + 1 + 1, oS) :: tabB w.params τ t0 b0))).Nodup := nodup_perm (a := (L + 1, oT8) :: (L + 1 + 1, oB) :: (L + 1 + 1 + 1, oS) :: tabB w.params τ t0 b0) ndA (List.Perm.swap ..)
  have N9 := News.sub' N8 (l' := (L + 1 + 1, oB) :: ((L + 1, oT8) :: (L + 1 + 1 + 1, oS) :: tabB w.params τ t0 b0)) (fun q hq => (List.Perm.swap ..).mem_iff.mp hq)
  clear N8 N7 ndA dT
  walk_at "m_steps"
  k_dflt (refine storeX_C F8 N9 (by rfl) (UpdF.head (ne_front ndB (.refl _))) dB ?_)
  intro h10 oB10 F10 N10 dB10
  have ndC : (adrs ((L + 1, oT8) :: (L + 1 + 1, oB10) :: (L + 1 + 1 + 1, oS) :: tabB w.params τ t0 b0)).Nodup := nodup_perm (a := (L + 1 + 1, oB10) :: ((L + 1, oT8) :: (L + 1 + 1 + 1, oS) :: tabB w.params τ t0 b0)) ndB (List.Perm.swap ..)
  have N11 := News.sub' N10 (l' := (L + 1, oT8) :: (L + 1 + 1, oB10) :: (L + 1 + 1 + 1, oS) :: tabB w.params τ t0 b0) (fun q hq => (List.Perm.swap ..).mem_iff.mp hq)
  clear N9 N10 ndB dB
  have N12 := N11
  simp only [tabB, treeHd, List.cons_append, List.nil_append] at N12
  walk_at "m_steps"
  have pm3 : ∀ t : TreeA, ((L + 1, oT8) :: (L + 1 + 1, oB10) :: (L + 1 + 1 + 1, oS) :: tabB w.params τ t b0).Perm (treeLg w.params t ++ ((L + 1, oT8) :: (L + 1 + 1, oB10) :: (L + 1 + 1 + 1, oS) :: (tabLg τ ++ bookLg b0))) := fun t => by
    refine (List.Perm.append_left [(L + 1, oT8), (L + 1 + 1, oB10), (L + 1 + 1 + 1, oS)] (tabB_tree w.params τ t b0)).trans ?_
    generalize treeLg w.params t = X
    generalize tabLg τ = Y
    generalize bookLg b0 = Z
    walk_at "m_perm"
  refine Sp.use (new_root_sp w t0 [] TO0 (by decide)) ((L + 1, oT8) :: (L + 1 + 1, oB10) :: (L + 1 + 1 + 1, oS) :: (tabLg τ ++ bookLg b0)) (law_cx (by assumption) (by k_asm) (by assumption) (by assumption) rfl) (law_dp (Nat.le_of_ble_eq_true rfl)) (law_un (Nat.le_of_ble_eq_true rfl)) (by k_asm) N11 (fun q hq => (pm3 t0).mem_iff.mpr hq) (nodup_perm ndC (pm3 t0)) ?_
  rintro v lg' h13 tk13 F13 N13 nd13 kp13 fr13 ⟨t1, k1, rfl, rfl, hT1, TO1⟩
  have N14 := News.sub' N13 (fun q hq => (pm3 t1).mem_iff.mp hq)
  have nd14 := nodup_perm nd13 (pm3 t1).symm
  clear N13 nd13 kp13 fr13 N11
  try clear N12
  have N15 := N14
  simp only [tabB, treeHd, List.cons_append, List.nil_append, hT1] at N15
  walk_at "m_steps"
  have hadd := fun k2 k3 k4 => add_element_sp w t1 [⟨.root, none⟩] (some 0) (.int ((0 : Nat) : Int) k1) (Str.ofString "e") (Str.ofString "") (Str.ofString "e") k2 k3 k4 ⟨_, rfl⟩ (fun q hq => by cases hq; exact ⟨_, rfl, .inl rfl⟩) TO1 (by decide)
  rw [hT1] at hadd
  refine Sp.use (hadd _ _ _) ((L + 1, oT8) :: (L + 1 + 1, oB10) :: (L + 1 + 1 + 1, oS) :: (tabLg τ ++ bookLg b0)) (law_cx (by assumption) (by k_asm) (by assumption) (by assumption) rfl) (law_dp (Nat.le_of_ble_eq_true rfl)) (law_un (Nat.le_of_ble_eq_true rfl)) (by k_asm) N14 (fun q hq => (pm3 t1).mem_iff.mpr hq) (nodup_perm nd14 (pm3 t1)) ?_
  rintro v lg' h16 tk16 F16 N16 nd16 kp16 fr16 ⟨t2, k2, rfl, rfl, hT2, TO2⟩
  have N17 := News.sub' N16 (fun q hq => (pm3 t2).mem_iff.mp hq)
  have nd17 := nodup_perm nd16 (pm3 t2).symm
  have hT3 : t2.T = t0.T := hT2.trans hT1
  clear N16 nd16 kp16 fr16 N14 hadd
  try clear N15
  walk_at "m_steps"
  rename Fr _ _ _ _ => FF
  exact K t2 b0 TO2 BO0 oT8 oB10 (by rw [hT3]; exact dT8) dB10 _ _ _ FF N17 nd17
end
theorem law_all (w : World) (g : Heap) (L fa : Addr) (cd : Value) {loose : List Str} {mean : ExcName → Option Value} {mg mb : Str → Option Value} (B' : Below callerA g [] g) (X' : (Mine.hda.heap_1 w.params).In g) (T' : Top topProg loose mean mg mb g)
    (oT oB oS : Obj) (dT : oT.data = .cell none) (dB : oB.data = .cell none) (dS : oS.data = .cell none)
    (ls : Addr) (vs : List Value) (ns : List Int) (hi : IntsAre vs ns) (hlen : ns.length ≤ 63) (hl : g.IsList ls vs.toArray)
    (s : Shared) (m : Str → Option Value) (hm : m (Str.ofString "script") = some (.ref ls)) (F : Fr g L s.heap m)
    (N : News g L s.heap [(L + 1 + 1 + 1, oS), (L + 1 + 1, oB), (L + 1, oT), (30, tabObj #[])]) (h30 : (30 : Nat) < L) :
    wpAny (model PySem.Challenge.rw_xw0206_01.row.prog w) (callerA.deeper (lawEnv L fa cd)) (execs lawRec.body (lawEnv L fa cd)) (LawEnd g s) (fun _ _ => False) s := by
  have F2 := fr_ov [Str.ofString "script"] F
  simp only [List.map_cons, List.map_nil, hm] at F2
  refine law_0 w g L fa cd B' X' T' ⟨#[], []⟩ (.inl rfl) oT oB oS dT dB dS ls vs ns hi hlen hl s s.heap s.toks m F2 (News.sub' N fun q hq => ?_) ?_
  · rcases List.mem_cons.mp hq with rfl | hq
    · exact .tail _ (.tail _ (.head _))
    rcases List.mem_cons.mp hq with rfl | hq
    · exact .tail _ (.head _)
    rcases List.mem_cons.mp hq with rfl | hq
    · exact .head _
    · exact .tail _ (.tail _ (.tail _ hq))
  · show ([L + 1, L + 1 + 1, L + 1 + 1 + 1, (30 : Addr)] : List Nat).Nodup
    have h30' : (30 : Nat) < L := h30
    simp only [List.nodup_cons, List.mem_cons, List.not_mem_nil, or_false, not_or, not_false_eq_true, List.nodup_nil, and_true]
    refine ⟨⟨?_, ?_, ?_⟩, ⟨?_, ?_⟩, ?_⟩ <;> omega
noncomputable def whole.tw4448639621723721718 : Nat := 0
noncomputable def whole.tw17692944630003236201 : Nat := 0
noncomputable def whole.tw495720629074364255 : Nat := 0
noncomputable def whole.tw3849547445267146679 : Nat := 0
noncomputable def whole.tw14186530552567008396 : Nat := 0
noncomputable def whole.tw1470681187219097129 : Nat := 0
noncomputable def whole.tw15207301369249283619 : Nat := 0
noncomputable def whole.tw13915254802488888075 : Nat := 0
noncomputable def whole.tw16745824039161050089 : Nat := 0
noncomputable def whole.tw382209548831329165 : Nat := 0
noncomputable def whole.tw12484011378766964031 : Nat := 0
noncomputable def whole.tw12294887724330564330 : Nat := 0
noncomputable def whole.tw2481933987717600862 : Nat := 0
noncomputable def whole.tw1242133270297695508 : Nat := 0
noncomputable def whole.tw3720110479823389818 : Nat := 0
noncomputable def whole.tw14117439955800268797 : Nat := 0
noncomputable def whole.tw10798131782317453341 : Nat := 0
noncomputable def whole.tw2083198920140632441 : Nat := 0
noncomputable def whole.tw9775085227918541326 : Nat := 0
noncomputable def whole.tw5099900934548537757 : Nat := 0
noncomputable def whole.tw5462770333876777704 : Nat := 0
noncomputable def whole.tw17789319016849944305 : Nat := 0
noncomputable def whole.tw14621228733418778453 : Nat := 0
noncomputable def whole.tw420889256603489644 : Nat := 0
noncomputable def whole.tw2021854409746315462 : Nat := 0
noncomputable def whole.tw8309436690622926411 : Nat := 0
noncomputable def whole.tw10887019763833697050 : Nat := 0
noncomputable def whole.tw13675596732203519343 : Nat := 0
noncomputable def whole.tw5532809562029925614 : Nat := 0
noncomputable def whole.tw15189915617685484396 : Nat := 0
noncomputable def whole.tw10472183733418339316 : Nat := 0
noncomputable def whole.tw6421574377784992043 : Nat := 0
noncomputable def whole.tw9654072969724333583 : Nat := 0
noncomputable def whole.tw9521756469634577901 : Nat := 0
noncomputable def whole.tw6714927969197098277 : Nat := 0
noncomputable def whole.tw14165115802777765920 : Nat := 0
noncomputable def whole.tw16738726308800667447 : Nat := 0
noncomputable def whole.tw17819583843959417973 : Nat := 0
noncomputable def whole.tw2201306404548609547 : Nat := 0
noncomputable def whole.tw4234479992401935053 : Nat := 0
noncomputable def whole.tw13285438998962464343 : Nat := 0
noncomputable def whole.tw5201323674647411954 : Nat := 0
noncomputable def whole.tw13262402704330787269 : Nat := 0
noncomputable def whole.tw14654356449610600485 : Nat := 0
noncomputable def whole.tw1655710756853794721 : Nat := 0
noncomputable def whole.tw6150244297128479101 : Nat := 0
noncomputable def whole.tw17529894129228449367 : Nat := 0
noncomputable def whole.tw15274856360797078626 : Nat := 0
noncomputable def whole.tw10467399731503315703 : Nat := 0
noncomputable def whole.tw9347626172496877827 : Nat := 0
noncomputable def whole.tw1329479340354266572 : Nat := 0
noncomputable def whole.tw6525215580464160042 : Nat := 0
noncomputable def whole.tw5477020428343274486 : Nat := 0
noncomputable def whole.tw17128258169734466478 : Nat := 0
noncomputable def whole.tw7078629122812257199 : Nat := 0
noncomputable def whole.tw161632788893874429 : Nat := 0
noncomputable def whole.tw16304597587823193687 : Nat := 0
noncomputable def whole.tw5233578499609466721 : Nat := 0
noncomputable def whole.tw4725433933799282014 : Nat := 0
noncomputable def whole.tw9200330197067421115 : Nat := 0
noncomputable def whole.tw17463027529269885953 : Nat := 0
noncomputable def whole.tw2536362301702204066 : Nat := 0
noncomputable def whole.tw6377287985247879410 : Nat := 0
noncomputable def whole.tw5055955640874334904 : Nat := 0
noncomputable def whole.tw7925426705801168976 : Nat := 0
noncomputable def whole.tw13835169320686990480 : Nat := 0
noncomputable def whole.tw254780913952180833 : Nat := 0
noncomputable def whole.tw4603890583814415204 : Nat := 0
noncomputable def whole.tw12381228794656768651 : Nat := 0
noncomputable def whole.tw3817958767811374121 : Nat := 0
noncomputable def whole.tw5649241889958590350 : Nat := 0
noncomputable def whole.tw16564990636065421569 : Nat := 0
noncomputable def whole.tw6018008695308894833 : Nat := 0
noncomputable def whole.tw9685896690342822935 : Nat := 0
noncomputable def whole.tw397210227534267232 : Nat := 0
noncomputable def whole.tw9212966250080664162 : Nat := 0
noncomputable def whole.tw15462414832971340256 : Nat := 0
noncomputable def whole.tw18162983195158539490 : Nat := 0
noncomputable def whole.tw3604371722874584219 : Nat := 0
noncomputable def whole.tw17881794589497109145 : Nat := 0
noncomputable def whole.tw772474843232632690 : Nat := 0
noncomputable def whole.tw4444701892398472603 : Nat := 0
noncomputable def whole.tw9464417701048127947 : Nat := 0
noncomputable def whole.tw12852820008105578649 : Nat := 0
noncomputable def whole.tw10565146586650446459 : Nat := 0
noncomputable def whole.tw11316320225543275868 : Nat := 0
noncomputable def whole.tw14381574177426341226 : Nat := 0
noncomputable def whole.tw9501391760213346845 : Nat := 0
noncomputable def whole.tw7645621925510333512 : Nat := 0
noncomputable def whole.tw15539963934695697727 : Nat := 0
noncomputable def whole.tw10000958634945066235 : Nat := 0
noncomputable def whole.tw13155097880312403346 : Nat := 0
noncomputable def whole.tw9841425051670495895 : Nat := 0
noncomputable def whole.tw6612613915786651340 : Nat := 0
noncomputable def whole.tw3162365515331879682 : Nat := 0
noncomputable def whole.tw843396670912023852 : Nat := 0
noncomputable def whole.tw18315055452531851272 : Nat := 0
noncomputable def whole.tw10344827342348678470 : Nat := 0
noncomputable def whole.tw9725988738643398560 : Nat := 0
noncomputable def whole.tw12219512705738599021 : Nat := 0
noncomputable def whole.tw3860174431591174066 : Nat := 0
noncomputable def whole.tw13829708278779851847 : Nat := 0
noncomputable def whole.tw10838650209671834137 : Nat := 0
noncomputable def whole.tw5360207378560713126 : Nat := 0
noncomputable def whole.tw9988426361468213469 : Nat := 0
noncomputable def whole.tw1699034841665187622 : Nat := 0
noncomputable def whole.tw6766658173562982576 : Nat := 0
noncomputable def whole.tw437534634077163847 : Nat := 0
noncomputable def whole.tw668774492082921180 : Nat := 0
noncomputable def whole.tw10749463760870054271 : Nat := 0
noncomputable def whole.tw12092817750456807627 : Nat := 0
noncomputable def whole.tw2777902329107566167 : Nat := 0
noncomputable def whole.tw3141554390599180669 : Nat := 0
noncomputable def whole.tw2608646628457097981 : Nat := 0
noncomputable def whole.tw12117460353608821864 : Nat := 0
noncomputable def whole.tw10339747121181971505 : Nat := 0
noncomputable def whole.tw4479364801722962140 : Nat := 0
noncomputable def whole.tw11793381155483064346 : Nat := 0
noncomputable def whole.tw7499365098147365621 : Nat := 0
noncomputable def whole.tw213970696928864655 : Nat := 0
noncomputable def whole.tw7545654013535254480 : Nat := 0
noncomputable def whole.tw17843127513448600897 : Nat := 0
noncomputable def whole.tw1256279898242784606 : Nat := 0
noncomputable def whole.tw13156973312945586846 : Nat := 0
noncomputable def whole.tw1182916100746360932 : Nat := 0
noncomputable def whole.tw2290268214366725154 : Nat := 0
noncomputable def whole.tw7545590854473540767 : Nat := 0
noncomputable def whole.tw9046693723037758376 : Nat := 0
noncomputable def whole.tw18060336119277286115 : Nat := 0
noncomputable def whole.tw16731332320388202666 : Nat := 0
noncomputable def whole.tw9787344453429475573 : Nat := 0
noncomputable def whole.tw13463558215457259582 : Nat := 0
noncomputable def whole.tw10602399703277881627 : Nat := 0
noncomputable def whole.tw6734874506966982255 : Nat := 0
noncomputable def whole.tw5015864234111024480 : Nat := 0
noncomputable def whole.tw3909395182359919685 : Nat := 0
noncomputable def whole.tw8101450032967502455 : Nat := 0
noncomputable def whole.tw11792362355297244138 : Nat := 0
noncomputable def whole.tw14302830165969023719 : Nat := 0
noncomputable def whole.tw12012580348766612465 : Nat := 0
noncomputable def whole.tw15001587830400145190 : Nat := 0
noncomputable def whole.tw6531100040246800141 : Nat := 0
noncomputable def whole.tw16912792503757511054 : Nat := 0
noncomputable def whole.tw9305182965593076673 : Nat := 0
noncomputable def whole.tw15652777202477211125 : Nat := 0
noncomputable def whole.tw4535560162481520197 : Nat := 0
noncomputable def whole.tw15206955865107345967 : Nat := 0
noncomputable def whole.tw4180466227808675834 : Nat := 0
noncomputable def whole.tw3150075250938504248 : Nat := 0
noncomputable def whole.tw7101197657001211085 : Nat := 0
noncomputable def whole.tw6823266097380344784 : Nat := 0
noncomputable def whole.tw6330797023819526829 : Nat := 0
noncomputable def whole.tw12762855891700095494 : Nat := 0
noncomputable def whole.tw5438831827131416888 : Nat := 0
noncomputable def whole.tw14661705875561194100 : Nat := 0
noncomputable def whole.tw17475311184863085016 : Nat := 0
noncomputable def whole.tw10178181129370835086 : Nat := 0
noncomputable def whole.tw3085902745639715626 : Nat := 0
noncomputable def whole.tw8341004590406740810 : Nat := 0
noncomputable def whole.tw7856580471358416282 : Nat := 0
noncomputable def whole.tw15105012252411618398 : Nat := 0
noncomputable def whole.tw13962616709173656972 : Nat := 0
noncomputable def whole.tw14031613983174702221 : Nat := 0
noncomputable def whole.tw4918820536221260690 : Nat := 0
noncomputable def whole.tw11876454138822706389 : Nat := 0
noncomputable def whole.tw15401142651479110994 : Nat := 0
noncomputable def whole.tw536816803628104207 : Nat := 0
noncomputable def whole.tw9722750020625992282 : Nat := 0
noncomputable def whole.tw15835130817642446534 : Nat := 0
noncomputable def whole.tw16151222146762293071 : Nat := 0
noncomputable def whole.tw11966515284280811977 : Nat := 0
noncomputable def whole.tw17195952149560314771 : Nat := 0
noncomputable def whole.tw12442016628978143412 : Nat := 0
noncomputable def whole.tw6711224856247384401 : Nat := 0
noncomputable def whole.tw12976933641374925533 : Nat := 0
noncomputable def whole.tw9170513070990267023 : Nat := 0
noncomputable def whole.tw7564407027854533171 : Nat := 0
noncomputable def whole.tw4338333698743118245 : Nat := 0
noncomputable def whole.tw5001923725869043736 : Nat := 0
noncomputable def whole.tw3125283655325999989 : Nat := 0
noncomputable def whole.tw16529046165737248422 : Nat := 0
noncomputable def whole.tw17991299263585117788 : Nat := 0
noncomputable def whole.tw5081031077709457048 : Nat := 0
noncomputable def whole.tw12066178620653064874 : Nat := 0
noncomputable def whole.tw46433443316919834 : Nat := 0
noncomputable def whole.tw7689902935678670512 : Nat := 0
noncomputable def whole.tw13468923340822585488 : Nat := 0
noncomputable def whole.tw14776171463994254414 : Nat := 0
noncomputable def whole.tw16595449952281916149 : Nat := 0
noncomputable def whole.tw675793542917168019 : Nat := 0
noncomputable def whole.tw1601961968588287001 : Nat := 0
noncomputable def whole.tw13000713063990318526 : Nat := 0
noncomputable def whole.tw13730376311393935369 : Nat := 0
noncomputable def whole.tw5790326999694950120 : Nat := 0
noncomputable def whole.tw1318554304652621475 : Nat := 0
noncomputable def whole.tw9838295914634562783 : Nat := 0
noncomputable def whole.tw6084657873442493111 : Nat := 0
noncomputable def whole.tw14725644924352215136 : Nat := 0
noncomputable def whole.tw7276013540153241084 : Nat := 0
noncomputable def whole.tw6095937858554715304 : Nat := 0
noncomputable def whole.tw3306209509626126654 : Nat := 0
noncomputable def whole.tw1633898876240874773 : Nat := 0
noncomputable def whole.tw1934810232205804993 : Nat := 0
noncomputable def whole.tw17948893368442150300 : Nat := 0
noncomputable def whole.tw5297632933804744799 : Nat := 0
noncomputable def whole.tw12928932934922122878 : Nat := 0
noncomputable def whole.tw8523286992835677893 : Nat := 0
noncomputable def whole.tw7576292583959916747 : Nat := 0
noncomputable def whole.tw13061340530893119238 : Nat := 0
noncomputable def whole.tw10616696396452150886 : Nat := 0
noncomputable def whole.tw16616245412964173377 : Nat := 0
noncomputable def whole.tw13329942582686594379 : Nat := 0
noncomputable def whole.tw4447922135398794285 : Nat := 0
noncomputable def whole.tw11357175057958205107 : Nat := 0
noncomputable def whole.tw1587768003098754325 : Nat := 0
noncomputable def whole.tw7073311072910153293 : Nat := 0
noncomputable def whole.tw10379991877525085312 : Nat := 0
noncomputable def whole.tw11187447588885237514 : Nat := 0
noncomputable def whole.tw11952309323241053379 : Nat := 0
noncomputable def whole.tw12740454516981205806 : Nat := 0
noncomputable def whole.tw6266228650988000492 : Nat := 0
noncomputable def whole.tw13960669724093699300 : Nat := 0
noncomputable def whole.tw14138553856905868755 : Nat := 0
noncomputable def whole.tw2198523743367551842 : Nat := 0
noncomputable def whole.tw11670040512431834200 : Nat := 0
noncomputable def whole.tw3099174332690161747 : Nat := 0
noncomputable def whole.tw561600600097829391 : Nat := 0
noncomputable def whole.tw8454442166302862320 : Nat := 0
noncomputable def whole.tw15103685750691789098 : Nat := 0
noncomputable def whole.tw6872907005359335961 : Nat := 0
noncomputable def whole.tw12967805889597932581 : Nat := 0
noncomputable def whole.tw12742087137024979937 : Nat := 0
noncomputable def whole.tw9406530864695525851 : Nat := 0
noncomputable def whole.tw6888942637506950926 : Nat := 0
noncomputable def whole.tw11116944545036436439 : Nat := 0
noncomputable def whole.tw8444963059077079450 : Nat := 0
noncomputable def whole.tw17700112632457955127 : Nat := 0
noncomputable def whole.tw2249504304506360813 : Nat := 0
noncomputable def whole.tw6472696656209681604 : Nat := 0
noncomputable def whole.tw4337987958061720545 : Nat := 0
noncomputable def whole.tw6891315699540082446 : Nat := 0
noncomputable def whole.tw4689585835679557668 : Nat := 0
noncomputable def whole.tw6416634858453334624 : Nat := 0
noncomputable def whole.tw14493418047887008292 : Nat := 0
noncomputable def whole.tw14857529406646634625 : Nat := 0
noncomputable def whole.tw6049599900894316688 : Nat := 0
noncomputable def whole.tw15657491793718945610 : Nat := 0
noncomputable def whole.tw2649048575011448004 : Nat := 0
noncomputable def whole.tw4934077235998201596 : Nat := 0
noncomputable def whole.tw5798653541585068671 : Nat := 0
noncomputable def whole.tw9315315907157715723 : Nat := 0
noncomputable def whole.tw6453619897266653623 : Nat := 0
noncomputable def whole.tw620233503781600244 : Nat := 0
noncomputable def whole.tw8884531897199943920 : Nat := 0
noncomputable def whole.tw17768757769460313278 : Nat := 0
noncomputable def whole.tw11384259339768038936 : Nat := 0
noncomputable def whole.tw949743934663060849 : Nat := 0
noncomputable def whole.tw4772658413541480157 : Nat := 0
noncomputable def whole.tw9994479494313819776 : Nat := 0
noncomputable def whole.tw6866068747796929802 : Nat := 0
noncomputable def whole.tw12562849145585476731 : Nat := 0
noncomputable def whole.tw7977878525754885090 : Nat := 0
noncomputable def whole.tw3687826684616867901 : Nat := 0
noncomputable def whole.tw15695161780090201225 : Nat := 0
noncomputable def whole.tw5713708455274439192 : Nat := 0
noncomputable def whole.tw17781206938751360472 : Nat := 0
noncomputable def whole.tw7868544009499267292 : Nat := 0
noncomputable def whole.tw18145388855558949900 : Nat := 0
noncomputable def whole.tw2912573282932879776 : Nat := 0
noncomputable def whole.tw9024608533772062355 : Nat := 0
noncomputable def whole.tw16442795661328238356 : Nat := 0
noncomputable def whole.tw5189780602208921310 : Nat := 0
noncomputable def whole.tw4487652198498899664 : Nat := 0
noncomputable def whole.tw2081632904089052959 : Nat := 0
noncomputable def whole.tw7248877203947682478 : Nat := 0
noncomputable def whole.tw12478609949429157409 : Nat := 0
noncomputable def whole.tw5405151241437436114 : Nat := 0
noncomputable def whole.tw11836910150536664915 : Nat := 0
noncomputable def whole.tw978456291528864041 : Nat := 0
noncomputable def whole.tw10332575325313852403 : Nat := 0
noncomputable def whole.tw18056553881098321084 : Nat := 0
noncomputable def whole.tw8351164730277109312 : Nat := 0
noncomputable def whole.tw18382394861701510011 : Nat := 0
noncomputable def whole.tw3802398583823018356 : Nat := 0
noncomputable def whole.tw13018183266405097566 : Nat := 0
noncomputable def whole.tw4909349585908861296 : Nat := 0
noncomputable def whole.tw12598572606399187110 : Nat := 0
noncomputable def whole.tw3099485228618234346 : Nat := 0
noncomputable def whole.tw15716183405302250479 : Nat := 0
noncomputable def whole.tw10488504414272976643 : Nat := 0
noncomputable def whole.tw14877643965249282964 : Nat := 0
noncomputable def whole.tw356215775963413058 : Nat := 0
noncomputable def whole.tw2781955308351554444 : Nat := 0
noncomputable def whole.tw10144505478992762587 : Nat := 0
noncomputable def whole.tw18135788421098096370 : Nat := 0
noncomputable def whole.tw17075553230084287909 : Nat := 0
noncomputable def whole.tw14875044017630859624 : Nat := 0
noncomputable def whole.tw7185185305316088854 : Nat := 0
noncomputable def whole.tw1219099391390118749 : Nat := 0
noncomputable def whole.tw2959683903145980101 : Nat := 0
noncomputable def whole.tw10025635815308576066 : Nat := 0
noncomputable def whole.tw4605417425148642151 : Nat := 0
noncomputable def whole.tw8243020233432551205 : Nat := 0
noncomputable def whole.tw1266484639899004939 : Nat := 0
noncomputable def whole.tw17814491789457634051 : Nat := 0
noncomputable def whole.tw5833760311655045577 : Nat := 0
noncomputable def whole.tw1859146779660683823 : Nat := 0
noncomputable def whole.tw1488662743745869538 : Nat := 0
noncomputable def whole.tw6396017553259284124 : Nat := 0
noncomputable def whole.tw10590843552420965350 : Nat := 0
noncomputable def whole.tw9951143050096045611 : Nat := 0
noncomputable def whole.tw1640677438868554593 : Nat := 0
noncomputable def whole.tw7466904020207815869 : Nat := 0
noncomputable def whole.tw2349701861695252166 : Nat := 0
noncomputable def whole.tw6356627984389668255 : Nat := 0
noncomputable def whole.tw12179455670472476543 : Nat := 0
noncomputable def whole.tw427333557424167660 : Nat := 0
noncomputable def whole.tw3280129329062278201 : Nat := 0
noncomputable def whole.tw12044105500090777872 : Nat := 0
noncomputable def whole.tw7525632177321363660 : Nat := 0
noncomputable def whole.tw14407849266092530191 : Nat := 0
noncomputable def whole.tw9189751539129569556 : Nat := 0
noncomputable def whole.tw5277582801102665213 : Nat := 0
noncomputable def whole.tw6648197116569056673 : Nat := 0
noncomputable def whole.tw8894826161267586577 : Nat := 0
noncomputable def whole.tw1393339623888494026 : Nat := 0
noncomputable def whole.tw7452821578398259720 : Nat := 0
noncomputable def whole.tw13989200534822022692 : Nat := 0
noncomputable def whole.tw11401351377558187561 : Nat := 0
noncomputable def whole.tw17659150536888882668 : Nat := 0
noncomputable def whole.tw10461253832287612282 : Nat := 0
noncomputable def whole.tw5938623499991607928 : Nat := 0
noncomputable def whole.tw3390907139478361160 : Nat := 0
noncomputable def whole.tw137721658169608169 : Nat := 0
noncomputable def whole.tw431044224361937856 : Nat := 0
noncomputable def whole.tw13213058742666125385 : Nat := 0
noncomputable def whole.tw3945383572190744343 : Nat := 0
noncomputable def whole.tw10832908153356258463 : Nat := 0
noncomputable def whole.tw3869719713472690019 : Nat := 0
noncomputable def whole.tw2989192609971925910 : Nat := 0
noncomputable def whole.tw3166543957339863982 : Nat := 0
noncomputable def whole.tw10499325594661192776 : Nat := 0
noncomputable def whole.tw8983667203327932493 : Nat := 0
noncomputable def whole.tw7588574119468234827 : Nat := 0
noncomputable def whole.tw6211587326476211309 : Nat := 0
noncomputable def whole.tw10002100669626812175 : Nat := 0
noncomputable def whole.tw10438997657263567297 : Nat := 0
noncomputable def whole.tw1469495571348798126 : Nat := 0
noncomputable def whole.tw1692622564874605650 : Nat := 0
noncomputable def whole.tw2439357469168130064 : Nat := 0
noncomputable def whole.tw14457598465852218886 : Nat := 0
noncomputable def whole.tw3270133029678145397 : Nat := 0
noncomputable def whole.tw16467933323881711526 : Nat := 0
noncomputable def whole.tw5078443471013023264 : Nat := 0
noncomputable def whole.tw2558861820686608913 : Nat := 0
noncomputable def whole.tw17037309529492816295 : Nat := 0
noncomputable def whole.tw5942346508108547180 : Nat := 0
noncomputable def whole.tw10805158454514937742 : Nat := 0
noncomputable def whole.tw7910221479046277610 : Nat := 0
noncomputable def whole.tw1897105925431849711 : Nat := 0
noncomputable def whole.tw17454085226186693669 : Nat := 0
noncomputable def whole.tw15089273742334493110 : Nat := 0
noncomputable def whole.tw16316554137538487329 : Nat := 0
noncomputable def whole.tw6933715213461094250 : Nat := 0
noncomputable def whole.tw14390007995909808975 : Nat := 0
noncomputable def whole.tw12384220206497402333 : Nat := 0
noncomputable def whole.tw482805393138593929 : Nat := 0
noncomputable def whole.tw16668768811381343612 : Nat := 0
noncomputable def whole.tw5408107943391738 : Nat := 0
noncomputable def whole.tw14492196311604417308 : Nat := 0
noncomputable def whole.tw17992364426957274132 : Nat := 0
noncomputable def whole.tw16845944245580146995 : Nat := 0
noncomputable def whole.tw15013576625721048695 : Nat := 0
noncomputable def whole.tw13478315594510353802 : Nat := 0
noncomputable def whole.tw10118140284582671090 : Nat := 0
noncomputable def whole.tw9851385603074314742 : Nat := 0
noncomputable def whole.tw8184708281838074206 : Nat := 0
noncomputable def whole.tw8109663874093803249 : Nat := 0
noncomputable def whole.tw12761472262123182041 : Nat := 0
noncomputable def whole.tw8699793337390238261 : Nat := 0
noncomputable def whole.tw9625973628771424018 : Nat := 0
noncomputable def whole.tw974242676711936875 : Nat := 0
noncomputable def whole.tw8572516506043022915 : Nat := 0
noncomputable def whole.tw12620984872611610876 : Nat := 0
noncomputable def whole.tw16741440440132755172 : Nat := 0
noncomputable def whole.tw4107823604484434990 : Nat := 0
noncomputable def whole.tw43722865635132848 : Nat := 0
noncomputable def whole.tw6553984163096543158 : Nat := 0
noncomputable def whole.tw13045181716907704641 : Nat := 0
noncomputable def whole.tw14671651394210877623 : Nat := 0
noncomputable def whole.tw3028004478679740547 : Nat := 0
noncomputable def whole.tw8958452949930002773 : Nat := 0
noncomputable def whole.tw12207685810698929643 : Nat := 0
noncomputable def whole.tw6496092161831514541 : Nat := 0
noncomputable def whole.tw5146043315109619605 : Nat := 0
noncomputable def whole.tw10007520593648235073 : Nat := 0
noncomputable def whole.tw14192229110069238088 : Nat := 0
noncomputable def whole.tw16588625043399567139 : Nat := 0
noncomputable def whole.tw6772379921613518395 : Nat := 0
noncomputable def whole.tw6774775609766916077 : Nat := 0
noncomputable def whole.tw10301362462094837657 : Nat := 0
noncomputable def whole.tw5879479702872096659 : Nat := 0
noncomputable def whole.tw697334722855355308 : Nat := 0
noncomputable def whole.tw7280849871689594849 : Nat := 0
noncomputable def whole.tw10084071824679271942 : Nat := 0
noncomputable def whole.tw15015764479258077956 : Nat := 0
noncomputable def whole.tw9235561108164731721 : Nat := 0
noncomputable def whole.tw113900542113845248 : Nat := 0
noncomputable def whole.tw17395194986337826024 : Nat := 0
noncomputable def whole.tw4357746044423742650 : Nat := 0
noncomputable def whole.tw13110515450571257733 : Nat := 0
noncomputable def whole.tw8868806382682364411 : Nat := 0
noncomputable def whole.tw17980908128825299112 : Nat := 0
noncomputable def whole.tw10354518954362131899 : Nat := 0
noncomputable def whole.tw9416693575131194153 : Nat := 0
noncomputable def whole.tw12111672374848980225 : Nat := 0
noncomputable def whole.tw17870853324313594786 : Nat := 0
noncomputable def whole.tw14628220171574447489 : Nat := 0
noncomputable def whole.tw1765076044715932963 : Nat := 0
noncomputable def whole.tw3947618128840659280 : Nat := 0
noncomputable def whole.tw17295703372945214271 : Nat := 0
noncomputable def whole.tw9242471422690250210 : Nat := 0
noncomputable def whole.tw6197045082498751548 : Nat := 0
noncomputable def whole.tw11476502588441444683 : Nat := 0
noncomputable def whole.tw12077107353733055826 : Nat := 0
noncomputable def whole.tw1021466310418864216 : Nat := 0
noncomputable def whole.tw2665807779830099079 : Nat := 0
noncomputable def whole.tw5542149417468696053 : Nat := 0
noncomputable def whole.tw4162360135600614074 : Nat := 0
noncomputable def whole.tw5171116725156735389 : Nat := 0
noncomputable def whole.tw3479739002732855021 : Nat := 0
noncomputable def whole.tw8258574867067344367 : Nat := 0
noncomputable def whole.tw11018331769982298155 : Nat := 0
noncomputable def whole.tw11791088910183784695 : Nat := 0
noncomputable def whole.tw8602141644225615130 : Nat := 0
noncomputable def whole.tw161333873384909080 : Nat := 0
noncomputable def whole.tw14916202748087371944 : Nat := 0
noncomputable def whole.tw3016316376071577429 : Nat := 0
noncomputable def whole.tw8719548228035378133 : Nat := 0
noncomputable def whole.tw17179786008130999086 : Nat := 0
noncomputable def whole.tw17092094596097150618 : Nat := 0
noncomputable def whole.tw12098860561503762481 : Nat := 0
noncomputable def whole.tw1902754551582867561 : Nat := 0
noncomputable def whole.tw4672207989499910625 : Nat := 0
noncomputable def whole.tw16708263669468244151 : Nat := 0
set_option Elab.async true in
set_option maxHeartbeats 8000000 in
theorem whole : PySem.Challenge.rw_xw0206_01.Holds := by
  w_on
  o_law
  k_head
  (case hw => w_witness2)
  k_go0
  rename Below _ _ _ _ => K9
  rename Fr _ _ _ _ => F9
  rename News _ _ _ _ => N9
  rename Frag.In _ _ => X9
  rename Top _ _ _ _ _ _ => T9
  rename IntsAre _ _ => hI9
  rename 30 < _ => h30
  refine wpAny_mono (law_all _ _ _ _ _ K9 X9 T9 _ _ _ (by assumption) (by assumption) (by assumption) _ _ _ hI9 (by omega) lifted _ _ rfl F9 N9 h30) (fun f s' hl => ?_) fun _ _ h => h.elim
  obtain ⟨h', tk', L', m', lg, ps, rfl, rfl, F', N', hp⟩ := hl
  refine ⟨?_, ⟨ps, (N' _ hp).1⟩, True.intro⟩
  dsimp only
  k_steps
end Mine
theorem PySem.Challenge.cw_xw0206_01_holds : PySem.Challenge.rw_xw0206_01.Holds :=
  Mine.whole
