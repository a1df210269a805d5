import PyProof.Rows.All
import Wide.All
import OpenK.AllK
import Wide.FinOn
import Lean
import PySem.Challenge.RW_on0116_01
open PySem PySem.W PyProof.Rows
set_option Elab.async false
set_option maxRecDepth 100000
namespace Mine
theorem said : OpenLaw.wellSaid PySem.Challenge.rw_on0116_01 = true := by
  rw [PySem.W.Fast.te9446332074065402090]
  kernel_rfl
section
theorem reg_hl : True := by
  k_with "hl" => (intro w; (unfold openEnds fencedOpening topFrom); rw [PySem.W.Fast.te10274390034422433532, PySem.W.Fast.te14364793385576792824, PySem.W.Fast.te1435165496053646825, PySem.W.Fast.te14289696077712309145, PySem.W.Fast.te14082659384304107361, PySem.W.Fast.te4187177175401517315]; kernel_rfl)
  trivial
local macro_rules | `(tactic| o_law) => `(tactic| refine' holds_law said fun said => ?_)
local macro_rules
  | `(tactic| refine $t:term) => do
    if t.raw.getKind == ``Lean.Parser.Term.app && t.raw[0].getId.eraseMacroScopes == ``PySem.W.holds_open then
      let hl := Lean.mkIdent `hl
      `(tactic| (refine' $t:term; (case $hl:ident => k_extra "hl")))
    else Lean.Macro.throwUnsupported
set_option maxRecDepth 100000 in
set_option maxHeartbeats 8000000 in
open_top hd for PySem.Challenge.rw_on0116_01
end
end Mine
open PySem PySem.Spec PySem.Calls PySem.W PyProof.Rows
namespace Mine
section


/-- everything stands but what lies at S -/
noncomputable def Kept (S : List Addr) (h h' : Heap) : Prop := ∀ b o, b ∉ S → h.get? b = some o → h'.get? b = some o
theorem Kept.rfl' {S : List Addr} {h : Heap} : Kept S h h := fun _ _ _ e => e
theorem Kept.trans {S : List Addr} {h h' h'' : Heap} (a : Kept S h h') (b : Kept S h' h'') : Kept S h h'' := fun x o n e => b x o n (a x o n e)
theorem Kept.mono {S S' : List Addr} {h h' : Heap} (a : Kept S h h') (hs : ∀ b ∈ S, b ∈ S') : Kept S' h h' := fun x o n e => a x o (fun q => n (hs x q)) e
theorem Kept.fr {S : List Addr} {h₀ h h' : Heap} {L : Addr} {m : Str → Option Value} (k : Kept S h h') (F : Fr h₀ L h m) (hS : ∀ b ∈ S, h₀.get? b = none ∧ b ≠ L) : Fr h₀ L h' m :=
  ⟨F.ns.at' fun o e => k _ o (fun q => (hS _ q).2 rfl) e, fun b o e => k b o (fun q => by rw [(hS b q).1] at e; cases e) (F.keep b o e), F.above⟩
theorem Kept.news {S : List Addr} {h₀ h h' : Heap} {L : Addr} {news : List (Addr × Obj)} (k : Kept S h h') (N : News h₀ L h news) (hS : ∀ p ∈ news, p.1 ∉ S) : News h₀ L h' news :=
  fun p hp => ⟨k _ _ (hS p hp) (N p hp).1, (N p hp).2⟩

noncomputable def LeaveQ (g : Heap) (L' : Addr) (S : List Addr) (h : Heap) (R : Result → Shared → Prop) (v : Value) (s' : Shared) : Prop :=
  ∃ m', Fr g L' s'.heap m' ∧ (Kept S h s'.heap → R (.ok (.ret v)) s')

section
variable {prog : Program} {w : World} {A₀ A : Around} {s : Shared} {base h₀ : Heap} {outer : List Env} {L : Addr} {m : Str → Option Value} {env : Env} {news : List (Addr × Obj)} {K : Frag}
  {p : Program} {loose : List Str} {mean : ExcName → Option Value} {mg mb : Str → Option Value}
  {R : Result → Shared → Prop} {name qual : Str} {params : Arguments} {body : List Stmt} {scope : Scope} {dV kV doc pm cdv ct oc : Value} {an od : Option Addr} {osl : Array (Option Value)} {f : Addr} {args : Args} {binds : List (Str × Value)}
theorem enterQ (B : Below A₀ base outer h₀) (F : Fr h₀ L s.heap m) (X₀ : K.In h₀) (N : News h₀ L s.heap news) (T : Top p loose mean mg mb h₀) (hA : A.frames = some (env :: outer)) (hf : env.frame = some L) (hke : env.scope.kind = .function)
    (ho : K.lookup f = some ⟨oc, od, .func (fnOf name qual params body scope dV kV doc pm an cdv ct), osl⟩) (hcd : codeIn K cdv qual = true) (hroom : A.depth < recursionLimit)
    (hbind : BindsTo s (fnOf name qual params body scope dV kV doc pm an cdv ct) args binds) (hloc : ∀ y ∈ binds, scope.names.lookup y.1 = some .local)
    (h : ∀ g L' h₁, (∀ b o, s.heap.get? b = some o → b ∉ news.map (·.1) → g.get? b = some o) → (∀ b o, s.heap.get? b = some o → b ≠ L') → Fr g L' h₁ (fun y => binds.reverse.lookup y) → News g L' h₁ news → Below A base (env :: outer) g → K.In g → Top p loose mean mg mb g →
      wpAny (model prog w) (A.deeper (envOf qual scope L' f cdv)) (execs body (envOf qual scope L' f cdv))
        (fun fl s' => LeaveQ g L' (news.map (·.1)) s.heap R (match fl with | .ret v => v | _ => .none) s')
        (fun e s' => wpAny (model prog w) (A.deeper (envOf qual scope L' f cdv)) (leaving (envOf qual scope L' f cdv) e) (fun _ s'' => R (.error e) s'') (fun e' s'' => R (.error e') s'') s')
        { s with heap := h₁, toks := s.toks + binds.length })
    (hco : scope.isCoroutine = false) (hgen : scope.isGenerator = false) (hk : scope.kind = .function) (hcell : ∀ x ∈ scope.names, x.2 ≠ .cell) :
    codeAny (model prog w) A (.call (.ref f) args) R s := by
  obtain ⟨_, BG, st, _⟩ := groundX (R := R) B F N hA hf hke
  refine codeAny_call_def (fd := fnOf name qual params body scope dV kV doc pm an cdv ct) (body := body) (binds := binds) hroom (F.keep _ _ (X₀ _ _ ho)) rfl (T.nolimit.keeps F.keep) (codeRec_of (X₀.keeps F.keep) hcd) rfl hbind hcell hloc (fun h₁ hns hk₁ => ?_) hco hgen hk
  refine wpAny_mono (h (hideAll s.heap (news.map Prod.fst)) s.heap.objs.size h₁ (fun b o e n => hideAll_get _ e n) (fun b o e => Nat.ne_of_lt (Heap.lt_size e)) ⟨hns, fun b o e => hk₁ b o (of_hideAll _ e), Nat.le_of_eq (hideAll_size _ _)⟩
    (fun p hp => ⟨hk₁ _ _ (N p hp).1, Nat.ne_of_lt (Heap.lt_size (N p hp).1), hideAll_none _ (List.mem_map_of_mem hp)⟩) BG (X₀.keeps st) (T.keeps st)) (fun fl s' hl => ?_) fun _ _ y => y
  obtain ⟨m', F', k⟩ := hl
  exact k fun b o n e => F'.keep b o (hideAll_get _ e n)
end

/-- what a call of f on vs brings: nothing but S is touched -/
noncomputable def Does (w : World) (mean : ExcName → Option Value) (mg mb : Str → Option Value) (f : Addr) (vs : List Value) (dd uu : Nat) (h : Heap) (S : List Addr) (Post : Value → Heap → Prop) : Prop :=
  ∀ (dp un : Nat) (gd : Option (List Code)) (cn : Str) (cs : Scope) (a : Addr) (ccd : Value) (cl : List (Str × Addr)) (outer : List Env) (A₀ : Around) (base h₀ : Heap) (L : Addr) (m : Str → Option Value) (s : Shared) (Q E : Value → Shared → Prop),
    s.heap = h → Below A₀ base outer h₀ → Fr h₀ L s.heap m → (hd.heap_1 w.params).In h₀ → Top hd.view_1 (looseW hd.view_1 []) mean mg mb h₀ → cs.kind = .function → (∀ b ∈ S, h₀.get? b = none ∧ b ≠ L) → dp + dd < recursionLimit → un + uu < cLine →
    (∀ r h' tk', Kept S s.heap h' → Post r h' → Q r { s with heap := h', toks := tk' }) →
    wpAny (model PySem.Challenge.rw_on0116_01.row.prog w) (ktrTop dp un gd cn cs L a ccd cl outer) (call (.ref f) vs) Q E s

theorem news_of {S : List (Addr × Obj)} {h₀ h : Heap} {L : Addr} (hS : ∀ b ∈ S.map (·.1), h₀.get? b = none ∧ b ≠ L) (hg : ∀ p ∈ S, h.get? p.1 = some p.2) : News h₀ L h S :=
  fun p hp => ⟨hg p hp, (hS _ (List.mem_map_of_mem hp)).2, (hS _ (List.mem_map_of_mem hp)).1⟩


end
section

noncomputable abbrev tup (vs : List Value) : Obj := { cls := .type "tuple", data := .seq vs.toArray }
noncomputable abbrev TupAt (h : Heap) (a : Addr) (vs : List Value) : Prop := h.get? a = some (tup vs)
noncomputable def TupKeep (h h' : Heap) : Prop := ∀ a vs, TupAt h a vs → TupAt h' a vs
theorem TupKeep.trans {h h' h'' : Heap} (a : TupKeep h h') (b : TupKeep h' h'') : TupKeep h h'' := fun x vs e => b x vs (a x vs e)
theorem TupKeep.rfl' {h : Heap} : TupKeep h h := fun _ _ e => e

/-! lists of values bearing lists of data -/
inductive All2 {D : Type} (R : Value → D → Prop) : List Value → List D → Prop
  | nil : All2 R [] []
  | cons {v : Value} {d : D} {vs : List Value} {ds : List D} : R v d → All2 R vs ds → All2 R (v :: vs) (d :: ds)
section
variable {D : Type} {R R' : Value → D → Prop} {vs us : List Value} {ds es : List D}
theorem All2.mono (hr : ∀ v d, R v d → R' v d) (h : All2 R vs ds) : All2 R' vs ds := by
  induction h with
  | nil => exact .nil
  | cons a _ ih => exact .cons (hr _ _ a) ih
theorem All2.length (h : All2 R vs ds) : vs.length = ds.length := by
  induction h with
  | nil => rfl
  | cons _ _ ih => rw [List.length_cons, List.length_cons, ih]
theorem All2.append (h : All2 R vs ds) (k : All2 R us es) : All2 R (vs ++ us) (ds ++ es) := by
  induction h with
  | nil => exact k
  | cons a _ ih => exact .cons a ih
theorem All2.one {v : Value} {d : D} (h : R v d) : All2 R [v] [d] := .cons h .nil
theorem All2.get (h : All2 R vs ds) : ∀ {i : Nat} {v : Value}, vs[i]? = some v → ∃ d, ds[i]? = some d ∧ R v d := by
  induction h with
  | nil => intro i v e; simp at e
  | cons a _ ih =>
    intro i v e
    cases i with
    | zero => simp at e; subst e; exact ⟨_, rfl, a⟩
    | succ i => exact ih (by simpa using e)
theorem All2.snoc {ds : List D} : ∀ {vs : List Value} {v : Value}, All2 R (vs ++ [v]) ds → ∃ es d, ds = es ++ [d] ∧ All2 R vs es ∧ R v d := by
  intro vs
  induction vs generalizing ds with
  | nil => intro v h; cases h with | cons a b => cases b; exact ⟨[], _, rfl, .nil, a⟩
  | cons u vs ih =>
    intro v h
    cases h with
    | cons a b =>
      obtain ⟨es, d, rfl, h1, h2⟩ := ih b
      exact ⟨_ :: es, d, rfl, .cons a h1, h2⟩
theorem All2.reverse (h : All2 R vs ds) : All2 R vs.reverse ds.reverse := by
  induction h with
  | nil => exact .nil
  | cons a _ ih => rw [List.reverse_cons, List.reverse_cons]; exact ih.append (.one a)
theorem All2.snocR {es : List D} {d : D} : ∀ {vs : List Value}, All2 R vs (es ++ [d]) → ∃ us v, vs = us ++ [v] ∧ All2 R us es ∧ R v d := by
  induction es with
  | nil => intro vs h; cases h with | cons a b => cases b; exact ⟨[], _, rfl, .nil, a⟩
  | cons e es ih =>
    intro vs h
    cases h with
    | cons a b =>
      obtain ⟨us, v, rfl, h1, h2⟩ := ih b
      exact ⟨_ :: us, v, rfl, .cons a h1, h2⟩
theorem snoc_cases (l : List D) : l = [] ∨ ∃ p x, l = p ++ [x] := by
  rcases List.eq_nil_or_concat l with h | ⟨p, x, h⟩
  · exact .inl h
  · exact .inr ⟨p, x, by rw [h, List.concat_eq_append]⟩
end

/-! what lies in a heap besides the base, the frame and the explicit part -/
noncomputable def restF (g h : Heap) (L : Addr) (adr : List Addr) (a : Addr) : Option (Addr × Obj) :=
  match h.get? a with
  | some o => if (g.get? a).isNone && a != L && !adr.contains a then some (a, o) else none
  | none => none
noncomputable def Rest (g h : Heap) (L : Addr) (adr : List Addr) : List (Addr × Obj) := (List.range h.objs.size).filterMap (restF g h L adr)
theorem mem_Rest {g h : Heap} {L : Addr} {adr : List Addr} {p : Addr × Obj} : p ∈ Rest g h L adr ↔ h.get? p.1 = some p.2 ∧ g.get? p.1 = none ∧ p.1 ≠ L ∧ p.1 ∉ adr := by
  obtain ⟨a, o⟩ := p
  unfold Rest
  rw [List.mem_filterMap]
  constructor
  · rintro ⟨b, _, e⟩
    unfold restF at e
    cases hb : h.get? b with
    | none => rw [hb] at e; cases e
    | some o' =>
      rw [hb] at e
      dsimp only at e
      split at e
      · rename_i c
        cases e
        simp only [Bool.and_eq_true, Option.isNone_iff_eq_none, bne_iff_ne, ne_eq, Bool.not_eq_true', List.contains_eq_mem, decide_eq_false_iff_not] at c
        exact ⟨hb, c.1.1, c.1.2, c.2⟩
      · cases e
  · rintro ⟨h1, h2, h3, h4⟩
    refine ⟨a, List.mem_range.mpr (Heap.lt_size h1), ?_⟩
    unfold restF
    dsimp only at h1 h2 h3 h4
    rw [h1]
    dsimp only
    rw [if_pos]
    simp only [Bool.and_eq_true, Option.isNone_iff_eq_none, bne_iff_ne, ne_eq, Bool.not_eq_true', List.contains_eq_mem, decide_eq_false_iff_not]
    exact ⟨⟨h2, h3⟩, h4⟩

/-- the tail covers what is not explicit -/
noncomputable def Cov (g : Heap) (L : Addr) (adr : List Addr) (h : Heap) (tl : List (Addr × Obj)) : Prop :=
  ∀ a o, h.get? a = some o → g.get? a = some o ∨ a = L ∨ a ∈ adr ∨ (a, o) ∈ tl
noncomputable def TCov (g h : Heap) (tl : List (Addr × Obj)) : Prop := ∀ a vs, TupAt h a vs → TupAt g a vs ∨ (a, tup vs) ∈ tl
theorem cov_Rest {g h : Heap} {L : Addr} {m : Str → Option Value} (F : Fr g L h m) (adr : List Addr) : Cov g L adr h (Rest g h L adr) := by
  intro a o e
  cases hg : g.get? a with
  | some o' =>
    have := F.keep _ _ hg
    rw [e] at this
    exact .inl this.symm
  | none =>
    by_cases h1 : a = L
    · exact .inr (.inl h1)
    · by_cases h2 : a ∈ adr
      · exact .inr (.inr (.inl h2))
      · exact .inr (.inr (.inr (mem_Rest.mpr ⟨e, hg, h1, h2⟩)))
theorem ns_not_tup {h : Heap} {L : Addr} {m : Str → Option Value} {vs : List Value} (n : h.Ns L m) (e : TupAt h L vs) : False := by
  obtain ⟨o, es, ep, ho, hd, _⟩ := n
  unfold TupAt at e
  rw [ho] at e
  cases e
  cases hd
theorem Cov.tup {g h : Heap} {L : Addr} {m : Str → Option Value} {ex tl : List (Addr × Obj)} (C : Cov g L (ex.map (·.1)) h tl) (F : Fr g L h m) (N : News g L h ex) (hnt : ∀ p ∈ ex, p.2.cls ≠ .type "tuple") : TCov g h tl := by
  intro a vs e
  rcases C a _ e with q | q | q | q
  · exact .inl q
  · subst q; exact (ns_not_tup F.ns e).elim
  · obtain ⟨p, hp, rfl⟩ := List.mem_map.mp q
    have := (N p hp).1
    have e' : h.get? p.1 = some (Mine.tup vs) := e
    rw [e'] at this
    cases p with
    | mk a o => cases this; exact absurd rfl (hnt _ hp)
  · exact .inr q
theorem TCov.keep {g h h' : Heap} {L : Addr} {m : Str → Option Value} {tl news : List (Addr × Obj)} (C : TCov g h tl) (F : Fr g L h' m) (N : News g L h' news) (hs : ∀ p ∈ tl, p ∈ news) : TupKeep h h' :=
  fun a vs e => (C a vs e).elim (fun q => F.keep _ _ q) fun q => (N _ (hs _ q)).1
theorem Cov.get {g h : Heap} {L a : Addr} {o : Obj} {adr : List Addr} {tl : List (Addr × Obj)} (C : Cov g L adr h tl) (e : h.get? a = some o) (h1 : g.get? a = none) (h2 : a ≠ L) (h3 : a ∉ adr) : (a, o) ∈ tl := by
  rcases C a o e with q | q | q | q
  · rw [h1] at q; cases q
  · exact absurd q h2
  · exact absurd q h3
  · exact q

/-! the ledger behind a call -/
inductive Swap (S : List (Addr × Obj)) : List (Addr × Obj) → (List (Addr × Obj) → List (Addr × Obj)) → Prop
  | nil {tl} : Swap S tl (fun t => t)
  | hit {a o o' r nf} : (a, o') ∈ S → Swap S r nf → Swap S ((a, o) :: r) (fun t => (a, o') :: nf t)
  | miss {p r nf} : (∀ q ∈ S, q.1 ≠ p.1) → Swap S r nf → Swap S (p :: r) (fun t => p :: nf t)
  | drop {p r nf} : Swap S r nf → Swap S (p :: r) nf
theorem Swap.app {S : List (Addr × Obj)} {l : List (Addr × Obj)} {nf : List (Addr × Obj) → List (Addr × Obj)} (w : Swap S l nf) (t : List (Addr × Obj)) : nf t = nf [] ++ t := by
  induction w with
  | nil => rfl
  | hit _ _ ih => dsimp only; rw [ih]; rfl
  | miss _ _ ih => dsimp only; rw [ih]; rfl
  | drop _ ih => exact ih
theorem Swap.from {S : List (Addr × Obj)} {l : List (Addr × Obj)} {nf : List (Addr × Obj) → List (Addr × Obj)} (w : Swap S l nf) : ∀ p ∈ nf [], p ∈ S ∨ (p ∈ l ∧ ∀ q ∈ S, q.1 ≠ p.1) := by
  induction w with
  | nil => intro p hp; cases hp
  | hit hm _ ih =>
    intro p hp
    rcases List.mem_cons.mp hp with rfl | hp
    · exact .inl hm
    · exact (ih p hp).imp id fun q => ⟨.tail _ q.1, q.2⟩
  | miss hm _ ih =>
    intro p hp
    rcases List.mem_cons.mp hp with rfl | hp
    · exact .inr ⟨.head _, hm⟩
    · exact (ih p hp).imp id fun q => ⟨.tail _ q.1, q.2⟩
  | drop _ ih =>
    intro p hp
    exact (ih p hp).imp id fun q => ⟨.tail _ q.1, q.2⟩

theorem after {P : Prop} {g h h' : Heap} {L : Addr} {m : Str → Option Value} {news : List (Addr × Obj)} {nf : List (Addr × Obj) → List (Addr × Obj)} {S : List (Addr × Obj)} (Sw : Swap S news nf)
    (F : Fr g L h m) (N : News g L h news) (K : Kept (S.map (·.1)) h h') (hS : ∀ p ∈ S, h'.get? p.1 = some p.2) (hSN : ∀ p ∈ S, g.get? p.1 = none ∧ p.1 ≠ L)
    (hnt : ∀ p ∈ nf [], p.2.cls ≠ .type "tuple")
    (k : ∀ tl, Fr g L h' m → News g L h' (nf tl) → OwnOff tl ((nf []).map (·.1)) → Cov g L ((nf []).map (·.1)) h' tl → TCov g h' tl → (∀ p ∈ news, p.1 ∉ S.map (·.1) → p.1 ∉ (nf []).map (·.1) → p ∈ tl) → P) : P := by
  have F' : Fr g L h' m := K.fr F fun b hb => by
    obtain ⟨p, hp, rfl⟩ := List.mem_map.mp hb
    exact hSN p hp
  have N0 : News g L h' (nf []) := fun p hp => by
    rcases Sw.from p hp with q | ⟨q, n⟩
    · exact ⟨hS p q, (hSN p q).2, (hSN p q).1⟩
    · exact ⟨K _ _ (fun hb => by
        obtain ⟨p', hp', e⟩ := List.mem_map.mp hb
        exact n p' hp' e) (N p q).1, (N p q).2⟩
  refine k (Rest g h' L ((nf []).map (·.1))) F' ?_ ?_ (cov_Rest F' _) ((cov_Rest F' _).tup F' N0 hnt) ?_
  · rw [Sw.app]
    intro p hp
    rcases List.mem_append.mp hp with q | q
    · exact N0 p q
    · obtain ⟨a, b, c, _⟩ := mem_Rest.mp q
      exact ⟨a, c, b⟩
  · intro p hp b hb e
    exact (mem_Rest.mp hp).2.2.2 (e ▸ hb)
  · intro p hp n1 n2
    exact mem_Rest.mpr ⟨K _ _ n1 (N p hp).1, (N p hp).2.2, (N p hp).2.1, n2⟩

/-! a call by its contract -/
section
variable {w : World} {mean : ExcName → Option Value} {mg mb : Str → Option Value} {f : Addr} {vs : List Value} {dd uu : Nat} {S : List Addr} {Post : Value → Heap → Prop}
  {dp un : Nat} {gd : Option (List Code)} {cn : Str} {cs : Scope} {a : Addr} {ccd : Value} {cl : List (Str × Addr)} {outer : List Env} {A₀ : Around} {base h₀ : Heap} {L : Addr} {m : Str → Option Value} {s : Shared} {Q E : Value → Shared → Prop}
theorem Does.use (D : Does w mean mg mb f vs dd uu s.heap S Post) (B : Below A₀ base outer h₀) (F : Fr h₀ L s.heap m) (X : (hd.heap_1 w.params).In h₀) (T : Top hd.view_1 (looseW hd.view_1 []) mean mg mb h₀)
    (hk : cs.kind = .function) (hS : ∀ b ∈ S, h₀.get? b = none ∧ b ≠ L) (hd : dp + dd < recursionLimit) (hu : un + uu < cLine)
    (k : ∀ r h' tk', Kept S s.heap h' → Post r h' → Q r { s with heap := h', toks := tk' }) :
    wpAny (model PySem.Challenge.rw_on0116_01.row.prog w) (ktrTop dp un gd cn cs L a ccd cl outer) (call (.ref f) vs) Q E s :=
  D _ _ _ _ _ _ _ _ _ _ _ _ _ _ _ _ _ rfl B F X T hk hS hd hu k
end

theorem allLt_ne {d : Addr} : ∀ {l : List (Addr × Obj)}, AllLt d l → ∀ p ∈ l, p.1 ≠ d
  | [], _, _, hp => (nomatch hp)
  | q :: r, h, p, hp => by
    rcases List.mem_cons.mp hp with rfl | hp
    · exact Nat.ne_of_lt h.1
    · exact allLt_ne h.2 p hp

theorem base_now {P : Addr → List Value → Prop} {g h : Heap} {L : Addr} {m : Str → Option Value} (F : Fr g L h m) (hp : ∀ a vs, P a vs → TupAt g a vs) : ∀ a vs, P a vs → TupAt h a vs := fun a vs x => F.keep _ _ (hp a vs x)
theorem fresh_of {S : List Addr} {g h h' : Heap} {L a : Addr} {o : Obj} {news : List (Addr × Obj)} (hk : ∀ b o, h.get? b = some o → b ∉ S → g.get? b = some o) (N : News g L h' news) (hm : (a, o) ∈ news) (hS : a ∉ S) : h.get? a = none := by
  cases q : h.get? a with
  | none => rfl
  | some o' => have := hk a o' q hS; rw [(N _ hm).2.2] at this; cases this
theorem old_none {g h : Heap} {L a : Addr} {m : Str → Option Value} (F : Fr g L h m) (e : h.get? a = none) : g.get? a = none := by
  cases q : g.get? a with
  | none => rfl
  | some o => rw [F.keep _ _ q] at e; cases e
theorem TCov.mem {g h h' : Heap} {L t : Addr} {m : Str → Option Value} {tl : List (Addr × Obj)} {us : List Value} (C : TCov g h tl) (F : Fr g L h' m) (e : h'.get? t = none) (hT : TupAt h t us) : (t, tup us) ∈ tl :=
  (C _ _ hT).resolve_left fun q => by have := old_none F e; unfold TupAt at q; rw [this] at q; cases q
theorem fresh_adr {g h : Heap} {L l : Addr} {adr : List Addr} {news : List (Addr × Obj)} (N : News g L h news) (hf : h.get? l = none) (hp : ∀ b ∈ adr, ∃ o, (b, o) ∈ news) : l ∉ adr := fun q => by
  obtain ⟨o, ho⟩ := hp l q
  have := (N _ ho).1
  rw [hf] at this
  cases this
theorem pin_fr {h₀ h : Heap} {L : Addr} {m : Str → Option Value} {x : Str} {v : Value} (F : Fr h₀ L h m) (e : m x = some v) : Fr h₀ L h (fun y => if y = x then some v else m y) := by
  have : (fun y => if y = x then some v else m y) = m := by
    funext y
    by_cases q : y = x
    · subst q; simp [e]
    · simp [q]
  rw [this]; exact F

end
section

inductive Ex where
  | const (c : Int)
  | sig (k : Int)
  | word (k : Int) (i : Ex)
  | bin (l r : Ex)
  deriving DecidableEq
namespace Ex
noncomputable def kids : Ex → List Ex
  | const _ => []
  | sig _ => []
  | word _ i => [i]
  | bin l r => [l, r]
noncomputable def pre : Ex → List Ex
  | const c => [const c]
  | sig k => [sig k]
  | word k i => word k i :: i.pre
  | bin l r => bin l r :: (l.pre ++ r.pre)
noncomputable def size : Ex → Nat
  | const _ => 1
  | sig _ => 1
  | word _ i => i.size + 1
  | bin l r => l.size + r.size + 1
end Ex
inductive St where
  | set (k : Int) (v : Ex)
  | nba (k : Int) (v i : Ex)
  | ite (t : Ex) (a : St)
  | itee (t : Ex) (a b : St)
inductive Nd where
  | blk (l : List St)
  | one (s : St)

inductive ExR (P : Addr → List Value → Prop) : Value → Ex → Prop
  | const {a t1 t2 t3 t4 c} : P a [.str (Str.ofString "const") t1, .int 4 t2, .int c t3, .int 0 t4] → ExR P (.ref a) (.const c)
  | sig {a t1 t2 t3 k} : P a [.str (Str.ofString "sig") t1, .int 4 t2, .int k t3] → ExR P (.ref a) (.sig k)
  | word {a t1 t2 t3 k v i} : P a [.str (Str.ofString "word") t1, .int 4 t2, .int k t3, v, .bool false] → ExR P v i → ExR P (.ref a) (.word k i)
  | bin {a t1 t2 t3 v u l r} : P a [.str (Str.ofString "bin") t1, .int 4 t2, .str (Str.ofString "+") t3, v, u, .bool false] → ExR P v l → ExR P u r → ExR P (.ref a) (.bin l r)
inductive StR (P : Addr → List Value → Prop) : Value → St → Prop
  | set {a lv ps p at' t1 t2 t3 t4 t5 t6 t7 t8 k v e} : P a [.str (Str.ofString "set") t1, .ref lv, v, .none] → P lv [.str (Str.ofString "lv") t2, .int 4 t3, .ref ps] → P ps [.ref p] →
      P p [.str (Str.ofString "sig") t4, .int 4 t5, .int k t6, .none, .ref at'] → P at' [.str (Str.ofString "at") t7, .int 0 t8] → ExR P v e → StR P (.ref a) (.set k e)
  | nba {a lv ps p ix at' t1 t2 t3 t4 t5 t6 t7 t8 k v e u i} : P a [.str (Str.ofString "nba") t1, .ref lv, v, .none] → P lv [.str (Str.ofString "lv") t2, .int 4 t3, .ref ps] → P ps [.ref p] →
      P p [.str (Str.ofString "sig") t4, .int 4 t5, .int k t6, .ref ix, .ref at'] → P ix [u, .bool false] → P at' [.str (Str.ofString "at") t7, .int 0 t8] → ExR P v e → ExR P u i → StR P (.ref a) (.nba k e i)
  | ite {a t1 t v e s} : P a [.str (Str.ofString "if") t1, t, v, .none] → ExR P t e → StR P v s → StR P (.ref a) (.ite e s)
  | itee {a t1 t v u e s s'} : P a [.str (Str.ofString "if") t1, t, v, u] → ExR P t e → StR P v s → StR P u s' → StR P (.ref a) (.itee e s s')
inductive NdR (P : Addr → List Value → Prop) : Value → Nd → Prop
  | blk {a b t1 t2 vs l} : P a [.str (Str.ofString "block") t1, .ref b, .int (-1) t2] → P b vs → All2 (StR P) vs l → NdR P (.ref a) (.blk l)
  | one {v s} : StR P v s → NdR P v (.one s)
inductive LvR (P : Addr → List Value → Prop) : Value → Option Ex → Prop
  | plain {lv ps p at' t2 t3 t4 t5 t6 t7 t8 k} : P lv [.str (Str.ofString "lv") t2, .int 4 t3, .ref ps] → P ps [.ref p] → P p [.str (Str.ofString "sig") t4, .int 4 t5, .int k t6, .none, .ref at'] → P at' [.str (Str.ofString "at") t7, .int 0 t8] → LvR P (.ref lv) none
  | index {lv ps p ix at' t2 t3 t4 t5 t6 t7 t8 k u i} : P lv [.str (Str.ofString "lv") t2, .int 4 t3, .ref ps] → P ps [.ref p] → P p [.str (Str.ofString "sig") t4, .int 4 t5, .int k t6, .ref ix, .ref at'] → P ix [u, .bool false] → P at' [.str (Str.ofString "at") t7, .int 0 t8] → ExR P u i → LvR P (.ref lv) (some i)
noncomputable def Nd.tgts : Nd → List (Option Ex)
  | .one (.set _ _) => [none]
  | .one (.nba _ _ i) => [some i]
  | _ => []
noncomputable def Nd.exprs : Nd → List Ex
  | .blk _ => []
  | .one (.set _ v) => [v]
  | .one (.nba _ v i) => [v, i]
  | .one (.ite t _) => [t]
  | .one (.itee t _ _) => [t]
noncomputable def St.kids : St → List St
  | .set _ _ => []
  | .nba _ _ _ => []
  | .ite _ a => [a]
  | .itee _ a b => [a, b]
noncomputable def Nd.kids : Nd → List Nd
  | .blk l => l.map .one
  | .one s => s.kids.map .one
noncomputable def St.pre : St → List St
  | .set k v => [.set k v]
  | .nba k v i => [.nba k v i]
  | .ite t a => .ite t a :: a.pre
  | .itee t a b => .itee t a b :: (a.pre ++ b.pre)
noncomputable def Nd.pre : Nd → List Nd
  | .blk l => .blk l :: (l.flatMap St.pre).map .one
  | .one s => s.pre.map .one
noncomputable def St.size : St → Nat
  | .set _ _ => 1
  | .nba _ _ _ => 1
  | .ite _ a => a.size + 1
  | .itee _ a b => a.size + b.size + 1
noncomputable def Nd.size : Nd → Nat
  | .blk l => (l.map St.size).sum + 1
  | .one s => s.size
section
variable {P P' : Addr → List Value → Prop} (hp : ∀ a vs, P a vs → P' a vs)
include hp
theorem ExR.mono {v : Value} {e : Ex} (h : ExR P v e) : ExR P' v e := by
  induction h with
  | const a => exact .const (hp _ _ a)
  | sig a => exact .sig (hp _ _ a)
  | word a _ ih => exact .word (hp _ _ a) ih
  | bin a _ _ i1 i2 => exact .bin (hp _ _ a) i1 i2
theorem StR.mono {v : Value} {s : St} (h : StR P v s) : StR P' v s := by
  induction h with
  | set a b c d e f => exact .set (hp _ _ a) (hp _ _ b) (hp _ _ c) (hp _ _ d) (hp _ _ e) (f.mono hp)
  | nba a b c d e f g h => exact .nba (hp _ _ a) (hp _ _ b) (hp _ _ c) (hp _ _ d) (hp _ _ e) (hp _ _ f) (g.mono hp) (h.mono hp)
  | ite a b _ ih => exact .ite (hp _ _ a) (b.mono hp) ih
  | itee a b _ _ i1 i2 => exact .itee (hp _ _ a) (b.mono hp) i1 i2
theorem NdR.mono {v : Value} {n : Nd} (h : NdR P v n) : NdR P' v n := by
  cases h with
  | blk a b c => exact .blk (hp _ _ a) (hp _ _ b) (c.mono fun _ _ x => x.mono hp)
  | one a => exact .one (a.mono hp)
end
theorem ExR.isRef {P : Addr → List Value → Prop} {v : Value} {e : Ex} (h : ExR P v e) : ∃ a, v = .ref a := by cases h <;> exact ⟨_, rfl⟩
theorem StR.isRef {P : Addr → List Value → Prop} {v : Value} {e : St} (h : StR P v e) : ∃ a, v = .ref a := by cases h <;> exact ⟨_, rfl⟩
theorem Ex.size_pos (e : Ex) : 0 < e.size := by cases e <;> simp [Ex.size]

theorem Ex.pre_kids (e : Ex) : e.pre = e :: e.kids.flatMap Ex.pre := by cases e <;> simp [Ex.pre, Ex.kids]
theorem Ex.size_kids (e : Ex) : e.size = (e.kids.map Ex.size).sum + 1 := by cases e <;> simp [Ex.size, Ex.kids]
theorem Ex.pre_pos (e : Ex) : 0 < e.pre.length := by rw [Ex.pre_kids]; simp
theorem flat_len (es : List Ex) : es.length ≤ (es.flatMap Ex.pre).length := by
  induction es with
  | nil => simp
  | cons e es ih => have := e.pre_pos; simp only [List.flatMap_cons, List.length_append, List.length_cons]; omega
noncomputable def rkey : Ex → Option Int
  | .sig k => some k
  | .word k _ => some k
  | _ => none
noncomputable def Ex.keys (e : Ex) : List Int := e.pre.filterMap rkey
theorem nodup_len : ∀ (n : Nat) (l : List Int), l.Nodup → (∀ k ∈ l, 0 ≤ k ∧ k < (n : Int)) → l.length ≤ n := by
  intro n
  induction n with
  | zero =>
    intro l _ h
    cases l with
    | nil => simp
    | cons k l => have := h k (.head _); omega
  | succ n ih =>
    intro l hn h
    have h1 : (l.filter fun k => decide (k ≠ (n : Int))).length ≤ n := ih _ (hn.filter _) fun k hk => by
      obtain ⟨a, b⟩ := List.mem_filter.mp hk
      have := h k a
      have b' : k ≠ (n : Int) := by simpa using b
      omega
    have h2 : ∀ l : List Int, l.Nodup → l.length ≤ (l.filter fun k => decide (k ≠ (n : Int))).length + 1 := by
      intro l
      induction l with
      | nil => intro _; simp
      | cons k l il =>
        intro hn
        obtain ⟨hk, hl⟩ := List.nodup_cons.mp hn
        by_cases e : k = (n : Int)
        · have : (l.filter fun k => decide (k ≠ (n : Int))) = l := List.filter_eq_self.mpr fun j hj => by
            have : j ≠ (n : Int) := fun q => hk (by rw [e, ← q]; exact hj)
            simpa using this
          rw [List.filter_cons, if_neg (by simp [e]), this]
          simp
        · have := il hl
          rw [List.filter_cons, if_pos (by simpa using e)]
          simp only [List.length_cons]
          omega
    have := h2 l hn
    omega
theorem isTup_base {g h : Heap} {L a : Addr} {m : Str → Option Value} {vs : List Value} (F : Fr g L h m) (e : TupAt g a vs) : IsTup h a vs.toArray := ⟨_, F.keep _ _ e, rfl, _, rfl⟩
theorem isTup_P {P : Addr → List Value → Prop} {g h : Heap} {L a : Addr} {m : Str → Option Value} {vs : List Value} (F : Fr g L h m) (hp : ∀ a vs, P a vs → TupAt g a vs) (x : P a vs) : IsTup h a vs.toArray := isTup_base F (hp _ _ x)
theorem isTup_now {h : Heap} {a : Addr} {vs : List Value} (e : TupAt h a vs) : IsTup h a vs.toArray := ⟨_, e, rfl, _, rfl⟩

end
section
/-! reversed(t) of a tuple: the library serves lists alone -/
theorem owner_rvt : Manifest.owners.lookup (String.ofList ['d', 'e', 's', 'r', 'e', 'v', 'e', 'r'].reverse) = some Manifest.sig_reversed := by kernel_rfl
theorem slot_rvt_next : Slot "reversed" "__next__" "reversed.__next__" :=
  .of (owner := "reversed") (n := "__next__") (by rw [typeLookup_type, builtinLookup_eq_fast]; kernel_rfl) (by decide +kernel) (by decide +kernel) (by decide +kernel)
    (by first | exact .inl (by decide +kernel) | exact .inr (by decide +kernel)) (by rw [isSubtype_type]; kernel_rfl)
theorem entry_rvt_next : entryFor table "reversed.__next__" = some Builtin.«reversed.__next__» := entryFor_of_tree (by kernel_rfl)
theorem args_rvt_next (a : Value) : argsOk "reversed.__next__" ⟨[a], []⟩ := by
  unfold argsOk; rw [signature?_of (id := "reversed.__next__") (n := ['_', '_', 't', 'x', 'e', 'n', '_', '_']) (o := ['d', 'e', 's', 'r', 'e', 'v', 'e', 'r']) (by kernel_rfl) owner_rvt]; kernel_rfl
theorem slot_rvt_iter : Slot "reversed" "__iter__" "reversed.__iter__" :=
  .of (owner := "reversed") (n := "__iter__") (by rw [typeLookup_type, builtinLookup_eq_fast]; kernel_rfl) (by decide +kernel) (by decide +kernel) (by decide +kernel)
    (by first | exact .inl (by decide +kernel) | exact .inr (by decide +kernel)) (by rw [isSubtype_type]; kernel_rfl)
theorem args_rvt_iter (a : Value) : argsOk "reversed.__iter__" ⟨[a], []⟩ := by
  unfold argsOk; rw [signature?_of (id := "reversed.__iter__") (n := ['_', '_', 'r', 'e', 't', 'i', '_', '_']) (o := ['d', 'e', 's', 'r', 'e', 'v', 'e', 'r']) (by kernel_rfl) owner_rvt]; kernel_rfl
theorem entry_rvt_iter : entryFor table "reversed.__iter__" = some Builtin.«dict_keyiterator.__iter__» :=
  entryFor_alias (id' := "dict_keyiterator.__iter__") (by kernel_rfl) (by first | rfl | decide +kernel | (unfold String.splitOn; simp +decide [String.splitOnAux])) (by decide +kernel) (by kernel_rfl)
theorem slot_rvt_init : Slot "reversed" "__init__" "object.__init__" :=
  .of (owner := "object") (n := "__init__") (by rw [typeLookup_type, builtinLookup_eq_fast]; kernel_rfl) (by decide +kernel) (by decide +kernel) (by decide +kernel)
    (by first | exact .inl (by decide +kernel) | exact .inr (by decide +kernel)) (by rw [isSubtype_type]; kernel_rfl)
theorem called_rvt : TypeCalled "reversed" "reversed.__new__" "object.__init__" :=
  ⟨by decide +kernel, by decide +kernel, ⟨_, _, F.mro_reversed⟩, F.made_reversed, by decide +kernel, by rw [isSubtype_type]; kernel_rfl, slot_rvt_init⟩
theorem look_tuple_reversed : typeLookup (.type "tuple") (Str.ofString "__reversed__") = pure none := by rw [typeLookup_type, builtinLookup_eq_fast]; kernel_rfl
theorem sub_tuple_dict : isSubtype (.type "tuple") (.type "dict") = pure false := by rw [isSubtype_type]; kernel_rfl

noncomputable def rvtObj (t : Addr) (i : Int) : Obj := { cls := .type "reversed", data := .fields #[.ref t, rawInt i] }
noncomputable def IsRvt (h : Heap) (a t : Addr) (i : Int) : Prop := ∃ o, h.get? a = some o ∧ o.cls = .type "reversed" ∧ o.data = .fields #[.ref t, rawInt i]
section
variable {prog : Program} {w : World} {A : Around} {E : Value → Shared → Prop} {s : Shared}
theorem IsRvt.typeIs {a t : Addr} {i : Int} (x : IsRvt s.heap a t i) : s.TypeIs (.ref a) "reversed" := let ⟨o, ho, hc, _⟩ := x; ⟨o, ho, hc⟩
theorem IsRvt.at {h h' : Heap} {a t : Addr} {i : Int} (x : IsRvt h a t i) (e : ∀ o, h.get? a = some o → h'.get? a = some o) : IsRvt h' a t i := let ⟨o, ho, r⟩ := x; ⟨o, e _ ho, r⟩

theorem code_rvt_new {t : Addr} {items : Array Value} {Q₁ : Value → Shared → Prop} (ht : IsTup s.heap t items) (hfit : (items.size : Int) < 2 ^ 63)
    (h : ∀ tk, Q₁ (.ref s.heap.objs.size) { s with heap := s.heap.push (rvtObj t ((items.size : Int) - 1)), toks := tk }) :
    codeAny (model prog w) A (.call (.builtin "reversed.__new__") ⟨[.type "reversed", .ref t], []⟩) (wants Q₁ E) s := by
  refine codeAny_of_tree ?_
  show wpAny _ A.in1 (do checkBuiltinCall "reversed.__new__" ⟨[.type "reversed", .ref t], []⟩; again (.builtin "reversed.__new__" ⟨[.type "reversed", .ref t], []⟩)) _ _ s
  refine wpAny_bind (wpAny_of_eq (F.newCall_reversed_1 _) (wpAny_pure ⟨plainId_quiet F.plain_reversed_new _, codeAny_builtin F.entry_reversed_new ?_⟩))
  rw [Around.under_plainId F.plain_reversed_new _]
  unfold Builtin.«reversed.__new__»
  refine wpAny_bind (wpAny_of_eq (newClass_reversed _) ?_)
  try dsimp only
  refine wpAny_bind (wpAny_of_eq (a := ()) (by first | rfl | kernel_rfl) ?_)
  refine wpAny_bind (wpAny_of_eq (a := ()) (by first | rfl | kernel_rfl) ?_)
  try dsimp only
  refine wpAny_bind (wpAny_specialOf ht.typeIs look_tuple_reversed ?_)
  try dsimp only
  refine wpAny_bind ?_
  show wpAny _ _ (isInstance (.ref t) (.type "dict") >>= _) _ _ _
  refine wpAny_bind (wpAny_isInstance ht.typeIs sub_tuple_dict ?_)
  simp only [Bool.false_eq_true, if_false]
  refine wpAny_bind (wpAny_specialOf ht.typeIs slot_tuple_getitem.lookup ?_)
  dsimp only
  rw [if_pos (by decide +kernel)]
  refine wpAny_pure ?_
  simp only [Bool.not_true, Bool.false_eq_true, if_false]
  refine wpAny_bind (len_tuple ht hfit ?_)
  refine wpAny_bind (wpAny_of_eq (a := some (items.size : Int)) (by rfl) ?_)
  dsimp only
  unfold Builtin.SmallTypes.newRecord
  dsimp only
  refine wpAny_bind (wpAny_newObj_type ?_)
  exact wpAny_pure (h _)
theorem next_rvt_item {it t : Addr} {i : Nat} {items : Array Value} {x : Value} {Q : Option Value → Shared → Prop} (hit : IsRvt s.heap it t (i : Int)) (ht : IsTup s.heap t items) (hx : items[i]? = some x) (hfit : (items.size : Int) < 2 ^ 63)
    (hQ : ∀ h' tk, IsRvt h' it t ((i : Int) - 1) → Heap.SameBut it s.heap h' → Q (some x) { s with heap := h', toks := tk }) : wpAny (model prog w) A (pyNext (.ref it)) Q E s := by
  obtain ⟨o, ho, hc, hd⟩ := id hit
  unfold pyNext
  refine wpAny_bind (wpAny_attempt (wpAny_callSpecial?_slot (name := Str.ofString "__next__") hit.typeIs slot_rvt_next
    (wpAny_call_entry slot_rvt_next hit.typeIs entry_rvt_next ?_ (args_rvt_next _))))
  unfold Builtin.«reversed.__next__»
  refine wpAny_bind (wpAny_of_eq (a := (Value.ref it, [])) rfl ?_)
  try dsimp only
  refine wpAny_bind (wpAny_field ho hd (x := .ref t) rfl ?_)
  refine wpAny_bind (wpAny_field ho hd (x := rawInt (i : Int)) rfl ?_)
  show wpAny _ _ (if (i : Int) < 0 then _ else _) _ _ s
  rw [if_neg (by omega)]
  refine wpAny_bind (wpAny_specialOf ht.typeIs slot_tuple_getitem.lookup ?_)
  simp only [Option.isNone_some, Bool.false_eq_true, if_false]
  refine wpAny_bind (wpAny_mkInt ?_)
  have hi : i < items.size := by
    rcases Array.getElem?_eq_some_iff.mp hx with ⟨q, _⟩; exact q
  refine wpAny_bind (wpAny_attempt (getItem_tuple (j := i) ht (by omega) (by omega) (by unfold seqIndex?; rw [if_neg (show ¬ ((i : Int) < 0) by omega)]; dsimp only; rw [if_pos (by simp; omega), Int.toNat_natCast]) hx ?_))
  dsimp only
  refine wpAny_bind (wpAny_field ho hd (x := rawInt (i : Int)) rfl ?_)
  show wpAny _ _ (setField (.ref it) 1 (rawInt ((i : Int) - 1)) >>= _) _ _ _
  refine wpAny_bind (wpAny_setField ho hd (by simp) ?_)
  refine wpAny_pure ⟨x, rfl, wpAny_pure (hQ _ _ ?_ (Heap.SameBut.update ..))⟩
  exact ⟨_, Heap.get?_update_self _ ho (Obj.isFreed_of_fields (Obj.data_mapFields hd _)), (Obj.cls_mapFields ..).trans hc, by
    rw [Obj.data_mapFields hd]; simp⟩
theorem next_rvt_end {it t : Addr} {Q : Option Value → Shared → Prop} (hh : A.handled = none) (hit : IsRvt s.heap it t (-1))
    (hQ : ∀ h', Heap.ExtBut it s.heap h' → Q none { s with heap := h' }) : wpAny (model prog w) A (pyNext (.ref it)) Q E s := by
  obtain ⟨o, ho, hc, hd⟩ := id hit
  unfold pyNext
  refine wpAny_bind (wpAny_attempt (wpAny_callSpecial?_slot (name := Str.ofString "__next__") hit.typeIs slot_rvt_next
    (wpAny_call_entry slot_rvt_next hit.typeIs entry_rvt_next ?_ (args_rvt_next _))))
  unfold Builtin.«reversed.__next__»
  refine wpAny_bind (wpAny_of_eq (a := (Value.ref it, [])) rfl ?_)
  try dsimp only
  refine wpAny_bind (wpAny_field ho hd (x := .ref t) rfl ?_)
  refine wpAny_bind (wpAny_field ho hd (x := rawInt (-1)) rfl ?_)
  show wpAny _ _ (if (-1 : Int) < 0 then _ else _) _ _ s
  rw [if_pos (by decide)]
  refine wpAny_bind (wpAny_rule ?_)
  refine wpAny_bind ?_
  show wpAny _ _ (setField (.ref it) 1 (rawInt (-1)) >>= fun _ => setField (.ref it) 0 .none) _ _ _
  refine wpAny_bind (wpAny_setField ho hd (by simp) ?_)
  have ho1 := Heap.get?_update_self (Obj.mapFields fun vs => vs.setIfInBounds 1 (rawInt (-1))) ho (Obj.isFreed_of_fields (Obj.data_mapFields hd _))
  have hd1 : (Obj.mapFields (fun vs => vs.setIfInBounds 1 (rawInt (-1))) o).data = .fields #[.ref t, rawInt (-1)] := by rw [Obj.data_mapFields hd]; simp
  refine wpAny_setField (s := { s with heap := s.heap.update it (Obj.mapFields fun vs => vs.setIfInBounds 1 (rawInt (-1))) }) ho1 hd1 (by simp) ?_
  have e1 : Heap.ExtBut it s.heap ((s.heap.update it (Obj.mapFields fun vs => vs.setIfInBounds 1 (rawInt (-1)))).update it (Obj.mapFields fun vs => vs.setIfInBounds 0 .none)) :=
    (Heap.SameBut.update ..).extBut.trans (Heap.SameBut.update ..).extBut
  generalize (s.heap.update it (Obj.mapFields fun vs => vs.setIfInBounds 1 (rawInt (-1)))).update it (Obj.mapFields fun vs => vs.setIfInBounds 0 .none) = h2 at e1 ⊢
  refine wpAny_bind ?_
  show wpAny _ _ (newExc (.type "StopIteration") [] >>= _) _ _ _
  refine wpAny_bind ?_
  simp only [newExc, newTuple]
  refine wpAny_bind (wpAny_newObj_type ?_ (by size_fits))
  refine wpAny_bind (m := firstArgMember _ _) (wpAny_of_eq (a := Value.none) (by first | rfl | (simp only [firstArgMember]; rfl)) ?_)
  refine wpAny_newObj_type ?_ (by size_fits)
  simp only [raiseNew]
  refine wpAny_bind (wpAny_handled ?_)
  first | rw [show A.in1.handled = none from hh] | rw [hh]
  refine wpAny_bind (wpAny_pure (wpAny_throw ?_))
  refine wpAny_bind (wpAny_isInstance (T := "StopIteration") (b := true) ⟨_, Heap.get?_push_size _ rfl, rfl⟩ isSubtype_stop ?_)
  exact wpAny_pure (hQ _ ((e1.push _).push _))
theorem pyIter_rvt {it t : Addr} {i : Int} {Q : Value → Shared → Prop} (hit : IsRvt s.heap it t i) (h : Q (.ref it) s) : wpAny (model prog w) A (pyIter (.ref it)) Q E s := by
  refine wpAny_pyIter_slot hit.typeIs slot_rvt_iter (wpAny_call_entry slot_rvt_iter hit.typeIs entry_rvt_iter ?_ (args_rvt_iter _))
  show wpAny _ _ (ret (.ref it)) _ _ s
  exact wpAny_pure ⟨_, rfl, "reversed", _, hit.typeIs, slot_rvt_next.lookup, h⟩
theorem call_rvt {t : Addr} {items : Array Value} {Q : Value → Shared → Prop} (ht : IsTup s.heap t items) (hfit : (items.size : Int) < 2 ^ 63)
    (h : ∀ tk, Q (.ref s.heap.objs.size) { s with heap := s.heap.push (rvtObj t ((items.size : Int) - 1)), toks := tk }) : wpAny (model prog w) A (call (.type "reversed") [.ref t]) Q E s := by
  refine callType_codes (T := "reversed") (Bi := Builtin.«object.__init__») (Q₁ := fun r s₁ => ∃ tk, r = .ref s.heap.objs.size ∧ s₁ = { s with heap := s.heap.push (rvtObj t ((items.size : Int) - 1)), toks := tk }) called_rvt (F.typeCall_reversed_1 _) F.entry_object_init
    (code_rvt_new ht hfit fun tk => ⟨tk, rfl, rfl⟩) ?_
  rintro obj s₁ ⟨tk, rfl, rfl⟩
  have hT : Shared.TypeIs { s with heap := s.heap.push (rvtObj t ((items.size : Int) - 1)), toks := tk } (.ref s.heap.objs.size) "reversed" := ⟨_, Heap.get?_push_size _ rfl, rfl⟩
  exact ⟨hT, PySem.F.args_object_init_2 _ _, object_init_meets called_rvt.init.lookup called_rvt.made (by decide) prog w A.in1 _ _ ⟨hT, rfl, h tk⟩⟩
end
theorem walks_rvt {prog : Program} {w : World} {A : Around} (hh : A.handled = none) (I t : Addr) (hne : t ≠ I) (items : Array Value) (hfit : (items.size : Int) < 2 ^ 63) :
    Walks prog w A I [I, t] [I] items.size (fun i v => items[items.size - 1 - i]? = some v) (fun i h => i ≤ items.size ∧ IsRvt h I t ((items.size : Int) - 1 - (i : Int)) ∧ IsTup h t items) where
  sub := fun b hb => by simp at hb; simp [hb]
  frame := fun _ _ _ x hk => ⟨x.1, x.2.1.at fun o e => hk I (by simp) o e, by obtain ⟨o, ho, r⟩ := x.2.2; exact ⟨o, hk t (by simp) o ho, r⟩⟩
  item := fun i s Q E hi x hQ => by
    have e : (items.size : Int) - 1 - (i : Int) = ((items.size - 1 - i : Nat) : Int) := by omega
    have hit := x.2.1
    rw [e] at hit
    have hx : items[items.size - 1 - i]? = some (items[items.size - 1 - i]'(by omega)) := Array.getElem?_eq_getElem (by omega)
    refine next_rvt_item hit x.2.2 hx hfit fun h' tk hit' hs' => ?_
    have e2 : ((items.size - 1 - i : Nat) : Int) - 1 = (items.size : Int) - 1 - ((i + 1 : Nat) : Int) := by omega
    rw [e2] at hit'
    exact hQ _ h' tk hx ⟨hi, hit', by obtain ⟨o, ho, r⟩ := x.2.2; exact ⟨o, (hs'.2 t hne).trans ho, r⟩⟩ fun b o hb eo => hs'.extBut b o (fun h => hb (by simp [h])) eo
  done := fun s Q E x hQ => by
    have e : (items.size : Int) - 1 - (items.size : Int) = -1 := by omega
    have hit := x.2.1
    rw [e] at hit
    exact next_rvt_end hh hit fun h' he' => hQ h' s.toks fun b o hb eo => he' b o (fun h => hb (by simp [h])) eo
  self := fun _ _ _ _ x hQ => pyIter_rvt x.2.1 hQ

end
section

noncomputable def pin : List (Str × Value) → (Str → Option Value) → Str → Option Value
  | [], u => u
  | (x, v) :: r, u => fun y => if y = x then some v else pin r u y
theorem pin_eq {ps : List (Str × Value)} {m : Str → Option Value} (h : ∀ p ∈ ps, m p.1 = some p.2) : pin ps m = m := by
  induction ps with
  | nil => rfl
  | cons p r ih =>
    obtain ⟨x, v⟩ := p
    funext y
    show (if y = x then some v else pin r m y) = m y
    rw [ih fun q hq => h q (.tail _ hq)]
    by_cases q : y = x
    · subst q; rw [if_pos rfl]; exact (h _ (.head _)).symm
    · rw [if_neg q]
theorem pins_fr {h₀ h : Heap} {L : Addr} {m : Str → Option Value} {ps : List (Str × Value)} (F : Fr h₀ L h m) (e : ∀ p ∈ ps, m p.1 = some p.2) : Fr h₀ L h (pin ps m) := by rw [pin_eq e]; exact F
theorem news_Rest {g h : Heap} {L : Addr} {adr : List Addr} : News g L h (Rest g h L adr) := fun p hp => by
  obtain ⟨a, b, c, _⟩ := mem_Rest.mp hp
  exact ⟨a, c, b⟩
theorem off_Rest {g h : Heap} {L : Addr} {adr : List Addr} : OwnOff (Rest g h L adr) adr := fun _ hp _ hb e => (mem_Rest.mp hp).2.2.2 (e ▸ hb)
theorem news_app {g h : Heap} {L : Addr} {a b : List (Addr × Obj)} (x : News g L h a) (y : News g L h b) : News g L h (a ++ b) := fun p hp => (List.mem_append.mp hp).elim (x p) (y p)
theorem sub_Rest {g h : Heap} {L : Addr} {adr : List Addr} {tl : List (Addr × Obj)} (N : News g L h tl) (o : OwnOff tl adr) : ∀ p ∈ tl, p ∈ Rest g h L adr := fun p hp =>
  mem_Rest.mpr ⟨(N p hp).1, (N p hp).2.2, (N p hp).2.1, fun q => o p hp _ q rfl⟩

section
variable {prog : Program} {w : World} {A : Around} {E : Value → Shared → Prop} {Q : Flow → Shared → Prop} {s : Shared} {env : Env} {g : Heap} {L : Addr}

noncomputable def WEnd {σ : Type} (g : Heap) (L : Addr) (s : Shared) (Led : σ → List (Addr × Obj)) (ps : σ → List (Str × Value)) (I : σ → Heap → Prop) (μ : σ → Nat) (tl : List (Addr × Obj)) (Q : Flow → Shared → Prop) (c : σ) (f : Flow) (s₂ : Shared) : Prop :=
  match f with
  | .ret v => Q (.ret v) s₂
  | .brk => Q .next s₂
  | _ => ∃ c' h' tk' m' tl', s₂ = { s with heap := h', toks := tk' } ∧ Fr g L h' m' ∧ News g L h' (Led c' ++ tl') ∧ (∀ p ∈ tl, p ∈ tl') ∧ (∀ p ∈ ps c', m' p.1 = some p.2) ∧ I c' h' ∧ μ c' < μ c

theorem while_h {σ : Type} {test : Expr} {body : List Stmt} {pos : Pos} {m₀ : Str → Option Value} {adr : List Addr} {tl₀ : List (Addr × Obj)} (Led : σ → List (Addr × Obj)) (ps : σ → List (Str × Value)) (I : σ → Heap → Prop) (μ : σ → Nat) (c₀ : σ)
    (hnt : ∀ c, ∀ p ∈ Led c, p.2.cls ≠ .type "tuple") (hadr : ∀ c, (Led c).map (·.1) = adr) (hst : ∀ c h h', TupKeep h h' → I c h → I c h')
    (F : Fr g L s.heap m₀) (N : News g L s.heap (Led c₀ ++ tl₀)) (hO : OwnOff tl₀ adr) (hps : ∀ p ∈ ps c₀, m₀ p.1 = some p.2) (hI : I c₀ s.heap)
    (turn : ∀ c u h tk tl, Fr g L h (pin (ps c) u) → News g L h (Led c ++ tl) → OwnOff tl adr → Cov g L adr h tl → TCov g h tl → (∀ p ∈ tl₀, p ∈ tl) → I c h →
      wpAny (model prog w) A (isTrue test env (eval test env)) (fun b s₂ =>
        if b = true then wpAny (model prog w) A (execs body env) (WEnd g L s Led ps I μ tl Q c) E s₂ else Q .next s₂) E { s with heap := h, toks := tk })
    (hE : PassesOwn (model prog w) A env E := by passes_own) :
    wpAny (model prog w) A (exec (.While test body [] pos) env) Q E s := by
  have key : ∀ (c : σ) (h : Heap) (m : Str → Option Value) (nx : List (Addr × Obj)), Fr g L h m → News g L h (Led c ++ nx) → TCov g h (Rest g h L adr) := fun c h m nx F₁ N₁ => by
    have := (cov_Rest F₁ adr)
    rw [← hadr c] at this ⊢
    exact this.tup F₁ (fun p hp => N₁ p (List.mem_append.mpr (.inl hp))) (hnt c)
  refine While_inv2 (fun n m nx => ∃ c hx, nx = Led c ++ Rest g hx L adr ∧ TCov g hx (Rest g hx L adr) ∧ (∀ p ∈ tl₀, p ∈ Rest g hx L adr) ∧ (∀ p ∈ ps c, m p.1 = some p.2) ∧ I c hx ∧ n = μ c) F
    (news := Led c₀ ++ Rest g s.heap L adr) (news_app (fun p hp => N p (List.mem_append.mpr (.inl hp))) news_Rest)
    ⟨c₀, s.heap, rfl, key c₀ _ _ _ F N, sub_Rest (fun p hp => N p (List.mem_append.mpr (.inr hp))) hO, hps, hI, rfl⟩ ?_ hE
  rintro n m₁ nx h tk F₁ N₁ ⟨c, hx, rfl, C, hsub, hp, hI₁, rfl⟩
  have tk₁ : TupKeep hx h := C.keep F₁ N₁ fun p q => List.mem_append.mpr (.inr q)
  have NL : News g L h (Led c) := fun p q => N₁ p (List.mem_append.mpr (.inl q))
  have hsub' : ∀ p ∈ tl₀, p ∈ Rest g h L adr := sub_Rest (fun p q => N₁ p (List.mem_append.mpr (.inr (hsub p q)))) hO
  refine wpAny_mono (turn c m₁ h tk (Rest g h L adr) (pins_fr F₁ hp) (news_app NL news_Rest) off_Rest (cov_Rest F₁ adr) (key c h m₁ _ F₁ N₁) hsub' (hst _ _ _ tk₁ hI₁)) (fun b s₂ p => ?_) fun _ _ y => y
  cases b with
  | false => simpa using p
  | true =>
    simp only [if_true] at p ⊢
    refine wpAny_mono p (fun f s₃ q => ?_) fun _ _ y => y
    have fin : (∃ c' h' tk' m' tl', s₃ = { s with heap := h', toks := tk' } ∧ Fr g L h' m' ∧ News g L h' (Led c' ++ tl') ∧ (∀ p ∈ Rest g h L adr, p ∈ tl') ∧ (∀ p ∈ ps c', m' p.1 = some p.2) ∧ I c' h' ∧ μ c' < μ c) →
        ∃ h' tk m₂ news₂ n', s₃ = { s with heap := h', toks := tk } ∧ Fr g L h' m₂ ∧ News g L h' news₂ ∧ n' < μ c ∧ ∃ c hx, news₂ = Led c ++ Rest g hx L adr ∧ TCov g hx (Rest g hx L adr) ∧ (∀ p ∈ tl₀, p ∈ Rest g hx L adr) ∧ (∀ p ∈ ps c, m₂ p.1 = some p.2) ∧ I c hx ∧ n' = μ c := by
      rintro ⟨c', h', tk', m', tl', rfl, F', N', hs', hp', hI', hm'⟩
      exact ⟨h', tk', m', _, μ c', rfl, F', news_app (fun p q => N' p (List.mem_append.mpr (.inl q))) news_Rest, hm', c', h', rfl, key c' _ _ _ F' N',
        sub_Rest (fun p q => N' p (List.mem_append.mpr (.inr (hs' p (hsub' p q))))) hO, hp', hI', rfl⟩
    cases f with
    | ret v => exact q
    | brk => exact q
    | next => exact fin q
    | cont => exact fin q

noncomputable def FEnd {σ : Type} (g : Heap) (L : Addr) (s : Shared) (Led : σ → List (Addr × Obj)) (ps : σ → List (Str × Value)) (I : Nat → σ → Heap → Prop) (tl : List (Addr × Obj)) (Q : Flow → Shared → Prop) (i : Nat) (f : Flow) (s₂ : Shared) : Prop :=
  match f with
  | .ret v => Q (.ret v) s₂
  | .brk => Q .next s₂
  | _ => ∃ c' h' tk' m' tl', s₂ = { s with heap := h', toks := tk' } ∧ Fr g L h' m' ∧ News g L h' (Led c' ++ tl') ∧ (∀ p ∈ tl, p ∈ tl') ∧ (∀ p ∈ ps c', m' p.1 = some p.2) ∧ I i c' h'

theorem FEnd.nx {σ : Type} {Led : σ → List (Addr × Obj)} {ps : σ → List (Str × Value)} {I : Nat → σ → Heap → Prop} {tl : List (Addr × Obj)} {i : Nat} {s₂ : Shared} {h' : Heap} {tk' : Nat} {m' : Str → Option Value} (c' : σ) (tl' : List (Addr × Obj))
    (F : Fr g L h' m') (N : News g L h' (Led c' ++ tl')) (hs : ∀ p ∈ tl, p ∈ tl') (hps : ∀ p ∈ ps c', m' p.1 = some p.2) (hI : I i c' h') (e : s₂ = { s with heap := h', toks := tk' } := by rfl) : FEnd g L s Led ps I tl Q i .next s₂ := ⟨c', h', tk', m', tl', e, F, N, hs, hps, hI⟩
theorem WEnd.nx {σ : Type} {Led : σ → List (Addr × Obj)} {ps : σ → List (Str × Value)} {I : σ → Heap → Prop} {μ : σ → Nat} {tl : List (Addr × Obj)} {c : σ} {s₂ : Shared} {h' : Heap} {tk' : Nat} {m' : Str → Option Value} (c' : σ) (tl' : List (Addr × Obj))
    (F : Fr g L h' m') (N : News g L h' (Led c' ++ tl')) (hs : ∀ p ∈ tl, p ∈ tl') (hps : ∀ p ∈ ps c', m' p.1 = some p.2) (hI : I c' h') (hm : μ c' < μ c) (e : s₂ = { s with heap := h', toks := tk' } := by rfl) : WEnd g L s Led ps I μ tl Q c .next s₂ := ⟨c', h', tk', m', tl', e, F, N, hs, hps, hI, hm⟩
theorem for_walk {σ : Type} {x : Str} {body : List Stmt} {m₀ : Str → Option Value} {It : Addr} {fp : List Addr} {n : Nat} {P : Nat → Value → Prop} {Stt : Nat → Heap → Prop} {adr : List Addr} {tl₀ : List (Addr × Obj)} (Led : σ → List (Addr × Obj)) (ps : σ → List (Str × Value)) (I : Nat → σ → Heap → Prop) (c₀ : σ)
    (W : Walks prog w A It fp [It] n P Stt) (hIf : It ∈ fp) (hIt : ∀ i h, Stt i h → ∃ o, h.get? It = some o ∧ o.cls ≠ .type "tuple") (hIg : g.get? It = none) (hst0 : Stt 0 s.heap) (hLf : env.locals ∉ fp) (hfa : ∀ b ∈ fp, b ∉ adr)
    (hnt : ∀ c, ∀ p ∈ Led c, p.2.cls ≠ .type "tuple") (hadr : ∀ c, (Led c).map (·.1) = adr) (hst : ∀ i c h h', TupKeep h h' → I i c h → I i c h')
    (F : Fr g env.locals s.heap m₀) (N : News g env.locals s.heap (Led c₀ ++ tl₀)) (hO : OwnOff tl₀ adr) (hO' : ∀ p ∈ tl₀, p.1 ≠ It) (hps : ∀ p ∈ ps c₀, m₀ p.1 = some p.2) (hI : I 0 c₀ s.heap)
    (turn : ∀ i v c u h tk tl, i < n → P i v → Fr g env.locals h (fun y => if y = x then some v else pin (ps c) u y) → News g env.locals h (Led c ++ tl) → OwnOff tl adr → Cov g env.locals adr h tl → TCov g h tl → (∀ p ∈ tl₀, p ∈ tl) → I i c h →
      wpAny (model prog w) A (execs body env) (FEnd g env.locals s Led ps I tl Q (i + 1)) E { s with heap := h, toks := tk })
    (done : ∀ c u h tk tl, Fr g env.locals h (pin (ps c) u) → News g env.locals h (Led c ++ tl) → OwnOff tl adr → Cov g env.locals adr h tl → TCov g h tl → (∀ p ∈ tl₀, p ∈ tl) → I n c h → Q .next { s with heap := h, toks := tk }) :
    LoopAtV prog w A g env x body Q E (.ref It) s := by
  have hIL : It ≠ env.locals := fun q => hLf (q ▸ hIf)
  have hIadr : It ∉ adr := hfa _ hIf
  have key : ∀ (c : σ) (h : Heap) (m : Str → Option Value), Fr g env.locals h m → News g env.locals h (Led c) → (∀ vs, ¬ TupAt h It vs) → TCov g h (Rest g h env.locals (It :: adr)) := fun c h m F₁ N₁ hJ a vs e => by
    rcases cov_Rest F₁ (It :: adr) a _ e with q | q | q | q
    · exact .inl q
    · subst q; exact (ns_not_tup F₁.ns e).elim
    · rcases List.mem_cons.mp q with rfl | q
      · exact (hJ _ e).elim
      · rw [← hadr c] at q
        obtain ⟨p, hp, rfl⟩ := List.mem_map.mp q
        have h1 := (N₁ p hp).1
        have e' : h.get? p.1 = some (tup vs) := e
        rw [e'] at h1
        cases p with
        | mk a o => cases h1; exact absurd rfl (hnt _ _ hp)
    · exact .inr q
  have key2 : ∀ (c : σ) (h : Heap) (m : Str → Option Value), Fr g env.locals h m → News g env.locals h (Led c) → TCov g h (Rest g h env.locals adr) := fun c h m F₁ N₁ => by
    have := (cov_Rest F₁ adr)
    rw [← hadr c] at this ⊢
    exact this.tup F₁ N₁ (hnt c)
  have notup : ∀ i h, Stt i h → ∀ vs, ¬ TupAt h It vs := fun i h st vs e => by
    obtain ⟨o, ho, hc⟩ := hIt i h st
    have e' : h.get? It = some (tup vs) := e
    rw [ho] at e'
    cases e'
    exact hc rfl
  let J : Nat → (Str → Option Value) → List (Addr × Obj) → Prop := fun i m nx => ∃ c hx, nx = Led c ++ Rest g hx env.locals (It :: adr) ∧ TCov g hx (Rest g hx env.locals (It :: adr)) ∧
    (∀ p ∈ tl₀, p ∈ Rest g hx env.locals (It :: adr)) ∧ (∀ p ∈ ps c, m p.1 = some p.2) ∧ I i c hx
  have NL0 : News g env.locals s.heap (Led c₀) := fun p hp => N p (List.mem_append.mpr (.inl hp))
  refine ⟨It, fp, [It], n, P, Stt, m₀, Led c₀ ++ Rest g s.heap env.locals (It :: adr), J, rfl, W, hLf, ?_, ?_, hst0, F, ?_, ?_, ?_, ?_⟩
  · intro b hb
    rw [List.mem_singleton.mp hb]
    exact hIg
  · intro p hp hq
    rcases List.mem_append.mp hp with hp | hp
    · refine hIadr ?_
      rw [← hadr c₀, ← List.mem_singleton.mp hq]
      exact List.mem_map.mpr ⟨p, hp, rfl⟩
    · exact (mem_Rest.mp hp).2.2.2 (by rw [List.mem_singleton.mp hq]; exact .head _)
  · exact news_app NL0 news_Rest
  · refine ⟨c₀, s.heap, rfl, key c₀ _ _ F NL0 (notup 0 _ hst0), ?_, hps, hI⟩
    intro p hp
    have h1 := N p (List.mem_append.mpr (.inr hp))
    refine mem_Rest.mpr ⟨h1.1, h1.2.2, h1.2.1, fun q => ?_⟩
    rcases List.mem_cons.mp q with q | q
    · exact hO' p hp q
    · exact hO p hp _ q rfl
  · rintro i v m₁ nx s₁ own ⟨h, tk, rfl⟩ hin hP ⟨c, hx, rfl, C, hsub, hp, hI₁⟩ _ hown hownh hfp hst₁ F₁ N₁
    have NL : News g env.locals h (Led c) := fun p q => N₁ p (List.mem_append.mpr (.inr (List.mem_append.mpr (.inl q))))
    have NR : News g env.locals h (Rest g hx env.locals (It :: adr)) := fun p q => N₁ p (List.mem_append.mpr (.inr (List.mem_append.mpr (.inr q))))
    have tk₁ : TupKeep hx h := C.keep F₁ NR fun p q => q
    have hsub' : ∀ p ∈ tl₀, p ∈ Rest g h env.locals adr := sub_Rest (fun p q => NR p (hsub p q)) hO
    obtain ⟨oI, hoI, hcI⟩ := hIt _ _ hst₁
    have hIown : (It, oI) ∈ Rest g h env.locals adr := mem_Rest.mpr ⟨hoI, hIg, hIL, hIadr⟩
    have hownR : ∀ p ∈ own, p ∈ Rest g h env.locals adr := fun p q => by
      have h1 := N₁ p (List.mem_append.mpr (.inl q))
      exact mem_Rest.mpr ⟨h1.1, h1.2.2, h1.2.1, hfa _ (hown p q)⟩
    have F₁' : Fr g env.locals h (fun y => if y = x then some v else pin (ps c) m₁ y) := by rw [pin_eq hp]; exact F₁
    refine wpAny_mono (turn i v c m₁ h tk (Rest g h env.locals adr) hin hP F₁' (news_app NL news_Rest) off_Rest (cov_Rest F₁ adr) (key2 c h _ F₁ NL) hsub' (hst _ _ _ _ tk₁ hI₁)) (fun f s₂ q => ?_) fun _ _ y => y
    have fin : (∃ c' h' tk' m' tl', s₂ = { s with heap := h', toks := tk' } ∧ Fr g env.locals h' m' ∧ News g env.locals h' (Led c' ++ tl') ∧ (∀ p ∈ Rest g h env.locals adr, p ∈ tl') ∧ (∀ p ∈ ps c', m' p.1 = some p.2) ∧ I (i + 1) c' h') →
        LoopStepU g env.locals [It] own (J (i + 1)) { s with heap := h, toks := tk } .next s₂ := by
      rintro ⟨c', h', tk', m', tl', rfl, F', N', hs', hp', hI'⟩
      have NR' : ∀ p ∈ Rest g h env.locals adr, h'.get? p.1 = some p.2 ∧ p.1 ≠ env.locals ∧ g.get? p.1 = none := fun p r => N' p (List.mem_append.mpr (.inr (hs' p r)))
      have NL' : News g env.locals h' (Led c') := fun p r => N' p (List.mem_append.mpr (.inl r))
      refine ⟨rfl, h', tk', m', Led c' ++ Rest g h' env.locals (It :: adr), rfl, F', news_app (fun p r => NR' p (hownR p r)) (news_app NL' news_Rest), ?_, c', h', rfl, key c' _ _ F' NL' ?_, ?_, hp', hI'⟩
      · intro p hp hq
        rcases List.mem_append.mp hp with hp | hp
        · refine hIadr ?_
          rw [← hadr c', ← List.mem_singleton.mp hq]
          exact List.mem_map.mpr ⟨p, hp, rfl⟩
        · exact (mem_Rest.mp hp).2.2.2 (by rw [List.mem_singleton.mp hq]; exact .head _)
      · intro us e
        have h1 := (NR' _ hIown).1
        have e' : h'.get? It = some (tup us) := e
        rw [e'] at h1
        cases h1
        exact hcI rfl
      · intro p r
        have h1 := NR' p (hsub' p r)
        refine mem_Rest.mpr ⟨h1.1, h1.2.2, h1.2.1, fun q => ?_⟩
        rcases List.mem_cons.mp q with q | q
        · exact hO' p r q
        · exact hO p r _ q rfl
    cases f with
    | ret v => exact .ret q
    | brk => exact .brk q
    | next => exact .next (fin q)
    | cont => exact .cont (fin q)
  · rintro h' tk m' nx F' N' _ ⟨c, hx, rfl, C, hsub, hp, hI₁⟩
    have NL : News g env.locals h' (Led c) := fun p q => N' p (List.mem_append.mpr (.inl q))
    have NR : News g env.locals h' (Rest g hx env.locals (It :: adr)) := fun p q => N' p (List.mem_append.mpr (.inr q))
    exact done c m' h' tk (Rest g h' env.locals adr) (pins_fr F' hp) (news_app NL news_Rest) off_Rest (cov_Rest F' adr) (key2 c h' _ F' NL) (sub_Rest (fun p q => NR p (hsub p q)) hO) (hst _ _ _ _ (C.keep F' NR fun p q => q) hI₁)

theorem ns_ne {h : Heap} {L a : Addr} {m : Str → Option Value} {o : Obj} (n : h.Ns L m) (e : h.get? a = some o) (hc : ∀ es ep, o.data ≠ .dict es ep) : L ≠ a := fun q => by
  obtain ⟨o', es, ep, ho, hd, _⟩ := n
  rw [q, e] at ho
  cases ho
  exact hc _ _ hd

theorem for_list {σ : Type} {x : Str} {body : List Stmt} {m₀ : Str → Option Value} {l : Addr} {vs : List Value} {nn : Nat} {adr : List Addr} {tl₀ : List (Addr × Obj)} (Led : σ → List (Addr × Obj)) (ps : σ → List (Str × Value)) (I : Nat → σ → Heap → Prop) (c₀ : σ)
    (hh : A.handled = none) (hl : s.heap.get? l = some (listOf vs.toArray nn)) (hla : l ∉ adr)
    (hnt : ∀ c, ∀ p ∈ Led c, p.2.cls ≠ .type "tuple") (hadr : ∀ c, (Led c).map (·.1) = adr) (hst : ∀ i c h h', TupKeep h h' → I i c h → I i c h')
    (F : Fr g env.locals s.heap m₀) (N : News g env.locals s.heap (Led c₀ ++ tl₀)) (hO : OwnOff tl₀ adr) (hps : ∀ p ∈ ps c₀, m₀ p.1 = some p.2) (hI : I 0 c₀ s.heap)
    (turn : ∀ i v c u h tk tl, vs[i]? = some v → Fr g env.locals h (fun y => if y = x then some v else pin (ps c) u y) → News g env.locals h (Led c ++ tl) → OwnOff tl adr → Cov g env.locals adr h tl → TCov g h tl → (∀ p ∈ tl₀, p ∈ tl) → I i c h →
      wpAny (model prog w) A (execs body env) (FEnd g env.locals s Led ps I tl Q (i + 1)) E { s with heap := h, toks := tk })
    (done : ∀ c u h tk tl, Fr g env.locals h (pin (ps c) u) → News g env.locals h (Led c ++ tl) → OwnOff tl adr → Cov g env.locals adr h tl → TCov g h tl → (∀ p ∈ tl₀, p ∈ tl) → I vs.length c h → Q .next { s with heap := h, toks := tk }) :
    wpAny (model prog w) A (pyIter (.ref l)) (fun it s₂ => LoopAtV prog w A g env x body Q E it s₂) E s := by
  have hls : s.heap.IsList l vs.toArray := ⟨_, hl, rfl, nn, rfl⟩
  have hne : l ≠ s.heap.objs.size := Nat.ne_of_lt (Heap.lt_size hl)
  have hadr0 : ∀ b ∈ adr, b < s.heap.objs.size := fun b hb => by
    rw [← hadr c₀] at hb
    obtain ⟨p, hp, rfl⟩ := List.mem_map.mp hb
    exact Heap.lt_size (N p (List.mem_append.mpr (.inl hp))).1
  refine wpAny_pyIter_list hls ?_
  have W := Walks.list (prog := prog) (w := w) hh s.heap.objs.size l hne vs.toArray
  have hlen : vs.toArray.size = vs.length := by simp
  rw [hlen] at W
  refine for_walk Led ps I c₀ W (.head _) (fun i h st => ?_) (next_is_new F) ⟨⟨_, Heap.get?_push_size _ rfl, rfl, rfl⟩, hls.at fun o e => Heap.get?_push_of_some _ e⟩ ?_ ?_ hnt hadr hst (F.push _) (fun p hp => ⟨Heap.get?_push_of_some _ (N p hp).1, (N p hp).2⟩) hO
    (fun p hp => Nat.ne_of_lt (Heap.lt_size (N p (List.mem_append.mpr (.inr hp))).1)) hps (hst _ _ _ _ (fun a us e => Heap.get?_push_of_some _ e) hI) (fun i v c u h tk tl _ hv => turn i v c u h tk tl (by simpa using hv)) done
  · obtain ⟨⟨o, ho, hc, _⟩, _⟩ := st
    exact ⟨o, ho, by rw [hc]; decide⟩
  · intro hm
    rcases List.mem_cons.mp hm with e | hm
    · exact absurd F.ns.lt (e ▸ Nat.lt_irrefl _)
    · exact ns_ne F.ns hl (fun _ _ q => by cases q) (List.mem_singleton.mp hm)
  · intro b hb
    rcases List.mem_cons.mp hb with e | hb
    · exact fun q => absurd (hadr0 _ q) (e ▸ Nat.lt_irrefl _)
    · rw [List.mem_singleton.mp hb]; exact hla
theorem for_tup {σ : Type} {x : Str} {body : List Stmt} {m₀ : Str → Option Value} {l : Addr} {vs : List Value} {adr : List Addr} {tl₀ : List (Addr × Obj)} (Led : σ → List (Addr × Obj)) (ps : σ → List (Str × Value)) (I : Nat → σ → Heap → Prop) (c₀ : σ)
    (hh : A.handled = none) (hl : TupAt s.heap l vs) (hla : l ∉ adr)
    (hnt : ∀ c, ∀ p ∈ Led c, p.2.cls ≠ .type "tuple") (hadr : ∀ c, (Led c).map (·.1) = adr) (hst : ∀ i c h h', TupKeep h h' → I i c h → I i c h')
    (F : Fr g env.locals s.heap m₀) (N : News g env.locals s.heap (Led c₀ ++ tl₀)) (hO : OwnOff tl₀ adr) (hps : ∀ p ∈ ps c₀, m₀ p.1 = some p.2) (hI : I 0 c₀ s.heap)
    (turn : ∀ i v c u h tk tl, vs[i]? = some v → Fr g env.locals h (fun y => if y = x then some v else pin (ps c) u y) → News g env.locals h (Led c ++ tl) → OwnOff tl adr → Cov g env.locals adr h tl → TCov g h tl → (∀ p ∈ tl₀, p ∈ tl) → I i c h →
      wpAny (model prog w) A (execs body env) (FEnd g env.locals s Led ps I tl Q (i + 1)) E { s with heap := h, toks := tk })
    (done : ∀ c u h tk tl, Fr g env.locals h (pin (ps c) u) → News g env.locals h (Led c ++ tl) → OwnOff tl adr → Cov g env.locals adr h tl → TCov g h tl → (∀ p ∈ tl₀, p ∈ tl) → I vs.length c h → Q .next { s with heap := h, toks := tk }) :
    wpAny (model prog w) A (pyIter (.ref l)) (fun it s₂ => LoopAtV prog w A g env x body Q E it s₂) E s := by
  have hls : s.heap.IsTuple l vs.toArray := ⟨_, hl, rfl, _, rfl⟩
  have hne : l ≠ s.heap.objs.size := Nat.ne_of_lt (Heap.lt_size hl)
  have hadr0 : ∀ b ∈ adr, b < s.heap.objs.size := fun b hb => by
    rw [← hadr c₀] at hb
    obtain ⟨p, hp, rfl⟩ := List.mem_map.mp hb
    exact Heap.lt_size (N p (List.mem_append.mpr (.inl hp))).1
  refine wpAny_pyIter_tuple hls ?_
  have W := Walks.tuple (prog := prog) (w := w) hh s.heap.objs.size l hne vs.toArray
  have hlen : vs.toArray.size = vs.length := by simp
  rw [hlen] at W
  refine for_walk Led ps I c₀ W (.head _) (fun i h st => ?_) (next_is_new F) ⟨⟨_, Heap.get?_push_size _ rfl, rfl, rfl⟩, hls.at fun o e => Heap.get?_push_of_some _ e⟩ ?_ ?_ hnt hadr hst (F.push _) (fun p hp => ⟨Heap.get?_push_of_some _ (N p hp).1, (N p hp).2⟩) hO
    (fun p hp => Nat.ne_of_lt (Heap.lt_size (N p (List.mem_append.mpr (.inr hp))).1)) hps (hst _ _ _ _ (fun a us e => Heap.get?_push_of_some _ e) hI) (fun i v c u h tk tl _ hv => turn i v c u h tk tl (by simpa using hv)) done
  · obtain ⟨⟨o, ho, hc, _⟩, _⟩ := st
    exact ⟨o, ho, by rw [hc]; decide⟩
  · intro hm
    rcases List.mem_cons.mp hm with e | hm
    · exact absurd F.ns.lt (e ▸ Nat.lt_irrefl _)
    · exact ns_ne F.ns hl (fun _ _ q => by cases q) (List.mem_singleton.mp hm)
  · intro b hb
    rcases List.mem_cons.mp hb with e | hb
    · exact fun q => absurd (hadr0 _ q) (e ▸ Nat.lt_irrefl _)
    · rw [List.mem_singleton.mp hb]; exact hla
theorem rev_at {vs : List Value} {i : Nat} {v : Value} (h : vs.toArray[vs.length - 1 - i]? = some v) (hi : i < vs.length) : vs.reverse[i]? = some v := by
  rw [List.getElem?_reverse hi]
  simpa using h

theorem for_rvt {σ : Type} {x : Str} {body : List Stmt} {m₀ : Str → Option Value} {t It : Addr} {vs : List Value} {adr : List Addr} {tl₀ : List (Addr × Obj)} (Led : σ → List (Addr × Obj)) (ps : σ → List (Str × Value)) (I : Nat → σ → Heap → Prop) (c₀ : σ)
    (hh : A.handled = none) (hl : TupAt s.heap t vs) (hr : s.heap.get? It = some (rvtObj t ((vs.length : Int) - 1))) (hIg : g.get? It = none) (hta : t ∉ adr) (hIa : It ∉ adr) (hfit : vs.length < 1000000)
    (hnt : ∀ c, ∀ p ∈ Led c, p.2.cls ≠ .type "tuple") (hadr : ∀ c, (Led c).map (·.1) = adr) (hst : ∀ i c h h', TupKeep h h' → I i c h → I i c h')
    (F : Fr g env.locals s.heap m₀) (N : News g env.locals s.heap (Led c₀ ++ tl₀)) (hO : OwnOff tl₀ adr) (hO' : ∀ p ∈ tl₀, p.1 ≠ It) (hps : ∀ p ∈ ps c₀, m₀ p.1 = some p.2) (hI : I 0 c₀ s.heap)
    (turn : ∀ i v c u h tk tl, i < vs.length → vs.reverse[i]? = some v → Fr g env.locals h (fun y => if y = x then some v else pin (ps c) u y) → News g env.locals h (Led c ++ tl) → OwnOff tl adr → Cov g env.locals adr h tl → TCov g h tl → (∀ p ∈ tl₀, p ∈ tl) → I i c h →
      wpAny (model prog w) A (execs body env) (FEnd g env.locals s Led ps I tl Q (i + 1)) E { s with heap := h, toks := tk })
    (done : ∀ c u h tk tl, Fr g env.locals h (pin (ps c) u) → News g env.locals h (Led c ++ tl) → OwnOff tl adr → Cov g env.locals adr h tl → TCov g h tl → (∀ p ∈ tl₀, p ∈ tl) → I vs.length c h → Q .next { s with heap := h, toks := tk }) :
    wpAny (model prog w) A (pyIter (.ref It)) (fun it s₂ => LoopAtV prog w A g env x body Q E it s₂) E s := by
  have ht : IsTup s.heap t vs.toArray := ⟨_, hl, rfl, _, rfl⟩
  have hne : t ≠ It := fun q => by
    have h1 : s.heap.get? t = some (tup vs) := hl
    rw [q, hr] at h1
    have := congrArg Obj.cls (Option.some.inj h1)
    exact absurd this (by show ¬ (Value.type "reversed" = Value.type "tuple"); decide)
  have hit : IsRvt s.heap It t ((vs.length : Int) - 1) := ⟨_, hr, rfl, rfl⟩
  refine pyIter_rvt hit ?_
  have hlen : vs.toArray.size = vs.length := by simp
  have W := walks_rvt (prog := prog) (w := w) hh It t hne vs.toArray (by rw [hlen]; omega)
  rw [hlen] at W
  refine for_walk Led ps I c₀ W (.head _) (fun i h st => ?_) hIg ⟨Nat.zero_le _, by simpa using hit, ht⟩ ?_ ?_ hnt hadr hst F N hO hO' hps hI (fun i v c u h tk tl hi hv => turn i v c u h tk tl hi (rev_at (by simpa using hv) hi)) done
  · obtain ⟨_, ⟨o, ho, hc, _⟩, _⟩ := st
    exact ⟨o, ho, by rw [hc]; decide⟩
  · intro hm
    rcases List.mem_cons.mp hm with e | hm
    · exact ns_ne F.ns hr (fun _ _ q => by cases q) e
    · exact ns_ne F.ns hl (fun _ _ q => by cases q) (List.mem_singleton.mp hm)
  · intro b hb
    rcases List.mem_cons.mp hb with e | hb
    · rw [e]; exact hIa
    · rw [List.mem_singleton.mp hb]; exact hta
end

end
section

section
variable {prog : Program} {w : World} {A : Around} {E : Value → Shared → Prop} {s : Shared} {h₀ : Heap} {L D : Addr} {m : Str → Option Value} {news news' : List (Addr × Obj)} {n : Nat} {its : List Value} {x : Value}
theorem append_L {Q : Value → Shared → Prop} (F : Fr h₀ L s.heap m) (N : News h₀ L s.heap news) (U : Upd D (listOf its.toArray n) (listOf (its ++ [x]).toArray (n + 1)) news news') (hsz : its.length ≤ sizeLine)
    (h : ∀ h', Fr h₀ L h' m → News h₀ L h' news' → Q .none { s with heap := h' }) : wpAny (model prog w) A (call (.builtin "list.append") [.ref D, x]) Q E s :=
  append_K F N (by rw [List.push_toArray]; exact U) h (by rw [List.size_toArray]; exact hsz)
theorem pop_L {Q : Value → Shared → Prop} (F : Fr h₀ L s.heap m) (N : News h₀ L s.heap news) (U : Upd D (listOf (its ++ [x]).toArray n) (listOf its.toArray (n + 1)) news news') (hsz : its.length < sizeLine)
    (h : ∀ h', Fr h₀ L h' m → News h₀ L h' news' → Q x { s with heap := h' }) : wpAny (model prog w) A (call (.builtin "list.pop") [.ref D]) Q E s :=
  kl_pop F N (p := its) (y := x) (by rw [List.toList_toArray]; exact kpa_last x its) U (by simp; omega) h
theorem truthy_L {Q : Bool → Shared → Prop} (N : News h₀ L s.heap news) (hm : (D, listOf (its ++ [x]).toArray n) ∈ news) (hsz : its.length < sizeLine) (h : Q true { s with toks := s.toks + 1 + 1 }) : wpAny (model prog w) A (truthy (.ref D)) Q E s := by
  refine wpAny_truthy_list ⟨_, N.get hm, rfl, n, rfl⟩ ?_ ?_
  · simp only [List.size_toArray, List.length_append, List.length_cons, List.length_nil]
    rw [sizeLine_eq] at hsz
    omega
  · have e : (its ++ [x]).toArray.isEmpty = false := by cases its <;> rfl
    rw [e]; exact h
theorem rvt_L {t : Addr} {vs : List Value} {Q : Value → Shared → Prop} (F : Fr h₀ L s.heap m) (N : News h₀ L s.heap news) (ht : IsTup s.heap t vs.toArray) (hfit : vs.length < 1000000)
    (h : ∀ I h' tk, Fr h₀ L h' m → News h₀ L h' ((I, rvtObj t ((vs.length : Int) - 1)) :: news) → (∀ p ∈ news, p.1 < I) → Q (.ref I) { s with heap := h', toks := tk }) : wpAny (model prog w) A (call (.type "reversed") [.ref t]) Q E s := by
  refine call_rvt ht (by simp; omega) fun tk => ?_
  have e : ((vs.toArray.size : Nat) : Int) - 1 = (vs.length : Int) - 1 := by simp
  rw [e]
  exact h _ _ tk (F.push _) (News.push F N _) fun p hp => Heap.lt_size (N p hp).1
theorem extend_L {D b : Addr} {ys zs : List Value} {n n2 : Nat} {news' : Obj → List (Addr × Obj)} {Q : Value → Shared → Prop} (F : Fr h₀ L s.heap m) (N : News h₀ L s.heap news) (U : ∀ o, Upd D (listOf ys.toArray n) o news (news' o)) (hb : s.heap.get? b = some (listOf zs.toArray n2)) (hz : ys.length + zs.length ≤ sizeLine)
    (h : ∀ h' n', Fr h₀ L h' m → News h₀ L h' (news' (listOf (ys ++ zs).toArray n')) → Q .none { s with heap := h' }) : wpAny (model prog w) A (call (.builtin "list.extend") [.ref D, .ref b]) Q E s := by
  obtain ⟨own, rest, e0, -, x1, x2⟩ := (U (listOf ys.toArray n)).split
  rw [e0] at N
  refine extend_in F N x1 x2 hb (fun h' n' F' N' => h h' n' F' ?_) (by rw [List.size_toArray]; exact hz)
  obtain ⟨own', rest', e1, e2, y1, y2⟩ := (U (listOf (ys ++ zs).toArray n')).split
  rw [e2]
  have e3 : own = own' ∧ rest = rest' := by
    rw [e0] at e1
    have key : ∀ (a b c d : List (Addr × Obj)) (o : Obj), a ++ (D, o) :: b = c ++ (D, o) :: d → (∀ p ∈ a, p.1 ≠ D) → (∀ p ∈ c, p.1 ≠ D) → a = c ∧ b = d := by
      intro a
      induction a with
      | nil =>
        intro b c d o e _ hc
        cases c with
        | nil => simp at e; exact ⟨rfl, e⟩
        | cons q c => simp at e; exact absurd (by rw [← e.1]) (hc q (.head _))
      | cons p a ih =>
        intro b c d o e ha hc
        cases c with
        | nil => simp at e; exact absurd (by rw [e.1]) (ha p (.head _))
        | cons q c =>
          simp only [List.cons_append, List.cons.injEq] at e
          obtain ⟨r1, r2⟩ := ih b c d o e.2 (fun x hx => ha x (.tail _ hx)) (fun x hx => hc x (.tail _ hx))
          exact ⟨by rw [e.1, r1], r2⟩
    exact key _ _ _ _ _ e1 x1 y1
  rw [← e3.1, ← e3.2]
  have e4 : zs.toArray.toList = zs := by simp
  rw [e4] at N'
  exact N'
theorem listT_L {t : Addr} {vs : List Value} {Q : Value → Shared → Prop} (F : Fr h₀ L s.heap m) (N : News h₀ L s.heap news) (ht : IsTup s.heap t vs.toArray) (hz : vs.length ≤ sizeLine)
    (h : ∀ D c h', Fr h₀ L h' m → News h₀ L h' ((D, listOf vs.toArray c) :: news) → (∀ p ∈ news, p.1 < D) → Q (.ref D) { s with heap := h' }) : wpAny (model prog w) A (call (.type "list") [.ref t]) Q E s :=
  list_copyKT F N ht (fun D c h' F' N' l1 => h D c h' F' N' l1) (by rw [List.size_toArray]; exact hz)
end
/-- a goal that the walk leaves alone -/
noncomputable def Stop (p : Prop) : Prop := p
theorem Stop.of {p : Prop} (h : Stop p) : p := h
structure StopFor : Prop where
structure StopWhile : Prop where
section
variable {w : World} {mean : ExcName → Option Value} {mg mb : Str → Option Value} {f : Addr} {vs : List Value} {dd uu : Nat} {S : List Addr} {Post : Value → Heap → Prop}
  {dp un : Nat} {gd : Option (List Code)} {cn : Str} {cs : Scope} {a : Addr} {ccd : Value} {cl : List (Str × Addr)} {outer : List Env} {A₀ : Around} {base h₀ : Heap} {L : Addr} {m : Str → Option Value} {s : Shared} {Q E : Value → Shared → Prop}
theorem Does.stop (D : Does w mean mg mb f vs dd uu s.heap S Post) (B : Below A₀ base outer h₀) (F : Fr h₀ L s.heap m) (X : (hd.heap_1 w.params).In h₀) (T : Top hd.view_1 (looseW hd.view_1 []) mean mg mb h₀)
    (hk : cs.kind = .function) (hS : ∀ b ∈ S, h₀.get? b = none ∧ b ≠ L) (hd : dp + dd < recursionLimit) (hu : un + uu < cLine)
    (k : Stop (∀ r h' tk', Kept S s.heap h' → Post r h' → Q r { s with heap := h', toks := tk' })) :
    wpAny (model PySem.Challenge.rw_on0116_01.row.prog w) (ktrTop dp un gd cn cs L a ccd cl outer) (call (.ref f) vs) Q E s := D.use B F X T hk hS hd hu k
end
theorem AllLt.get {d : Nat} : ∀ {l : List (Addr × Obj)} {a : Nat} {o : Obj}, AllLt d l → (a, o) ∈ l → a < d
  | [], _, _, _, h => nomatch h
  | _ :: _, _, _, h, m => by
    rcases List.mem_cons.mp m with q | q
    · have := h.1; rw [← q] at this; exact this
    · exact AllLt.get h.2 q
theorem allLt_nes {d : Nat} {l l' : List (Addr × Obj)} (h : AllLt d l) (s : ∀ p ∈ l', p ∈ l) : ∀ p ∈ l', p.1 ≠ d := fun p hp => allLt_ne h p (s p hp)
theorem notin2' {a b1 b2 : Addr} (n1 : @Ne Nat a b1) (n2 : @Ne Nat a b2) : a ∉ [b1, b2] := by
  simp only [List.mem_cons, List.not_mem_nil, or_false, not_or]
  exact ⟨n1, n2⟩
theorem AllLt.get2 {d m : Nat} {l : List (Addr × Obj)} {a : Nat} {o : Obj} (q : m < d) (h : AllLt m l) (x : (a, o) ∈ l) : a < d := Nat.lt_trans (AllLt.get h x) q
theorem news_hd {g h : Heap} {L a : Addr} {o : Obj} {tl : List (Addr × Obj)} (_ : News g L h ((a, o) :: tl)) : ∃ x : Addr, x = a := ⟨a, rfl⟩
theorem news_two {g h : Heap} {L a b : Addr} {o o' : Obj} {tl : List (Addr × Obj)} (_ : News g L h ((a, o) :: (b, o') :: tl)) : ∃ x y : Addr, x = a ∧ y = b := ⟨a, b, rfl, rfl⟩
section
variable {prog : Program} {w : World} {A A₀ : Around} {s : Shared} {K : Frag} {L : Addr} {h₀ base : Heap} {m mg mb : Str → Option Value} {news : List (Addr × Obj)} {p : Program} {loose : List Str} {mean : ExcName → Option Value}
/-- code_def with the frame's facts first -/
theorem code_defR {env : Env} {outer : List Env} {R : Result → Shared → Prop} {name qual : Str} {params : Arguments} {body : List Stmt} {scope : Scope} {dV kV doc pm cdv ct oc : Value} {an od : Option Addr} {osl : Array (Option Value)} {f : Addr} {args : Args} {binds : List (Str × Value)}
    (hA : A.frames = some (env :: outer)) (hf : env.frame = some L) (hke : env.scope.kind = .function) (B : Below A₀ base outer h₀) (F : Fr h₀ L s.heap m) (X₀ : K.In h₀) (N : News h₀ L s.heap news) (T : Top p loose mean mg mb h₀)
    (ho : K.lookup f = some ⟨oc, od, .func (fnOf name qual params body scope dV kV doc pm an cdv ct), osl⟩) (hcd : codeIn K cdv qual = true) (hroom : A.depth < recursionLimit)
    (hbind : BindsTo s (fnOf name qual params body scope dV kV doc pm an cdv ct) args binds) (hcell : ∀ x ∈ scope.names, x.2 ≠ .cell) (hloc : ∀ y ∈ binds, scope.names.lookup y.1 = some .local) (hco : scope.isCoroutine = false) (hgen : scope.isGenerator = false) (hk : scope.kind = .function)
    (h : ∀ g L' h₁, Fr h₀ L g m → Fr g L' h₁ (fun y => binds.reverse.lookup y) → News g L' h₁ news → Below A base (env :: outer) g → K.In g → Top p loose mean mg mb g →
      wpAny (model prog w) (A.deeper (envOf qual scope L' f cdv)) (execs body (envOf qual scope L' f cdv))
        (fun fl s' => LeaveK h₀ L m g R (match fl with | .ret v => v | _ => .none) s')
        (fun e s' => wpAny (model prog w) (A.deeper (envOf qual scope L' f cdv)) (leaving (envOf qual scope L' f cdv) e) (fun _ s'' => R (.error e) s'') (fun e' s'' => R (.error e') s'') s')
        { s with heap := h₁, toks := s.toks + binds.length }) : codeAny (model prog w) A (.call (.ref f) args) R s :=
  code_def B F X₀ N T hA hf hke ho hcd hroom hbind hloc h hco hgen hk hcell
end

end
section
/-- the value of a plain expression: a local name, a written constant; and the token behind it -/
noncomputable def sv (cs : Scope) (m : Str → Option Value) (e : Expr) (k : Nat) : Option (Value × Nat) :=
  match e with
  | .Name x _ => match cs.names.lookup x, m x, x == ("__debug__" : Str) with
    | some .local, some v, false => some (v, k)
    | _, _, _ => none
  | .Constant (.int i) _ _ => some (.int i k, k + 1)
  | .Constant (.str x) _ _ => some (.str x k, k + 1)
  | .Constant (.bool b) _ _ => some (.bool b, k)
  | .Constant .none _ _ => some (.none, k)
  | _ => none
noncomputable def svs (cs : Scope) (m : Str → Option Value) : List Expr → Nat → Option (List Value × Nat)
  | [], k => some ([], k)
  | e :: r, k => match sv cs m e k with
    | some (v, k') => match svs cs m r k' with
      | some (vs, k'') => some (v :: vs, k'')
      | none => none
    | none => none
noncomputable def bv1 (cs : Scope) (m : Str → Option Value) (e : Expr) (k : Nat) : Option (Bool × Nat) :=
  match e with
  | .Compare l [.Eq] [r] _ => match sv cs m l k, behindInMarks .Eq r with
    | some (.str x _, k1), false => match sv cs m r k1 with
      | some (.str y _, k2) => some (x == y, k2)
      | _ => none
    | _, _ => none
  | _ => none
noncomputable def bvOr (cs : Scope) (m : Str → Option Value) : List Expr → Nat → Option (Bool × Nat)
  | [], k => some (false, k)
  | e :: r, k => match bv1 cs m e k with
    | some (true, k') => some (true, k')
    | some (false, k') => bvOr cs m r k'
    | none => none
noncomputable def bv (cs : Scope) (m : Str → Option Value) (e : Expr) (k : Nat) : Option (Bool × Nat) :=
  match e with
  | .BoolOp .Or es _ => bvOr cs m es k
  | e => bv1 cs m e k
section
variable {prog : Program} {w : World} {A : Around} {E : Value → Shared → Prop} {s : Shared} {h₀ : Heap} {L a : Addr} {m mg mb : Str → Option Value} {cn : Str} {cs : Scope} {ccd : Value} {cl : List (Str × Addr)} {p : Program} {loose : List Str} {K : Frag}
theorem sv_ok {e : Expr} {v : Value} {k' : Nat} {Q : Value → Shared → Prop} (hk : cs.kind = .function) (F : Fr h₀ L s.heap m) (h : sv cs m e s.toks = some (v, k')) (hq : Q v { s with toks := k' }) :
    wpAny (model prog w) A (eval e (envX cn cs L a ccd cl)) Q E s := by
  unfold sv at h
  split at h
  · split at h
    · rename_i h1 h2 h3
      cases h
      exact nameX_L F h2 hq hk h1 h3
    · cases h
  · cases h; exact wpAny_Constant_int hq
  · cases h; exact Constant_str hq
  · cases h; exact wpAny_Constant_bool hq
  · cases h; exact wpAny_Constant_none hq
  · cases h
theorem sv_star {e : Expr} {r : List Expr} {k : Nat} {x : Value × Nat} {env : Env} (h : sv cs m e k = some x) : starEach (e :: r) env = (false, eval e env) :: starEach r env := by
  unfold sv at h
  split at h <;> first | rfl | cases h
theorem svs_ok : ∀ {es : List Expr} {s : Shared} {vs : List Value} {k' : Nat} {pos : Pos} {Q : List Value → Shared → Prop}, cs.kind = .function → Fr h₀ L s.heap m → svs cs m es s.toks = some (vs, k') → Q vs { s with toks := k' } →
    wpAny (model prog w) A (spliced (backTo pos (starEach es (envX cn cs L a ccd cl)))) Q E s
  | [], s, vs, k', pos, Q, hk, F, h, hq => by
    unfold svs at h; cases h
    exact spliced_none hq
  | e :: r, s, vs, k', pos, Q, hk, F, h, hq => by
    unfold svs at h
    split at h
    · rename_i v k1 h1
      split at h
      · rename_i vs' k2 h2
        cases h
        refine spliced_more ?_ (sv_star h1)
        refine sv_ok hk F h1 ?_
        exact svs_ok (s := { s with toks := k1 }) hk F h2 hq
      · cases h
    · cases h
theorem bv1_ok {e : Expr} {b : Bool} {k' : Nat} {whole : Sem Value} {Q : Bool → Shared → Prop} (hk : cs.kind = .function) (F : Fr h₀ L s.heap m) (h : bv1 cs m e s.toks = some (b, k')) (hq : Q b { s with toks := k' }) :
    wpAny (model prog w) A (isTrue e (envX cn cs L a ccd cl) whole) Q E s := by
  unfold bv1 at h
  split at h
  · split at h
    · rename_i h1 hb
      split at h
      · rename_i h2
        cases h
        refine wpAny_isTrue_Compare1 ?_ hb
        refine sv_ok hk F h1 (sv_ok (s := { s with toks := _ }) hk F h2 ?_)
        exact PyProof.Rows.eq_str (wpAny_truthy_bool hq)
      · cases h
    · cases h
  · cases h
theorem bvOr_ok {whole : Sem Value} {pos : Pos} : ∀ {es : List Expr} {s : Shared} {b : Bool} {k' : Nat} {Q : Bool → Shared → Prop}, cs.kind = .function → Fr h₀ L s.heap m → bvOr cs m es s.toks = some (b, k') → Q b { s with toks := k' } →
    wpAny (model prog w) A (isTrue (.BoolOp .Or es pos) (envX cn cs L a ccd cl) whole) Q E s
  | [], s, b, k', Q, hk, F, h, hq => by
    unfold bvOr at h; cases h
    exact isTrue_or_nil hq
  | e :: r, s, b, k', Q, hk, F, h, hq => by
    unfold bvOr at h
    split at h
    · rename_i k1 h1
      cases h
      exact isTrue_or (bv1_ok hk F h1 hq)
    · rename_i k1 h1
      refine isTrue_or (bv1_ok hk F h1 ?_)
      exact bvOr_ok (s := { s with toks := k1 }) hk F h hq
    · cases h
theorem bv_ok {e : Expr} {b : Bool} {k' : Nat} {whole : Sem Value} {Q : Bool → Shared → Prop} (hk : cs.kind = .function) (F : Fr h₀ L s.heap m) (h : bv cs m e s.toks = some (b, k')) (hq : Q b { s with toks := k' }) :
    wpAny (model prog w) A (isTrue e (envX cn cs L a ccd cl) whole) Q E s := by
  unfold bv at h
  split at h
  · exact bvOr_ok hk F h hq
  · exact bv1_ok hk F h hq
end
section
variable {prog : Program} {w : World} {A : Around} {E : Value → Shared → Prop} {hp : Heap} {gs : Array GenState} {dr : Drawn} {tk : Nat} {os : OsState} {h₀ : Heap} {L a : Addr} {m mg mb : Str → Option Value} {cn : Str} {cs : Scope} {ccd : Value} {cl : List (Str × Addr)} {p : Program} {loose : List Str} {K : Frag}
theorem svs_r {e : Expr} {es : List Expr} {vs : List Value} {k' : Nat} {pos : Pos} {Q : List Value → Shared → Prop} (F : Fr h₀ L hp m) (h : svs cs m (e :: es) tk = some (vs, k')) (hq : Q vs ⟨hp, gs, dr, k', os⟩) (hk : cs.kind = .function) :
    wpAny (model prog w) A (spliced (backTo pos (starEach (e :: es) (envX cn cs L a ccd cl)))) Q E ⟨hp, gs, dr, tk, os⟩ := svs_ok (s := ⟨hp, gs, dr, tk, os⟩) hk F h hq
theorem if_t {test : Expr} {body orelse : List Stmt} {pos : Pos} {k' : Nat} {Q : Flow → Shared → Prop} (F : Fr h₀ L hp m) (h : bv cs m test tk = some (true, k')) (hq : wpAny (model prog w) A (execs body (envX cn cs L a ccd cl)) Q E ⟨hp, gs, dr, k', os⟩) (hk : cs.kind = .function) :
    wpAny (model prog w) A (exec (.If test body orelse pos) (envX cn cs L a ccd cl)) Q E ⟨hp, gs, dr, tk, os⟩ := wpAny_If (bv_ok (s := ⟨hp, gs, dr, tk, os⟩) hk F h hq)
theorem if_f {test : Expr} {body orelse : List Stmt} {pos : Pos} {k' : Nat} {Q : Flow → Shared → Prop} (F : Fr h₀ L hp m) (h : bv cs m test tk = some (false, k')) (hq : wpAny (model prog w) A (execs orelse (envX cn cs L a ccd cl)) Q E ⟨hp, gs, dr, k', os⟩) (hk : cs.kind = .function) :
    wpAny (model prog w) A (exec (.If test body orelse pos) (envX cn cs L a ccd cl)) Q E ⟨hp, gs, dr, tk, os⟩ := wpAny_If (bv_ok (s := ⟨hp, gs, dr, tk, os⟩) hk F h hq)
/-- a test without else that is not met -/
theorem if_n {test : Expr} {body rest : List Stmt} {pos : Pos} {k' : Nat} {Q : Flow → Shared → Prop} (F : Fr h₀ L hp m) (h : bv cs m test tk = some (false, k')) (hq : wpAny (model prog w) A (execs rest (envX cn cs L a ccd cl)) Q E ⟨hp, gs, dr, k', os⟩) (hk : cs.kind = .function) :
    wpAny (model prog w) A (execs (.If test body [] pos :: rest) (envX cn cs L a ccd cl)) Q E ⟨hp, gs, dr, tk, os⟩ := wpAny_execs_cons (if_f F h (wpAny_execs_nil hq) hk)
/-- a call of a def of the text upon plain arguments -/
theorem call_sv {fn : Str} {p1 pos : Pos} {e : Expr} {args : List Expr} {f : Addr} {vs : List Value} {k' : Nat} {Q : Value → Shared → Prop} (F : Fr h₀ L hp m) (X : K.In h₀) (T : TopRead p loose mg mb h₀) (hn : nsIn K mainGlobals fn = some (some (.ref f))) (hf : keepIn K (.ref f) = true)
    (h : svs cs m (e :: args) tk = some (vs, k')) (hq : wpAny (model prog w) A (call (.ref f) vs) Q E ⟨hp, gs, dr, k', os⟩)
    (hk : cs.kind = .function) (hx : (envX cn cs L a ccd cl).kindOf fn = some .globalImplicit) (hd : (fn == ("__debug__" : Str)) = false) (hplain : (backTo pos (starEach args (envX cn cs L a ccd cl))).any (·.1) = false)
    (he : eval (.Call (.Name fn p1) (e :: args) [] pos) (envX cn cs L a ccd cl) = (do callWith pos (← eval (.Name fn p1) (envX cn cs L a ccd cl)) [] (backTo pos (starEach (e :: args) (envX cn cs L a ccd cl))) (backToKw pos (keywordEach [] (envX cn cs L a ccd cl))))) :
    wpAny (model prog w) A (eval (.Call (.Name fn p1) (e :: args) [] pos) (envX cn cs L a ccd cl)) Q E ⟨hp, gs, dr, tk, os⟩ := by
  have hs : starEach (e :: args) (envX cn cs L a ccd cl) = (false, eval e (envX cn cs L a ccd cl)) :: starEach args (envX cn cs L a ccd cl) := by
    have h' := h
    unfold svs at h'
    split at h'
    · rename_i h1; exact sv_star h1
    · cases h'
  exact Call_ (nameX_K (s := ⟨hp, gs, dr, tk, os⟩) F X T hn (callWith_K (first := []) X hf (svs_ok (s := ⟨hp, gs, dr, tk, os⟩) hk F h ⟨X.keeps F.keep, hq⟩) hs hplain) hk hx hd) he
/-- an item of a tuple at a written place -/
theorem sub_sv {value slice : Expr} {pos : Pos} {t : Addr} {l : List Value} {i : Int} {u : Tok} {j k1 k2 : Nat} {x : Value} {Q : Value → Shared → Prop} (F : Fr h₀ L hp m) (ho : sv cs m value tk = some (.ref t, k1)) (hi : sv cs m slice k1 = some (.int i u, k2)) (ht : IsTup hp t l.toArray)
    (h1 : -(2 ^ 63) ≤ i) (h2 : i < 2 ^ 63) (hj : seqIndex? i l.length = some j) (hx : l[j]? = some x) (h : Q x ⟨hp, gs, dr, k2, os⟩)
    (hs : subscripted slice false (.ref t) (.int i u) = operate [.ref t, .int i u] (getItem (.ref t) (.int i u))) (hk : cs.kind = .function) :
    wpAny (model prog w) A (eval (.Subscript value slice pos) (envX cn cs L a ccd cl)) Q E ⟨hp, gs, dr, tk, os⟩ :=
  Subscript_ (sv_ok (s := ⟨hp, gs, dr, tk, os⟩) hk F ho (sv_ok (s := ⟨hp, gs, dr, k1, os⟩) hk F hi (item_tupleT ht h1 h2 hj hx h hs)))
end

end
section
/-- a dict whose keys are the ints ks, in this order -/
noncomputable def DK (prog : Program) (w : World) (o : Obj) (ks : List Int) : Prop :=
  ∃ kvs D, o.IsDictOf (PySem.intKind prog w) kvs ∧ PyProof.V.FlatPairs PyData.int kvs D ∧ kvs.map (·.1) = ks
noncomputable def putK (ks : List Int) (k : Int) : List Int := if k ∈ ks then ks else ks ++ [k]
theorem mem_putK {ks : List Int} {k j : Int} : j ∈ putK ks k ↔ j ∈ ks ∨ j = k := by
  unfold putK
  split
  · rename_i h
    constructor
    · exact .inl
    · rintro (h' | rfl)
      · exact h'
      · exact h
  · simp
theorem putK_len {ks : List Int} {k : Int} : (putK ks k).length ≤ ks.length + 1 := by
  unfold putK; split <;> simp
theorem stored_keys {kvs : List (Int × Value)} {k : Int} {v : Value} : (PySem.stored kvs k v).map (·.1) = putK (kvs.map (·.1)) k := by
  unfold PySem.stored putK
  by_cases h : kvs.any (fun kv => kv.1 = k) = true
  · rw [if_pos h, if_pos]
    · rw [List.map_map]
      apply List.map_congr_left
      intro p _
      dsimp only [Function.comp]
      by_cases q : p.1 = k
      · rw [if_pos q]
      · rw [if_neg q]
    · obtain ⟨p, hp, e⟩ := List.any_eq_true.mp h
      exact List.mem_map.mpr ⟨p, hp, by simpa using e⟩
  · rw [if_neg h, if_neg, List.map_append]
    · rfl
    · intro q
      obtain ⟨p, hp, e⟩ := List.mem_map.mp q
      exact h (List.any_eq_true.mpr ⟨p, hp, by simpa using e⟩)
theorem DK.cls {prog : Program} {w : World} {o : Obj} {ks : List Int} (h : DK prog w o ks) : o.cls = .type "dict" := by
  obtain ⟨_, _, ⟨_, _, h, _⟩, _⟩ := h
  exact h.1
theorem DK.nodup {prog : Program} {w : World} {o : Obj} {ks : List Int} (h : DK prog w o ks) : ks.Nodup := by
  obtain ⟨_, _, ⟨_, _, _, _, _, _, h⟩, _, rfl⟩ := h
  exact h
section
variable {prog : Program} {w : World} {A : Around} {E : Value → Shared → Prop} {s : Shared} {h₀ : Heap} {L d : Addr} {m : Str → Option Value} {news : List (Addr × Obj)} {g : Obj → List (Addr × Obj)} {o : Obj} {ks : List Int}
theorem dk_new (h : o.IsDictOf (PySem.intKind prog w) []) : DK prog w o [] := ⟨[], [], h, .nil, rfl⟩
theorem dk_put {k : Int} {t : Tok} {Q : Unit → Shared → Prop} (F : Fr h₀ L s.heap m) (N : News h₀ L s.heap news) (U : UpdF d o news g) (hd : DK prog w o ks) (hsz : ks.length ≤ 10000)
    (h : ∀ h' o' tk, Fr h₀ L h' m → News h₀ L h' (g o') → DK prog w o' (putK ks k) → Q () { s with heap := h', toks := tk }) : wpAny (model prog w) A (setItem (.ref d) (.int k t) (.bool true)) Q E s := by
  obtain ⟨kvs, D, hd, hf, rfl⟩ := hd
  refine setItem_K PyProof.V.same_int (PySem.intKind_is prog w k t) (PyProof.V.Flat.bool true) F N U hd hf (fun h' o' F' N' hd' hf' => h h' o' _ F' N' ⟨_, _, hd', hf', stored_keys⟩) ?_
  rw [hf.length, sizeLine_eq]
  rw [List.length_map] at hsz
  omega
theorem vals_ints : ∀ {ns : List Int} {vs : List Value}, vs.length = ns.length → (∀ (j : Nat) (v : Value), vs[j]? = some v → ∃ k t, ns[j]? = some k ∧ v = .int k t) → IntsAre vs ns
  | [], [], _, _ => .nil
  | [], _ :: _, e, _ => by simp at e
  | _ :: _, [], e, _ => by simp at e
  | n :: ns, v :: vs, e, h => by
    obtain ⟨k, t, h1, rfl⟩ := h 0 v rfl
    simp at h1
    subst h1
    exact .cons _ _ (vals_ints (by simpa using e) fun j u hj => h (j + 1) u (by simpa using hj))
theorem dk_sorted {Q : Value → Shared → Prop} (hh : A.handled = none) (F : Fr h₀ L s.heap m) (N : News h₀ L s.heap news) (hm : (d, o) ∈ news) (lo : (d == sysModules) = false) (hd : DK prog w o ks) (h64 : ks.length < 64)
    (h : ∀ (B : Addr) h' tk vs ns c, Fr h₀ L h' m → News h₀ L h' ((B, listOf (List.toArray vs) c) :: news) → (∀ q ∈ news, q.1 < B) → IntsAre vs ns → ns.Perm ks → ns.Pairwise (fun x y => x ≤ y) → Q (.ref B) { s with heap := h', toks := tk }) :
    wpAny (model prog w) A (call (.builtin "sorted") [.ref d]) Q E s := by
  obtain ⟨kvs, D, hd, hf, rfl⟩ := hd
  have hD : s.heap.DictOf (PySem.intKind prog w) d kvs := Heap.dictOf_iff.mpr ⟨o, (N _ hm).1, hd⟩
  obtain ⟨ep, hat⟩ := hD.dictAt
  rw [List.length_map] at h64
  refine kdu_sorted (kdl_dict (knd := PySem.intKind prog w) (kvs := kvs) (ep := ep) lo) hh F N hat (by rw [sizeLine_eq]; omega) fun B h' tk vs F' N' l1 hl hv => ?_
  have hi : IntsAre vs (kvs.map (·.1)) := vals_ints (by rw [hl, List.length_map]) fun j v e => by
    obtain ⟨k, x, h1, h2⟩ := hv j v e
    have hfl := PyProof.V.Flat.int_inv (kdl_flat_int (prog := prog) (w := w) h2)
    obtain ⟨t, ht⟩ := hfl
    exact ⟨k, t, by rw [List.getElem?_map, h1]; rfl, ht⟩
  have hne : ∀ p ∈ news, p.1 ≠ B := fun p hp => Nat.ne_of_lt (l1 p hp)
  refine ksk_lsort (news' := fun o' => (B, o') :: news) (vs := vs) F' N' (fun o' => .head hne) (by simp) hi (by rw [List.length_map]; exact h64) ?_
  intro vs' ns' c h'' F'' N'' hi' _ hp ho _
  exact h B h'' tk vs' ns' c F'' N'' l1 hi' hp ho
end

end
section
structure StopComp : Prop where
section
variable {prog : Program} {w : World} {A : Around} {s : Shared} {h₀ : Heap} {L : Addr} {m : Str → Option Value} {env : Env} {ct elt : Expr} {x : Str} {scope : Scope} {cl : List (Str × Addr)} {S : List (Addr × Obj) → Prop} {P : Nat → Value → Prop} {Fn : List Value → List (Addr × Obj) → Prop} {n : Nat} {news : List (Addr × Obj)}
theorem compEnd_mono {I C D : Addr} {oI oC oD : Obj} {rest rest' : Value → List (Addr × Obj) → Prop} {y : Value} {s₂ : Shared} (hr : ∀ y nw, rest y nw → rest' y nw) (h : LCg.CompEnd h₀ L m s I oI C oC D oD S rest y s₂) : LCg.CompEnd h₀ L m s I oI C oC D oD S rest' y s₂ := by
  obtain ⟨h', tk, nw, e, F, N, o, hs, r⟩ := h
  exact ⟨h', tk, nw, e, F, N, o, hs, hr _ _ r⟩
theorem compU_ind (J : Nat → List Value → List (Addr × Obj) → Prop) (h0 : J 0 [] news)
    (turn : ∀ i v I oI C oC D m₂ h tk (E' : Value → Shared → Prop) ys nw, i < n → P i v → J i ys nw → LCg.NsObj oC m₂ → m₂ x = some v → Fr h₀ L h m → News h₀ L h ((I, oI) :: (C, oC) :: (D, LCg.lst ys) :: nw) → LCg.Off3 I C D nw → ((@Ne Nat I C) ∧ (@Ne Nat I D) ∧ (@Ne Nat C D)) →
      wpAny (model prog w) A (eval elt (compEnvC scope cl C env)) (LCg.CompEnd h₀ L m { s with heap := h, toks := tk } I oI C oC D (LCg.lst ys) S (fun y nw' => J (i + 1) (ys ++ [y]) nw')) E' { s with heap := h, toks := tk })
    (done : ∀ ys nw, J n ys nw → Fn ys nw) : LCg.CompRest prog w A h₀ L m env elt x scope cl s S P Fn n 0 [] news := by
  have key : ∀ k i ys nw, i + k = n → J i ys nw → LCg.CompRest prog w A h₀ L m env elt x scope cl s S P Fn k i ys nw := by
    intro k
    induction k with
    | zero => intro i ys nw e hj; have e' : i = n := by omega
              subst e'; exact LCg.CompRest.zero (done _ _ hj)
    | succ k ih =>
      intro i ys nw e hj
      refine LCg.CompRest.succ fun v I oI C oC D m₂ h tk E' hP hC hx F N o ne => ?_
      exact wpAny_mono (turn i v I oI C oC D m₂ h tk E' ys nw (by omega) hP hj hC hx F N o ne) (fun y s' q => compEnd_mono (fun y nw' r => ih (i + 1) _ _ (by omega) r) q) fun _ _ q => q
  exact key n 0 [] news (by omega) h0
theorem compT_ind (J : Nat → List Value → List (Addr × Obj) → Prop) (h0 : J 0 [] news)
    (turn : ∀ i v I oI C oC D m₂ h tk (E' : Value → Shared → Prop) ys nw, i < n → P i v → J i ys nw → LCg.NsObj oC m₂ → m₂ x = some v → Fr h₀ L h m → News h₀ L h ((I, oI) :: (C, oC) :: (D, LCg.lst ys) :: nw) → LCg.Off3 I C D nw → ((@Ne Nat I C) ∧ (@Ne Nat I D) ∧ (@Ne Nat C D)) →
      wpAny (model prog w) A (isTrue ct (compEnvC scope cl C env) (eval ct (compEnvC scope cl C env))) (fun ok s' => if ok = true then
        wpAny (model prog w) A (eval elt (compEnvC scope cl C env)) (LCg.CompEnd h₀ L m { s with heap := h, toks := tk } I oI C oC D (LCg.lst ys) S (fun y nw' => J (i + 1) (ys ++ [y]) nw')) E' s'
        else LCg.CompEnd h₀ L m { s with heap := h, toks := tk } I oI C oC D (LCg.lst ys) S (fun _ nw' => J (i + 1) ys nw') Value.none s') E' { s with heap := h, toks := tk })
    (done : ∀ ys nw, J n ys nw → Fn ys nw) : LCt.CompRestT prog w A h₀ L m env ct elt x scope cl s S P Fn n 0 [] news := by
  have key : ∀ k i ys nw, i + k = n → J i ys nw → LCt.CompRestT prog w A h₀ L m env ct elt x scope cl s S P Fn k i ys nw := by
    intro k
    induction k with
    | zero => intro i ys nw e hj; have e' : i = n := by omega
              subst e'; exact LCt.CompRestT.zero (done _ _ hj)
    | succ k ih =>
      intro i ys nw e hj
      refine LCt.CompRestT.succ fun v I oI C oC D m₂ h tk E' hP hC hx F N o ne => ?_
      refine wpAny_mono (turn i v I oI C oC D m₂ h tk E' ys nw (by omega) hP hj hC hx F N o ne) (fun ok s' q => ?_) fun _ _ q => q
      cases ok with
      | true =>
        simp only [if_true] at q ⊢
        exact wpAny_mono q (fun y s'' r => compEnd_mono (fun y nw' z => ih (i + 1) _ _ (by omega) z) r) fun _ _ r => r
      | false =>
        simp only [Bool.false_eq_true, if_false] at q ⊢
        exact compEnd_mono (fun y nw' z => ih (i + 1) _ _ (by omega) z) q
  exact key n 0 [] news (by omega) h0
theorem compT_same (Y : Nat → List Value) (h0 : Y 0 = [])
    (turn : ∀ i v I oI C oC D m₂ h tk (E' : Value → Shared → Prop), i < n → P i v → LCg.NsObj oC m₂ → m₂ x = some v → Fr h₀ L h m → News h₀ L h ((I, oI) :: (C, oC) :: (D, LCg.lst (Y i)) :: news) → LCg.Off3 I C D news → ((@Ne Nat I C) ∧ (@Ne Nat I D) ∧ (@Ne Nat C D)) →
      wpAny (model prog w) A (isTrue ct (compEnvC scope cl C env) (eval ct (compEnvC scope cl C env))) (fun ok s' => if ok = true then
        wpAny (model prog w) A (eval elt (compEnvC scope cl C env)) (LCg.CompEnd h₀ L m { s with heap := h, toks := tk } I oI C oC D (LCg.lst (Y i)) S (fun y nw' => Y (i + 1) = Y i ++ [y] ∧ nw' = news)) E' s'
        else LCg.CompEnd h₀ L m { s with heap := h, toks := tk } I oI C oC D (LCg.lst (Y i)) S (fun _ nw' => Y (i + 1) = Y i ∧ nw' = news) Value.none s') E' { s with heap := h, toks := tk })
    (done : Fn (Y n) news) : LCt.CompRestT prog w A h₀ L m env ct elt x scope cl s S P Fn n 0 [] news := by
  refine compT_ind (fun i ys nw => ys = Y i ∧ nw = news) ⟨h0.symm, rfl⟩ ?_ ?_
  · rintro i v I oI C oC D m₂ h tk E' ys nw hi hv ⟨rfl, rfl⟩ hC hx F N o ne
    refine wpAny_mono (turn i v I oI C oC D m₂ h tk E' hi hv hC hx F N o ne) (fun ok s' q => ?_) fun _ _ q => q
    cases ok with
    | true =>
      simp only [if_true] at q ⊢
      exact wpAny_mono q (fun y s'' r => compEnd_mono (fun y nw' z => ⟨z.1.symm, z.2⟩) r) fun _ _ r => r
    | false =>
      simp only [Bool.false_eq_true, if_false] at q ⊢
      exact compEnd_mono (fun y nw' z => ⟨z.1.symm, z.2⟩) q
  · rintro ys nw ⟨rfl, rfl⟩
    exact done
theorem compU_same (Y : Nat → List Value) (h0 : Y 0 = [])
    (turn : ∀ i v I oI C oC D m₂ h tk (E' : Value → Shared → Prop), i < n → P i v → LCg.NsObj oC m₂ → m₂ x = some v → Fr h₀ L h m → News h₀ L h ((I, oI) :: (C, oC) :: (D, LCg.lst (Y i)) :: news) → LCg.Off3 I C D news → ((@Ne Nat I C) ∧ (@Ne Nat I D) ∧ (@Ne Nat C D)) →
      wpAny (model prog w) A (eval elt (compEnvC scope cl C env)) (LCg.CompEnd h₀ L m { s with heap := h, toks := tk } I oI C oC D (LCg.lst (Y i)) S (fun y nw' => Y (i + 1) = Y i ++ [y] ∧ nw' = news)) E' { s with heap := h, toks := tk })
    (done : Fn (Y n) news) : LCg.CompRest prog w A h₀ L m env elt x scope cl s S P Fn n 0 [] news := by
  refine compU_ind (fun i ys nw => ys = Y i ∧ nw = news) ⟨h0.symm, rfl⟩ ?_ ?_
  · rintro i v I oI C oC D m₂ h tk E' ys nw hi hv ⟨rfl, rfl⟩ hC hx F N o ne
    exact wpAny_mono (turn i v I oI C oC D m₂ h tk E' hi hv hC hx F N o ne) (fun y s'' r => compEnd_mono (fun y nw' z => ⟨z.1.symm, z.2⟩) r) fun _ _ r => r
  · rintro ys nw ⟨rfl, rfl⟩
    exact done
end
theorem off3_app {I C D : Addr} : ∀ {a b : List (Addr × Obj)}, LCg.Off3 I C D a → LCg.Off3 I C D b → LCg.Off3 I C D (a ++ b)
  | [], _, _, h => h
  | _ :: _, _, ⟨x, r⟩, h => ⟨x, off3_app r h⟩

end
section
section
variable {prog : Program} {w : World} {A : Around} {E : Value → Shared → Prop} {Q : Flow → Shared → Prop} {s : Shared} {env : Env} {g : Heap} {L : Addr}
theorem for_revlist {σ : Type} {x : Str} {body : List Stmt} {m₀ : Str → Option Value} {t It : Addr} {vs : List Value} {nn : Nat} {adr : List Addr} {tl₀ : List (Addr × Obj)} (Led : σ → List (Addr × Obj)) (ps : σ → List (Str × Value)) (I : Nat → σ → Heap → Prop) (c₀ : σ)
    (hh : A.handled = none) (hl : s.heap.get? t = some (listOf vs.toArray nn)) (hr : s.heap.get? It = some (revObj t ((vs.length : Int) - 1))) (hIg : g.get? It = none) (hta : t ∉ adr) (hIa : It ∉ adr)
    (hnt : ∀ c, ∀ p ∈ Led c, p.2.cls ≠ .type "tuple") (hadr : ∀ c, (Led c).map (·.1) = adr) (hst : ∀ i c h h', TupKeep h h' → I i c h → I i c h')
    (F : Fr g env.locals s.heap m₀) (N : News g env.locals s.heap (Led c₀ ++ tl₀)) (hO : OwnOff tl₀ adr) (hO' : ∀ p ∈ tl₀, p.1 ≠ It) (hps : ∀ p ∈ ps c₀, m₀ p.1 = some p.2) (hI : I 0 c₀ s.heap)
    (turn : ∀ i v c u h tk tl, i < vs.length → vs.reverse[i]? = some v → Fr g env.locals h (fun y => if y = x then some v else pin (ps c) u y) → News g env.locals h (Led c ++ tl) → OwnOff tl adr → Cov g env.locals adr h tl → TCov g h tl → (∀ p ∈ tl₀, p ∈ tl) → I i c h →
      wpAny (model prog w) A (execs body env) (FEnd g env.locals s Led ps I tl Q (i + 1)) E { s with heap := h, toks := tk })
    (done : ∀ c u h tk tl, Fr g env.locals h (pin (ps c) u) → News g env.locals h (Led c ++ tl) → OwnOff tl adr → Cov g env.locals adr h tl → TCov g h tl → (∀ p ∈ tl₀, p ∈ tl) → I vs.length c h → Q .next { s with heap := h, toks := tk }) :
    wpAny (model prog w) A (pyIter (.ref It)) (fun it s₂ => LoopAtV prog w A g env x body Q E it s₂) E s := by
  have ht : s.heap.IsList t vs.toArray := ⟨_, hl, rfl, _, rfl⟩
  have hne : t ≠ It := fun q => by
    have h1 := hl
    rw [q, hr] at h1
    have := congrArg Obj.cls (Option.some.inj h1)
    exact absurd this (by show ¬ (Value.type "list_reverseiterator" = Value.type "list"); decide)
  have hit : s.heap.IsRevIter It t ((vs.length : Int) - 1) := ⟨_, hr, rfl, rfl⟩
  refine wpAny_pyIter_revIter hit ?_
  have hlen : vs.toArray.size = vs.length := by simp
  have W := Walks.listRev (prog := prog) (w := w) hh It t hne vs.toArray
  rw [hlen] at W
  refine for_walk Led ps I c₀ W (.head _) (fun i h st => ?_) hIg ⟨Nat.zero_le _, by simpa using hit, ht⟩ ?_ ?_ hnt hadr hst F N hO hO' hps hI (fun i v c u h tk tl hi hv => turn i v c u h tk tl hi (rev_at (by simpa using hv) hi)) done
  · obtain ⟨_, ⟨o, ho, hc, _⟩, _⟩ := st
    exact ⟨o, ho, by rw [hc]; decide⟩
  · intro hm
    rcases List.mem_cons.mp hm with e | hm
    · exact ns_ne F.ns hr (fun _ _ q => by cases q) e
    · exact ns_ne F.ns hl (fun _ _ q => by cases q) (List.mem_singleton.mp hm)
  · intro b hb
    rcases List.mem_cons.mp hb with e | hb
    · rw [e]; exact hIa
    · rw [List.mem_singleton.mp hb]; exact hta
end
theorem NdR.isRef {P : Addr → List Value → Prop} {v : Value} {e : Nd} (h : NdR P v e) : ∃ a, v = .ref a := by
  cases h with
  | blk => exact ⟨_, rfl⟩
  | one h => exact h.isRef
theorem St.pre_kids (e : St) : e.pre = e :: e.kids.flatMap St.pre := by cases e <;> simp [St.pre, St.kids]
theorem St.size_kids (e : St) : e.size = (e.kids.map St.size).sum + 1 := by cases e <;> simp [St.size, St.kids]
theorem map_one_pre (l : List St) : (l.map Nd.one).flatMap Nd.pre = (l.flatMap St.pre).map Nd.one := by
  induction l with
  | nil => rfl
  | cons a l ih => simp only [List.map_cons, List.flatMap_cons, List.map_append, ih]; rfl
theorem map_one_size (l : List St) : (l.map Nd.one).map Nd.size = l.map St.size := by
  rw [List.map_map]; rfl
theorem Nd.pre_kids (e : Nd) : e.pre = e :: e.kids.flatMap Nd.pre := by
  rcases e with l | s
  · simp only [Nd.pre, Nd.kids, map_one_pre]
  · simp only [Nd.pre, Nd.kids, map_one_pre]; rw [St.pre_kids]; rfl
theorem Nd.size_kids (e : Nd) : e.size = (e.kids.map Nd.size).sum + 1 := by
  rcases e with l | s
  · simp only [Nd.size, Nd.kids, map_one_size]
  · simp only [Nd.size, Nd.kids, map_one_size]; rw [St.size_kids]
theorem Nd.pre_pos (e : Nd) : 0 < e.pre.length := by rw [Nd.pre_kids]; simp
theorem nflat_len (es : List Nd) : es.length ≤ (es.flatMap Nd.pre).length := by
  induction es with
  | nil => simp
  | cons e es ih => have := e.pre_pos; simp only [List.flatMap_cons, List.length_append, List.length_cons]; omega

end
section
theorem regroup {g h : Heap} {L : Addr} (ex : List (Addr × Obj)) (N : News g L h ex) :
    ∃ tl, News g L h (ex ++ tl) ∧ OwnOff tl (ex.map (·.1)) ∧ ∀ p : Addr × Obj, h.get? p.1 = some p.2 → g.get? p.1 = none → p.1 ≠ L → p.1 ∉ ex.map (·.1) → p ∈ tl := by
  refine ⟨Rest g h L (ex.map (·.1)), news_app N news_Rest, off_Rest, fun p h1 h2 h3 h4 => mem_Rest.mpr ⟨h1, h2, h3, h4⟩⟩
theorem ns_not_obj {h : Heap} {L a : Addr} {m : Str → Option Value} {o : Obj} (n : h.Ns L m) (e : h.get? a = some o) (hc : ∀ es ep, o.data ≠ .dict es ep) : a ≠ L := fun q => ns_ne n e hc q.symm
theorem ne_mem {g h : Heap} {L l a : Addr} {o : Obj} {news : List (Addr × Obj)} (N : News g L h news) (hf : h.get? l = none) (hm : (a, o) ∈ news) : @Ne Nat a l := fun q => by
  have h1 := (N _ hm).1
  have q' : a = l := q
  rw [show (a, o).1 = l from q', hf] at h1
  cases h1
theorem locC (n : Str) (sc : Scope) (L a : Addr) (cd : Value) : (envOfC n sc L a cd).locals = L := rfl
theorem lk_cons {y k : Str} {v : Value} {r : List (Str × Value)} : List.lookup y ((k, v) :: r) = if y = k then some v else List.lookup y r := by
  rw [List.lookup_cons]
  by_cases h : y = k
  · rw [if_pos h, h]; simp
  · rw [if_neg h]
    have : (y == k) = false := by simpa using h
    rw [this]

end
section
noncomputable def exP : Ex → PyData
  | .const c => .tuple [.str (Str.ofString "const"), .int 4, .int c, .int 0]
  | .sig k => .tuple [.str (Str.ofString "sig"), .int 4, .int k]
  | .word k i => .tuple [.str (Str.ofString "word"), .int 4, .int k, exP i, .bool false]
  | .bin l r => .tuple [.str (Str.ofString "bin"), .int 4, .str (Str.ofString "+"), exP l, exP r, .bool false]
noncomputable def Ex.dep : Ex → Nat
  | .const _ => 1
  | .sig _ => 1
  | .word _ i => i.dep + 1
  | .bin l r => max l.dep r.dep + 1
theorem reads_tup {h : Heap} {a : Addr} {vs : List Value} {xs : List PyData} {as : List Addr} (ht : TupAt h a vs) (hi : ReadsAll h vs xs as) : Reads h (.ref a) (.tuple xs) as := reads_tuple_at ht rfl rfl (by simpa using hi)
theorem ExR.reads {h : Heap} {v : Value} {e : Ex} (x : ExR (TupAt h) v e) : ∃ as, Reads h v (exP e) as := by
  induction x with
  | const a => exact ⟨_, reads_tup a (.cons (.str _ _) (.cons (.int _ _) (.cons (.int _ _) (.cons (.int _ _) .nil))))⟩
  | sig a => exact ⟨_, reads_tup a (.cons (.str _ _) (.cons (.int _ _) (.cons (.int _ _) .nil)))⟩
  | word a _ ih => obtain ⟨as, r⟩ := ih; exact ⟨_, reads_tup a (.cons (.str _ _) (.cons (.int _ _) (.cons (.int _ _) (.cons r (.cons (.bool _) .nil)))))⟩
  | bin a _ _ i1 i2 => obtain ⟨as, r⟩ := i1; obtain ⟨bs, q⟩ := i2; exact ⟨_, reads_tup a (.cons (.str _ _) (.cons (.int _ _) (.cons (.str _ _) (.cons r (.cons q (.cons (.bool _) .nil))))))⟩
theorem exs_reads {h : Heap} {vs : List Value} {es : List Ex} (x : All2 (ExR (TupAt h)) vs es) : ∃ as, ReadsAll h vs (es.map exP) as := by
  induction x with
  | nil => exact ⟨_, .nil⟩
  | cons a _ ih => obtain ⟨as, r⟩ := a.reads; obtain ⟨bs, q⟩ := ih; exact ⟨_, .cons r q⟩
theorem so_const : PyData.strOk (Str.ofString "const") = true := by decide +kernel
theorem so_sig : PyData.strOk (Str.ofString "sig") = true := by decide +kernel
theorem so_word : PyData.strOk (Str.ofString "word") = true := by decide +kernel
theorem so_bin : PyData.strOk (Str.ofString "bin") = true := by decide +kernel
theorem so_plus : PyData.strOk (Str.ofString "+") = true := by decide +kernel
theorem exP_lay (e : Ex) : (exP e).canLay0 = true := by
  induction e with
  | const c => simp only [exP, PyData.canLayAll0, PyData.canLay0, so_const, Bool.and_self]
  | sig k => simp only [exP, PyData.canLayAll0, PyData.canLay0, so_sig, Bool.and_self]
  | word k i ih => simp only [exP, PyData.canLayAll0, PyData.canLay0, ih, so_word, Bool.and_self]
  | bin l r i1 i2 => simp only [exP, PyData.canLayAll0, PyData.canLay0, i1, i2, so_bin, so_plus, Bool.and_self]
theorem exPs_lay (es : List Ex) : PyData.canLayAll0 (es.map exP) = true := by
  induction es with
  | nil => rfl
  | cons e es ih => show ((exP e).canLay0 && PyData.canLayAll0 (es.map exP)) = true; rw [exP_lay, ih]; rfl
theorem exP_dep (e : Ex) : (exP e).depth = e.dep := by
  induction e with
  | const c => rfl
  | sig k => rfl
  | word k i ih => simp only [exP, PyData.depth, PyData.depthAll, ih, Ex.dep, Nat.zero_max, Nat.max_zero]; try rw [Nat.add_comm]
  | bin l r i1 i2 => simp only [exP, PyData.depth, PyData.depthAll, i1, i2, Ex.dep, Nat.zero_max, Nat.max_zero]; try rw [Nat.add_comm]
theorem eqv_t (x y : PyData) (xs ys : List PyData) : PyData.eqv (.tuple (x :: xs)) (.tuple (y :: ys)) = (PyData.eqv x y && PyData.eqvAll xs ys) := by simp only [PyData.eqv, PyData.eqvAll]
theorem eqv_c (x y : PyData) (xs ys : List PyData) : PyData.eqvAll (x :: xs) (y :: ys) = (PyData.eqv x y && PyData.eqvAll xs ys) := by simp only [PyData.eqvAll]
theorem eqv_n : PyData.eqvAll [] [] = true := by simp only [PyData.eqvAll]
theorem eqv_s (a b : Str) : PyData.eqv (.str a) (.str b) = (a == b) := by simp only [PyData.eqv]
theorem eqv_i (a b : Int) : PyData.eqv (.int a) (.int b) = (a == b) := by simp only [PyData.eqv]
theorem eqv_b (a b : Bool) : PyData.eqv (.bool a) (.bool b) = (a == b) := by simp only [PyData.eqv]
theorem ne_cs : (Str.ofString "const" == Str.ofString "sig") = false := by decide +kernel
theorem ne_cw : (Str.ofString "const" == Str.ofString "word") = false := by decide +kernel
theorem ne_cb : (Str.ofString "const" == Str.ofString "bin") = false := by decide +kernel
theorem ne_sc : (Str.ofString "sig" == Str.ofString "const") = false := by decide +kernel
theorem ne_sw : (Str.ofString "sig" == Str.ofString "word") = false := by decide +kernel
theorem ne_sb : (Str.ofString "sig" == Str.ofString "bin") = false := by decide +kernel
theorem ne_wc : (Str.ofString "word" == Str.ofString "const") = false := by decide +kernel
theorem ne_ws : (Str.ofString "word" == Str.ofString "sig") = false := by decide +kernel
theorem ne_wb : (Str.ofString "word" == Str.ofString "bin") = false := by decide +kernel
theorem ne_bc : (Str.ofString "bin" == Str.ofString "const") = false := by decide +kernel
theorem ne_bs : (Str.ofString "bin" == Str.ofString "sig") = false := by decide +kernel
theorem ne_bw : (Str.ofString "bin" == Str.ofString "word") = false := by decide +kernel
theorem exP_eqv : ∀ (d e : Ex), PyData.eqv (exP d) (exP e) = true ↔ d = e := by
  intro d
  induction d with
  | const c => intro e; cases e <;> simp only [exP, eqv_t, eqv_c, eqv_s, eqv_i, eqv_b, eqv_n, ne_cs, ne_cw, ne_cb, Bool.false_and, Bool.false_eq_true, reduceCtorEq, beq_self_eq_true, Bool.true_and, Bool.and_true, beq_iff_eq, Ex.const.injEq]
  | sig k => intro e; cases e <;> simp only [exP, eqv_t, eqv_c, eqv_s, eqv_i, eqv_b, eqv_n, ne_sc, ne_sw, ne_sb, Bool.false_and, Bool.false_eq_true, reduceCtorEq, beq_self_eq_true, Bool.true_and, Bool.and_true, beq_iff_eq, Ex.sig.injEq]
  | word k i ih => intro e; cases e <;> simp only [exP, eqv_t, eqv_c, eqv_s, eqv_i, eqv_b, eqv_n, ne_wc, ne_ws, ne_wb, Bool.false_and, Bool.false_eq_true, reduceCtorEq, beq_self_eq_true, Bool.true_and, Bool.and_true, Bool.and_eq_true, ih, beq_iff_eq, Ex.word.injEq]
  | bin l r i1 i2 => intro e; cases e <;> simp only [exP, eqv_t, eqv_c, eqv_s, eqv_i, eqv_b, eqv_n, ne_bc, ne_bs, ne_bw, Bool.false_and, Bool.false_eq_true, reduceCtorEq, beq_self_eq_true, Bool.true_and, Bool.and_true, Bool.and_eq_true, i1, i2, beq_iff_eq, Ex.bin.injEq]
theorem exP_any (es : List Ex) (e : Ex) : ((es.map exP).any fun y => PyData.eqv y (exP e)) = decide (e ∈ es) := by
  rw [Bool.eq_iff_iff, decide_eq_true_iff, List.any_map, List.any_eq_true]
  constructor
  · rintro ⟨d, hd, q⟩
    rw [← (exP_eqv d e).mp q]; exact hd
  · exact fun h => ⟨e, h, (exP_eqv e e).mpr rfl⟩
theorem exPs_dep (n : Nat) (es : List Ex) (h : ∀ e ∈ es, e.dep ≤ n) : PyData.depthAll (es.map exP) ≤ n := by
  induction es with
  | nil => simp [PyData.depthAll]
  | cons e es ih =>
    have h1 := h e (.head _)
    have h2 := ih fun x hx => h x (.tail _ hx)
    have h3 := exP_dep e
    simp only [List.map_cons, PyData.depthAll]
    omega
noncomputable def addNew (l : List Ex) (e : Ex) : List Ex := if e ∈ l then l else l ++ [e]
theorem addNew_len (l : List Ex) (e : Ex) : (addNew l e).length ≤ l.length + 1 := by unfold addNew; split <;> simp
theorem fold_len (xs : List Ex) : ∀ l, (xs.foldl addNew l).length ≤ l.length + xs.length := by
  induction xs with
  | nil => intro l; simp
  | cons x xs ih => intro l; have a := ih (addNew l x); have b := addNew_len l x; simp only [List.foldl_cons, List.length_cons]; omega
theorem mem_addNew {l : List Ex} {e d : Ex} : d ∈ addNew l e ↔ d ∈ l ∨ d = e := by
  unfold addNew
  split
  · rename_i h; constructor
    · exact .inl
    · rintro (q | rfl)
      · exact q
      · exact h
  · simp
theorem mem_fold (xs : List Ex) : ∀ l d, d ∈ xs.foldl addNew l ↔ d ∈ l ∨ d ∈ xs := by
  induction xs with
  | nil => simp
  | cons x xs ih => intro l d; rw [List.foldl_cons, ih, mem_addNew, List.mem_cons, or_assoc]
theorem filter_addNew (p : Ex → Bool) (l : List Ex) (e : Ex) : (addNew l e).filter p = if p e then addNew (l.filter p) e else l.filter p := by
  unfold addNew
  by_cases h : e ∈ l <;> by_cases q : p e = true <;> simp [h, q, List.filter_append]
theorem filter_fold (p : Ex → Bool) (xs : List Ex) : ∀ l, (xs.foldl addNew l).filter p = (xs.filter p).foldl addNew (l.filter p) := by
  induction xs with
  | nil => intro l; rfl
  | cons x xs ih =>
    intro l
    rw [List.foldl_cons, ih, filter_addNew, List.filter_cons]
    by_cases q : p x = true <;> simp [q]
noncomputable def isW (k : Int) : Ex → Bool
  | .word j _ => j == k
  | _ => false
section
variable {prog : Program} {w : World} {A : Around} {E : Value → Shared → Prop} {s : Shared} {h₀ : Heap} {L a : Addr} {news : List (Addr × Obj)} {xs : List Value} {es : List Ex} {c : Nat} {x : Value} {e : Ex} {Q : Value → Shared → Prop}
theorem notin_ex (N : News h₀ L s.heap news) (ma : (a, listOf xs.toArray c) ∈ news) (Da : All2 (ExR (TupAt s.heap)) xs es) (Dx : ExR (TupAt s.heap) x e) (hd : e.dep ≤ 20) (hu : A.units + 64 < cLine)
    (h : Q (.bool (!decide (e ∈ es))) s) : wpAny (model prog w) A (compareOp .NotIn x (.ref a)) Q E s := by
  obtain ⟨as, ra⟩ := exs_reads Da
  obtain ⟨bs, rx⟩ := Dx.reads
  refine SeqAt.notIn_list_reads (reads_list_at (N.get ma) rfl rfl (by simpa using ra)) rx (exPs_lay es) (exP_lay e) ?_ (by rw [exP_any]; exact h)
  have := Nat.min_le_right (PyData.depthAll (es.map exP)) (exP e).depth
  have h3 := exP_dep e
  omega
end
noncomputable def fw (key : Int) (l : List Ex) : List Ex := (l.filter (isW key)).foldl addNew []
theorem fw_snoc (key : Int) (l : List Ex) (e : Ex) : fw key (l ++ [e]) = if isW key e then addNew (fw key l) e else fw key l := by
  unfold fw
  rw [List.filter_append, List.foldl_append, List.filter_cons]
  split <;> rfl
theorem fw_len (key : Int) (l : List Ex) : (fw key l).length ≤ l.length := by
  have a := fold_len (l.filter (isW key)) []
  have b := List.length_filter_le (isW key) l
  unfold fw
  simp only [List.length_nil] at a
  omega
noncomputable def Nd.ex (l : List Nd) : List Ex := (l.flatMap Nd.exprs).flatMap Ex.pre
theorem rk_ex (l : List Nd) : Nd.ex l = l.flatMap fun d => d.exprs.flatMap Ex.pre := by unfold Nd.ex; rw [List.flatMap_assoc]
structure Nd.Ok (nd : Nd) : Prop where
  sz : nd.pre.length ≤ 1000
  k4 : ∀ d ∈ nd.pre, d.kids.length ≤ 4
  tot : (Nd.ex nd.pre).length ≤ 1000
  keys : ∀ e ∈ Nd.ex nd.pre, ∀ k, rkey e = some k → 0 ≤ k ∧ k < 5
  dep : ∀ e ∈ Nd.ex nd.pre, e.dep ≤ 20
theorem len_mem {l : List Ex} {e : Ex} (h : e ∈ l) : e.pre.length ≤ (l.flatMap Ex.pre).length := by
  induction l with
  | nil => cases h
  | cons a l ih =>
    rw [List.flatMap_cons, List.length_append]
    rcases List.mem_cons.mp h with rfl | h
    · omega
    · have := ih h; omega
theorem Nd.Ok.es {nd : Nd} (o : nd.Ok) : ∀ d ∈ nd.pre, ∀ e ∈ d.exprs, e.pre.length ≤ 1000 := fun d hd e he => Nat.le_trans (len_mem (List.mem_flatMap.mpr ⟨d, hd, he⟩)) o.tot

end
section
section
variable {prog : Program} {w : World} {A : Around} {E : Value → Shared → Prop} {s : Shared} {env : Env} {h₀ : Heap} {x : Str} {px : Pos} {body : List Stmt} {Q : Flow → Shared → Prop}
theorem iter_rangeTurns {r : Addr} {a₀ b₀ : Int} {t₀ u₀ v₀ : Tok} {m₀ : Str → Option Value} {news : List (Addr × Obj)} (xs : List Int)
    (hh : A.handled = none) (hr : IsRange s.heap r a₀ b₀ 1 t₀ u₀ v₀) (hsmall : Builtin.Range.small a₀ b₀ 1 = true) (hn : Builtin.Range.rangeSize a₀ b₀ 1 = (xs.length : Int)) (hx : ∀ i, i < xs.length → xs[i]? = some (a₀ + (i : Int)))
    (F : Fr h₀ env.locals s.heap m₀) (N : News h₀ env.locals s.heap news)
    (rest₀ : ∀ I : Addr, (∀ p ∈ news, p.1 < I) → ItemsRest prog w A E h₀ env (.Name x px) body Q s [(I, "range_iterator")] [] (xs.map fun k => .tok fun t => .int k t) m₀ news) :
    wpAny (model prog w) A (pyIter (.ref r)) (fun it s₂ => TurnsAt prog w A h₀ env (.Name x px) body Q E it s₂) E s := by
  refine wpAny_pyIter_range hr hsmall ?_
  have W : Walks prog w A s.heap.objs.size [s.heap.objs.size] [s.heap.objs.size] xs.length (fun i v => i < xs.length ∧ ∃ t, v = .int (a₀ + i * 1) t)
      (fun i h => IsRangeIter h s.heap.objs.size (a₀ + (i : Nat) * 1) ((xs.length : Int) - (i : Nat)) 1) := (Walks.range hh _ a₀ 1 xs.length).bound
  have hnew := next_is_new F
  refine ktu_core (tk0 := s.toks) (keep := []) (ws := [(s.heap.objs.size, "range_iterator")]) (KTurns.ofWalks W fun i v s Q E st q => wpAny_pure q) (by simp) (fun i v h hp => ⟨.tok fun t => .int (a₀ + (i : Int)) t, ?_, ?_⟩) (fun i h st => ⟨[(s.heap.objs.size, _)], ⟨⟨rfl, rfl⟩, trivial⟩, fun p hp => by rw [List.mem_singleton.mp hp]; exact st⟩) (fun b hb => ?_) (fun b hb => by simpa using hb) (fun b hb => ?_) ?_ (fun p hp hI => ?_) ?_ (F.push _) (fun p hp => ⟨Heap.get?_push_of_some _ (N p hp).1, (N p hp).2⟩) trivial (rest₀ _ fun p hp => Heap.lt_size (N p hp).1)
  · rw [List.getElem?_map, hx i hp.1]; rfl
  · obtain ⟨_, t, e⟩ := hp
    exact ⟨t, by rw [e, Int.mul_one]⟩
  · have hb' : b = s.heap.objs.size := by simpa using hb
    rw [hb']
    exact ⟨List.mem_cons_self .., hnew⟩
  · exact .inl (by simpa using hb)
  · intro hI
    exact absurd F.ns.lt ((List.mem_singleton.mp hI) ▸ Nat.lt_irrefl _)
  · exact absurd (Heap.lt_size (N p hp).1) ((List.mem_singleton.mp hI) ▸ Nat.lt_irrefl _)
  · show IsRangeIter _ _ _ _ _; rw [hn]; simpa using Heap.get?_push_size _ rfl
end

end
section
section
variable {prog : Program} {w : World} {A : Around} {E : Value → Shared → Prop} {s : Shared} {h₀ : Heap} {L D : Addr} {m : Str → Option Value} {news news' : List (Addr × Obj)} {its r : List Value} {x v : Value} {n : Nat} {k : Int} {t u : Tok} {value slice : PySem.Expr}
theorem last_L {Q : Value → Shared → Prop} (N : News h₀ L s.heap news) (hm : (D, listOf (its ++ [x]).toArray n) ∈ news) (hk : k = -1) (h : Q x s)
    (hs : subscripted slice false (.ref D) (.int k u) = operate [.ref D, .int k u] (getItem (.ref D) (.int k u)) := by with_unfolding_all rfl) :
    wpAny (model prog w) A (subscriptTail value slice (.ref D) (.int k u)) Q E s := by
  subst hk
  refine kde_neg (N.isList hm) (by decide) (by decide) (j := its.length) ?_ (by simp) h hs
  unfold seqIndex?
  simp
  omega
theorem mid_get {Q : Value → Shared → Prop} (N : News h₀ L s.heap news) (hm : (D, listOf (its ++ x :: r).toArray n) ∈ news) (hk : k = (its.length : Int)) (hz : its.length ≤ 100000) (h : Q x s)
    (hs : subscripted slice false (.ref D) (.int k u) = operate [.ref D, .int k u] (getItem (.ref D) (.int k u)) := by with_unfolding_all rfl) :
    wpAny (model prog w) A (subscriptTail value slice (.ref D) (.int k u)) Q E s := by
  subst hk
  have hl := N.isList hm
  exact tail_any hl.typeIs slot_list_getitem.lookup (wpAny_getItem_list hl (by omega) (by omega) (by simp) h) hs
theorem mid_set {Q : Unit → Shared → Prop} (F : Fr h₀ L s.heap m) (N : News h₀ L s.heap news) (U : Upd D (listOf (its ++ x :: r).toArray n) (listOf (its ++ v :: r).toArray n) news news') (hk : k = (its.length : Int)) (hz : its.length ≤ 100000)
    (h : ∀ h', Fr h₀ L h' m → News h₀ L h' news' → Q () { s with heap := h' }) :
    wpAny (model prog w) A (setItem (.ref D) (.int k t) v) Q E s := by
  subst hk
  obtain ⟨pre, post, rfl, rfl, a, b⟩ := U.split
  have z := N (D, listOf (its ++ x :: r).toArray n) (List.mem_append.mpr (.inr (.head _)))
  refine ki_setAt z.1 (by omega) (by omega) (by simp; omega) (h _ (F.change (Heap.SameBut.update ..) z.2.1 z.2.2) (ki_turn _ N a b ?_ ?_))
  · apply Array.toList_inj.mp
    simp
  · simp
theorem len_L {Q : Value → Shared → Prop} (N : News h₀ L s.heap news) (hm : (D, listOf its.toArray n) ∈ news) (hz : its.length ≤ 10000) (h : Q (.int (its.length : Int) (s.toks + 1)) { s with toks := s.toks + 1 + 1 }) :
    wpAny (model prog w) A (call (.builtin "len") [.ref D]) Q E s := kun_lenL (N.isList hm) (by simp) (by omega) h
end
theorem kept_tup {S : List Addr} {h h' : Heap} (k : Kept S h h') (hS : ∀ b ∈ S, ∀ vs, ¬ TupAt h b vs) : TupKeep h h' := fun a vs e => k _ _ (fun q => hS a q vs e) e
theorem list_nt {its : Array Value} {n : Nat} : (listOf its n).cls ≠ .type "tuple" := by show ¬ (Value.type "list" = Value.type "tuple"); decide
theorem nottup {g h : Heap} {L a : Addr} {o : Obj} {news : List (Addr × Obj)} (N : News g L h news) (hm : (a, o) ∈ news) (hc : o.cls ≠ .type "tuple") : ∀ vs, ¬ TupAt h a vs := fun vs e => by
  have h1 := (N _ hm).1
  have e' : h.get? (a, o).1 = some (tup vs) := e
  rw [e'] at h1
  exact hc (congrArg Obj.cls (Option.some.inj h1).symm)
theorem all_two {α : Type} {P : α → Prop} {a b : α} (ha : P a) (hb : P b) : ∀ p ∈ [a, b], P p := by
  intro p hp
  rcases List.mem_cons.mp hp with rfl | hp
  · exact ha
  · rw [List.mem_singleton.mp hp]; exact hb
theorem all_one {α : Type} {P : α → Prop} {a : α} (ha : P a) : ∀ p ∈ [a], P p := by
  intro p hp
  rw [List.mem_singleton.mp hp]; exact ha
/-- a tuple that was not there before -/
noncomputable def FT (h h' : Heap) (a : Addr) (vs : List Value) : Prop := TupAt h' a vs ∧ h.get? a = none
theorem FT.at {h h' : Heap} : ∀ a vs, FT h h' a vs → TupAt h' a vs := fun _ _ x => x.1
theorem ft_of {S : List Addr} {g h h' : Heap} {L a : Addr} {vs : List Value} {news : List (Addr × Obj)} (hk : ∀ b o, h.get? b = some o → b ∉ S → g.get? b = some o) (N : News g L h' news) (hm : (a, tup vs) ∈ news) (hS : a ∉ S) : FT h h' a vs := ⟨(N _ hm).1, fresh_of hk N hm hS⟩
theorem ftm {h hc h2 h9 : Heap} (b : ∀ a, hc.get? a = none → h.get? a = none) (k : TupKeep h2 h9) : ∀ a vs, FT hc h2 a vs → FT h h9 a vs := fun a vs x => ⟨k _ _ x.1, b _ x.2⟩
theorem back_of {S news : List (Addr × Obj)} {g h hc : Heap} {L : Addr} {m : Str → Option Value} (hk : ∀ b o, h.get? b = some o → b ∉ S.map (·.1) → g.get? b = some o) (F : Fr g L hc m) (N : News g L hc news) (hS : ∀ p ∈ S, ∃ o, (p.1, o) ∈ news) : ∀ a, hc.get? a = none → h.get? a = none := fun a e => by
  cases q : h.get? a with
  | none => rfl
  | some o =>
    by_cases z : a ∈ S.map (·.1)
    · obtain ⟨p, hp, rfl⟩ := List.mem_map.mp z
      obtain ⟨o', ho⟩ := hS p hp
      have := (N _ ho).1
      rw [e] at this
      cases this
    · have := F.keep _ _ (hk _ _ q z)
      rw [e] at this
      cases this

end
section
theorem inst_keep {g h : Heap} {L x C : Addr} {m : Str → Option Value} {ox : Obj} {od : Option Obj} (F : Fr g L h m) (I : InstAt g x ox C od) : InstAt h x ox C od := by
  obtain ⟨a, b, c, d⟩ := I
  refine ⟨F.keep _ _ a, b, c, ?_⟩
  cases ho : ox.dict <;> cases od <;> rw [ho] at d <;> first | exact d | exact F.keep _ _ d
theorem inst_kept {h h' : Heap} {S : List Addr} {x C dx : Addr} {od : Obj} (k : Kept S h h') (h1 : x ∉ S) (h2 : dx ∉ S) (I : InstAt h x (instObj C dx) C (some od)) : InstAt h' x (instObj C dx) C (some od) :=
  ⟨k _ _ h1 I.at_, rfl, I.no, k _ _ h2 I.dict⟩
theorem regroup1 {g h : Heap} {L a : Addr} {o : Obj} {news : List (Addr × Obj)} (N : News g L h news) (hm : (a, o) ∈ news) :
    ∃ tl, News g L h ((a, o) :: tl) ∧ OwnOff tl [a] ∧ ∀ p ∈ news, @Ne Nat p.1 a → p ∈ tl := by
  obtain ⟨tl, N1, O1, h1⟩ := regroup [(a, o)] (fun p hp => N p (by rw [List.mem_singleton.mp hp]; exact hm))
  refine ⟨tl, N1, O1, fun p hp hn => h1 p (N p hp).1 (N p hp).2.2 (N p hp).2.1 fun q => hn (List.mem_singleton.mp q)⟩
section
variable {prog : Program} {w : World} {A : Around} {E : Value → Shared → Prop} {Q : Flow → Shared → Prop} {s : Shared} {env : Env} {g : Heap} {L : Addr}
theorem for_range {σ : Type} {x : Str} {body : List Stmt} {m₀ : Str → Option Value} {r : Addr} {a₀ b₀ : Int} {t₀ u₀ v₀ : Tok} {n : Nat} {adr : List Addr} {tl₀ : List (Addr × Obj)} (Led : σ → List (Addr × Obj)) (ps : σ → List (Str × Value)) (I : Nat → σ → Heap → Prop) (c₀ : σ)
    (hh : A.handled = none) (hr : IsRange s.heap r a₀ b₀ 1 t₀ u₀ v₀) (hsmall : Builtin.Range.small a₀ b₀ 1 = true) (hn : Builtin.Range.rangeSize a₀ b₀ 1 = (n : Int))
    (hnt : ∀ c, ∀ p ∈ Led c, p.2.cls ≠ .type "tuple") (hadr : ∀ c, (Led c).map (·.1) = adr) (hst : ∀ i c h h', TupKeep h h' → I i c h → I i c h')
    (F : Fr g env.locals s.heap m₀) (N : News g env.locals s.heap (Led c₀ ++ tl₀)) (hO : OwnOff tl₀ adr) (hps : ∀ p ∈ ps c₀, m₀ p.1 = some p.2) (hI : I 0 c₀ s.heap)
    (turn : ∀ i t c u h tk tl, i < n → Fr g env.locals h (fun y => if y = x then some (.int (a₀ + (i : Int)) t) else pin (ps c) u y) → News g env.locals h (Led c ++ tl) → OwnOff tl adr → Cov g env.locals adr h tl → TCov g h tl → (∀ p ∈ tl₀, p ∈ tl) → I i c h →
      wpAny (model prog w) A (execs body env) (FEnd g env.locals s Led ps I tl Q (i + 1)) E { s with heap := h, toks := tk })
    (done : ∀ c u h tk tl, Fr g env.locals h (pin (ps c) u) → News g env.locals h (Led c ++ tl) → OwnOff tl adr → Cov g env.locals adr h tl → TCov g h tl → (∀ p ∈ tl₀, p ∈ tl) → I n c h → Q .next { s with heap := h, toks := tk }) :
    wpAny (model prog w) A (pyIter (.ref r)) (fun it s₂ => LoopAtV prog w A g env x body Q E it s₂) E s := by
  refine wpAny_pyIter_range hr hsmall ?_
  have W : Walks prog w A s.heap.objs.size [s.heap.objs.size] [s.heap.objs.size] n (fun i v => i < n ∧ ∃ t, v = .int (a₀ + i * 1) t)
      (fun i h => IsRangeIter h s.heap.objs.size (a₀ + (i : Nat) * 1) ((n : Int) - (i : Nat)) 1) := (Walks.range hh _ a₀ 1 n).bound
  have hadr0 : ∀ b ∈ adr, b < s.heap.objs.size := fun b hb => by
    rw [← hadr c₀] at hb
    obtain ⟨p, hp, rfl⟩ := List.mem_map.mp hb
    exact Heap.lt_size (N p (List.mem_append.mpr (.inl hp))).1
  refine for_walk Led ps I c₀ W (.head _) (fun i h st => ?_) (next_is_new F) ?_ ?_ ?_ hnt hadr hst (F.push _) (fun p hp => ⟨Heap.get?_push_of_some _ (N p hp).1, (N p hp).2⟩) hO
    (fun p hp => Nat.ne_of_lt (Heap.lt_size (N p (List.mem_append.mpr (.inr hp))).1)) hps (hst _ _ _ _ (fun a us e => Heap.get?_push_of_some _ e) hI) (fun i v c u h tk tl hi hv F' => ?_) done
  · exact ⟨_, st, by show ¬ (Value.type "range_iterator" = Value.type "tuple"); decide⟩
  · show IsRangeIter _ _ _ _ _; rw [hn]; simpa using Heap.get?_push_size _ rfl
  · intro hm
    exact absurd F.ns.lt ((List.mem_singleton.mp hm) ▸ Nat.lt_irrefl _)
  · intro b hb q
    rw [List.mem_singleton.mp hb] at q
    exact absurd (hadr0 _ q) (Nat.lt_irrefl _)
  · obtain ⟨_, t, rfl⟩ := hv
    rw [Int.mul_one] at F'
    exact turn i t c u h tk tl hi F'
end
inductive Du where
  | ex (e : Ex)
  | cell (k i : Int)
inductive DuR (P : Addr → List Value → Prop) : Value → Du → Prop
  | ex {a t u e} : P a [.str (Str.ofString "any") t, u] → ExR P u e → DuR P (.ref a) (.ex e)
  | cell {a b c t1 t2 t3 t4 t5 t6 t7 t8 k i} : P a [.str (Str.ofString "any") t1, .ref b] → P b [.str (Str.ofString "word") t2, .int 4 t3, .int k t4, .ref c, .bool true] →
      P c [.str (Str.ofString "const") t5, .int 32 t6, .int (i % 4294967296) t7, .int 0 t8] → DuR P (.ref a) (.cell k i)
theorem DuR.mono {P P' : Addr → List Value → Prop} (hp : ∀ a vs, P a vs → P' a vs) {v : Value} {e : Du} (h : DuR P v e) : DuR P' v e := by
  cases h with
  | ex a b => exact .ex (hp _ _ a) (b.mono hp)
  | cell a b c => exact .cell (hp _ _ a) (hp _ _ b) (hp _ _ c)
noncomputable def duCells (k lo : Int) (n : Nat) : List Du := (List.range n).map fun (j : Nat) => .cell k (lo + (j : Int))
theorem duCells_succ (k lo : Int) (n : Nat) : duCells k lo (n + 1) = duCells k lo n ++ [.cell k (lo + (n : Int))] := by
  unfold duCells; rw [List.range_succ, List.map_append]; rfl
/-- a Signal's own dict -/
structure SigEs (es : List DictEntry) (k : Int) (f l : Value) : Prop where
  key : ∃ t, getL (Str.ofString "key") es = some (some (.int k t))
  width : ∃ t, getL (Str.ofString "width") es = some (some (.int 4 t))
  first : getL (Str.ofString "first") es = some (some f)
  last : getL (Str.ofString "last") es = some (some l)
  words : getL (Str.ofString "words") es = some none
  isMemory : getL (Str.ofString "is_memory") es = some none
  len : es.length ≤ 100
section
variable {prog : Program} {w : World} {A : Around} {E : Value → Shared → Prop} {s : Shared} {g h₀ : Heap} {L D a : Addr} {m : Str → Option Value} {news : List (Addr × Obj)} {vs : List Value} {v : Value} {n : Nat} {k : Int} {u : Tok} {value slice : PySem.Expr}
theorem base_item {Q : Value → Shared → Prop} (F : Fr g L s.heap m) (hb : g.get? a = some (listOf vs.toArray n)) (h0 : 0 ≤ k) (hf : k < 2 ^ 63) (hx : vs[k.toNat]? = some v) (h : Q v s)
    (hs : subscripted slice false (.ref a) (.int k u) = operate [.ref a, .int k u] (getItem (.ref a) (.int k u)) := by with_unfolding_all rfl) :
    wpAny (model prog w) A (subscriptTail value slice (.ref a) (.int k u)) Q E s := by
  have hl : s.heap.IsList a vs.toArray := ⟨_, F.keep _ _ hb, rfl, _, rfl⟩
  exact tail_any hl.typeIs slot_list_getitem.lookup (wpAny_getItem_list hl h0 hf (by simpa using hx) h) hs
theorem tupleT_L {Q : Value → Shared → Prop} (F : Fr h₀ L s.heap m) (N : News h₀ L s.heap news) (hm : (D, listOf vs.toArray n) ∈ news) (hz : vs.length ≤ 10000)
    (h : ∀ T h', Fr h₀ L h' m → News h₀ L h' ((T, tup vs) :: news) → (∀ p ∈ news, p.1 < T) → Q (.ref T) { s with heap := h' }) : wpAny (model prog w) A (call (.type "tuple") [.ref D]) Q E s :=
  kde_tupleOf F N (N.isList hm) (by rw [List.size_toArray]; omega) (by simp) h
end
theorem all_three {α : Type} {P : α → Prop} {a b c : α} (ha : P a) (hb : P b) (hc : P c) : ∀ p ∈ [a, b, c], P p := by
  intro z hz
  simp only [List.mem_cons, List.not_mem_nil, or_false] at hz
  rcases hz with rfl | rfl | rfl <;> assumption
noncomputable def SigAt (h : Heap) (y : Addr) (k : Int) (f l : Value) : Prop := ∃ yd es n, InstAt h y (instObj 167 yd) 167 (some (dictOf es n)) ∧ SigEs es k f l
structure Dsg (h : Heap) (x : Addr) (lo : Int) : Prop where
  all : ∃ xd des nd aL y0 y1 y2 y3 y4 nL f l t1 t2 t3 t4, InstAt h x (instObj 230 xd) 230 (some (dictOf des nd)) ∧ getL (Str.ofString "signals") des = some (some (.ref aL)) ∧
    h.get? aL = some (listOf (List.toArray [Value.ref y0, .ref y1, .ref y2, .ref y3, .ref y4]) nL) ∧ SigAt h y0 0 .none .none ∧ SigAt h y1 1 .none .none ∧ SigAt h y2 2 .none .none ∧
    SigAt h y3 3 (.int f t1) (.int l t2) ∧ ((f = lo ∧ l = lo + 2) ∨ (f = lo + 2 ∧ l = lo)) ∧ SigAt h y4 4 (.int 70 t3) (.int 1 t4)
theorem strict_eq : ∀ {l1 l2 : List Int}, l1.Pairwise (· < ·) → l2.Pairwise (· < ·) → (∀ k, k ∈ l1 ↔ k ∈ l2) → l1 = l2
  | [], [], _, _, _ => rfl
  | [], b :: _, _, _, h => absurd ((h b).mpr (.head _)) (by simp)
  | a :: _, [], _, _, h => absurd ((h a).mp (.head _)) (by simp)
  | a :: r, b :: s, h1, h2, h => by
    obtain ⟨a1, r1⟩ := List.pairwise_cons.mp h1
    obtain ⟨b1, s1⟩ := List.pairwise_cons.mp h2
    have e : a = b := by
      rcases List.mem_cons.mp ((h a).mp (.head _)) with q | q
      · exact q
      · rcases List.mem_cons.mp ((h b).mpr (.head _)) with z | z
        · exact z.symm
        · have := b1 a q; have := a1 b z; omega
    subst e
    refine congrArg (a :: ·) (strict_eq r1 s1 fun k => ⟨fun q => ?_, fun q => ?_⟩)
    · rcases List.mem_cons.mp ((h k).mp (.tail _ q)) with z | z
      · have := a1 k q; omega
      · exact z
    · rcases List.mem_cons.mp ((h k).mpr (.tail _ q)) with z | z
      · have := b1 k q; omega
      · exact z
theorem keys_eq {ns : List Int} (hs : ns.Pairwise (fun x y => x ≤ y)) (hn : ns.Nodup) (p : Int → Bool) (hm : ∀ k, k ∈ ns ↔ (0 ≤ k ∧ k < 5) ∧ p k = true) : ns = [0, 1, 2, 3, 4].filter p := by
  refine strict_eq ?_ (List.Pairwise.filter _ (by decide)) fun k => ?_
  · exact List.Pairwise.imp (fun {a b} (h : a ≤ b ∧ a ≠ b) => by omega) (List.Pairwise.and hs hn)
  · rw [hm, List.mem_filter]
    refine and_congr ⟨fun h => ?_, fun h => ?_⟩ Iff.rfl
    · simp only [List.mem_cons, List.not_mem_nil, or_false]; omega
    · simp only [List.mem_cons, List.not_mem_nil, or_false] at h; omega
noncomputable def rowOf (lo : Int) (ex : List Ex) (k : Int) : List Du := if k < 3 then [.ex (.sig k)] else if k = 3 then duCells 3 lo 3 else (fw 4 ex).map .ex

end
section
/-- what a turn's end keeps for the next turn, besides tuples -/
noncomputable def OKeep (adr : List Addr) (L : Addr) (itc : Value) (h h' : Heap) : Prop := ∀ a o, a ∉ adr → @Ne Nat a L → o.cls ≠ itc → h.get? a = some o → h'.get? a = some o
section
variable {prog : Program} {w : World} {A : Around} {E : Value → Shared → Prop} {Q : Flow → Shared → Prop} {s : Shared} {env : Env} {g : Heap} {L : Addr}
theorem turns_walk {σ : Type} {target : Expr} {body : List Stmt} {m₀ : Str → Option Value} {It : Addr} {fp : List Addr} {n : Nat} {P : Nat → Value → Prop} {Stt : Nat → Heap → Prop} {adr : List Addr} {tl₀ : List (Addr × Obj)} (Led : σ → List (Addr × Obj)) (ps : σ → List (Str × Value)) (I : Nat → σ → Heap → Prop) (c₀ : σ)
    (W : Walks prog w A It fp [It] n P Stt) (hgo : ∀ i v (s : Shared) (Q : Unit → Shared → Prop) (E : Value → Shared → Prop), Stt i s.heap → Q () s → wpAny (model prog w) A (letOwnedTupleGo target (.ref It) v) Q E s) (hIf : It ∈ fp) {itc : Value} (hic : itc ≠ .type "tuple") (hIt : ∀ i h, Stt i h → ∃ o, h.get? It = some o ∧ o.cls = itc) (hIg : g.get? It = none) (hst0 : Stt 0 s.heap) (hLf : env.locals ∉ fp) (hfa : ∀ b ∈ fp, b ∉ adr)
    (hnt : ∀ c, ∀ p ∈ Led c, ∀ vs, p.2 ≠ tup vs) (hadr : ∀ c, (Led c).map (·.1) = adr) (hst : ∀ i c h h', TupKeep h h' → OKeep adr env.locals itc h h' → I i c h → I i c h')
    (F : Fr g env.locals s.heap m₀) (N : News g env.locals s.heap (Led c₀ ++ tl₀)) (hO : OwnOff tl₀ adr) (hO' : ∀ p ∈ tl₀, p.1 ≠ It) (hps : ∀ p ∈ ps c₀, m₀ p.1 = some p.2) (hI : I 0 c₀ s.heap)
    (turn : ∀ i v c u h tk tl, i < n → P i v → Fr g env.locals h (pin (ps c) u) → News g env.locals h (Led c ++ tl) → OwnOff tl adr → Cov g env.locals adr h tl → TCov g h tl → (∀ p ∈ tl₀, p ∈ tl) → I i c h →
      wpAny (model prog w) A (assign target env v) (fun _ s₃ => wpAny (model prog w) A (execs body env) (FEnd g env.locals s Led ps I tl Q (i + 1)) E s₃) E { s with heap := h, toks := tk })
    (done : ∀ c u h tk tl, Fr g env.locals h (pin (ps c) u) → News g env.locals h (Led c ++ tl) → OwnOff tl adr → Cov g env.locals adr h tl → TCov g h tl → (∀ p ∈ tl₀, p ∈ tl) → I n c h → Q .next { s with heap := h, toks := tk }) :
    TurnsAt prog w A g env target body Q E (.ref It) s := by
  have hIL : It ≠ env.locals := fun q => hLf (q ▸ hIf)
  have hIadr : It ∉ adr := hfa _ hIf
  have key : ∀ (c : σ) (h : Heap) (m : Str → Option Value), Fr g env.locals h m → News g env.locals h (Led c) → (∀ vs, ¬ TupAt h It vs) → TCov g h (Rest g h env.locals (It :: adr)) := fun c h m F₁ N₁ hJ a vs e => by
    rcases cov_Rest F₁ (It :: adr) a _ e with q | q | q | q
    · exact .inl q
    · subst q; exact (ns_not_tup F₁.ns e).elim
    · rcases List.mem_cons.mp q with rfl | q
      · exact (hJ _ e).elim
      · rw [← hadr c] at q
        obtain ⟨p, hp, rfl⟩ := List.mem_map.mp q
        have h1 := (N₁ p hp).1
        have e' : h.get? p.1 = some (tup vs) := e
        rw [e'] at h1
        exact (hnt _ _ hp _ (Option.some.inj h1).symm).elim
    · exact .inr q
  have key2 : ∀ (c : σ) (h : Heap) (m : Str → Option Value), Fr g env.locals h m → News g env.locals h (Led c) → TCov g h (Rest g h env.locals adr) := fun c h m F₁ N₁ a vs e => by
    rcases cov_Rest F₁ adr a _ e with q | q | q | q
    · exact .inl q
    · subst q; exact (ns_not_tup F₁.ns e).elim
    · rw [← hadr c] at q
      obtain ⟨p, hp, rfl⟩ := List.mem_map.mp q
      have h1 := (N₁ p hp).1
      have e' : h.get? p.1 = some (tup vs) := e
      rw [e'] at h1
      exact (hnt _ _ hp _ (Option.some.inj h1).symm).elim
    · exact .inr q
  have notup : ∀ i h, Stt i h → ∀ vs, ¬ TupAt h It vs := fun i h st vs e => by
    obtain ⟨o, ho, hc⟩ := hIt i h st
    have e' : h.get? It = some (tup vs) := e
    rw [ho] at e'
    cases e'
    exact hic hc.symm
  have okeep : ∀ {hx h : Heap} {m : Str → Option Value} {oX : Obj}, Fr g env.locals h m → (∀ p ∈ Rest g hx env.locals (It :: adr), h.get? p.1 = some p.2 ∧ p.1 ≠ env.locals ∧ g.get? p.1 = none) → Cov g env.locals (It :: adr) hx (Rest g hx env.locals (It :: adr)) → hx.get? It = some oX → oX.cls = itc → OKeep adr env.locals itc hx h := by
    intro hx h m oX F₁ NR Cc hoX hcX a o ha hL hc e
    rcases Cc a o e with q | q | q | q
    · exact F₁.keep _ _ q
    · exact absurd q hL
    · rcases List.mem_cons.mp q with q | q
      · rw [q, hoX] at e
        exact absurd (by rw [← Option.some.inj e]; exact hcX) hc
      · exact absurd q ha
    · exact (NR _ q).1
  let J : Nat → (Str → Option Value) → List (Addr × Obj) → Prop := fun i m nx => ∃ c hx, nx = Led c ++ Rest g hx env.locals (It :: adr) ∧ TCov g hx (Rest g hx env.locals (It :: adr)) ∧ Cov g env.locals (It :: adr) hx (Rest g hx env.locals (It :: adr)) ∧ (∃ oI, hx.get? It = some oI ∧ oI.cls = itc) ∧
    (∀ p ∈ tl₀, p ∈ Rest g hx env.locals (It :: adr)) ∧ (∀ p ∈ ps c, m p.1 = some p.2) ∧ I i c hx
  have NL0 : News g env.locals s.heap (Led c₀) := fun p hp => N p (List.mem_append.mpr (.inl hp))
  refine ⟨It, fp, [It], n, (fun i v _ => P i v), (fun i v h => P i v ∧ Stt (i + 1) h), Stt, m₀, Led c₀ ++ Rest g s.heap env.locals (It :: adr), J, rfl, KTurns.ofWalks W hgo, hLf, ?_, ?_, hst0, F, ?_, ?_, ?_, ?_⟩
  · intro b hb
    rw [List.mem_singleton.mp hb]
    exact hIg
  · intro p hp hq
    rcases List.mem_append.mp hp with hp | hp
    · refine hIadr ?_
      rw [← hadr c₀, ← List.mem_singleton.mp hq]
      exact List.mem_map.mpr ⟨p, hp, rfl⟩
    · exact (mem_Rest.mp hp).2.2.2 (by rw [List.mem_singleton.mp hq]; exact .head _)
  · exact news_app NL0 news_Rest
  · refine ⟨c₀, s.heap, rfl, key c₀ _ _ F NL0 (notup 0 _ hst0), cov_Rest F _, hIt _ _ hst0, ?_, hps, hI⟩
    intro p hp
    have h1 := N p (List.mem_append.mpr (.inr hp))
    refine mem_Rest.mpr ⟨h1.1, h1.2.2, h1.2.1, fun q => ?_⟩
    rcases List.mem_cons.mp q with q | q
    · exact hO' p hp q
    · exact hO p hp _ q rfl
  · rintro i v m₁ nx h tk own hin hP ⟨c, hx, rfl, C, Cc, ⟨oX, hoX, hcX⟩, hsub, hp, hI₁⟩ _ hown hownh hfp hst₁ F₁ N₁
    have NL : News g env.locals h (Led c) := fun p q => N₁ p (List.mem_append.mpr (.inr (List.mem_append.mpr (.inl q))))
    have NR : News g env.locals h (Rest g hx env.locals (It :: adr)) := fun p q => N₁ p (List.mem_append.mpr (.inr (List.mem_append.mpr (.inr q))))
    have tk₁ : TupKeep hx h := C.keep F₁ NR fun p q => q
    have ok₁ : OKeep adr env.locals itc hx h := okeep F₁ NR Cc hoX hcX
    have hsub' : ∀ p ∈ tl₀, p ∈ Rest g h env.locals adr := sub_Rest (fun p q => NR p (hsub p q)) hO
    obtain ⟨oI, hoI, hcI⟩ := hIt _ _ hst₁
    have hIown : (It, oI) ∈ Rest g h env.locals adr := mem_Rest.mpr ⟨hoI, hIg, hIL, hIadr⟩
    have hownR : ∀ p ∈ own, p ∈ Rest g h env.locals adr := fun p q => by
      have h1 := N₁ p (List.mem_append.mpr (.inl q))
      exact mem_Rest.mpr ⟨h1.1, h1.2.2, h1.2.1, hfa _ (hown p q)⟩
    have F₁' : Fr g env.locals h (pin (ps c) m₁) := by rw [pin_eq hp]; exact F₁
    refine wpAny_mono (turn i v c m₁ h tk (Rest g h env.locals adr) hin hP F₁' (news_app NL news_Rest) off_Rest (cov_Rest F₁ adr) (key2 c h _ F₁ NL) hsub' (hst _ _ _ _ tk₁ ok₁ hI₁)) (fun _ s₄ q₄ => wpAny_mono q₄ (fun f s₂ q => ?_) fun _ _ y => y) fun _ _ y => y
    have fin : (∃ c' h' tk' m' tl', s₂ = { s with heap := h', toks := tk' } ∧ Fr g env.locals h' m' ∧ News g env.locals h' (Led c' ++ tl') ∧ (∀ p ∈ Rest g h env.locals adr, p ∈ tl') ∧ (∀ p ∈ ps c', m' p.1 = some p.2) ∧ I (i + 1) c' h') →
        LoopStepU g env.locals [It] own (J (i + 1)) { s with heap := h, toks := tk } .next s₂ := by
      rintro ⟨c', h', tk', m', tl', rfl, F', N', hs', hp', hI'⟩
      have NR' : ∀ p ∈ Rest g h env.locals adr, h'.get? p.1 = some p.2 ∧ p.1 ≠ env.locals ∧ g.get? p.1 = none := fun p r => N' p (List.mem_append.mpr (.inr (hs' p r)))
      have NL' : News g env.locals h' (Led c') := fun p r => N' p (List.mem_append.mpr (.inl r))
      refine ⟨rfl, h', tk', m', Led c' ++ Rest g h' env.locals (It :: adr), rfl, F', news_app (fun p r => NR' p (hownR p r)) (news_app NL' news_Rest), ?_, c', h', rfl, key c' _ _ F' NL' ?_, cov_Rest F' _, ⟨oI, (NR' _ hIown).1, hcI⟩, ?_, hp', hI'⟩
      · intro p hp hq
        rcases List.mem_append.mp hp with hp | hp
        · refine hIadr ?_
          rw [← hadr c', ← List.mem_singleton.mp hq]
          exact List.mem_map.mpr ⟨p, hp, rfl⟩
        · exact (mem_Rest.mp hp).2.2.2 (by rw [List.mem_singleton.mp hq]; exact .head _)
      · intro us e
        have h1 := (NR' _ hIown).1
        have e' : h'.get? It = some (tup us) := e
        rw [e'] at h1
        cases h1
        exact hic hcI.symm
      · intro p r
        have h1 := NR' p (hsub' p r)
        refine mem_Rest.mpr ⟨h1.1, h1.2.2, h1.2.1, fun q => ?_⟩
        rcases List.mem_cons.mp q with q | q
        · exact hO' p r q
        · exact hO p r _ q rfl
    cases f with
    | ret v => exact .ret q
    | brk => exact .brk q
    | next => exact .next (fin q)
    | cont => exact .cont (fin q)
  · rintro h' tk m' nx F' N' _ ⟨c, hx, rfl, C, Cc, ⟨oX, hoX, hcX⟩, hsub, hp, hI₁⟩
    have NL : News g env.locals h' (Led c) := fun p q => N' p (List.mem_append.mpr (.inl q))
    have NR : News g env.locals h' (Rest g hx env.locals (It :: adr)) := fun p q => N' p (List.mem_append.mpr (.inr q))
    exact done c m' h' tk (Rest g h' env.locals adr) (pins_fr F' hp) (news_app NL news_Rest) off_Rest (cov_Rest F' adr) (key2 c h' _ F' NL) (sub_Rest (fun p q => NR p (hsub p q)) hO) (hst _ _ _ _ (C.keep F' NR fun p q => q) (okeep F' NR Cc hoX hcX) hI₁)


theorem turns_range {σ : Type} {x : Str} {px : Pos} {body : List Stmt} {m₀ : Str → Option Value} {r : Addr} {a₀ b₀ : Int} {t₀ u₀ v₀ : Tok} {n : Nat} {adr : List Addr} {tl₀ : List (Addr × Obj)} (Led : σ → List (Addr × Obj)) (ps : σ → List (Str × Value)) (I : Nat → σ → Heap → Prop) (c₀ : σ)
    (hh : A.handled = none) (hr : IsRange s.heap r a₀ b₀ 1 t₀ u₀ v₀) (hsmall : Builtin.Range.small a₀ b₀ 1 = true) (hn : Builtin.Range.rangeSize a₀ b₀ 1 = (n : Int))
    (hnt : ∀ c, ∀ p ∈ Led c, ∀ vs, p.2 ≠ tup vs) (hadr : ∀ c, (Led c).map (·.1) = adr) (hst : ∀ i c h h', TupKeep h h' → OKeep adr env.locals (.type "range_iterator") h h' → I i c h → I i c h')
    (F : Fr g env.locals s.heap m₀) (N : News g env.locals s.heap (Led c₀ ++ tl₀)) (hO : OwnOff tl₀ adr) (hps : ∀ p ∈ ps c₀, m₀ p.1 = some p.2) (hI : I 0 c₀ s.heap)
    (turn : ∀ i t c u h tk tl, i < n → Fr g env.locals h (pin (ps c) u) → News g env.locals h (Led c ++ tl) → OwnOff tl adr → Cov g env.locals adr h tl → TCov g h tl → (∀ p ∈ tl₀, p ∈ tl) → I i c h →
      wpAny (model prog w) A (assign (.Name x px) env (.int (a₀ + (i : Int)) t)) (fun _ s₃ => wpAny (model prog w) A (execs body env) (FEnd g env.locals s Led ps I tl Q (i + 1)) E s₃) E { s with heap := h, toks := tk })
    (done : ∀ c u h tk tl, Fr g env.locals h (pin (ps c) u) → News g env.locals h (Led c ++ tl) → OwnOff tl adr → Cov g env.locals adr h tl → TCov g h tl → (∀ p ∈ tl₀, p ∈ tl) → I n c h → Q .next { s with heap := h, toks := tk }) :
    wpAny (model prog w) A (pyIter (.ref r)) (fun it s₂ => TurnsAt prog w A g env (.Name x px) body Q E it s₂) E s := by
  refine wpAny_pyIter_range hr hsmall ?_
  have W : Walks prog w A s.heap.objs.size [s.heap.objs.size] [s.heap.objs.size] n (fun i v => i < n ∧ ∃ t, v = .int (a₀ + i * 1) t)
      (fun i h => IsRangeIter h s.heap.objs.size (a₀ + (i : Nat) * 1) ((n : Int) - (i : Nat)) 1) := (Walks.range hh _ a₀ 1 n).bound
  have hadr0 : ∀ b ∈ adr, b < s.heap.objs.size := fun b hb => by
    rw [← hadr c₀] at hb
    obtain ⟨p, hp, rfl⟩ := List.mem_map.mp hb
    exact Heap.lt_size (N p (List.mem_append.mpr (.inl hp))).1
  refine turns_walk Led ps I c₀ W (fun i v s Q E st q => wpAny_pure q) (.head _) (itc := .type "range_iterator") (by decide) (fun i h st => ?_) (next_is_new F) ?_ ?_ ?_ hnt hadr hst (F.push _) (fun p hp => ⟨Heap.get?_push_of_some _ (N p hp).1, (N p hp).2⟩) hO
    (fun p hp => Nat.ne_of_lt (Heap.lt_size (N p (List.mem_append.mpr (.inr hp))).1)) hps (hst _ _ _ _ (fun a us e => Heap.get?_push_of_some _ e) (fun a o _ _ _ e => Heap.get?_push_of_some _ e) hI) (fun i v c u h tk tl hi hv => ?_) done
  · exact ⟨_, st, rfl⟩
  · show IsRangeIter _ _ _ _ _; rw [hn]; simpa using Heap.get?_push_size _ rfl
  · intro hm
    exact absurd F.ns.lt ((List.mem_singleton.mp hm) ▸ Nat.lt_irrefl _)
  · intro b hb q
    rw [List.mem_singleton.mp hb] at q
    exact absurd (hadr0 _ q) (Nat.lt_irrefl _)
  · obtain ⟨_, t, rfl⟩ := hv
    rw [Int.mul_one]
    exact turn i t c u h tk tl hi
theorem turns_list {σ : Type} {target : Expr} {body : List Stmt} {m₀ : Str → Option Value} {l : Addr} {vs : List Value} {nn : Nat} {adr : List Addr} {tl₀ : List (Addr × Obj)} (Led : σ → List (Addr × Obj)) (ps : σ → List (Str × Value)) (I : Nat → σ → Heap → Prop) (c₀ : σ)
    (hh : A.handled = none) (hl : s.heap.get? l = some (listOf vs.toArray nn)) (hla : l ∉ adr)
    (hnt : ∀ c, ∀ p ∈ Led c, ∀ vs, p.2 ≠ tup vs) (hadr : ∀ c, (Led c).map (·.1) = adr) (hst : ∀ i c h h', TupKeep h h' → OKeep adr env.locals (.type "list_iterator") h h' → I i c h → I i c h')
    (F : Fr g env.locals s.heap m₀) (N : News g env.locals s.heap (Led c₀ ++ tl₀)) (hO : OwnOff tl₀ adr) (hps : ∀ p ∈ ps c₀, m₀ p.1 = some p.2) (hI : I 0 c₀ s.heap)
    (turn : ∀ i v c u h tk tl, vs[i]? = some v → Fr g env.locals h (pin (ps c) u) → News g env.locals h (Led c ++ tl) → OwnOff tl adr → Cov g env.locals adr h tl → TCov g h tl → (∀ p ∈ tl₀, p ∈ tl) → I i c h →
      wpAny (model prog w) A (assign target env v) (fun _ s₃ => wpAny (model prog w) A (execs body env) (FEnd g env.locals s Led ps I tl Q (i + 1)) E s₃) E { s with heap := h, toks := tk })
    (done : ∀ c u h tk tl, Fr g env.locals h (pin (ps c) u) → News g env.locals h (Led c ++ tl) → OwnOff tl adr → Cov g env.locals adr h tl → TCov g h tl → (∀ p ∈ tl₀, p ∈ tl) → I vs.length c h → Q .next { s with heap := h, toks := tk }) :
    wpAny (model prog w) A (pyIter (.ref l)) (fun it s₂ => TurnsAt prog w A g env target body Q E it s₂) E s := by
  have hls : s.heap.IsList l vs.toArray := ⟨_, hl, rfl, nn, rfl⟩
  have hne : l ≠ s.heap.objs.size := Nat.ne_of_lt (Heap.lt_size hl)
  have hadr0 : ∀ b ∈ adr, b < s.heap.objs.size := fun b hb => by
    rw [← hadr c₀] at hb
    obtain ⟨p, hp, rfl⟩ := List.mem_map.mp hb
    exact Heap.lt_size (N p (List.mem_append.mpr (.inl hp))).1
  refine wpAny_pyIter_list hls ?_
  have W := Walks.list (prog := prog) (w := w) hh s.heap.objs.size l hne vs.toArray
  have hlen : vs.toArray.size = vs.length := by simp
  rw [hlen] at W
  refine turns_walk Led ps I c₀ W (fun i v s Q E st q => letGo_listiter st.1 q) (.head _) (itc := .type "list_iterator") (by decide) (fun i h st => ?_) (next_is_new F) ⟨⟨_, Heap.get?_push_size _ rfl, rfl, rfl⟩, hls.at fun o e => Heap.get?_push_of_some _ e⟩ ?_ ?_ hnt hadr hst (F.push _) (fun p hp => ⟨Heap.get?_push_of_some _ (N p hp).1, (N p hp).2⟩) hO
    (fun p hp => Nat.ne_of_lt (Heap.lt_size (N p (List.mem_append.mpr (.inr hp))).1)) hps (hst _ _ _ _ (fun a us e => Heap.get?_push_of_some _ e) (fun a o _ _ _ e => Heap.get?_push_of_some _ e) hI) (fun i v c u h tk tl _ hv => turn i v c u h tk tl (by simpa using hv)) done
  · obtain ⟨⟨o, ho, hc, _⟩, _⟩ := st
    exact ⟨o, ho, hc⟩
  · intro hm
    rcases List.mem_cons.mp hm with e | hm
    · exact absurd F.ns.lt (e ▸ Nat.lt_irrefl _)
    · exact ns_ne F.ns hl (fun _ _ q => by cases q) (List.mem_singleton.mp hm)
  · intro b hb
    rcases List.mem_cons.mp hb with e | hb
    · exact fun q => absurd (hadr0 _ q) (e ▸ Nat.lt_irrefl _)
    · rw [List.mem_singleton.mp hb]; exact hla
end

end
section
/-- five addresses apart from three -/
inductive Apart (x d l c3 c1 c2 aL aP : Addr) : Prop
  | mk (_ : @Ne Nat x c2) (_ : @Ne Nat x aL) (_ : @Ne Nat x aP) (_ : @Ne Nat d c2) (_ : @Ne Nat d aL) (_ : @Ne Nat d aP) (_ : @Ne Nat l c2) (_ : @Ne Nat l aL) (_ : @Ne Nat l aP) (_ : @Ne Nat c3 c2) (_ : @Ne Nat c3 aL) (_ : @Ne Nat c3 aP) (_ : @Ne Nat c1 c2) (_ : @Ne Nat c1 aL) (_ : @Ne Nat c1 aP) (_ : @Ne Nat c2 aL) (_ : @Ne Nat c2 aP) (_ : @Ne Nat aL aP) : Apart x d l c3 c1 c2 aL aP
theorem notin3 {x a b c : Addr} (h : @Ne Nat x a ∧ @Ne Nat x b ∧ @Ne Nat x c) : x ∉ [a, b, c] := by
  simp only [List.mem_cons, List.not_mem_nil, or_false, not_or]
  exact h
inductive SegA (prog : Program) (w : World) (g : Heap) (L c1 c2 c3 : Addr) (h : Heap) : Prop
  | mk (x d : Addr) (es : List DictEntry) (nes : Nat) (aL aP : Addr) (oP : Obj) (l : Addr) (us : List Value) (n : Nat) (ns : List Int) (om ok or : Obj) (vm vk : Option Value) (tl : List (Addr × Obj)) (u : Str → Option Value)
    (_ : Fr g L h (fun y => if y = Str.ofString "design" then some (.ref x) else u y)) (_ : News g L h ((c2, ok) :: (aL, listOf #[] 0) :: (aP, oP) :: tl)) (_ : OwnOff tl [c2, aL, aP])
    (_ : (x, instObj 230 d) ∈ tl) (_ : (d, dictOf es nes) ∈ tl) (_ : (l, listOf us.toArray n) ∈ tl) (_ : (c3, om) ∈ tl) (_ : (c1, or) ∈ tl)
    (_ : getL (Str.ofString "signals") es = some (some (.ref aL))) (_ : getL (Str.ofString "by_path") es = some (some (.ref aP))) (_ : getL (Str.ofString "add_signal") es = some none) (_ : getL (Str.ofString "first") es = some none)
    (_ : oP.IsDictOf (PySem.strKind prog w) []) (_ : IntsAre us ns) (_ : ns.length ≤ 70) (_ : or.data = .cell (some (.ref l))) (_ : ok.data = .cell vk) (_ : om.data = .cell vm) (_ : Apart x d l c3 c1 c2 aL aP) : SegA prog w g L c1 c2 c3 h
theorem lawA {prog : Program} {w : World} {g h : Heap} {L aP l1 l2 l3 l4 l5 l6 l7 l8 aL x d l c3 c2 c1 : Addr} {m : Str → Option Value} {oP o1 o2 o3 o4 o5 o6 o7 o8 om ok or : Obj} {es : List DictEntry} {nes n : Nat} {us : List Value} {ns : List Int} {vm vk : Option Value}
    (F : Fr g L h m) (hm : m (Str.ofString "design") = some (.ref x))
    (N : News g L h [(aP, oP), (l1, o1), (l2, o2), (l3, o3), (l4, o4), (l5, o5), (l6, o6), (l7, o7), (l8, o8), (aL, listOf #[] 0), (x, instObj 230 d), (d, dictOf es nes), (l, listOf us.toArray n), (c3, om), (c2, ok), (c1, or)])
    (gs : getL (Str.ofString "signals") es = some (some (.ref aL))) (gp : getL (Str.ofString "by_path") es = some (some (.ref aP))) (ga : getL (Str.ofString "add_signal") es = some none) (gf : getL (Str.ofString "first") es = some none)
    (hP : oP.IsDictOf (PySem.strKind prog w) []) (hi : IntsAre us ns) (hl : ns.length ≤ 70) (h1 : or.data = .cell (some (.ref l))) (h2 : ok.data = .cell vk) (h3 : om.data = .cell vm) (ap : Apart x d l c3 c1 c2 aL aP) : SegA prog w g L c1 c2 c3 h := by
  obtain ⟨p1, p2, p3, p4, p5, p6, p7, p8, p9, p10, p11, p12, p13, p14, p15, p16, p17, p18⟩ := id ap
  have m2 := N (c2, ok) (by repeat (first | exact List.Mem.head _ | refine List.Mem.tail _ ?_))
  have mL := N (aL, listOf #[] 0) (by repeat (first | exact List.Mem.head _ | refine List.Mem.tail _ ?_))
  have mP := N (aP, oP) (by repeat (first | exact List.Mem.head _ | refine List.Mem.tail _ ?_))
  obtain ⟨tl, N1, O1, t1⟩ := regroup [(c2, ok), (aL, listOf #[] 0), (aP, oP)] (by
    intro p hp
    simp only [List.mem_cons, List.not_mem_nil, or_false] at hp
    rcases hp with rfl | rfl | rfl <;> assumption)
  refine ⟨x, d, es, nes, aL, aP, oP, l, us, n, ns, om, ok, or, vm, vk, tl, m, pin_fr F hm, N1, O1, ?_, ?_, ?_, ?_, ?_, gs, gp, ga, gf, hP, hi, hl, h1, h2, h3, ap⟩
  · have q := N (x, instObj 230 d) (by repeat (first | exact List.Mem.head _ | refine List.Mem.tail _ ?_))
    exact t1 _ q.1 q.2.2 q.2.1 (notin3 ⟨p1, p2, p3⟩)
  · have q := N (d, dictOf es nes) (by repeat (first | exact List.Mem.head _ | refine List.Mem.tail _ ?_))
    exact t1 _ q.1 q.2.2 q.2.1 (notin3 ⟨p4, p5, p6⟩)
  · have q := N (l, listOf us.toArray n) (by repeat (first | exact List.Mem.head _ | refine List.Mem.tail _ ?_))
    exact t1 _ q.1 q.2.2 q.2.1 (notin3 ⟨p7, p8, p9⟩)
  · have q := N (c3, om) (by repeat (first | exact List.Mem.head _ | refine List.Mem.tail _ ?_))
    exact t1 _ q.1 q.2.2 q.2.1 (notin3 ⟨p10, p11, p12⟩)
  · have q := N (c1, or) (by repeat (first | exact List.Mem.head _ | refine List.Mem.tail _ ?_))
    exact t1 _ q.1 q.2.2 q.2.1 (notin3 ⟨p13, p14, p15⟩)
theorem fresh_ne_L {g h : Heap} {L a : Addr} {m : Str → Option Value} (F : Fr g L h m) (e : h.get? a = none) : @Ne Nat a L := fun q => by
  obtain ⟨o, es, ep, ho, _⟩ := F.ns
  have q' : a = L := q
  rw [q', ho] at e
  cases e
theorem ns_cell {h : Heap} {L : Addr} {m : Str → Option Value} {o : Obj} (n : h.Ns L m) (e : h.get? L = some o) : ∃ es ep, o.data = .dict es ep := by
  obtain ⟨o', es, ep, ho, hd, _⟩ := n
  rw [ho] at e
  exact ⟨es, ep, by rw [← Option.some.inj e]; exact hd⟩
theorem Cov.keepX {g h h' : Heap} {L a : Addr} {o : Obj} {m : Str → Option Value} {adr : List Addr} {tl news : List (Addr × Obj)} (C : Cov g L adr h tl) (F : Fr g L h' m) (N : News g L h' news) (hs : ∀ p ∈ tl, p ∈ news) (h1 : a ∉ adr) (h2 : @Ne Nat a L) (e : h.get? a = some o) : h'.get? a = some o := by
  rcases C a o e with q | q | q | q
  · exact F.keep _ _ q
  · exact absurd q h2
  · exact absurd q h1
  · exact (N _ (hs _ q)).1
theorem listNT {its : Array Value} {n : Nat} : ∀ vs, listOf its n ≠ tup vs := fun vs q => absurd (congrArg Obj.cls q) (by show ¬ (Value.type "list" = Value.type "tuple"); decide)
theorem cellNT {o : Obj} {v : Option Value} (h : o.data = .cell v) : ∀ vs, o ≠ tup vs := fun vs q => by
  have := congrArg Obj.data q
  rw [h] at this
  cases this
theorem clsNT {o : Obj} (h : o.cls = .type "dict") : ∀ vs, o ≠ tup vs := fun vs q => by
  have := congrArg Obj.cls q
  rw [h] at this
  exact absurd this (by show ¬ (Value.type "dict" = Value.type "tuple"); decide)
theorem afterX {P : Prop} {g h h' : Heap} {L : Addr} {m : Str → Option Value} {news : List (Addr × Obj)} {nf : List (Addr × Obj) → List (Addr × Obj)} {S : List (Addr × Obj)} (Sw : Swap S news nf)
    (F : Fr g L h m) (N : News g L h news) (K : Kept (S.map (·.1)) h h') (hS : ∀ p ∈ S, h'.get? p.1 = some p.2) (hSN : ∀ p ∈ S, g.get? p.1 = none ∧ p.1 ≠ L)
    (hnt : ∀ p ∈ nf [], ∀ vs, p.2 ≠ tup vs)
    (k : ∀ tl, Fr g L h' m → News g L h' (nf tl) → OwnOff tl ((nf []).map (·.1)) → Cov g L ((nf []).map (·.1)) h' tl → TCov g h' tl → (∀ p ∈ news, p.1 ∉ S.map (·.1) → p.1 ∉ (nf []).map (·.1) → p ∈ tl) → P) : P := by
  have F' : Fr g L h' m := K.fr F fun b hb => by
    obtain ⟨p, hp, rfl⟩ := List.mem_map.mp hb
    exact hSN p hp
  have N0 : News g L h' (nf []) := fun p hp => by
    rcases Sw.from p hp with q | ⟨q, n⟩
    · exact ⟨hS p q, (hSN p q).2, (hSN p q).1⟩
    · exact ⟨K _ _ (fun hb => by
        obtain ⟨p', hp', e⟩ := List.mem_map.mp hb
        exact n p' hp' e) (N p q).1, (N p q).2⟩
  refine k (Rest g h' L ((nf []).map (·.1))) F' ?_ ?_ (cov_Rest F' _) ?_ ?_
  · rw [Sw.app]
    intro p hp
    rcases List.mem_append.mp hp with q | q
    · exact N0 p q
    · obtain ⟨a, b, c, _⟩ := mem_Rest.mp q
      exact ⟨a, c, b⟩
  · intro p hp b hb e
    exact (mem_Rest.mp hp).2.2.2 (e ▸ hb)
  · intro a vs e
    rcases cov_Rest F' ((nf []).map (·.1)) a _ e with q | q | q | q
    · exact .inl q
    · subst q; exact (ns_not_tup F'.ns e).elim
    · obtain ⟨p, hp, rfl⟩ := List.mem_map.mp q
      have h1 := (N0 p hp).1
      have e' : h'.get? p.1 = some (tup vs) := e
      rw [e'] at h1
      exact (hnt _ hp _ (Option.some.inj h1).symm).elim
    · exact .inr q
  · intro p hp n1 n2
    exact mem_Rest.mpr ⟨K _ _ n1 (N p hp).1, (N p hp).2.2, (N p hp).2.1, n2⟩
/-! the loop that makes the signals -/
noncomputable abbrev CellO := { o : Obj // ∃ v, o.data = Data.cell v }
noncomputable abbrev DictO := { o : Obj // o.cls = Value.type "dict" }
noncomputable abbrev L1S := CellO × List (Addr × Addr) × Nat × DictO
noncomputable def sigVs (ys : List (Addr × Addr)) : List Value := ys.map fun p => Value.ref p.1
noncomputable abbrev led1 (c2 aL aP : Addr) (c : L1S) : List (Addr × Obj) := [(c2, c.1.1), (aL, listOf (sigVs c.2.1).toArray c.2.2.1), (aP, c.2.2.2.1)]
structure SigOk (g : Heap) (L : Addr) (adr : List Addr) (h : Heap) (p : Addr × Addr) (k : Int) (f l : Value) : Prop where
  at_ : ∃ es n, InstAt h p.1 (instObj 167 p.2) 167 (some (dictOf es n)) ∧ SigEs es k f l
  y : p.1 ∉ adr ∧ @Ne Nat p.1 L ∧ g.get? p.1 = none
  d : p.2 ∉ adr ∧ @Ne Nat p.2 L ∧ g.get? p.2 = none
theorem inst_by {h h' : Heap} {x C dx : Addr} {od : Obj} (h1 : h.get? x = some (instObj C dx) → h'.get? x = some (instObj C dx)) (h2 : h.get? dx = some od → h'.get? dx = some od) (I : InstAt h x (instObj C dx) C (some od)) : InstAt h' x (instObj C dx) C (some od) :=
  ⟨h1 I.at_, rfl, I.no, h2 I.dict⟩
theorem SigOk.okeep {g : Heap} {L : Addr} {adr : List Addr} {h h' : Heap} {itc : Value} {p : Addr × Addr} {k : Int} {f l : Value} (o : OKeep adr L itc h h') (h1 : itc ≠ .ref 167) (h2 : itc ≠ .type "dict") (s : SigOk g L adr h p k f l) : SigOk g L adr h' p k f l := by
  obtain ⟨⟨es, n, i, se⟩, y, d⟩ := s
  exact ⟨⟨es, n, inst_by (fun e => o _ _ y.1 y.2.1 (fun q => h1 q.symm) e) (fun e => o _ _ d.1 d.2.1 (fun q => h2 q.symm) e) i, se⟩, y, d⟩
theorem SigOk.cov {g : Heap} {L : Addr} {adr : List Addr} {h h' : Heap} {m : Str → Option Value} {tl news : List (Addr × Obj)} {p : Addr × Addr} {k : Int} {f l : Value} (C : Cov g L adr h tl) (F : Fr g L h' m) (N : News g L h' news) (hs : ∀ p ∈ tl, p ∈ news) (s : SigOk g L adr h p k f l) : SigOk g L adr h' p k f l := by
  obtain ⟨⟨es, n, i, se⟩, y, d⟩ := s
  exact ⟨⟨es, n, inst_by (fun e => C.keepX F N hs y.1 y.2.1 e) (fun e => C.keepX F N hs d.1 d.2.1 e) i, se⟩, y, d⟩
theorem dk_cls {K : Type} [DecidableEq K] {prog : Program} {w : World} {knd : KeyKind prog w K} {o : Obj} {kvs : List (K × Value)} (h : o.IsDictOf knd kvs) : o.cls = .type "dict" := by
  obtain ⟨_, _, h, _⟩ := h
  exact h.1
noncomputable def inv1 (prog : Program) (w : World) (g : Heap) (L : Addr) (adr : List Addr) (i : Nat) (c : L1S) (h : Heap) : Prop :=
  c.2.1.length = i ∧ (∀ (j : Nat) p, c.2.1[j]? = some p → SigOk g L adr h p (j : Int) .none .none) ∧ (c.2.1.map (·.2)).Nodup ∧
  ∃ kvs D, c.2.2.2.1.IsDictOf (PySem.strKind prog w) kvs ∧ PyProof.V.FlatPairs PyData.str kvs D ∧ kvs.length ≤ i
theorem inv1_st {prog : Program} {w : World} {g : Heap} {L : Addr} {adr : List Addr} (i : Nat) (c : L1S) (h h' : Heap) (_ : TupKeep h h') (o : OKeep adr L (.type "range_iterator") h h') (x : inv1 prog w g L adr i c h) : inv1 prog w g L adr i c h' :=
  ⟨x.1, fun j p e => (x.2.1 j p e).okeep o (fun q => by cases q) (by decide), x.2.2⟩
theorem led1_nt (c2 aL aP : Addr) (c : L1S) : ∀ p ∈ led1 c2 aL aP c, ∀ vs, p.2 ≠ tup vs := by
  intro p hp
  simp only [List.mem_cons, List.not_mem_nil, or_false] at hp
  rcases hp with rfl | rfl | rfl
  · obtain ⟨v, e⟩ := c.1.2; exact cellNT e
  · exact listNT
  · exact clsNT c.2.2.2.2
section
variable {prog : Program} {w : World} {A : Around} {E : Value → Shared → Prop} {Q : Flow → Shared → Prop} {s : Shared} {env : Env} {g : Heap}
theorem loop1 {kx : Str} {px : Pos} {body : List Stmt} {m₀ : Str → Option Value} {r x c2 aL aP : Addr} {t₀ u₀ v₀ : Tok} {tl₀ : List (Addr × Obj)} {ok oP : Obj} {vk : Option Value}
    (hh : A.handled = none) (hr : IsRange s.heap r 0 5 1 t₀ u₀ v₀) (F : Fr g env.locals s.heap m₀) (N : News g env.locals s.heap ((c2, ok) :: (aL, listOf #[] 0) :: (aP, oP) :: tl₀)) (hO : OwnOff tl₀ [c2, aL, aP])
    (hm : m₀ (Str.ofString "design") = some (.ref x)) (e2 : ok.data = .cell vk) (hP : oP.IsDictOf (PySem.strKind prog w) [])
    (turn : ∀ i t (c : L1S) u h tk tl, i < 5 → Fr g env.locals h (pin [(Str.ofString "design", .ref x)] u) → News g env.locals h (led1 c2 aL aP c ++ tl) → OwnOff tl [c2, aL, aP] → Cov g env.locals [c2, aL, aP] h tl → TCov g h tl → (∀ p ∈ tl₀, p ∈ tl) → inv1 prog w g env.locals [c2, aL, aP] i c h →
      wpAny (model prog w) A (assign (.Name kx px) env (.int (0 + (i : Int)) t)) (fun _ s₃ => wpAny (model prog w) A (execs body env) (FEnd g env.locals s (led1 c2 aL aP) (fun _ => [(Str.ofString "design", .ref x)]) (inv1 prog w g env.locals [c2, aL, aP]) tl Q (i + 1)) E s₃) E { s with heap := h, toks := tk })
    (done : ∀ (c : L1S) u h tk tl, Fr g env.locals h (pin [(Str.ofString "design", .ref x)] u) → News g env.locals h (led1 c2 aL aP c ++ tl) → OwnOff tl [c2, aL, aP] → Cov g env.locals [c2, aL, aP] h tl → TCov g h tl → (∀ p ∈ tl₀, p ∈ tl) → inv1 prog w g env.locals [c2, aL, aP] 5 c h → Q .next { s with heap := h, toks := tk }) :
    wpAny (model prog w) A (pyIter (.ref r)) (fun it s₂ => TurnsAt prog w A g env (.Name kx px) body Q E it s₂) E s :=
  turns_range (n := 5) (tl₀ := tl₀) (led1 c2 aL aP) (fun _ => [(Str.ofString "design", .ref x)]) (inv1 prog w g env.locals [c2, aL, aP]) (⟨ok, _, e2⟩, [], 0, ⟨oP, (dk_cls hP)⟩) hh hr (by decide) (by decide) (led1_nt c2 aL aP) (fun _ => rfl) inv1_st F N hO (all_one hm)
    ⟨rfl, fun j p q => by simp at q, List.nodup_nil, [], [], hP, .nil, Nat.zero_le _⟩ turn done
end
theorem sigVs_snoc (ys : List (Addr × Addr)) (y yd : Addr) : sigVs (ys ++ [(y, yd)]) = sigVs ys ++ [Value.ref y] := by simp [sigVs]
theorem loop1_step {prog : Program} {w : World} {g h3 hc h4 : Heap} {L c2 aL aP y yd : Addr} {m7 m4 : Str → Option Value} {tl3 tl4 : List (Addr × Obj)} {i n' k' : Nat} {ys : List (Addr × Addr)} {o oL oP oL' o' : Obj} {vk : Option Value} {kvs kvs' : List (Str × Value)} {D' : List (PyData × PyData)} {es' : List DictEntry}
    (hyl : ys.length = i) (hys : ∀ (j : Nat) p, ys[j]? = some p → SigOk g L [c2, aL, aP] h3 p (j : Int) .none .none) (hnd : (ys.map (·.2)).Nodup) (hkl : kvs.length ≤ i)
    (C2 : Cov g L [c2, aL, aP] h3 tl3) (F7 : Fr g L hc m7) (N7 : News g L hc ((c2, o) :: (aL, oL) :: (aP, oP) :: tl3)) (fy : hc.get? y = none) (fyd : hc.get? yd = none)
    (F4 : Fr g L h4 m4) (N4 : News g L h4 ((c2, o) :: (aL, oL') :: (aP, o') :: tl4)) (hs4 : ∀ p ∈ tl3, p ∈ tl4)
    (iy : InstAt h4 y (instObj 167 yd) 167 (some (dictOf es' k'))) (se : SigEs es' (sigVs ys).length .none .none) (d' : o.data = .cell vk) (hd' : o'.IsDictOf (PySem.strKind prog w) kvs') (hf' : PyProof.V.FlatPairs PyData.str kvs' D') (hk' : kvs'.length ≤ kvs.length + 1) :
    inv1 prog w g L [c2, aL, aP] (i + 1) (⟨o, vk, d'⟩, ys ++ [(y, yd)], n', ⟨o', dk_cls hd'⟩) h4 := by
  have adrF : ∀ {b : Addr}, hc.get? b = none → b ∉ [c2, aL, aP] := fun fb q => by
    simp only [List.mem_cons, List.not_mem_nil, or_false] at q
    rcases q with rfl | rfl | rfl
    · have := (N7 _ (.head _)).1; rw [fb] at this; cases this
    · have := (N7 _ (.tail _ (.head _))).1; rw [fb] at this; cases this
    · have := (N7 _ (.tail _ (.tail _ (.head _)))).1; rw [fb] at this; cases this
  have old : ∀ (j : Nat) p, ys[j]? = some p → SigOk g L [c2, aL, aP] h4 p (j : Int) .none .none := fun j p e => (hys j p e).cov C2 F4 N4 fun q hq => .tail _ (.tail _ (.tail _ (hs4 q hq)))
  have oldc : ∀ (j : Nat) p, ys[j]? = some p → SigOk g L [c2, aL, aP] hc p (j : Int) .none .none := fun j p e => (hys j p e).cov C2 F7 N7 fun q hq => .tail _ (.tail _ (.tail _ hq))
  refine ⟨by rw [← hyl]; simp, fun j p e => ?_, ?_, kvs', D', hd', hf', by omega⟩
  · by_cases hj : j < ys.length
    · rw [List.getElem?_append_left hj] at e
      exact old j p e
    · rw [List.getElem?_append_right (by omega)] at e
      have hj0 : j - ys.length = 0 := by
        cases q : j - ys.length with
        | zero => rfl
        | succ z => rw [q] at e; simp at e
      rw [hj0] at e
      have ep : (y, yd) = p := by simpa using e
      subst ep
      have ej : (j : Int) = ((sigVs ys).length : Int) := by simp [sigVs]; omega
      rw [ej]
      exact ⟨⟨es', k', iy, se⟩, ⟨adrF fy, fresh_ne_L F7 fy, old_none F7 fy⟩, adrF fyd, fresh_ne_L F7 fyd, old_none F7 fyd⟩
  · rw [List.map_append]
    refine List.nodup_append.mpr ⟨hnd, by simp, ?_⟩
    intro a ha b hb q
    simp only [List.map_cons, List.map_nil, List.mem_singleton] at hb
    subst hb; subst q
    obtain ⟨p, hp, ep⟩ := List.mem_map.mp ha
    obtain ⟨j, hj⟩ := List.getElem?_of_mem hp
    obtain ⟨⟨es, n, I, _⟩, _, _⟩ := oldc j p hj
    have h1 : hc.get? p.2 = some _ := I.dict
    rw [ep, fyd] at h1
    cases h1
theorem news_none {g h : Heap} {L a : Addr} {o : Obj} {news : List (Addr × Obj)} (N : News g L h news) (hm : (a, o) ∈ news) : g.get? a = none ∧ a ≠ L := ⟨(N _ hm).2.2, (N _ hm).2.1⟩
theorem ne_get {h : Heap} {a b : Addr} {o o' : Obj} (e1 : h.get? a = some o) (e2 : h.get? b = some o') (n : o ≠ o') : @Ne Nat a b := fun q => by
  have q' : a = b := q
  rw [q', e2] at e1
  exact n (Option.some.inj e1).symm
theorem clsNE {o o' : Obj} (h : o.cls ≠ o'.cls) : o ≠ o' := fun q => h (congrArg Obj.cls q)
theorem cellNE {o o' : Obj} {v : Option Value} (h : o'.data = .cell v) (h2 : ∀ v, o.data ≠ .cell v) : o ≠ o' := fun q => h2 v (by rw [q]; exact h)
theorem dictNE {es es' : List DictEntry} {n n' : Nat} {name : Str} {a b : Option (Option Value)} (h1 : getL name es = a) (h2 : getL name es' = b) (ne : a ≠ b) : dictOf es n ≠ dictOf es' n' := fun q => by
  have h3 : Data.dict es.toArray n = Data.dict es'.toArray n' := congrArg Obj.data q
  have h4 : es.toArray = es'.toArray := by injection h3
  have h5 : es = es' := by simpa using h4
  rw [← h5, h1] at h2
  exact ne h2
theorem notin4 {a b1 b2 b3 b4 : Addr} (n1 : @Ne Nat a b1) (n2 : @Ne Nat a b2) (n3 : @Ne Nat a b3) (n4 : @Ne Nat a b4) : a ∉ [b1, b2, b3, b4] := by
  simp only [List.mem_cons, List.not_mem_nil, or_false, not_or]
  exact ⟨n1, n2, n3, n4⟩
theorem len5 {α : Type} {l : List α} (h : l.length = 5) : ∃ a b c d e, l = [a, b, c, d, e] := by
  rcases l with _ | ⟨a, _ | ⟨b, _ | ⟨c, _ | ⟨d, _ | ⟨e, _ | ⟨f, l⟩⟩⟩⟩⟩⟩ <;> simp at h
  exact ⟨a, b, c, d, e, rfl⟩
inductive SegB (g : Heap) (L x c1 c2 c3 : Addr) (h : Heap) : Prop
  | mk (d : Addr) (es : List DictEntry) (nes : Nat) (aL : Addr) (nL : Nat) (l : Addr) (us : List Value) (n : Nat) (ns : List Int) (om or ck : Obj) (vm vk : Option Value) (y0 d0 y1 d1 y2 d2 y3 d3 y4 d4 : Addr) (es0 es1 es2 es3 es4 : List DictEntry) (n0 n1 n2 n3 n4 : Nat) (tl : List (Addr × Obj)) (u : Str → Option Value)
    (_ : Fr g L h (fun y => if y = Str.ofString "design" then some (.ref x) else u y)) (_ : News g L h ((c2, ck) :: (l, listOf us.toArray n) :: (d3, dictOf es3 n3) :: (d4, dictOf es4 n4) :: tl)) (_ : OwnOff tl [c2, l, d3, d4])
    (_ : (x, instObj 230 d) ∈ tl) (_ : (d, dictOf es nes) ∈ tl) (_ : (aL, listOf (List.toArray [Value.ref y0, .ref y1, .ref y2, .ref y3, .ref y4]) nL) ∈ tl) (_ : (c3, om) ∈ tl) (_ : (c1, or) ∈ tl)
    (_ : (y0, instObj 167 d0) ∈ tl) (_ : (d0, dictOf es0 n0) ∈ tl) (_ : (y1, instObj 167 d1) ∈ tl) (_ : (d1, dictOf es1 n1) ∈ tl) (_ : (y2, instObj 167 d2) ∈ tl) (_ : (d2, dictOf es2 n2) ∈ tl) (_ : (y3, instObj 167 d3) ∈ tl) (_ : (y4, instObj 167 d4) ∈ tl)
    (_ : SigEs es0 0 .none .none) (_ : SigEs es1 1 .none .none) (_ : SigEs es2 2 .none .none) (_ : SigEs es3 3 .none .none) (_ : SigEs es4 4 .none .none)
    (_ : getL (Str.ofString "signals") es = some (some (.ref aL))) (_ : IntsAre us ns) (_ : ns.length ≤ 70) (_ : or.data = .cell (some (.ref l))) (_ : ck.data = .cell vk) (_ : om.data = .cell vm)
    (_ : @Ne Nat c2 l) (_ : @Ne Nat c2 d3) (_ : @Ne Nat c2 d4) (_ : @Ne Nat l d3) (_ : @Ne Nat l d4) (_ : @Ne Nat d3 d4) : SegB g L x c1 c2 c3 h
theorem lawB {g h : Heap} {L x d c1 c2 c3 aL aP l : Addr} {u : Str → Option Value} {ck oP om or : Obj} {es : List DictEntry} {nes yn n : Nat} {ys : List (Addr × Addr)} {us : List Value} {ns : List Int} {vm vk : Option Value} {tl : List (Addr × Obj)}
    (F : Fr g L h (fun y => if y = Str.ofString "design" then some (.ref x) else u y)) (N : News g L h ((c2, ck) :: (aL, listOf (sigVs ys).toArray yn) :: (aP, oP) :: tl)) (e2 : ck.data = .cell vk)
    (mx : (x, instObj 230 d) ∈ tl) (md : (d, dictOf es nes) ∈ tl) (ml : (l, listOf us.toArray n) ∈ tl) (m3 : (c3, om) ∈ tl) (m1 : (c1, or) ∈ tl)
    (gs : getL (Str.ofString "signals") es = some (some (.ref aL))) (gf : getL (Str.ofString "first") es = some none) (hi : IntsAre us ns) (hl : ns.length ≤ 70) (e1 : or.data = .cell (some (.ref l))) (e3 : om.data = .cell vm)
    (hyl : ys.length = 5) (hys : ∀ (j : Nat) p, ys[j]? = some p → SigOk g L [c2, aL, aP] h p (j : Int) .none .none) (q8 : @Ne Nat l aL) (q10 : @Ne Nat c3 c2) (q13 : @Ne Nat c1 c2) : SegB g L x c1 c2 c3 h := by
  obtain ⟨⟨y0, d0⟩, ⟨y1, d1⟩, ⟨y2, d2⟩, ⟨y3, d3⟩, ⟨y4, d4⟩, rfl⟩ := len5 hyl
  obtain ⟨⟨es0, n0, i0, s0⟩, a0, b0⟩ := hys 0 _ rfl
  obtain ⟨⟨es1, n1, i1, s1⟩, a1, b1⟩ := hys 1 _ rfl
  obtain ⟨⟨es2, n2, i2, s2⟩, a2, b2⟩ := hys 2 _ rfl
  obtain ⟨⟨es3, n3, i3, s3⟩, a3, b3⟩ := hys 3 _ rfl
  obtain ⟨⟨es4, n4, i4, s4⟩, a4, b4⟩ := hys 4 _ rfl
  have up : ∀ p ∈ tl, h.get? p.1 = some p.2 ∧ p.1 ≠ L ∧ g.get? p.1 = none := fun p hp => N p (.tail _ (.tail _ (.tail _ hp)))
  have g2 := N _ (.head _)
  have gl := up _ ml
  have gL := N (aL, _) (.tail _ (.head _))
  have t3 : h.get? d3 = some (dictOf es3 n3) := i3.dict
  have t4 : h.get? d4 = some (dictOf es4 n4) := i4.dict
  have dd : ∀ {e e' : List DictEntry} {m m' : Nat} {k k' : Int}, SigEs e k .none .none → SigEs e' k' .none .none → k ≠ k' → dictOf e m ≠ dictOf e' m' := fun z z' ne => by
    obtain ⟨⟨t, h1⟩, _⟩ := z
    obtain ⟨⟨t', h2⟩, _⟩ := z'
    refine dictNE h1 h2 fun q => ne ?_
    injection q with q
    injection q with q
    injection q with q
  have cN : ∀ {o : Obj}, (∀ v, o.data ≠ .cell v) → o ≠ ck := fun z => cellNE e2 z
  have nI : ∀ {y C dy : Addr}, h.get? y = some (instObj C dy) → y ∉ [c2, l, d3, d4] := fun e =>
    notin4 (ne_get e g2.1 (cN fun v q => by cases q)) (ne_get e gl.1 (clsNE fun q => by cases q)) (ne_get e t3 (clsNE fun q => by cases q)) (ne_get e t4 (clsNE fun q => by cases q))
  have nD : ∀ {y : Addr} {e : List DictEntry} {m : Nat}, h.get? y = some (dictOf e m) → dictOf e m ≠ dictOf es3 n3 → dictOf e m ≠ dictOf es4 n4 → y ∉ [c2, l, d3, d4] := fun e z1 z2 =>
    notin4 (ne_get e g2.1 (cN fun v q => by cases q)) (ne_get e gl.1 (clsNE (by show ¬ (Value.type "dict" = Value.type "list"); decide))) (ne_get e t3 z1) (ne_get e t4 z2)
  have nC : ∀ {y : Addr} {o : Obj} {v : Option Value}, h.get? y = some o → o.data = .cell v → @Ne Nat y c2 → y ∉ [c2, l, d3, d4] := fun e z z2 =>
    notin4 z2 (ne_get gl.1 e (cellNE z fun v q => by cases q)).symm (ne_get t3 e (cellNE z fun v q => by cases q)).symm (ne_get t4 e (cellNE z fun v q => by cases q)).symm
  have lD : ∀ {y : Addr} {e : List DictEntry} {m : Nat}, h.get? y = some (dictOf e m) → @Ne Nat l y := fun e => ne_get gl.1 e (clsNE (by show ¬ (Value.type "list" = Value.type "dict"); decide))
  obtain ⟨tl', N1, O1, t1⟩ := regroup (g := g) (h := h) (L := L) [(c2, ck), (l, listOf us.toArray n), (d3, dictOf es3 n3), (d4, dictOf es4 n4)] (by
    intro p hp
    simp only [List.mem_cons, List.not_mem_nil, or_false] at hp
    rcases hp with rfl | rfl | rfl | rfl
    · exact g2
    · exact gl
    · exact ⟨t3, b3.2.1, b3.2.2⟩
    · exact ⟨t4, b4.2.1, b4.2.2⟩)
  refine ⟨d, es, nes, aL, yn, l, us, n, ns, om, or, ck, vm, vk, y0, d0, y1, d1, y2, d2, y3, d3, y4, d4, es0, es1, es2, es3, es4, n0, n1, n2, n3, n4, tl', u, F, N1, O1, ?_, ?_, ?_, ?_, ?_, ?_, ?_, ?_, ?_, ?_, ?_, ?_, ?_, s0, s1, s2, s3, s4, gs, hi, hl, e1, e2, e3, (ne_get gl.1 g2.1 (cN fun v q => by cases q)).symm, (ne_get t3 g2.1 (cN fun v q => by cases q)).symm, (ne_get t4 g2.1 (cN fun v q => by cases q)).symm, lD t3, lD t4, ne_get t3 t4 (dd s3 s4 (by decide))⟩
  · have q := up _ mx; exact t1 _ q.1 q.2.2 q.2.1 (nI q.1)
  · have q := up _ md; exact t1 _ q.1 q.2.2 q.2.1 (nD q.1 (dictNE gf s3.first (by intro q; cases q)) (dictNE gf s4.first (by intro q; cases q)))
  · exact t1 _ gL.1 gL.2.2 gL.2.1 (notin4 (ne_get gL.1 g2.1 (cN fun v q => by cases q)) (fun q => q8 q.symm) (ne_get gL.1 t3 (clsNE (by show ¬ (Value.type "list" = Value.type "dict"); decide))) (ne_get gL.1 t4 (clsNE (by show ¬ (Value.type "list" = Value.type "dict"); decide))))
  · have q := up _ m3; exact t1 _ q.1 q.2.2 q.2.1 (nC q.1 e3 q10)
  · have q := up _ m1; exact t1 _ q.1 q.2.2 q.2.1 (nC q.1 e1 q13)
  · exact t1 (y0, _) i0.at_ a0.2.2 a0.2.1 (nI i0.at_)
  · exact t1 (d0, dictOf es0 n0) i0.dict b0.2.2 b0.2.1 (nD i0.dict (dd s0 s3 (by decide)) (dd s0 s4 (by decide)))
  · exact t1 (y1, _) i1.at_ a1.2.2 a1.2.1 (nI i1.at_)
  · exact t1 (d1, dictOf es1 n1) i1.dict b1.2.2 b1.2.1 (nD i1.dict (dd s1 s3 (by decide)) (dd s1 s4 (by decide)))
  · exact t1 (y2, _) i2.at_ a2.2.2 a2.2.1 (nI i2.at_)
  · exact t1 (d2, dictOf es2 n2) i2.dict b2.2.2 b2.2.1 (nD i2.dict (dd s2 s3 (by decide)) (dd s2 s4 (by decide)))
  · exact t1 (y3, _) i3.at_ a3.2.2 a3.2.1 (nI i3.at_)
  · exact t1 (y4, _) i4.at_ a4.2.2 a4.2.1 (nI i4.at_)

end
section
theorem isStr_two {v : Value} {a b : Str} (h : v.isStr a = true) (ne : a ≠ b) : v.isStr b = false := by
  cases v <;> simp [Value.isStr] at h ⊢
  rw [h]; exact ne
theorem fpos {name : Str} {e : DictEntry} {r : List DictEntry} (q : e.key.isStr name = true) : List.find? (fun x : DictEntry => x.key.isStr name) (e :: r) = some e := List.find?_cons_of_pos (p := fun x : DictEntry => x.key.isStr name) q
theorem fneg {name : Str} {e : DictEntry} {r : List DictEntry} (q : ¬ e.key.isStr name = true) : List.find? (fun x : DictEntry => x.key.isStr name) (e :: r) = List.find? (fun x : DictEntry => x.key.isStr name) r := List.find?_cons_of_neg (p := fun x : DictEntry => x.key.isStr name) q
theorem getL_tail {name : Str} {e : DictEntry} {r : List DictEntry} {f : Value} (q : ¬ e.key.isStr name = true) (h : getL name (e :: r) = some (some f)) : getL name r = some (some f) := by
  unfold getL at h ⊢
  rw [fneg q] at h
  cases hr : List.find? (fun x : DictEntry => x.key.isStr name) r with
  | some e' => rw [hr] at h; exact h
  | none => rw [hr] at h; simp only at h; split at h <;> cases h
theorem putL_any (name : Str) (hsh : Int) (key v : Value) : ∀ {es : List DictEntry} {f : Value}, getL name es = some (some f) → (putL name hsh key v es).any (·.refKey) = es.any (·.refKey)
  | [], f, h => by cases h
  | e :: r, f, h => by
    unfold putL
    by_cases q : e.key.isStr name = true
    · rw [if_pos q]; rfl
    · rw [if_neg q]
      have h' := getL_tail q h
      simp only [List.any_cons, putL_any name hsh key v h']
theorem getL_same (name : Str) (hsh : Int) (key v : Value) : ∀ {es : List DictEntry} {f : Value}, getL name es = some (some f) → getL name (putL name hsh key v es) = some (some v)
  | [], f, h => by cases h
  | e :: r, f, h => by
    unfold putL
    by_cases q : e.key.isStr name = true
    · rw [if_pos q]
      unfold getL
      rw [fpos (by exact q)]
    · rw [if_neg q]
      have h' := getL_tail q h
      have ih := getL_same name hsh key v h'
      unfold getL at ih ⊢
      rw [fneg q]
      cases hr : List.find? (fun x : DictEntry => x.key.isStr name) (putL name hsh key v r) with
      | some e' => rw [hr] at ih; exact ih
      | none => rw [hr] at ih; simp only at ih; split at ih <;> cases ih
theorem find_other (name name' : Str) (hsh : Int) (key v : Value) (ne : name' ≠ name) : ∀ {es : List DictEntry} {f : Value}, getL name' es = some (some f) → (putL name' hsh key v es).find? (·.key.isStr name) = es.find? (·.key.isStr name)
  | [], f, h => by cases h
  | e :: r, f, h => by
    unfold putL
    by_cases q : e.key.isStr name' = true
    · rw [if_pos q]
      have n1 := isStr_two q ne
      rw [fneg (by show ¬ e.key.isStr name = true; rw [n1]; decide), fneg (by rw [n1]; decide)]
    · rw [if_neg q]
      have h' := getL_tail q h
      have ih := find_other name name' hsh key v ne h'
      by_cases q2 : e.key.isStr name = true
      · rw [fpos q2, fpos q2]
      · rw [fneg q2, fneg q2, ih]
theorem getL_other {name name' : Str} {hsh : Int} {key v f : Value} {es : List DictEntry} (ne : name' ≠ name) (h : getL name' es = some (some f)) : getL name (putL name' hsh key v es) = getL name es := by
  unfold getL
  rw [find_other name name' hsh key v ne h, putL_any name' hsh key v h]
theorem putL_len (name : Str) (hsh : Int) (key v : Value) : ∀ {es : List DictEntry} {f : Value}, getL name es = some (some f) → (putL name hsh key v es).length = es.length
  | [], f, h => by cases h
  | e :: r, f, h => by
    unfold putL
    by_cases q : e.key.isStr name = true
    · rw [if_pos q]; rfl
    · rw [if_neg q]
      have h' := getL_tail q h
      simp only [List.length_cons, putL_len name hsh key v h']
theorem SigEs.putFirst {es : List DictEntry} {k : Int} {f l v : Value} {hsh : Int} {key : Value} (s : SigEs es k f l) : SigEs (putL (Str.ofString "first") hsh key v es) k v l := by
  obtain ⟨⟨t1, h1⟩, ⟨t2, h2⟩, h3, h4, h5, h6, h7⟩ := s
  refine ⟨⟨t1, ?_⟩, ⟨t2, ?_⟩, getL_same _ _ _ _ h3, ?_, ?_, ?_, by rw [putL_len _ _ _ _ h3]; exact h7⟩
  all_goals (rw [getL_other (by decide) h3]; assumption)
theorem SigEs.putLast {es : List DictEntry} {k : Int} {f l v : Value} {hsh : Int} {key : Value} (s : SigEs es k f l) : SigEs (putL (Str.ofString "last") hsh key v es) k f v := by
  obtain ⟨⟨t1, h1⟩, ⟨t2, h2⟩, h3, h4, h5, h6, h7⟩ := s
  refine ⟨⟨t1, ?_⟩, ⟨t2, ?_⟩, ?_, getL_same _ _ _ _ h4, ?_, ?_, by rw [putL_len _ _ _ _ h4]; exact h7⟩
  all_goals (rw [getL_other (by decide) h4]; assumption)
section
variable {prog : Program} {w : World} {A : Around} {E : Value → Shared → Prop} {s : Shared} {K : Frag} {x dx L a : Addr} {h₀ : Heap} {m : Str → Option Value} {news : List (Addr × Obj)} {g : Obj → List (Addr × Obj)} {es : List DictEntry} {n nn : Nat} {vs : List Value} {k : Int} {v f l r : Value} {u : Tok} {value slice : PySem.Expr}
theorem updF_upd {d : Addr} {o o' : Obj} : ∀ {news : List (Addr × Obj)} {g : Obj → List (Addr × Obj)}, UpdF d o news g → Upd d o o' news (g o')
  | _, _, .head h => .head h
  | _, _, .tail h r => .tail h (updF_upd r)
theorem set_first {Q : Unit → Shared → Prop} (F : Fr h₀ L s.heap m) (X₀ : K.In h₀) (N : News h₀ L s.heap news) (I : InstAt s.heap x (instObj 167 dx) 167 (some (dictOf es n))) (se : SigEs es k f l)
    (hs : findIn K (.ref 167) "__setattr__" = some (some (.builtin "object.__setattr__"))) (hp : plainOver K 167 = true) (ht : takerIn K 167 (Str.ofString "first") = some none) (hh : hasDictIn K 167 = true) (U : UpdF dx (dictOf es n) news g)
    (h : ∀ h' es' n', Fr h₀ L h' m → News h₀ L h' (g (dictOf es' n')) → SigEs es' k v l → Q () { s with heap := h', toks := s.toks + 2 }) :
    wpAny (model prog w) A (setAttr (.ref x) (Str.ofString "first") v) Q E s :=
  set_dict F X₀ N I rfl hs hp ht hh (by rw [se.first]; rfl) rfl (updF_upd U) (by rw [putL_len _ _ _ _ se.first]; have := se.len; omega) fun h' F' N' => h h' _ _ F' N' se.putFirst
theorem set_last {Q : Unit → Shared → Prop} (F : Fr h₀ L s.heap m) (X₀ : K.In h₀) (N : News h₀ L s.heap news) (I : InstAt s.heap x (instObj 167 dx) 167 (some (dictOf es n))) (se : SigEs es k f l)
    (hs : findIn K (.ref 167) "__setattr__" = some (some (.builtin "object.__setattr__"))) (hp : plainOver K 167 = true) (ht : takerIn K 167 (Str.ofString "last") = some none) (hh : hasDictIn K 167 = true) (U : UpdF dx (dictOf es n) news g)
    (h : ∀ h' es' n', Fr h₀ L h' m → News h₀ L h' (g (dictOf es' n')) → SigEs es' k f v → Q () { s with heap := h', toks := s.toks + 2 }) :
    wpAny (model prog w) A (setAttr (.ref x) (Str.ofString "last") v) Q E s :=
  set_dict F X₀ N I rfl hs hp ht hh (by rw [se.last]; rfl) rfl (updF_upd U) (by rw [putL_len _ _ _ _ se.last]; have := se.len; omega) fun h' F' N' => h h' _ _ F' N' se.putLast
theorem led_item {Q : Value → Shared → Prop} (N : News h₀ L s.heap news) (hm : (a, listOf vs.toArray nn) ∈ news) (h0 : 0 ≤ k) (hf : k < 2 ^ 63) (hx : vs[k.toNat]? = some r) (h : Q r s)
    (hs : subscripted slice false (.ref a) (.int k u) = operate [.ref a, .int k u] (getItem (.ref a) (.int k u)) := by with_unfolding_all rfl) :
    wpAny (model prog w) A (subscriptTail value slice (.ref a) (.int k u)) Q E s := by
  have hl := N.isList hm
  exact tail_any hl.typeIs slot_list_getitem.lookup (wpAny_getItem_list hl h0 hf (by simpa using hx) h) hs
theorem led_tup {Q : Value → Shared → Prop} (N : News h₀ L s.heap news) (hm : (a, tup vs) ∈ news) (h0 : 0 ≤ k) (hf : k < 2 ^ 63) (hx : vs[k.toNat]? = some r) (h : Q r s)
    (hs : subscripted slice false (.ref a) (.int k u) = operate [.ref a, .int k u] (getItem (.ref a) (.int k u)) := by with_unfolding_all rfl) :
    wpAny (model prog w) A (subscriptTail value slice (.ref a) (.int k u)) Q E s :=
  item_tupleT (j := k.toNat) (isTup_now (N.get hm)) (by omega) hf (by
    have h1 := (List.getElem?_eq_some_iff.mp hx).1
    unfold seqIndex?
    simp
    omega) hx h hs
end
theorem unr_tail {h₀ : Heap} {L : Addr} {s₁ : Shared} {h' : Heap} {tk : Nat} {m' : Str → Option Value} {p : Addr × Obj} {r keep : List (Addr × Obj)} {rest : (Str → Option Value) → List (Addr × Obj) → Prop} (F : Fr h₀ L h' m') (N : News h₀ L h' (p :: r)) (hne : ∀ q ∈ r, q.1 ≠ p.1) (hk : SubL keep r) (hr : rest m' r) :
    UnrEndW h₀ L s₁ [p] (fun m n => SubL keep n ∧ rest m n) { s₁ with heap := h', toks := tk } :=
  ⟨h', tk, m', r, rfl, F, N, fun q hq q' hq' => by rw [List.mem_singleton.mp hq']; exact hne q hq, hk, hr⟩
structure StopIf : Prop where
inductive PackC (g : Heap) (L x c1 c2 c3 : Addr) (lo : Int) (h : Heap) : Prop
  | mk (l : Addr) (us : List Value) (n : Nat) (ns : List Int) (om or ck : Obj) (vm vk : Option Value) (lE e0 e1 : Addr) (nE : Nat) (t1 t2 : Tok) (tl dl : List (Addr × Obj)) (u : Str → Option Value)
    (_ : Fr g L h (fun y => if y = Str.ofString "design" then some (.ref x) else if y = Str.ofString "ends" then some (.ref lE) else u y))
    (_ : News g L h ((c3, om) :: (l, listOf us.toArray n) :: tl))
    (_ : OwnOff tl [c3, l])
    (_ : (c2, ck) ∈ tl)
    (_ : (c1, or) ∈ tl)
    (_ : (lE, listOf (List.toArray [Value.ref e0, .ref e1]) nE) ∈ tl)
    (_ : (e0, tup [.int lo t1, .int 2 t2]) ∈ tl)
    (_ : (∀ p ∈ dl, p ∈ tl))
    (_ : (∀ h', (∀ p ∈ dl, h'.get? p.1 = some p.2) → Dsg h' x lo))
    (_ : (∀ p ∈ dl, ∀ v, p.2.data ≠ .cell v))
    (_ : IntsAre us ns)
    (_ : ns.length ≤ 70)
    (_ : or.data = .cell (some (.ref l)))
    (_ : ck.data = .cell vk)
    (_ : om.data = .cell vm)
    (_ : @Ne Nat c3 l)
    (_ : (-2 ≤ lo ∧ lo ≤ 2)) : PackC g L x c1 c2 c3 lo h
theorem notin2 {a b1 b2 : Addr} (n1 : @Ne Nat a b1) (n2 : @Ne Nat a b2) : a ∉ [b1, b2] := by
  simp only [List.mem_cons, List.not_mem_nil, or_false, not_or]
  exact ⟨n1, n2⟩
theorem listNE {its : Array Value} {n : Nat} {o : Obj} (h : o.cls ≠ .type "list") : o ≠ listOf its n := fun q => h (by rw [q])
theorem lawC {g h : Heap} {L x c1 c2 c3 l lE e0 e1 d aL y0 d0 y1 d1 y2 d2 y3 d3 y4 d4 : Addr} {m : Str → Option Value} {news : List (Addr × Obj)} {om or ck : Obj} {us : List Value} {ns : List Int} {n nE nL nes n0 n1 n2 n3 n4 : Nat} {vm vk : Option Value} {lo f f' : Int} {t1 t2 t3 t4 t5 t6 : Tok} {es es0 es1 es2 es3 es4 : List DictEntry}
    (F : Fr g L h m) (hm1 : m (Str.ofString "design") = some (.ref x)) (hm2 : m (Str.ofString "ends") = some (.ref lE)) (N : News g L h news) (mc3 : (c3, om) ∈ news) (ml : (l, listOf us.toArray n) ∈ news) (mc2 : (c2, ck) ∈ news) (mc1 : (c1, or) ∈ news)
    (mE : (lE, listOf (List.toArray [Value.ref e0, .ref e1]) nE) ∈ news) (me0 : (e0, tup [.int lo t1, .int 2 t2]) ∈ news) (mx : (x, instObj 230 d) ∈ news) (md : (d, dictOf es nes) ∈ news) (mL : (aL, listOf (List.toArray [Value.ref y0, .ref y1, .ref y2, .ref y3, .ref y4]) nL) ∈ news)
    (my0 : (y0, instObj 167 d0) ∈ news) (md0 : (d0, dictOf es0 n0) ∈ news) (my1 : (y1, instObj 167 d1) ∈ news) (md1 : (d1, dictOf es1 n1) ∈ news) (my2 : (y2, instObj 167 d2) ∈ news) (md2 : (d2, dictOf es2 n2) ∈ news) (my3 : (y3, instObj 167 d3) ∈ news) (md3 : (d3, dictOf es3 n3) ∈ news) (my4 : (y4, instObj 167 d4) ∈ news) (md4 : (d4, dictOf es4 n4) ∈ news)
    (s0 : SigEs es0 0 .none .none) (s1 : SigEs es1 1 .none .none) (s2 : SigEs es2 2 .none .none) (s3 : SigEs es3 3 (.int f t3) (.int f' t4)) (s4 : SigEs es4 4 (.int 70 t5) (.int 1 t6)) (hfl : (f = lo ∧ f' = lo + 2) ∨ (f = lo + 2 ∧ f' = lo)) (hlo : -2 ≤ lo ∧ lo ≤ 2)
    (gs : getL (Str.ofString "signals") es = some (some (.ref aL))) (hi : IntsAre us ns) (hl : ns.length ≤ 70) (h1 : or.data = .cell (some (.ref l))) (h2 : ck.data = .cell vk) (h3 : om.data = .cell vm) (q1 : @Ne Nat c2 c3) (q2 : @Ne Nat c1 c3) (qE : @Ne Nat lE l) (qa : @Ne Nat aL l) : PackC g L x c1 c2 c3 lo h := by
  have g3 := N _ mc3
  have gl := N _ ml
  have cN : ∀ {a : Addr} {o : Obj}, (a, o) ∈ news → (∀ v, o.data ≠ .cell v) → @Ne Nat a c3 := fun hm z => ne_get (N _ hm).1 g3.1 (cellNE h3 z)
  have lN : ∀ {a : Addr} {o : Obj}, (a, o) ∈ news → o.cls ≠ .type "list" → @Ne Nat a l := fun hm z => ne_get (N _ hm).1 gl.1 (listNE z)
  have lC : ∀ {a : Addr} {o : Obj} {v : Option Value}, (a, o) ∈ news → o.data = .cell v → @Ne Nat a l := fun hm z => (ne_get gl.1 (N _ hm).1 (cellNE z fun v q => by cases q)).symm
  obtain ⟨tl, N1, O1, t1'⟩ := regroup (g := g) (h := h) (L := L) [(c3, om), (l, listOf us.toArray n)] (by
    intro p hp
    simp only [List.mem_cons, List.not_mem_nil, or_false] at hp
    rcases hp with rfl | rfl
    · exact g3
    · exact gl)
  have up : ∀ {a : Addr} {o : Obj}, (a, o) ∈ news → @Ne Nat a c3 → @Ne Nat a l → (a, o) ∈ tl := fun hm z1 z2 => t1' _ (N _ hm).1 (N _ hm).2.2 (N _ hm).2.1 (notin2 z1 z2)
  have upI : ∀ {a C dx : Addr}, (a, instObj C dx) ∈ news → (a, instObj C dx) ∈ tl := fun hm => up hm (cN hm fun v q => by cases q) (lN hm fun q => by cases q)
  have upD : ∀ {a : Addr} {e : List DictEntry} {k : Nat}, (a, dictOf e k) ∈ news → (a, dictOf e k) ∈ tl := fun hm => up hm (cN hm fun v q => by cases q) (lN hm (by show ¬ (Value.type "dict" = Value.type "list"); decide))
  refine ⟨l, us, n, ns, om, or, ck, vm, vk, lE, e0, e1, nE, t1, t2, tl, [(x, instObj 230 d), (d, dictOf es nes), (aL, listOf (List.toArray [Value.ref y0, .ref y1, .ref y2, .ref y3, .ref y4]) nL), (y0, instObj 167 d0), (d0, dictOf es0 n0), (y1, instObj 167 d1), (d1, dictOf es1 n1), (y2, instObj 167 d2), (d2, dictOf es2 n2), (y3, instObj 167 d3), (d3, dictOf es3 n3), (y4, instObj 167 d4), (d4, dictOf es4 n4)], m, ?_, N1, O1, ?_, ?_, ?_, ?_, ?_, ?_, ?_, hi, hl, h1, h2, h3, (lC mc3 h3), hlo⟩
  · exact pins_fr (ps := [(Str.ofString "design", .ref x), (Str.ofString "ends", .ref lE)]) F (all_two hm1 hm2)
  · exact up mc2 q1 (lC mc2 h2)
  · exact up mc1 q2 (lC mc1 h1)
  · exact up mE (cN mE fun v q => by cases q) qE
  · exact up me0 (cN me0 fun v q => by cases q) (lN me0 (by show ¬ (Value.type "tuple" = Value.type "list"); decide))
  · intro p hp
    simp only [List.mem_cons, List.not_mem_nil, or_false] at hp
    rcases hp with rfl | rfl | rfl | rfl | rfl | rfl | rfl | rfl | rfl | rfl | rfl | rfl | rfl
    · exact upI mx
    · exact upD md
    · exact up mL (cN mL fun v q => by cases q) qa
    · exact upI my0
    · exact upD md0
    · exact upI my1
    · exact upD md1
    · exact upI my2
    · exact upD md2
    · exact upI my3
    · exact upD md3
    · exact upI my4
    · exact upD md4
  · intro h' hd
    have I : ∀ {y C dy : Addr} {e : List DictEntry} {k : Nat}, h'.get? y = some (instObj C dy) → h'.get? dy = some (dictOf e k) → InstAt h' y (instObj C dy) C (some (dictOf e k)) := fun z1 z2 => ⟨z1, rfl, rfl, z2⟩
    exact ⟨⟨d, es, nes, aL, y0, y1, y2, y3, y4, nL, f, f', t3, t4, t5, t6, I (hd (x, _) (by repeat (first | exact List.Mem.head _ | refine List.Mem.tail _ ?_))) (hd (d, _) (by repeat (first | exact List.Mem.head _ | refine List.Mem.tail _ ?_))), gs, hd (aL, _) (by repeat (first | exact List.Mem.head _ | refine List.Mem.tail _ ?_)), ⟨d0, es0, n0, I (hd (y0, _) (by repeat (first | exact List.Mem.head _ | refine List.Mem.tail _ ?_))) (hd (d0, _) (by repeat (first | exact List.Mem.head _ | refine List.Mem.tail _ ?_))), s0⟩, ⟨d1, es1, n1, I (hd (y1, _) (by repeat (first | exact List.Mem.head _ | refine List.Mem.tail _ ?_))) (hd (d1, _) (by repeat (first | exact List.Mem.head _ | refine List.Mem.tail _ ?_))), s1⟩,
      ⟨d2, es2, n2, I (hd (y2, _) (by repeat (first | exact List.Mem.head _ | refine List.Mem.tail _ ?_))) (hd (d2, _) (by repeat (first | exact List.Mem.head _ | refine List.Mem.tail _ ?_))), s2⟩, ⟨d3, es3, n3, I (hd (y3, _) (by repeat (first | exact List.Mem.head _ | refine List.Mem.tail _ ?_))) (hd (d3, _) (by repeat (first | exact List.Mem.head _ | refine List.Mem.tail _ ?_))), s3⟩, hfl, ⟨d4, es4, n4, I (hd (y4, _) (by repeat (first | exact List.Mem.head _ | refine List.Mem.tail _ ?_))) (hd (d4, _) (by repeat (first | exact List.Mem.head _ | refine List.Mem.tail _ ?_))), s4⟩⟩⟩
  · intro p hp v q
    simp only [List.mem_cons, List.not_mem_nil, or_false] at hp
    rcases hp with rfl | rfl | rfl | rfl | rfl | rfl | rfl | rfl | rfl | rfl | rfl | rfl | rfl <;> cases q
theorem cut_if {M : Model} {A : Around} {t : Sem Flow} {Q : Flow → Shared → Prop} {E : Value → Shared → Prop} {s : Shared} {g h0 : Heap} {L : Addr} {m0 : Str → Option Value} {k : Int} (_ : Fr g L h0 m0) (x : Addr) (_ : k < 5)
    (h1 : wpAny M A t (fun fl s' => fl = .next ∧ ∃ h' tk', s' = { s with heap := h', toks := tk' } ∧ PackC g L x (L + 1) (L + 1 + 1) (L + 1 + 1 + 1) (k - 2) h') E s)
    (h2 : ∀ h' tk', PackC g L x (L + 1) (L + 1 + 1) (L + 1 + 1 + 1) (k - 2) h' → Q .next { s with heap := h', toks := tk' }) : wpAny M A t Q E s :=
  wpAny_mono h1 (fun fl s' h => by
    obtain ⟨rfl, h', tk', rfl, p⟩ := h
    exact h2 h' tk' p) fun _ _ y => y

end
local macro_rules | `(tactic| walk_at $s:str) => `(tactic| k_extra $s)
local macro_rules | `(tactic| k_ne) => `(tactic| k_extra "k_ne")
local macro_rules | `(tactic| k_all) => `(tactic| k_extra "k_all")
local macro_rules | `(tactic| k_mem) => `(tactic| k_extra "k_mem")
local macro_rules | `(tactic| k_inst) => `(tactic| k_extra "k_inst")
local macro_rules | `(tactic| k_get) => `(tactic| k_extra "k_get")
local macro_rules | `(tactic| units_room) => `(tactic| k_extra "units_room")
local macro_rules | `(tactic| k_lt $h:ident) => `(tactic| replace $h := allLt_of $h)
local macro_rules | `(tactic| k_steps) => `(tactic| k_extra "k_steps")
section
theorem reg_P1_0 : True := by
  k_with_none
  k_with "q_enter" => (refine' enterQ (by k_asm) (by k_asm) (by k_asm) (by k_asm) (by k_asm) (by exact rfl) (by exact rfl) (by assumption) (by k_is) (by k_is) (by ktr_room) (by exact BindsTo.of_eq rfl) (by exact locs rfl) ?_ (by exact rfl) (by exact rfl) (by exact rfl) (by decide); k_whole)
  k_with "units_room" => (ktr_units)
  k_with "q_len" => (rw [PySem.sizeLine_eq]; (try simp only [List.length_append, List.length_cons, List.length_nil]); omega)
  k_with "call builtin:list.append" => (k_here; k_dflt (refine' append_L (by k_asm) (by k_asm) (by k_upd) (by k_extra "q_len") ?_; (intro h' F' N'; (try dsimp only [List.nil_append, List.cons_append] at N'))))
  k_with "call builtin:list.pop" => (k_here; k_dflt (refine' pop_L (by k_asm) (by k_asm) (by k_upd) (by k_extra "q_len") ?_; (intro h' F' N'; (try dsimp only [List.nil_append, List.cons_append] at N'))))
  k_with "truthy ref" => (k_here; k_dflt (refine' truthy_L (by k_asm) (by k_mem) (by k_extra "q_len") ?_))
  k_with "exec While" => ((have hSt := (by with_reducible assumption : StopWhile)); clear hSt; refine Stop.of ?_)
  k_with "pyIter ref" => ((have hSt := (by with_reducible assumption : StopFor)); clear hSt; refine Stop.of ?_)
  k_with "call type:reversed" => (k_here; k_dflt (refine' rvt_L (by k_asm) (by k_asm) (by exact isTup_now (News.get (by assumption) (by k_mem))) (by ((try simp only [List.length_cons, List.length_nil]); omega)) ?_; (intro I' h' tk' F' N' l1; (try k_lt l1))))
  k_with "call builtin:list.extend" => (k_here; k_dflt (refine' extend_L (by k_asm) (by k_asm) (by (intro o'; k_upd)) (by first | assumption | exact News.get (by assumption) (by k_mem)) (by k_extra "q_len") ?_; (intro h' n' F' N'; (try dsimp only [List.nil_append, List.cons_append] at N'))))
  k_with "call type:list" => (k_here; k_dflt (refine' listT_L (by k_asm) (by k_asm) (by first | exact isTup_P (by assumption) (by assumption) (by assumption) | exact isTup_base (by assumption) (by assumption)) (by k_extra "q_len") ?_; (intro D' c' h' F' N' l1; (try k_lt l1))))
  k_with "exec For" => ((have hSt := (by with_reducible assumption : StopFor)); clear hSt; k_here; (rename Fr _ _ _ _ => lF'); (with_unfolding_all refine' For_invVF lF' (by exact rfl) (by exact rfl) ?_; k_whole))
  k_with "CompSrcT" => (k_here; (have hSt := (by with_reducible assumption : StopComp)); clear hSt; k_dflt (refine LCt.CompSrcT.ledger (by rfl) (by k_asm) (by k_asm) (by k_mem) (by (try rw [List.size_toArray]); k_extra "q_len") ?_); refine Stop.of ?_)
  k_with "CompSrc" => (k_here; (have hSt := (by with_reducible assumption : StopComp)); clear hSt; k_dflt (refine LCg.CompSrc.ledger (by rfl) (by k_asm) (by k_asm) (by k_mem) (by (try rw [List.size_toArray]); k_extra "q_len") ?_); refine Stop.of ?_)
  k_with "CompEnd" => ((have hSt := (by with_reducible assumption : StopComp)); clear hSt; refine Stop.of ?_)
  k_with "q_clean" => ((repeat (with_reducible rename Fr _ _ _ _ => hz; clear hz)); (repeat (with_reducible rename News _ _ _ _ => hz; clear hz)); (repeat (with_reducible rename _ ∧ _ => hz; clear hz)); (repeat (with_reducible rename @LT.lt Nat _ _ _ => hz; clear hz)); (repeat (with_reducible rename OwnOff _ _ => hz; clear hz)); (repeat (with_reducible rename Cov _ _ _ _ _ => hz; clear hz)); (repeat (with_reducible rename TCov _ _ _ => hz; clear hz)); (repeat (with_reducible rename _ ∈ _ => hz; clear hz)); (repeat (with_reducible rename SigEs _ _ _ _ => hz; clear hz)); (repeat (with_reducible rename ∀ p ∈ _, p ∈ _ => hz; clear hz)); (repeat (with_reducible rename @Ne Nat _ _ => hz; clear hz)); (repeat (with_reducible rename getL _ _ = _ => hz; clear hz)); (repeat (with_reducible rename _ = Data.cell _ => hz; clear hz)); (repeat (with_reducible rename StopFor => hz; clear hz)); (repeat (with_reducible rename Kept _ _ _ => hz; clear hz)); (repeat (with_reducible rename Heap.get? _ _ = _ => hz; clear hz)); (repeat (with_reducible rename @LE.le Nat _ _ _ => hz; clear hz)); (repeat (with_reducible rename IsRange _ _ _ _ _ _ _ _ => hz; clear hz)); (repeat (with_reducible rename Obj.IsDictOf _ _ _ => hz; clear hz)); (repeat (with_reducible rename AllLt _ _ => hz; clear hz)); (repeat (with_reducible rename IntsAre _ _ => hz; clear hz)); (repeat (with_reducible rename PyProof.V.FlatPairs _ _ _ => hz; clear hz)); (repeat (with_reducible rename Heap.IsList _ _ _ => hz; clear hz)); (repeat (with_reducible rename ReadsAll _ _ _ _ => hz; clear hz)); (repeat (with_reducible rename @LT.lt Int _ _ _ => hz; clear hz)); (repeat (with_reducible rename @LE.le Int _ _ _ => hz; clear hz)); (repeat (with_reducible rename _ ∨ _ => hz; clear hz)))
  k_with "q_no" => (exact notin2' (by k_ne) (by k_ne))
  k_with "q_fr" => (first | exact List.forall_mem_nil _ | (refine List.forall_mem_cons.mpr ⟨⟨_, by k_mem⟩, ?_⟩; k_extra "q_fr"))
  k_with "k_ne" => (refine neN ?_; (try dsimp only); k_extra "ne")
  k_with "ne" => (first | with_reducible assumption | exact Nat.ne_of_lt (AllLt.get (by with_reducible assumption) (by k_mem)) | exact Nat.ne_of_gt (AllLt.get (by with_reducible assumption) (by k_mem)) | exact Ne.symm (by with_reducible assumption) | exact Nat.ne_of_gt (AllLt.get2 (by with_reducible assumption) (by with_reducible assumption) (by k_mem)) | exact Nat.ne_of_lt (AllLt.get2 (by with_reducible assumption) (by with_reducible assumption) (by k_mem)) | exact Nat.ne_of_lt (by with_reducible assumption) | exact Nat.ne_of_gt (by with_reducible assumption) | omega)
  k_with "subscriptTail" => (k_here; k_dflt (refine' item_tupleT (by first | exact isTup_P (by assumption) (by assumption) (by assumption) | exact isTup_base (by assumption) (by assumption) | exact isTup_now (by assumption)) (by decide) (by decide) (by rfl) (by rfl) ?_; k_whole))
  k_with "spliced" => (k_here; (with_reducible show wpAny _ _ (spliced (backTo _ (starEach (_ :: _) _))) _ _ _); k_dflt (refine' svs_r (by k_asm) (by exact rfl) ?_ (by rfl); k_whole))
  k_with "execs cons" => (k_here; (with_reducible show wpAny _ _ (execs (Stmt.If _ _ [] _ :: _) _) _ _ _); k_dflt (refine' if_n (by k_asm) (by exact rfl) ?_ (by rfl); k_whole))
  k_with "exec If" => (k_here; k_dflt (first | (refine' if_f (by k_asm) (by exact rfl) ?_ (by rfl); k_whole) | (refine' if_t (by k_asm) (by exact rfl) ?_ (by rfl); k_whole)))
  k_with "eval Call" => (k_here; (with_reducible show wpAny _ _ (eval (Expr.Call (Expr.Name _ _) (_ :: _) [] _) _) _ _ _); k_dflt (refine' call_sv (by k_asm) (by k_asm) (by k_asm) (by k_is) (by k_is) (by exact rfl) ?_ (by rfl) (by rfl) (by decide) (by rfl) (by rfl); k_whole))
  k_with "eval Subscript" => (k_here; k_dflt (refine' sub_sv (by k_asm) (by exact rfl) (by exact rfl) (by first | exact isTup_P (by assumption) (by assumption) (by assumption) | exact isTup_base (by assumption) (by assumption) | exact isTup_now (by assumption)) (by decide) (by decide) (by rfl) (by rfl) ?_ (by with_unfolding_all rfl) (by rfl); k_whole))
  k_with "k_steps" => ((try k_fold); repeat' (first | (k_unfold; (try dsimp only)) | (k_end; wrow_close) | walk1 | (dsimp only; walk1) | (leave1; walk_say "STEP leave1"; try dsimp only) | fail "no step"))
  k_with "k_memR" => (first | with_reducible exact List.mem_cons_self .. | with_reducible assumption | (with_reducible refine List.mem_cons_of_mem _ ?_; k_extra "k_memR"))
  k_with "k_memD" => (first | exact List.mem_cons_self .. | with_reducible assumption | (refine List.mem_cons_of_mem _ ?_; k_extra "k_memD"))
  k_with "k_mem" => (first | k_extra "k_memR" | k_extra "k_memD")
  k_with "k_all" => (first | exact List.forall_mem_nil _ | ((with_reducible refine' List.forall_mem_cons.mpr (And.intro ?_ ?_)); k_ne; k_all) | with_reducible assumption | exact OwnOff.ne (by with_reducible assumption) (by k_extra "k_memR") | exact allLt_ne (by with_reducible assumption) | exact allLt_nes (by with_reducible assumption) (by intro p9 hp9; k_extra "k_memR") | exact OwnOff.ne (by assumption) (by k_mem) | ((refine' List.forall_mem_cons.mpr (And.intro ?_ ?_)); k_ne; k_all) | exact allLt_nes (by with_reducible assumption) (by intro p9 hp9; k_mem))
  trivial
theorem pop0 {prog : Program} {w : World} {A : Around} {E : Value → Shared → Prop} {s : Shared} {h₀ : Heap} {L D : Addr} {m : Str → Option Value} {news news' : List (Addr × Obj)} {n : Nat} {y : Value} {q : List Value} {u : Tok} {Q : Value → Shared → Prop}
    (F : Fr h₀ L s.heap m) (N : News h₀ L s.heap news) (U : Upd D (listOf (y :: q).toArray n) (listOf q.toArray (n + 1)) news news') (hz : q.length < sizeLine)
    (h : ∀ h', Fr h₀ L h' m → News h₀ L h' news' → Q y { s with heap := h' }) : wpAny (model prog w) A (call (.builtin "list.pop") [.ref D, .int 0 u]) Q E s :=
  kl_popAt F N (k := 0) (p := []) (q := q) (y := y) rfl (by simp [seqIndex?]) rfl U (by simp; omega) h
theorem reg_P1_1 : True := by
  k_with "call builtin:list.pop" => (k_here; k_dflt (refine' pop0 (by k_asm) (by k_asm) (by k_upd) (by (rw [PySem.sizeLine_eq]; (have hL9 := IntsAre.length (by assumption)); (try simp only [List.length_cons] at *); omega)) ?_; kl_rest))
  trivial
set_option maxHeartbeats 4000000 in
theorem pull_does {w : World} {mean : ExcName → Option Value} {mg mb : Str → Option Value} {aR : Addr} {vs : List Value} {n : Nat} {ns : List Int} {most : Int} {t : Tok} {h : Heap}
    (hR : h.get? aR = some (listOf vs.toArray n)) (hi : IntsAre vs ns) (hl : ns.length ≤ 70) (hm : 0 < most) (hm2 : most ≤ 100) :
    Does w mean mg mb 248 [.ref aR, .int most t] 4 100 h [aR] (fun r h' => ∃ k u vs' n' ns', r = .int k u ∧ 0 ≤ k ∧ k < most ∧ h'.get? aR = some (listOf vs'.toArray n') ∧ IntsAre vs' ns' ∧ ns'.length ≤ 70) := by
  unfold Does
  w_on
  k_fill
  intro dp un gd cn cs a ccd cl outer A₀ base h₀ L m s Q E e B F X T hk hS hd hu hret
  subst e
  have N : News h₀ L s.heap [(aR, listOf vs.toArray n)] := news_of (by simpa using hS) (by simpa using hR)
  clear hS
  refine wpAny_call ?_
  cases hi with
  | nil =>
    k_dflt k_extra "q_enter"
    intro g' L' h' hk' hne' F' N' B' X' T'; (try dsimp only); (try k_fold)
    k_steps
    rename Fr _ _ _ _ => F9
    rename News _ _ _ _ => N9
    refine ⟨_, F9, fun k9 => hret _ _ _ k9 ⟨0, _, [], n, [], rfl, Int.le_refl _, hm, N9.get (by k_mem), .nil, Nat.zero_le _⟩⟩
  | cons i t hi =>
    k_dflt k_extra "q_enter"
    intro g' L' h' hk' hne' F' N' B' X' T'; (try dsimp only); (try k_fold)
    k_steps
    · rename decide _ = _ => hx
      simp at hx
    · rename Fr _ _ _ _ => F9
      rename News _ _ _ _ => N9
      refine ⟨_, F9, fun k9 => hret _ _ _ k9 ⟨_, _, _, _, _, rfl, fmod_lo _ hm, fmod_hi _ hm, N9.get (by k_mem), hi, ?_⟩⟩
      simp only [List.length_cons] at hl
      omega

end
section
theorem reg_P2_0 : True := by
  k_with_none
  k_with "q_enter" => (refine' enterQ (by k_asm) (by k_asm) (by k_asm) (by k_asm) (by k_asm) (by exact rfl) (by exact rfl) (by assumption) (by k_is) (by k_is) (by ktr_room) (by exact BindsTo.of_eq rfl) (by exact locs rfl) ?_ (by exact rfl) (by exact rfl) (by exact rfl) (by decide); k_whole)
  k_with "units_room" => (ktr_units)
  k_with "q_len" => (rw [PySem.sizeLine_eq]; (try simp only [List.length_append, List.length_cons, List.length_nil]); omega)
  k_with "call builtin:list.append" => (k_here; k_dflt (refine' append_L (by k_asm) (by k_asm) (by k_upd) (by k_extra "q_len") ?_; (intro h' F' N'; (try dsimp only [List.nil_append, List.cons_append] at N'))))
  k_with "call builtin:list.pop" => (k_here; k_dflt (refine' pop_L (by k_asm) (by k_asm) (by k_upd) (by k_extra "q_len") ?_; (intro h' F' N'; (try dsimp only [List.nil_append, List.cons_append] at N'))))
  k_with "truthy ref" => (k_here; k_dflt (refine' truthy_L (by k_asm) (by k_mem) (by k_extra "q_len") ?_))
  k_with "exec While" => ((have hSt := (by with_reducible assumption : StopWhile)); clear hSt; refine Stop.of ?_)
  k_with "pyIter ref" => ((have hSt := (by with_reducible assumption : StopFor)); clear hSt; refine Stop.of ?_)
  k_with "call type:reversed" => (k_here; k_dflt (refine' rvt_L (by k_asm) (by k_asm) (by exact isTup_now (News.get (by assumption) (by k_mem))) (by ((try simp only [List.length_cons, List.length_nil]); omega)) ?_; (intro I' h' tk' F' N' l1; (try k_lt l1))))
  k_with "call builtin:list.extend" => (k_here; k_dflt (refine' extend_L (by k_asm) (by k_asm) (by (intro o'; k_upd)) (by first | assumption | exact News.get (by assumption) (by k_mem)) (by k_extra "q_len") ?_; (intro h' n' F' N'; (try dsimp only [List.nil_append, List.cons_append] at N'))))
  k_with "call type:list" => (k_here; k_dflt (refine' listT_L (by k_asm) (by k_asm) (by first | exact isTup_P (by assumption) (by assumption) (by assumption) | exact isTup_base (by assumption) (by assumption)) (by k_extra "q_len") ?_; (intro D' c' h' F' N' l1; (try k_lt l1))))
  k_with "exec For" => ((have hSt := (by with_reducible assumption : StopFor)); clear hSt; k_here; (rename Fr _ _ _ _ => lF'); (with_unfolding_all refine' For_invVF lF' (by exact rfl) (by exact rfl) ?_; k_whole))
  k_with "CompSrcT" => (k_here; (have hSt := (by with_reducible assumption : StopComp)); clear hSt; k_dflt (refine LCt.CompSrcT.ledger (by rfl) (by k_asm) (by k_asm) (by k_mem) (by (try rw [List.size_toArray]); k_extra "q_len") ?_); refine Stop.of ?_)
  k_with "CompSrc" => (k_here; (have hSt := (by with_reducible assumption : StopComp)); clear hSt; k_dflt (refine LCg.CompSrc.ledger (by rfl) (by k_asm) (by k_asm) (by k_mem) (by (try rw [List.size_toArray]); k_extra "q_len") ?_); refine Stop.of ?_)
  k_with "CompEnd" => ((have hSt := (by with_reducible assumption : StopComp)); clear hSt; refine Stop.of ?_)
  k_with "q_clean" => ((repeat (with_reducible rename Fr _ _ _ _ => hz; clear hz)); (repeat (with_reducible rename News _ _ _ _ => hz; clear hz)); (repeat (with_reducible rename _ ∧ _ => hz; clear hz)); (repeat (with_reducible rename @LT.lt Nat _ _ _ => hz; clear hz)); (repeat (with_reducible rename OwnOff _ _ => hz; clear hz)); (repeat (with_reducible rename Cov _ _ _ _ _ => hz; clear hz)); (repeat (with_reducible rename TCov _ _ _ => hz; clear hz)); (repeat (with_reducible rename _ ∈ _ => hz; clear hz)); (repeat (with_reducible rename SigEs _ _ _ _ => hz; clear hz)); (repeat (with_reducible rename ∀ p ∈ _, p ∈ _ => hz; clear hz)); (repeat (with_reducible rename @Ne Nat _ _ => hz; clear hz)); (repeat (with_reducible rename getL _ _ = _ => hz; clear hz)); (repeat (with_reducible rename _ = Data.cell _ => hz; clear hz)); (repeat (with_reducible rename StopFor => hz; clear hz)); (repeat (with_reducible rename Kept _ _ _ => hz; clear hz)); (repeat (with_reducible rename Heap.get? _ _ = _ => hz; clear hz)); (repeat (with_reducible rename @LE.le Nat _ _ _ => hz; clear hz)); (repeat (with_reducible rename IsRange _ _ _ _ _ _ _ _ => hz; clear hz)); (repeat (with_reducible rename Obj.IsDictOf _ _ _ => hz; clear hz)); (repeat (with_reducible rename AllLt _ _ => hz; clear hz)); (repeat (with_reducible rename IntsAre _ _ => hz; clear hz)); (repeat (with_reducible rename PyProof.V.FlatPairs _ _ _ => hz; clear hz)); (repeat (with_reducible rename Heap.IsList _ _ _ => hz; clear hz)); (repeat (with_reducible rename ReadsAll _ _ _ _ => hz; clear hz)); (repeat (with_reducible rename @LT.lt Int _ _ _ => hz; clear hz)); (repeat (with_reducible rename @LE.le Int _ _ _ => hz; clear hz)); (repeat (with_reducible rename _ ∨ _ => hz; clear hz)))
  k_with "q_no" => (exact notin2' (by k_ne) (by k_ne))
  k_with "q_fr" => (first | exact List.forall_mem_nil _ | (refine List.forall_mem_cons.mpr ⟨⟨_, by k_mem⟩, ?_⟩; k_extra "q_fr"))
  k_with "k_ne" => (refine neN ?_; (try dsimp only); k_extra "ne")
  k_with "ne" => (first | with_reducible assumption | exact Nat.ne_of_lt (AllLt.get (by with_reducible assumption) (by k_mem)) | exact Nat.ne_of_gt (AllLt.get (by with_reducible assumption) (by k_mem)) | exact Ne.symm (by with_reducible assumption) | exact Nat.ne_of_gt (AllLt.get2 (by with_reducible assumption) (by with_reducible assumption) (by k_mem)) | exact Nat.ne_of_lt (AllLt.get2 (by with_reducible assumption) (by with_reducible assumption) (by k_mem)) | exact Nat.ne_of_lt (by with_reducible assumption) | exact Nat.ne_of_gt (by with_reducible assumption) | omega)
  k_with "subscriptTail" => (k_here; k_dflt (refine' item_tupleT (by first | exact isTup_P (by assumption) (by assumption) (by assumption) | exact isTup_base (by assumption) (by assumption) | exact isTup_now (by assumption)) (by decide) (by decide) (by rfl) (by rfl) ?_; k_whole))
  k_with "spliced" => (k_here; (with_reducible show wpAny _ _ (spliced (backTo _ (starEach (_ :: _) _))) _ _ _); k_dflt (refine' svs_r (by k_asm) (by exact rfl) ?_ (by rfl); k_whole))
  k_with "execs cons" => (k_here; (with_reducible show wpAny _ _ (execs (Stmt.If _ _ [] _ :: _) _) _ _ _); k_dflt (refine' if_n (by k_asm) (by exact rfl) ?_ (by rfl); k_whole))
  k_with "exec If" => (k_here; k_dflt (first | (refine' if_f (by k_asm) (by exact rfl) ?_ (by rfl); k_whole) | (refine' if_t (by k_asm) (by exact rfl) ?_ (by rfl); k_whole)))
  k_with "eval Call" => (k_here; (with_reducible show wpAny _ _ (eval (Expr.Call (Expr.Name _ _) (_ :: _) [] _) _) _ _ _); k_dflt (refine' call_sv (by k_asm) (by k_asm) (by k_asm) (by k_is) (by k_is) (by exact rfl) ?_ (by rfl) (by rfl) (by decide) (by rfl) (by rfl); k_whole))
  k_with "eval Subscript" => (k_here; k_dflt (refine' sub_sv (by k_asm) (by exact rfl) (by exact rfl) (by first | exact isTup_P (by assumption) (by assumption) (by assumption) | exact isTup_base (by assumption) (by assumption) | exact isTup_now (by assumption)) (by decide) (by decide) (by rfl) (by rfl) ?_ (by with_unfolding_all rfl) (by rfl); k_whole))
  k_with "k_steps" => ((try k_fold); repeat' (first | (k_unfold; (try dsimp only)) | (k_end; wrow_close) | walk1 | (dsimp only; walk1) | (leave1; walk_say "STEP leave1"; try dsimp only) | fail "no step"))
  k_with "k_memR" => (first | with_reducible exact List.mem_cons_self .. | with_reducible assumption | (with_reducible refine List.mem_cons_of_mem _ ?_; k_extra "k_memR"))
  k_with "k_memD" => (first | exact List.mem_cons_self .. | with_reducible assumption | (refine List.mem_cons_of_mem _ ?_; k_extra "k_memD"))
  k_with "k_mem" => (first | k_extra "k_memR" | k_extra "k_memD")
  k_with "k_all" => (first | exact List.forall_mem_nil _ | ((with_reducible refine' List.forall_mem_cons.mpr (And.intro ?_ ?_)); k_ne; k_all) | with_reducible assumption | exact OwnOff.ne (by with_reducible assumption) (by k_extra "k_memR") | exact allLt_ne (by with_reducible assumption) | exact allLt_nes (by with_reducible assumption) (by intro p9 hp9; k_extra "k_memR") | exact OwnOff.ne (by assumption) (by k_mem) | ((refine' List.forall_mem_cons.mpr (And.intro ?_ ?_)); k_ne; k_all) | exact allLt_nes (by with_reducible assumption) (by intro p9 hp9; k_mem))
  trivial
set_option maxHeartbeats 4000000 in
theorem children_does {w : World} {mean : ExcName → Option Value} {mg mb : Str → Option Value} {v : Value} {e : Ex} {h : Heap} {P : Addr → List Value → Prop} (hP : ∀ a vs, P a vs → TupAt h a vs) (hR : ExR P v e) :
    Does w mean mg mb 42 [v] 4 100 h [] (fun r h' => ∃ a vs, r = .ref a ∧ h.get? a = none ∧ TupAt h' a vs ∧ All2 (ExR P) vs e.kids) := by
  unfold Does
  w_on
  k_fill
  intro dp un gd cn cs a ccd cl outer A₀ base h₀ L m s Q E e B F X T hk hS hd hu hret
  subst e
  have N : News h₀ L s.heap [] := News.nil
  clear hS
  refine wpAny_call ?_
  cases hR
  all_goals
    rename P _ _ => hT
    k_dflt k_extra "q_enter"
    intro g' L' h' hk' hne' F' N' B' X' T'; (try dsimp only); (try k_fold)
    have hT' := hk' _ _ (hP _ _ hT) (by simp)
    k_steps
    rename Fr _ _ _ _ => F9
    rename News _ _ _ _ => N9
    show LeaveQ _ _ _ _ _ _ _
    refine ⟨_, F9, fun k9 => hret _ _ _ k9 ⟨_, _, rfl, fresh_of hk' N9 (.head _) (by simp), N9.get (.head _), ?_⟩⟩
  · exact .nil
  · exact .nil
  · exact .one (by assumption)
  · exact .cons (by assumption) (.one (by assumption))

end
section
theorem reg_P3_0 : True := by
  k_with_none
  k_with "q_enter" => (refine' enterQ (by k_asm) (by k_asm) (by k_asm) (by k_asm) (by k_asm) (by exact rfl) (by exact rfl) (by assumption) (by k_is) (by k_is) (by ktr_room) (by exact BindsTo.of_eq rfl) (by exact locs rfl) ?_ (by exact rfl) (by exact rfl) (by exact rfl) (by decide); k_whole)
  k_with "units_room" => (ktr_units)
  k_with "q_len" => (rw [PySem.sizeLine_eq]; (try simp only [List.length_append, List.length_cons, List.length_nil]); omega)
  k_with "call builtin:list.append" => (k_here; k_dflt (refine' append_L (by k_asm) (by k_asm) (by k_upd) (by k_extra "q_len") ?_; (intro h' F' N'; (try dsimp only [List.nil_append, List.cons_append] at N'))))
  k_with "call builtin:list.pop" => (k_here; k_dflt (refine' pop_L (by k_asm) (by k_asm) (by k_upd) (by k_extra "q_len") ?_; (intro h' F' N'; (try dsimp only [List.nil_append, List.cons_append] at N'))))
  k_with "truthy ref" => (k_here; k_dflt (refine' truthy_L (by k_asm) (by k_mem) (by k_extra "q_len") ?_))
  k_with "exec While" => ((have hSt := (by with_reducible assumption : StopWhile)); clear hSt; refine Stop.of ?_)
  k_with "pyIter ref" => ((have hSt := (by with_reducible assumption : StopFor)); clear hSt; refine Stop.of ?_)
  k_with "call type:reversed" => (k_here; k_dflt (refine' rvt_L (by k_asm) (by k_asm) (by exact isTup_now (News.get (by assumption) (by k_mem))) (by ((try simp only [List.length_cons, List.length_nil]); omega)) ?_; (intro I' h' tk' F' N' l1; (try k_lt l1))))
  k_with "call builtin:list.extend" => (k_here; k_dflt (refine' extend_L (by k_asm) (by k_asm) (by (intro o'; k_upd)) (by first | assumption | exact News.get (by assumption) (by k_mem)) (by k_extra "q_len") ?_; (intro h' n' F' N'; (try dsimp only [List.nil_append, List.cons_append] at N'))))
  k_with "call type:list" => (k_here; k_dflt (refine' listT_L (by k_asm) (by k_asm) (by first | exact isTup_P (by assumption) (by assumption) (by assumption) | exact isTup_base (by assumption) (by assumption)) (by k_extra "q_len") ?_; (intro D' c' h' F' N' l1; (try k_lt l1))))
  k_with "exec For" => ((have hSt := (by with_reducible assumption : StopFor)); clear hSt; k_here; (rename Fr _ _ _ _ => lF'); (with_unfolding_all refine' For_invVF lF' (by exact rfl) (by exact rfl) ?_; k_whole))
  k_with "CompSrcT" => (k_here; (have hSt := (by with_reducible assumption : StopComp)); clear hSt; k_dflt (refine LCt.CompSrcT.ledger (by rfl) (by k_asm) (by k_asm) (by k_mem) (by (try rw [List.size_toArray]); k_extra "q_len") ?_); refine Stop.of ?_)
  k_with "CompSrc" => (k_here; (have hSt := (by with_reducible assumption : StopComp)); clear hSt; k_dflt (refine LCg.CompSrc.ledger (by rfl) (by k_asm) (by k_asm) (by k_mem) (by (try rw [List.size_toArray]); k_extra "q_len") ?_); refine Stop.of ?_)
  k_with "CompEnd" => ((have hSt := (by with_reducible assumption : StopComp)); clear hSt; refine Stop.of ?_)
  k_with "q_clean" => ((repeat (with_reducible rename Fr _ _ _ _ => hz; clear hz)); (repeat (with_reducible rename News _ _ _ _ => hz; clear hz)); (repeat (with_reducible rename _ ∧ _ => hz; clear hz)); (repeat (with_reducible rename @LT.lt Nat _ _ _ => hz; clear hz)); (repeat (with_reducible rename OwnOff _ _ => hz; clear hz)); (repeat (with_reducible rename Cov _ _ _ _ _ => hz; clear hz)); (repeat (with_reducible rename TCov _ _ _ => hz; clear hz)); (repeat (with_reducible rename _ ∈ _ => hz; clear hz)); (repeat (with_reducible rename SigEs _ _ _ _ => hz; clear hz)); (repeat (with_reducible rename ∀ p ∈ _, p ∈ _ => hz; clear hz)); (repeat (with_reducible rename @Ne Nat _ _ => hz; clear hz)); (repeat (with_reducible rename getL _ _ = _ => hz; clear hz)); (repeat (with_reducible rename _ = Data.cell _ => hz; clear hz)); (repeat (with_reducible rename StopFor => hz; clear hz)); (repeat (with_reducible rename Kept _ _ _ => hz; clear hz)); (repeat (with_reducible rename Heap.get? _ _ = _ => hz; clear hz)); (repeat (with_reducible rename @LE.le Nat _ _ _ => hz; clear hz)); (repeat (with_reducible rename IsRange _ _ _ _ _ _ _ _ => hz; clear hz)); (repeat (with_reducible rename Obj.IsDictOf _ _ _ => hz; clear hz)); (repeat (with_reducible rename AllLt _ _ => hz; clear hz)); (repeat (with_reducible rename IntsAre _ _ => hz; clear hz)); (repeat (with_reducible rename PyProof.V.FlatPairs _ _ _ => hz; clear hz)); (repeat (with_reducible rename Heap.IsList _ _ _ => hz; clear hz)); (repeat (with_reducible rename ReadsAll _ _ _ _ => hz; clear hz)); (repeat (with_reducible rename @LT.lt Int _ _ _ => hz; clear hz)); (repeat (with_reducible rename @LE.le Int _ _ _ => hz; clear hz)); (repeat (with_reducible rename _ ∨ _ => hz; clear hz)))
  k_with "q_no" => (exact notin2' (by k_ne) (by k_ne))
  k_with "q_fr" => (first | exact List.forall_mem_nil _ | (refine List.forall_mem_cons.mpr ⟨⟨_, by k_mem⟩, ?_⟩; k_extra "q_fr"))
  k_with "k_ne" => (refine neN ?_; (try dsimp only); k_extra "ne")
  k_with "ne" => (first | with_reducible assumption | exact Nat.ne_of_lt (AllLt.get (by with_reducible assumption) (by k_mem)) | exact Nat.ne_of_gt (AllLt.get (by with_reducible assumption) (by k_mem)) | exact Ne.symm (by with_reducible assumption) | exact Nat.ne_of_gt (AllLt.get2 (by with_reducible assumption) (by with_reducible assumption) (by k_mem)) | exact Nat.ne_of_lt (AllLt.get2 (by with_reducible assumption) (by with_reducible assumption) (by k_mem)) | exact Nat.ne_of_lt (by with_reducible assumption) | exact Nat.ne_of_gt (by with_reducible assumption) | omega)
  k_with "subscriptTail" => (k_here; k_dflt (refine' item_tupleT (by first | exact isTup_P (by assumption) (by assumption) (by assumption) | exact isTup_base (by assumption) (by assumption) | exact isTup_now (by assumption)) (by decide) (by decide) (by rfl) (by rfl) ?_; k_whole))
  k_with "spliced" => (k_here; (with_reducible show wpAny _ _ (spliced (backTo _ (starEach (_ :: _) _))) _ _ _); k_dflt (refine' svs_r (by k_asm) (by exact rfl) ?_ (by rfl); k_whole))
  k_with "execs cons" => (k_here; (with_reducible show wpAny _ _ (execs (Stmt.If _ _ [] _ :: _) _) _ _ _); k_dflt (refine' if_n (by k_asm) (by exact rfl) ?_ (by rfl); k_whole))
  k_with "exec If" => (k_here; k_dflt (first | (refine' if_f (by k_asm) (by exact rfl) ?_ (by rfl); k_whole) | (refine' if_t (by k_asm) (by exact rfl) ?_ (by rfl); k_whole)))
  k_with "eval Call" => (k_here; (with_reducible show wpAny _ _ (eval (Expr.Call (Expr.Name _ _) (_ :: _) [] _) _) _ _ _); k_dflt (refine' call_sv (by k_asm) (by k_asm) (by k_asm) (by k_is) (by k_is) (by exact rfl) ?_ (by rfl) (by rfl) (by decide) (by rfl) (by rfl); k_whole))
  k_with "eval Subscript" => (k_here; k_dflt (refine' sub_sv (by k_asm) (by exact rfl) (by exact rfl) (by first | exact isTup_P (by assumption) (by assumption) (by assumption) | exact isTup_base (by assumption) (by assumption) | exact isTup_now (by assumption)) (by decide) (by decide) (by rfl) (by rfl) ?_ (by with_unfolding_all rfl) (by rfl); k_whole))
  k_with "k_steps" => ((try k_fold); repeat' (first | (k_unfold; (try dsimp only)) | (k_end; wrow_close) | walk1 | (dsimp only; walk1) | (leave1; walk_say "STEP leave1"; try dsimp only) | fail "no step"))
  k_with "k_memR" => (first | with_reducible exact List.mem_cons_self .. | with_reducible assumption | (with_reducible refine List.mem_cons_of_mem _ ?_; k_extra "k_memR"))
  k_with "k_memD" => (first | exact List.mem_cons_self .. | with_reducible assumption | (refine List.mem_cons_of_mem _ ?_; k_extra "k_memD"))
  k_with "k_mem" => (first | k_extra "k_memR" | k_extra "k_memD")
  k_with "k_all" => (first | exact List.forall_mem_nil _ | ((with_reducible refine' List.forall_mem_cons.mpr (And.intro ?_ ?_)); k_ne; k_all) | with_reducible assumption | exact OwnOff.ne (by with_reducible assumption) (by k_extra "k_memR") | exact allLt_ne (by with_reducible assumption) | exact allLt_nes (by with_reducible assumption) (by intro p9 hp9; k_extra "k_memR") | exact OwnOff.ne (by assumption) (by k_mem) | ((refine' List.forall_mem_cons.mpr (And.intro ?_ ?_)); k_ne; k_all) | exact allLt_nes (by with_reducible assumption) (by intro p9 hp9; k_mem))
  trivial
theorem reg_P3_1 : True := by
  k_with "call ref" => (k_here; k_dflt ((try k_fold); refine' Does.stop (children_does (by exact base_now (by assumption) (by assumption)) (by assumption)) (by k_asm) (by k_asm) (by k_asm) (by k_asm) (by first | exact rfl | assumption) (by exact List.forall_mem_nil _) (by ktr_room) (by ktr_units) ?_))
  trivial

noncomputable def SubI (P : Addr → List Value → Prop) (e : Ex) (c : (List Value × Nat × List Ex) × (List Value × Nat × List Ex)) (_ : Heap) : Prop :=
  All2 (ExR P) c.1.1 c.1.2.2 ∧ All2 (ExR P) c.2.1 c.2.2.2 ∧ c.1.2.2 ++ (c.2.2.2.reverse.flatMap Ex.pre) = e.pre

theorem sub_step {ds es : List Ex} {d : Ex} {all : List Ex} (hE : ds ++ ((es ++ [d]).reverse.flatMap Ex.pre) = all) : (ds ++ [d]) ++ ((es ++ d.kids.reverse).reverse.flatMap Ex.pre) = all := by
  rw [← hE]
  simp only [List.reverse_append, List.reverse_reverse, List.reverse_cons, List.reverse_nil, List.nil_append, List.flatMap_append, List.flatMap_cons, List.append_assoc, List.cons_append]
  rw [Ex.pre_kids d]
  simp
theorem sub_mea {es : List Ex} {d : Ex} : ((es ++ d.kids.reverse).map Ex.size).sum < ((es ++ [d]).map Ex.size).sum := by
  have := Ex.size_kids d
  simp only [List.map_append, List.sum_append, List.map_cons, List.map_nil, List.sum_cons, List.sum_nil, List.map_reverse, List.sum_reverse]
  omega

set_option maxHeartbeats 4000000 in
theorem subexpr_does {w : World} {mean : ExcName → Option Value} {mg mb : Str → Option Value} {v : Value} {e : Ex} {h : Heap} {P : Addr → List Value → Prop} (hP : ∀ a vs, P a vs → TupAt h a vs) (hR : ExR P v e) (hsz : e.pre.length ≤ 1000) :
    Does w mean mg mb 49 [v] 8 200 h [] (fun r h' => ∃ l vs n, r = .ref l ∧ h.get? l = none ∧ h'.get? l = some (listOf vs.toArray n) ∧ All2 (ExR P) vs e.pre) := by
  unfold Does
  w_on
  k_fill
  intro dp un gd cn cs a ccd cl outer A₀ base h₀ L m s Q E ee B F X T hk hS hd hu hret
  subst ee
  have N : News h₀ L s.heap [] := News.nil
  clear hS
  refine wpAny_call ?_
  k_dflt k_extra "q_enter"
  intro g' L' h' hk' hne' F' N' B' X' T'; (try dsimp only); (try k_fold)
  have hPg : ∀ a vs, P a vs → TupAt g' a vs := fun a vs x => hk' _ _ (hP _ _ x) (by simp)
  have hW : StopWhile := ⟨⟩
  k_steps
  rename Fr _ _ _ _ => F1
  rename News _ _ _ _ => N1
  obtain ⟨stA, fA, hx1, hx2⟩ := news_two N1
  subst hx1 hx2
  refine Stop.of ?_
  k_dflt refine while_h (L := L') (adr := [stA, fA]) (tl₀ := []) (fun c : (List Value × Nat × List Ex) × (List Value × Nat × List Ex) => [(stA, listOf c.2.1.toArray c.2.2.1), (fA, listOf c.1.1.toArray c.1.2.1)])
    (fun _ => [(Str.ofString "stack", .ref stA), (Str.ofString "found", .ref fA)]) (SubI P e) (fun c => (c.2.2.2.map Ex.size).sum) (([], 0, []), ([v], 0, [e]))
    ?_ (fun _ => rfl) (fun _ _ _ _ x => x) F1 N1 (fun _ h => nomatch h) ?_ ?_ ?_
  · intro c p hp; simp only [List.mem_cons, List.not_mem_nil, or_false] at hp; rcases hp with rfl | rfl <;> (dsimp only; decide)
  · intro p hp; simp only [List.mem_cons, List.not_mem_nil, or_false] at hp; rcases hp with rfl | rfl <;> rfl
  · exact ⟨.nil, .one hR, by simp⟩
  intro x91 u h tk tl F2 N2 O2 C2 TC2 _ x92
  (try dsimp only); (try k_fold)
  obtain ⟨⟨fs, nf, ds⟩, ss, ns, es⟩ := x91
  obtain ⟨hA, hB, hE⟩ := x92
  dsimp only [pin, List.cons_append, List.nil_append] at F2 N2 O2 hA hB hE ⊢
  clear F1 N1 hW
  rcases snoc_cases es with rfl | ⟨es, d, rfl⟩
  · cases hB
    k_steps
    refine ⟨_, F2, fun k9 => hret _ _ _ k9 ⟨fA, fs, nf, rfl, fresh_of hk' N2 (by k_mem) (by simp), N2.get (by k_mem), ?_⟩⟩
    simp only [List.reverse_nil, List.flatMap_nil, List.append_nil] at hE
    rw [← hE]; exact hA
  · obtain ⟨ss, x, rfl, hB, hx⟩ := hB.snocR
    have hbd : fs.length ≤ 1000 ∧ ss.length ≤ 1000 := by
      have h1 := hA.length
      have h2 := hB.length
      have h3 := flat_len (es ++ [d]).reverse
      have h4 := congrArg List.length hE
      simp only [List.length_append, List.length_reverse, List.length_cons, List.length_nil] at h3 h4
      omega
    obtain ⟨hl1, hl2⟩ := hbd
    k_steps
    unfold Stop
    rename Fr _ _ _ _ => F3
    rename News _ _ _ _ => N3
    intro r h2 tk2 hK ⟨t, us, e1, hf, hT, hU⟩
    subst e1
    refine' after (S := []) (.miss (fun _ h => nomatch h) (.miss (fun _ h => nomatch h) .nil)) F3 N3 hK (fun _ h => nomatch h) (fun _ h => nomatch h) (by simp) ?_
    intro tl2 F4 N4 O4 C4 TC4 hs4
    dsimp only [List.map] at N4 O4 C4 hs4
    have hmem : (t, tup us) ∈ tl2 := TC4.mem F3 hf hT
    clear F3 N3
    have hFo : StopFor := ⟨⟩
    have hk0 : us.length ≤ 2 := by rw [hU.length]; cases d <;> simp [Ex.kids]
    k_steps
    rename Fr _ _ _ _ => F5
    rename News _ _ _ _ => N5
    rename _ ∧ _ => l5
    refine Stop.of ?_
    have two : ∀ (a b : Obj) p, p ∈ [(stA, a), (fA, b)] → a.cls = .type "list" → b.cls = .type "list" → p.2.cls ≠ .type "tuple" := by
      intro a b p hp ha hb
      simp only [List.mem_cons, List.not_mem_nil, or_false] at hp
      rcases hp with rfl | rfl
      · show a.cls ≠ _; rw [ha]; decide
      · show b.cls ≠ _; rw [hb]; decide
    k_dflt refine for_rvt (vs := us) (adr := [stA, fA]) (tl₀ := tl2) (fun c : List Value × Nat => [(stA, listOf c.1.toArray c.2), (fA, listOf (fs ++ [x]).toArray (nf + 1))]) (fun _ => [(Str.ofString "stack", .ref stA), (Str.ofString "found", .ref fA)])
      (fun i c _ => c.1 = ss ++ us.reverse.take i) (ss, ns + 1) rfl (N5 (t, tup us) (by k_mem)).1 (N5 _ (.head _)).1 (N5 _ (.head _)).2.2 (fun q => O4 _ hmem _ q rfl) ?_ (by omega) (fun c p hp => two _ _ p hp rfl rfl) (fun _ => rfl) (fun _ _ _ _ _ x => x) F5 (fun p hp => N5 p (.tail _ hp)) O4 (allLt_ne l5.2.2) ?_ (by simp) ?_ ?_
    · intro q; simp only [List.mem_cons, List.not_mem_nil, or_false] at q; exact q.elim (fun q => Nat.ne_of_gt l5.1 q) fun q => Nat.ne_of_gt l5.2.1 q
    · intro p hp; simp only [List.mem_cons, List.not_mem_nil, or_false] at hp; rcases hp with rfl | rfl <;> rfl
    · intro i y x93 u h3 tk3 tl3 hi hy F6 N6 O6 C6 TC6 hs6 hI6
      (try dsimp only); (try k_fold)
      obtain ⟨cs, cn⟩ := x93
      clear F5 N5 F4 N4
      dsimp only [pin, List.cons_append, List.nil_append] at F6 N6 O6 hI6 ⊢
      have hcl : cs.length ≤ 1002 := by rw [hI6, List.length_append, List.length_take, List.length_reverse]; omega
      k_steps
      rename Fr _ _ _ _ => F7
      rename News _ _ _ _ => N7
      refine FEnd.nx (cs ++ [y], cn + 1) tl3 F7 N7 (fun _ h => h) ?_ ?_
      · intro p hp; simp only [List.mem_cons, List.not_mem_nil, or_false] at hp; rcases hp with rfl | rfl <;> rfl
      · show cs ++ [y] = _
        rw [hI6, List.take_add_one, hy, List.append_assoc]; rfl
    · intro x94 u h3 tk3 tl3 F6 N6 O6 C6 TC6 hs6 hI6
      (try dsimp only); (try k_fold)
      obtain ⟨cs, cn⟩ := x94
      clear F5 N5 F4 N4
      dsimp only [pin, List.cons_append, List.nil_append] at F6 N6 O6 hI6 ⊢
      k_steps
      refine WEnd.nx ((fs ++ [x], nf + 1, ds ++ [d]), (cs, cn, es ++ d.kids.reverse)) tl3 F6 N6 ?_ ?_ ⟨hA.append (.one hx), ?_, sub_step hE⟩ sub_mea
      · intro p hp
        refine hs6 p (hs4 p (by k_mem) (by simp) ?_)
        exact fun q => O2 p hp _ q rfl
      · intro p hp; simp only [List.mem_cons, List.not_mem_nil, or_false] at hp; rcases hp with rfl | rfl <;> rfl
      · rw [hI6, ← List.length_reverse, List.take_length]
        exact hB.append hU.reverse

end
section
theorem reg_P4_0 : True := by
  k_with_none
  k_with "q_enter" => (refine' enterQ (by k_asm) (by k_asm) (by k_asm) (by k_asm) (by k_asm) (by exact rfl) (by exact rfl) (by assumption) (by k_is) (by k_is) (by ktr_room) (by exact BindsTo.of_eq rfl) (by exact locs rfl) ?_ (by exact rfl) (by exact rfl) (by exact rfl) (by decide); k_whole)
  k_with "units_room" => (ktr_units)
  k_with "q_len" => (rw [PySem.sizeLine_eq]; (try simp only [List.length_append, List.length_cons, List.length_nil]); omega)
  k_with "call builtin:list.append" => (k_here; k_dflt (refine' append_L (by k_asm) (by k_asm) (by k_upd) (by k_extra "q_len") ?_; (intro h' F' N'; (try dsimp only [List.nil_append, List.cons_append] at N'))))
  k_with "call builtin:list.pop" => (k_here; k_dflt (refine' pop_L (by k_asm) (by k_asm) (by k_upd) (by k_extra "q_len") ?_; (intro h' F' N'; (try dsimp only [List.nil_append, List.cons_append] at N'))))
  k_with "truthy ref" => (k_here; k_dflt (refine' truthy_L (by k_asm) (by k_mem) (by k_extra "q_len") ?_))
  k_with "exec While" => ((have hSt := (by with_reducible assumption : StopWhile)); clear hSt; refine Stop.of ?_)
  k_with "pyIter ref" => ((have hSt := (by with_reducible assumption : StopFor)); clear hSt; refine Stop.of ?_)
  k_with "call type:reversed" => (k_here; k_dflt (refine' rvt_L (by k_asm) (by k_asm) (by exact isTup_now (News.get (by assumption) (by k_mem))) (by ((try simp only [List.length_cons, List.length_nil]); omega)) ?_; (intro I' h' tk' F' N' l1; (try k_lt l1))))
  k_with "call builtin:list.extend" => (k_here; k_dflt (refine' extend_L (by k_asm) (by k_asm) (by (intro o'; k_upd)) (by first | assumption | exact News.get (by assumption) (by k_mem)) (by k_extra "q_len") ?_; (intro h' n' F' N'; (try dsimp only [List.nil_append, List.cons_append] at N'))))
  k_with "call type:list" => (k_here; k_dflt (refine' listT_L (by k_asm) (by k_asm) (by first | exact isTup_P (by assumption) (by assumption) (by assumption) | exact isTup_base (by assumption) (by assumption)) (by k_extra "q_len") ?_; (intro D' c' h' F' N' l1; (try k_lt l1))))
  k_with "exec For" => ((have hSt := (by with_reducible assumption : StopFor)); clear hSt; k_here; (rename Fr _ _ _ _ => lF'); (with_unfolding_all refine' For_invVF lF' (by exact rfl) (by exact rfl) ?_; k_whole))
  k_with "CompSrcT" => (k_here; (have hSt := (by with_reducible assumption : StopComp)); clear hSt; k_dflt (refine LCt.CompSrcT.ledger (by rfl) (by k_asm) (by k_asm) (by k_mem) (by (try rw [List.size_toArray]); k_extra "q_len") ?_); refine Stop.of ?_)
  k_with "CompSrc" => (k_here; (have hSt := (by with_reducible assumption : StopComp)); clear hSt; k_dflt (refine LCg.CompSrc.ledger (by rfl) (by k_asm) (by k_asm) (by k_mem) (by (try rw [List.size_toArray]); k_extra "q_len") ?_); refine Stop.of ?_)
  k_with "CompEnd" => ((have hSt := (by with_reducible assumption : StopComp)); clear hSt; refine Stop.of ?_)
  k_with "q_clean" => ((repeat (with_reducible rename Fr _ _ _ _ => hz; clear hz)); (repeat (with_reducible rename News _ _ _ _ => hz; clear hz)); (repeat (with_reducible rename _ ∧ _ => hz; clear hz)); (repeat (with_reducible rename @LT.lt Nat _ _ _ => hz; clear hz)); (repeat (with_reducible rename OwnOff _ _ => hz; clear hz)); (repeat (with_reducible rename Cov _ _ _ _ _ => hz; clear hz)); (repeat (with_reducible rename TCov _ _ _ => hz; clear hz)); (repeat (with_reducible rename _ ∈ _ => hz; clear hz)); (repeat (with_reducible rename SigEs _ _ _ _ => hz; clear hz)); (repeat (with_reducible rename ∀ p ∈ _, p ∈ _ => hz; clear hz)); (repeat (with_reducible rename @Ne Nat _ _ => hz; clear hz)); (repeat (with_reducible rename getL _ _ = _ => hz; clear hz)); (repeat (with_reducible rename _ = Data.cell _ => hz; clear hz)); (repeat (with_reducible rename StopFor => hz; clear hz)); (repeat (with_reducible rename Kept _ _ _ => hz; clear hz)); (repeat (with_reducible rename Heap.get? _ _ = _ => hz; clear hz)); (repeat (with_reducible rename @LE.le Nat _ _ _ => hz; clear hz)); (repeat (with_reducible rename IsRange _ _ _ _ _ _ _ _ => hz; clear hz)); (repeat (with_reducible rename Obj.IsDictOf _ _ _ => hz; clear hz)); (repeat (with_reducible rename AllLt _ _ => hz; clear hz)); (repeat (with_reducible rename IntsAre _ _ => hz; clear hz)); (repeat (with_reducible rename PyProof.V.FlatPairs _ _ _ => hz; clear hz)); (repeat (with_reducible rename Heap.IsList _ _ _ => hz; clear hz)); (repeat (with_reducible rename ReadsAll _ _ _ _ => hz; clear hz)); (repeat (with_reducible rename @LT.lt Int _ _ _ => hz; clear hz)); (repeat (with_reducible rename @LE.le Int _ _ _ => hz; clear hz)); (repeat (with_reducible rename _ ∨ _ => hz; clear hz)))
  k_with "q_no" => (exact notin2' (by k_ne) (by k_ne))
  k_with "q_fr" => (first | exact List.forall_mem_nil _ | (refine List.forall_mem_cons.mpr ⟨⟨_, by k_mem⟩, ?_⟩; k_extra "q_fr"))
  k_with "k_ne" => (refine neN ?_; (try dsimp only); k_extra "ne")
  k_with "ne" => (first | with_reducible assumption | exact Nat.ne_of_lt (AllLt.get (by with_reducible assumption) (by k_mem)) | exact Nat.ne_of_gt (AllLt.get (by with_reducible assumption) (by k_mem)) | exact Ne.symm (by with_reducible assumption) | exact Nat.ne_of_gt (AllLt.get2 (by with_reducible assumption) (by with_reducible assumption) (by k_mem)) | exact Nat.ne_of_lt (AllLt.get2 (by with_reducible assumption) (by with_reducible assumption) (by k_mem)) | exact Nat.ne_of_lt (by with_reducible assumption) | exact Nat.ne_of_gt (by with_reducible assumption) | omega)
  k_with "subscriptTail" => (k_here; k_dflt (refine' item_tupleT (by first | exact isTup_P (by assumption) (by assumption) (by assumption) | exact isTup_base (by assumption) (by assumption) | exact isTup_now (by assumption)) (by decide) (by decide) (by rfl) (by rfl) ?_; k_whole))
  k_with "spliced" => (k_here; (with_reducible show wpAny _ _ (spliced (backTo _ (starEach (_ :: _) _))) _ _ _); k_dflt (refine' svs_r (by k_asm) (by exact rfl) ?_ (by rfl); k_whole))
  k_with "execs cons" => (k_here; (with_reducible show wpAny _ _ (execs (Stmt.If _ _ [] _ :: _) _) _ _ _); k_dflt (refine' if_n (by k_asm) (by exact rfl) ?_ (by rfl); k_whole))
  k_with "exec If" => (k_here; k_dflt (first | (refine' if_f (by k_asm) (by exact rfl) ?_ (by rfl); k_whole) | (refine' if_t (by k_asm) (by exact rfl) ?_ (by rfl); k_whole)))
  k_with "eval Call" => (k_here; (with_reducible show wpAny _ _ (eval (Expr.Call (Expr.Name _ _) (_ :: _) [] _) _) _ _ _); k_dflt (refine' call_sv (by k_asm) (by k_asm) (by k_asm) (by k_is) (by k_is) (by exact rfl) ?_ (by rfl) (by rfl) (by decide) (by rfl) (by rfl); k_whole))
  k_with "eval Subscript" => (k_here; k_dflt (refine' sub_sv (by k_asm) (by exact rfl) (by exact rfl) (by first | exact isTup_P (by assumption) (by assumption) (by assumption) | exact isTup_base (by assumption) (by assumption) | exact isTup_now (by assumption)) (by decide) (by decide) (by rfl) (by rfl) ?_ (by with_unfolding_all rfl) (by rfl); k_whole))
  k_with "k_steps" => ((try k_fold); repeat' (first | (k_unfold; (try dsimp only)) | (k_end; wrow_close) | walk1 | (dsimp only; walk1) | (leave1; walk_say "STEP leave1"; try dsimp only) | fail "no step"))
  k_with "k_memR" => (first | with_reducible exact List.mem_cons_self .. | with_reducible assumption | (with_reducible refine List.mem_cons_of_mem _ ?_; k_extra "k_memR"))
  k_with "k_memD" => (first | exact List.mem_cons_self .. | with_reducible assumption | (refine List.mem_cons_of_mem _ ?_; k_extra "k_memD"))
  k_with "k_mem" => (first | k_extra "k_memR" | k_extra "k_memD")
  k_with "k_all" => (first | exact List.forall_mem_nil _ | ((with_reducible refine' List.forall_mem_cons.mpr (And.intro ?_ ?_)); k_ne; k_all) | with_reducible assumption | exact OwnOff.ne (by with_reducible assumption) (by k_extra "k_memR") | exact allLt_ne (by with_reducible assumption) | exact allLt_nes (by with_reducible assumption) (by intro p9 hp9; k_extra "k_memR") | exact OwnOff.ne (by assumption) (by k_mem) | ((refine' List.forall_mem_cons.mpr (And.intro ?_ ?_)); k_ne; k_all) | exact allLt_nes (by with_reducible assumption) (by intro p9 hp9; k_mem))
  trivial
theorem reg_P4_1 : True := by
  k_with "call ref" => (k_here; k_dflt ((try k_fold); refine' Does.stop (subexpr_does (by exact base_now (by assumption) (by assumption)) (by assumption) (by first | assumption | omega)) (by k_asm) (by k_asm) (by k_asm) (by k_asm) (by first | exact rfl | assumption) (by exact List.forall_mem_nil _) (by ktr_room) (by ktr_units) ?_))
  k_with "setItem ref int" => (k_here; k_dflt (refine' dk_put (by k_asm) (by k_asm) (by k_updF) (by assumption) (by omega) ?_); intro h' o' tk' F' N' hDK')
  k_with "call builtin:sorted" => (k_here; k_dflt (refine' dk_sorted (by rfl) (by k_asm) (by k_asm) (by k_mem) (by assumption) (by assumption) (by omega) ?_); refine Stop.of ?_)
  trivial

theorem keys_step {e d : Ex} {i : Nat} {ks ks' : List Int} (hd : e.pre[i]? = some d) (hk : ∀ k, k ∈ ks ↔ k ∈ (e.pre.take i).filterMap rkey) (h : ∀ k, k ∈ ks' ↔ k ∈ ks ∨ rkey d = some k) :
    ∀ k, k ∈ ks' ↔ k ∈ (e.pre.take (i + 1)).filterMap rkey := by
  intro k
  rw [h, hk, List.take_add_one, hd, List.filterMap_append, List.mem_append]
  refine or_congr Iff.rfl ?_
  simp only [Option.toList]
  cases hr : rkey d <;> simp [hr, eq_comm]
theorem keys_in {e : Ex} {i : Nat} {k : Int} (h : k ∈ (e.pre.take i).filterMap rkey) : k ∈ e.keys := by
  obtain ⟨d, h1, h2⟩ := List.mem_filterMap.mp h
  exact List.mem_filterMap.mpr ⟨d, List.mem_of_mem_take h1, h2⟩
set_option maxHeartbeats 4000000 in
theorem reads_does {w : World} {mean : ExcName → Option Value} {mg mb : Str → Option Value} {v : Value} {e : Ex} {h : Heap} {P : Addr → List Value → Prop} (hP : ∀ a vs, P a vs → TupAt h a vs) (hR : ExR P v e) (hsz : e.pre.length ≤ 1000) (hK : ∀ k ∈ e.keys, 0 ≤ k ∧ k < 5) :
    Does w mean mg mb 56 [v] 12 300 h [] (fun r h' => ∃ (l : Addr) (vs : List Value) (n : Nat) (ns : List Int), r = .ref l ∧ h.get? l = none ∧ h'.get? l = some (listOf vs.toArray n) ∧ IntsAre vs ns ∧ ns.Pairwise (fun x y => x ≤ y) ∧ ns.Nodup ∧ ∀ k, k ∈ ns ↔ k ∈ e.keys) := by
  unfold Does
  w_on
  k_fill
  intro dp un gd cn cs a ccd cl outer A₀ base h₀ L m s Q E ee B F X T hk hS hd hu hret
  subst ee
  have N : News h₀ L s.heap [] := News.nil
  clear hS
  refine wpAny_call ?_
  k_dflt k_extra "q_enter"
  intro g' L' h' hk' hne' F' N' B' X' T'; (try dsimp only); (try k_fold)
  have hPg : ∀ a vs, P a vs → TupAt g' a vs := fun a vs x => hk' _ _ (hP _ _ x) (by simp)
  k_steps
  unfold Stop
  rename Fr _ _ _ _ => F3
  rename News _ _ _ _ => N3
  rename (_ == sysModules) = false => hlo
  rename Obj.IsDictOf (PySem.intKind _ _) _ _ => hD0
  obtain ⟨dA, hx1⟩ := news_hd N3
  subst hx1
  intro r h2 tk2 hKp ⟨l, us, n, e1, hf, hl, hU⟩
  subst e1
  have hc0 := (dk_new hD0).cls
  refine' after (S := []) (.miss (fun _ h => nomatch h) .nil) F3 N3 hKp (fun _ h => nomatch h) (fun _ h => nomatch h) (by intro p hp; simp only [List.mem_singleton] at hp; subst hp; rw [hc0]; decide) ?_
  intro tl2 F4 N4 O4 C4 TC4 hs4
  dsimp only [List.map] at N4 O4 C4 hs4
  have hla : l ∉ [dA] := by
    intro q
    rw [List.mem_singleton] at q
    have := (N3 _ (.head _)).1
    rw [← q] at this
    rw [hf] at this
    cases this
  clear F3 N3
  k_dflt refine for_list (vs := us) (nn := n) (adr := [dA]) (tl₀ := tl2) (fun c : { o : Obj // o.cls = .type "dict" } × List Int => [(dA, c.1.1)]) (fun _ => [(Str.ofString "keys", .ref dA)])
    (fun i c _ => DK PySem.Challenge.rw_on0116_01.row.prog w c.1.1 c.2 ∧ ∀ k, k ∈ c.2 ↔ k ∈ (e.pre.take i).filterMap rkey) (⟨_, hc0⟩, []) rfl hl hla ?_ (fun _ => rfl) (fun _ _ _ _ _ x => x) F4 N4 O4 ?_ ⟨dk_new hD0, by simp⟩ ?_ ?_
  · intro c p hp; simp only [List.mem_singleton] at hp; subst hp; show c.1.1.cls ≠ _; rw [c.1.2]; decide
  · intro p hp; simp only [List.mem_singleton] at hp; subst hp; rfl
  · intro i y x91 u h3 tk3 tl3 hy F5 N5 O5 C5 TC5 hs5 x92
    (try dsimp only); (try k_fold)
    obtain ⟨⟨o, ho⟩, ks⟩ := x91
    obtain ⟨hDK, hk⟩ := x92
    dsimp only [pin, List.cons_append, List.nil_append] at F5 N5 O5 hDK hk ⊢
    clear F4 N4
    have hlen : ks.length ≤ 5 := nodup_len 5 ks hDK.nodup fun k q => hK k (keys_in ((hk k).mp q))
    obtain ⟨d, hd, hyr⟩ := hU.get hy
    cases hyr
    all_goals
      rename P _ _ => hT
      have hTg := hPg _ _ hT
      k_steps
      rename Fr _ _ _ _ => F7
      rename News _ _ _ _ => N7
    · refine FEnd.nx (⟨o, ho⟩, ks) tl3 F7 N7 (fun _ h => h) ?_ ⟨hDK, keys_step hd hk (by simp [rkey])⟩
      intro p hp; simp only [List.mem_singleton] at hp; subst hp; rfl
    · rename DK _ _ _ _ => hD9
      refine FEnd.nx (⟨_, hD9.cls⟩, putK ks _) tl3 F7 N7 (fun _ h => h) ?_ ⟨hD9, keys_step hd hk fun k => mem_putK.trans (by simp [rkey, eq_comm])⟩
      intro p hp; simp only [List.mem_singleton] at hp; subst hp; rfl
    · rename DK _ _ _ _ => hD9
      refine FEnd.nx (⟨_, hD9.cls⟩, putK ks _) tl3 F7 N7 (fun _ h => h) ?_ ⟨hD9, keys_step hd hk fun k => mem_putK.trans (by simp [rkey, eq_comm])⟩
      intro p hp; simp only [List.mem_singleton] at hp; subst hp; rfl
    · refine FEnd.nx (⟨o, ho⟩, ks) tl3 F7 N7 (fun _ h => h) ?_ ⟨hDK, keys_step hd hk (by simp [rkey])⟩
      intro p hp; simp only [List.mem_singleton] at hp; subst hp; rfl
  · intro x93 u h3 tk3 tl3 F5 N5 O5 C5 TC5 hs5 x94
    (try dsimp only); (try k_fold)
    obtain ⟨⟨o, ho⟩, ks⟩ := x93
    obtain ⟨hDK, hk⟩ := x94
    dsimp only [pin, List.cons_append, List.nil_append] at F5 N5 O5 hDK hk ⊢
    clear F4 N4
    have hlen : ks.length ≤ 5 := nodup_len 5 ks hDK.nodup fun k q => hK k (keys_in ((hk k).mp q))
    k_steps
    unfold Stop
    intro B h4 tk4 vs' ns c F6 N6 l6 hi hp ho'
    k_steps
    refine ⟨_, F6, fun k9 => hret _ _ _ k9 ⟨B, vs', c, ns, rfl, fresh_of hk' N6 (.head _) (by simp), (N6 _ (.head _)).1, hi, ho', hp.nodup_iff.mpr hDK.nodup, fun k => ?_⟩⟩
    rw [hp.mem_iff, hk]
    have e : e.pre.take us.length = e.pre := by rw [hU.length, List.take_length]
    rw [e]; rfl

end
section
theorem reg_P5_0 : True := by
  k_with_none
  k_with "q_enter" => (refine' enterQ (by k_asm) (by k_asm) (by k_asm) (by k_asm) (by k_asm) (by exact rfl) (by exact rfl) (by assumption) (by k_is) (by k_is) (by ktr_room) (by exact BindsTo.of_eq rfl) (by exact locs rfl) ?_ (by exact rfl) (by exact rfl) (by exact rfl) (by decide); k_whole)
  k_with "units_room" => (ktr_units)
  k_with "q_len" => (rw [PySem.sizeLine_eq]; (try simp only [List.length_append, List.length_cons, List.length_nil]); omega)
  k_with "call builtin:list.append" => (k_here; k_dflt (refine' append_L (by k_asm) (by k_asm) (by k_upd) (by k_extra "q_len") ?_; (intro h' F' N'; (try dsimp only [List.nil_append, List.cons_append] at N'))))
  k_with "call builtin:list.pop" => (k_here; k_dflt (refine' pop_L (by k_asm) (by k_asm) (by k_upd) (by k_extra "q_len") ?_; (intro h' F' N'; (try dsimp only [List.nil_append, List.cons_append] at N'))))
  k_with "truthy ref" => (k_here; k_dflt (refine' truthy_L (by k_asm) (by k_mem) (by k_extra "q_len") ?_))
  k_with "exec While" => ((have hSt := (by with_reducible assumption : StopWhile)); clear hSt; refine Stop.of ?_)
  k_with "pyIter ref" => ((have hSt := (by with_reducible assumption : StopFor)); clear hSt; refine Stop.of ?_)
  k_with "call type:reversed" => (k_here; k_dflt (refine' rvt_L (by k_asm) (by k_asm) (by exact isTup_now (News.get (by assumption) (by k_mem))) (by ((try simp only [List.length_cons, List.length_nil]); omega)) ?_; (intro I' h' tk' F' N' l1; (try k_lt l1))))
  k_with "call builtin:list.extend" => (k_here; k_dflt (refine' extend_L (by k_asm) (by k_asm) (by (intro o'; k_upd)) (by first | assumption | exact News.get (by assumption) (by k_mem)) (by k_extra "q_len") ?_; (intro h' n' F' N'; (try dsimp only [List.nil_append, List.cons_append] at N'))))
  k_with "call type:list" => (k_here; k_dflt (refine' listT_L (by k_asm) (by k_asm) (by first | exact isTup_P (by assumption) (by assumption) (by assumption) | exact isTup_base (by assumption) (by assumption)) (by k_extra "q_len") ?_; (intro D' c' h' F' N' l1; (try k_lt l1))))
  k_with "exec For" => ((have hSt := (by with_reducible assumption : StopFor)); clear hSt; k_here; (rename Fr _ _ _ _ => lF'); (with_unfolding_all refine' For_invVF lF' (by exact rfl) (by exact rfl) ?_; k_whole))
  k_with "CompSrcT" => (k_here; (have hSt := (by with_reducible assumption : StopComp)); clear hSt; k_dflt (refine LCt.CompSrcT.ledger (by rfl) (by k_asm) (by k_asm) (by k_mem) (by (try rw [List.size_toArray]); k_extra "q_len") ?_); refine Stop.of ?_)
  k_with "CompSrc" => (k_here; (have hSt := (by with_reducible assumption : StopComp)); clear hSt; k_dflt (refine LCg.CompSrc.ledger (by rfl) (by k_asm) (by k_asm) (by k_mem) (by (try rw [List.size_toArray]); k_extra "q_len") ?_); refine Stop.of ?_)
  k_with "CompEnd" => ((have hSt := (by with_reducible assumption : StopComp)); clear hSt; refine Stop.of ?_)
  k_with "q_clean" => ((repeat (with_reducible rename Fr _ _ _ _ => hz; clear hz)); (repeat (with_reducible rename News _ _ _ _ => hz; clear hz)); (repeat (with_reducible rename _ ∧ _ => hz; clear hz)); (repeat (with_reducible rename @LT.lt Nat _ _ _ => hz; clear hz)); (repeat (with_reducible rename OwnOff _ _ => hz; clear hz)); (repeat (with_reducible rename Cov _ _ _ _ _ => hz; clear hz)); (repeat (with_reducible rename TCov _ _ _ => hz; clear hz)); (repeat (with_reducible rename _ ∈ _ => hz; clear hz)); (repeat (with_reducible rename SigEs _ _ _ _ => hz; clear hz)); (repeat (with_reducible rename ∀ p ∈ _, p ∈ _ => hz; clear hz)); (repeat (with_reducible rename @Ne Nat _ _ => hz; clear hz)); (repeat (with_reducible rename getL _ _ = _ => hz; clear hz)); (repeat (with_reducible rename _ = Data.cell _ => hz; clear hz)); (repeat (with_reducible rename StopFor => hz; clear hz)); (repeat (with_reducible rename Kept _ _ _ => hz; clear hz)); (repeat (with_reducible rename Heap.get? _ _ = _ => hz; clear hz)); (repeat (with_reducible rename @LE.le Nat _ _ _ => hz; clear hz)); (repeat (with_reducible rename IsRange _ _ _ _ _ _ _ _ => hz; clear hz)); (repeat (with_reducible rename Obj.IsDictOf _ _ _ => hz; clear hz)); (repeat (with_reducible rename AllLt _ _ => hz; clear hz)); (repeat (with_reducible rename IntsAre _ _ => hz; clear hz)); (repeat (with_reducible rename PyProof.V.FlatPairs _ _ _ => hz; clear hz)); (repeat (with_reducible rename Heap.IsList _ _ _ => hz; clear hz)); (repeat (with_reducible rename ReadsAll _ _ _ _ => hz; clear hz)); (repeat (with_reducible rename @LT.lt Int _ _ _ => hz; clear hz)); (repeat (with_reducible rename @LE.le Int _ _ _ => hz; clear hz)); (repeat (with_reducible rename _ ∨ _ => hz; clear hz)))
  k_with "q_no" => (exact notin2' (by k_ne) (by k_ne))
  k_with "q_fr" => (first | exact List.forall_mem_nil _ | (refine List.forall_mem_cons.mpr ⟨⟨_, by k_mem⟩, ?_⟩; k_extra "q_fr"))
  k_with "k_ne" => (refine neN ?_; (try dsimp only); k_extra "ne")
  k_with "ne" => (first | with_reducible assumption | exact Nat.ne_of_lt (AllLt.get (by with_reducible assumption) (by k_mem)) | exact Nat.ne_of_gt (AllLt.get (by with_reducible assumption) (by k_mem)) | exact Ne.symm (by with_reducible assumption) | exact Nat.ne_of_gt (AllLt.get2 (by with_reducible assumption) (by with_reducible assumption) (by k_mem)) | exact Nat.ne_of_lt (AllLt.get2 (by with_reducible assumption) (by with_reducible assumption) (by k_mem)) | exact Nat.ne_of_lt (by with_reducible assumption) | exact Nat.ne_of_gt (by with_reducible assumption) | omega)
  k_with "subscriptTail" => (k_here; k_dflt (refine' item_tupleT (by first | exact isTup_P (by assumption) (by assumption) (by assumption) | exact isTup_base (by assumption) (by assumption) | exact isTup_now (by assumption)) (by decide) (by decide) (by rfl) (by rfl) ?_; k_whole))
  k_with "spliced" => (k_here; (with_reducible show wpAny _ _ (spliced (backTo _ (starEach (_ :: _) _))) _ _ _); k_dflt (refine' svs_r (by k_asm) (by exact rfl) ?_ (by rfl); k_whole))
  k_with "execs cons" => (k_here; (with_reducible show wpAny _ _ (execs (Stmt.If _ _ [] _ :: _) _) _ _ _); k_dflt (refine' if_n (by k_asm) (by exact rfl) ?_ (by rfl); k_whole))
  k_with "exec If" => (k_here; k_dflt (first | (refine' if_f (by k_asm) (by exact rfl) ?_ (by rfl); k_whole) | (refine' if_t (by k_asm) (by exact rfl) ?_ (by rfl); k_whole)))
  k_with "eval Call" => (k_here; (with_reducible show wpAny _ _ (eval (Expr.Call (Expr.Name _ _) (_ :: _) [] _) _) _ _ _); k_dflt (refine' call_sv (by k_asm) (by k_asm) (by k_asm) (by k_is) (by k_is) (by exact rfl) ?_ (by rfl) (by rfl) (by decide) (by rfl) (by rfl); k_whole))
  k_with "eval Subscript" => (k_here; k_dflt (refine' sub_sv (by k_asm) (by exact rfl) (by exact rfl) (by first | exact isTup_P (by assumption) (by assumption) (by assumption) | exact isTup_base (by assumption) (by assumption) | exact isTup_now (by assumption)) (by decide) (by decide) (by rfl) (by rfl) ?_ (by with_unfolding_all rfl) (by rfl); k_whole))
  k_with "k_steps" => ((try k_fold); repeat' (first | (k_unfold; (try dsimp only)) | (k_end; wrow_close) | walk1 | (dsimp only; walk1) | (leave1; walk_say "STEP leave1"; try dsimp only) | fail "no step"))
  k_with "k_memR" => (first | with_reducible exact List.mem_cons_self .. | with_reducible assumption | (with_reducible refine List.mem_cons_of_mem _ ?_; k_extra "k_memR"))
  k_with "k_memD" => (first | exact List.mem_cons_self .. | with_reducible assumption | (refine List.mem_cons_of_mem _ ?_; k_extra "k_memD"))
  k_with "k_mem" => (first | k_extra "k_memR" | k_extra "k_memD")
  k_with "k_all" => (first | exact List.forall_mem_nil _ | ((with_reducible refine' List.forall_mem_cons.mpr (And.intro ?_ ?_)); k_ne; k_all) | with_reducible assumption | exact OwnOff.ne (by with_reducible assumption) (by k_extra "k_memR") | exact allLt_ne (by with_reducible assumption) | exact allLt_nes (by with_reducible assumption) (by intro p9 hp9; k_extra "k_memR") | exact OwnOff.ne (by assumption) (by k_mem) | ((refine' List.forall_mem_cons.mpr (And.intro ?_ ?_)); k_ne; k_all) | exact allLt_nes (by with_reducible assumption) (by intro p9 hp9; k_mem))
  trivial
set_option maxHeartbeats 4000000 in
theorem tidx_does {w : World} {mean : ExcName → Option Value} {mg mb : Str → Option Value} {v : Value} {o : Option Ex} {h : Heap} {P : Addr → List Value → Prop} (hP : ∀ a vs, P a vs → TupAt h a vs) (hR : LvR P v o) :
    Does w mean mg mb 63 [v] 4 100 h [] (fun r h' => ∃ (l : Addr) (vs : List Value) (n : Nat), r = .ref l ∧ h.get? l = none ∧ h'.get? l = some (listOf vs.toArray n) ∧ All2 (ExR P) vs o.toList) := by
  unfold Does
  w_on
  k_fill
  intro dp un gd cn cs a ccd cl outer A₀ base h₀ L m s Q E ee B F X T hk hS hd hu hret
  subst ee
  have N : News h₀ L s.heap [] := News.nil
  clear hS
  refine wpAny_call ?_
  have hFo : StopFor := ⟨⟩
  have one : ∀ (a : Addr) (b : Obj) p, p ∈ [(a, b)] → b.cls = .type "list" → p.2.cls ≠ .type "tuple" := by
    intro a b p hp hb; simp only [List.mem_singleton] at hp; subst hp; show b.cls ≠ _; rw [hb]; decide
  cases hR with
  | plain h1 h2 h3 h4 =>
    k_dflt k_extra "q_enter"
    intro g' L' h' hk' hne' F' N' B' X' T'; (try dsimp only); (try k_fold)
    have hPg : ∀ a vs, P a vs → TupAt g' a vs := fun a vs x => hk' _ _ (hP _ _ x) (by simp)
    have b1 := hPg _ _ h1
    have b2 := hPg _ _ h2
    have b3 := hPg _ _ h3
    have b4 := hPg _ _ h4
    k_steps
    rename Fr _ _ _ _ => F3
    rename News _ _ _ _ => N3
    obtain ⟨fA, hx1⟩ := news_hd N3
    subst hx1
    k_dflt refine for_tup (adr := [fA]) (tl₀ := []) (fun _ : Unit => [(fA, listOf #[] 0)]) (fun _ => [(Str.ofString "found", .ref fA)]) (fun _ _ _ => True) () rfl (F3.keep _ _ b2) (fun q => by rw [List.mem_singleton] at q; have h1 := (N3 _ (.head _)).2.2; rw [← q] at h1; unfold TupAt at b2; rw [h1] at b2; cases b2)
      (fun c p hp => one _ _ p hp rfl) (fun _ => rfl) (fun _ _ _ _ _ x => x) F3 N3 (fun _ h => nomatch h) ?_ trivial ?_ ?_
    · intro p hp; simp only [List.mem_singleton] at hp; subst hp; rfl
    · rintro i y - u h3 tk3 tl3 hy F5 N5 O5 C5 TC5 hs5 -
      dsimp only [pin, List.cons_append, List.nil_append] at F5 N5 O5 ⊢
      clear F3 N3
      rcases i with _ | i
      · simp only [List.getElem?_cons_zero, Option.some.injEq] at hy
        subst hy
        k_steps
        rename Fr _ _ _ _ => F7
        rename News _ _ _ _ => N7
        refine FEnd.nx () tl3 F7 N7 (fun _ h => h) ?_ trivial
        intro p hp; simp only [List.mem_singleton] at hp; subst hp; rfl
      · simp at hy
    · rintro - u h3 tk3 tl3 F5 N5 O5 C5 TC5 hs5 -
      dsimp only [pin, List.cons_append, List.nil_append] at F5 N5 O5 ⊢
      clear F3 N3
      k_steps
      refine ⟨_, F5, fun k9 => hret _ _ _ k9 ⟨fA, [], 0, rfl, fresh_of hk' N5 (.head _) (by simp), (N5 _ (.head _)).1, .nil⟩⟩
  | @index _ _ _ _ _ _ _ _ _ _ _ _ _ _ o' h1 h2 h3 h4 h5 h6 =>
    k_dflt k_extra "q_enter"
    intro g' L' h' hk' hne' F' N' B' X' T'; (try dsimp only); (try k_fold)
    have hPg : ∀ a vs, P a vs → TupAt g' a vs := fun a vs x => hk' _ _ (hP _ _ x) (by simp)
    have b1 := hPg _ _ h1
    have b2 := hPg _ _ h2
    have b3 := hPg _ _ h3
    have b4 := hPg _ _ h4
    have b5 := hPg _ _ h5
    k_steps
    rename Fr _ _ _ _ => F3
    rename News _ _ _ _ => N3
    obtain ⟨fA, hx1⟩ := news_hd N3
    subst hx1
    clear h1 h2 h3 h4 h5
    k_dflt refine for_tup (adr := [fA]) (tl₀ := []) (fun c : List Value × Nat => [(fA, listOf c.1.toArray c.2)]) (fun _ => [(Str.ofString "found", .ref fA)]) (fun i c _ => All2 (ExR P) c.1 (if i = 0 then [] else [o']) ∧ c.1.length = i) ([], 0) rfl (F3.keep _ _ b2) (fun q => by rw [List.mem_singleton] at q; have h1 := (N3 _ (.head _)).2.2; rw [← q] at h1; unfold TupAt at b2; rw [h1] at b2; cases b2)
      (fun c p hp => one _ _ p hp rfl) (fun _ => rfl) (fun _ _ _ _ _ x => x) F3 N3 (fun _ h => nomatch h) ?_ ⟨.nil, rfl⟩ ?_ ?_
    · intro p hp; simp only [List.mem_singleton] at hp; subst hp; rfl
    · intro i y x91 u h3 tk3 tl3 hy F5 N5 O5 C5 TC5 hs5 x92
      (try dsimp only); (try k_fold)
      obtain ⟨cs, cn⟩ := x91
      obtain ⟨hI, hl⟩ := x92
      dsimp only [pin, List.cons_append, List.nil_append] at F5 N5 O5 hI hl ⊢
      clear F3 N3
      rcases i with _ | i
      · simp only [List.getElem?_cons_zero, Option.some.injEq] at hy
        subst hy
        rw [if_pos rfl] at hI
        cases hI
        k_steps
        rename Fr _ _ _ _ => F7
        rename News _ _ _ _ => N7
        refine FEnd.nx ([_], _) tl3 F7 N7 (fun _ h => h) ?_ ⟨.one h6, rfl⟩
        intro p hp; simp only [List.mem_singleton] at hp; subst hp; rfl
      · simp at hy
    · intro x93 u h3 tk3 tl3 F5 N5 O5 C5 TC5 hs5 x94
      (try dsimp only); (try k_fold)
      obtain ⟨cs, cn⟩ := x93
      obtain ⟨hI, hl⟩ := x94
      dsimp only [pin, List.cons_append, List.nil_append] at F5 N5 O5 hI hl ⊢
      clear F3 N3
      k_steps
      refine ⟨_, F5, fun k9 => hret _ _ _ k9 ⟨fA, cs, cn, rfl, fresh_of hk' N5 (.head _) (by simp), (N5 _ (.head _)).1, ?_⟩⟩
      exact hI

end
section
theorem reg_P6_0 : True := by
  k_with_none
  k_with "q_enter" => (refine' enterQ (by k_asm) (by k_asm) (by k_asm) (by k_asm) (by k_asm) (by exact rfl) (by exact rfl) (by assumption) (by k_is) (by k_is) (by ktr_room) (by exact BindsTo.of_eq rfl) (by exact locs rfl) ?_ (by exact rfl) (by exact rfl) (by exact rfl) (by decide); k_whole)
  k_with "units_room" => (ktr_units)
  k_with "q_len" => (rw [PySem.sizeLine_eq]; (try simp only [List.length_append, List.length_cons, List.length_nil]); omega)
  k_with "call builtin:list.append" => (k_here; k_dflt (refine' append_L (by k_asm) (by k_asm) (by k_upd) (by k_extra "q_len") ?_; (intro h' F' N'; (try dsimp only [List.nil_append, List.cons_append] at N'))))
  k_with "call builtin:list.pop" => (k_here; k_dflt (refine' pop_L (by k_asm) (by k_asm) (by k_upd) (by k_extra "q_len") ?_; (intro h' F' N'; (try dsimp only [List.nil_append, List.cons_append] at N'))))
  k_with "truthy ref" => (k_here; k_dflt (refine' truthy_L (by k_asm) (by k_mem) (by k_extra "q_len") ?_))
  k_with "exec While" => ((have hSt := (by with_reducible assumption : StopWhile)); clear hSt; refine Stop.of ?_)
  k_with "pyIter ref" => ((have hSt := (by with_reducible assumption : StopFor)); clear hSt; refine Stop.of ?_)
  k_with "call type:reversed" => (k_here; k_dflt (refine' rvt_L (by k_asm) (by k_asm) (by exact isTup_now (News.get (by assumption) (by k_mem))) (by ((try simp only [List.length_cons, List.length_nil]); omega)) ?_; (intro I' h' tk' F' N' l1; (try k_lt l1))))
  k_with "call builtin:list.extend" => (k_here; k_dflt (refine' extend_L (by k_asm) (by k_asm) (by (intro o'; k_upd)) (by first | assumption | exact News.get (by assumption) (by k_mem)) (by k_extra "q_len") ?_; (intro h' n' F' N'; (try dsimp only [List.nil_append, List.cons_append] at N'))))
  k_with "call type:list" => (k_here; k_dflt (refine' listT_L (by k_asm) (by k_asm) (by first | exact isTup_P (by assumption) (by assumption) (by assumption) | exact isTup_base (by assumption) (by assumption)) (by k_extra "q_len") ?_; (intro D' c' h' F' N' l1; (try k_lt l1))))
  k_with "exec For" => ((have hSt := (by with_reducible assumption : StopFor)); clear hSt; k_here; (rename Fr _ _ _ _ => lF'); (with_unfolding_all refine' For_invVF lF' (by exact rfl) (by exact rfl) ?_; k_whole))
  k_with "CompSrcT" => (k_here; (have hSt := (by with_reducible assumption : StopComp)); clear hSt; k_dflt (refine LCt.CompSrcT.ledger (by rfl) (by k_asm) (by k_asm) (by k_mem) (by (try rw [List.size_toArray]); k_extra "q_len") ?_); refine Stop.of ?_)
  k_with "CompSrc" => (k_here; (have hSt := (by with_reducible assumption : StopComp)); clear hSt; k_dflt (refine LCg.CompSrc.ledger (by rfl) (by k_asm) (by k_asm) (by k_mem) (by (try rw [List.size_toArray]); k_extra "q_len") ?_); refine Stop.of ?_)
  k_with "CompEnd" => ((have hSt := (by with_reducible assumption : StopComp)); clear hSt; refine Stop.of ?_)
  k_with "q_clean" => ((repeat (with_reducible rename Fr _ _ _ _ => hz; clear hz)); (repeat (with_reducible rename News _ _ _ _ => hz; clear hz)); (repeat (with_reducible rename _ ∧ _ => hz; clear hz)); (repeat (with_reducible rename @LT.lt Nat _ _ _ => hz; clear hz)); (repeat (with_reducible rename OwnOff _ _ => hz; clear hz)); (repeat (with_reducible rename Cov _ _ _ _ _ => hz; clear hz)); (repeat (with_reducible rename TCov _ _ _ => hz; clear hz)); (repeat (with_reducible rename _ ∈ _ => hz; clear hz)); (repeat (with_reducible rename SigEs _ _ _ _ => hz; clear hz)); (repeat (with_reducible rename ∀ p ∈ _, p ∈ _ => hz; clear hz)); (repeat (with_reducible rename @Ne Nat _ _ => hz; clear hz)); (repeat (with_reducible rename getL _ _ = _ => hz; clear hz)); (repeat (with_reducible rename _ = Data.cell _ => hz; clear hz)); (repeat (with_reducible rename StopFor => hz; clear hz)); (repeat (with_reducible rename Kept _ _ _ => hz; clear hz)); (repeat (with_reducible rename Heap.get? _ _ = _ => hz; clear hz)); (repeat (with_reducible rename @LE.le Nat _ _ _ => hz; clear hz)); (repeat (with_reducible rename IsRange _ _ _ _ _ _ _ _ => hz; clear hz)); (repeat (with_reducible rename Obj.IsDictOf _ _ _ => hz; clear hz)); (repeat (with_reducible rename AllLt _ _ => hz; clear hz)); (repeat (with_reducible rename IntsAre _ _ => hz; clear hz)); (repeat (with_reducible rename PyProof.V.FlatPairs _ _ _ => hz; clear hz)); (repeat (with_reducible rename Heap.IsList _ _ _ => hz; clear hz)); (repeat (with_reducible rename ReadsAll _ _ _ _ => hz; clear hz)); (repeat (with_reducible rename @LT.lt Int _ _ _ => hz; clear hz)); (repeat (with_reducible rename @LE.le Int _ _ _ => hz; clear hz)); (repeat (with_reducible rename _ ∨ _ => hz; clear hz)))
  k_with "q_no" => (exact notin2' (by k_ne) (by k_ne))
  k_with "q_fr" => (first | exact List.forall_mem_nil _ | (refine List.forall_mem_cons.mpr ⟨⟨_, by k_mem⟩, ?_⟩; k_extra "q_fr"))
  k_with "k_ne" => (refine neN ?_; (try dsimp only); k_extra "ne")
  k_with "ne" => (first | with_reducible assumption | exact Nat.ne_of_lt (AllLt.get (by with_reducible assumption) (by k_mem)) | exact Nat.ne_of_gt (AllLt.get (by with_reducible assumption) (by k_mem)) | exact Ne.symm (by with_reducible assumption) | exact Nat.ne_of_gt (AllLt.get2 (by with_reducible assumption) (by with_reducible assumption) (by k_mem)) | exact Nat.ne_of_lt (AllLt.get2 (by with_reducible assumption) (by with_reducible assumption) (by k_mem)) | exact Nat.ne_of_lt (by with_reducible assumption) | exact Nat.ne_of_gt (by with_reducible assumption) | omega)
  k_with "subscriptTail" => (k_here; k_dflt (refine' item_tupleT (by first | exact isTup_P (by assumption) (by assumption) (by assumption) | exact isTup_base (by assumption) (by assumption) | exact isTup_now (by assumption)) (by decide) (by decide) (by rfl) (by rfl) ?_; k_whole))
  k_with "spliced" => (k_here; (with_reducible show wpAny _ _ (spliced (backTo _ (starEach (_ :: _) _))) _ _ _); k_dflt (refine' svs_r (by k_asm) (by exact rfl) ?_ (by rfl); k_whole))
  k_with "execs cons" => (k_here; (with_reducible show wpAny _ _ (execs (Stmt.If _ _ [] _ :: _) _) _ _ _); k_dflt (refine' if_n (by k_asm) (by exact rfl) ?_ (by rfl); k_whole))
  k_with "exec If" => (k_here; k_dflt (first | (refine' if_f (by k_asm) (by exact rfl) ?_ (by rfl); k_whole) | (refine' if_t (by k_asm) (by exact rfl) ?_ (by rfl); k_whole)))
  k_with "eval Call" => (k_here; (with_reducible show wpAny _ _ (eval (Expr.Call (Expr.Name _ _) (_ :: _) [] _) _) _ _ _); k_dflt (refine' call_sv (by k_asm) (by k_asm) (by k_asm) (by k_is) (by k_is) (by exact rfl) ?_ (by rfl) (by rfl) (by decide) (by rfl) (by rfl); k_whole))
  k_with "eval Subscript" => (k_here; k_dflt (refine' sub_sv (by k_asm) (by exact rfl) (by exact rfl) (by first | exact isTup_P (by assumption) (by assumption) (by assumption) | exact isTup_base (by assumption) (by assumption) | exact isTup_now (by assumption)) (by decide) (by decide) (by rfl) (by rfl) ?_ (by with_unfolding_all rfl) (by rfl); k_whole))
  k_with "k_steps" => ((try k_fold); repeat' (first | (k_unfold; (try dsimp only)) | (k_end; wrow_close) | walk1 | (dsimp only; walk1) | (leave1; walk_say "STEP leave1"; try dsimp only) | fail "no step"))
  k_with "k_memR" => (first | with_reducible exact List.mem_cons_self .. | with_reducible assumption | (with_reducible refine List.mem_cons_of_mem _ ?_; k_extra "k_memR"))
  k_with "k_memD" => (first | exact List.mem_cons_self .. | with_reducible assumption | (refine List.mem_cons_of_mem _ ?_; k_extra "k_memD"))
  k_with "k_mem" => (first | k_extra "k_memR" | k_extra "k_memD")
  k_with "k_all" => (first | exact List.forall_mem_nil _ | ((with_reducible refine' List.forall_mem_cons.mpr (And.intro ?_ ?_)); k_ne; k_all) | with_reducible assumption | exact OwnOff.ne (by with_reducible assumption) (by k_extra "k_memR") | exact allLt_ne (by with_reducible assumption) | exact allLt_nes (by with_reducible assumption) (by intro p9 hp9; k_extra "k_memR") | exact OwnOff.ne (by assumption) (by k_mem) | ((refine' List.forall_mem_cons.mpr (And.intro ?_ ?_)); k_ne; k_all) | exact allLt_nes (by with_reducible assumption) (by intro p9 hp9; k_mem))
  trivial
set_option maxHeartbeats 4000000 in
theorem tgts_does {w : World} {mean : ExcName → Option Value} {mg mb : Str → Option Value} {v : Value} {nd : Nd} {h : Heap} {P : Addr → List Value → Prop} (hP : ∀ a vs, P a vs → TupAt h a vs) (hR : NdR P v nd) :
    Does w mean mg mb 80 [v] 4 100 h [] (fun r h' => ∃ (l : Addr) (vs : List Value) (n : Nat), r = .ref l ∧ h.get? l = none ∧ h'.get? l = some (listOf vs.toArray n) ∧ All2 (LvR P) vs nd.tgts) := by
  unfold Does
  w_on
  k_fill
  intro dp un gd cn cs a ccd cl outer A₀ base h₀ L m s Q E ee B F X T hk hS hd hu hret
  subst ee
  have N : News h₀ L s.heap [] := News.nil
  clear hS
  refine wpAny_call ?_
  cases hR with
  | blk h1 h2 h3 =>
    k_dflt k_extra "q_enter"
    intro g' L' h' hk' hne' F' N' B' X' T'; (try dsimp only); (try k_fold)
    have hPg : ∀ a vs, P a vs → TupAt g' a vs := fun a vs x => hk' _ _ (hP _ _ x) (by simp)
    have b1 := hPg _ _ h1
    k_steps
    rename Fr _ _ _ _ => F9
    rename News _ _ _ _ => N9
    refine ⟨_, F9, fun k9 => hret _ _ _ k9 ⟨_, [], _, rfl, fresh_of hk' N9 (.head _) (by simp), (N9 _ (.head _)).1, .nil⟩⟩
  | one hs =>
    cases hs with
    | set h1 h2 h3 h4 h5 h6 =>
      k_dflt k_extra "q_enter"
      intro g' L' h' hk' hne' F' N' B' X' T'; (try dsimp only); (try k_fold)
      have hPg : ∀ a vs, P a vs → TupAt g' a vs := fun a vs x => hk' _ _ (hP _ _ x) (by simp)
      have b1 := hPg _ _ h1
      k_steps
      rename Fr _ _ _ _ => F9
      rename News _ _ _ _ => N9
      refine ⟨_, F9, fun k9 => hret _ _ _ k9 ⟨_, [_], _, rfl, fresh_of hk' N9 (.head _) (by simp), (N9 _ (.head _)).1, .one (.plain h2 h3 h4 h5)⟩⟩
    | nba h1 h2 h3 h4 h5 h6 h7 h8 =>
      k_dflt k_extra "q_enter"
      intro g' L' h' hk' hne' F' N' B' X' T'; (try dsimp only); (try k_fold)
      have hPg : ∀ a vs, P a vs → TupAt g' a vs := fun a vs x => hk' _ _ (hP _ _ x) (by simp)
      have b1 := hPg _ _ h1
      k_steps
      rename Fr _ _ _ _ => F9
      rename News _ _ _ _ => N9
      refine ⟨_, F9, fun k9 => hret _ _ _ k9 ⟨_, [_], _, rfl, fresh_of hk' N9 (.head _) (by simp), (N9 _ (.head _)).1, .one (.index h2 h3 h4 h5 h6 h8)⟩⟩
    | ite h1 h2 h3 =>
      k_dflt k_extra "q_enter"
      intro g' L' h' hk' hne' F' N' B' X' T'; (try dsimp only); (try k_fold)
      have hPg : ∀ a vs, P a vs → TupAt g' a vs := fun a vs x => hk' _ _ (hP _ _ x) (by simp)
      have b1 := hPg _ _ h1
      k_steps
      rename Fr _ _ _ _ => F9
      rename News _ _ _ _ => N9
      refine ⟨_, F9, fun k9 => hret _ _ _ k9 ⟨_, [], _, rfl, fresh_of hk' N9 (.head _) (by simp), (N9 _ (.head _)).1, .nil⟩⟩
    | itee h1 h2 h3 h4 =>
      k_dflt k_extra "q_enter"
      intro g' L' h' hk' hne' F' N' B' X' T'; (try dsimp only); (try k_fold)
      have hPg : ∀ a vs, P a vs → TupAt g' a vs := fun a vs x => hk' _ _ (hP _ _ x) (by simp)
      have b1 := hPg _ _ h1
      k_steps
      rename Fr _ _ _ _ => F9
      rename News _ _ _ _ => N9
      refine ⟨_, F9, fun k9 => hret _ _ _ k9 ⟨_, [], _, rfl, fresh_of hk' N9 (.head _) (by simp), (N9 _ (.head _)).1, .nil⟩⟩

end
section
theorem reg_P7_0 : True := by
  k_with_none
  k_with "q_enter" => (refine' enterQ (by k_asm) (by k_asm) (by k_asm) (by k_asm) (by k_asm) (by exact rfl) (by exact rfl) (by assumption) (by k_is) (by k_is) (by ktr_room) (by exact BindsTo.of_eq rfl) (by exact locs rfl) ?_ (by exact rfl) (by exact rfl) (by exact rfl) (by decide); k_whole)
  k_with "units_room" => (ktr_units)
  k_with "q_len" => (rw [PySem.sizeLine_eq]; (try simp only [List.length_append, List.length_cons, List.length_nil]); omega)
  k_with "call builtin:list.append" => (k_here; k_dflt (refine' append_L (by k_asm) (by k_asm) (by k_upd) (by k_extra "q_len") ?_; (intro h' F' N'; (try dsimp only [List.nil_append, List.cons_append] at N'))))
  k_with "call builtin:list.pop" => (k_here; k_dflt (refine' pop_L (by k_asm) (by k_asm) (by k_upd) (by k_extra "q_len") ?_; (intro h' F' N'; (try dsimp only [List.nil_append, List.cons_append] at N'))))
  k_with "truthy ref" => (k_here; k_dflt (refine' truthy_L (by k_asm) (by k_mem) (by k_extra "q_len") ?_))
  k_with "exec While" => ((have hSt := (by with_reducible assumption : StopWhile)); clear hSt; refine Stop.of ?_)
  k_with "pyIter ref" => ((have hSt := (by with_reducible assumption : StopFor)); clear hSt; refine Stop.of ?_)
  k_with "call type:reversed" => (k_here; k_dflt (refine' rvt_L (by k_asm) (by k_asm) (by exact isTup_now (News.get (by assumption) (by k_mem))) (by ((try simp only [List.length_cons, List.length_nil]); omega)) ?_; (intro I' h' tk' F' N' l1; (try k_lt l1))))
  k_with "call builtin:list.extend" => (k_here; k_dflt (refine' extend_L (by k_asm) (by k_asm) (by (intro o'; k_upd)) (by first | assumption | exact News.get (by assumption) (by k_mem)) (by k_extra "q_len") ?_; (intro h' n' F' N'; (try dsimp only [List.nil_append, List.cons_append] at N'))))
  k_with "call type:list" => (k_here; k_dflt (refine' listT_L (by k_asm) (by k_asm) (by first | exact isTup_P (by assumption) (by assumption) (by assumption) | exact isTup_base (by assumption) (by assumption)) (by k_extra "q_len") ?_; (intro D' c' h' F' N' l1; (try k_lt l1))))
  k_with "exec For" => ((have hSt := (by with_reducible assumption : StopFor)); clear hSt; k_here; (rename Fr _ _ _ _ => lF'); (with_unfolding_all refine' For_invVF lF' (by exact rfl) (by exact rfl) ?_; k_whole))
  k_with "CompSrcT" => (k_here; (have hSt := (by with_reducible assumption : StopComp)); clear hSt; k_dflt (refine LCt.CompSrcT.ledger (by rfl) (by k_asm) (by k_asm) (by k_mem) (by (try rw [List.size_toArray]); k_extra "q_len") ?_); refine Stop.of ?_)
  k_with "CompSrc" => (k_here; (have hSt := (by with_reducible assumption : StopComp)); clear hSt; k_dflt (refine LCg.CompSrc.ledger (by rfl) (by k_asm) (by k_asm) (by k_mem) (by (try rw [List.size_toArray]); k_extra "q_len") ?_); refine Stop.of ?_)
  k_with "CompEnd" => ((have hSt := (by with_reducible assumption : StopComp)); clear hSt; refine Stop.of ?_)
  k_with "q_clean" => ((repeat (with_reducible rename Fr _ _ _ _ => hz; clear hz)); (repeat (with_reducible rename News _ _ _ _ => hz; clear hz)); (repeat (with_reducible rename _ ∧ _ => hz; clear hz)); (repeat (with_reducible rename @LT.lt Nat _ _ _ => hz; clear hz)); (repeat (with_reducible rename OwnOff _ _ => hz; clear hz)); (repeat (with_reducible rename Cov _ _ _ _ _ => hz; clear hz)); (repeat (with_reducible rename TCov _ _ _ => hz; clear hz)); (repeat (with_reducible rename _ ∈ _ => hz; clear hz)); (repeat (with_reducible rename SigEs _ _ _ _ => hz; clear hz)); (repeat (with_reducible rename ∀ p ∈ _, p ∈ _ => hz; clear hz)); (repeat (with_reducible rename @Ne Nat _ _ => hz; clear hz)); (repeat (with_reducible rename getL _ _ = _ => hz; clear hz)); (repeat (with_reducible rename _ = Data.cell _ => hz; clear hz)); (repeat (with_reducible rename StopFor => hz; clear hz)); (repeat (with_reducible rename Kept _ _ _ => hz; clear hz)); (repeat (with_reducible rename Heap.get? _ _ = _ => hz; clear hz)); (repeat (with_reducible rename @LE.le Nat _ _ _ => hz; clear hz)); (repeat (with_reducible rename IsRange _ _ _ _ _ _ _ _ => hz; clear hz)); (repeat (with_reducible rename Obj.IsDictOf _ _ _ => hz; clear hz)); (repeat (with_reducible rename AllLt _ _ => hz; clear hz)); (repeat (with_reducible rename IntsAre _ _ => hz; clear hz)); (repeat (with_reducible rename PyProof.V.FlatPairs _ _ _ => hz; clear hz)); (repeat (with_reducible rename Heap.IsList _ _ _ => hz; clear hz)); (repeat (with_reducible rename ReadsAll _ _ _ _ => hz; clear hz)); (repeat (with_reducible rename @LT.lt Int _ _ _ => hz; clear hz)); (repeat (with_reducible rename @LE.le Int _ _ _ => hz; clear hz)); (repeat (with_reducible rename _ ∨ _ => hz; clear hz)))
  k_with "q_no" => (exact notin2' (by k_ne) (by k_ne))
  k_with "q_fr" => (first | exact List.forall_mem_nil _ | (refine List.forall_mem_cons.mpr ⟨⟨_, by k_mem⟩, ?_⟩; k_extra "q_fr"))
  k_with "k_ne" => (refine neN ?_; (try dsimp only); k_extra "ne")
  k_with "ne" => (first | with_reducible assumption | exact Nat.ne_of_lt (AllLt.get (by with_reducible assumption) (by k_mem)) | exact Nat.ne_of_gt (AllLt.get (by with_reducible assumption) (by k_mem)) | exact Ne.symm (by with_reducible assumption) | exact Nat.ne_of_gt (AllLt.get2 (by with_reducible assumption) (by with_reducible assumption) (by k_mem)) | exact Nat.ne_of_lt (AllLt.get2 (by with_reducible assumption) (by with_reducible assumption) (by k_mem)) | exact Nat.ne_of_lt (by with_reducible assumption) | exact Nat.ne_of_gt (by with_reducible assumption) | omega)
  k_with "subscriptTail" => (k_here; k_dflt (refine' item_tupleT (by first | exact isTup_P (by assumption) (by assumption) (by assumption) | exact isTup_base (by assumption) (by assumption) | exact isTup_now (by assumption)) (by decide) (by decide) (by rfl) (by rfl) ?_; k_whole))
  k_with "spliced" => (k_here; (with_reducible show wpAny _ _ (spliced (backTo _ (starEach (_ :: _) _))) _ _ _); k_dflt (refine' svs_r (by k_asm) (by exact rfl) ?_ (by rfl); k_whole))
  k_with "execs cons" => (k_here; (with_reducible show wpAny _ _ (execs (Stmt.If _ _ [] _ :: _) _) _ _ _); k_dflt (refine' if_n (by k_asm) (by exact rfl) ?_ (by rfl); k_whole))
  k_with "exec If" => (k_here; k_dflt (first | (refine' if_f (by k_asm) (by exact rfl) ?_ (by rfl); k_whole) | (refine' if_t (by k_asm) (by exact rfl) ?_ (by rfl); k_whole)))
  k_with "eval Call" => (k_here; (with_reducible show wpAny _ _ (eval (Expr.Call (Expr.Name _ _) (_ :: _) [] _) _) _ _ _); k_dflt (refine' call_sv (by k_asm) (by k_asm) (by k_asm) (by k_is) (by k_is) (by exact rfl) ?_ (by rfl) (by rfl) (by decide) (by rfl) (by rfl); k_whole))
  k_with "eval Subscript" => (k_here; k_dflt (refine' sub_sv (by k_asm) (by exact rfl) (by exact rfl) (by first | exact isTup_P (by assumption) (by assumption) (by assumption) | exact isTup_base (by assumption) (by assumption) | exact isTup_now (by assumption)) (by decide) (by decide) (by rfl) (by rfl) ?_ (by with_unfolding_all rfl) (by rfl); k_whole))
  k_with "k_steps" => ((try k_fold); repeat' (first | (k_unfold; (try dsimp only)) | (k_end; wrow_close) | walk1 | (dsimp only; walk1) | (leave1; walk_say "STEP leave1"; try dsimp only) | fail "no step"))
  k_with "k_memR" => (first | with_reducible exact List.mem_cons_self .. | with_reducible assumption | (with_reducible refine List.mem_cons_of_mem _ ?_; k_extra "k_memR"))
  k_with "k_memD" => (first | exact List.mem_cons_self .. | with_reducible assumption | (refine List.mem_cons_of_mem _ ?_; k_extra "k_memD"))
  k_with "k_mem" => (first | k_extra "k_memR" | k_extra "k_memD")
  k_with "k_all" => (first | exact List.forall_mem_nil _ | ((with_reducible refine' List.forall_mem_cons.mpr (And.intro ?_ ?_)); k_ne; k_all) | with_reducible assumption | exact OwnOff.ne (by with_reducible assumption) (by k_extra "k_memR") | exact allLt_ne (by with_reducible assumption) | exact allLt_nes (by with_reducible assumption) (by intro p9 hp9; k_extra "k_memR") | exact OwnOff.ne (by assumption) (by k_mem) | ((refine' List.forall_mem_cons.mpr (And.intro ?_ ?_)); k_ne; k_all) | exact allLt_nes (by with_reducible assumption) (by intro p9 hp9; k_mem))
  trivial
theorem reg_P7_1 : True := by
  k_with "call ref" => (k_here; k_dflt ((try k_fold); refine' Does.stop (tgts_does (by exact base_now (by assumption) (by assumption)) (by assumption)) (by k_asm) (by k_asm) (by k_asm) (by k_asm) (by first | exact rfl | assumption) (by exact List.forall_mem_nil _) (by ktr_room) (by ktr_units) ?_))
  k_with "call ref" => (k_here; k_dflt ((try k_fold); refine' Does.stop (tidx_does (by exact base_now (by assumption) (by assumption)) (by assumption)) (by k_asm) (by k_asm) (by k_asm) (by k_asm) (by first | exact rfl | assumption) (by exact List.forall_mem_nil _) (by ktr_room) (by ktr_units) ?_))
  trivial

noncomputable def Nd.own : Nd → List Ex
  | .blk _ => []
  | .one (.set _ v) => [v]
  | .one (.nba _ v _) => [v]
  | .one (.ite t _) => [t]
  | .one (.itee t _ _) => [t]
theorem Nd.exprs_eq (nd : Nd) : nd.exprs = nd.own ++ nd.tgts.flatMap Option.toList := by
  rcases nd with l | s
  · rfl
  · cases s <;> rfl
theorem Nd.own_len (nd : Nd) : nd.own.length ≤ 1 := by
  rcases nd with l | s
  · simp [Nd.own]
  · cases s <;> simp [Nd.own]
theorem Nd.tgts_len (nd : Nd) (i : Nat) : ((nd.tgts.take i).flatMap Option.toList).length ≤ 1 := by
  rcases nd with l | s
  · simp [Nd.tgts]
  · cases s <;> cases i <;> simp [Nd.tgts]
set_option maxHeartbeats 4000000 in
theorem sexprs_does {w : World} {mean : ExcName → Option Value} {mg mb : Str → Option Value} {v : Value} {nd : Nd} {h : Heap} {P : Addr → List Value → Prop} (hP : ∀ a vs, P a vs → TupAt h a vs) (hR : NdR P v nd) :
    Does w mean mg mb 87 [v] 8 200 h [] (fun r h' => ∃ (l : Addr) (vs : List Value) (n : Nat), r = .ref l ∧ h.get? l = none ∧ h'.get? l = some (listOf vs.toArray n) ∧ All2 (ExR P) vs nd.exprs) := by
  unfold Does
  w_on
  k_fill
  intro dp un gd cn cs a ccd cl outer A₀ base h₀ L m s Q E ee B F X T hk hS hd hu hret
  subst ee
  have N : News h₀ L s.heap [] := News.nil
  clear hS
  refine wpAny_call ?_
  obtain ⟨E0, hE0⟩ : ∃ E0, E0 = nd := ⟨_, rfl⟩
  have hR0 : NdR P v E0 := by rw [hE0]; exact hR
  rw [← hE0] at hret
  have hFo : StopFor := ⟨⟩
  have one : ∀ (a : Addr) (b : Obj) p, p ∈ [(a, b)] → b.cls = .type "list" → p.2.cls ≠ .type "tuple" := by
    intro a b p hp hb; simp only [List.mem_singleton] at hp; subst hp; show b.cls ≠ _; rw [hb]; decide
  rcases hR with ⟨h1, h2, h3⟩ | hs
  case' one => cases hs
  all_goals
    k_dflt k_extra "q_enter"
    intro g' L' h' hk' hne' F' N' B' X' T'; (try dsimp only); (try k_fold)
    have hPg : ∀ a vs, P a vs → TupAt g' a vs := fun a vs x => hk' _ _ (hP _ _ x) (by simp)
    k_steps
    unfold Stop
    rename Fr _ _ _ _ => F3
    rename News _ _ _ _ => N3
    intro r h2 tk2 hKp ⟨l, us, n, e1, hf, hl, hU⟩
    subst e1
    refine' after (S := []) (.miss (fun _ h => nomatch h) .nil) F3 N3 hKp (fun _ h => nomatch h) (fun _ h => nomatch h) (fun p hp => one _ _ p hp rfl) ?_
    intro tl2 F4 N4 O4 C4 TC4 hs4
    dsimp only [List.map] at N4 O4 C4 hs4
    obtain ⟨fA, fs, nf, m4, N5, hfs, O5, hla, F5, hm4⟩ : ∃ fA fs nf m4, News g' L' h2 ((fA, listOf (List.toArray fs) nf) :: tl2) ∧ All2 (ExR P) fs E0.own ∧ OwnOff tl2 [fA] ∧ l ∉ [fA] ∧ Fr g' L' h2 m4 ∧ m4 (Str.ofString "found") = some (.ref fA) :=
      ⟨_, _, _, _, N4, (by rw [hE0]; first | exact All2.nil | (show All2 (ExR P) [_] [_]; exact .one (by assumption))), O4, fresh_adr N3 hf (fun b hb => by rw [List.mem_singleton] at hb; subst hb; exact ⟨_, .head _⟩), F4, rfl⟩
    clear F3 N3 F4 N4 O4
    k_dflt refine for_list (vs := us) (nn := n) (adr := [fA]) (tl₀ := tl2) (fun c : List Value × Nat => [(fA, listOf c.1.toArray c.2)]) (fun _ => [(Str.ofString "found", .ref fA)])
      (fun i c _ => All2 (ExR P) c.1 (E0.own ++ (E0.tgts.take i).flatMap Option.toList)) (fs, nf) rfl hl hla (fun c p hp => one _ _ p hp rfl) (fun _ => rfl) (fun _ _ _ _ _ x => x) F5 N5 O5 ?_ (by simpa using hfs) ?_ ?_
    · intro p hp; simp only [List.mem_singleton] at hp; subst hp; exact hm4
    · intro i y x91 u h3 tk3 tl3 hy F6 N6 O6 C5 TC5 hs5 hI
      (try dsimp only); (try k_fold)
      obtain ⟨cs, cn⟩ := x91
      dsimp only [pin, List.cons_append, List.nil_append] at F6 N6 O6 hI ⊢
      clear F5 N5
      obtain ⟨d, hd, hyr⟩ := hU.get hy
      have hcl : cs.length ≤ 2 := by have a1 := hI.length; have a2 := E0.own_len; have a3 := E0.tgts_len i; rw [List.length_append] at a1; omega
      k_steps
      unfold Stop
      rename Fr _ _ _ _ => F7
      rename News _ _ _ _ => N7
      intro r h4 tk4 hKq ⟨l', us', n', e2, hf', hl', hU'⟩
      subst e2
      refine' after (S := []) (.miss (fun _ h => nomatch h) .nil) F7 N7 hKq (fun _ h => nomatch h) (fun _ h => nomatch h) (fun p hp => one _ _ p hp rfl) ?_
      intro tl4 F8 N8 O8 C8 TC8 hs8
      dsimp only [List.map] at N8 O8 C8 hs8
      have hul : us'.length ≤ 1 := by rw [hU'.length]; cases d <;> simp
      have hsub : ∀ p ∈ tl3, p ∈ tl4 := fun p hp => hs8 p (by k_mem) (by simp) fun q => O6 p hp _ q rfl
      clear F7 N7
      k_steps
      rename Fr _ _ _ _ => F9
      rename News _ _ _ _ => N9
      refine FEnd.nx (cs ++ us', _) tl4 F9 N9 hsub ?_ ?_
      · intro p hp; simp only [List.mem_singleton] at hp; subst hp; rfl
      · show All2 (ExR P) (cs ++ us') _
        have e3 : (E0.tgts.take (i + 1)).flatMap Option.toList = (E0.tgts.take i).flatMap Option.toList ++ d.toList := by
          rw [List.take_add_one, hd, List.flatMap_append]; simp
        rw [e3, ← List.append_assoc]
        exact hI.append hU'
    · intro x92 u h3 tk3 tl3 F6 N6 O6 C5 TC5 hs5 hI
      (try dsimp only); (try k_fold)
      obtain ⟨cs, cn⟩ := x92
      dsimp only [pin, List.cons_append, List.nil_append] at F6 N6 O6 hI ⊢
      clear F5 N5
      k_steps
      refine ⟨_, F6, fun k9 => hret _ _ _ k9 ⟨_, cs, cn, rfl, fresh_of hk' N6 (.head _) (by simp), (N6 _ (.head _)).1, ?_⟩⟩
      rw [hU.length, List.take_length] at hI
      rw [E0.exprs_eq]; exact hI

end
section
theorem reg_P8_0 : True := by
  k_with_none
  k_with "q_enter" => (refine' enterQ (by k_asm) (by k_asm) (by k_asm) (by k_asm) (by k_asm) (by exact rfl) (by exact rfl) (by assumption) (by k_is) (by k_is) (by ktr_room) (by exact BindsTo.of_eq rfl) (by exact locs rfl) ?_ (by exact rfl) (by exact rfl) (by exact rfl) (by decide); k_whole)
  k_with "units_room" => (ktr_units)
  k_with "q_len" => (rw [PySem.sizeLine_eq]; (try simp only [List.length_append, List.length_cons, List.length_nil]); omega)
  k_with "call builtin:list.append" => (k_here; k_dflt (refine' append_L (by k_asm) (by k_asm) (by k_upd) (by k_extra "q_len") ?_; (intro h' F' N'; (try dsimp only [List.nil_append, List.cons_append] at N'))))
  k_with "call builtin:list.pop" => (k_here; k_dflt (refine' pop_L (by k_asm) (by k_asm) (by k_upd) (by k_extra "q_len") ?_; (intro h' F' N'; (try dsimp only [List.nil_append, List.cons_append] at N'))))
  k_with "truthy ref" => (k_here; k_dflt (refine' truthy_L (by k_asm) (by k_mem) (by k_extra "q_len") ?_))
  k_with "exec While" => ((have hSt := (by with_reducible assumption : StopWhile)); clear hSt; refine Stop.of ?_)
  k_with "pyIter ref" => ((have hSt := (by with_reducible assumption : StopFor)); clear hSt; refine Stop.of ?_)
  k_with "call type:reversed" => (k_here; k_dflt (refine' rvt_L (by k_asm) (by k_asm) (by exact isTup_now (News.get (by assumption) (by k_mem))) (by ((try simp only [List.length_cons, List.length_nil]); omega)) ?_; (intro I' h' tk' F' N' l1; (try k_lt l1))))
  k_with "call builtin:list.extend" => (k_here; k_dflt (refine' extend_L (by k_asm) (by k_asm) (by (intro o'; k_upd)) (by first | assumption | exact News.get (by assumption) (by k_mem)) (by k_extra "q_len") ?_; (intro h' n' F' N'; (try dsimp only [List.nil_append, List.cons_append] at N'))))
  k_with "call type:list" => (k_here; k_dflt (refine' listT_L (by k_asm) (by k_asm) (by first | exact isTup_P (by assumption) (by assumption) (by assumption) | exact isTup_base (by assumption) (by assumption)) (by k_extra "q_len") ?_; (intro D' c' h' F' N' l1; (try k_lt l1))))
  k_with "exec For" => ((have hSt := (by with_reducible assumption : StopFor)); clear hSt; k_here; (rename Fr _ _ _ _ => lF'); (with_unfolding_all refine' For_invVF lF' (by exact rfl) (by exact rfl) ?_; k_whole))
  k_with "CompSrcT" => (k_here; (have hSt := (by with_reducible assumption : StopComp)); clear hSt; k_dflt (refine LCt.CompSrcT.ledger (by rfl) (by k_asm) (by k_asm) (by k_mem) (by (try rw [List.size_toArray]); k_extra "q_len") ?_); refine Stop.of ?_)
  k_with "CompSrc" => (k_here; (have hSt := (by with_reducible assumption : StopComp)); clear hSt; k_dflt (refine LCg.CompSrc.ledger (by rfl) (by k_asm) (by k_asm) (by k_mem) (by (try rw [List.size_toArray]); k_extra "q_len") ?_); refine Stop.of ?_)
  k_with "CompEnd" => ((have hSt := (by with_reducible assumption : StopComp)); clear hSt; refine Stop.of ?_)
  k_with "q_clean" => ((repeat (with_reducible rename Fr _ _ _ _ => hz; clear hz)); (repeat (with_reducible rename News _ _ _ _ => hz; clear hz)); (repeat (with_reducible rename _ ∧ _ => hz; clear hz)); (repeat (with_reducible rename @LT.lt Nat _ _ _ => hz; clear hz)); (repeat (with_reducible rename OwnOff _ _ => hz; clear hz)); (repeat (with_reducible rename Cov _ _ _ _ _ => hz; clear hz)); (repeat (with_reducible rename TCov _ _ _ => hz; clear hz)); (repeat (with_reducible rename _ ∈ _ => hz; clear hz)); (repeat (with_reducible rename SigEs _ _ _ _ => hz; clear hz)); (repeat (with_reducible rename ∀ p ∈ _, p ∈ _ => hz; clear hz)); (repeat (with_reducible rename @Ne Nat _ _ => hz; clear hz)); (repeat (with_reducible rename getL _ _ = _ => hz; clear hz)); (repeat (with_reducible rename _ = Data.cell _ => hz; clear hz)); (repeat (with_reducible rename StopFor => hz; clear hz)); (repeat (with_reducible rename Kept _ _ _ => hz; clear hz)); (repeat (with_reducible rename Heap.get? _ _ = _ => hz; clear hz)); (repeat (with_reducible rename @LE.le Nat _ _ _ => hz; clear hz)); (repeat (with_reducible rename IsRange _ _ _ _ _ _ _ _ => hz; clear hz)); (repeat (with_reducible rename Obj.IsDictOf _ _ _ => hz; clear hz)); (repeat (with_reducible rename AllLt _ _ => hz; clear hz)); (repeat (with_reducible rename IntsAre _ _ => hz; clear hz)); (repeat (with_reducible rename PyProof.V.FlatPairs _ _ _ => hz; clear hz)); (repeat (with_reducible rename Heap.IsList _ _ _ => hz; clear hz)); (repeat (with_reducible rename ReadsAll _ _ _ _ => hz; clear hz)); (repeat (with_reducible rename @LT.lt Int _ _ _ => hz; clear hz)); (repeat (with_reducible rename @LE.le Int _ _ _ => hz; clear hz)); (repeat (with_reducible rename _ ∨ _ => hz; clear hz)))
  k_with "q_no" => (exact notin2' (by k_ne) (by k_ne))
  k_with "q_fr" => (first | exact List.forall_mem_nil _ | (refine List.forall_mem_cons.mpr ⟨⟨_, by k_mem⟩, ?_⟩; k_extra "q_fr"))
  k_with "k_ne" => (refine neN ?_; (try dsimp only); k_extra "ne")
  k_with "ne" => (first | with_reducible assumption | exact Nat.ne_of_lt (AllLt.get (by with_reducible assumption) (by k_mem)) | exact Nat.ne_of_gt (AllLt.get (by with_reducible assumption) (by k_mem)) | exact Ne.symm (by with_reducible assumption) | exact Nat.ne_of_gt (AllLt.get2 (by with_reducible assumption) (by with_reducible assumption) (by k_mem)) | exact Nat.ne_of_lt (AllLt.get2 (by with_reducible assumption) (by with_reducible assumption) (by k_mem)) | exact Nat.ne_of_lt (by with_reducible assumption) | exact Nat.ne_of_gt (by with_reducible assumption) | omega)
  k_with "subscriptTail" => (k_here; k_dflt (refine' item_tupleT (by first | exact isTup_P (by assumption) (by assumption) (by assumption) | exact isTup_base (by assumption) (by assumption) | exact isTup_now (by assumption)) (by decide) (by decide) (by rfl) (by rfl) ?_; k_whole))
  k_with "spliced" => (k_here; (with_reducible show wpAny _ _ (spliced (backTo _ (starEach (_ :: _) _))) _ _ _); k_dflt (refine' svs_r (by k_asm) (by exact rfl) ?_ (by rfl); k_whole))
  k_with "execs cons" => (k_here; (with_reducible show wpAny _ _ (execs (Stmt.If _ _ [] _ :: _) _) _ _ _); k_dflt (refine' if_n (by k_asm) (by exact rfl) ?_ (by rfl); k_whole))
  k_with "exec If" => (k_here; k_dflt (first | (refine' if_f (by k_asm) (by exact rfl) ?_ (by rfl); k_whole) | (refine' if_t (by k_asm) (by exact rfl) ?_ (by rfl); k_whole)))
  k_with "eval Call" => (k_here; (with_reducible show wpAny _ _ (eval (Expr.Call (Expr.Name _ _) (_ :: _) [] _) _) _ _ _); k_dflt (refine' call_sv (by k_asm) (by k_asm) (by k_asm) (by k_is) (by k_is) (by exact rfl) ?_ (by rfl) (by rfl) (by decide) (by rfl) (by rfl); k_whole))
  k_with "eval Subscript" => (k_here; k_dflt (refine' sub_sv (by k_asm) (by exact rfl) (by exact rfl) (by first | exact isTup_P (by assumption) (by assumption) (by assumption) | exact isTup_base (by assumption) (by assumption) | exact isTup_now (by assumption)) (by decide) (by decide) (by rfl) (by rfl) ?_ (by with_unfolding_all rfl) (by rfl); k_whole))
  k_with "k_steps" => ((try k_fold); repeat' (first | (k_unfold; (try dsimp only)) | (k_end; wrow_close) | walk1 | (dsimp only; walk1) | (leave1; walk_say "STEP leave1"; try dsimp only) | fail "no step"))
  k_with "k_memR" => (first | with_reducible exact List.mem_cons_self .. | with_reducible assumption | (with_reducible refine List.mem_cons_of_mem _ ?_; k_extra "k_memR"))
  k_with "k_memD" => (first | exact List.mem_cons_self .. | with_reducible assumption | (refine List.mem_cons_of_mem _ ?_; k_extra "k_memD"))
  k_with "k_mem" => (first | k_extra "k_memR" | k_extra "k_memD")
  k_with "k_all" => (first | exact List.forall_mem_nil _ | ((with_reducible refine' List.forall_mem_cons.mpr (And.intro ?_ ?_)); k_ne; k_all) | with_reducible assumption | exact OwnOff.ne (by with_reducible assumption) (by k_extra "k_memR") | exact allLt_ne (by with_reducible assumption) | exact allLt_nes (by with_reducible assumption) (by intro p9 hp9; k_extra "k_memR") | exact OwnOff.ne (by assumption) (by k_mem) | ((refine' List.forall_mem_cons.mpr (And.intro ?_ ?_)); k_ne; k_all) | exact allLt_nes (by with_reducible assumption) (by intro p9 hp9; k_mem))
  trivial
set_option maxHeartbeats 4000000 in
theorem parts_does {w : World} {mean : ExcName → Option Value} {mg mb : Str → Option Value} {v : Value} {nd : Nd} {h : Heap} {P : Addr → List Value → Prop} (hP : ∀ a vs, P a vs → TupAt h a vs) (hR : NdR P v nd) (hl4 : nd.kids.length ≤ 4) :
    Does w mean mg mb 68 [v] 4 100 h [] (fun r h' => ∃ (l : Addr) (vs : List Value) (n : Nat), r = .ref l ∧ h.get? l = none ∧ h'.get? l = some (listOf vs.toArray n) ∧ All2 (NdR P) vs nd.kids) := by
  unfold Does
  w_on
  k_fill
  intro dp un gd cn cs a ccd cl outer A₀ base h₀ L m s Q E ee B F X T hk hS hd hu hret
  subst ee
  have N : News h₀ L s.heap [] := News.nil
  clear hS
  refine wpAny_call ?_
  cases hR with
  | @blk _ _ _ _ vs l h1 h2 h3 =>
    simp only [Nd.kids, List.length_map] at hl4
    have hall : ∀ (us : List Value) (l : List St), All2 (StR P) us l → All2 (NdR P) us (l.map Nd.one) := by
      intro us l hh
      induction hh with
      | nil => exact .nil
      | cons x _ ih => exact .cons (.one x) ih
    have hkid : All2 (NdR P) vs (Nd.kids (.blk l)) := hall _ _ h3
    have hl5 := h3.length
    have hCo : StopComp := ⟨⟩
    k_dflt k_extra "q_enter"
    intro g' L' h' hk' hne' F' N' B' X' T'; (try dsimp only); (try k_fold)
    have hPg : ∀ a vs, P a vs → TupAt g' a vs := fun a vs x => hk' _ _ (hP _ _ x) (by simp)
    k_steps
    unfold Stop
    intro g
    k_dflt (refine compT_same (fun i => vs.take i) (by simp) ?_ ?_)
    · intro i v I oI C oC D m₂ h2 tk2 E2 hi hv hC hx F2 N2 o2 ne2
      obtain ⟨d, hd2, hd3⟩ := h3.get (by simpa using hv)
      obtain ⟨av, rfl⟩ := hd3.isRef
      clear hCo
      k_steps
      have hi' : i < vs.length := by simpa using hi
      refine LCg.CompEnd.intro (by assumption) N2 _ (fun _ h => h) o2 (.inr ⟨_, by k_mem, rfl, _, rfl⟩) ⟨?_, rfl⟩
      rw [List.take_add_one]
      simp only [List.getElem?_toArray] at hv
      rw [hv]; rfl
    · clear hCo
      k_steps
      rename Fr _ _ _ _ => F9
      rename News _ _ _ _ => N9
      refine ⟨_, F9, fun k9 => hret _ _ _ k9 ⟨_, vs, vs.length, rfl, fresh_of hk' N9 (by k_mem) (by simp), ?_, hkid⟩⟩
      have := (N9 _ (.head _)).1
      rw [List.take_of_length_le (by simp)] at this
      exact this
  | one hs =>
    cases hs with
    | set h1 h2 h3 h4 h5 h6 =>
      k_dflt k_extra "q_enter"
      intro g' L' h' hk' hne' F' N' B' X' T'; (try dsimp only); (try k_fold)
      have hPg : ∀ a vs, P a vs → TupAt g' a vs := fun a vs x => hk' _ _ (hP _ _ x) (by simp)
      k_steps
      rename Fr _ _ _ _ => F9
      rename News _ _ _ _ => N9
      refine ⟨_, F9, fun k9 => hret _ _ _ k9 ⟨_, [], _, rfl, fresh_of hk' N9 (by k_mem) (by simp), (N9 _ (by k_mem)).1, .nil⟩⟩
    | nba h1 h2 h3 h4 h5 h6 h7 h8 =>
      k_dflt k_extra "q_enter"
      intro g' L' h' hk' hne' F' N' B' X' T'; (try dsimp only); (try k_fold)
      have hPg : ∀ a vs, P a vs → TupAt g' a vs := fun a vs x => hk' _ _ (hP _ _ x) (by simp)
      k_steps
      rename Fr _ _ _ _ => F9
      rename News _ _ _ _ => N9
      refine ⟨_, F9, fun k9 => hret _ _ _ k9 ⟨_, [], _, rfl, fresh_of hk' N9 (by k_mem) (by simp), (N9 _ (by k_mem)).1, .nil⟩⟩
    | ite h1 h2 h3 =>
      obtain ⟨a1, rfl⟩ := h3.isRef
      k_dflt k_extra "q_enter"
      intro g' L' h' hk' hne' F' N' B' X' T'; (try dsimp only); (try k_fold)
      have hPg : ∀ a vs, P a vs → TupAt g' a vs := fun a vs x => hk' _ _ (hP _ _ x) (by simp)
      k_steps
      rename Fr _ _ _ _ => F9
      rename News _ _ _ _ => N9
      refine ⟨_, F9, fun k9 => hret _ _ _ k9 ⟨_, [_], _, rfl, fresh_of hk' N9 (by k_mem) (by simp), (N9 _ (by k_mem)).1, .one (.one h3)⟩⟩
    | itee h1 h2 h3 h4 =>
      obtain ⟨a1, rfl⟩ := h3.isRef
      obtain ⟨a2, rfl⟩ := h4.isRef
      k_dflt k_extra "q_enter"
      intro g' L' h' hk' hne' F' N' B' X' T'; (try dsimp only); (try k_fold)
      have hPg : ∀ a vs, P a vs → TupAt g' a vs := fun a vs x => hk' _ _ (hP _ _ x) (by simp)
      k_steps
      rename Fr _ _ _ _ => F9
      rename News _ _ _ _ => N9
      refine ⟨_, F9, fun k9 => hret _ _ _ k9 ⟨_, [_, _], _, rfl, fresh_of hk' N9 (by k_mem) (by simp), (N9 _ (by k_mem)).1, .cons (.one h3) (.one (.one h4))⟩⟩

end
section
theorem reg_P9_0 : True := by
  k_with_none
  k_with "q_enter" => (refine' enterQ (by k_asm) (by k_asm) (by k_asm) (by k_asm) (by k_asm) (by exact rfl) (by exact rfl) (by assumption) (by k_is) (by k_is) (by ktr_room) (by exact BindsTo.of_eq rfl) (by exact locs rfl) ?_ (by exact rfl) (by exact rfl) (by exact rfl) (by decide); k_whole)
  k_with "units_room" => (ktr_units)
  k_with "q_len" => (rw [PySem.sizeLine_eq]; (try simp only [List.length_append, List.length_cons, List.length_nil]); omega)
  k_with "call builtin:list.append" => (k_here; k_dflt (refine' append_L (by k_asm) (by k_asm) (by k_upd) (by k_extra "q_len") ?_; (intro h' F' N'; (try dsimp only [List.nil_append, List.cons_append] at N'))))
  k_with "call builtin:list.pop" => (k_here; k_dflt (refine' pop_L (by k_asm) (by k_asm) (by k_upd) (by k_extra "q_len") ?_; (intro h' F' N'; (try dsimp only [List.nil_append, List.cons_append] at N'))))
  k_with "truthy ref" => (k_here; k_dflt (refine' truthy_L (by k_asm) (by k_mem) (by k_extra "q_len") ?_))
  k_with "exec While" => ((have hSt := (by with_reducible assumption : StopWhile)); clear hSt; refine Stop.of ?_)
  k_with "pyIter ref" => ((have hSt := (by with_reducible assumption : StopFor)); clear hSt; refine Stop.of ?_)
  k_with "call type:reversed" => (k_here; k_dflt (refine' rvt_L (by k_asm) (by k_asm) (by exact isTup_now (News.get (by assumption) (by k_mem))) (by ((try simp only [List.length_cons, List.length_nil]); omega)) ?_; (intro I' h' tk' F' N' l1; (try k_lt l1))))
  k_with "call builtin:list.extend" => (k_here; k_dflt (refine' extend_L (by k_asm) (by k_asm) (by (intro o'; k_upd)) (by first | assumption | exact News.get (by assumption) (by k_mem)) (by k_extra "q_len") ?_; (intro h' n' F' N'; (try dsimp only [List.nil_append, List.cons_append] at N'))))
  k_with "call type:list" => (k_here; k_dflt (refine' listT_L (by k_asm) (by k_asm) (by first | exact isTup_P (by assumption) (by assumption) (by assumption) | exact isTup_base (by assumption) (by assumption)) (by k_extra "q_len") ?_; (intro D' c' h' F' N' l1; (try k_lt l1))))
  k_with "exec For" => ((have hSt := (by with_reducible assumption : StopFor)); clear hSt; k_here; (rename Fr _ _ _ _ => lF'); (with_unfolding_all refine' For_invVF lF' (by exact rfl) (by exact rfl) ?_; k_whole))
  k_with "CompSrcT" => (k_here; (have hSt := (by with_reducible assumption : StopComp)); clear hSt; k_dflt (refine LCt.CompSrcT.ledger (by rfl) (by k_asm) (by k_asm) (by k_mem) (by (try rw [List.size_toArray]); k_extra "q_len") ?_); refine Stop.of ?_)
  k_with "CompSrc" => (k_here; (have hSt := (by with_reducible assumption : StopComp)); clear hSt; k_dflt (refine LCg.CompSrc.ledger (by rfl) (by k_asm) (by k_asm) (by k_mem) (by (try rw [List.size_toArray]); k_extra "q_len") ?_); refine Stop.of ?_)
  k_with "CompEnd" => ((have hSt := (by with_reducible assumption : StopComp)); clear hSt; refine Stop.of ?_)
  k_with "q_clean" => ((repeat (with_reducible rename Fr _ _ _ _ => hz; clear hz)); (repeat (with_reducible rename News _ _ _ _ => hz; clear hz)); (repeat (with_reducible rename _ ∧ _ => hz; clear hz)); (repeat (with_reducible rename @LT.lt Nat _ _ _ => hz; clear hz)); (repeat (with_reducible rename OwnOff _ _ => hz; clear hz)); (repeat (with_reducible rename Cov _ _ _ _ _ => hz; clear hz)); (repeat (with_reducible rename TCov _ _ _ => hz; clear hz)); (repeat (with_reducible rename _ ∈ _ => hz; clear hz)); (repeat (with_reducible rename SigEs _ _ _ _ => hz; clear hz)); (repeat (with_reducible rename ∀ p ∈ _, p ∈ _ => hz; clear hz)); (repeat (with_reducible rename @Ne Nat _ _ => hz; clear hz)); (repeat (with_reducible rename getL _ _ = _ => hz; clear hz)); (repeat (with_reducible rename _ = Data.cell _ => hz; clear hz)); (repeat (with_reducible rename StopFor => hz; clear hz)); (repeat (with_reducible rename Kept _ _ _ => hz; clear hz)); (repeat (with_reducible rename Heap.get? _ _ = _ => hz; clear hz)); (repeat (with_reducible rename @LE.le Nat _ _ _ => hz; clear hz)); (repeat (with_reducible rename IsRange _ _ _ _ _ _ _ _ => hz; clear hz)); (repeat (with_reducible rename Obj.IsDictOf _ _ _ => hz; clear hz)); (repeat (with_reducible rename AllLt _ _ => hz; clear hz)); (repeat (with_reducible rename IntsAre _ _ => hz; clear hz)); (repeat (with_reducible rename PyProof.V.FlatPairs _ _ _ => hz; clear hz)); (repeat (with_reducible rename Heap.IsList _ _ _ => hz; clear hz)); (repeat (with_reducible rename ReadsAll _ _ _ _ => hz; clear hz)); (repeat (with_reducible rename @LT.lt Int _ _ _ => hz; clear hz)); (repeat (with_reducible rename @LE.le Int _ _ _ => hz; clear hz)); (repeat (with_reducible rename _ ∨ _ => hz; clear hz)))
  k_with "q_no" => (exact notin2' (by k_ne) (by k_ne))
  k_with "q_fr" => (first | exact List.forall_mem_nil _ | (refine List.forall_mem_cons.mpr ⟨⟨_, by k_mem⟩, ?_⟩; k_extra "q_fr"))
  k_with "k_ne" => (refine neN ?_; (try dsimp only); k_extra "ne")
  k_with "ne" => (first | with_reducible assumption | exact Nat.ne_of_lt (AllLt.get (by with_reducible assumption) (by k_mem)) | exact Nat.ne_of_gt (AllLt.get (by with_reducible assumption) (by k_mem)) | exact Ne.symm (by with_reducible assumption) | exact Nat.ne_of_gt (AllLt.get2 (by with_reducible assumption) (by with_reducible assumption) (by k_mem)) | exact Nat.ne_of_lt (AllLt.get2 (by with_reducible assumption) (by with_reducible assumption) (by k_mem)) | exact Nat.ne_of_lt (by with_reducible assumption) | exact Nat.ne_of_gt (by with_reducible assumption) | omega)
  k_with "subscriptTail" => (k_here; k_dflt (refine' item_tupleT (by first | exact isTup_P (by assumption) (by assumption) (by assumption) | exact isTup_base (by assumption) (by assumption) | exact isTup_now (by assumption)) (by decide) (by decide) (by rfl) (by rfl) ?_; k_whole))
  k_with "spliced" => (k_here; (with_reducible show wpAny _ _ (spliced (backTo _ (starEach (_ :: _) _))) _ _ _); k_dflt (refine' svs_r (by k_asm) (by exact rfl) ?_ (by rfl); k_whole))
  k_with "execs cons" => (k_here; (with_reducible show wpAny _ _ (execs (Stmt.If _ _ [] _ :: _) _) _ _ _); k_dflt (refine' if_n (by k_asm) (by exact rfl) ?_ (by rfl); k_whole))
  k_with "exec If" => (k_here; k_dflt (first | (refine' if_f (by k_asm) (by exact rfl) ?_ (by rfl); k_whole) | (refine' if_t (by k_asm) (by exact rfl) ?_ (by rfl); k_whole)))
  k_with "eval Call" => (k_here; (with_reducible show wpAny _ _ (eval (Expr.Call (Expr.Name _ _) (_ :: _) [] _) _) _ _ _); k_dflt (refine' call_sv (by k_asm) (by k_asm) (by k_asm) (by k_is) (by k_is) (by exact rfl) ?_ (by rfl) (by rfl) (by decide) (by rfl) (by rfl); k_whole))
  k_with "eval Subscript" => (k_here; k_dflt (refine' sub_sv (by k_asm) (by exact rfl) (by exact rfl) (by first | exact isTup_P (by assumption) (by assumption) (by assumption) | exact isTup_base (by assumption) (by assumption) | exact isTup_now (by assumption)) (by decide) (by decide) (by rfl) (by rfl) ?_ (by with_unfolding_all rfl) (by rfl); k_whole))
  k_with "k_steps" => ((try k_fold); repeat' (first | (k_unfold; (try dsimp only)) | (k_end; wrow_close) | walk1 | (dsimp only; walk1) | (leave1; walk_say "STEP leave1"; try dsimp only) | fail "no step"))
  k_with "k_memR" => (first | with_reducible exact List.mem_cons_self .. | with_reducible assumption | (with_reducible refine List.mem_cons_of_mem _ ?_; k_extra "k_memR"))
  k_with "k_memD" => (first | exact List.mem_cons_self .. | with_reducible assumption | (refine List.mem_cons_of_mem _ ?_; k_extra "k_memD"))
  k_with "k_mem" => (first | k_extra "k_memR" | k_extra "k_memD")
  k_with "k_all" => (first | exact List.forall_mem_nil _ | ((with_reducible refine' List.forall_mem_cons.mpr (And.intro ?_ ?_)); k_ne; k_all) | with_reducible assumption | exact OwnOff.ne (by with_reducible assumption) (by k_extra "k_memR") | exact allLt_ne (by with_reducible assumption) | exact allLt_nes (by with_reducible assumption) (by intro p9 hp9; k_extra "k_memR") | exact OwnOff.ne (by assumption) (by k_mem) | ((refine' List.forall_mem_cons.mpr (And.intro ?_ ?_)); k_ne; k_all) | exact allLt_nes (by with_reducible assumption) (by intro p9 hp9; k_mem))
  trivial
theorem reg_P9_1 : True := by
  k_with "call ref" => (k_here; k_dflt ((try k_fold); refine' Does.stop (parts_does (by exact base_now (by assumption) (by assumption)) (by assumption) (by first | assumption | omega)) (by k_asm) (by k_asm) (by k_asm) (by k_asm) (by first | exact rfl | assumption) (by exact List.forall_mem_nil _) (by ktr_room) (by ktr_units) ?_))
  k_with "call type:reversed" => (k_here; k_dflt (refine' krv_reversed (by k_asm) (by k_asm) (by exact ⟨_, News.get (by assumption) (by k_mem), rfl, _, rfl⟩) ?_; intro D' h' F' N' l1; (try k_lt l1)))
  trivial

noncomputable def SSubI (P : Addr → List Value → Prop) (e : Nd) (c : (List Value × Nat × List Nd) × (List Value × Nat × List Nd)) (_ : Heap) : Prop :=
  All2 (NdR P) c.1.1 c.1.2.2 ∧ All2 (NdR P) c.2.1 c.2.2.2 ∧ c.1.2.2 ++ (c.2.2.2.reverse.flatMap Nd.pre) = e.pre

theorem ssub_step {ds es : List Nd} {d : Nd} {all : List Nd} (hE : ds ++ ((es ++ [d]).reverse.flatMap Nd.pre) = all) : (ds ++ [d]) ++ ((es ++ d.kids.reverse).reverse.flatMap Nd.pre) = all := by
  rw [← hE]
  simp only [List.reverse_append, List.reverse_reverse, List.reverse_cons, List.reverse_nil, List.nil_append, List.flatMap_append, List.flatMap_cons, List.append_assoc, List.cons_append]
  rw [Nd.pre_kids d]
  simp
theorem ssub_mea {es : List Nd} {d : Nd} : ((es ++ d.kids.reverse).map Nd.size).sum < ((es ++ [d]).map Nd.size).sum := by
  have := Nd.size_kids d
  simp only [List.map_append, List.sum_append, List.map_cons, List.map_nil, List.sum_cons, List.sum_nil, List.map_reverse, List.sum_reverse]
  omega

set_option maxHeartbeats 4000000 in
theorem substs_does {w : World} {mean : ExcName → Option Value} {mg mb : Str → Option Value} {v : Value} {e : Nd} {h : Heap} {P : Addr → List Value → Prop} (hP : ∀ a vs, P a vs → TupAt h a vs) (hR : NdR P v e) (hsz : e.pre.length ≤ 1000) (hk4 : ∀ d ∈ e.pre, d.kids.length ≤ 4) :
    Does w mean mg mb 75 [v] 8 400 h [] (fun r h' => ∃ l vs n, r = .ref l ∧ h.get? l = none ∧ h'.get? l = some (listOf vs.toArray n) ∧ All2 (NdR P) vs e.pre) := by
  unfold Does
  w_on
  k_fill
  intro dp un gd cn cs a ccd cl outer A₀ base h₀ L m s Q E ee B F X T hk hS hd hu hret
  subst ee
  have N : News h₀ L s.heap [] := News.nil
  clear hS
  refine wpAny_call ?_
  obtain ⟨va, rfl⟩ := hR.isRef
  k_dflt k_extra "q_enter"
  intro g' L' h' hk' hne' F' N' B' X' T'; (try dsimp only); (try k_fold)
  have hPg : ∀ a vs, P a vs → TupAt g' a vs := fun a vs x => hk' _ _ (hP _ _ x) (by simp)
  have hW : StopWhile := ⟨⟩
  k_steps
  rename Fr _ _ _ _ => F1
  rename News _ _ _ _ => N1
  obtain ⟨stA, fA, hx1, hx2⟩ := news_two N1
  subst hx1 hx2
  refine Stop.of ?_
  k_dflt refine while_h (L := L') (adr := [stA, fA]) (tl₀ := []) (fun c : (List Value × Nat × List Nd) × (List Value × Nat × List Nd) => [(stA, listOf c.2.1.toArray c.2.2.1), (fA, listOf c.1.1.toArray c.1.2.1)])
    (fun _ => [(Str.ofString "stack", .ref stA), (Str.ofString "found", .ref fA)]) (SSubI P e) (fun c => (c.2.2.2.map Nd.size).sum) (([], 0, []), ([Value.ref va], 1, [e]))
    ?_ (fun _ => rfl) (fun _ _ _ _ x => x) F1 N1 (fun _ h => nomatch h) ?_ ?_ ?_
  · intro c p hp; simp only [List.mem_cons, List.not_mem_nil, or_false] at hp; rcases hp with rfl | rfl <;> (dsimp only; decide)
  · intro p hp; simp only [List.mem_cons, List.not_mem_nil, or_false] at hp; rcases hp with rfl | rfl <;> rfl
  · exact ⟨.nil, .one hR, by simp⟩
  intro x91 u h tk tl F2 N2 O2 C2 TC2 _ x92
  (try dsimp only); (try k_fold)
  obtain ⟨⟨fs, nf, ds⟩, ss, ns, es⟩ := x91
  obtain ⟨hA, hB, hE⟩ := x92
  dsimp only [pin, List.cons_append, List.nil_append] at F2 N2 O2 hA hB hE ⊢
  clear F1 N1 hW
  rcases snoc_cases es with rfl | ⟨es, d, rfl⟩
  · cases hB
    k_steps
    refine ⟨_, F2, fun k9 => hret _ _ _ k9 ⟨fA, fs, nf, rfl, fresh_of hk' N2 (by k_mem) (by simp), N2.get (by k_mem), ?_⟩⟩
    simp only [List.reverse_nil, List.flatMap_nil, List.append_nil] at hE
    rw [← hE]; exact hA
  · obtain ⟨ss, x, rfl, hB, hx⟩ := hB.snocR
    have hbd : fs.length ≤ 1000 ∧ ss.length ≤ 1000 := by
      have h1 := hA.length
      have h2 := hB.length
      have h3 := nflat_len (es ++ [d]).reverse
      have h4 := congrArg List.length hE
      simp only [List.length_append, List.length_reverse, List.length_cons, List.length_nil] at h3 h4
      omega
    obtain ⟨hl1, hl2⟩ := hbd
    have hd4 : d.kids.length ≤ 4 := hk4 d (by rw [← hE]; simp only [List.reverse_append, List.reverse_cons, List.reverse_nil, List.nil_append, List.cons_append, List.flatMap_cons]; rw [Nd.pre_kids]; simp)
    k_steps
    unfold Stop
    rename Fr _ _ _ _ => F3
    rename News _ _ _ _ => N3
    intro r h2 tk2 hK ⟨t, us, n4, e1, hf, hT, hU⟩
    subst e1
    refine' after (S := []) (.miss (fun _ h => nomatch h) (.miss (fun _ h => nomatch h) .nil)) F3 N3 hK (fun _ h => nomatch h) (fun _ h => nomatch h) (by simp) ?_
    intro tl2 F4 N4 O4 C4 TC4 hs4
    dsimp only [List.map] at N4 O4 C4 hs4
    have hta : t ∉ [stA, fA] := by (refine fresh_adr N3 hf ?_; k_extra "q_fr")
    have hmem : (t, listOf us.toArray n4) ∈ tl2 := C4.get hT (old_none F3 hf) (fun q => by rw [q] at hT; exact ns_ne F4.ns hT (fun _ _ q => by cases q) rfl) hta
    clear F3 N3
    have hFo : StopFor := ⟨⟩
    have hk0 : us.length ≤ 4 := by rw [hU.length]; exact hd4
    k_steps
    rename Fr _ _ _ _ => F5
    rename News _ _ _ _ => N5
    rename _ ∧ _ => l5
    refine Stop.of ?_
    have two : ∀ (a b : Obj) p, p ∈ [(stA, a), (fA, b)] → a.cls = .type "list" → b.cls = .type "list" → p.2.cls ≠ .type "tuple" := by
      intro a b p hp ha hb
      simp only [List.mem_cons, List.not_mem_nil, or_false] at hp
      rcases hp with rfl | rfl
      · show a.cls ≠ _; rw [ha]; decide
      · show b.cls ≠ _; rw [hb]; decide
    k_dflt refine for_revlist (vs := us) (adr := [stA, fA]) (tl₀ := tl2) (fun c : List Value × Nat => [(stA, listOf c.1.toArray c.2), (fA, listOf (fs ++ [x]).toArray (nf + 1))]) (fun _ => [(Str.ofString "stack", .ref stA), (Str.ofString "found", .ref fA)])
      (fun i c _ => c.1 = ss ++ us.reverse.take i) (ss, ns + 1) rfl (N5 (t, listOf us.toArray n4) (by k_mem)).1 (N5 _ (.head _)).1 (N5 _ (.head _)).2.2 (fun q => O4 _ hmem _ q rfl) ?_ (fun c p hp => two _ _ p hp rfl rfl) (fun _ => rfl) (fun _ _ _ _ _ x => x) F5 (fun p hp => N5 p (.tail _ hp)) O4 (allLt_ne l5.2.2) ?_ (by simp) ?_ ?_
    · intro q; simp only [List.mem_cons, List.not_mem_nil, or_false] at q; exact q.elim (fun q => Nat.ne_of_gt l5.1 q) fun q => Nat.ne_of_gt l5.2.1 q
    · intro p hp; simp only [List.mem_cons, List.not_mem_nil, or_false] at hp; rcases hp with rfl | rfl <;> rfl
    · intro i y x93 u h3 tk3 tl3 hi hy F6 N6 O6 C6 TC6 hs6 hI6
      (try dsimp only); (try k_fold)
      obtain ⟨cs, cn⟩ := x93
      clear F5 N5 F4 N4
      dsimp only [pin, List.cons_append, List.nil_append] at F6 N6 O6 hI6 ⊢
      have hcl : cs.length ≤ 1004 := by rw [hI6, List.length_append, List.length_take, List.length_reverse]; omega
      k_steps
      rename Fr _ _ _ _ => F7
      rename News _ _ _ _ => N7
      refine FEnd.nx (cs ++ [y], cn + 1) tl3 F7 N7 (fun _ h => h) ?_ ?_
      · intro p hp; simp only [List.mem_cons, List.not_mem_nil, or_false] at hp; rcases hp with rfl | rfl <;> rfl
      · show cs ++ [y] = _
        rw [hI6, List.take_add_one, hy, List.append_assoc]; rfl
    · intro x94 u h3 tk3 tl3 F6 N6 O6 C6 TC6 hs6 hI6
      (try dsimp only); (try k_fold)
      obtain ⟨cs, cn⟩ := x94
      clear F5 N5 F4 N4
      dsimp only [pin, List.cons_append, List.nil_append] at F6 N6 O6 hI6 ⊢
      k_steps
      refine WEnd.nx ((fs ++ [x], nf + 1, ds ++ [d]), (cs, cn, es ++ d.kids.reverse)) tl3 F6 N6 ?_ ?_ ⟨hA.append (.one hx), ?_, ssub_step hE⟩ ssub_mea
      · intro p hp
        refine hs6 p (hs4 p (by k_mem) (by simp) ?_)
        exact fun q => O2 p hp _ q rfl
      · intro p hp; simp only [List.mem_cons, List.not_mem_nil, or_false] at hp; rcases hp with rfl | rfl <;> rfl
      · rw [hI6, ← List.length_reverse, List.take_length]
        exact hB.append hU.reverse

end
section
theorem reg_P10_0 : True := by
  k_with_none
  k_with "q_enter" => (refine' enterQ (by k_asm) (by k_asm) (by k_asm) (by k_asm) (by k_asm) (by exact rfl) (by exact rfl) (by assumption) (by k_is) (by k_is) (by ktr_room) (by exact BindsTo.of_eq rfl) (by exact locs rfl) ?_ (by exact rfl) (by exact rfl) (by exact rfl) (by decide); k_whole)
  k_with "units_room" => (ktr_units)
  k_with "q_len" => (rw [PySem.sizeLine_eq]; (try simp only [List.length_append, List.length_cons, List.length_nil]); omega)
  k_with "call builtin:list.append" => (k_here; k_dflt (refine' append_L (by k_asm) (by k_asm) (by k_upd) (by k_extra "q_len") ?_; (intro h' F' N'; (try dsimp only [List.nil_append, List.cons_append] at N'))))
  k_with "call builtin:list.pop" => (k_here; k_dflt (refine' pop_L (by k_asm) (by k_asm) (by k_upd) (by k_extra "q_len") ?_; (intro h' F' N'; (try dsimp only [List.nil_append, List.cons_append] at N'))))
  k_with "truthy ref" => (k_here; k_dflt (refine' truthy_L (by k_asm) (by k_mem) (by k_extra "q_len") ?_))
  k_with "exec While" => ((have hSt := (by with_reducible assumption : StopWhile)); clear hSt; refine Stop.of ?_)
  k_with "pyIter ref" => ((have hSt := (by with_reducible assumption : StopFor)); clear hSt; refine Stop.of ?_)
  k_with "call type:reversed" => (k_here; k_dflt (refine' rvt_L (by k_asm) (by k_asm) (by exact isTup_now (News.get (by assumption) (by k_mem))) (by ((try simp only [List.length_cons, List.length_nil]); omega)) ?_; (intro I' h' tk' F' N' l1; (try k_lt l1))))
  k_with "call builtin:list.extend" => (k_here; k_dflt (refine' extend_L (by k_asm) (by k_asm) (by (intro o'; k_upd)) (by first | assumption | exact News.get (by assumption) (by k_mem)) (by k_extra "q_len") ?_; (intro h' n' F' N'; (try dsimp only [List.nil_append, List.cons_append] at N'))))
  k_with "call type:list" => (k_here; k_dflt (refine' listT_L (by k_asm) (by k_asm) (by first | exact isTup_P (by assumption) (by assumption) (by assumption) | exact isTup_base (by assumption) (by assumption)) (by k_extra "q_len") ?_; (intro D' c' h' F' N' l1; (try k_lt l1))))
  k_with "exec For" => ((have hSt := (by with_reducible assumption : StopFor)); clear hSt; k_here; (rename Fr _ _ _ _ => lF'); (with_unfolding_all refine' For_invVF lF' (by exact rfl) (by exact rfl) ?_; k_whole))
  k_with "CompSrcT" => (k_here; (have hSt := (by with_reducible assumption : StopComp)); clear hSt; k_dflt (refine LCt.CompSrcT.ledger (by rfl) (by k_asm) (by k_asm) (by k_mem) (by (try rw [List.size_toArray]); k_extra "q_len") ?_); refine Stop.of ?_)
  k_with "CompSrc" => (k_here; (have hSt := (by with_reducible assumption : StopComp)); clear hSt; k_dflt (refine LCg.CompSrc.ledger (by rfl) (by k_asm) (by k_asm) (by k_mem) (by (try rw [List.size_toArray]); k_extra "q_len") ?_); refine Stop.of ?_)
  k_with "CompEnd" => ((have hSt := (by with_reducible assumption : StopComp)); clear hSt; refine Stop.of ?_)
  k_with "q_clean" => ((repeat (with_reducible rename Fr _ _ _ _ => hz; clear hz)); (repeat (with_reducible rename News _ _ _ _ => hz; clear hz)); (repeat (with_reducible rename _ ∧ _ => hz; clear hz)); (repeat (with_reducible rename @LT.lt Nat _ _ _ => hz; clear hz)); (repeat (with_reducible rename OwnOff _ _ => hz; clear hz)); (repeat (with_reducible rename Cov _ _ _ _ _ => hz; clear hz)); (repeat (with_reducible rename TCov _ _ _ => hz; clear hz)); (repeat (with_reducible rename _ ∈ _ => hz; clear hz)); (repeat (with_reducible rename SigEs _ _ _ _ => hz; clear hz)); (repeat (with_reducible rename ∀ p ∈ _, p ∈ _ => hz; clear hz)); (repeat (with_reducible rename @Ne Nat _ _ => hz; clear hz)); (repeat (with_reducible rename getL _ _ = _ => hz; clear hz)); (repeat (with_reducible rename _ = Data.cell _ => hz; clear hz)); (repeat (with_reducible rename StopFor => hz; clear hz)); (repeat (with_reducible rename Kept _ _ _ => hz; clear hz)); (repeat (with_reducible rename Heap.get? _ _ = _ => hz; clear hz)); (repeat (with_reducible rename @LE.le Nat _ _ _ => hz; clear hz)); (repeat (with_reducible rename IsRange _ _ _ _ _ _ _ _ => hz; clear hz)); (repeat (with_reducible rename Obj.IsDictOf _ _ _ => hz; clear hz)); (repeat (with_reducible rename AllLt _ _ => hz; clear hz)); (repeat (with_reducible rename IntsAre _ _ => hz; clear hz)); (repeat (with_reducible rename PyProof.V.FlatPairs _ _ _ => hz; clear hz)); (repeat (with_reducible rename Heap.IsList _ _ _ => hz; clear hz)); (repeat (with_reducible rename ReadsAll _ _ _ _ => hz; clear hz)); (repeat (with_reducible rename @LT.lt Int _ _ _ => hz; clear hz)); (repeat (with_reducible rename @LE.le Int _ _ _ => hz; clear hz)); (repeat (with_reducible rename _ ∨ _ => hz; clear hz)))
  k_with "q_no" => (exact notin2' (by k_ne) (by k_ne))
  k_with "q_fr" => (first | exact List.forall_mem_nil _ | (refine List.forall_mem_cons.mpr ⟨⟨_, by k_mem⟩, ?_⟩; k_extra "q_fr"))
  k_with "k_ne" => (refine neN ?_; (try dsimp only); k_extra "ne")
  k_with "ne" => (first | with_reducible assumption | exact Nat.ne_of_lt (AllLt.get (by with_reducible assumption) (by k_mem)) | exact Nat.ne_of_gt (AllLt.get (by with_reducible assumption) (by k_mem)) | exact Ne.symm (by with_reducible assumption) | exact Nat.ne_of_gt (AllLt.get2 (by with_reducible assumption) (by with_reducible assumption) (by k_mem)) | exact Nat.ne_of_lt (AllLt.get2 (by with_reducible assumption) (by with_reducible assumption) (by k_mem)) | exact Nat.ne_of_lt (by with_reducible assumption) | exact Nat.ne_of_gt (by with_reducible assumption) | omega)
  k_with "subscriptTail" => (k_here; k_dflt (refine' item_tupleT (by first | exact isTup_P (by assumption) (by assumption) (by assumption) | exact isTup_base (by assumption) (by assumption) | exact isTup_now (by assumption)) (by decide) (by decide) (by rfl) (by rfl) ?_; k_whole))
  k_with "spliced" => (k_here; (with_reducible show wpAny _ _ (spliced (backTo _ (starEach (_ :: _) _))) _ _ _); k_dflt (refine' svs_r (by k_asm) (by exact rfl) ?_ (by rfl); k_whole))
  k_with "execs cons" => (k_here; (with_reducible show wpAny _ _ (execs (Stmt.If _ _ [] _ :: _) _) _ _ _); k_dflt (refine' if_n (by k_asm) (by exact rfl) ?_ (by rfl); k_whole))
  k_with "exec If" => (k_here; k_dflt (first | (refine' if_f (by k_asm) (by exact rfl) ?_ (by rfl); k_whole) | (refine' if_t (by k_asm) (by exact rfl) ?_ (by rfl); k_whole)))
  k_with "eval Call" => (k_here; (with_reducible show wpAny _ _ (eval (Expr.Call (Expr.Name _ _) (_ :: _) [] _) _) _ _ _); k_dflt (refine' call_sv (by k_asm) (by k_asm) (by k_asm) (by k_is) (by k_is) (by exact rfl) ?_ (by rfl) (by rfl) (by decide) (by rfl) (by rfl); k_whole))
  k_with "eval Subscript" => (k_here; k_dflt (refine' sub_sv (by k_asm) (by exact rfl) (by exact rfl) (by first | exact isTup_P (by assumption) (by assumption) (by assumption) | exact isTup_base (by assumption) (by assumption) | exact isTup_now (by assumption)) (by decide) (by decide) (by rfl) (by rfl) ?_ (by with_unfolding_all rfl) (by rfl); k_whole))
  k_with "k_steps" => ((try k_fold); repeat' (first | (k_unfold; (try dsimp only)) | (k_end; wrow_close) | walk1 | (dsimp only; walk1) | (leave1; walk_say "STEP leave1"; try dsimp only) | fail "no step"))
  k_with "k_memR" => (first | with_reducible exact List.mem_cons_self .. | with_reducible assumption | (with_reducible refine List.mem_cons_of_mem _ ?_; k_extra "k_memR"))
  k_with "k_memD" => (first | exact List.mem_cons_self .. | with_reducible assumption | (refine List.mem_cons_of_mem _ ?_; k_extra "k_memD"))
  k_with "k_mem" => (first | k_extra "k_memR" | k_extra "k_memD")
  k_with "k_all" => (first | exact List.forall_mem_nil _ | ((with_reducible refine' List.forall_mem_cons.mpr (And.intro ?_ ?_)); k_ne; k_all) | with_reducible assumption | exact OwnOff.ne (by with_reducible assumption) (by k_extra "k_memR") | exact allLt_ne (by with_reducible assumption) | exact allLt_nes (by with_reducible assumption) (by intro p9 hp9; k_extra "k_memR") | exact OwnOff.ne (by assumption) (by k_mem) | ((refine' List.forall_mem_cons.mpr (And.intro ?_ ?_)); k_ne; k_all) | exact allLt_nes (by with_reducible assumption) (by intro p9 hp9; k_mem))
  trivial
theorem reg_P10_1 : True := by
  k_with "call ref" => (k_here; k_dflt ((try k_fold); refine' Does.stop (substs_does (by exact base_now (by assumption) (by assumption)) (by assumption) (by first | assumption | omega) (by assumption)) (by k_asm) (by k_asm) (by k_asm) (by k_asm) (by first | exact rfl | assumption) (by exact List.forall_mem_nil _) (by ktr_room) (by ktr_units) ?_))
  k_with "call ref" => (k_here; k_dflt ((try k_fold); refine' Does.stop (sexprs_does (by exact base_now (by assumption) (by assumption)) (by assumption)) (by k_asm) (by k_asm) (by k_asm) (by k_asm) (by first | exact rfl | assumption) (by exact List.forall_mem_nil _) (by ktr_room) (by ktr_units) ?_))
  k_with "call ref" => (k_here; k_dflt ((try k_fold); refine' Does.stop (reads_does (by exact base_now (by assumption) (by assumption)) (by assumption) (by first | assumption | omega) (by assumption)) (by k_asm) (by k_asm) (by k_asm) (by k_asm) (by first | exact rfl | assumption) (by exact List.forall_mem_nil _) (by ktr_room) (by ktr_units) ?_))
  k_with "setItem ref int" => (k_here; k_dflt (refine' dk_put (by k_asm) (by k_asm) (by k_updF) (by assumption) (by omega) ?_); intro h' o' tk' F' N' hDK')
  k_with "call builtin:sorted" => (k_here; k_dflt (refine' dk_sorted (by rfl) (by k_asm) (by k_asm) (by k_mem) (by assumption) (by assumption) (by omega) ?_); refine Stop.of ?_)
  trivial
theorem ints_get : ∀ {ns : List Int} {vs : List Value} {j : Nat} {v : Value}, IntsAre vs ns → vs[j]? = some v → ∃ k t, ns[j]? = some k ∧ v = .int k t
  | _, _, 0, _, .cons _ _ _, e => ⟨_, _, rfl, (Option.some.inj e).symm⟩
  | _, _, j + 1, _, .cons _ _ r, e => ints_get (j := j) r e
theorem ints_len : ∀ {ns : List Int} {vs : List Value}, IntsAre vs ns → vs.length = ns.length
  | _, _, .nil => rfl
  | _, _, .cons _ _ r => congrArg Nat.succ (ints_len r)
noncomputable def Nd.rk (l : List Nd) : List Int := (l.flatMap Nd.exprs).flatMap Ex.keys
theorem take_mem {α : Type} {l : List α} {a : α} {i : Nat} (h : a ∈ l.take i) : a ∈ l := List.mem_of_mem_take h
set_option maxHeartbeats 4000000 in
theorem sreads_does {w : World} {mean : ExcName → Option Value} {mg mb : Str → Option Value} {v : Value} {nd : Nd} {h : Heap} {P : Addr → List Value → Prop} (hP : ∀ a vs, P a vs → TupAt h a vs) (hR : NdR P v nd) (hsz : nd.pre.length ≤ 1000) (hk4 : ∀ d ∈ nd.pre, d.kids.length ≤ 4)
    (hes : ∀ d ∈ nd.pre, ∀ e ∈ d.exprs, e.pre.length ≤ 1000) (hK : ∀ k ∈ Nd.rk nd.pre, 0 ≤ k ∧ k < 5) :
    Does w mean mg mb 94 [v] 20 1000 h [] (fun r h' => ∃ (l : Addr) (vs : List Value) (n : Nat) (ns : List Int), r = .ref l ∧ h.get? l = none ∧ h'.get? l = some (listOf vs.toArray n) ∧ IntsAre vs ns ∧ ns.Pairwise (fun x y => x ≤ y) ∧ ns.Nodup ∧ ∀ k, k ∈ ns ↔ k ∈ Nd.rk nd.pre) := by
  unfold Does
  w_on
  k_fill
  intro dp un gd cn cs a ccd cl outer A₀ base h₀ L m s Q E ee B F X T hk hS hd hu hret
  subst ee
  have N : News h₀ L s.heap [] := News.nil
  clear hS
  refine wpAny_call ?_
  k_dflt k_extra "q_enter"
  intro g' L' h' hk' hne' F' N' B' X' T'; (try dsimp only); (try k_fold)
  have hPg : ∀ a vs, P a vs → TupAt g' a vs := fun a vs x => hk' _ _ (hP _ _ x) (by simp)
  have hFo : StopFor := ⟨⟩
  k_steps
  unfold Stop
  rename Fr _ _ _ _ => F3
  rename News _ _ _ _ => N3
  rename (_ == sysModules) = false => hlo
  rename Obj.IsDictOf (PySem.intKind _ _) _ _ => hD0
  obtain ⟨dA, hx1⟩ := news_hd N3
  subst hx1
  intro r h2 tk2 hKp ⟨l, us, n, e1, hf, hl, hU⟩
  subst e1
  have hc0 := (dk_new hD0).cls
  refine' after (S := []) (.miss (fun _ h => nomatch h) .nil) F3 N3 hKp (fun _ h => nomatch h) (fun _ h => nomatch h) (by intro p hp; simp only [List.mem_singleton] at hp; subst hp; rw [hc0]; decide) ?_
  intro tl2 F4 N4 O4 C4 TC4 hs4
  dsimp only [List.map] at N4 O4 C4 hs4
  have hla : l ∉ [dA] := by (refine fresh_adr N3 hf ?_; k_extra "q_fr")
  clear F3 N3
  have ntD : ∀ (c : { o : Obj // o.cls = .type "dict" }), ∀ p ∈ [(dA, c.1)], p.2.cls ≠ .type "tuple" := by
    intro c p hp; simp only [List.mem_singleton] at hp; subst hp; show c.1.cls ≠ _; rw [c.2]; decide
  k_dflt refine for_list (vs := us) (nn := n) (adr := [dA]) (tl₀ := tl2) (fun c : { o : Obj // o.cls = .type "dict" } × List Int => [(dA, c.1.1)]) (fun _ => [(Str.ofString "keys", .ref dA)])
    (fun i c _ => DK PySem.Challenge.rw_on0116_01.row.prog w c.1.1 c.2 ∧ ∀ k, k ∈ c.2 ↔ k ∈ Nd.rk (nd.pre.take i)) (⟨_, hc0⟩, []) rfl hl hla (fun c => ntD c.1) (fun _ => rfl) (fun _ _ _ _ _ x => x) F4 N4 O4 ?_ ⟨dk_new hD0, by simp [Nd.rk]⟩ ?_ ?_
  · intro p hp; simp only [List.mem_singleton] at hp; subst hp; rfl
  · intro i y x91 u h3 tk3 tl3 hy F5 N5 O5 C5 TC5 hs5 x92
    (try dsimp only); (try k_fold)
    obtain ⟨⟨o, ho⟩, ks⟩ := x91
    obtain ⟨hDK, hk⟩ := x92
    dsimp only [pin, List.cons_append, List.nil_append] at F5 N5 O5 hDK hk ⊢
    clear F4 N4
    obtain ⟨d, hd, hyr⟩ := hU.get hy
    have hdm : d ∈ nd.pre := List.mem_of_getElem? hd
    k_steps
    unfold Stop
    rename Fr _ _ _ _ => F7
    rename News _ _ _ _ => N7
    intro r h4 tk4 hKq ⟨l', us', n', e2, hf', hl', hU'⟩
    subst e2
    refine' after (S := []) (.miss (fun _ h => nomatch h) .nil) F7 N7 hKq (fun _ h => nomatch h) (fun _ h => nomatch h) (ntD ⟨o, ho⟩) ?_
    intro tl4 F8 N8 O8 C8 TC8 hs8
    dsimp only [List.map] at N8 O8 C8 hs8
    have hsub : ∀ p ∈ tl3, p ∈ tl4 := fun p hp => hs8 p (by k_mem) (by simp) fun q => O5 p hp _ q rfl
    have hla' : l' ∉ [dA] := by (refine fresh_adr N7 hf' ?_; k_extra "q_fr")
    clear F7 N7
    k_dflt refine for_list (vs := us') (nn := n') (adr := [dA]) (tl₀ := tl4) (fun c : { o : Obj // o.cls = .type "dict" } × List Int => [(dA, c.1.1)]) (fun _ => [(Str.ofString "keys", .ref dA)])
      (fun j c _ => DK PySem.Challenge.rw_on0116_01.row.prog w c.1.1 c.2 ∧ ∀ k, k ∈ c.2 ↔ k ∈ Nd.rk (nd.pre.take i) ∨ k ∈ (d.exprs.take j).flatMap Ex.keys) (⟨o, ho⟩, ks) rfl hl' hla' (fun c => ntD c.1) (fun _ => rfl) (fun _ _ _ _ _ x => x) F8 N8 O8 ?_ ⟨hDK, by simpa using hk⟩ ?_ ?_
    · intro p hp; simp only [List.mem_singleton] at hp; subst hp; rfl
    · intro j y x93 u h3 tk3 tl5 hy F9 N9 O9 C9 TC9 hs9 x94
      (try dsimp only); (try k_fold)
      obtain ⟨⟨o, ho⟩, ks⟩ := x93
      obtain ⟨hDK, hk⟩ := x94
      dsimp only [pin, List.cons_append, List.nil_append] at F9 N9 O9 hDK hk ⊢
      clear F8 N8
      obtain ⟨e, he, hyr⟩ := hU'.get hy
      have hem : e ∈ d.exprs := List.mem_of_getElem? he
      have hez := hes d hdm e hem
      have heK : ∀ k ∈ e.keys, 0 ≤ k ∧ k < 5 := fun k q => hK k (List.mem_flatMap.mpr ⟨e, List.mem_flatMap.mpr ⟨d, hdm, hem⟩, q⟩)
      k_steps
      unfold Stop
      rename Fr _ _ _ _ => F7
      rename News _ _ _ _ => N7
      intro r h6 tk6 hKr ⟨l6, us6, n6, ns6, e6, hf6, hl6, hU6, _, _, hk6⟩
      subst e6
      refine' after (S := []) (.miss (fun _ h => nomatch h) .nil) F7 N7 hKr (fun _ h => nomatch h) (fun _ h => nomatch h) (ntD ⟨o, ho⟩) ?_
      intro tl6 Fa Na Oa Ca TCa hsa
      dsimp only [List.map] at Na Oa Ca hsa
      have hsub2 : ∀ p ∈ tl5, p ∈ tl6 := fun p hp => hsa p (by k_mem) (by simp) fun q => O9 p hp _ q rfl
      have hla6 : l6 ∉ [dA] := by (refine fresh_adr N7 hf6 ?_; k_extra "q_fr")
      clear F7 N7
      k_dflt refine for_list (vs := us6) (nn := n6) (adr := [dA]) (tl₀ := tl6) (fun c : { o : Obj // o.cls = .type "dict" } × List Int => [(dA, c.1.1)]) (fun _ => [(Str.ofString "keys", .ref dA)])
        (fun q c _ => DK PySem.Challenge.rw_on0116_01.row.prog w c.1.1 c.2 ∧ ∀ k, k ∈ c.2 ↔ (k ∈ Nd.rk (nd.pre.take i) ∨ k ∈ (d.exprs.take j).flatMap Ex.keys) ∨ k ∈ ns6.take q) (⟨o, ho⟩, ks) rfl hl6 hla6 (fun c => ntD c.1) (fun _ => rfl) (fun _ _ _ _ _ x => x) Fa Na Oa ?_ ⟨hDK, by simpa using hk⟩ ?_ ?_
      · intro p hp; simp only [List.mem_singleton] at hp; subst hp; rfl
      · intro q y x95 u h3 tk3 tl7 hy Fb Nb Ob Cb TCb hsb x96
        (try dsimp only); (try k_fold)
        obtain ⟨⟨o, ho⟩, ks⟩ := x95
        obtain ⟨hDK, hk⟩ := x96
        dsimp only [pin, List.cons_append, List.nil_append] at Fb Nb Ob hDK hk ⊢
        clear Fa Na
        obtain ⟨k0, t0, hk0, rfl⟩ := ints_get hU6 hy
        have hlen : ks.length ≤ 5 := nodup_len 5 ks hDK.nodup fun k z => by
          rcases (hk k).mp z with (z | z) | z
          · refine hK k ?_
            obtain ⟨e', h1, h2⟩ := List.mem_flatMap.mp z
            obtain ⟨d', h3, h4⟩ := List.mem_flatMap.mp h1
            exact List.mem_flatMap.mpr ⟨e', List.mem_flatMap.mpr ⟨d', take_mem h3, h4⟩, h2⟩
          · obtain ⟨e', h1, h2⟩ := List.mem_flatMap.mp z
            exact hK k (List.mem_flatMap.mpr ⟨e', List.mem_flatMap.mpr ⟨d, hdm, take_mem h1⟩, h2⟩)
          · exact heK k ((hk6 k).mp (take_mem z))
        k_steps
        rename Fr _ _ _ _ => F7
        rename News _ _ _ _ => N7
        rename DK _ _ _ _ => hD9
        refine FEnd.nx (⟨_, hD9.cls⟩, putK ks k0) tl7 F7 N7 (fun _ h => h) ?_ ⟨hD9, fun k => ?_⟩
        · intro p hp; simp only [List.mem_singleton] at hp; subst hp; rfl
        · rw [mem_putK, hk, List.take_add_one, hk0, List.mem_append]
          simp [or_assoc]
      · intro x97 u h3 tk3 tl7 Fb Nb Ob Cb TCb hsb x98
        (try dsimp only); (try k_fold)
        obtain ⟨⟨o, ho⟩, ks⟩ := x97
        obtain ⟨hDK, hk⟩ := x98
        dsimp only [pin, List.cons_append, List.nil_append] at Fb Nb Ob hDK hk ⊢
        clear Fa Na
        k_steps
        refine FEnd.nx (⟨o, ho⟩, ks) tl7 Fb Nb (fun p hp => hsb p (hsub2 p hp)) ?_ ⟨hDK, fun k => ?_⟩
        · intro p hp; simp only [List.mem_singleton] at hp; subst hp; rfl
        rw [hk, ints_len hU6, List.take_length, hk6, List.take_add_one, he]
        simp [or_assoc]
    · intro x99 u h3 tk3 tl5 F9 N9 O9 C9 TC9 hs9 x910
      (try dsimp only); (try k_fold)
      obtain ⟨⟨o, ho⟩, ks⟩ := x99
      obtain ⟨hDK, hk⟩ := x910
      dsimp only [pin, List.cons_append, List.nil_append] at F9 N9 O9 hDK hk ⊢
      clear F8 N8
      k_steps
      refine FEnd.nx (⟨o, ho⟩, ks) tl5 F9 N9 (fun p hp => hs9 p (hsub p hp)) ?_ ⟨hDK, fun k => ?_⟩
      · intro p hp; simp only [List.mem_singleton] at hp; subst hp; rfl
      rw [hk, hU'.length, List.take_length]
      unfold Nd.rk
      rw [List.take_add_one, hd]
      simp
  · intro x911 u h3 tk3 tl3 F5 N5 O5 C5 TC5 hs5 x912
    (try dsimp only); (try k_fold)
    obtain ⟨⟨o, ho⟩, ks⟩ := x911
    obtain ⟨hDK, hk⟩ := x912
    dsimp only [pin, List.cons_append, List.nil_append] at F5 N5 O5 hDK hk ⊢
    clear F4 N4
    have hlen : ks.length ≤ 5 := nodup_len 5 ks hDK.nodup fun k q => hK k (by
      have := (hk k).mp q; rw [hU.length, List.take_length] at this; exact this)
    k_steps
    unfold Stop
    intro B h4 tk4 vs' ns c F6 N6 l6 hi hp ho'
    k_steps
    refine ⟨_, F6, fun k9 => hret _ _ _ k9 ⟨B, vs', c, ns, rfl, fresh_of hk' N6 (.head _) (by simp), (N6 _ (.head _)).1, hi, ho', hp.nodup_iff.mpr hDK.nodup, fun k => ?_⟩⟩
    rw [hp.mem_iff, hk, hU.length, List.take_length]

end
section
theorem reg_P11_0 : True := by
  k_with_none
  k_with "q_enter" => (refine' enterQ (by k_asm) (by k_asm) (by k_asm) (by k_asm) (by k_asm) (by exact rfl) (by exact rfl) (by assumption) (by k_is) (by k_is) (by ktr_room) (by exact BindsTo.of_eq rfl) (by exact locs rfl) ?_ (by exact rfl) (by exact rfl) (by exact rfl) (by decide); k_whole)
  k_with "units_room" => (ktr_units)
  k_with "q_len" => (rw [PySem.sizeLine_eq]; (try simp only [List.length_append, List.length_cons, List.length_nil]); omega)
  k_with "call builtin:list.append" => (k_here; k_dflt (refine' append_L (by k_asm) (by k_asm) (by k_upd) (by k_extra "q_len") ?_; (intro h' F' N'; (try dsimp only [List.nil_append, List.cons_append] at N'))))
  k_with "call builtin:list.pop" => (k_here; k_dflt (refine' pop_L (by k_asm) (by k_asm) (by k_upd) (by k_extra "q_len") ?_; (intro h' F' N'; (try dsimp only [List.nil_append, List.cons_append] at N'))))
  k_with "truthy ref" => (k_here; k_dflt (refine' truthy_L (by k_asm) (by k_mem) (by k_extra "q_len") ?_))
  k_with "exec While" => ((have hSt := (by with_reducible assumption : StopWhile)); clear hSt; refine Stop.of ?_)
  k_with "pyIter ref" => ((have hSt := (by with_reducible assumption : StopFor)); clear hSt; refine Stop.of ?_)
  k_with "call type:reversed" => (k_here; k_dflt (refine' rvt_L (by k_asm) (by k_asm) (by exact isTup_now (News.get (by assumption) (by k_mem))) (by ((try simp only [List.length_cons, List.length_nil]); omega)) ?_; (intro I' h' tk' F' N' l1; (try k_lt l1))))
  k_with "call builtin:list.extend" => (k_here; k_dflt (refine' extend_L (by k_asm) (by k_asm) (by (intro o'; k_upd)) (by first | assumption | exact News.get (by assumption) (by k_mem)) (by k_extra "q_len") ?_; (intro h' n' F' N'; (try dsimp only [List.nil_append, List.cons_append] at N'))))
  k_with "call type:list" => (k_here; k_dflt (refine' listT_L (by k_asm) (by k_asm) (by first | exact isTup_P (by assumption) (by assumption) (by assumption) | exact isTup_base (by assumption) (by assumption)) (by k_extra "q_len") ?_; (intro D' c' h' F' N' l1; (try k_lt l1))))
  k_with "exec For" => ((have hSt := (by with_reducible assumption : StopFor)); clear hSt; k_here; (rename Fr _ _ _ _ => lF'); (with_unfolding_all refine' For_invVF lF' (by exact rfl) (by exact rfl) ?_; k_whole))
  k_with "CompSrcT" => (k_here; (have hSt := (by with_reducible assumption : StopComp)); clear hSt; k_dflt (refine LCt.CompSrcT.ledger (by rfl) (by k_asm) (by k_asm) (by k_mem) (by (try rw [List.size_toArray]); k_extra "q_len") ?_); refine Stop.of ?_)
  k_with "CompSrc" => (k_here; (have hSt := (by with_reducible assumption : StopComp)); clear hSt; k_dflt (refine LCg.CompSrc.ledger (by rfl) (by k_asm) (by k_asm) (by k_mem) (by (try rw [List.size_toArray]); k_extra "q_len") ?_); refine Stop.of ?_)
  k_with "CompEnd" => ((have hSt := (by with_reducible assumption : StopComp)); clear hSt; refine Stop.of ?_)
  k_with "q_clean" => ((repeat (with_reducible rename Fr _ _ _ _ => hz; clear hz)); (repeat (with_reducible rename News _ _ _ _ => hz; clear hz)); (repeat (with_reducible rename _ ∧ _ => hz; clear hz)); (repeat (with_reducible rename @LT.lt Nat _ _ _ => hz; clear hz)); (repeat (with_reducible rename OwnOff _ _ => hz; clear hz)); (repeat (with_reducible rename Cov _ _ _ _ _ => hz; clear hz)); (repeat (with_reducible rename TCov _ _ _ => hz; clear hz)); (repeat (with_reducible rename _ ∈ _ => hz; clear hz)); (repeat (with_reducible rename SigEs _ _ _ _ => hz; clear hz)); (repeat (with_reducible rename ∀ p ∈ _, p ∈ _ => hz; clear hz)); (repeat (with_reducible rename @Ne Nat _ _ => hz; clear hz)); (repeat (with_reducible rename getL _ _ = _ => hz; clear hz)); (repeat (with_reducible rename _ = Data.cell _ => hz; clear hz)); (repeat (with_reducible rename StopFor => hz; clear hz)); (repeat (with_reducible rename Kept _ _ _ => hz; clear hz)); (repeat (with_reducible rename Heap.get? _ _ = _ => hz; clear hz)); (repeat (with_reducible rename @LE.le Nat _ _ _ => hz; clear hz)); (repeat (with_reducible rename IsRange _ _ _ _ _ _ _ _ => hz; clear hz)); (repeat (with_reducible rename Obj.IsDictOf _ _ _ => hz; clear hz)); (repeat (with_reducible rename AllLt _ _ => hz; clear hz)); (repeat (with_reducible rename IntsAre _ _ => hz; clear hz)); (repeat (with_reducible rename PyProof.V.FlatPairs _ _ _ => hz; clear hz)); (repeat (with_reducible rename Heap.IsList _ _ _ => hz; clear hz)); (repeat (with_reducible rename ReadsAll _ _ _ _ => hz; clear hz)); (repeat (with_reducible rename @LT.lt Int _ _ _ => hz; clear hz)); (repeat (with_reducible rename @LE.le Int _ _ _ => hz; clear hz)); (repeat (with_reducible rename _ ∨ _ => hz; clear hz)))
  k_with "q_no" => (exact notin2' (by k_ne) (by k_ne))
  k_with "q_fr" => (first | exact List.forall_mem_nil _ | (refine List.forall_mem_cons.mpr ⟨⟨_, by k_mem⟩, ?_⟩; k_extra "q_fr"))
  k_with "k_ne" => (refine neN ?_; (try dsimp only); k_extra "ne")
  k_with "ne" => (first | with_reducible assumption | exact Nat.ne_of_lt (AllLt.get (by with_reducible assumption) (by k_mem)) | exact Nat.ne_of_gt (AllLt.get (by with_reducible assumption) (by k_mem)) | exact Ne.symm (by with_reducible assumption) | exact Nat.ne_of_gt (AllLt.get2 (by with_reducible assumption) (by with_reducible assumption) (by k_mem)) | exact Nat.ne_of_lt (AllLt.get2 (by with_reducible assumption) (by with_reducible assumption) (by k_mem)) | exact Nat.ne_of_lt (by with_reducible assumption) | exact Nat.ne_of_gt (by with_reducible assumption) | omega)
  k_with "subscriptTail" => (k_here; k_dflt (refine' item_tupleT (by first | exact isTup_P (by assumption) (by assumption) (by assumption) | exact isTup_base (by assumption) (by assumption) | exact isTup_now (by assumption)) (by decide) (by decide) (by rfl) (by rfl) ?_; k_whole))
  k_with "spliced" => (k_here; (with_reducible show wpAny _ _ (spliced (backTo _ (starEach (_ :: _) _))) _ _ _); k_dflt (refine' svs_r (by k_asm) (by exact rfl) ?_ (by rfl); k_whole))
  k_with "execs cons" => (k_here; (with_reducible show wpAny _ _ (execs (Stmt.If _ _ [] _ :: _) _) _ _ _); k_dflt (refine' if_n (by k_asm) (by exact rfl) ?_ (by rfl); k_whole))
  k_with "exec If" => (k_here; k_dflt (first | (refine' if_f (by k_asm) (by exact rfl) ?_ (by rfl); k_whole) | (refine' if_t (by k_asm) (by exact rfl) ?_ (by rfl); k_whole)))
  k_with "eval Call" => (k_here; (with_reducible show wpAny _ _ (eval (Expr.Call (Expr.Name _ _) (_ :: _) [] _) _) _ _ _); k_dflt (refine' call_sv (by k_asm) (by k_asm) (by k_asm) (by k_is) (by k_is) (by exact rfl) ?_ (by rfl) (by rfl) (by decide) (by rfl) (by rfl); k_whole))
  k_with "eval Subscript" => (k_here; k_dflt (refine' sub_sv (by k_asm) (by exact rfl) (by exact rfl) (by first | exact isTup_P (by assumption) (by assumption) (by assumption) | exact isTup_base (by assumption) (by assumption) | exact isTup_now (by assumption)) (by decide) (by decide) (by rfl) (by rfl) ?_ (by with_unfolding_all rfl) (by rfl); k_whole))
  k_with "k_steps" => ((try k_fold); repeat' (first | (k_unfold; (try dsimp only)) | (k_end; wrow_close) | walk1 | (dsimp only; walk1) | (leave1; walk_say "STEP leave1"; try dsimp only) | fail "no step"))
  k_with "k_memR" => (first | with_reducible exact List.mem_cons_self .. | with_reducible assumption | (with_reducible refine List.mem_cons_of_mem _ ?_; k_extra "k_memR"))
  k_with "k_memD" => (first | exact List.mem_cons_self .. | with_reducible assumption | (refine List.mem_cons_of_mem _ ?_; k_extra "k_memD"))
  k_with "k_mem" => (first | k_extra "k_memR" | k_extra "k_memD")
  k_with "k_all" => (first | exact List.forall_mem_nil _ | ((with_reducible refine' List.forall_mem_cons.mpr (And.intro ?_ ?_)); k_ne; k_all) | with_reducible assumption | exact OwnOff.ne (by with_reducible assumption) (by k_extra "k_memR") | exact allLt_ne (by with_reducible assumption) | exact allLt_nes (by with_reducible assumption) (by intro p9 hp9; k_extra "k_memR") | exact OwnOff.ne (by assumption) (by k_mem) | ((refine' List.forall_mem_cons.mpr (And.intro ?_ ?_)); k_ne; k_all) | exact allLt_nes (by with_reducible assumption) (by intro p9 hp9; k_mem))
  trivial
theorem reg_P11_1 : True := by
  k_with "call ref" => (k_here; k_dflt ((try k_fold); refine' Does.stop (substs_does (by exact base_now (by assumption) (by assumption)) (by assumption) (by first | assumption | omega) (by assumption)) (by k_asm) (by k_asm) (by k_asm) (by k_asm) (by first | exact rfl | assumption) (by exact List.forall_mem_nil _) (by ktr_room) (by ktr_units) ?_))
  k_with "call ref" => (k_here; k_dflt ((try k_fold); refine' Does.stop (sexprs_does (by exact base_now (by assumption) (by assumption)) (by assumption)) (by k_asm) (by k_asm) (by k_asm) (by k_asm) (by first | exact rfl | assumption) (by exact List.forall_mem_nil _) (by ktr_room) (by ktr_units) ?_))
  k_with "call ref" => (k_here; k_dflt ((try k_fold); refine' Does.stop (subexpr_does (by exact base_now (by assumption) (by assumption)) (by assumption) (by first | assumption | omega)) (by k_asm) (by k_asm) (by k_asm) (by k_asm) (by first | exact rfl | assumption) (by exact List.forall_mem_nil _) (by ktr_room) (by ktr_units) ?_))
  k_with "compareOp NotIn" => (k_here; k_dflt (refine' notin_ex (by k_asm) (by k_mem) (by assumption) (by assumption) (by assumption) (by ke_room) ?_))
  trivial
theorem flat_take1 {α β : Type} (f : α → List β) (l : List α) (i : Nat) : ((l.take i).flatMap f).length ≤ (l.flatMap f).length := by
  conv => rhs; rw [← List.take_append_drop i l]
  rw [List.flatMap_append, List.length_append]; omega
theorem flat_one {α β : Type} (f : α → List β) {l : List α} {d : α} (h : d ∈ l) : (f d).length ≤ (l.flatMap f).length := by
  induction l with
  | nil => cases h
  | cons a l ih =>
    rw [List.flatMap_cons, List.length_append]
    rcases List.mem_cons.mp h with rfl | h
    · omega
    · have := ih h; omega
theorem flat_take {α β γ : Type} (f : α → List β) (g : β → List γ) (l : List α) (i : Nat) : (((l.take i).flatMap f).flatMap g).length ≤ ((l.flatMap f).flatMap g).length := by
  rw [List.flatMap_assoc, List.flatMap_assoc]; exact flat_take1 _ _ _
set_option maxHeartbeats 4000000 in
theorem rwords_does {w : World} {mean : ExcName → Option Value} {mg mb : Str → Option Value} {v : Value} {nd : Nd} {key : Int} {kt : Tok} {h : Heap} {P : Addr → List Value → Prop} (hP : ∀ a vs, P a vs → TupAt h a vs) (hR : NdR P v nd) (ok : nd.Ok) :
    Does w mean mg mb 108 [v, .int key kt] 20 1000 h [] (fun r h' => ∃ (l : Addr) (vs : List Value) (n : Nat), r = .ref l ∧ h.get? l = none ∧ h'.get? l = some (listOf vs.toArray n) ∧ All2 (ExR P) vs (fw key (Nd.ex nd.pre))) := by
  have hsz := ok.sz
  have hk4 := ok.k4
  unfold Does
  w_on
  k_fill
  intro dp un gd cn cs a ccd cl outer A₀ base h₀ L m s Q E ee B F X T hk hS hd hu hret
  subst ee
  have N : News h₀ L s.heap [] := News.nil
  clear hS
  have one : ∀ (a : Addr) (b : Obj) p, p ∈ [(a, b)] → b.cls = .type "list" → p.2.cls ≠ .type "tuple" := by
    intro a b p hp hb; simp only [List.mem_singleton] at hp; subst hp; show b.cls ≠ _; rw [hb]; decide
  refine wpAny_call ?_
  k_dflt k_extra "q_enter"
  intro g' L' h' hk' hne' F' N' B' X' T'; (try dsimp only); (try k_fold)
  have hPg : ∀ a vs, P a vs → TupAt g' a vs := fun a vs x => hk' _ _ (hP _ _ x) (by simp)
  have hFo : StopFor := ⟨⟩
  k_steps
  unfold Stop
  rename Fr _ _ _ _ => F3
  rename News _ _ _ _ => N3
  obtain ⟨fA, hx1⟩ := news_hd N3
  subst hx1
  intro r h2 tk2 hKp ⟨l, us, n, e1, hf, hl, hU⟩
  subst e1
  refine' after (S := []) (.miss (fun _ h => nomatch h) .nil) F3 N3 hKp (fun _ h => nomatch h) (fun _ h => nomatch h) (fun p hp => one _ _ p hp rfl) ?_
  intro tl2 F4 N4 O4 C4 TC4 hs4
  dsimp only [List.map] at N4 O4 C4 hs4
  have hla : l ∉ [fA] := by (refine fresh_adr N3 hf ?_; k_extra "q_fr")
  clear F3 N3
  k_dflt refine for_list (vs := us) (nn := n) (adr := [fA]) (tl₀ := tl2) (fun c : List Value × Nat => [(fA, listOf c.1.toArray c.2)]) (fun _ => [(Str.ofString "found", .ref fA), (Str.ofString "key", .int key kt)])
    (fun i c _ => All2 (ExR P) c.1 (fw key (Nd.ex (nd.pre.take i)))) ([], 0) rfl hl hla (fun c p hp => one _ _ p hp rfl) (fun _ => rfl) (fun _ _ _ _ _ x => x) F4 N4 O4 ?_ (by simp [Nd.ex, fw]; exact .nil) ?_ ?_
  · intro p hp; simp only [List.mem_cons, List.not_mem_nil, or_false] at hp; rcases hp with rfl | rfl <;> rfl
  · intro i y x91 u h3 tk3 tl3 hy F5 N5 O5 C5 TC5 hs5 hI
    (try dsimp only); (try k_fold)
    obtain ⟨cs, cn⟩ := x91
    dsimp only [pin, List.cons_append, List.nil_append] at F5 N5 O5 hI ⊢
    clear F4 N4
    obtain ⟨d, hd, hyr⟩ := hU.get hy
    have hdm : d ∈ nd.pre := List.mem_of_getElem? hd
    k_steps
    unfold Stop
    rename Fr _ _ _ _ => F7
    rename News _ _ _ _ => N7
    intro r h4 tk4 hKq ⟨l', us', n', e2, hf', hl', hU'⟩
    subst e2
    refine' after (S := []) (.miss (fun _ h => nomatch h) .nil) F7 N7 hKq (fun _ h => nomatch h) (fun _ h => nomatch h) (fun p hp => one _ _ p hp rfl) ?_
    intro tl4 F8 N8 O8 C8 TC8 hs8
    dsimp only [List.map] at N8 O8 C8 hs8
    have hsub : ∀ p ∈ tl3, p ∈ tl4 := fun p hp => hs8 p (by k_mem) (by simp) fun q => O5 p hp _ q rfl
    have hla' : l' ∉ [fA] := by (refine fresh_adr N7 hf' ?_; k_extra "q_fr")
    clear F7 N7
    k_dflt refine for_list (vs := us') (nn := n') (adr := [fA]) (tl₀ := tl4) (fun c : List Value × Nat => [(fA, listOf c.1.toArray c.2)]) (fun _ => [(Str.ofString "found", .ref fA), (Str.ofString "key", .int key kt)])
      (fun j c _ => All2 (ExR P) c.1 (fw key (Nd.ex (nd.pre.take i) ++ (d.exprs.take j).flatMap Ex.pre))) (cs, cn) rfl hl' hla' (fun c p hp => one _ _ p hp rfl) (fun _ => rfl) (fun _ _ _ _ _ x => x) F8 N8 O8 ?_ (by simpa using hI) ?_ ?_
    · intro p hp; simp only [List.mem_cons, List.not_mem_nil, or_false] at hp; rcases hp with rfl | rfl <;> rfl
    · intro j y x92 u h3 tk3 tl5 hy F9 N9 O9 C9 TC9 hs9 hI
      (try dsimp only); (try k_fold)
      obtain ⟨cs, cn⟩ := x92
      dsimp only [pin, List.cons_append, List.nil_append] at F9 N9 O9 hI ⊢
      clear F8 N8
      obtain ⟨e, he, hyr⟩ := hU'.get hy
      have hem : e ∈ d.exprs := List.mem_of_getElem? he
      have hez := ok.es d hdm e hem
      k_steps
      unfold Stop
      rename Fr _ _ _ _ => F7
      rename News _ _ _ _ => N7
      intro r h6 tk6 hKr ⟨l6, us6, n6, e6, hf6, hl6, hU6⟩
      subst e6
      refine' after (S := []) (.miss (fun _ h => nomatch h) .nil) F7 N7 hKr (fun _ h => nomatch h) (fun _ h => nomatch h) (fun p hp => one _ _ p hp rfl) ?_
      intro tl6 Fa Na Oa Ca TCa hsa
      dsimp only [List.map] at Na Oa Ca hsa
      have hsub2 : ∀ p ∈ tl5, p ∈ tl6 := fun p hp => hsa p (by k_mem) (by simp) fun q => O9 p hp _ q rfl
      have hla6 : l6 ∉ [fA] := by (refine fresh_adr N7 hf6 ?_; k_extra "q_fr")
      clear F7 N7
      k_dflt refine for_list (vs := us6) (nn := n6) (adr := [fA]) (tl₀ := tl6) (fun c : List Value × Nat => [(fA, listOf c.1.toArray c.2)]) (fun _ => [(Str.ofString "found", .ref fA), (Str.ofString "key", .int key kt)])
        (fun q c _ => All2 (ExR P) c.1 (fw key (Nd.ex (nd.pre.take i) ++ (d.exprs.take j).flatMap Ex.pre ++ e.pre.take q))) (cs, cn) rfl hl6 hla6 (fun c p hp => one _ _ p hp rfl) (fun _ => rfl) (fun _ _ _ _ _ x => x) Fa Na Oa ?_ (by simpa using hI) ?_ ?_
      · intro p hp; simp only [List.mem_cons, List.not_mem_nil, or_false] at hp; rcases hp with rfl | rfl <;> rfl
      · intro q y x93 u h3 tk3 tl7 hy Fb Nb Ob Cb TCb hsb hI
        (try dsimp only); (try k_fold)
        obtain ⟨cs, cn⟩ := x93
        dsimp only [pin, List.cons_append, List.nil_append] at Fb Nb Ob hI ⊢
        clear Fa Na
        obtain ⟨x, hx, hyr⟩ := hU6.get hy
        have hxall : x ∈ Nd.ex nd.pre := List.mem_flatMap.mpr ⟨e, List.mem_flatMap.mpr ⟨d, hdm, hem⟩, List.mem_of_getElem? hx⟩
        have hxd := ok.dep x hxall
        have hnext : fw key (Nd.ex (nd.pre.take i) ++ (d.exprs.take j).flatMap Ex.pre ++ e.pre.take (q + 1)) = if isW key x then addNew (fw key (Nd.ex (nd.pre.take i) ++ (d.exprs.take j).flatMap Ex.pre ++ e.pre.take q)) x else fw key (Nd.ex (nd.pre.take i) ++ (d.exprs.take j).flatMap Ex.pre ++ e.pre.take q) := by
          rw [List.take_add_one, hx, ← List.append_assoc]; exact fw_snoc _ _ _
        have hPn : ∀ a vs, P a vs → TupAt h3 a vs := fun a vs z => Fb.keep _ _ (hPg _ _ z)
        have hA := hI.mono fun _ _ z => z.mono hPn
        have hX := hyr.mono hPn
        have hcl : cs.length ≤ 3000 := by
          rw [hI.length]
          refine Nat.le_trans (fw_len _ _) ?_
          have a1 := Nat.le_trans (flat_take Nd.exprs Ex.pre nd.pre i) ok.tot
          have a2 := flat_take1 Ex.pre d.exprs j
          have a3 := Nat.le_trans (flat_one (fun d : Nd => d.exprs.flatMap Ex.pre) hdm) (by rw [← rk_ex]; exact ok.tot)
          have a4 : (e.pre.take q).length ≤ e.pre.length := by rw [List.length_take]; exact Nat.min_le_right _ _
          simp only [List.length_append]

          unfold Nd.ex
          omega
        cases hyr with
        | word hT hi =>
          have hTg := hPg _ _ hT
          rename_i k0 _ i0
          k_steps
          · rename k0 = key => hk
            rename Ex.word k0 i0 ∈ _ => hm
            rename Fr _ _ _ _ => F7
            rename News _ _ _ _ => N7
            refine FEnd.nx (cs, cn) tl7 F7 N7 (fun _ h => h) ?_ ?_
            · intro p hp; simp only [List.mem_cons, List.not_mem_nil, or_false] at hp; rcases hp with rfl | rfl <;> rfl
            · have e9 : isW key (Ex.word k0 i0) = true := by rw [hk]; exact beq_self_eq_true _
              rw [hnext, if_pos e9, addNew, if_pos hm]; exact hI
          · rename k0 = key => hk
            rename ¬ Ex.word k0 i0 ∈ _ => hm
            rename Fr _ _ _ _ => F7
            rename News _ _ _ _ => N7
            refine FEnd.nx (cs ++ [_], cn + 1) tl7 F7 N7 (fun _ h => h) ?_ ?_
            · intro p hp; simp only [List.mem_cons, List.not_mem_nil, or_false] at hp; rcases hp with rfl | rfl <;> rfl
            · have e9 : isW key (Ex.word k0 i0) = true := by rw [hk]; exact beq_self_eq_true _
              rw [hnext, if_pos e9, addNew, if_neg hm]; exact hI.append (.one (.word hT hi))
          · rename k0 ≠ key => hk
            rename Fr _ _ _ _ => F7
            rename News _ _ _ _ => N7
            refine FEnd.nx (cs, cn) tl7 F7 N7 (fun _ h => h) ?_ ?_
            · intro p hp; simp only [List.mem_cons, List.not_mem_nil, or_false] at hp; rcases hp with rfl | rfl <;> rfl
            · have e9 : ¬ isW key (Ex.word k0 i0) = true := by intro q; exact hk (by simpa [isW] using q)
              rw [hnext, if_neg e9]; exact hI
        | _ =>
          rename P _ _ => hT
          have hTg := hPg _ _ hT
          k_steps
          rename Fr _ _ _ _ => F7
          rename News _ _ _ _ => N7
          refine FEnd.nx (cs, cn) tl7 F7 N7 (fun _ h => h) ?_ ?_
          · intro p hp; simp only [List.mem_cons, List.not_mem_nil, or_false] at hp; rcases hp with rfl | rfl <;> rfl
          · rw [hnext]; exact hI
      · intro x94 u h3 tk3 tl7 Fb Nb Ob Cb TCb hsb hI
        (try dsimp only); (try k_fold)
        obtain ⟨cs, cn⟩ := x94
        dsimp only [pin, List.cons_append, List.nil_append] at Fb Nb Ob hI ⊢
        clear Fa Na
        k_steps
        refine FEnd.nx (cs, cn) tl7 Fb Nb (fun p hp => hsb p (hsub2 p hp)) ?_ ?_
        · intro p hp; simp only [List.mem_cons, List.not_mem_nil, or_false] at hp; rcases hp with rfl | rfl <;> rfl
        · rw [hU6.length, List.take_length] at hI
          have e9 : (d.exprs.take (j + 1)).flatMap Ex.pre = (d.exprs.take j).flatMap Ex.pre ++ e.pre := by
            rw [List.take_add_one, he, List.flatMap_append]; simp
          rw [e9, ← List.append_assoc]; exact hI
    · intro x95 u h3 tk3 tl5 F9 N9 O9 C9 TC9 hs9 hI
      (try dsimp only); (try k_fold)
      obtain ⟨cs, cn⟩ := x95
      dsimp only [pin, List.cons_append, List.nil_append] at F9 N9 O9 hI ⊢
      clear F8 N8
      k_steps
      refine FEnd.nx (cs, cn) tl5 F9 N9 (fun p hp => hs9 p (hsub p hp)) ?_ ?_
      · intro p hp; simp only [List.mem_cons, List.not_mem_nil, or_false] at hp; rcases hp with rfl | rfl <;> rfl
      · rw [hU'.length, List.take_length] at hI
        have e9 : Nd.ex (nd.pre.take (i + 1)) = Nd.ex (nd.pre.take i) ++ d.exprs.flatMap Ex.pre := by
          rw [rk_ex, rk_ex, List.take_add_one, hd, List.flatMap_append]; simp
        rw [e9]; exact hI
  · intro x96 u h3 tk3 tl3 F5 N5 O5 C5 TC5 hs5 hI
    (try dsimp only); (try k_fold)
    obtain ⟨cs, cn⟩ := x96
    dsimp only [pin, List.cons_append, List.nil_append] at F5 N5 O5 hI ⊢
    clear F4 N4
    k_steps
    refine ⟨_, F5, fun k9 => hret _ _ _ k9 ⟨fA, cs, cn, rfl, fresh_of hk' N5 (.head _) (by simp), (N5 _ (.head _)).1, ?_⟩⟩
    rw [hU.length, List.take_length] at hI
    exact hI

end
section
theorem reg_K1_0 : True := by
  k_with_none
  k_with "q_enter" => (refine' enterQ (by k_asm) (by k_asm) (by k_asm) (by k_asm) (by k_asm) (by exact rfl) (by exact rfl) (by assumption) (by k_is) (by k_is) (by ktr_room) (by exact BindsTo.of_eq rfl) (by exact locs rfl) ?_ (by exact rfl) (by exact rfl) (by exact rfl) (by decide); k_whole)
  k_with "units_room" => (ktr_units)
  k_with "q_len" => (rw [PySem.sizeLine_eq]; (try simp only [List.length_append, List.length_cons, List.length_nil]); omega)
  k_with "call builtin:list.append" => (k_here; k_dflt (refine' append_L (by k_asm) (by k_asm) (by k_upd) (by k_extra "q_len") ?_; (intro h' F' N'; (try dsimp only [List.nil_append, List.cons_append] at N'))))
  k_with "call builtin:list.pop" => (k_here; k_dflt (refine' pop_L (by k_asm) (by k_asm) (by k_upd) (by k_extra "q_len") ?_; (intro h' F' N'; (try dsimp only [List.nil_append, List.cons_append] at N'))))
  k_with "truthy ref" => (k_here; k_dflt (refine' truthy_L (by k_asm) (by k_mem) (by k_extra "q_len") ?_))
  k_with "exec While" => ((have hSt := (by with_reducible assumption : StopWhile)); clear hSt; refine Stop.of ?_)
  k_with "pyIter ref" => ((have hSt := (by with_reducible assumption : StopFor)); clear hSt; refine Stop.of ?_)
  k_with "call type:reversed" => (k_here; k_dflt (refine' rvt_L (by k_asm) (by k_asm) (by exact isTup_now (News.get (by assumption) (by k_mem))) (by ((try simp only [List.length_cons, List.length_nil]); omega)) ?_; (intro I' h' tk' F' N' l1; (try k_lt l1))))
  k_with "call builtin:list.extend" => (k_here; k_dflt (refine' extend_L (by k_asm) (by k_asm) (by (intro o'; k_upd)) (by first | assumption | exact News.get (by assumption) (by k_mem)) (by k_extra "q_len") ?_; (intro h' n' F' N'; (try dsimp only [List.nil_append, List.cons_append] at N'))))
  k_with "call type:list" => (k_here; k_dflt (refine' listT_L (by k_asm) (by k_asm) (by first | exact isTup_P (by assumption) (by assumption) (by assumption) | exact isTup_base (by assumption) (by assumption)) (by k_extra "q_len") ?_; (intro D' c' h' F' N' l1; (try k_lt l1))))
  k_with "exec For" => ((have hSt := (by with_reducible assumption : StopFor)); clear hSt; k_here; (rename Fr _ _ _ _ => lF'); (with_unfolding_all refine' For_invVF lF' (by exact rfl) (by exact rfl) ?_; k_whole))
  k_with "CompSrcT" => (k_here; (have hSt := (by with_reducible assumption : StopComp)); clear hSt; k_dflt (refine LCt.CompSrcT.ledger (by rfl) (by k_asm) (by k_asm) (by k_mem) (by (try rw [List.size_toArray]); k_extra "q_len") ?_); refine Stop.of ?_)
  k_with "CompSrc" => (k_here; (have hSt := (by with_reducible assumption : StopComp)); clear hSt; k_dflt (refine LCg.CompSrc.ledger (by rfl) (by k_asm) (by k_asm) (by k_mem) (by (try rw [List.size_toArray]); k_extra "q_len") ?_); refine Stop.of ?_)
  k_with "CompEnd" => ((have hSt := (by with_reducible assumption : StopComp)); clear hSt; refine Stop.of ?_)
  k_with "q_clean" => ((repeat (with_reducible rename Fr _ _ _ _ => hz; clear hz)); (repeat (with_reducible rename News _ _ _ _ => hz; clear hz)); (repeat (with_reducible rename _ ∧ _ => hz; clear hz)); (repeat (with_reducible rename @LT.lt Nat _ _ _ => hz; clear hz)); (repeat (with_reducible rename OwnOff _ _ => hz; clear hz)); (repeat (with_reducible rename Cov _ _ _ _ _ => hz; clear hz)); (repeat (with_reducible rename TCov _ _ _ => hz; clear hz)); (repeat (with_reducible rename _ ∈ _ => hz; clear hz)); (repeat (with_reducible rename SigEs _ _ _ _ => hz; clear hz)); (repeat (with_reducible rename ∀ p ∈ _, p ∈ _ => hz; clear hz)); (repeat (with_reducible rename @Ne Nat _ _ => hz; clear hz)); (repeat (with_reducible rename getL _ _ = _ => hz; clear hz)); (repeat (with_reducible rename _ = Data.cell _ => hz; clear hz)); (repeat (with_reducible rename StopFor => hz; clear hz)); (repeat (with_reducible rename Kept _ _ _ => hz; clear hz)); (repeat (with_reducible rename Heap.get? _ _ = _ => hz; clear hz)); (repeat (with_reducible rename @LE.le Nat _ _ _ => hz; clear hz)); (repeat (with_reducible rename IsRange _ _ _ _ _ _ _ _ => hz; clear hz)); (repeat (with_reducible rename Obj.IsDictOf _ _ _ => hz; clear hz)); (repeat (with_reducible rename AllLt _ _ => hz; clear hz)); (repeat (with_reducible rename IntsAre _ _ => hz; clear hz)); (repeat (with_reducible rename PyProof.V.FlatPairs _ _ _ => hz; clear hz)); (repeat (with_reducible rename Heap.IsList _ _ _ => hz; clear hz)); (repeat (with_reducible rename ReadsAll _ _ _ _ => hz; clear hz)); (repeat (with_reducible rename @LT.lt Int _ _ _ => hz; clear hz)); (repeat (with_reducible rename @LE.le Int _ _ _ => hz; clear hz)); (repeat (with_reducible rename _ ∨ _ => hz; clear hz)))
  k_with "q_no" => (exact notin2' (by k_ne) (by k_ne))
  k_with "q_fr" => (first | exact List.forall_mem_nil _ | (refine List.forall_mem_cons.mpr ⟨⟨_, by k_mem⟩, ?_⟩; k_extra "q_fr"))
  k_with "k_ne" => (refine neN ?_; (try dsimp only); k_extra "ne")
  k_with "ne" => (first | with_reducible assumption | exact Nat.ne_of_lt (AllLt.get (by with_reducible assumption) (by k_mem)) | exact Nat.ne_of_gt (AllLt.get (by with_reducible assumption) (by k_mem)) | exact Ne.symm (by with_reducible assumption) | exact Nat.ne_of_gt (AllLt.get2 (by with_reducible assumption) (by with_reducible assumption) (by k_mem)) | exact Nat.ne_of_lt (AllLt.get2 (by with_reducible assumption) (by with_reducible assumption) (by k_mem)) | exact Nat.ne_of_lt (by with_reducible assumption) | exact Nat.ne_of_gt (by with_reducible assumption) | omega)
  k_with "subscriptTail" => (k_here; k_dflt (refine' item_tupleT (by first | exact isTup_P (by assumption) (by assumption) (by assumption) | exact isTup_base (by assumption) (by assumption) | exact isTup_now (by assumption)) (by decide) (by decide) (by rfl) (by rfl) ?_; k_whole))
  k_with "spliced" => (k_here; (with_reducible show wpAny _ _ (spliced (backTo _ (starEach (_ :: _) _))) _ _ _); k_dflt (refine' svs_r (by k_asm) (by exact rfl) ?_ (by rfl); k_whole))
  k_with "execs cons" => (k_here; (with_reducible show wpAny _ _ (execs (Stmt.If _ _ [] _ :: _) _) _ _ _); k_dflt (refine' if_n (by k_asm) (by exact rfl) ?_ (by rfl); k_whole))
  k_with "exec If" => (k_here; k_dflt (first | (refine' if_f (by k_asm) (by exact rfl) ?_ (by rfl); k_whole) | (refine' if_t (by k_asm) (by exact rfl) ?_ (by rfl); k_whole)))
  k_with "eval Call" => (k_here; (with_reducible show wpAny _ _ (eval (Expr.Call (Expr.Name _ _) (_ :: _) [] _) _) _ _ _); k_dflt (refine' call_sv (by k_asm) (by k_asm) (by k_asm) (by k_is) (by k_is) (by exact rfl) ?_ (by rfl) (by rfl) (by decide) (by rfl) (by rfl); k_whole))
  k_with "eval Subscript" => (k_here; k_dflt (refine' sub_sv (by k_asm) (by exact rfl) (by exact rfl) (by first | exact isTup_P (by assumption) (by assumption) (by assumption) | exact isTup_base (by assumption) (by assumption) | exact isTup_now (by assumption)) (by decide) (by decide) (by rfl) (by rfl) ?_ (by with_unfolding_all rfl) (by rfl); k_whole))
  k_with "k_steps" => ((try k_fold); repeat' (first | (k_unfold; (try dsimp only)) | (k_end; wrow_close) | walk1 | (dsimp only; walk1) | (leave1; walk_say "STEP leave1"; try dsimp only) | fail "no step"))
  k_with "k_memR" => (first | with_reducible exact List.mem_cons_self .. | with_reducible assumption | (with_reducible refine List.mem_cons_of_mem _ ?_; k_extra "k_memR"))
  k_with "k_memD" => (first | exact List.mem_cons_self .. | with_reducible assumption | (refine List.mem_cons_of_mem _ ?_; k_extra "k_memD"))
  k_with "k_mem" => (first | k_extra "k_memR" | k_extra "k_memD")
  k_with "k_all" => (first | exact List.forall_mem_nil _ | ((with_reducible refine' List.forall_mem_cons.mpr (And.intro ?_ ?_)); k_ne; k_all) | with_reducible assumption | exact OwnOff.ne (by with_reducible assumption) (by k_extra "k_memR") | exact allLt_ne (by with_reducible assumption) | exact allLt_nes (by with_reducible assumption) (by intro p9 hp9; k_extra "k_memR") | exact OwnOff.ne (by assumption) (by k_mem) | ((refine' List.forall_mem_cons.mpr (And.intro ?_ ?_)); k_ne; k_all) | exact allLt_nes (by with_reducible assumption) (by intro p9 hp9; k_mem))
  trivial
theorem pull_call {w : World} {mean : ExcName → Option Value} {mg mb : Str → Option Value} {aR : Addr} {vs : List Value} {n : Nat} {ns : List Int} {most : Int} {t : Tok}
    {dp un : Nat} {gd : Option (List Code)} {cn : Str} {cs : Scope} {a : Addr} {ccd : Value} {cl : List (Str × Addr)} {outer : List Env} {A₀ : Around} {base h₀ : Heap} {L : Addr} {m : Str → Option Value} {s : Shared} {Q E : Value → Shared → Prop}
    {news : List (Addr × Obj)} {g : Obj → List (Addr × Obj)}
    (B : Below A₀ base outer h₀) (F : Fr h₀ L s.heap m) (X : (hd.heap_1 w.params).In h₀) (T : Top hd.view_1 (looseW hd.view_1 []) mean mg mb h₀) (N : News h₀ L s.heap news) (U : UpdF aR (listOf vs.toArray n) news g)
    (hi : IntsAre vs ns) (hl : ns.length ≤ 70) (hm : 0 < most) (hm2 : most ≤ 100)
    (hk : cs.kind = .function) (hd : dp + 4 < recursionLimit) (hu : un + 100 < cLine)
    (k : ∀ k u vs' n' ns' h' tk', 0 ≤ k → k < most → IntsAre vs' ns' → ns'.length ≤ 70 → Fr h₀ L h' m → News h₀ L h' (g (listOf vs'.toArray n')) → Q (.int k u) { s with heap := h', toks := tk' }) :
    wpAny (model PySem.Challenge.rw_on0116_01.row.prog w) (ktrTop dp un gd cn cs L a ccd cl outer) (call (.ref 248) [.ref aR, .int most t]) Q E s := by
  obtain ⟨pre, post, e1, e2, x1, x2⟩ := U.split
  rw [e1] at N
  have hm' : (aR, listOf vs.toArray n) ∈ pre ++ (aR, listOf vs.toArray n) :: post := List.mem_append.mpr (.inr (.head _))
  have nS : ∀ b ∈ [aR], h₀.get? b = none ∧ b ≠ L := fun b hb => by rw [List.mem_singleton.mp hb]; exact ⟨(N _ hm').2.2, (N _ hm').2.1⟩
  refine Does.use (pull_does (N _ hm').1 hi hl hm hm2) B F X T hk nS hd hu fun r h' tk' hK hP => ?_
  obtain ⟨k', u, vs', n', ns', rfl, h0, h1, hg, hi', hl'⟩ := hP
  refine k k' u vs' n' ns' h' tk' h0 h1 hi' hl' (hK.fr F nS) ?_
  rw [e2]
  intro p hp
  rcases List.mem_append.mp hp with q | q
  · have := N p (List.mem_append.mpr (.inl q))
    exact ⟨hK _ _ (fun z => x1 p q (List.mem_singleton.mp z)) this.1, this.2⟩
  · rcases List.mem_cons.mp q with rfl | q
    · exact ⟨hg, (N _ hm').2⟩
    · have := N p (List.mem_append.mpr (.inr (.tail _ q)))
      exact ⟨hK _ _ (fun z => x2 p q (List.mem_singleton.mp z)) this.1, this.2⟩

end
section
theorem reg_S0_0 : True := by
  k_with_none
  k_with "q_enter" => (refine' enterQ (by k_asm) (by k_asm) (by k_asm) (by k_asm) (by k_asm) (by exact rfl) (by exact rfl) (by assumption) (by k_is) (by k_is) (by ktr_room) (by exact BindsTo.of_eq rfl) (by exact locs rfl) ?_ (by exact rfl) (by exact rfl) (by exact rfl) (by decide); k_whole)
  k_with "units_room" => (ktr_units)
  k_with "q_len" => (rw [PySem.sizeLine_eq]; (try simp only [List.length_append, List.length_cons, List.length_nil]); omega)
  k_with "call builtin:list.append" => (k_here; k_dflt (refine' append_L (by k_asm) (by k_asm) (by k_upd) (by k_extra "q_len") ?_; (intro h' F' N'; (try dsimp only [List.nil_append, List.cons_append] at N'))))
  k_with "call builtin:list.pop" => (k_here; k_dflt (refine' pop_L (by k_asm) (by k_asm) (by k_upd) (by k_extra "q_len") ?_; (intro h' F' N'; (try dsimp only [List.nil_append, List.cons_append] at N'))))
  k_with "truthy ref" => (k_here; k_dflt (refine' truthy_L (by k_asm) (by k_mem) (by k_extra "q_len") ?_))
  k_with "exec While" => ((have hSt := (by with_reducible assumption : StopWhile)); clear hSt; refine Stop.of ?_)
  k_with "pyIter ref" => ((have hSt := (by with_reducible assumption : StopFor)); clear hSt; refine Stop.of ?_)
  k_with "call type:reversed" => (k_here; k_dflt (refine' rvt_L (by k_asm) (by k_asm) (by exact isTup_now (News.get (by assumption) (by k_mem))) (by ((try simp only [List.length_cons, List.length_nil]); omega)) ?_; (intro I' h' tk' F' N' l1; (try k_lt l1))))
  k_with "call builtin:list.extend" => (k_here; k_dflt (refine' extend_L (by k_asm) (by k_asm) (by (intro o'; k_upd)) (by first | assumption | exact News.get (by assumption) (by k_mem)) (by k_extra "q_len") ?_; (intro h' n' F' N'; (try dsimp only [List.nil_append, List.cons_append] at N'))))
  k_with "call type:list" => (k_here; k_dflt (refine' listT_L (by k_asm) (by k_asm) (by first | exact isTup_P (by assumption) (by assumption) (by assumption) | exact isTup_base (by assumption) (by assumption)) (by k_extra "q_len") ?_; (intro D' c' h' F' N' l1; (try k_lt l1))))
  k_with "exec For" => ((have hSt := (by with_reducible assumption : StopFor)); clear hSt; k_here; (rename Fr _ _ _ _ => lF'); (with_unfolding_all refine' For_invVF lF' (by exact rfl) (by exact rfl) ?_; k_whole))
  k_with "CompSrcT" => (k_here; (have hSt := (by with_reducible assumption : StopComp)); clear hSt; k_dflt (refine LCt.CompSrcT.ledger (by rfl) (by k_asm) (by k_asm) (by k_mem) (by (try rw [List.size_toArray]); k_extra "q_len") ?_); refine Stop.of ?_)
  k_with "CompSrc" => (k_here; (have hSt := (by with_reducible assumption : StopComp)); clear hSt; k_dflt (refine LCg.CompSrc.ledger (by rfl) (by k_asm) (by k_asm) (by k_mem) (by (try rw [List.size_toArray]); k_extra "q_len") ?_); refine Stop.of ?_)
  k_with "CompEnd" => ((have hSt := (by with_reducible assumption : StopComp)); clear hSt; refine Stop.of ?_)
  k_with "q_clean" => ((repeat (with_reducible rename Fr _ _ _ _ => hz; clear hz)); (repeat (with_reducible rename News _ _ _ _ => hz; clear hz)); (repeat (with_reducible rename _ ∧ _ => hz; clear hz)); (repeat (with_reducible rename @LT.lt Nat _ _ _ => hz; clear hz)); (repeat (with_reducible rename OwnOff _ _ => hz; clear hz)); (repeat (with_reducible rename Cov _ _ _ _ _ => hz; clear hz)); (repeat (with_reducible rename TCov _ _ _ => hz; clear hz)); (repeat (with_reducible rename _ ∈ _ => hz; clear hz)); (repeat (with_reducible rename SigEs _ _ _ _ => hz; clear hz)); (repeat (with_reducible rename ∀ p ∈ _, p ∈ _ => hz; clear hz)); (repeat (with_reducible rename @Ne Nat _ _ => hz; clear hz)); (repeat (with_reducible rename getL _ _ = _ => hz; clear hz)); (repeat (with_reducible rename _ = Data.cell _ => hz; clear hz)); (repeat (with_reducible rename StopFor => hz; clear hz)); (repeat (with_reducible rename Kept _ _ _ => hz; clear hz)); (repeat (with_reducible rename Heap.get? _ _ = _ => hz; clear hz)); (repeat (with_reducible rename @LE.le Nat _ _ _ => hz; clear hz)); (repeat (with_reducible rename IsRange _ _ _ _ _ _ _ _ => hz; clear hz)); (repeat (with_reducible rename Obj.IsDictOf _ _ _ => hz; clear hz)); (repeat (with_reducible rename AllLt _ _ => hz; clear hz)); (repeat (with_reducible rename IntsAre _ _ => hz; clear hz)); (repeat (with_reducible rename PyProof.V.FlatPairs _ _ _ => hz; clear hz)); (repeat (with_reducible rename Heap.IsList _ _ _ => hz; clear hz)); (repeat (with_reducible rename ReadsAll _ _ _ _ => hz; clear hz)); (repeat (with_reducible rename @LT.lt Int _ _ _ => hz; clear hz)); (repeat (with_reducible rename @LE.le Int _ _ _ => hz; clear hz)); (repeat (with_reducible rename _ ∨ _ => hz; clear hz)))
  k_with "q_no" => (exact notin2' (by k_ne) (by k_ne))
  k_with "q_fr" => (first | exact List.forall_mem_nil _ | (refine List.forall_mem_cons.mpr ⟨⟨_, by k_mem⟩, ?_⟩; k_extra "q_fr"))
  k_with "k_ne" => (refine neN ?_; (try dsimp only); k_extra "ne")
  k_with "ne" => (first | with_reducible assumption | exact Nat.ne_of_lt (AllLt.get (by with_reducible assumption) (by k_mem)) | exact Nat.ne_of_gt (AllLt.get (by with_reducible assumption) (by k_mem)) | exact Ne.symm (by with_reducible assumption) | exact Nat.ne_of_gt (AllLt.get2 (by with_reducible assumption) (by with_reducible assumption) (by k_mem)) | exact Nat.ne_of_lt (AllLt.get2 (by with_reducible assumption) (by with_reducible assumption) (by k_mem)) | exact Nat.ne_of_lt (by with_reducible assumption) | exact Nat.ne_of_gt (by with_reducible assumption) | omega)
  k_with "subscriptTail" => (k_here; k_dflt (refine' item_tupleT (by first | exact isTup_P (by assumption) (by assumption) (by assumption) | exact isTup_base (by assumption) (by assumption) | exact isTup_now (by assumption)) (by decide) (by decide) (by rfl) (by rfl) ?_; k_whole))
  k_with "k_steps" => ((try k_fold); repeat' (first | (k_unfold; (try dsimp only)) | (k_end; wrow_close) | walk1 | (dsimp only; walk1) | (leave1; walk_say "STEP leave1"; try dsimp only) | fail "no step"))
  k_with "k_memR" => (first | with_reducible exact List.mem_cons_self .. | with_reducible assumption | (with_reducible refine List.mem_cons_of_mem _ ?_; k_extra "k_memR"))
  k_with "k_memD" => (first | exact List.mem_cons_self .. | with_reducible assumption | (refine List.mem_cons_of_mem _ ?_; k_extra "k_memD"))
  k_with "k_mem" => (first | k_extra "k_memR" | k_extra "k_memD")
  k_with "k_all" => (first | exact List.forall_mem_nil _ | ((with_reducible refine' List.forall_mem_cons.mpr (And.intro ?_ ?_)); k_ne; k_all) | with_reducible assumption | exact OwnOff.ne (by with_reducible assumption) (by k_extra "k_memR") | exact allLt_ne (by with_reducible assumption) | exact allLt_nes (by with_reducible assumption) (by intro p9 hp9; k_extra "k_memR") | exact OwnOff.ne (by assumption) (by k_mem) | ((refine' List.forall_mem_cons.mpr (And.intro ?_ ?_)); k_ne; k_all) | exact allLt_nes (by with_reducible assumption) (by intro p9 hp9; k_mem))
  trivial
theorem reg_S0_1 : True := by
  k_with "call ref" => (k_here; (with_reducible show wpAny _ _ (call (Value.ref 248) _) _ _ _); k_dflt (refine' pull_call (by k_asm) (by k_asm) (by k_asm) (by k_asm) (by k_asm) (by k_updF) (by assumption) (by first | assumption | omega) (by decide) (by decide) (by first | exact rfl | assumption) (by ktr_room) (by ktr_units) ?_); (intro k' u' vs' n' ns' h' tk' hlo' hhi' hi' hl' F' N'))
  k_with "subscriptTail Name UnaryOp ref int" => (k_here; k_dflt (refine' last_L (by k_asm) (by k_mem) (by exact rfl) ?_ (by with_unfolding_all rfl)))
  k_with "subscriptTail Name Name ref int" => (k_here; k_dflt (refine' mid_get (by k_asm) (by k_mem) (by first | assumption | simp | omega) (by omega) ?_ (by with_unfolding_all rfl)))
  k_with "setItem ref int" => (k_here; k_dflt (refine' mid_set (by k_asm) (by k_asm) (by k_upd) (by first | assumption | simp | omega) (by omega) ?_); intro h' F' N')
  trivial
noncomputable def Ex.isSW : Ex → Bool
  | .sig _ => true
  | .word _ _ => true
  | _ => false
noncomputable def seen (e : Ex) : List Ex := e.pre.filter Ex.isSW
noncomputable def Ex.Good : Ex → Prop
  | .const _ => True
  | .sig k => 0 ≤ k ∧ k < 3
  | .word k i => (3 ≤ k ∧ k < 5) ∧ i.Good
  | .bin l r => l.Good ∧ r.Good
theorem dep_pre (e : Ex) (n : Nat) (h : e.dep ≤ n) : e.pre.length + 1 ≤ 2 ^ n := by
  induction e generalizing n with
  | const c =>
    cases n with
    | zero => simp [Ex.dep] at h
    | succ n => simp only [Ex.pre, List.length_cons, List.length_nil]; have := Nat.one_le_two_pow (n := n); rw [Nat.pow_succ]; omega
  | sig c =>
    cases n with
    | zero => simp [Ex.dep] at h
    | succ n => simp only [Ex.pre, List.length_cons, List.length_nil]; have := Nat.one_le_two_pow (n := n); rw [Nat.pow_succ]; omega
  | word k i ih =>
    cases n with
    | zero => simp [Ex.dep] at h
    | succ n =>
      have := ih n (by simp only [Ex.dep] at h; omega)
      have h1 : 0 < i.pre.length := i.pre_pos
      simp only [Ex.pre, List.length_cons]; rw [Nat.pow_succ]; omega
  | bin l r i1 i2 =>
    cases n with
    | zero => simp [Ex.dep] at h
    | succ n =>
      have a := i1 n (by simp only [Ex.dep] at h; omega)
      have b := i2 n (by simp only [Ex.dep] at h; omega)
      simp only [Ex.pre, List.length_cons, List.length_append]; rw [Nat.pow_succ]; omega
theorem seen_len (e : Ex) (h : e.dep ≤ 3) : (seen e).length ≤ 7 := by
  have a := dep_pre e 3 h
  have b := List.length_filter_le Ex.isSW e.pre
  unfold seen
  omega
inductive SeenPost (h : Heap) (aR aM : Addr) (ms : List Value) (n : Nat) (r : Value) (h' : Heap) : Prop
  | mk (e : Ex) (vs' : List Value) (nR' : Nat) (ns' : List Int) (ms' : List Value) (nM' : Nat)
    (_ : ExR (FT h h') r e)
    (_ : h'.get? aR = some (listOf vs'.toArray nR'))
    (_ : IntsAre vs' ns')
    (_ : ns'.length ≤ 70)
    (_ : h'.get? aM = some (listOf (ms ++ ms').toArray nM'))
    (_ : All2 (ExR (FT h h')) ms' (seen e))
    (_ : e.Good)
    (_ : e.dep ≤ n + 1) : SeenPost h aR aM ms n r h'
noncomputable def SeenD (w : World) (mean : ExcName → Option Value) (mg mb : Str → Option Value) (n : Nat) : Prop :=
  ∀ (aR aM : Addr) (d : Int) (t : Tok) (vs : List Value) (nR : Nat) (ns : List Int) (ms : List Value) (nM : Nat) (h : Heap), d = (n : Int) → @Ne Nat aR aM → h.get? aR = some (listOf vs.toArray nR) → IntsAre vs ns → ns.length ≤ 70 →
    h.get? aM = some (listOf ms.toArray nM) → ms.length ≤ 900 - 20 * n → Does w mean mg mb 255 [.ref aR, .int d t, .ref aM] (6 + 2 * n) (200 + 100 * n) h [aR, aM] (SeenPost h aR aM ms n)
set_option maxHeartbeats 4000000 in
theorem seen_zero {w : World} {mean : ExcName → Option Value} {mg mb : Str → Option Value} : SeenD w mean mg mb 0 := by
  intro aR aM d t vs nR ns ms nM h hdd hne hR hi hl hM hml
  have hd0 : d = 0 := hdd
  clear hdd
  subst hd0
  have hl3 : ms.length ≤ 900 := hml
  clear hml
  unfold Does
  w_on
  k_fill
  intro dp un gd cn cs a ccd cl outer A₀ base h₀ L m s Q E ee B F X T hk hS hd hu hret
  subst ee
  have N : News h₀ L s.heap [(aR, listOf vs.toArray nR), (aM, listOf ms.toArray nM)] := news_of (by simpa using hS) (by simpa using ⟨hR, hM⟩)
  clear hS
  refine wpAny_call ?_
  k_dflt k_extra "q_enter"
  intro g' L' h' hk' hne' F' N' B' X' T'; (try dsimp only); (try k_fold)
  k_steps
  · rename Fr _ _ _ _ => F9
    rename News _ _ _ _ => N9
    rename IntsAre _ _ => hi9
    rename List.length _ ≤ 70 => hl9
    refine ⟨_, F9, fun k9 => hret _ _ _ k9 ⟨.const _, _, _, _, [], nM, .const (ft_of hk' N9 (by k_mem) (by k_extra "q_no")), N9.get (by k_mem), hi9, hl9, ?_, .nil, trivial, Nat.le_refl _⟩⟩
    rw [List.append_nil]; exact N9.get (by k_mem)
  · rename Fr _ _ _ _ => F9
    rename News _ _ _ _ => N9
    rename IntsAre _ _ => hi9
    rename List.length _ ≤ 70 => hl9
    rename _ < 3 => hhi9
    rename 0 ≤ _ => hlo9
    refine ⟨_, F9, fun k9 => hret _ _ _ k9 ⟨.sig _, _, _, _, [_], _, .sig (ft_of hk' N9 (by k_mem) (by k_extra "q_no")), N9.get (by k_mem), hi9, hl9, N9.get (by k_mem), .one (.sig (ft_of hk' N9 (by k_mem) (by k_extra "q_no"))), ⟨hlo9, hhi9⟩, Nat.le_refl _⟩⟩
  · rename _ < 2 => hhi9
    rename _ ≠ 0 => h1
    rename _ ≠ 1 => h2
    omega

end
section
theorem reg_S1_0 : True := by
  k_with_none
  k_with "q_enter" => (refine' enterQ (by k_asm) (by k_asm) (by k_asm) (by k_asm) (by k_asm) (by exact rfl) (by exact rfl) (by assumption) (by k_is) (by k_is) (by ktr_room) (by exact BindsTo.of_eq rfl) (by exact locs rfl) ?_ (by exact rfl) (by exact rfl) (by exact rfl) (by decide); k_whole)
  k_with "units_room" => (ktr_units)
  k_with "q_len" => (rw [PySem.sizeLine_eq]; (try simp only [List.length_append, List.length_cons, List.length_nil]); omega)
  k_with "call builtin:list.append" => (k_here; k_dflt (refine' append_L (by k_asm) (by k_asm) (by k_upd) (by k_extra "q_len") ?_; (intro h' F' N'; (try dsimp only [List.nil_append, List.cons_append] at N'))))
  k_with "call builtin:list.pop" => (k_here; k_dflt (refine' pop_L (by k_asm) (by k_asm) (by k_upd) (by k_extra "q_len") ?_; (intro h' F' N'; (try dsimp only [List.nil_append, List.cons_append] at N'))))
  k_with "truthy ref" => (k_here; k_dflt (refine' truthy_L (by k_asm) (by k_mem) (by k_extra "q_len") ?_))
  k_with "exec While" => ((have hSt := (by with_reducible assumption : StopWhile)); clear hSt; refine Stop.of ?_)
  k_with "pyIter ref" => ((have hSt := (by with_reducible assumption : StopFor)); clear hSt; refine Stop.of ?_)
  k_with "call type:reversed" => (k_here; k_dflt (refine' rvt_L (by k_asm) (by k_asm) (by exact isTup_now (News.get (by assumption) (by k_mem))) (by ((try simp only [List.length_cons, List.length_nil]); omega)) ?_; (intro I' h' tk' F' N' l1; (try k_lt l1))))
  k_with "call builtin:list.extend" => (k_here; k_dflt (refine' extend_L (by k_asm) (by k_asm) (by (intro o'; k_upd)) (by first | assumption | exact News.get (by assumption) (by k_mem)) (by k_extra "q_len") ?_; (intro h' n' F' N'; (try dsimp only [List.nil_append, List.cons_append] at N'))))
  k_with "call type:list" => (k_here; k_dflt (refine' listT_L (by k_asm) (by k_asm) (by first | exact isTup_P (by assumption) (by assumption) (by assumption) | exact isTup_base (by assumption) (by assumption)) (by k_extra "q_len") ?_; (intro D' c' h' F' N' l1; (try k_lt l1))))
  k_with "exec For" => ((have hSt := (by with_reducible assumption : StopFor)); clear hSt; k_here; (rename Fr _ _ _ _ => lF'); (with_unfolding_all refine' For_invVF lF' (by exact rfl) (by exact rfl) ?_; k_whole))
  k_with "CompSrcT" => (k_here; (have hSt := (by with_reducible assumption : StopComp)); clear hSt; k_dflt (refine LCt.CompSrcT.ledger (by rfl) (by k_asm) (by k_asm) (by k_mem) (by (try rw [List.size_toArray]); k_extra "q_len") ?_); refine Stop.of ?_)
  k_with "CompSrc" => (k_here; (have hSt := (by with_reducible assumption : StopComp)); clear hSt; k_dflt (refine LCg.CompSrc.ledger (by rfl) (by k_asm) (by k_asm) (by k_mem) (by (try rw [List.size_toArray]); k_extra "q_len") ?_); refine Stop.of ?_)
  k_with "CompEnd" => ((have hSt := (by with_reducible assumption : StopComp)); clear hSt; refine Stop.of ?_)
  k_with "q_clean" => ((repeat (with_reducible rename Fr _ _ _ _ => hz; clear hz)); (repeat (with_reducible rename News _ _ _ _ => hz; clear hz)); (repeat (with_reducible rename _ ∧ _ => hz; clear hz)); (repeat (with_reducible rename @LT.lt Nat _ _ _ => hz; clear hz)); (repeat (with_reducible rename OwnOff _ _ => hz; clear hz)); (repeat (with_reducible rename Cov _ _ _ _ _ => hz; clear hz)); (repeat (with_reducible rename TCov _ _ _ => hz; clear hz)); (repeat (with_reducible rename _ ∈ _ => hz; clear hz)); (repeat (with_reducible rename SigEs _ _ _ _ => hz; clear hz)); (repeat (with_reducible rename ∀ p ∈ _, p ∈ _ => hz; clear hz)); (repeat (with_reducible rename @Ne Nat _ _ => hz; clear hz)); (repeat (with_reducible rename getL _ _ = _ => hz; clear hz)); (repeat (with_reducible rename _ = Data.cell _ => hz; clear hz)); (repeat (with_reducible rename StopFor => hz; clear hz)); (repeat (with_reducible rename Kept _ _ _ => hz; clear hz)); (repeat (with_reducible rename Heap.get? _ _ = _ => hz; clear hz)); (repeat (with_reducible rename @LE.le Nat _ _ _ => hz; clear hz)); (repeat (with_reducible rename IsRange _ _ _ _ _ _ _ _ => hz; clear hz)); (repeat (with_reducible rename Obj.IsDictOf _ _ _ => hz; clear hz)); (repeat (with_reducible rename AllLt _ _ => hz; clear hz)); (repeat (with_reducible rename IntsAre _ _ => hz; clear hz)); (repeat (with_reducible rename PyProof.V.FlatPairs _ _ _ => hz; clear hz)); (repeat (with_reducible rename Heap.IsList _ _ _ => hz; clear hz)); (repeat (with_reducible rename ReadsAll _ _ _ _ => hz; clear hz)); (repeat (with_reducible rename @LT.lt Int _ _ _ => hz; clear hz)); (repeat (with_reducible rename @LE.le Int _ _ _ => hz; clear hz)); (repeat (with_reducible rename _ ∨ _ => hz; clear hz)))
  k_with "q_no" => (exact notin2' (by k_ne) (by k_ne))
  k_with "q_fr" => (first | exact List.forall_mem_nil _ | (refine List.forall_mem_cons.mpr ⟨⟨_, by k_mem⟩, ?_⟩; k_extra "q_fr"))
  k_with "k_ne" => (refine neN ?_; (try dsimp only); k_extra "ne")
  k_with "ne" => (first | with_reducible assumption | exact Nat.ne_of_lt (AllLt.get (by with_reducible assumption) (by k_mem)) | exact Nat.ne_of_gt (AllLt.get (by with_reducible assumption) (by k_mem)) | exact Ne.symm (by with_reducible assumption) | exact Nat.ne_of_gt (AllLt.get2 (by with_reducible assumption) (by with_reducible assumption) (by k_mem)) | exact Nat.ne_of_lt (AllLt.get2 (by with_reducible assumption) (by with_reducible assumption) (by k_mem)) | exact Nat.ne_of_lt (by with_reducible assumption) | exact Nat.ne_of_gt (by with_reducible assumption) | omega)
  k_with "subscriptTail" => (k_here; k_dflt (refine' item_tupleT (by first | exact isTup_P (by assumption) (by assumption) (by assumption) | exact isTup_base (by assumption) (by assumption) | exact isTup_now (by assumption)) (by decide) (by decide) (by rfl) (by rfl) ?_; k_whole))
  k_with "k_steps" => ((try k_fold); repeat' (first | (k_unfold; (try dsimp only)) | (k_end; wrow_close) | walk1 | (dsimp only; walk1) | (leave1; walk_say "STEP leave1"; try dsimp only) | fail "no step"))
  k_with "k_memR" => (first | with_reducible exact List.mem_cons_self .. | with_reducible assumption | (with_reducible refine List.mem_cons_of_mem _ ?_; k_extra "k_memR"))
  k_with "k_memD" => (first | exact List.mem_cons_self .. | with_reducible assumption | (refine List.mem_cons_of_mem _ ?_; k_extra "k_memD"))
  k_with "k_mem" => (first | k_extra "k_memR" | k_extra "k_memD")
  k_with "k_all" => (first | exact List.forall_mem_nil _ | ((with_reducible refine' List.forall_mem_cons.mpr (And.intro ?_ ?_)); k_ne; k_all) | with_reducible assumption | exact OwnOff.ne (by with_reducible assumption) (by k_extra "k_memR") | exact allLt_ne (by with_reducible assumption) | exact allLt_nes (by with_reducible assumption) (by intro p9 hp9; k_extra "k_memR") | exact OwnOff.ne (by assumption) (by k_mem) | ((refine' List.forall_mem_cons.mpr (And.intro ?_ ?_)); k_ne; k_all) | exact allLt_nes (by with_reducible assumption) (by intro p9 hp9; k_mem))
  trivial
theorem reg_S1_1 : True := by
  k_with "call ref" => (k_here; (with_reducible show wpAny _ _ (call (Value.ref 248) _) _ _ _); k_dflt (refine' pull_call (by k_asm) (by k_asm) (by k_asm) (by k_asm) (by k_asm) (by k_updF) (by assumption) (by first | assumption | omega) (by decide) (by decide) (by first | exact rfl | assumption) (by ktr_room) (by ktr_units) ?_); (intro k' u' vs' n' ns' h' tk' hlo' hhi' hi' hl' F' N'))
  k_with "subscriptTail Name UnaryOp ref int" => (k_here; k_dflt (refine' last_L (by k_asm) (by k_mem) (by exact rfl) ?_ (by with_unfolding_all rfl)))
  k_with "subscriptTail Name Name ref int" => (k_here; k_dflt (refine' mid_get (by k_asm) (by k_mem) (by first | assumption | simp | omega) (by omega) ?_ (by with_unfolding_all rfl)))
  k_with "setItem ref int" => (k_here; k_dflt (refine' mid_set (by k_asm) (by k_asm) (by k_upd) (by first | assumption | simp | omega) (by omega) ?_); intro h' F' N')
  k_with "call builtin:len" => (k_here; k_dflt (refine' len_L (by k_asm) (by k_mem) (by omega) ?_))
  trivial
theorem seen_bin (l r : Ex) : seen (.bin l r) = seen l ++ seen r := by
  unfold seen
  rw [Ex.pre, List.filter_cons, List.filter_append]; rfl
theorem seen_word (k : Int) (i : Ex) : seen (.word k i) = .word k i :: seen i := by
  unfold seen
  rw [Ex.pre, List.filter_cons]; rfl
theorem seen_stop {w : World} {mean : ExcName → Option Value} {mg mb : Str → Option Value} {n : Nat} (IH : SeenD w mean mg mb n) {aR aM : Addr} {d : Int} {t : Tok} {vs : List Value} {nR : Nat} {ns : List Int} {ms : List Value} {nM : Nat}
    {dp un : Nat} {gd : Option (List Code)} {cn : Str} {cs : Scope} {a : Addr} {ccd : Value} {cl : List (Str × Addr)} {outer : List Env} {A₀ : Around} {base h₀ : Heap} {L : Addr} {m : Str → Option Value} {s : Shared} {Q E : Value → Shared → Prop} {news : List (Addr × Obj)}
    (B : Below A₀ base outer h₀) (F : Fr h₀ L s.heap m) (X : (hd.heap_1 w.params).In h₀) (T : Top hd.view_1 (looseW hd.view_1 []) mean mg mb h₀) (N : News h₀ L s.heap news)
    (mR : (aR, listOf vs.toArray nR) ∈ news) (mM : (aM, listOf ms.toArray nM) ∈ news) (hd : d = (n : Int)) (hne : @Ne Nat aR aM) (hi : IntsAre vs ns) (hl : ns.length ≤ 70) (hml : ms.length ≤ 900 - 20 * n)
    (hk : cs.kind = .function) (hdp : dp + (6 + 2 * n) < recursionLimit) (hu : un + (200 + 100 * n) < cLine)
    (k : Stop (∀ r h' tk', Kept [aR, aM] s.heap h' → SeenPost s.heap aR aM ms n r h' → Q r { s with heap := h', toks := tk' })) :
    wpAny (model PySem.Challenge.rw_on0116_01.row.prog w) (ktrTop dp un gd cn cs L a ccd cl outer) (call (.ref 255) [.ref aR, .int d t, .ref aM]) Q E s := by
  refine Does.stop (IH aR aM d t vs nR ns ms nM s.heap hd hne (N _ mR).1 hi hl (N _ mM).1 hml) B F X T hk ?_ hdp hu k
  intro b hb
  rcases List.mem_cons.mp hb with rfl | hb
  · exact ⟨(N _ mR).2.2, (N _ mR).2.1⟩
  · rw [List.mem_singleton.mp hb]; exact ⟨(N _ mM).2.2, (N _ mM).2.1⟩
theorem reg_S1_2 : True := by
  k_with "call ref" => (k_here; (with_reducible show wpAny _ _ (call (Value.ref 255) _) _ _ _); k_dflt (refine' seen_stop (by assumption) (by k_asm) (by k_asm) (by k_asm) (by k_asm) (by k_asm) (by k_mem) (by k_mem) (by omega) (by assumption) (by assumption) (by first | assumption | omega) (by ((try simp only [List.length_append, List.length_cons, List.length_nil]); omega)) (by first | exact rfl | assumption) (by ktr_room) (by ktr_units) ?_))
  trivial
set_option maxHeartbeats 4000000 in
theorem seen_succ {w : World} {mean : ExcName → Option Value} {mg mb : Str → Option Value} {n : Nat} (IH : SeenD w mean mg mb n) (hn : n ≤ 1) : SeenD w mean mg mb (n + 1) := by
  intro aR aM d t vs nR ns ms nM h hdd hne hR hi hl hM hml
  have hd0 : 0 < d := by omega
  have hd1 : d - 1 = (n : Int) := by omega
  unfold Does
  w_on
  k_fill
  intro dp un gd cn cs a ccd cl outer A₀ base h₀ L m s Q E ee B F X T hk hS hd hu hret
  subst ee
  have N : News h₀ L s.heap [(aR, listOf vs.toArray nR), (aM, listOf ms.toArray nM)] := news_of (by simpa using hS) (by simpa using ⟨hR, hM⟩)
  clear hS
  refine wpAny_call ?_
  k_dflt k_extra "q_enter"
  intro g' L' h' hk' hne' F' N' B' X' T'; (try dsimp only); (try k_fold)
  k_steps
  · rename Fr _ _ _ _ => F9
    rename News _ _ _ _ => N9
    rename IntsAre _ _ => hi9
    rename List.length _ ≤ 70 => hl9
    refine ⟨_, F9, fun k9 => hret _ _ _ k9 ⟨.const _, _, _, _, [], nM, .const (ft_of hk' N9 (by k_mem) (by k_extra "q_no")), N9.get (by k_mem), hi9, hl9, ?_, .nil, trivial, Nat.le_add_left ..⟩⟩
    rw [List.append_nil]; exact N9.get (by k_mem)
  · rename Fr _ _ _ _ => F9
    rename News _ _ _ _ => N9
    rename IntsAre _ _ => hi9
    rename List.length _ ≤ 70 => hl9
    rename _ < 3 => hhi9
    rename 0 ≤ _ => hlo9
    refine ⟨_, F9, fun k9 => hret _ _ _ k9 ⟨.sig _, _, _, _, [_], _, .sig (ft_of hk' N9 (by k_mem) (by k_extra "q_no")), N9.get (by k_mem), hi9, hl9, N9.get (by k_mem), .one (.sig (ft_of hk' N9 (by k_mem) (by k_extra "q_no"))), ⟨hlo9, hhi9⟩, Nat.le_add_left ..⟩⟩
  · rename Fr _ _ _ _ => F3
    rename News _ _ _ _ => N3
    unfold Stop
    intro r h2 tk2 hK ⟨e1, vs1, nR1, ns1, ms1, nM1, hE1, hR1, hI1, hl1, hM1, hS1, hG1, hD1⟩
    have b3 := back_of hk' F3 N3 (all_two ⟨_, .head _⟩ ⟨_, .tail _ (.head _)⟩)
    have k3 := kept_tup hK (all_two (nottup N3 (.head _) list_nt) (nottup N3 (.tail _ (.head _)) list_nt))
    refine' after (S := [(aR, listOf vs1.toArray nR1), (aM, listOf (ms ++ ms1).toArray nM1)]) (.hit (by k_mem) (.hit (by k_mem) .nil)) F3 N3 hK (all_two hR1 hM1) (all_two ⟨(N3 _ (.head _)).2.2, (N3 _ (.head _)).2.1⟩ ⟨(N3 _ (.tail _ (.head _))).2.2, (N3 _ (.tail _ (.head _))).2.1⟩) (all_two list_nt list_nt) ?_
    intro tl2 F4 N4 O4 C4 TC4 hs4
    dsimp only [List.map] at N4 O4 C4 hs4
    have hml1 : ms1.length ≤ 7 := by rw [hS1.length]; exact seen_len e1 (by omega)
    clear F3 N3 hi hl
    k_steps
    rename Fr _ _ _ _ => F5
    rename News _ _ _ _ => N5
    unfold Stop
    intro r2 h3 tk3 hK2 ⟨e2, vs2, nR2, ns2, ms2, nM2, hE2, hR2, hI2, hl2, hM2, hS2, hG2, hD2⟩
    have b5 := back_of hk' F5 N5 (all_two ⟨_, .head _⟩ ⟨_, .tail _ (.head _)⟩)
    have k4 := (TC4.keep F5 N5 (fun p hp => by k_mem)).trans (kept_tup hK2 (all_two (nottup N5 (.head _) list_nt) (nottup N5 (.tail _ (.head _)) list_nt)))
    refine' after (S := [(aR, listOf vs2.toArray nR2), (aM, listOf (ms ++ ms1 ++ ms2).toArray nM2)]) (.hit (by k_mem) (.hit (by k_mem) .nil)) F5 N5 hK2 (all_two hR2 hM2) (all_two ⟨(N5 _ (.head _)).2.2, (N5 _ (.head _)).2.1⟩ ⟨(N5 _ (.tail _ (.head _))).2.2, (N5 _ (.tail _ (.head _))).2.1⟩) (all_two list_nt list_nt) ?_
    intro tl3 F6 N6 O6 C6 TC6 hs6
    dsimp only [List.map] at N6 O6 C6 hs6
    clear F5 N5
    k_steps
    rename Fr _ _ _ _ => F9
    rename News _ _ _ _ => N9
    have k5 := TC6.keep F9 N9 (fun p hp => by k_mem)
    have k6 := k4.trans k5
    refine ⟨_, F9, fun k9 => hret _ _ _ k9 ⟨.bin e1 e2, _, _, _, ms1 ++ ms2, nM2, .bin (ft_of hk' N9 (by k_mem) (by k_extra "q_no")) (hE1.mono (ftm b3 k6)) (hE2.mono (ftm b5 k5)), N9.get (by k_mem), hI2, hl2, ?_, ?_, ⟨hG1, hG2⟩, ?_⟩⟩
    · rw [← List.append_assoc]; exact N9.get (by k_mem)
    · rw [seen_bin]; exact (hS1.mono fun _ _ x => x.mono (ftm b3 k6)).append (hS2.mono fun _ _ x => x.mono (ftm b5 k5))
    · simp only [Ex.dep]; omega
  · rename Fr _ _ _ _ => F3
    rename News _ _ _ _ => N3
    unfold Stop
    intro r h2 tk2 hK ⟨e1, vs1, nR1, ns1, ms1, nM1, hE1, hR1, hI1, hl1, hM1, hS1, hG1, hD1⟩
    rw [List.append_assoc] at hM1
    have b3 := back_of hk' F3 N3 (all_two ⟨_, .head _⟩ ⟨_, .tail _ (.head _)⟩)
    have k3 := kept_tup hK (all_two (nottup N3 (.head _) list_nt) (nottup N3 (.tail _ (.head _)) list_nt))
    refine' after (S := [(aR, listOf vs1.toArray nR1), (aM, listOf (ms ++ Value.none :: ms1).toArray nM1)]) (.hit (by k_mem) (.hit (by k_mem) .nil)) F3 N3 hK (all_two hR1 hM1) (all_two ⟨(N3 _ (.head _)).2.2, (N3 _ (.head _)).2.1⟩ ⟨(N3 _ (.tail _ (.head _))).2.2, (N3 _ (.tail _ (.head _))).2.1⟩) (all_two list_nt list_nt) ?_
    intro tl2 F4 N4 O4 C4 TC4 hs4
    dsimp only [List.map] at N4 O4 C4 hs4
    clear F3 N3 hi hl
    k_steps
    rename Fr _ _ _ _ => F9
    rename News _ _ _ _ => N9
    have k5 := TC4.keep F9 N9 (fun p hp => by k_mem)
    refine ⟨_, F9, fun k9 => hret _ _ _ k9 ⟨.word _ e1, _, _, _, _ :: ms1, _, .word (ft_of hk' N9 (by k_mem) (by k_extra "q_no")) (hE1.mono (ftm b3 k5)), N9.get (by k_mem), hI1, hl1, N9.get (by k_mem), ?_, ⟨by omega, hG1⟩, ?_⟩⟩
    · rw [seen_word]; exact .cons (.word (ft_of hk' N9 (by k_mem) (by k_extra "q_no")) (hE1.mono (ftm b3 k5))) (hS1.mono fun _ _ x => x.mono (ftm b3 k5))
    · simp only [Ex.dep]; omega

end
section
theorem reg_S2_0 : True := by
  k_with_none
  k_with "q_enter" => (refine' enterQ (by k_asm) (by k_asm) (by k_asm) (by k_asm) (by k_asm) (by exact rfl) (by exact rfl) (by assumption) (by k_is) (by k_is) (by ktr_room) (by exact BindsTo.of_eq rfl) (by exact locs rfl) ?_ (by exact rfl) (by exact rfl) (by exact rfl) (by decide); k_whole)
  k_with "units_room" => (ktr_units)
  k_with "q_len" => (rw [PySem.sizeLine_eq]; (try simp only [List.length_append, List.length_cons, List.length_nil]); omega)
  k_with "call builtin:list.append" => (k_here; k_dflt (refine' append_L (by k_asm) (by k_asm) (by k_upd) (by k_extra "q_len") ?_; (intro h' F' N'; (try dsimp only [List.nil_append, List.cons_append] at N'))))
  k_with "call builtin:list.pop" => (k_here; k_dflt (refine' pop_L (by k_asm) (by k_asm) (by k_upd) (by k_extra "q_len") ?_; (intro h' F' N'; (try dsimp only [List.nil_append, List.cons_append] at N'))))
  k_with "truthy ref" => (k_here; k_dflt (refine' truthy_L (by k_asm) (by k_mem) (by k_extra "q_len") ?_))
  k_with "exec While" => ((have hSt := (by with_reducible assumption : StopWhile)); clear hSt; refine Stop.of ?_)
  k_with "pyIter ref" => ((have hSt := (by with_reducible assumption : StopFor)); clear hSt; refine Stop.of ?_)
  k_with "call type:reversed" => (k_here; k_dflt (refine' rvt_L (by k_asm) (by k_asm) (by exact isTup_now (News.get (by assumption) (by k_mem))) (by ((try simp only [List.length_cons, List.length_nil]); omega)) ?_; (intro I' h' tk' F' N' l1; (try k_lt l1))))
  k_with "call builtin:list.extend" => (k_here; k_dflt (refine' extend_L (by k_asm) (by k_asm) (by (intro o'; k_upd)) (by first | assumption | exact News.get (by assumption) (by k_mem)) (by k_extra "q_len") ?_; (intro h' n' F' N'; (try dsimp only [List.nil_append, List.cons_append] at N'))))
  k_with "call type:list" => (k_here; k_dflt (refine' listT_L (by k_asm) (by k_asm) (by first | exact isTup_P (by assumption) (by assumption) (by assumption) | exact isTup_base (by assumption) (by assumption)) (by k_extra "q_len") ?_; (intro D' c' h' F' N' l1; (try k_lt l1))))
  k_with "exec For" => ((have hSt := (by with_reducible assumption : StopFor)); clear hSt; k_here; (rename Fr _ _ _ _ => lF'); (with_unfolding_all refine' For_invVF lF' (by exact rfl) (by exact rfl) ?_; k_whole))
  k_with "CompSrcT" => (k_here; (have hSt := (by with_reducible assumption : StopComp)); clear hSt; k_dflt (refine LCt.CompSrcT.ledger (by rfl) (by k_asm) (by k_asm) (by k_mem) (by (try rw [List.size_toArray]); k_extra "q_len") ?_); refine Stop.of ?_)
  k_with "CompSrc" => (k_here; (have hSt := (by with_reducible assumption : StopComp)); clear hSt; k_dflt (refine LCg.CompSrc.ledger (by rfl) (by k_asm) (by k_asm) (by k_mem) (by (try rw [List.size_toArray]); k_extra "q_len") ?_); refine Stop.of ?_)
  k_with "CompEnd" => ((have hSt := (by with_reducible assumption : StopComp)); clear hSt; refine Stop.of ?_)
  k_with "q_clean" => ((repeat (with_reducible rename Fr _ _ _ _ => hz; clear hz)); (repeat (with_reducible rename News _ _ _ _ => hz; clear hz)); (repeat (with_reducible rename _ ∧ _ => hz; clear hz)); (repeat (with_reducible rename @LT.lt Nat _ _ _ => hz; clear hz)); (repeat (with_reducible rename OwnOff _ _ => hz; clear hz)); (repeat (with_reducible rename Cov _ _ _ _ _ => hz; clear hz)); (repeat (with_reducible rename TCov _ _ _ => hz; clear hz)); (repeat (with_reducible rename _ ∈ _ => hz; clear hz)); (repeat (with_reducible rename SigEs _ _ _ _ => hz; clear hz)); (repeat (with_reducible rename ∀ p ∈ _, p ∈ _ => hz; clear hz)); (repeat (with_reducible rename @Ne Nat _ _ => hz; clear hz)); (repeat (with_reducible rename getL _ _ = _ => hz; clear hz)); (repeat (with_reducible rename _ = Data.cell _ => hz; clear hz)); (repeat (with_reducible rename StopFor => hz; clear hz)); (repeat (with_reducible rename Kept _ _ _ => hz; clear hz)); (repeat (with_reducible rename Heap.get? _ _ = _ => hz; clear hz)); (repeat (with_reducible rename @LE.le Nat _ _ _ => hz; clear hz)); (repeat (with_reducible rename IsRange _ _ _ _ _ _ _ _ => hz; clear hz)); (repeat (with_reducible rename Obj.IsDictOf _ _ _ => hz; clear hz)); (repeat (with_reducible rename AllLt _ _ => hz; clear hz)); (repeat (with_reducible rename IntsAre _ _ => hz; clear hz)); (repeat (with_reducible rename PyProof.V.FlatPairs _ _ _ => hz; clear hz)); (repeat (with_reducible rename Heap.IsList _ _ _ => hz; clear hz)); (repeat (with_reducible rename ReadsAll _ _ _ _ => hz; clear hz)); (repeat (with_reducible rename @LT.lt Int _ _ _ => hz; clear hz)); (repeat (with_reducible rename @LE.le Int _ _ _ => hz; clear hz)); (repeat (with_reducible rename _ ∨ _ => hz; clear hz)))
  k_with "q_no" => (exact notin2' (by k_ne) (by k_ne))
  k_with "q_fr" => (first | exact List.forall_mem_nil _ | (refine List.forall_mem_cons.mpr ⟨⟨_, by k_mem⟩, ?_⟩; k_extra "q_fr"))
  k_with "k_ne" => (refine neN ?_; (try dsimp only); k_extra "ne")
  k_with "ne" => (first | with_reducible assumption | exact Nat.ne_of_lt (AllLt.get (by with_reducible assumption) (by k_mem)) | exact Nat.ne_of_gt (AllLt.get (by with_reducible assumption) (by k_mem)) | exact Ne.symm (by with_reducible assumption) | exact Nat.ne_of_gt (AllLt.get2 (by with_reducible assumption) (by with_reducible assumption) (by k_mem)) | exact Nat.ne_of_lt (AllLt.get2 (by with_reducible assumption) (by with_reducible assumption) (by k_mem)) | exact Nat.ne_of_lt (by with_reducible assumption) | exact Nat.ne_of_gt (by with_reducible assumption) | omega)
  k_with "subscriptTail" => (k_here; k_dflt (refine' item_tupleT (by first | exact isTup_P (by assumption) (by assumption) (by assumption) | exact isTup_base (by assumption) (by assumption) | exact isTup_now (by assumption)) (by decide) (by decide) (by rfl) (by rfl) ?_; k_whole))
  k_with "k_steps" => ((try k_fold); repeat' (first | (k_unfold; (try dsimp only)) | (k_end; wrow_close) | walk1 | (dsimp only; walk1) | (leave1; walk_say "STEP leave1"; try dsimp only) | fail "no step"))
  k_with "k_memR" => (first | with_reducible exact List.mem_cons_self .. | with_reducible assumption | (with_reducible refine List.mem_cons_of_mem _ ?_; k_extra "k_memR"))
  k_with "k_memD" => (first | exact List.mem_cons_self .. | with_reducible assumption | (refine List.mem_cons_of_mem _ ?_; k_extra "k_memD"))
  k_with "k_mem" => (first | k_extra "k_memR" | k_extra "k_memD")
  k_with "k_all" => (first | exact List.forall_mem_nil _ | ((with_reducible refine' List.forall_mem_cons.mpr (And.intro ?_ ?_)); k_ne; k_all) | with_reducible assumption | exact OwnOff.ne (by with_reducible assumption) (by k_extra "k_memR") | exact allLt_ne (by with_reducible assumption) | exact allLt_nes (by with_reducible assumption) (by intro p9 hp9; k_extra "k_memR") | exact OwnOff.ne (by assumption) (by k_mem) | ((refine' List.forall_mem_cons.mpr (And.intro ?_ ?_)); k_ne; k_all) | exact allLt_nes (by with_reducible assumption) (by intro p9 hp9; k_mem))
  trivial
theorem reg_S2_1 : True := by
  k_with "call ref" => (k_here; (with_reducible show wpAny _ _ (call (Value.ref 248) _) _ _ _); k_dflt (refine' pull_call (by k_asm) (by k_asm) (by k_asm) (by k_asm) (by k_asm) (by k_updF) (by assumption) (by first | assumption | omega) (by decide) (by decide) (by first | exact rfl | assumption) (by ktr_room) (by ktr_units) ?_); (intro k' u' vs' n' ns' h' tk' hlo' hhi' hi' hl' F' N'))
  trivial
theorem seen_one {w : World} {mean : ExcName → Option Value} {mg mb : Str → Option Value} : SeenD w mean mg mb 1 := seen_succ seen_zero (by decide)
theorem seen_two {w : World} {mean : ExcName → Option Value} {mg mb : Str → Option Value} : SeenD w mean mg mb 2 := seen_succ seen_one (by decide)
theorem reg_S2_2 : True := by
  k_with "call ref" => (k_here; (with_reducible show wpAny _ _ (call (Value.ref 255) [_, Value.int 1 _, _]) _ _ _); k_dflt (refine' seen_stop seen_one (by k_asm) (by k_asm) (by k_asm) (by k_asm) (by k_asm) (by k_mem) (by k_mem) (by exact rfl) (by assumption) (by assumption) (by first | assumption | omega) (by ((try simp only [List.length_append, List.length_cons, List.length_nil]); omega)) (by first | exact rfl | assumption) (by ktr_room) (by ktr_units) ?_))
  k_with "call ref" => (k_here; (with_reducible show wpAny _ _ (call (Value.ref 255) [_, Value.int 2 _, _]) _ _ _); k_dflt (refine' seen_stop seen_two (by k_asm) (by k_asm) (by k_asm) (by k_asm) (by k_asm) (by k_mem) (by k_mem) (by exact rfl) (by assumption) (by assumption) (by first | assumption | omega) (by ((try simp only [List.length_append, List.length_cons, List.length_nil]); omega)) (by first | exact rfl | assumption) (by ktr_room) (by ktr_units) ?_))
  trivial
theorem after2 {P : Prop} {g h h' : Heap} {L aR aM : Addr} {m : Str → Option Value} {vs vs1 ms ms1 : List Value} {nR nR1 nM nM1 : Nat} {tl : List (Addr × Obj)} (F : Fr g L h m) (N : News g L h ((aR, listOf vs.toArray nR) :: (aM, listOf ms.toArray nM) :: tl)) (hK : Kept [aR, aM] h h')
    (hR : h'.get? aR = some (listOf vs1.toArray nR1)) (hM : h'.get? aM = some (listOf ms1.toArray nM1))
    (k : ∀ tl', Fr g L h' m → News g L h' ((aR, listOf vs1.toArray nR1) :: (aM, listOf ms1.toArray nM1) :: tl') → OwnOff tl' [aR, aM] → TCov g h' tl' → TupKeep h h' → P) : P := by
  have k3 := kept_tup hK (all_two (nottup N (.head _) list_nt) (nottup N (.tail _ (.head _)) list_nt))
  refine' after (S := [(aR, listOf vs1.toArray nR1), (aM, listOf ms1.toArray nM1)]) (.hit (.head _) (.hit (.tail _ (.head _)) .nil)) F N hK (all_two hR hM) (all_two ⟨(N _ (.head _)).2.2, (N _ (.head _)).2.1⟩ ⟨(N _ (.tail _ (.head _))).2.2, (N _ (.tail _ (.head _))).2.1⟩) (all_two list_nt list_nt) ?_
  intro tl2 F4 N4 O4 C4 TC4 hs4
  exact k tl2 F4 N4 O4 TC4 k3
noncomputable def St.seen : St → List Ex
  | .set _ v => Mine.seen v
  | .nba _ v i => Mine.seen v ++ Mine.seen i
  | .ite t a => Mine.seen t ++ a.seen
  | .itee t a b => Mine.seen t ++ (a.seen ++ b.seen)
noncomputable def St.lev : St → Nat
  | .set _ _ => 0
  | .nba _ _ _ => 0
  | .ite _ a => a.lev + 1
  | .itee _ a b => max a.lev b.lev + 1
noncomputable def St.Good : St → Prop
  | .set _ v => v.Good ∧ v.dep ≤ 3
  | .nba _ v i => (v.Good ∧ v.dep ≤ 3) ∧ i.Good ∧ i.dep ≤ 2
  | .ite t a => (t.Good ∧ t.dep ≤ 2) ∧ a.Good
  | .itee t a b => (t.Good ∧ t.dep ≤ 2) ∧ a.Good ∧ b.Good
theorem seen_len2 (e : Ex) (h : e.dep ≤ 2) : (seen e).length ≤ 3 := by
  have a := dep_pre e 2 h
  have b := List.length_filter_le Ex.isSW e.pre
  unfold seen
  omega
theorem St.seen0 (s : St) (g : s.Good) (h : s.lev ≤ 0) : s.seen.length ≤ 10 := by
  cases s with
  | set k v => have := seen_len v g.2; simp only [St.seen]; omega
  | nba k v i => have a := seen_len v g.1.2; have b := seen_len2 i g.2.2; simp only [St.seen, List.length_append]; omega
  | ite t a => simp only [St.lev] at h; omega
  | itee t a b => simp only [St.lev] at h; omega
theorem St.seen1 (s : St) (g : s.Good) (h : s.lev ≤ 1) : s.seen.length ≤ 23 := by
  cases s with
  | set k v => have := seen_len v g.2; simp only [St.seen]; omega
  | nba k v i => have a := seen_len v g.1.2; have b := seen_len2 i g.2.2; simp only [St.seen, List.length_append]; omega
  | ite t a => simp only [St.lev] at h; have a := seen_len2 t g.1.2; have b := St.seen0 _ g.2 (by omega); simp only [St.seen, List.length_append]; omega
  | itee t a b => simp only [St.lev] at h; have x := seen_len2 t g.1.2; have y := St.seen0 _ g.2.1 (by omega); have z := St.seen0 _ g.2.2 (by omega); simp only [St.seen, List.length_append]; omega
inductive StatPost (h : Heap) (aR aM : Addr) (ms : List Value) (n : Nat) (r : Value) (h' : Heap) : Prop
  | mk (e : St) (vs' : List Value) (nR' : Nat) (ns' : List Int) (ms' : List Value) (nM' : Nat)
    (_ : StR (FT h h') r e)
    (_ : h'.get? aR = some (listOf vs'.toArray nR'))
    (_ : IntsAre vs' ns')
    (_ : ns'.length ≤ 70)
    (_ : h'.get? aM = some (listOf (ms ++ ms').toArray nM'))
    (_ : All2 (ExR (FT h h')) ms' e.seen)
    (_ : e.Good)
    (_ : e.lev ≤ n) : StatPost h aR aM ms n r h'
noncomputable def StatD (w : World) (mean : ExcName → Option Value) (mg mb : Str → Option Value) (n : Nat) : Prop :=
  ∀ (aR aM : Addr) (d : Int) (t : Tok) (vs : List Value) (nR : Nat) (ns : List Int) (ms : List Value) (nM : Nat) (h : Heap), d = (n : Int) → @Ne Nat aR aM → h.get? aR = some (listOf vs.toArray nR) → IntsAre vs ns → ns.length ≤ 70 →
    h.get? aM = some (listOf ms.toArray nM) → ms.length ≤ 700 - 50 * n → Does w mean mg mb 262 [.ref aR, .int d t, .ref aM] (20 + 2 * n) (800 + 100 * n) h [aR, aM] (StatPost h aR aM ms n)
theorem stat_stop {w : World} {mean : ExcName → Option Value} {mg mb : Str → Option Value} {n : Nat} (IH : StatD w mean mg mb n) {aR aM : Addr} {d : Int} {t : Tok} {vs : List Value} {nR : Nat} {ns : List Int} {ms : List Value} {nM : Nat}
    {dp un : Nat} {gd : Option (List Code)} {cn : Str} {cs : Scope} {a : Addr} {ccd : Value} {cl : List (Str × Addr)} {outer : List Env} {A₀ : Around} {base h₀ : Heap} {L : Addr} {m : Str → Option Value} {s : Shared} {Q E : Value → Shared → Prop} {news : List (Addr × Obj)}
    (B : Below A₀ base outer h₀) (F : Fr h₀ L s.heap m) (X : (hd.heap_1 w.params).In h₀) (T : Top hd.view_1 (looseW hd.view_1 []) mean mg mb h₀) (N : News h₀ L s.heap news)
    (mR : (aR, listOf vs.toArray nR) ∈ news) (mM : (aM, listOf ms.toArray nM) ∈ news) (hd : d = (n : Int)) (hne : @Ne Nat aR aM) (hi : IntsAre vs ns) (hl : ns.length ≤ 70) (hml : ms.length ≤ 700 - 50 * n)
    (hk : cs.kind = .function) (hdp : dp + (20 + 2 * n) < recursionLimit) (hu : un + (800 + 100 * n) < cLine)
    (k : Stop (∀ r h' tk', Kept [aR, aM] s.heap h' → StatPost s.heap aR aM ms n r h' → Q r { s with heap := h', toks := tk' })) :
    wpAny (model PySem.Challenge.rw_on0116_01.row.prog w) (ktrTop dp un gd cn cs L a ccd cl outer) (call (.ref 262) [.ref aR, .int d t, .ref aM]) Q E s := by
  refine Does.stop (IH aR aM d t vs nR ns ms nM s.heap hd hne (N _ mR).1 hi hl (N _ mM).1 hml) B F X T hk ?_ hdp hu k
  intro b hb
  rcases List.mem_cons.mp hb with rfl | hb
  · exact ⟨(N _ mR).2.2, (N _ mR).2.1⟩
  · rw [List.mem_singleton.mp hb]; exact ⟨(N _ mM).2.2, (N _ mM).2.1⟩
theorem reg_S2_3 : True := by
  k_with "call ref" => (k_here; (with_reducible show wpAny _ _ (call (Value.ref 262) _) _ _ _); k_dflt (refine' stat_stop (by assumption) (by k_asm) (by k_asm) (by k_asm) (by k_asm) (by k_asm) (by k_mem) (by k_mem) (by omega) (by assumption) (by assumption) (by first | assumption | omega) (by ((try simp only [List.length_append, List.length_cons, List.length_nil]); omega)) (by first | exact rfl | assumption) (by ktr_room) (by ktr_units) ?_))
  trivial
set_option maxHeartbeats 4000000 in
theorem stat_zero {w : World} {mean : ExcName → Option Value} {mg mb : Str → Option Value} : StatD w mean mg mb 0 := by
  intro aR aM d t vs nR ns ms nM h hdd hne hR hi hl hM hml
  have hd0 : d = 0 := hdd
  clear hdd
  subst hd0
  have hl3 : ms.length ≤ 700 := hml
  clear hml
  unfold Does
  w_on
  k_fill
  intro dp un gd cn cs a ccd cl outer A₀ base h₀ L m s Q E ee B F X T hk hS hd hu hret
  subst ee
  have N : News h₀ L s.heap [(aR, listOf vs.toArray nR), (aM, listOf ms.toArray nM)] := news_of (by simpa using hS) (by simpa using ⟨hR, hM⟩)
  clear hS
  refine wpAny_call ?_
  k_dflt k_extra "q_enter"
  intro g' L' h' hk' hne' F' N' B' X' T'; (try dsimp only); (try k_fold)
  k_steps
  · rename _ < 2 => hhi9
    rename _ = 2 => h1
    omega
  · rename Fr _ _ _ _ => F3
    rename News _ _ _ _ => N3
    unfold Stop
    intro r h2 tk2 hK ⟨e1, vs1, nR1, ns1, ms1, nM1, hE1, hR1, hI1, hl1, hM1, hS1, hG1, hD1⟩
    have b3 := back_of hk' F3 N3 (all_two ⟨_, .head _⟩ ⟨_, .tail _ (.head _)⟩)
    refine' after2 F3 N3 hK hR1 hM1 ?_
    intro tl2 F4 N4 O4 TC4 k3
    have hml1 : ms1.length ≤ 7 := by rw [hS1.length]; exact seen_len e1 (by omega)
    clear F3 N3 hi hl
    k_steps
    · rename Fr _ _ _ _ => F9
      rename News _ _ _ _ => N9
      rename List.length _ ≤ 70 => hl9
      rename IntsAre _ _ => hi9
      have k5 := TC4.keep F9 N9 (fun p hp => by k_mem)
      refine ⟨_, F9, fun k9 => hret _ _ _ k9 ⟨.set _ e1, _, _, _, ms1, nM1, .set (ft_of hk' N9 (by k_mem) (by k_extra "q_no")) (ft_of hk' N9 (by k_mem) (by k_extra "q_no")) (ft_of hk' N9 (by k_mem) (by k_extra "q_no")) (ft_of hk' N9 (by k_mem) (by k_extra "q_no")) (ft_of hk' N9 (by k_mem) (by k_extra "q_no")) (hE1.mono (ftm b3 k5)), N9.get (by k_mem), hi9, hl9, N9.get (by k_mem), ?_, ⟨hG1, hD1⟩, Nat.zero_le _⟩⟩
      exact hS1.mono fun _ _ x => x.mono (ftm b3 k5)
    · rename Fr _ _ _ _ => F5
      rename News _ _ _ _ => N5
      unfold Stop
      intro r2 h3 tk3 hK2 ⟨e2, vs2, nR2, ns2, ms2, nM2, hE2, hR2, hI2, hl2, hM2, hS2, hG2, hD2⟩
      have b5 := back_of hk' F5 N5 (all_two ⟨_, .head _⟩ ⟨_, .tail _ (.head _)⟩)
      have k4 := TC4.keep F5 N5 (fun p hp => by k_mem)
      refine' after2 F5 N5 hK2 hR2 hM2 ?_
      intro tl3 F6 N6 O6 TC6 k5
      clear F5 N5 hI1 hl1
      k_steps
      rename Fr _ _ _ _ => F9
      rename News _ _ _ _ => N9
      rename List.length _ ≤ 70 => hl9
      rename IntsAre _ _ => hi9
      have k6 := TC6.keep F9 N9 (fun p hp => by k_mem)
      have k7 := (k4.trans k5).trans k6
      refine ⟨_, F9, fun k9 => hret _ _ _ k9 ⟨.nba _ e1 e2, _, _, _, ms1 ++ ms2, nM2, .nba (ft_of hk' N9 (by k_mem) (by k_extra "q_no")) (ft_of hk' N9 (by k_mem) (by k_extra "q_no")) (ft_of hk' N9 (by k_mem) (by k_extra "q_no")) (ft_of hk' N9 (by k_mem) (by k_extra "q_no")) (ft_of hk' N9 (by k_mem) (by k_extra "q_no")) (ft_of hk' N9 (by k_mem) (by k_extra "q_no")) (hE1.mono (ftm b3 k7)) (hE2.mono (ftm b5 k6)), N9.get (by k_mem), hi9, hl9, ?_, ?_, ⟨⟨hG1, hD1⟩, hG2, hD2⟩, Nat.zero_le _⟩⟩
      · rw [← List.append_assoc]; exact N9.get (by k_mem)
      · exact (hS1.mono fun _ _ x => x.mono (ftm b3 k7)).append (hS2.mono fun _ _ x => x.mono (ftm b5 k6))
set_option maxHeartbeats 4000000 in
theorem stat_one {w : World} {mean : ExcName → Option Value} {mg mb : Str → Option Value} : StatD w mean mg mb 1 := by
  intro aR aM d t vs nR ns ms nM h hdd hne hR hi hl hM hml
  have hd0 : d = 1 := hdd
  clear hdd
  subst hd0
  have hl3 : ms.length ≤ 650 := hml
  clear hml
  have IH := @stat_zero w mean mg mb
  unfold Does
  w_on
  k_fill
  intro dp un gd cn cs a ccd cl outer A₀ base h₀ L m s Q E ee B F X T hk hS hd hu hret
  subst ee
  have N : News h₀ L s.heap [(aR, listOf vs.toArray nR), (aM, listOf ms.toArray nM)] := news_of (by simpa using hS) (by simpa using ⟨hR, hM⟩)
  clear hS
  refine wpAny_call ?_
  k_dflt k_extra "q_enter"
  intro g' L' h' hk' hne' F' N' B' X' T'; (try dsimp only); (try k_fold)
  k_steps
  · rename Fr _ _ _ _ => F3
    rename News _ _ _ _ => N3
    unfold Stop
    intro r h2 tk2 hK ⟨e1, vs1, nR1, ns1, ms1, nM1, hE1, hR1, hI1, hl1, hM1, hS1, hG1, hD1⟩
    have b3 := back_of hk' F3 N3 (all_two ⟨_, .head _⟩ ⟨_, .tail _ (.head _)⟩)
    refine' after2 F3 N3 hK hR1 hM1 ?_
    intro tl2 F4 N4 O4 TC4 k3
    have hml1 : ms1.length ≤ 3 := by rw [hS1.length]; exact seen_len2 e1 (by omega)
    clear F3 N3 hi hl
    k_steps
    rename Fr _ _ _ _ => F5
    rename News _ _ _ _ => N5
    unfold Stop
    intro r2 h3 tk3 hK2 ⟨e2, vs2, nR2, ns2, ms2, nM2, hE2, hR2, hI2, hl2, hM2, hS2, hG2, hD2⟩
    have b5 := back_of hk' F5 N5 (all_two ⟨_, .head _⟩ ⟨_, .tail _ (.head _)⟩)
    have k4 := TC4.keep F5 N5 (fun p hp => by k_mem)
    refine' after2 F5 N5 hK2 hR2 hM2 ?_
    intro tl3 F6 N6 O6 TC6 k5
    have hml2 : ms2.length ≤ 10 := by rw [hS2.length]; exact St.seen0 e2 hG2 (by omega)
    clear F5 N5 hI1 hl1
    k_steps
    · rename Fr _ _ _ _ => F7
      rename News _ _ _ _ => N7
      unfold Stop
      intro r3 h4 tk4 hK3 ⟨e3, vs3, nR3, ns3, ms3, nM3, hE3, hR3, hI3, hl3', hM3, hS3, hG3, hD3⟩
      have b7 := back_of hk' F7 N7 (all_two ⟨_, .head _⟩ ⟨_, .tail _ (.head _)⟩)
      have k6 := TC6.keep F7 N7 (fun p hp => by k_mem)
      refine' after2 F7 N7 hK3 hR3 hM3 ?_
      intro tl4 F8 N8 O8 TC8 k7
      clear F7 N7
      k_steps
      rename Fr _ _ _ _ => F9
      rename News _ _ _ _ => N9
      have k8 := TC8.keep F9 N9 (fun p hp => by k_mem)
      have k9 := (k6.trans k7).trans k8
      have k10 := (k4.trans k5).trans k9
      refine ⟨_, F9, fun kk => hret _ _ _ kk ⟨.itee e1 e2 e3, _, _, _, ms1 ++ (ms2 ++ ms3), nM3, .itee (ft_of hk' N9 (by k_mem) (by k_extra "q_no")) (hE1.mono (ftm b3 k10)) (hE2.mono (ftm b5 k9)) (hE3.mono (ftm b7 k8)), N9.get (by k_mem), hI3, hl3', ?_, ?_, ⟨⟨hG1, hD1⟩, hG2, hG3⟩, ?_⟩⟩
      · rw [← List.append_assoc, ← List.append_assoc]; exact N9.get (by k_mem)
      · exact (hS1.mono fun _ _ x => x.mono (ftm b3 k10)).append ((hS2.mono fun _ _ x => x.mono (ftm b5 k9)).append (hS3.mono fun _ _ x => x.mono (ftm b7 k8)))
      · simp only [St.lev]; omega
    · rename Fr _ _ _ _ => F9
      rename News _ _ _ _ => N9
      rename List.length _ ≤ 70 => hl9
      rename IntsAre _ _ => hi9
      have k8 := TC6.keep F9 N9 (fun p hp => by k_mem)
      have k10 := (k4.trans k5).trans k8
      refine ⟨_, F9, fun kk => hret _ _ _ kk ⟨.ite e1 e2, _, _, _, ms1 ++ ms2, nM2, .ite (ft_of hk' N9 (by k_mem) (by k_extra "q_no")) (hE1.mono (ftm b3 k10)) (hE2.mono (ftm b5 k8)), N9.get (by k_mem), hi9, hl9, ?_, ?_, ⟨⟨hG1, hD1⟩, hG2⟩, ?_⟩⟩
      · rw [← List.append_assoc]; exact N9.get (by k_mem)
      · exact (hS1.mono fun _ _ x => x.mono (ftm b3 k10)).append (hS2.mono fun _ _ x => x.mono (ftm b5 k8))
      · simp only [St.lev]; omega
  · rename Fr _ _ _ _ => F3
    rename News _ _ _ _ => N3
    unfold Stop
    intro r h2 tk2 hK ⟨e1, vs1, nR1, ns1, ms1, nM1, hE1, hR1, hI1, hl1, hM1, hS1, hG1, hD1⟩
    have b3 := back_of hk' F3 N3 (all_two ⟨_, .head _⟩ ⟨_, .tail _ (.head _)⟩)
    refine' after2 F3 N3 hK hR1 hM1 ?_
    intro tl2 F4 N4 O4 TC4 k3
    have hml1 : ms1.length ≤ 7 := by rw [hS1.length]; exact seen_len e1 (by omega)
    clear F3 N3 hi hl
    k_steps
    · rename Fr _ _ _ _ => F9
      rename News _ _ _ _ => N9
      rename List.length _ ≤ 70 => hl9
      rename IntsAre _ _ => hi9
      have k5 := TC4.keep F9 N9 (fun p hp => by k_mem)
      refine ⟨_, F9, fun k9 => hret _ _ _ k9 ⟨.set _ e1, _, _, _, ms1, nM1, .set (ft_of hk' N9 (by k_mem) (by k_extra "q_no")) (ft_of hk' N9 (by k_mem) (by k_extra "q_no")) (ft_of hk' N9 (by k_mem) (by k_extra "q_no")) (ft_of hk' N9 (by k_mem) (by k_extra "q_no")) (ft_of hk' N9 (by k_mem) (by k_extra "q_no")) (hE1.mono (ftm b3 k5)), N9.get (by k_mem), hi9, hl9, N9.get (by k_mem), ?_, ⟨hG1, hD1⟩, Nat.zero_le _⟩⟩
      exact hS1.mono fun _ _ x => x.mono (ftm b3 k5)
    · rename Fr _ _ _ _ => F5
      rename News _ _ _ _ => N5
      unfold Stop
      intro r2 h3 tk3 hK2 ⟨e2, vs2, nR2, ns2, ms2, nM2, hE2, hR2, hI2, hl2, hM2, hS2, hG2, hD2⟩
      have b5 := back_of hk' F5 N5 (all_two ⟨_, .head _⟩ ⟨_, .tail _ (.head _)⟩)
      have k4 := TC4.keep F5 N5 (fun p hp => by k_mem)
      refine' after2 F5 N5 hK2 hR2 hM2 ?_
      intro tl3 F6 N6 O6 TC6 k5
      clear F5 N5 hI1 hl1
      k_steps
      rename Fr _ _ _ _ => F9
      rename News _ _ _ _ => N9
      rename List.length _ ≤ 70 => hl9
      rename IntsAre _ _ => hi9
      have k6 := TC6.keep F9 N9 (fun p hp => by k_mem)
      have k7 := (k4.trans k5).trans k6
      refine ⟨_, F9, fun k9 => hret _ _ _ k9 ⟨.nba _ e1 e2, _, _, _, ms1 ++ ms2, nM2, .nba (ft_of hk' N9 (by k_mem) (by k_extra "q_no")) (ft_of hk' N9 (by k_mem) (by k_extra "q_no")) (ft_of hk' N9 (by k_mem) (by k_extra "q_no")) (ft_of hk' N9 (by k_mem) (by k_extra "q_no")) (ft_of hk' N9 (by k_mem) (by k_extra "q_no")) (ft_of hk' N9 (by k_mem) (by k_extra "q_no")) (hE1.mono (ftm b3 k7)) (hE2.mono (ftm b5 k6)), N9.get (by k_mem), hi9, hl9, ?_, ?_, ⟨⟨hG1, hD1⟩, hG2, hD2⟩, Nat.zero_le _⟩⟩
      · rw [← List.append_assoc]; exact N9.get (by k_mem)
      · exact (hS1.mono fun _ _ x => x.mono (ftm b3 k7)).append (hS2.mono fun _ _ x => x.mono (ftm b5 k6))

end
section
theorem reg_V0_0 : True := by
  k_with_none
  k_with "q_enter" => (refine' enterQ (by k_asm) (by k_asm) (by k_asm) (by k_asm) (by k_asm) (by exact rfl) (by exact rfl) (by assumption) (by k_is) (by k_is) (by ktr_room) (by exact BindsTo.of_eq rfl) (by exact locs rfl) ?_ (by exact rfl) (by exact rfl) (by exact rfl) (by decide); k_whole)
  k_with "units_room" => (ktr_units)
  k_with "q_len" => (rw [PySem.sizeLine_eq]; (try simp only [List.length_append, List.length_cons, List.length_nil]); omega)
  k_with "call builtin:list.append" => (k_here; k_dflt (refine' append_L (by k_asm) (by k_asm) (by k_upd) (by k_extra "q_len") ?_; (intro h' F' N'; (try dsimp only [List.nil_append, List.cons_append] at N'))))
  k_with "call builtin:list.pop" => (k_here; k_dflt (refine' pop_L (by k_asm) (by k_asm) (by k_upd) (by k_extra "q_len") ?_; (intro h' F' N'; (try dsimp only [List.nil_append, List.cons_append] at N'))))
  k_with "truthy ref" => (k_here; k_dflt (refine' truthy_L (by k_asm) (by k_mem) (by k_extra "q_len") ?_))
  k_with "exec While" => ((have hSt := (by with_reducible assumption : StopWhile)); clear hSt; refine Stop.of ?_)
  k_with "pyIter ref" => ((have hSt := (by with_reducible assumption : StopFor)); clear hSt; refine Stop.of ?_)
  k_with "call type:reversed" => (k_here; k_dflt (refine' rvt_L (by k_asm) (by k_asm) (by exact isTup_now (News.get (by assumption) (by k_mem))) (by ((try simp only [List.length_cons, List.length_nil]); omega)) ?_; (intro I' h' tk' F' N' l1; (try k_lt l1))))
  k_with "call builtin:list.extend" => (k_here; k_dflt (refine' extend_L (by k_asm) (by k_asm) (by (intro o'; k_upd)) (by first | assumption | exact News.get (by assumption) (by k_mem)) (by k_extra "q_len") ?_; (intro h' n' F' N'; (try dsimp only [List.nil_append, List.cons_append] at N'))))
  k_with "call type:list" => (k_here; k_dflt (refine' listT_L (by k_asm) (by k_asm) (by first | exact isTup_P (by assumption) (by assumption) (by assumption) | exact isTup_base (by assumption) (by assumption)) (by k_extra "q_len") ?_; (intro D' c' h' F' N' l1; (try k_lt l1))))
  k_with "exec For" => ((have hSt := (by with_reducible assumption : StopFor)); clear hSt; k_here; (rename Fr _ _ _ _ => lF'); (with_unfolding_all refine' For_invVF lF' (by exact rfl) (by exact rfl) ?_; k_whole))
  k_with "CompSrcT" => (k_here; (have hSt := (by with_reducible assumption : StopComp)); clear hSt; k_dflt (refine LCt.CompSrcT.ledger (by rfl) (by k_asm) (by k_asm) (by k_mem) (by (try rw [List.size_toArray]); k_extra "q_len") ?_); refine Stop.of ?_)
  k_with "CompSrc" => (k_here; (have hSt := (by with_reducible assumption : StopComp)); clear hSt; k_dflt (refine LCg.CompSrc.ledger (by rfl) (by k_asm) (by k_asm) (by k_mem) (by (try rw [List.size_toArray]); k_extra "q_len") ?_); refine Stop.of ?_)
  k_with "CompEnd" => ((have hSt := (by with_reducible assumption : StopComp)); clear hSt; refine Stop.of ?_)
  k_with "q_clean" => ((repeat (with_reducible rename Fr _ _ _ _ => hz; clear hz)); (repeat (with_reducible rename News _ _ _ _ => hz; clear hz)); (repeat (with_reducible rename _ ∧ _ => hz; clear hz)); (repeat (with_reducible rename @LT.lt Nat _ _ _ => hz; clear hz)); (repeat (with_reducible rename OwnOff _ _ => hz; clear hz)); (repeat (with_reducible rename Cov _ _ _ _ _ => hz; clear hz)); (repeat (with_reducible rename TCov _ _ _ => hz; clear hz)); (repeat (with_reducible rename _ ∈ _ => hz; clear hz)); (repeat (with_reducible rename SigEs _ _ _ _ => hz; clear hz)); (repeat (with_reducible rename ∀ p ∈ _, p ∈ _ => hz; clear hz)); (repeat (with_reducible rename @Ne Nat _ _ => hz; clear hz)); (repeat (with_reducible rename getL _ _ = _ => hz; clear hz)); (repeat (with_reducible rename _ = Data.cell _ => hz; clear hz)); (repeat (with_reducible rename StopFor => hz; clear hz)); (repeat (with_reducible rename Kept _ _ _ => hz; clear hz)); (repeat (with_reducible rename Heap.get? _ _ = _ => hz; clear hz)); (repeat (with_reducible rename @LE.le Nat _ _ _ => hz; clear hz)); (repeat (with_reducible rename IsRange _ _ _ _ _ _ _ _ => hz; clear hz)); (repeat (with_reducible rename Obj.IsDictOf _ _ _ => hz; clear hz)); (repeat (with_reducible rename AllLt _ _ => hz; clear hz)); (repeat (with_reducible rename IntsAre _ _ => hz; clear hz)); (repeat (with_reducible rename PyProof.V.FlatPairs _ _ _ => hz; clear hz)); (repeat (with_reducible rename Heap.IsList _ _ _ => hz; clear hz)); (repeat (with_reducible rename ReadsAll _ _ _ _ => hz; clear hz)); (repeat (with_reducible rename @LT.lt Int _ _ _ => hz; clear hz)); (repeat (with_reducible rename @LE.le Int _ _ _ => hz; clear hz)); (repeat (with_reducible rename _ ∨ _ => hz; clear hz)))
  k_with "q_no" => (exact notin2' (by k_ne) (by k_ne))
  k_with "q_fr" => (first | exact List.forall_mem_nil _ | (refine List.forall_mem_cons.mpr ⟨⟨_, by k_mem⟩, ?_⟩; k_extra "q_fr"))
  k_with "k_ne" => (refine neN ?_; (try dsimp only); k_extra "ne")
  k_with "ne" => (first | with_reducible assumption | exact Nat.ne_of_lt (AllLt.get (by with_reducible assumption) (by k_mem)) | exact Nat.ne_of_gt (AllLt.get (by with_reducible assumption) (by k_mem)) | exact Ne.symm (by with_reducible assumption) | exact Nat.ne_of_gt (AllLt.get2 (by with_reducible assumption) (by with_reducible assumption) (by k_mem)) | exact Nat.ne_of_lt (AllLt.get2 (by with_reducible assumption) (by with_reducible assumption) (by k_mem)) | exact Nat.ne_of_lt (by with_reducible assumption) | exact Nat.ne_of_gt (by with_reducible assumption) | omega)
  k_with "subscriptTail" => (k_here; k_dflt (refine' item_tupleT (by first | exact isTup_P (by assumption) (by assumption) (by assumption) | exact isTup_base (by assumption) (by assumption) | exact isTup_now (by assumption)) (by decide) (by decide) (by rfl) (by rfl) ?_; k_whole))
  k_with "k_steps" => ((try k_fold); repeat' (first | (k_unfold; (try dsimp only)) | (k_end; wrow_close) | walk1 | (dsimp only; walk1) | (leave1; walk_say "STEP leave1"; try dsimp only) | fail "no step"))
  k_with "k_memR" => (first | with_reducible exact List.mem_cons_self .. | with_reducible assumption | (with_reducible refine List.mem_cons_of_mem _ ?_; k_extra "k_memR"))
  k_with "k_memD" => (first | exact List.mem_cons_self .. | with_reducible assumption | (refine List.mem_cons_of_mem _ ?_; k_extra "k_memD"))
  k_with "k_mem" => (first | k_extra "k_memR" | k_extra "k_memD")
  k_with "k_all" => (first | exact List.forall_mem_nil _ | ((with_reducible refine' List.forall_mem_cons.mpr (And.intro ?_ ?_)); k_ne; k_all) | with_reducible assumption | exact OwnOff.ne (by with_reducible assumption) (by k_extra "k_memR") | exact allLt_ne (by with_reducible assumption) | exact allLt_nes (by with_reducible assumption) (by intro p9 hp9; k_extra "k_memR") | exact OwnOff.ne (by assumption) (by k_mem) | ((refine' List.forall_mem_cons.mpr (And.intro ?_ ?_)); k_ne; k_all) | exact allLt_nes (by with_reducible assumption) (by intro p9 hp9; k_mem))
  trivial
theorem ints_at : ∀ {ns : List Int} {vs : List Value} {j : Nat} {v : Value}, IntsAre vs ns → vs[j]? = some v → ∃ k t, ns[j]? = some k ∧ v = .int k t
  | _, _, 0, _, .cons _ _ _, e => ⟨_, _, rfl, (Option.some.inj e).symm⟩
  | _, _, j + 1, _, .cons _ _ r, e => ints_at (j := j) r e
theorem reg_V0_1 : True := by
  k_with "call builtin:len" => (k_here; k_dflt (refine' len_L (by k_asm) (by k_mem) (by omega) ?_))
  trivial
theorem ints_nm {vs : List Value} {ns : List Int} (_ : IntsAre vs ns) : ∃ x : List Value, x = vs := ⟨vs, rfl⟩
set_option maxHeartbeats 4000000 in
theorem given_does {w : World} {mean : ExcName → Option Value} {mg mb : Str → Option Value} {a : Addr} {vs : List Value} {ns : List Int} {h : Heap} (hL : h.IsList a vs.toArray) (hi : IntsAre vs ns) (hl : vs.length ≤ 63) :
    Does w mean mg mb 241 [.ref a] 20 1000 h [] (fun r h' => ∃ (l : Addr) (vs : List Value) (n : Nat) (ns : List Int), r = .ref l ∧ h.get? l = none ∧ h'.get? l = some (listOf vs.toArray n) ∧ IntsAre vs ns ∧ ns.length ≤ 70) := by
  unfold Does
  w_on
  k_fill
  intro dp un gd cn cs a' ccd cl outer A₀ base h₀ L m s Q E ee B F X T hk hS hd hu hret
  subst ee
  have N : News h₀ L s.heap [] := News.nil
  clear hS
  refine wpAny_call ?_
  k_dflt k_extra "q_enter"
  intro g' L' h' hk' hne' F' N' B' X' T'; (try dsimp only); (try k_fold)
  have hLg : g'.IsList a vs.toArray := hL.at fun o e => hk' _ _ e (by simp)
  have hFo : StopFor := ⟨⟩
  k_steps
  unfold Stop
  rename Fr _ _ _ _ => F3
  rename News _ _ _ _ => N3
  rename IntsAre _ (List.take 30 ns) => hiW
  obtain ⟨dA, lA, hx1, hx2⟩ := news_two N3
  subst hx1 hx2
  obtain ⟨ws, hx3⟩ := ints_nm hiW
  subst hx3
  rename AllLt _ _ => lD
  have wl : ws.length ≤ 30 := by
    rw [hiW.length, List.length_take]; exact Nat.min_le_left _ _
  k_dflt refine for_list (vs := ws) (nn := 0) (adr := [lA]) (tl₀ := []) (fun c : List Value × Nat => [(lA, listOf c.1.toArray c.2)]) (fun _ => [(Str.ofString "rest", .ref lA)])
    (fun i c _ => ∃ ms : List Int, IntsAre c.1 ms ∧ ms.length ≤ 70 + i) ([], 0) rfl (N3 _ (.head _)).1 ?_ (fun c => all_one list_nt) (fun _ => rfl) (fun _ _ _ _ _ x => x) F3 (fun p hp => N3 p (.tail _ hp)) (fun _ h => nomatch h) (all_one rfl) ⟨[], .nil, Nat.zero_le _⟩ ?_ ?_
  · intro q; rw [List.mem_singleton] at q; exact absurd (AllLt.get lD (.head _)) (by rw [q]; exact Nat.lt_irrefl _)
  · intro i y x91 u h3 tk3 tl3 hy F5 N5 O5 C5 TC5 hs5 x92
    (try dsimp only); (try k_fold)
    obtain ⟨cs, cn⟩ := x91
    obtain ⟨ms, hcs, hml⟩ := x92
    dsimp only [pin, List.cons_append, List.nil_append] at F5 N5 O5 hcs hml ⊢
    clear F3 N3
    have hil : i < ws.length := (List.getElem?_eq_some_iff.mp hy).1
    have hcl : cs.length ≤ 100 := by rw [hcs.length]; omega
    obtain ⟨k, t, rfl⟩ : ∃ k t, y = .int k t := by
      obtain ⟨k, t, _, e⟩ := ints_at hiW hy
      exact ⟨k, t, e⟩
    have hW : StopWhile := ⟨⟩
    k_steps
    all_goals
      unfold Stop
      rename Fr _ _ _ _ => F7
      rename News _ _ _ _ => N7
      k_dflt refine while_h (L := L') (adr := [lA]) (tl₀ := tl3) (fun c : List Value × Nat × Int × Tok => [(lA, listOf c.1.toArray c.2.1)]) (fun c => [(Str.ofString "rest", .ref lA), (Str.ofString "left", .int c.2.2.1 c.2.2.2)])
        (fun c _ => ∃ ms : List Int, IntsAre c.1 ms ∧ ms.length ≤ 71 + i) (fun c => 70 - c.1.length) (cs ++ [_], cn + 1, _, _) (fun c => all_one list_nt) (fun _ => rfl) (fun _ _ _ _ x => x) F7 N7 O5 (all_two rfl rfl) ⟨ms ++ [_], hcs.append (.cons _ _ .nil), by rw [List.length_append, List.length_singleton]; omega⟩ ?_
      intro x93 u h3 tk3 tl4 F8 N8 O8 C8 TC8 hs8 x94
      (try dsimp only); (try k_fold)
      obtain ⟨cs, cn, lf, lt⟩ := x93
      obtain ⟨ms, hcs, hml⟩ := x94
      dsimp only [pin, List.cons_append, List.nil_append] at F8 N8 O8 hcs hml ⊢
      clear F7 N7 hW
      have hcl : cs.length ≤ 110 := by rw [hcs.length]; omega
      have hcl2 := hcs.length
      k_steps
      · rename _ < (70 : Int) => h70
        rename Fr _ _ _ _ => F9
        rename News _ _ _ _ => N9
        refine WEnd.nx (cs ++ [_], cn + 1, _, _) tl4 F9 N9 (fun _ h => h) (all_two rfl rfl) ⟨ms ++ [_], hcs.append (.cons _ _ .nil), by rw [List.length_append, List.length_singleton]; omega⟩ ?_
        simp only [List.length_append, List.length_cons, List.length_nil]
        omega
      all_goals
        rename Fr _ _ _ _ => F9
        rename News _ _ _ _ => N9
        exact FEnd.nx (cs, cn) tl4 F9 N9 hs8 (all_one rfl) ⟨ms, hcs, by omega⟩
  · intro x95 u h3 tk3 tl3 F5 N5 O5 C5 TC5 hs5 x96
    (try dsimp only); (try k_fold)
    obtain ⟨cs, cn⟩ := x95
    obtain ⟨ms, hcs, hml⟩ := x96
    dsimp only [pin, List.cons_append, List.nil_append] at F5 N5 O5 hcs hml ⊢
    clear F3 N3
    k_steps
    rename Fr _ _ _ _ => F7
    rename News _ _ _ _ => N7
    rename IntsAre _ (List.take 70 ms) => hi7
    refine ⟨_, F7, fun k9 => hret _ _ _ k9 ⟨_, _, _, _, rfl, fresh_of hk' N7 (.head _) (by simp), N7.get (.head _), hi7, ?_⟩⟩
    rw [List.length_take]; exact Nat.min_le_left _ _

end
section
theorem reg_W0_0 : True := by
  k_with_none
  k_with "q_enter" => (refine' enterQ (by k_asm) (by k_asm) (by k_asm) (by k_asm) (by k_asm) (by exact rfl) (by exact rfl) (by assumption) (by k_is) (by k_is) (by ktr_room) (by exact BindsTo.of_eq rfl) (by exact locs rfl) ?_ (by exact rfl) (by exact rfl) (by exact rfl) (by decide); k_whole)
  k_with "units_room" => (ktr_units)
  k_with "q_len" => (rw [PySem.sizeLine_eq]; (try simp only [List.length_append, List.length_cons, List.length_nil]); omega)
  k_with "call builtin:list.append" => (k_here; k_dflt (refine' append_L (by k_asm) (by k_asm) (by k_upd) (by k_extra "q_len") ?_; (intro h' F' N'; (try dsimp only [List.nil_append, List.cons_append] at N'))))
  k_with "call builtin:list.pop" => (k_here; k_dflt (refine' pop_L (by k_asm) (by k_asm) (by k_upd) (by k_extra "q_len") ?_; (intro h' F' N'; (try dsimp only [List.nil_append, List.cons_append] at N'))))
  k_with "truthy ref" => (k_here; k_dflt (refine' truthy_L (by k_asm) (by k_mem) (by k_extra "q_len") ?_))
  k_with "exec While" => ((have hSt := (by with_reducible assumption : StopWhile)); clear hSt; refine Stop.of ?_)
  k_with "pyIter ref" => ((have hSt := (by with_reducible assumption : StopFor)); clear hSt; refine Stop.of ?_)
  k_with "call type:reversed" => (k_here; k_dflt (refine' rvt_L (by k_asm) (by k_asm) (by exact isTup_now (News.get (by assumption) (by k_mem))) (by ((try simp only [List.length_cons, List.length_nil]); omega)) ?_; (intro I' h' tk' F' N' l1; (try k_lt l1))))
  k_with "call builtin:list.extend" => (k_here; k_dflt (refine' extend_L (by k_asm) (by k_asm) (by (intro o'; k_upd)) (by first | assumption | exact News.get (by assumption) (by k_mem)) (by k_extra "q_len") ?_; (intro h' n' F' N'; (try dsimp only [List.nil_append, List.cons_append] at N'))))
  k_with "call type:list" => (k_here; k_dflt (refine' listT_L (by k_asm) (by k_asm) (by first | exact isTup_P (by assumption) (by assumption) (by assumption) | exact isTup_base (by assumption) (by assumption)) (by k_extra "q_len") ?_; (intro D' c' h' F' N' l1; (try k_lt l1))))
  k_with "exec For" => ((have hSt := (by with_reducible assumption : StopFor)); clear hSt; k_here; (rename Fr _ _ _ _ => lF'); (with_unfolding_all refine' For_invVF lF' (by exact rfl) (by exact rfl) ?_; k_whole))
  k_with "CompSrcT" => (k_here; (have hSt := (by with_reducible assumption : StopComp)); clear hSt; k_dflt (refine LCt.CompSrcT.ledger (by rfl) (by k_asm) (by k_asm) (by k_mem) (by (try rw [List.size_toArray]); k_extra "q_len") ?_); refine Stop.of ?_)
  k_with "CompSrc" => (k_here; (have hSt := (by with_reducible assumption : StopComp)); clear hSt; k_dflt (refine LCg.CompSrc.ledger (by rfl) (by k_asm) (by k_asm) (by k_mem) (by (try rw [List.size_toArray]); k_extra "q_len") ?_); refine Stop.of ?_)
  k_with "CompEnd" => ((have hSt := (by with_reducible assumption : StopComp)); clear hSt; refine Stop.of ?_)
  k_with "q_clean" => ((repeat (with_reducible rename Fr _ _ _ _ => hz; clear hz)); (repeat (with_reducible rename News _ _ _ _ => hz; clear hz)); (repeat (with_reducible rename _ ∧ _ => hz; clear hz)); (repeat (with_reducible rename @LT.lt Nat _ _ _ => hz; clear hz)); (repeat (with_reducible rename OwnOff _ _ => hz; clear hz)); (repeat (with_reducible rename Cov _ _ _ _ _ => hz; clear hz)); (repeat (with_reducible rename TCov _ _ _ => hz; clear hz)); (repeat (with_reducible rename _ ∈ _ => hz; clear hz)); (repeat (with_reducible rename SigEs _ _ _ _ => hz; clear hz)); (repeat (with_reducible rename ∀ p ∈ _, p ∈ _ => hz; clear hz)); (repeat (with_reducible rename @Ne Nat _ _ => hz; clear hz)); (repeat (with_reducible rename getL _ _ = _ => hz; clear hz)); (repeat (with_reducible rename _ = Data.cell _ => hz; clear hz)); (repeat (with_reducible rename StopFor => hz; clear hz)); (repeat (with_reducible rename Kept _ _ _ => hz; clear hz)); (repeat (with_reducible rename Heap.get? _ _ = _ => hz; clear hz)); (repeat (with_reducible rename @LE.le Nat _ _ _ => hz; clear hz)); (repeat (with_reducible rename IsRange _ _ _ _ _ _ _ _ => hz; clear hz)); (repeat (with_reducible rename Obj.IsDictOf _ _ _ => hz; clear hz)); (repeat (with_reducible rename AllLt _ _ => hz; clear hz)); (repeat (with_reducible rename IntsAre _ _ => hz; clear hz)); (repeat (with_reducible rename PyProof.V.FlatPairs _ _ _ => hz; clear hz)); (repeat (with_reducible rename Heap.IsList _ _ _ => hz; clear hz)); (repeat (with_reducible rename ReadsAll _ _ _ _ => hz; clear hz)); (repeat (with_reducible rename @LT.lt Int _ _ _ => hz; clear hz)); (repeat (with_reducible rename @LE.le Int _ _ _ => hz; clear hz)); (repeat (with_reducible rename _ ∨ _ => hz; clear hz)))
  k_with "q_no" => (exact notin2' (by k_ne) (by k_ne))
  k_with "q_fr" => (first | exact List.forall_mem_nil _ | (refine List.forall_mem_cons.mpr ⟨⟨_, by k_mem⟩, ?_⟩; k_extra "q_fr"))
  k_with "k_ne" => (refine neN ?_; (try dsimp only); k_extra "ne")
  k_with "ne" => (first | with_reducible assumption | exact Nat.ne_of_lt (AllLt.get (by with_reducible assumption) (by k_mem)) | exact Nat.ne_of_gt (AllLt.get (by with_reducible assumption) (by k_mem)) | exact Ne.symm (by with_reducible assumption) | exact Nat.ne_of_gt (AllLt.get2 (by with_reducible assumption) (by with_reducible assumption) (by k_mem)) | exact Nat.ne_of_lt (AllLt.get2 (by with_reducible assumption) (by with_reducible assumption) (by k_mem)) | exact Nat.ne_of_lt (by with_reducible assumption) | exact Nat.ne_of_gt (by with_reducible assumption) | omega)
  k_with "subscriptTail" => (k_here; k_dflt (refine' item_tupleT (by first | exact isTup_P (by assumption) (by assumption) (by assumption) | exact isTup_base (by assumption) (by assumption) | exact isTup_now (by assumption)) (by decide) (by decide) (by rfl) (by rfl) ?_; k_whole))
  k_with "k_steps" => ((try k_fold); repeat' (first | (k_unfold; (try dsimp only)) | (k_end; wrow_close) | walk1 | (dsimp only; walk1) | (leave1; walk_say "STEP leave1"; try dsimp only) | fail "no step"))
  k_with "k_memR" => (first | with_reducible exact List.mem_cons_self .. | with_reducible assumption | (with_reducible refine List.mem_cons_of_mem _ ?_; k_extra "k_memR"))
  k_with "k_memD" => (first | exact List.mem_cons_self .. | with_reducible assumption | (refine List.mem_cons_of_mem _ ?_; k_extra "k_memD"))
  k_with "k_mem" => (first | k_extra "k_memR" | k_extra "k_memD")
  k_with "k_all" => (first | exact List.forall_mem_nil _ | ((with_reducible refine' List.forall_mem_cons.mpr (And.intro ?_ ?_)); k_ne; k_all) | with_reducible assumption | exact OwnOff.ne (by with_reducible assumption) (by k_extra "k_memR") | exact allLt_ne (by with_reducible assumption) | exact allLt_nes (by with_reducible assumption) (by intro p9 hp9; k_extra "k_memR") | exact OwnOff.ne (by assumption) (by k_mem) | ((refine' List.forall_mem_cons.mpr (And.intro ?_ ?_)); k_ne; k_all) | exact allLt_nes (by with_reducible assumption) (by intro p9 hp9; k_mem))
  trivial
theorem reg_W0_1 : True := by
  k_with "k_inst" => (refine' inst_keep (by k_asm) (by with_reducible assumption))
  k_with "k_inst" => (refine' inst_keep (by k_asm) (inst_keep (by with_reducible assumption) (by with_reducible assumption)))
  k_with "call ref" => (k_here; (try dsimp only [List.append_nil]); k_dflt (refine wpAny_call ?_; refine' code_defR (by exact rfl) (by exact rfl) (by first | exact rfl | assumption) (by k_asm) (by k_asm) (by k_asm) (by k_asm) (by k_asm) (by k_is) (by k_is) (by ktr_room) (by exact BindsTo.of_eq rfl) (by decide) (by exact locs rfl) (by exact rfl) (by exact rfl) (by exact rfl) ?_; k_whole; intro gz Lz hz FGz Fz Nz Bz Xz Tz; (try dsimp only); (try k_fold)))
  k_with "k_get" => (with_reducible assumption)
  trivial
set_option maxHeartbeats 4000000 in
theorem wtrig_does {w : World} {mean : ExcName → Option Value} {mg mb : Str → Option Value} {y yd : Addr} {es : List DictEntry} {n : Nat} {k lo f l : Int} {t1 t2 : Tok} {h : Heap} (hy : InstAt h y (instObj 167 yd) 167 (some (dictOf es n))) (se : SigEs es k (.int f t1) (.int l t2))
    (hfl : (f = lo ∧ l = lo + 2) ∨ (f = lo + 2 ∧ l = lo)) (hlo : -2 ≤ lo ∧ lo ≤ 2) :
    Does w mean mg mb 101 [.ref y] 12 300 h [] (fun r h' => ∃ (a : Addr) (vs : List Value) (n : Nat), r = .ref a ∧ h.get? a = none ∧ h'.get? a = some (listOf vs.toArray n) ∧ All2 (DuR (TupAt h')) vs (duCells k lo 3)) := by
  obtain ⟨⟨tk1, e1⟩, ⟨tk2, e2⟩, e3, e4, e5, e6, e7⟩ := se
  unfold Does
  w_on
  k_fill
  intro dp un gd cn cs a ccd cl outer A₀ base h₀ L m s Q E ee B F X T hk hS hd hu hret
  subst ee
  have N : News h₀ L s.heap [] := News.nil
  clear hS
  refine wpAny_call ?_
  k_dflt k_extra "q_enter"
  intro g' L' h' hk' hne' F' N' B' X' T'; (try dsimp only); (try k_fold)
  have hyg : InstAt g' y (instObj 167 yd) 167 (some (dictOf es n)) := ⟨hk' _ _ hy.at_ (by simp), rfl, hy.no, hk' _ _ hy.dict (by simp)⟩
  clear hy
  have hsm : Builtin.Range.small lo (lo + (2 + 1)) 1 = true := by
    have hz : Builtin.Range.rangeSize lo (lo + (2 + 1)) 1 = 3 := by unfold Builtin.Range.rangeSize; simp; omega
    have hf : ∀ z : Int, -10 ≤ z → z ≤ 10 → Builtin.Range.rangeFitsLong z = true := fun z h1 h2 => by
      unfold Builtin.Range.rangeFitsLong
      rw [Bool.and_eq_true, decide_eq_true_iff, decide_eq_true_iff]
      omega
    unfold Builtin.Range.small
    rw [hz, hf lo (by omega) (by omega), hf (lo + (2 + 1)) (by omega) (by omega), hf (lo + (2 + 1) + (1 - 1)) (by omega) (by omega)]
    rfl
  have hsz : Builtin.Range.rangeSize lo (lo + (2 + 1)) 1 = ((3 : Nat) : Int) := by
    unfold Builtin.Range.rangeSize; simp; omega
  have ea1 : (if lo + 2 < lo then lo + 2 else lo) = lo := if_neg (by omega)
  have eb1 : (if lo + 2 - lo < 0 then -(lo + 2 - lo) else lo + 2 - lo) = 2 := by rw [if_neg (by omega)]; omega
  have ea2 : (if lo < lo + 2 then lo else lo + 2) = lo := if_pos (by omega)
  have eb2 : (if lo - (lo + 2) < 0 then -(lo - (lo + 2)) else lo - (lo + 2)) = 2 := by rw [if_pos (by omega)]; omega
  have hkey : ∀ i : Nat, i < 3 → -10 ≤ lo + (i : Int) ∧ lo + (i : Int) ≤ 10 := fun i hi => by omega
  rcases hfl with ⟨hf, hl⟩ | ⟨hf, hl⟩
  all_goals
    subst f l
    have hFo : StopFor := ⟨⟩
    k_steps
    unfold Stop
    rename Fr _ _ _ _ => F3
    rename News _ _ _ _ => N3
    rename IsRange _ _ _ _ _ _ _ _ => hr
    first | rw [ea1, eb1] at hr | rw [ea2, eb2] at hr
    obtain ⟨lA, hx1⟩ := news_hd N3
    subst hx1
    k_dflt refine for_range (n := 3) (adr := [lA]) (tl₀ := []) (fun c : List Value × Nat => [(lA, listOf c.1.toArray c.2)]) (fun _ => [(Str.ofString "rows", .ref lA), (Str.ofString "signal", .ref y)])
      (fun i c h => All2 (DuR (TupAt h)) c.1 (duCells k lo i)) ([], 0) rfl hr hsm hsz (fun c => all_one list_nt) (fun _ => rfl) (fun _ _ _ _ hk x => x.mono fun _ _ z => z.mono hk) F3 N3 (fun _ h => nomatch h) (all_two rfl rfl) .nil ?_ ?_
    · intro i t x91 u h3 tk3 tl3 hi F5 N5 O5 C5 TC5 hs5 hI
      (try dsimp only); (try k_fold)
      obtain ⟨cs, cn⟩ := x91
      dsimp only [pin, List.cons_append, List.nil_append] at F5 N5 O5 hI ⊢
      clear F3 N3
      have hki := hkey i hi
      have hcl : cs.length ≤ 3 := by rw [hI.length]; simp [duCells]; omega
      k_steps
      have eb : Builtin.bitAnd (lo + (i : Int)) (1 * 2 ^ Int.toNat 32 - 1) = (lo + (i : Int)) % 4294967296 := bitAnd_m32 _
      rename Fr _ _ _ _ => F9
      rename News _ _ _ _ => N9
      rw [eb] at N9
      have k5 := TC5.keep F9 N9 (fun p hp => by k_mem)
      obtain ⟨tl9, N10, O10, i10⟩ := regroup1 (a := lA) N9 (by k_mem)
      refine FEnd.nx (cs ++ [_], cn + 1) tl9 F9 N10 (fun p hp => i10 p (by k_mem) fun e => O5 p hp lA (.head _) e) (all_two rfl rfl) ?_
      rw [duCells_succ]
      exact (hI.mono fun _ _ z => z.mono k5).append (.one (.cell (N9.get (by k_mem)) (N9.get (by k_mem)) (N9.get (by k_mem))))
    · intro x92 u h3 tk3 tl3 F5 N5 O5 C5 TC5 hs5 hI
      (try dsimp only); (try k_fold)
      obtain ⟨cs, cn⟩ := x92
      dsimp only [pin, List.cons_append, List.nil_append] at F5 N5 O5 hI ⊢
      clear F3 N3
      k_steps
      rename Fr _ _ _ _ => F7
      rename News _ _ _ _ => N7
      exact ⟨_, F7, fun k9 => hret _ _ _ k9 ⟨lA, cs, cn, rfl, fresh_of hk' N7 (by k_mem) (by simp), N7.get (by k_mem), hI⟩⟩

end
section
theorem reg_W1_0 : True := by
  k_with_none
  k_with "q_enter" => (refine' enterQ (by k_asm) (by k_asm) (by k_asm) (by k_asm) (by k_asm) (by exact rfl) (by exact rfl) (by assumption) (by k_is) (by k_is) (by ktr_room) (by exact BindsTo.of_eq rfl) (by exact locs rfl) ?_ (by exact rfl) (by exact rfl) (by exact rfl) (by decide); k_whole)
  k_with "units_room" => (ktr_units)
  k_with "q_len" => (rw [PySem.sizeLine_eq]; (try simp only [List.length_append, List.length_cons, List.length_nil]); omega)
  k_with "call builtin:list.append" => (k_here; k_dflt (refine' append_L (by k_asm) (by k_asm) (by k_upd) (by k_extra "q_len") ?_; (intro h' F' N'; (try dsimp only [List.nil_append, List.cons_append] at N'))))
  k_with "call builtin:list.pop" => (k_here; k_dflt (refine' pop_L (by k_asm) (by k_asm) (by k_upd) (by k_extra "q_len") ?_; (intro h' F' N'; (try dsimp only [List.nil_append, List.cons_append] at N'))))
  k_with "truthy ref" => (k_here; k_dflt (refine' truthy_L (by k_asm) (by k_mem) (by k_extra "q_len") ?_))
  k_with "exec While" => ((have hSt := (by with_reducible assumption : StopWhile)); clear hSt; refine Stop.of ?_)
  k_with "pyIter ref" => ((have hSt := (by with_reducible assumption : StopFor)); clear hSt; refine Stop.of ?_)
  k_with "call type:reversed" => (k_here; k_dflt (refine' rvt_L (by k_asm) (by k_asm) (by exact isTup_now (News.get (by assumption) (by k_mem))) (by ((try simp only [List.length_cons, List.length_nil]); omega)) ?_; (intro I' h' tk' F' N' l1; (try k_lt l1))))
  k_with "call builtin:list.extend" => (k_here; k_dflt (refine' extend_L (by k_asm) (by k_asm) (by (intro o'; k_upd)) (by first | assumption | exact News.get (by assumption) (by k_mem)) (by k_extra "q_len") ?_; (intro h' n' F' N'; (try dsimp only [List.nil_append, List.cons_append] at N'))))
  k_with "call type:list" => (k_here; k_dflt (refine' listT_L (by k_asm) (by k_asm) (by first | exact isTup_P (by assumption) (by assumption) (by assumption) | exact isTup_base (by assumption) (by assumption)) (by k_extra "q_len") ?_; (intro D' c' h' F' N' l1; (try k_lt l1))))
  k_with "exec For" => ((have hSt := (by with_reducible assumption : StopFor)); clear hSt; k_here; (rename Fr _ _ _ _ => lF'); (with_unfolding_all refine' For_invVF lF' (by exact rfl) (by exact rfl) ?_; k_whole))
  k_with "CompSrcT" => (k_here; (have hSt := (by with_reducible assumption : StopComp)); clear hSt; k_dflt (refine LCt.CompSrcT.ledger (by rfl) (by k_asm) (by k_asm) (by k_mem) (by (try rw [List.size_toArray]); k_extra "q_len") ?_); refine Stop.of ?_)
  k_with "CompSrc" => (k_here; (have hSt := (by with_reducible assumption : StopComp)); clear hSt; k_dflt (refine LCg.CompSrc.ledger (by rfl) (by k_asm) (by k_asm) (by k_mem) (by (try rw [List.size_toArray]); k_extra "q_len") ?_); refine Stop.of ?_)
  k_with "CompEnd" => ((have hSt := (by with_reducible assumption : StopComp)); clear hSt; refine Stop.of ?_)
  k_with "q_clean" => ((repeat (with_reducible rename Fr _ _ _ _ => hz; clear hz)); (repeat (with_reducible rename News _ _ _ _ => hz; clear hz)); (repeat (with_reducible rename _ ∧ _ => hz; clear hz)); (repeat (with_reducible rename @LT.lt Nat _ _ _ => hz; clear hz)); (repeat (with_reducible rename OwnOff _ _ => hz; clear hz)); (repeat (with_reducible rename Cov _ _ _ _ _ => hz; clear hz)); (repeat (with_reducible rename TCov _ _ _ => hz; clear hz)); (repeat (with_reducible rename _ ∈ _ => hz; clear hz)); (repeat (with_reducible rename SigEs _ _ _ _ => hz; clear hz)); (repeat (with_reducible rename ∀ p ∈ _, p ∈ _ => hz; clear hz)); (repeat (with_reducible rename @Ne Nat _ _ => hz; clear hz)); (repeat (with_reducible rename getL _ _ = _ => hz; clear hz)); (repeat (with_reducible rename _ = Data.cell _ => hz; clear hz)); (repeat (with_reducible rename StopFor => hz; clear hz)); (repeat (with_reducible rename Kept _ _ _ => hz; clear hz)); (repeat (with_reducible rename Heap.get? _ _ = _ => hz; clear hz)); (repeat (with_reducible rename @LE.le Nat _ _ _ => hz; clear hz)); (repeat (with_reducible rename IsRange _ _ _ _ _ _ _ _ => hz; clear hz)); (repeat (with_reducible rename Obj.IsDictOf _ _ _ => hz; clear hz)); (repeat (with_reducible rename AllLt _ _ => hz; clear hz)); (repeat (with_reducible rename IntsAre _ _ => hz; clear hz)); (repeat (with_reducible rename PyProof.V.FlatPairs _ _ _ => hz; clear hz)); (repeat (with_reducible rename Heap.IsList _ _ _ => hz; clear hz)); (repeat (with_reducible rename ReadsAll _ _ _ _ => hz; clear hz)); (repeat (with_reducible rename @LT.lt Int _ _ _ => hz; clear hz)); (repeat (with_reducible rename @LE.le Int _ _ _ => hz; clear hz)); (repeat (with_reducible rename _ ∨ _ => hz; clear hz)))
  k_with "q_no" => (exact notin2' (by k_ne) (by k_ne))
  k_with "q_fr" => (first | exact List.forall_mem_nil _ | (refine List.forall_mem_cons.mpr ⟨⟨_, by k_mem⟩, ?_⟩; k_extra "q_fr"))
  k_with "k_ne" => (refine neN ?_; (try dsimp only); k_extra "ne")
  k_with "ne" => (first | with_reducible assumption | exact Nat.ne_of_lt (AllLt.get (by with_reducible assumption) (by k_mem)) | exact Nat.ne_of_gt (AllLt.get (by with_reducible assumption) (by k_mem)) | exact Ne.symm (by with_reducible assumption) | exact Nat.ne_of_gt (AllLt.get2 (by with_reducible assumption) (by with_reducible assumption) (by k_mem)) | exact Nat.ne_of_lt (AllLt.get2 (by with_reducible assumption) (by with_reducible assumption) (by k_mem)) | exact Nat.ne_of_lt (by with_reducible assumption) | exact Nat.ne_of_gt (by with_reducible assumption) | omega)
  k_with "subscriptTail" => (k_here; k_dflt (refine' item_tupleT (by first | exact isTup_P (by assumption) (by assumption) (by assumption) | exact isTup_base (by assumption) (by assumption) | exact isTup_now (by assumption)) (by decide) (by decide) (by rfl) (by rfl) ?_; k_whole))
  k_with "k_steps" => ((try k_fold); repeat' (first | (k_unfold; (try dsimp only)) | (k_end; wrow_close) | walk1 | (dsimp only; walk1) | (leave1; walk_say "STEP leave1"; try dsimp only) | fail "no step"))
  k_with "k_memR" => (first | with_reducible exact List.mem_cons_self .. | with_reducible assumption | (with_reducible refine List.mem_cons_of_mem _ ?_; k_extra "k_memR"))
  k_with "k_memD" => (first | exact List.mem_cons_self .. | with_reducible assumption | (refine List.mem_cons_of_mem _ ?_; k_extra "k_memD"))
  k_with "k_mem" => (first | k_extra "k_memR" | k_extra "k_memD")
  k_with "k_all" => (first | exact List.forall_mem_nil _ | ((with_reducible refine' List.forall_mem_cons.mpr (And.intro ?_ ?_)); k_ne; k_all) | with_reducible assumption | exact OwnOff.ne (by with_reducible assumption) (by k_extra "k_memR") | exact allLt_ne (by with_reducible assumption) | exact allLt_nes (by with_reducible assumption) (by intro p9 hp9; k_extra "k_memR") | exact OwnOff.ne (by assumption) (by k_mem) | ((refine' List.forall_mem_cons.mpr (And.intro ?_ ?_)); k_ne; k_all) | exact allLt_nes (by with_reducible assumption) (by intro p9 hp9; k_mem))
  trivial
theorem reg_W1_1 : True := by
  k_with "k_inst" => (refine' inst_keep (by k_asm) (by with_reducible assumption))
  k_with "k_inst" => (refine' inst_keep (by k_asm) (inst_keep (by with_reducible assumption) (by with_reducible assumption)))
  k_with "call ref" => (k_here; (try dsimp only [List.append_nil]); k_dflt (refine wpAny_call ?_; refine' code_defR (by exact rfl) (by exact rfl) (by first | exact rfl | assumption) (by k_asm) (by k_asm) (by k_asm) (by k_asm) (by k_asm) (by k_is) (by k_is) (by ktr_room) (by exact BindsTo.of_eq rfl) (by decide) (by exact locs rfl) (by exact rfl) (by exact rfl) (by exact rfl) ?_; k_whole; intro gz Lz hz FGz Fz Nz Bz Xz Tz; (try dsimp only); (try k_fold)))
  k_with "k_get" => (with_reducible assumption)
  k_with "subscriptTail" => (k_here; k_dflt (refine' base_item (by k_asm) (by with_reducible assumption) (by first | decide | omega) (by first | decide | omega) (by first | with_reducible assumption | exact rfl) ?_ (by with_unfolding_all rfl)))
  k_with "call type:tuple" => (k_here; k_dflt (refine' tupleT_L (by k_asm) (by k_asm) (by k_mem) (by omega) ?_; (intro D' h' F' N' l1; (try k_lt l1))))
  k_with "call ref" => (k_here; (with_reducible show wpAny _ _ (call (Value.ref 94) _) _ _ _); k_dflt ((try k_fold); refine' Does.stop (sreads_does (by exact base_now (by assumption) (by assumption)) (by assumption) (by exact Nd.Ok.sz (by assumption)) (by exact Nd.Ok.k4 (by assumption)) (by exact Nd.Ok.es (by assumption)) (by assumption)) (by k_asm) (by k_asm) (by k_asm) (by k_asm) (by first | exact rfl | assumption) (by exact List.forall_mem_nil _) (by ktr_room) (by ktr_units) ?_))
  k_with "call ref" => (k_here; (with_reducible show wpAny _ _ (call (Value.ref 108) _) _ _ _); k_dflt ((try k_fold); refine' Does.stop (rwords_does (by exact base_now (by assumption) (by assumption)) (by assumption) (by assumption)) (by k_asm) (by k_asm) (by k_asm) (by k_asm) (by first | exact rfl | assumption) (by exact List.forall_mem_nil _) (by ktr_room) (by ktr_units) ?_))
  k_with "call ref" => (k_here; (with_reducible show wpAny _ _ (call (Value.ref 101) _) _ _ _); k_dflt ((try k_fold); refine' Does.stop (wtrig_does (by k_inst) (by assumption) (by assumption) (by assumption)) (by k_asm) (by k_asm) (by k_asm) (by k_asm) (by first | exact rfl | assumption) (by exact List.forall_mem_nil _) (by ktr_room) (by ktr_units) ?_))
  trivial
theorem stars_none {w : World} {mean : ExcName → Option Value} {mg mb : Str → Option Value} {v : Value} {h : Heap} :
    Does w mean mg mb 115 [v, .none] 30 2000 h [] (fun r h' => ∃ (a : Addr), r = .ref a ∧ TupAt h' a []) := by
  unfold Does
  w_on
  k_fill
  intro dp un gd cn cs a ccd cl outer A₀ base h₀ L m s Q E ee B F X T hk hS hd hu hret
  subst ee
  have N : News h₀ L s.heap [] := News.nil
  clear hS
  refine wpAny_call ?_
  k_dflt k_extra "q_enter"
  intro g' L' h' hk' hne' F' N' B' X' T'; (try dsimp only); (try k_fold)
  k_steps
  rename Fr _ _ _ _ => F9
  rename News _ _ _ _ => N9
  exact ⟨_, F9, fun k9 => hret _ _ _ k9 ⟨_, rfl, N9.get (.head _)⟩⟩
theorem rows_len (lo : Int) (ex : List Ex) (l : List Int) : (l.flatMap (rowOf lo ex)).length ≤ l.length * (ex.length + 3) := by
  induction l with
  | nil => simp
  | cons k l ih =>
    have h1 : (rowOf lo ex k).length ≤ ex.length + 3 := by
      unfold rowOf
      have := fw_len 4 ex
      split
      · simp
      · split
        · simp [duCells]
        · simp; omega
    rw [List.flatMap_cons, List.length_append, List.length_cons, Nat.succ_mul]
    omega
set_option maxHeartbeats 4000000 in
theorem stars_does {w : World} {mean : ExcName → Option Value} {mg mb : Str → Option Value} {v : Value} {nd : Nd} {x : Addr} {lo : Int} {h : Heap} {P : Addr → List Value → Prop} (hP : ∀ a vs, P a vs → TupAt h a vs) (hR : NdR P v nd) (ok : nd.Ok) (hD : Dsg h x lo) (hlo : -2 ≤ lo ∧ lo ≤ 2) :
    Does w mean mg mb 115 [.ref x, v] 30 2000 h [] (fun r h' => ∃ (a : Addr) (vs : List Value), r = .ref a ∧ TupAt h' a vs ∧ All2 (DuR (TupAt h')) vs (([0, 1, 2, 3, 4].filter fun k => decide (k ∈ Nd.rk nd.pre)).flatMap (rowOf lo (Nd.ex nd.pre)))) := by
  obtain ⟨xd, des, nd', aL, y0, y1, y2, y3, y4, nL, f, l, t1, t2, t3, t4, hx, gx, hl, ⟨d0, es0, n0, i0, s0⟩, ⟨d1, es1, n1, i1, s1⟩, ⟨d2, es2, n2, i2, s2⟩, ⟨d3, es3, n3, i3, s3⟩, hfl, d4, es4, n4, i4, s4⟩ := hD
  have hK : ∀ k ∈ Nd.rk nd.pre, 0 ≤ k ∧ k < 5 := fun k q => by
    obtain ⟨e, he, hk⟩ := List.mem_flatMap.mp q
    obtain ⟨e', he', hk'⟩ := List.mem_filterMap.mp hk
    exact ok.keys e' (List.mem_flatMap.mpr ⟨e, he, he'⟩) k hk'
  unfold Does
  w_on
  k_fill
  intro dp un gd cn cs a ccd cl outer A₀ base h₀ L m s Q E ee B F X T hk hS hd hu hret
  subst ee
  have N : News h₀ L s.heap [] := News.nil
  clear hS
  refine wpAny_call ?_
  k_dflt k_extra "q_enter"
  intro g' L' h' hk' hne' F' N' B' X' T'; (try dsimp only); (try k_fold)
  have hPg : ∀ a vs, P a vs → TupAt g' a vs := fun a vs x => hk' _ _ (hP _ _ x) (by simp)
  have kI : ∀ {x C dx : Addr} {od : Obj}, InstAt s.heap x (instObj C dx) C (some od) → InstAt g' x (instObj C dx) C (some od) := fun hy => ⟨hk' _ _ hy.at_ (by simp), rfl, hy.no, hk' _ _ hy.dict (by simp)⟩
  replace hx := kI hx
  replace i0 := kI i0
  replace i1 := kI i1
  replace i2 := kI i2
  replace i3 := kI i3
  replace i4 := kI i4
  have hlg : g'.get? aL = _ := hk' _ _ hl (by simp)
  clear kI hl
  obtain ⟨a, rfl⟩ := hR.isRef
  have hFo : StopFor := ⟨⟩
  k_steps
  unfold Stop
  rename Fr _ _ _ _ => F3
  rename News _ _ _ _ => N3
  obtain ⟨lA, hx1⟩ := news_hd N3
  subst hx1
  intro r h2 tk2 hKp ⟨l5, us, nn5, ns, e1, hf, hl5, hU, hso, hnd, hmem⟩
  subst e1
  refine' after (S := []) (.miss (fun _ h => nomatch h) .nil) F3 N3 hKp (fun _ h => nomatch h) (fun _ h => nomatch h) (all_one list_nt) ?_
  intro tl2 F4 N4 O4 C4 TC4 hs4
  dsimp only [List.map] at N4 O4 C4 hs4
  have hla : l5 ∉ [lA] := by (refine fresh_adr N3 hf ?_; k_extra "q_fr")
  have hns : ns = [0, 1, 2, 3, 4].filter fun k => decide (k ∈ Nd.rk nd.pre) := keys_eq hso hnd _ fun k => by
    rw [hmem, decide_eq_true_iff]
    exact ⟨fun q => ⟨hK k q, q⟩, fun q => q.2⟩
  have hn5 : ns.length ≤ 5 := nodup_len 5 ns hnd fun k q => hK k ((hmem k).mp q)
  have hex : (Nd.ex nd.pre).length ≤ 1000 := ok.tot
  have hrl : ∀ i, ((ns.take i).flatMap (rowOf lo (Nd.ex nd.pre))).length ≤ 6000 := fun i => by
    have h1 := rows_len lo (Nd.ex nd.pre) (ns.take i)
    have h2 : (ns.take i).length ≤ 5 := by rw [List.length_take]; omega
    have h3 := Nat.mul_le_mul h2 (show (Nd.ex nd.pre).length + 3 ≤ 1003 by omega)
    omega
  have hnx : ∀ i k, ns[i]? = some k → (ns.take (i + 1)).flatMap (rowOf lo (Nd.ex nd.pre)) = (ns.take i).flatMap (rowOf lo (Nd.ex nd.pre)) ++ rowOf lo (Nd.ex nd.pre) k := fun i k e => by
    rw [List.take_add_one, e, List.flatMap_append]; simp
  clear F3 N3
  k_dflt refine for_list (vs := us) (nn := nn5) (adr := [lA]) (tl₀ := tl2) (fun c : List Value × Nat => [(lA, listOf c.1.toArray c.2)]) (fun _ => [(Str.ofString "rows", .ref lA), (Str.ofString "design", .ref x), (Str.ofString "s", .ref a)])
    (fun i c h => All2 (DuR (TupAt h)) c.1 ((ns.take i).flatMap (rowOf lo (Nd.ex nd.pre)))) ([], 0) rfl hl5 hla (fun c => all_one list_nt) (fun _ => rfl) (fun _ _ _ _ hk x => x.mono fun _ _ z => z.mono hk) F4 N4 O4 ?_ .nil ?_ ?_
  · intro p hp; simp only [List.mem_cons, List.not_mem_nil, or_false] at hp; rcases hp with rfl | rfl | rfl <;> rfl
  · intro i y x91 u h3 tk3 tl3 hy F5 N5 O5 C5 TC5 hs5 hI
    (try dsimp only); (try k_fold)
    obtain ⟨cs, cn⟩ := x91
    dsimp only [pin, List.cons_append, List.nil_append] at F5 N5 O5 hI ⊢
    clear F4 N4
    obtain ⟨k, t, hk0, rfl⟩ := ints_get hU hy
    have hkK := hK k ((hmem k).mp (List.mem_of_getElem? hk0))
    have hcl : cs.length ≤ 6000 := by rw [hI.length]; exact hrl i
    have hnx1 := hnx i k hk0
    have hk5 : k < 3 ∨ k = 3 ∨ k = 4 := by omega
    rcases hk5 with hk3 | rfl | rfl
    · have hsig : ∃ (y9 d9 : Addr) (es9 : List DictEntry) (n9 : Nat), [Value.ref y0, .ref y1, .ref y2, .ref y3, .ref y4][k.toNat]? = some (.ref y9) ∧ InstAt g' y9 (instObj 167 d9) 167 (some (dictOf es9 n9)) ∧ SigEs es9 k .none .none := by
        have hk2 : k = 0 ∨ k = 1 ∨ k = 2 := by omega
        rcases hk2 with rfl | rfl | rfl
        · exact ⟨_, _, _, _, rfl, i0, s0⟩
        · exact ⟨_, _, _, _, rfl, i1, s1⟩
        · exact ⟨_, _, _, _, rfl, i2, s2⟩
      obtain ⟨y9, d9, es9, n9, hy9, i9, ⟨⟨tk1, e1⟩, ⟨tk2, e2⟩, e3, e4, e5, e6, e7⟩⟩ := hsig
      have hk0 := hkK.1
      k_steps
      rename Fr _ _ _ _ => F9
      rename News _ _ _ _ => N9
      have k5 := TC5.keep F9 N9 (fun p hp => by k_mem)
      have q9 := regroup1 (a := lA) N9 (by k_mem)
      obtain ⟨tl9, N10, O10, i10⟩ := q9
      refine FEnd.nx (cs ++ [_], cn + 1) tl9 F9 N10 (fun p hp => i10 p (by k_mem) fun e => O5 p hp lA (.head _) e) (all_three rfl rfl rfl) ?_
      show All2 _ (cs ++ [_]) _
      rw [hnx1, show rowOf lo (Nd.ex nd.pre) k = [.ex (.sig k)] from if_pos hk3]
      exact (hI.mono fun _ _ z => z.mono k5).append (.one (.ex (N9.get (by k_mem)) (.sig (N9.get (by k_mem)))))
    · have s3' := s3
      obtain ⟨⟨tk1, e1⟩, ⟨tk2, e2⟩, e3, e4, e5, e6, e7⟩ := s3'
      k_steps
      rename Fr g' L' _ _ => F7
      rename News g' L' _ _ => N7
      unfold Stop
      intro r h4 tk4 hKq ⟨a2, us2, n2, ee2, hf2, hl2, hU2⟩
      subst ee2
      refine' after (S := []) (.miss (fun _ h => nomatch h) .nil) F7 N7 hKq (fun _ h => nomatch h) (fun _ h => nomatch h) (all_one list_nt) ?_
      intro tl4 F8 N8 O8 C8 TC8 hs8
      dsimp only [List.map] at N8 O8 C8 hs8
      have hsub : ∀ p ∈ tl3, p ∈ tl4 := fun p hp => hs8 p (by k_mem) (by simp) fun q => O5 p hp _ q rfl
      have hla2 : a2 ∉ [lA] := by (refine fresh_adr N7 hf2 ?_; k_extra "q_fr")
      have hmem2 : (a2, listOf us2.toArray n2) ∈ tl4 := C8.get hl2 (old_none F7 hf2) (ns_not_obj F8.ns hl2 (fun _ _ q => by cases q)) hla2
      have hul : us2.length ≤ 3 := by rw [hU2.length]; simp [duCells]
      have k4 := TC5.keep F7 N7 (fun p hp => by k_mem)
      have k4' := kept_tup hKq (fun _ h => nomatch h)
      clear F7 N7
      k_steps
      rename Fr g' L' _ _ => F9
      rename News g' L' _ _ => N9
      have k5 := TC8.keep F9 N9 (fun p hp => by k_mem)
      refine FEnd.nx (cs ++ us2, _) tl4 F9 N9 hsub (all_three rfl rfl rfl) ?_
      show All2 _ (cs ++ us2) _
      rw [hnx1, show rowOf lo (Nd.ex nd.pre) 3 = duCells 3 lo 3 from rfl]
      exact (hI.mono fun _ _ z => z.mono ((k4.trans k4').trans k5)).append (hU2.mono fun _ _ z => z.mono k5)
    · obtain ⟨⟨tk1, e1⟩, ⟨tk2, e2⟩, e3, e4, e5, e6, e7⟩ := s4
      k_steps
      rename Fr g' L' _ _ => F7
      rename News g' L' _ _ => N7
      unfold Stop
      intro r h4 tk4 hKq ⟨a2, us2, n2, ee2, hf2, hl2, hU2⟩
      subst ee2
      refine' after (S := []) (.miss (fun _ h => nomatch h) .nil) F7 N7 hKq (fun _ h => nomatch h) (fun _ h => nomatch h) (all_one list_nt) ?_
      intro tl4 F8 N8 O8 C8 TC8 hs8
      dsimp only [List.map] at N8 O8 C8 hs8
      have hsub : ∀ p ∈ tl3, p ∈ tl4 := fun p hp => hs8 p (by k_mem) (by simp) fun q => O5 p hp _ q rfl
      have hla2 : a2 ∉ [lA] := by (refine fresh_adr N7 hf2 ?_; k_extra "q_fr")
      have k4 := TC5.keep F7 N7 (fun p hp => by k_mem)
      have k4' := kept_tup hKq (fun _ h => nomatch h)
      clear F7 N7
      k_dflt refine for_list (vs := us2) (nn := n2) (adr := [lA]) (tl₀ := tl4) (fun c : List Value × Nat => [(lA, listOf c.1.toArray c.2)]) (fun _ => [(Str.ofString "rows", .ref lA), (Str.ofString "design", .ref x), (Str.ofString "s", .ref a)])
        (fun j c h => All2 (DuR (TupAt h)) c.1 (((ns.take i).flatMap (rowOf lo (Nd.ex nd.pre))) ++ ((fw 4 (Nd.ex nd.pre)).take j).map .ex)) (cs, cn) rfl hl2 hla2 (fun c => all_one list_nt) (fun _ => rfl) (fun _ _ _ _ hk x => x.mono fun _ _ z => z.mono hk) F8 N8 O8 (all_three rfl rfl rfl)
        (by rw [List.take_zero, List.map_nil, List.append_nil]; exact hI.mono fun _ _ z => z.mono (k4.trans k4')) ?_ ?_
      · intro j y x92 u h3 tk3 tl5 hy F9 N9 O9 C9 TC9 hs9 hI
        (try dsimp only); (try k_fold)
        obtain ⟨cs, cn⟩ := x92
        dsimp only [pin, List.cons_append, List.nil_append] at F9 N9 O9 hI ⊢
        clear F8 N8
        obtain ⟨e, he, hyr⟩ := hU2.get hy
        have hfw := fw_len 4 (Nd.ex nd.pre)
        have hcl : cs.length ≤ 8000 := by
          rw [hI.length, List.length_append, List.length_map, List.length_take]
          have := hrl i
          have := Nat.min_le_right j (fw 4 (Nd.ex nd.pre)).length
          omega
        have hPn : ∀ a vs, P a vs → TupAt h3 a vs := fun a vs z => F9.keep _ _ (hPg _ _ z)
        have hX := hyr.mono hPn
        obtain ⟨ya, rfl⟩ := hyr.isRef
        k_steps
        rename Fr _ _ _ _ => Fa
        rename News _ _ _ _ => Na
        have k5 := TC9.keep Fa Na (fun p hp => by k_mem)
        obtain ⟨tl9, N10, O10, i10⟩ := regroup1 (a := lA) Na (by k_mem)
        refine FEnd.nx (cs ++ [_], cn + 1) tl9 Fa N10 (fun p hp => i10 p (by k_mem) fun e => O9 p hp lA (.head _) e) (all_three rfl rfl rfl) ?_
        show All2 _ (cs ++ [_]) _
        rw [List.take_add_one, he, List.map_append, ← List.append_assoc]
        exact (hI.mono fun _ _ z => z.mono k5).append (.one (.ex (Na.get (by k_mem)) (hX.mono k5)))
      · intro x93 u h3 tk3 tl5 F9 N9 O9 C9 TC9 hs9 hI
        (try dsimp only); (try k_fold)
        obtain ⟨cs, cn⟩ := x93
        dsimp only [pin, List.cons_append, List.nil_append] at F9 N9 O9 hI ⊢
        clear F8 N8
        k_steps
        refine FEnd.nx (cs, cn) tl5 F9 N9 (fun p hp => hs9 p (hsub p hp)) (all_three rfl rfl rfl) ?_
        show All2 _ cs _
        rw [hnx1, show rowOf lo (Nd.ex nd.pre) 4 = (fw 4 (Nd.ex nd.pre)).map .ex from rfl]
        rw [hU2.length, List.take_length] at hI
        exact hI
  · intro x94 u h3 tk3 tl3 F5 N5 O5 C5 TC5 hs5 hI
    (try dsimp only); (try k_fold)
    obtain ⟨cs, cn⟩ := x94
    dsimp only [pin, List.cons_append, List.nil_append] at F5 N5 O5 hI ⊢
    clear F4 N4
    have hcl : cs.length ≤ 6000 := by rw [hI.length]; exact hrl _
    k_steps
    rename Fr _ _ _ _ => F9
    rename News _ _ _ _ => N9
    have k5 := TC5.keep F9 N9 (fun p hp => by k_mem)
    rw [ints_len hU, List.take_length, hns] at hI
    exact ⟨_, F9, fun k9 => hret _ _ _ k9 ⟨_, cs, rfl, N9.get (.head _), hI.mono fun _ _ z => z.mono k5⟩⟩

end
section
theorem reg_A0_0 : True := by
  k_with_none
  k_with "q_enter" => (refine' enterQ (by k_asm) (by k_asm) (by k_asm) (by k_asm) (by k_asm) (by exact rfl) (by exact rfl) (by assumption) (by k_is) (by k_is) (by ktr_room) (by exact BindsTo.of_eq rfl) (by exact locs rfl) ?_ (by exact rfl) (by exact rfl) (by exact rfl) (by decide); k_whole)
  k_with "units_room" => (ktr_units)
  k_with "q_len" => (rw [PySem.sizeLine_eq]; (try simp only [List.length_append, List.length_cons, List.length_nil]); omega)
  k_with "call builtin:list.append" => (k_here; k_dflt (refine' append_L (by k_asm) (by k_asm) (by k_upd) (by k_extra "q_len") ?_; (intro h' F' N'; (try dsimp only [List.nil_append, List.cons_append] at N'))))
  k_with "call builtin:list.pop" => (k_here; k_dflt (refine' pop_L (by k_asm) (by k_asm) (by k_upd) (by k_extra "q_len") ?_; (intro h' F' N'; (try dsimp only [List.nil_append, List.cons_append] at N'))))
  k_with "truthy ref" => (k_here; k_dflt (refine' truthy_L (by k_asm) (by k_mem) (by k_extra "q_len") ?_))
  k_with "exec While" => ((have hSt := (by with_reducible assumption : StopWhile)); clear hSt; refine Stop.of ?_)
  k_with "pyIter ref" => ((have hSt := (by with_reducible assumption : StopFor)); clear hSt; refine Stop.of ?_)
  k_with "call type:reversed" => (k_here; k_dflt (refine' rvt_L (by k_asm) (by k_asm) (by exact isTup_now (News.get (by assumption) (by k_mem))) (by ((try simp only [List.length_cons, List.length_nil]); omega)) ?_; (intro I' h' tk' F' N' l1; (try k_lt l1))))
  k_with "call builtin:list.extend" => (k_here; k_dflt (refine' extend_L (by k_asm) (by k_asm) (by (intro o'; k_upd)) (by first | assumption | exact News.get (by assumption) (by k_mem)) (by k_extra "q_len") ?_; (intro h' n' F' N'; (try dsimp only [List.nil_append, List.cons_append] at N'))))
  k_with "call type:list" => (k_here; k_dflt (refine' listT_L (by k_asm) (by k_asm) (by first | exact isTup_P (by assumption) (by assumption) (by assumption) | exact isTup_base (by assumption) (by assumption)) (by k_extra "q_len") ?_; (intro D' c' h' F' N' l1; (try k_lt l1))))
  k_with "exec For" => ((have hSt := (by with_reducible assumption : StopFor)); clear hSt; k_here; (rename Fr _ _ _ _ => lF'); (with_unfolding_all refine' For_invVF lF' (by exact rfl) (by exact rfl) ?_; k_whole))
  k_with "CompSrcT" => (k_here; (have hSt := (by with_reducible assumption : StopComp)); clear hSt; k_dflt (refine LCt.CompSrcT.ledger (by rfl) (by k_asm) (by k_asm) (by k_mem) (by (try rw [List.size_toArray]); k_extra "q_len") ?_); refine Stop.of ?_)
  k_with "CompSrc" => (k_here; (have hSt := (by with_reducible assumption : StopComp)); clear hSt; k_dflt (refine LCg.CompSrc.ledger (by rfl) (by k_asm) (by k_asm) (by k_mem) (by (try rw [List.size_toArray]); k_extra "q_len") ?_); refine Stop.of ?_)
  k_with "CompEnd" => ((have hSt := (by with_reducible assumption : StopComp)); clear hSt; refine Stop.of ?_)
  k_with "q_clean" => ((repeat (with_reducible rename Fr _ _ _ _ => hz; clear hz)); (repeat (with_reducible rename News _ _ _ _ => hz; clear hz)); (repeat (with_reducible rename _ ∧ _ => hz; clear hz)); (repeat (with_reducible rename @LT.lt Nat _ _ _ => hz; clear hz)); (repeat (with_reducible rename OwnOff _ _ => hz; clear hz)); (repeat (with_reducible rename Cov _ _ _ _ _ => hz; clear hz)); (repeat (with_reducible rename TCov _ _ _ => hz; clear hz)); (repeat (with_reducible rename _ ∈ _ => hz; clear hz)); (repeat (with_reducible rename SigEs _ _ _ _ => hz; clear hz)); (repeat (with_reducible rename ∀ p ∈ _, p ∈ _ => hz; clear hz)); (repeat (with_reducible rename @Ne Nat _ _ => hz; clear hz)); (repeat (with_reducible rename getL _ _ = _ => hz; clear hz)); (repeat (with_reducible rename _ = Data.cell _ => hz; clear hz)); (repeat (with_reducible rename StopFor => hz; clear hz)); (repeat (with_reducible rename Kept _ _ _ => hz; clear hz)); (repeat (with_reducible rename Heap.get? _ _ = _ => hz; clear hz)); (repeat (with_reducible rename @LE.le Nat _ _ _ => hz; clear hz)); (repeat (with_reducible rename IsRange _ _ _ _ _ _ _ _ => hz; clear hz)); (repeat (with_reducible rename Obj.IsDictOf _ _ _ => hz; clear hz)); (repeat (with_reducible rename AllLt _ _ => hz; clear hz)); (repeat (with_reducible rename IntsAre _ _ => hz; clear hz)); (repeat (with_reducible rename PyProof.V.FlatPairs _ _ _ => hz; clear hz)); (repeat (with_reducible rename Heap.IsList _ _ _ => hz; clear hz)); (repeat (with_reducible rename ReadsAll _ _ _ _ => hz; clear hz)); (repeat (with_reducible rename @LT.lt Int _ _ _ => hz; clear hz)); (repeat (with_reducible rename @LE.le Int _ _ _ => hz; clear hz)); (repeat (with_reducible rename _ ∨ _ => hz; clear hz)))
  k_with "q_no" => (exact notin2' (by k_ne) (by k_ne))
  k_with "q_fr" => (first | exact List.forall_mem_nil _ | (refine List.forall_mem_cons.mpr ⟨⟨_, by k_mem⟩, ?_⟩; k_extra "q_fr"))
  k_with "k_ne" => (refine neN ?_; (try dsimp only); k_extra "ne")
  k_with "ne" => (first | with_reducible assumption | exact Nat.ne_of_lt (AllLt.get (by with_reducible assumption) (by k_mem)) | exact Nat.ne_of_gt (AllLt.get (by with_reducible assumption) (by k_mem)) | exact Ne.symm (by with_reducible assumption) | exact Nat.ne_of_gt (AllLt.get2 (by with_reducible assumption) (by with_reducible assumption) (by k_mem)) | exact Nat.ne_of_lt (AllLt.get2 (by with_reducible assumption) (by with_reducible assumption) (by k_mem)) | exact Nat.ne_of_lt (by with_reducible assumption) | exact Nat.ne_of_gt (by with_reducible assumption) | omega)
  k_with "subscriptTail" => (k_here; k_dflt (refine' item_tupleT (by first | exact isTup_P (by assumption) (by assumption) (by assumption) | exact isTup_base (by assumption) (by assumption) | exact isTup_now (by assumption)) (by decide) (by decide) (by rfl) (by rfl) ?_; k_whole))
  k_with "k_steps" => ((try k_fold); repeat' (first | (k_unfold; (try dsimp only)) | (k_end; wrow_close) | walk1 | (dsimp only; walk1) | (leave1; walk_say "STEP leave1"; try dsimp only) | fail "no step"))
  k_with "k_memR" => (first | with_reducible exact List.mem_cons_self .. | with_reducible assumption | (with_reducible refine List.mem_cons_of_mem _ ?_; k_extra "k_memR"))
  k_with "k_memD" => (first | exact List.mem_cons_self .. | with_reducible assumption | (refine List.mem_cons_of_mem _ ?_; k_extra "k_memD"))
  k_with "k_mem" => (first | k_extra "k_memR" | k_extra "k_memD")
  k_with "k_all" => (first | exact List.forall_mem_nil _ | ((with_reducible refine' List.forall_mem_cons.mpr (And.intro ?_ ?_)); k_ne; k_all) | with_reducible assumption | exact OwnOff.ne (by with_reducible assumption) (by k_extra "k_memR") | exact allLt_ne (by with_reducible assumption) | exact allLt_nes (by with_reducible assumption) (by intro p9 hp9; k_extra "k_memR") | exact OwnOff.ne (by assumption) (by k_mem) | ((refine' List.forall_mem_cons.mpr (And.intro ?_ ?_)); k_ne; k_all) | exact allLt_nes (by with_reducible assumption) (by intro p9 hp9; k_mem))
  trivial
theorem reg_A0_1 : True := by
  k_with "k_inst" => (refine' inst_keep (by k_asm) (by with_reducible assumption))
  k_with "k_inst" => (refine' InstAt.of_news (by k_asm) (by k_mem) (by k_mem))
  k_with "k_inst" => (refine' inst_keep (by k_asm) (inst_keep (by with_reducible assumption) (by with_reducible assumption)))
  k_with "k_get" => (with_reducible assumption)
  k_with "call builtin:len" => (k_here; k_dflt (refine' len_L (by k_asm) (by k_mem) (by omega) ?_))
  k_with "call ref" => (k_here; (try dsimp only [List.cons_append, List.nil_append]); (with_reducible show wpAny _ _ (call (Value.ref 167) _) _ _ _); k_dflt (refine' call_cls (by k_asm) (by k_asm) (by k_asm) (by k_is) (by k_is) (by k_is) ?_; k_whole; intro x' d' h' F' N' l1 l2; (try k_lt l1); (try k_lt2 l2); refine' code_def (by k_asm) (by k_asm) (by k_asm) (by k_asm) (by k_asm) (by exact rfl) (by exact rfl) (by first | exact rfl | assumption) (by k_is) (by k_is) (by ktr_room) (by exact BindsTo.of_eq (binds := [(Str.ofString "self", _), (Str.ofString "key", _), (Str.ofString "path", _), (Str.ofString "kind", _), (Str.ofString "width", _), (Str.ofString "signed", _), (Str.ofString "msb", _), (Str.ofString "lsb", _)]) rfl) (by exact locs rfl) ?_ (by exact rfl) (by exact rfl) (by exact rfl) (by decide); k_whole; intro g' L' h' FG' F' N' B' X' T'; (try dsimp only); (try simp only [List.reverse_cons, List.reverse_nil, List.nil_append, List.cons_append, lk_cons, List.lookup_nil] at F'); (try k_lift B'); (try k_fold)))
  k_with "setItem ref str" => (k_here; k_dflt (refine' setItem_K PyProof.V.same_str (PySem.strKind_is _ _ _ _) (PyProof.V.Flat.int _ _) (by k_asm) (by k_asm) (by k_updF) (by assumption) (by assumption) ?_ (by (rw [PySem.sizeLine_eq]; omega))); intro h' o' F' N' hdN' hfN')
  trivial
theorem stored_len {kvs : List (Str × Value)} {k : Str} {v : Value} : (PySem.stored kvs k v).length ≤ kvs.length + 1 := by
  unfold PySem.stored; split <;> simp
set_option maxHeartbeats 4000000 in
theorem addsig_does {w : World} {mean : ExcName → Option Value} {mg mb : Str → Option Value} {x xd aL aP : Addr} {des : List DictEntry} {nd : Nat} {vs : List Value} {n : Nat} {o : Obj} {kvs : List (Str × Value)} {D : List (PyData × PyData)} {p : Str} {t1 t2 t3 t4 t5 t6 : Tok} {h : Heap}
    (hx : InstAt h x (instObj 230 xd) 230 (some (dictOf des nd))) (gs : getL (Str.ofString "signals") des = some (some (.ref aL))) (gp : getL (Str.ofString "by_path") des = some (some (.ref aP)))
    (hL : h.get? aL = some (listOf vs.toArray n)) (hvl : vs.length ≤ 100) (hP : h.get? aP = some o) (hd : o.IsDictOf (PySem.strKind PySem.Challenge.rw_on0116_01.row.prog w) kvs) (hf : PyProof.V.FlatPairs PyData.str kvs D) (hDl : kvs.length ≤ 100) (hne : @Ne Nat aL aP) (hne2 : @Ne Nat xd aP) :
    Does w mean mg mb 192 [.ref x, .str p t1, .str (Str.ofString "reg") t2, .int 4 t3, .bool false, .int 3 t4, .int 0 t5, .int (-1) t6] 12 300 h [aL, aP] (fun r h' => ∃ (y yd : Addr) (es : List DictEntry) (k : Nat) (o' : Obj) (kvs' : List (Str × Value)) (D' : List (PyData × PyData)) (n' : Nat), r = .ref y ∧ h.get? y = none ∧ h.get? yd = none ∧
      InstAt h' y (instObj 167 yd) 167 (some (dictOf es k)) ∧ SigEs es vs.length .none .none ∧ h'.get? aL = some (listOf (vs ++ [Value.ref y]).toArray n') ∧ h'.get? aP = some o' ∧ o'.IsDictOf (PySem.strKind PySem.Challenge.rw_on0116_01.row.prog w) kvs' ∧ PyProof.V.FlatPairs PyData.str kvs' D' ∧ kvs'.length ≤ kvs.length + 1) := by
  unfold Does
  w_on
  k_fill
  intro dp un gd cn cs a ccd cl outer A₀ base h₀ L m s Q E ee B F X T hk hS hdp hu hret
  subst ee
  have N : News h₀ L s.heap [(aL, listOf vs.toArray n), (aP, o)] := news_of (by simpa using hS) (by simpa using ⟨hL, hP⟩)
  have hxS : x ∉ [aL, aP] ∧ xd ∉ [aL, aP] := by
    have hoc : o.cls = .type "dict" := by
      obtain ⟨_, _, h, _⟩ := hd
      exact h.1
    have ne1 : ∀ {b : Addr} {o' : Obj}, s.heap.get? b = some o' → o'.cls ≠ .type "list" → b ≠ aL := fun e hc q => by
      rw [q, hL] at e; exact hc (by rw [← Option.some.inj e])
    have ne2 : ∀ {b : Addr} {o' : Obj}, s.heap.get? b = some o' → o'.cls ≠ .type "dict" → b ≠ aP := fun e hc q => by
      rw [q, hP] at e; exact hc (by rw [← Option.some.inj e]; exact hoc)
    simp only [List.mem_cons, List.not_mem_nil, or_false, not_or]
    refine ⟨⟨ne1 hx.at_ (by intro q; cases q), ne2 hx.at_ (by intro q; cases q)⟩, ne1 (o' := dictOf des nd) hx.dict (by show ¬ (Value.type "dict" = Value.type "list"); decide), hne2⟩
  clear hS
  refine wpAny_call ?_
  k_dflt (refine' enterQ ?k1 ?k2 ?k3 ?k4 ?k5 ?kA ?kF ?kK ?k6 ?k7 ?k8 ?k9 ?kB ?_ ?c2 ?c3 ?c4 ?c5; (case kA => exact rfl); (case kF => exact rfl); (case kK => assumption); (case k1 => k_asm); (case k2 => k_asm); (case k3 => k_asm); (case k4 => k_asm); (case k5 => k_asm); (case k6 => k_is); (case k7 => k_is); (case k8 => ktr_room); (case k9 => exact BindsTo.of_eq (binds := [(Str.ofString "self", _), (Str.ofString "path", _), (Str.ofString "kind", _), (Str.ofString "width", _), (Str.ofString "signed", _), (Str.ofString "msb", _), (Str.ofString "lsb", _), (Str.ofString "at", _)]) rfl); (case c5 => decide); (case kB => exact locs rfl); (case c2 => exact rfl); (case c3 => exact rfl); (case c4 => exact rfl); k_whole)
  intro g' L' h' hk' hne' F' N' B' X' T'; (try dsimp only); (try simp only [List.reverse_cons, List.reverse_nil, List.nil_append, List.cons_append, lk_cons, List.lookup_nil] at F'); (try k_fold)
  have hxg : InstAt g' x (instObj 230 xd) 230 (some (dictOf des nd)) := ⟨hk' _ _ hx.at_ hxS.1, rfl, hx.no, hk' _ _ hx.dict hxS.2⟩
  clear hx
  have hDk := hf.length
  k_steps
  replace l1 := And.intro (AllLt.get l1 (.head _)) (AllLt.get l1 (.tail _ (.head _)))
  rename Fr _ _ _ _ => F9
  rename News _ _ _ _ => N9
  rename PyProof.V.FlatPairs _ (PySem.stored _ _ _) _ => hf9
  rename Obj.IsDictOf _ _ (PySem.stored _ _ _) => hd9
  refine ⟨_, F9, fun k9 => hret _ _ _ k9 ⟨_, _, _, _, _, _, _, _, rfl, fresh_of hk' N9 (.head _) ?_, fresh_of hk' N9 (.tail _ (.head _)) ?_, InstAt.of_news N9 (.head _) (.tail _ (.head _)), ⟨⟨_, by k_get⟩, ⟨_, by k_get⟩, by k_get, by k_get, by k_get, by k_get, Nat.le_of_ble_eq_true rfl⟩, N9.get (by k_mem), N9.get (by k_mem), hd9, hf9, stored_len⟩⟩
  all_goals
    have l3 := And.intro l1 l2
    clear hDk hdp hu
    intro q
    simp only [List.map_cons, List.map_nil, List.mem_cons, List.not_mem_nil, or_false] at q
    rcases q with q | q
    · have q' : (_ : Nat) = aL := q
      omega
    · have q' : (_ : Nat) = aP := q
      omega

end
section
noncomputable def PT (tl : List (Addr × Obj)) (a : Addr) (vs : List Value) : Prop := (a, tup vs) ∈ tl
theorem PT.mono {tl tl' : List (Addr × Obj)} (hs : ∀ p ∈ tl, p ∈ tl') : ∀ a vs, PT tl a vs → PT tl' a vs := fun _ _ x => hs _ x
theorem afterC {P : Prop} {g h h' : Heap} {L : Addr} {m : Str → Option Value} {news : List (Addr × Obj)} {nf : List (Addr × Obj) → List (Addr × Obj)} {S : List (Addr × Obj)} (Sw : Swap S news nf)
    (F : Fr g L h m) (N : News g L h news) (K : Kept (S.map (·.1)) h h') (hS : ∀ p ∈ S, h'.get? p.1 = some p.2) (hSN : ∀ p ∈ S, g.get? p.1 = none ∧ p.1 ≠ L)
    (k : ∀ tl, Fr g L h' m → News g L h' (nf tl) → OwnOff tl ((nf []).map (·.1)) → Cov g L ((nf []).map (·.1)) h' tl → (∀ p ∈ news, p.1 ∉ S.map (·.1) → p.1 ∉ (nf []).map (·.1) → p ∈ tl) → P) : P := by
  have F' : Fr g L h' m := K.fr F fun b hb => by
    obtain ⟨p, hp, rfl⟩ := List.mem_map.mp hb
    exact hSN p hp
  have N0 : News g L h' (nf []) := fun p hp => by
    rcases Sw.from p hp with q | ⟨q, n⟩
    · exact ⟨hS p q, (hSN p q).2, (hSN p q).1⟩
    · exact ⟨K _ _ (fun hb => by
        obtain ⟨p', hp', e⟩ := List.mem_map.mp hb
        exact n p' hp' e) (N p q).1, (N p q).2⟩
  refine k (Rest g h' L ((nf []).map (·.1))) F' ?_ ?_ (cov_Rest F' _) ?_
  · rw [Sw.app]
    intro p hp
    rcases List.mem_append.mp hp with q | q
    · exact N0 p q
    · obtain ⟨a, b, c, _⟩ := mem_Rest.mp q
      exact ⟨a, c, b⟩
  · intro p hp b hb e
    exact (mem_Rest.mp hp).2.2.2 (e ▸ hb)
  · intro p hp n1 n2
    exact mem_Rest.mpr ⟨K _ _ n1 (N p hp).1, (N p hp).2.2, (N p hp).2.1, n2⟩
theorem off3_of {I C D : Addr} : ∀ {tl : List (Addr × Obj)}, (∀ p ∈ tl, @Ne Nat p.1 I ∧ @Ne Nat p.1 C ∧ @Ne Nat p.1 D) → LCg.Off3 I C D tl
  | [], _ => trivial
  | p :: r, h => ⟨h p (.head _), off3_of fun q hq => h q (.tail _ hq)⟩
noncomputable def JInner (aM c3 l : Addr) (om : Obj) (tl : List (Addr × Obj)) (i : Nat) (ys : List Value) (nw : List (Addr × Obj)) : Prop :=
  ∃ (us : List Value) (n : Nat) (ns : List Int) (ms : List Value) (nM : Nat) (tl' : List (Addr × Obj)) (sts : List St), nw = (aM, listOf ms.toArray nM) :: (c3, om) :: (l, listOf us.toArray n) :: tl' ∧ IntsAre us ns ∧ ns.length ≤ 70 ∧ OwnOff tl' [aM, c3, l] ∧ (∀ p ∈ tl, p ∈ tl') ∧
    All2 (StR (PT tl')) ys sts ∧ All2 (ExR (PT tl')) ms (sts.flatMap St.seen) ∧ sts.length = i ∧ ∀ st ∈ sts, st.Good ∧ st.lev ≤ 1
theorem inner_turn {g h h4 : Heap} {L I C D aM c3 l : Addr} {m : Str → Option Value} {oI oC om : Obj} {ys us us' ms ms' : List Value} {n n' nM nM' i : Nat} {ns' : List Int} {tl tl' : List (Addr × Obj)} {sts : List St} {st : St} {r : Value} {s : Shared} {tk4 : Nat}
    (F : Fr g L h m) (N : News g L h ((I, oI) :: (C, oC) :: (D, LCg.lst ys) :: (aM, listOf ms.toArray nM) :: (c3, om) :: (l, listOf us.toArray n) :: tl')) (off : LCg.Off3 I C D ((aM, listOf ms.toArray nM) :: (c3, om) :: (l, listOf us.toArray n) :: tl'))
    (n1 : @Ne Nat aM c3) (n2 : @Ne Nat aM l) (n3 : @Ne Nat c3 l) (O : OwnOff tl' [aM, c3, l]) (hsub : ∀ p ∈ tl, p ∈ tl') (hA : All2 (StR (PT tl')) ys sts) (hB : All2 (ExR (PT tl')) ms (sts.flatMap St.seen)) (hl : sts.length = i) (hG : ∀ st ∈ sts, st.Good ∧ st.lev ≤ 1)
    (hK : Kept [l, aM] h h4) (hr : StR (FT h h4) r st) (gR : h4.get? l = some (listOf us'.toArray n')) (hI : IntsAre us' ns') (hl' : ns'.length ≤ 70) (gM : h4.get? aM = some (listOf (ms ++ ms').toArray nM')) (hS : All2 (ExR (FT h h4)) ms' st.seen) (hg : st.Good) (hv : st.lev ≤ 1) :
    LCg.CompEnd g L m s I oI C oC D (LCg.lst ys) (fun _ => True) (fun y nw' => JInner aM c3 l om tl (i + 1) (ys ++ [y]) nw') r { s with heap := h4, toks := tk4 } := by
  obtain ⟨⟨i1, i2, i3⟩, ⟨j1, j2, j3⟩, ⟨k1, k2, k3⟩, offT⟩ := off
  have neI : ∀ {a b : Addr}, @Ne Nat a b → a ≠ b := fun z => z
  have nl : g.get? l = none ∧ l ≠ L := news_none N (.tail _ (.tail _ (.tail _ (.tail _ (.tail _ (.head _))))))
  have nm : g.get? aM = none ∧ aM ≠ L := news_none N (.tail _ (.tail _ (.tail _ (.head _))))
  refine' afterC (S := [(l, listOf us'.toArray n'), (aM, listOf (ms ++ ms').toArray nM')])
    (.miss (all_two k1 i1) (.miss (all_two k2 i2) (.miss (all_two k3 i3) (.hit (.tail _ (.head _)) (.miss (all_two (fun q => n3 q.symm) n1) (.hit (.head _) .nil)))))) F N hK (all_two gR gM) (all_two nl nm) ?_
  intro tl4 F8 N8 O8 C8 hs8
  dsimp only [List.map] at N8 O8 C8 hs8
  have hs4 : ∀ p ∈ tl', p ∈ tl4 := fun p hp => by
    obtain ⟨a1, a2, a3⟩ := offT.mem p hp
    refine hs8 p (by simp [hp]) ?_ ?_
    · intro q
      simp only [List.mem_cons, List.not_mem_nil, or_false] at q
      rcases q with q | q
      · exact O p hp l (by simp) q
      · exact O p hp aM (by simp) q
    · intro q
      simp only [List.mem_cons, List.not_mem_nil, or_false] at q
      rcases q with q | q | q | q | q | q
      · exact a1 q
      · exact a2 q
      · exact a3 q
      · exact O p hp aM (by simp) q
      · exact O p hp c3 (by simp) q
      · exact O p hp l (by simp) q
  have fp : ∀ a vs, FT h h4 a vs → PT tl4 a vs := fun a vs x => by
    refine C8.get x.1 (old_none F x.2) (fresh_ne_L F x.2) ?_
    intro q
    simp only [List.mem_cons, List.not_mem_nil, or_false] at q
    have bad : ∀ {o : Obj}, (a, o) ∈ ((I, oI) :: (C, oC) :: (D, LCg.lst ys) :: (aM, listOf ms.toArray nM) :: (c3, om) :: (l, listOf us.toArray n) :: tl') → False := fun hm => by
      have := (N _ hm).1
      rw [x.2] at this
      cases this
    rcases q with rfl | rfl | rfl | rfl | rfl | rfl
    · exact bad (.head _)
    · exact bad (.tail _ (.head _))
    · exact bad (.tail _ (.tail _ (.head _)))
    · exact bad (.tail _ (.tail _ (.tail _ (.head _))))
    · exact bad (.tail _ (.tail _ (.tail _ (.tail _ (.head _)))))
    · exact bad (.tail _ (.tail _ (.tail _ (.tail _ (.tail _ (.head _))))))
  refine ⟨h4, tk4, _, rfl, F8, N8, ⟨⟨i1, i2, i3⟩, ⟨j1, j2, j3⟩, ⟨k1, k2, k3⟩, off3_of fun p hp => ⟨fun q => O8 p hp I (by simp) q, fun q => O8 p hp C (by simp) q, fun q => O8 p hp D (by simp) q⟩⟩, trivial,
    us', n', ns', ms ++ ms', nM', tl4, sts ++ [st], rfl, hI, hl', fun p hp b hb q => O8 p hp b (by
      simp only [List.mem_cons, List.not_mem_nil, or_false] at hb ⊢
      rcases hb with rfl | rfl | rfl <;> simp) q, fun p hp => hs4 p (hsub p hp), (hA.mono fun _ _ z => z.mono (PT.mono hs4)).append (.one (hr.mono fp)), ?_, by rw [List.length_append, hl]; rfl, ?_⟩
  · rw [List.flatMap_append]
    simp only [List.flatMap_cons, List.flatMap_nil, List.append_nil]
    exact (hB.mono fun _ _ z => z.mono (PT.mono hs4)).append (hS.mono fun _ _ z => z.mono fp)
  · intro z hz
    rcases List.mem_append.mp hz with q | q
    · exact hG z q
    · rw [List.mem_singleton.mp q]; exact ⟨hg, hv⟩
theorem seen_sum : ∀ (sts : List St), (∀ st ∈ sts, st.Good ∧ st.lev ≤ 1) → (sts.flatMap St.seen).length ≤ 23 * sts.length
  | [], _ => by simp
  | s :: r, h => by
    have a := seen_sum r fun z hz => h z (.tail _ hz)
    have b := St.seen1 s (h s (.head _)).1 (h s (.head _)).2
    simp only [List.flatMap_cons, List.length_append, List.length_cons]
    omega
theorem own3 {tl : List (Addr × Obj)} {aM c3 l : Addr} (O : OwnOff tl [c3, l]) (h : AllLt aM tl) : OwnOff tl [aM, c3, l] := fun p hp b hb q => by
  rcases List.mem_cons.mp hb with rfl | hb
  · exact allLt_ne h p hp q
  · exact O p hp b hb q
inductive PackD (g : Heap) (L x c2 c3 : Addr) (lo : Int) (h : Heap) : Prop
  | mk (W S aM lE e0 e1 : Addr) (ck om : Obj) (vk : Option Value) (ms : List Value) (nM nE : Nat) (t1 t2 : Tok) (tl dl : List (Addr × Obj)) (sts : List St) (u : Str → Option Value)
    (_ : Fr g L h (pin [(Str.ofString "design", .ref x), (Str.ofString "ends", .ref lE), (Str.ofString "statement", .ref S), (Str.ofString "words", .ref W)] u))
    (_ : News g L h ((W, listOf (List.toArray []) 0) :: tl))
    (_ : OwnOff tl [W])
    (_ : (c2, ck) ∈ tl)
    (_ : (c3, om) ∈ tl)
    (_ : (aM, listOf ms.toArray nM) ∈ tl)
    (_ : (lE, listOf (List.toArray [Value.ref e0, .ref e1]) nE) ∈ tl)
    (_ : (e0, tup [.int lo t1, .int 2 t2]) ∈ tl)
    (_ : (∀ p ∈ dl, p ∈ tl))
    (_ : (∀ h', (∀ p ∈ dl, h'.get? p.1 = some p.2) → Dsg h' x lo))
    (_ : (∀ p ∈ dl, ∀ v, p.2.data ≠ .cell v))
    (_ : ck.data = .cell vk)
    (_ : om.data = .cell (some (.ref aM)))
    (_ : NdR (PT tl) (.ref S) (.blk sts))
    (_ : All2 (ExR (PT tl)) ms (sts.flatMap St.seen))
    (_ : (∀ st ∈ sts, st.Good ∧ st.lev ≤ 1))
    (_ : sts.length ≤ 4)
    (_ : @Ne Nat W c2)
    (_ : (-2 ≤ lo ∧ lo ≤ 2)) : PackD g L x c2 c3 lo h
theorem lawD {g h : Heap} {L x c2 c3 W S T aM lE e0 e1 : Addr} {m : Str → Option Value} {ck om : Obj} {vk : Option Value} {ys ms : List Value} {nM nE : Nat} {t1 t2 t3 t4 : Tok} {lo : Int} {tl' news dl : List (Addr × Obj)} {sts : List St}
    (F : Fr g L h m) (p1 : m (Str.ofString "design") = some (.ref x)) (p2 : m (Str.ofString "ends") = some (.ref lE)) (p3 : m (Str.ofString "statement") = some (.ref S)) (p4 : m (Str.ofString "words") = some (.ref W))
    (N : News g L h news) (mW : (W, listOf (List.toArray []) 0) ∈ news) (mc2 : (c2, ck) ∈ news) (mc3 : (c3, om) ∈ news) (mM : (aM, listOf ms.toArray nM) ∈ news) (mE : (lE, listOf (List.toArray [Value.ref e0, .ref e1]) nE) ∈ news) (me0 : (e0, tup [.int lo t1, .int 2 t2]) ∈ news)
    (mS : (S, tup [.str (Str.ofString "block") t3, .ref T, .int (-1) t4]) ∈ news) (mT : (T, tup ys) ∈ news) (hs : ∀ p ∈ tl', p ∈ news) (hWt : ∀ p ∈ tl', p.1 ≠ W) (hdl : ∀ p ∈ dl, p ∈ tl') (hdsg : ∀ h', (∀ p ∈ dl, h'.get? p.1 = some p.2) → Dsg h' x lo) (hdc : ∀ p ∈ dl, ∀ v, p.2.data ≠ .cell v)
    (h2 : ck.data = .cell vk) (h3 : om.data = .cell (some (.ref aM))) (hA : All2 (StR (PT tl')) ys sts) (hB : All2 (ExR (PT tl')) ms (sts.flatMap St.seen)) (hG : ∀ st ∈ sts, st.Good ∧ st.lev ≤ 1) (hl : sts.length ≤ 4) (hlo : -2 ≤ lo ∧ lo ≤ 2)
    (q1 : @Ne Nat c3 c2) (q2 : @Ne Nat aM W) (q3 : @Ne Nat lE W) : PackD g L x c2 c3 lo h := by
  have gW := N _ mW
  have g2 := N _ mc2
  have cN : ∀ {a : Addr} {o : Obj}, (a, o) ∈ news → (∀ v, o.data ≠ .cell v) → @Ne Nat a c2 := fun hm z => ne_get (N _ hm).1 g2.1 (cellNE h2 z)
  have lN : ∀ {a : Addr} {o : Obj}, (a, o) ∈ news → o.cls ≠ .type "list" → @Ne Nat a W := fun hm z => ne_get (N _ hm).1 gW.1 (listNE z)
  have lC : ∀ {a : Addr} {o : Obj} {v : Option Value}, (a, o) ∈ news → o.data = .cell v → @Ne Nat a W := fun hm z => (ne_get gW.1 (N _ hm).1 (cellNE z fun v q => by cases q)).symm
  obtain ⟨tl2, N1, O1, t1'⟩ := regroup (g := g) (h := h) (L := L) [(W, listOf (List.toArray []) 0)] (by
    intro p hp
    simp only [List.mem_cons, List.not_mem_nil, or_false] at hp
    subst hp
    exact gW)
  have up : ∀ {a : Addr} {o : Obj}, (a, o) ∈ news → @Ne Nat a W → (a, o) ∈ tl2 := fun hm z1 => t1' _ (N _ hm).1 (N _ hm).2.2 (N _ hm).2.1 (by
    simp only [List.map_cons, List.map_nil, List.mem_singleton]; exact z1)
  have upT : ∀ {a : Addr} {vs : List Value}, (a, tup vs) ∈ news → (a, tup vs) ∈ tl2 := fun hm => up hm (lN hm (by show ¬ (Value.type "tuple" = Value.type "list"); decide))
  have pt : ∀ a vs, PT tl' a vs → PT tl2 a vs := fun a vs z => upT (hs _ z)
  refine ⟨W, S, aM, lE, e0, e1, ck, om, vk, ms, nM, nE, t1, t2, tl2, dl, sts, m, ?_, N1, O1, up mc2 (lC mc2 h2), up mc3 (lC mc3 h3), up mM q2, up mE q3, upT me0, fun p hp => ?_, hdsg, hdc, h2, h3,
    .blk (upT mS) (upT mT) (hA.mono fun _ _ z => z.mono pt), hB.mono fun _ _ z => z.mono pt, hG, hl, (lC mc2 h2).symm, hlo⟩
  · refine pins_fr F ?_
    intro p hp
    simp only [List.mem_cons, List.not_mem_nil, or_false] at hp
    rcases hp with rfl | rfl | rfl | rfl <;> assumption
  · exact up (hs _ (hdl p hp)) (hWt _ (hdl p hp))
noncomputable def isWd : Ex → Bool
  | .word _ _ => true
  | _ => false
noncomputable def wAll (l : List Ex) : List Ex := (l.filter isWd).foldl addNew []
theorem wAll_snoc (l : List Ex) (e : Ex) : wAll (l ++ [e]) = if isWd e then addNew (wAll l) e else wAll l := by
  unfold wAll
  rw [List.filter_append, List.foldl_append, List.filter_cons]
  split <;> rfl
theorem wAll_len (l : List Ex) : (wAll l).length ≤ l.length := by
  have a := fold_len (l.filter isWd) []
  have b := List.length_filter_le isWd l
  unfold wAll
  simp only [List.length_nil] at a
  omega
theorem pre_dep : ∀ (e : Ex) (d : Ex), d ∈ e.pre → d.dep ≤ e.dep := by
  intro e
  induction e with
  | const c => intro d h; simp [Ex.pre] at h; subst h; exact Nat.le_refl _
  | sig c => intro d h; simp [Ex.pre] at h; subst h; exact Nat.le_refl _
  | word k i ih =>
    intro d h
    simp only [Ex.pre, List.mem_cons] at h
    rcases h with rfl | h
    · exact Nat.le_refl _
    · have := ih d h; simp only [Ex.dep]; omega
  | bin l r i1 i2 =>
    intro d h
    simp only [Ex.pre, List.mem_cons, List.mem_append] at h
    rcases h with rfl | h | h
    · exact Nat.le_refl _
    · have := i1 d h; simp only [Ex.dep]; omega
    · have := i2 d h; simp only [Ex.dep]; omega
theorem seen_dep1 {e : Ex} {n : Nat} (h : e.dep ≤ n) : ∀ d ∈ seen e, d.dep ≤ n := fun d hd => Nat.le_trans (pre_dep e d (List.mem_filter.mp hd).1) h
theorem St.seen_dep : ∀ (s : St), s.Good → ∀ d ∈ s.seen, d.dep ≤ 3
  | .set _ v, g, d, h => seen_dep1 g.2 d h
  | .nba _ v i, g, d, h => by
    rcases List.mem_append.mp h with q | q
    · exact seen_dep1 g.1.2 d q
    · exact Nat.le_trans (seen_dep1 g.2.2 d q) (by decide)
  | .ite t a, g, d, h => by
    rcases List.mem_append.mp h with q | q
    · exact Nat.le_trans (seen_dep1 g.1.2 d q) (by decide)
    · exact St.seen_dep a g.2 d q
  | .itee t a b, g, d, h => by
    rcases List.mem_append.mp h with q | q
    · exact Nat.le_trans (seen_dep1 g.1.2 d q) (by decide)
    · rcases List.mem_append.mp q with q | q
      · exact St.seen_dep a g.2.1 d q
      · exact St.seen_dep b g.2.2 d q
theorem seen_dep {sts : List St} (hG : ∀ st ∈ sts, st.Good ∧ st.lev ≤ 1) : ∀ e ∈ sts.flatMap St.seen, e.dep ≤ 20 := fun e he => by
  obtain ⟨s, hs, h⟩ := List.mem_flatMap.mp he
  exact Nat.le_trans (St.seen_dep s (hG s hs).1 e h) (by decide)
theorem all_four {α : Type} {P : α → Prop} {a b c d : α} (ha : P a) (hb : P b) (hc : P c) (hd : P d) : ∀ p ∈ [a, b, c, d], P p := by
  intro z hz
  simp only [List.mem_cons, List.not_mem_nil, or_false] at hz
  rcases hz with rfl | rfl | rfl | rfl <;> assumption
inductive PackE (g : Heap) (L x c2 c3 : Addr) (lo : Int) (h : Heap) : Prop
  | mk (W S aM lE e0 e1 : Addr) (ck om : Obj) (vk : Option Value) (ms ws : List Value) (nM nE nW : Nat) (t1 t2 : Tok) (tl dl : List (Addr × Obj)) (sts : List St) (u : Str → Option Value)
    (_ : Fr g L h (pin [(Str.ofString "design", .ref x), (Str.ofString "ends", .ref lE), (Str.ofString "statement", .ref S), (Str.ofString "words", .ref W)] u))
    (_ : News g L h ((c2, ck) :: tl))
    (_ : OwnOff tl [c2])
    (_ : (W, listOf ws.toArray nW) ∈ tl)
    (_ : (c3, om) ∈ tl)
    (_ : (aM, listOf ms.toArray nM) ∈ tl)
    (_ : (lE, listOf (List.toArray [Value.ref e0, .ref e1]) nE) ∈ tl)
    (_ : (e0, tup [.int lo t1, .int 2 t2]) ∈ tl)
    (_ : (∀ p ∈ dl, p ∈ tl))
    (_ : (∀ h', (∀ p ∈ dl, h'.get? p.1 = some p.2) → Dsg h' x lo))
    (_ : (∀ p ∈ dl, ∀ v, p.2.data ≠ .cell v))
    (_ : ck.data = .cell vk)
    (_ : om.data = .cell (some (.ref aM)))
    (_ : NdR (PT tl) (.ref S) (.blk sts))
    (_ : All2 (ExR (PT tl)) ms (sts.flatMap St.seen))
    (_ : All2 (ExR (PT tl)) ws (wAll (sts.flatMap St.seen)))
    (_ : (∀ st ∈ sts, st.Good ∧ st.lev ≤ 1))
    (_ : sts.length ≤ 4)
    (_ : (-2 ≤ lo ∧ lo ≤ 2)) : PackE g L x c2 c3 lo h
theorem lawE {g h : Heap} {L x c2 c3 W S aM lE e0 e1 : Addr} {u : Str → Option Value} {ck om : Obj} {vk : Option Value} {ms ws : List Value} {nM nE nW : Nat} {t1 t2 : Tok} {lo : Int} {tl tl3 dl : List (Addr × Obj)} {sts : List St}
    (F : Fr g L h (fun y => if y = Str.ofString "design" then some (.ref x) else if y = Str.ofString "ends" then some (.ref lE) else if y = Str.ofString "statement" then some (.ref S) else if y = Str.ofString "words" then some (.ref W) else u y)) (N : News g L h ((W, listOf ws.toArray nW) :: tl3)) (hs : ∀ p ∈ tl, p ∈ tl3)
    (m2 : (c2, ck) ∈ tl) (m3 : (c3, om) ∈ tl) (mM : (aM, listOf ms.toArray nM) ∈ tl) (mE : (lE, listOf (List.toArray [Value.ref e0, .ref e1]) nE) ∈ tl) (me0 : (e0, tup [.int lo t1, .int 2 t2]) ∈ tl)
    (hdl : ∀ p ∈ dl, p ∈ tl) (hdsg : ∀ h', (∀ p ∈ dl, h'.get? p.1 = some p.2) → Dsg h' x lo) (hdc : ∀ p ∈ dl, ∀ v, p.2.data ≠ .cell v) (h2 : ck.data = .cell vk) (h3 : om.data = .cell (some (.ref aM)))
    (hA : NdR (PT tl) (.ref S) (.blk sts)) (hB : All2 (ExR (PT tl)) ms (sts.flatMap St.seen)) (hG : ∀ st ∈ sts, st.Good ∧ st.lev ≤ 1) (hl : sts.length ≤ 4) (hlo : -2 ≤ lo ∧ lo ≤ 2) (hI : All2 (ExR (PT tl)) ws (wAll (sts.flatMap St.seen))) (q1 : @Ne Nat c3 c2) : PackE g L x c2 c3 lo h := by
  have nn : ∀ {a : Addr} {o : Obj}, (a, o) ∈ tl → (a, o) ∈ ((W, listOf ws.toArray nW) :: tl3) := fun hm => .tail _ (hs _ hm)
  have g2 := N _ (nn m2)
  obtain ⟨tl2, N1, O1, t1'⟩ := regroup1 (a := c2) N (nn m2)
  have cN : ∀ {a : Addr} {o : Obj}, (a, o) ∈ ((W, listOf ws.toArray nW) :: tl3) → (∀ v, o.data ≠ .cell v) → (a, o) ∈ tl2 := fun hm z => t1' _ hm (ne_get (N _ hm).1 g2.1 (cellNE h2 z))
  have pt : ∀ a vs, PT tl a vs → PT tl2 a vs := fun a vs z => cN (nn z) fun v q => by cases q
  exact ⟨W, S, aM, lE, e0, e1, ck, om, vk, ms, ws, nM, nE, nW, t1, t2, tl2, dl, sts, u, F, N1, O1, cN (.head _) (fun v q => by cases q), t1' _ (nn m3) q1, cN (nn mM) (fun v q => by cases q), cN (nn mE) (fun v q => by cases q), cN (nn me0) (fun v q => by cases q),
    fun p hp => cN (nn (hdl p hp)) (hdc p hp), hdsg, hdc, h2, h3, hA.mono pt, hB.mono fun _ _ z => z.mono pt, hI.mono fun _ _ z => z.mono pt, hG, hl, hlo⟩
noncomputable def selV (key : Int) : List Value → List Ex → List Value
  | v :: vs, e :: es => if isW key e then v :: selV key vs es else selV key vs es
  | _, _ => []
theorem selV_snoc (key : Int) : ∀ (vs : List Value) (es : List Ex) (v : Value) (e : Ex), vs.length = es.length → selV key (vs ++ [v]) (es ++ [e]) = selV key vs es ++ (if isW key e then [v] else [])
  | [], [], v, e, _ => by simp only [List.nil_append, selV]
  | [], _ :: _, _, _, h => by simp at h
  | _ :: _, [], _, _, h => by simp at h
  | v' :: vs, e' :: es, v, e, h => by
    have ih := selV_snoc key vs es v e (by simpa using h)
    simp only [List.cons_append, selV, ih]
    split <;> simp
theorem selV_all {P : Addr → List Value → Prop} (key : Int) {vs : List Value} {es : List Ex} (h : All2 (ExR P) vs es) : All2 (ExR P) (selV key vs es) (es.filter (isW key)) := by
  induction h with
  | nil => exact .nil
  | @cons v d vs ds a _ ih =>
    simp only [selV, List.filter_cons]
    split
    · exact .cons a ih
    · exact ih
theorem fw_wAll (key : Int) (l : List Ex) : (wAll l).filter (isW key) = fw key l := by
  unfold wAll fw
  rw [filter_fold]
  congr 1
  rw [List.filter_filter]
  apply List.filter_congr
  intro e _
  cases e <;> simp [isW, isWd]
theorem isW_sw (key : Int) (e : Ex) (h : isW key e = true) : e.isSW = true := by cases e <;> simp [isW, Ex.isSW] at h ⊢
theorem fw_seen (key : Int) (l : List Ex) : fw key (l.filter Ex.isSW) = fw key l := by
  unfold fw
  rw [List.filter_filter]
  congr 1
  apply List.filter_congr
  intro e _
  by_cases h : isW key e = true
  · rw [h, isW_sw key e h]; rfl
  · simp [h]
theorem St.ex_seen (s : St) : (Nd.ex (s.pre.map Nd.one)).filter Ex.isSW = s.seen := by
  induction s with
  | set k v => simp [St.pre, Nd.ex, Nd.exprs, St.seen, Mine.seen]
  | nba k v i => simp [St.pre, Nd.ex, Nd.exprs, St.seen, Mine.seen, List.filter_append]
  | ite t a ih =>
    simp only [St.seen]
    rw [← ih]
    simp [St.pre, Nd.ex, Nd.exprs, Mine.seen, List.filter_append]
  | itee t a b i1 i2 =>
    simp only [St.seen]
    rw [← i1, ← i2]
    simp [St.pre, Nd.ex, Nd.exprs, Mine.seen, List.filter_append]
theorem ex_app (a b : List Nd) : Nd.ex (a ++ b) = Nd.ex a ++ Nd.ex b := by simp [Nd.ex]
theorem blk_seen (sts : List St) : (Nd.ex (Nd.pre (.blk sts))).filter Ex.isSW = sts.flatMap St.seen := by
  have h : ∀ l : List St, (Nd.ex ((l.flatMap St.pre).map Nd.one)).filter Ex.isSW = l.flatMap St.seen := by
    intro l
    induction l with
    | nil => rfl
    | cons s r ih =>
      rw [List.flatMap_cons, List.map_append, ex_app, List.filter_append, ih, St.ex_seen, List.flatMap_cons]
  have e : Nd.ex (Nd.pre (.blk sts)) = Nd.ex ((sts.flatMap St.pre).map Nd.one) := by
    simp [Nd.pre, Nd.ex, Nd.exprs]
  rw [e, h]
noncomputable def St.exs : St → List Ex
  | .set _ v => v.pre
  | .nba _ v i => v.pre ++ i.pre
  | .ite t a => t.pre ++ a.exs
  | .itee t a b => t.pre ++ (a.exs ++ b.exs)
theorem St.exs_eq (s : St) : Nd.ex (s.pre.map Nd.one) = s.exs := by
  induction s with
  | set k v => simp [St.pre, Nd.ex, Nd.exprs, St.exs]
  | nba k v i => simp [St.pre, Nd.ex, Nd.exprs, St.exs]
  | ite t a ih => simp only [St.exs]; rw [← ih]; simp [St.pre, Nd.ex, Nd.exprs]
  | itee t a b i1 i2 => simp only [St.exs]; rw [← i1, ← i2]; simp [St.pre, Nd.ex, Nd.exprs]
theorem blk_exs (sts : List St) : Nd.ex (Nd.pre (.blk sts)) = sts.flatMap St.exs := by
  have h : ∀ l : List St, Nd.ex ((l.flatMap St.pre).map Nd.one) = l.flatMap St.exs := by
    intro l
    induction l with
    | nil => rfl
    | cons s r ih => rw [List.flatMap_cons, List.map_append, ex_app, ih, St.exs_eq, List.flatMap_cons]
  have e : Nd.ex (Nd.pre (.blk sts)) = Nd.ex ((sts.flatMap St.pre).map Nd.one) := by
    simp [Nd.pre, Nd.ex, Nd.exprs]
  rw [e, h]
theorem Ex.Good.keys : ∀ (e : Ex), e.Good → ∀ d ∈ e.pre, ∀ k, rkey d = some k → 0 ≤ k ∧ k < 5 := by
  intro e
  induction e with
  | const c => intro _ d h k q; simp [Ex.pre] at h; subst h; cases q
  | sig c => intro g d h k q; simp [Ex.pre] at h; subst h; cases q; have := g.1; have := g.2; omega
  | word c i ih =>
    intro g d h k q
    simp only [Ex.pre, List.mem_cons] at h
    rcases h with rfl | h
    · cases q; have := g.1.1; have := g.1.2; omega
    · exact ih g.2 d h k q
  | bin l r i1 i2 =>
    intro g d h k q
    simp only [Ex.pre, List.mem_cons, List.mem_append] at h
    rcases h with rfl | h | h
    · cases q
    · exact i1 g.1 d h k q
    · exact i2 g.2 d h k q
theorem pre3 {e : Ex} (h : e.dep ≤ 3) : e.pre.length ≤ 7 := by have := dep_pre e 3 h; omega
theorem pre2 {e : Ex} (h : e.dep ≤ 2) : e.pre.length ≤ 3 := by have := dep_pre e 2 h; omega
theorem St.exs0 (s : St) (g : s.Good) (h : s.lev ≤ 0) : s.exs.length ≤ 10 ∧ s.pre.length ≤ 1 := by
  cases s with
  | set k v => have := pre3 g.2; simp only [St.exs, St.pre, List.length_cons, List.length_nil]; omega
  | nba k v i => have a := pre3 g.1.2; have b := pre2 g.2.2; simp only [St.exs, St.pre, List.length_append, List.length_cons, List.length_nil]; omega
  | ite t a => simp only [St.lev] at h; omega
  | itee t a b => simp only [St.lev] at h; omega
theorem St.exs1 (s : St) (g : s.Good) (h : s.lev ≤ 1) : s.exs.length ≤ 23 ∧ s.pre.length ≤ 3 := by
  cases s with
  | set k v => have := pre3 g.2; simp only [St.exs, St.pre, List.length_cons, List.length_nil]; omega
  | nba k v i => have a := pre3 g.1.2; have b := pre2 g.2.2; simp only [St.exs, St.pre, List.length_append, List.length_cons, List.length_nil]; omega
  | ite t a => simp only [St.lev] at h; have x := pre2 g.1.2; have y := St.exs0 _ g.2 (by omega); simp only [St.exs, St.pre, List.length_append, List.length_cons]; omega
  | itee t a b => simp only [St.lev] at h; have x := pre2 g.1.2; have y := St.exs0 _ g.2.1 (by omega); have z := St.exs0 _ g.2.2 (by omega); simp only [St.exs, St.pre, List.length_append, List.length_cons]; omega
theorem St.exs_all : ∀ (s : St), s.Good → ∀ d ∈ s.exs, d.dep ≤ 3 ∧ ∀ k, rkey d = some k → 0 ≤ k ∧ k < 5
  | .set _ v, g, d, h => ⟨Nat.le_trans (pre_dep v d h) g.2, fun k q => Ex.Good.keys v g.1 d h k q⟩
  | .nba _ v i, g, d, h => by
    rcases List.mem_append.mp h with q | q
    · exact ⟨Nat.le_trans (pre_dep v d q) g.1.2, fun k z => Ex.Good.keys v g.1.1 d q k z⟩
    · exact ⟨Nat.le_trans (pre_dep i d q) (Nat.le_trans g.2.2 (by decide)), fun k z => Ex.Good.keys i g.2.1 d q k z⟩
  | .ite t a, g, d, h => by
    rcases List.mem_append.mp h with q | q
    · exact ⟨Nat.le_trans (pre_dep t d q) (Nat.le_trans g.1.2 (by decide)), fun k z => Ex.Good.keys t g.1.1 d q k z⟩
    · exact St.exs_all a g.2 d q
  | .itee t a b, g, d, h => by
    rcases List.mem_append.mp h with q | q
    · exact ⟨Nat.le_trans (pre_dep t d q) (Nat.le_trans g.1.2 (by decide)), fun k z => Ex.Good.keys t g.1.1 d q k z⟩
    · rcases List.mem_append.mp q with q | q
      · exact St.exs_all a g.2.1 d q
      · exact St.exs_all b g.2.2 d q
theorem sum_exs : ∀ (sts : List St), (∀ st ∈ sts, st.Good ∧ st.lev ≤ 1) → (sts.flatMap St.exs).length ≤ 23 * sts.length ∧ (sts.flatMap St.pre).length ≤ 3 * sts.length
  | [], _ => by simp
  | s :: r, h => by
    have a := sum_exs r fun z hz => h z (.tail _ hz)
    have b := St.exs1 s (h s (.head _)).1 (h s (.head _)).2
    simp only [List.flatMap_cons, List.length_append, List.length_cons]
    omega
theorem nd_ok {sts : List St} (hG : ∀ st ∈ sts, st.Good ∧ st.lev ≤ 1) (hl : sts.length ≤ 4) : Nd.Ok (.blk sts) := by
  have hs := sum_exs sts hG
  have hall : ∀ e ∈ Nd.ex (Nd.pre (.blk sts)), e.dep ≤ 3 ∧ ∀ k, rkey e = some k → 0 ≤ k ∧ k < 5 := fun e he => by
    rw [blk_exs] at he
    obtain ⟨s, hs, h⟩ := List.mem_flatMap.mp he
    exact St.exs_all s (hG s hs).1 e h
  refine ⟨?_, ?_, ?_, fun e he => (hall e he).2, fun e he => Nat.le_trans (hall e he).1 (by decide)⟩
  · simp only [Nd.pre, List.length_cons, List.length_map]; omega
  · intro d hd
    simp only [Nd.pre, List.mem_cons, List.mem_map] at hd
    rcases hd with rfl | ⟨s, _, rfl⟩
    · simp only [Nd.kids, List.length_map]; exact hl
    · cases s <;> simp [Nd.kids, St.kids]
  · rw [blk_exs]; omega
noncomputable abbrev ledC (c2 : Addr) (c : CellO) : List (Addr × Obj) := [(c2, c.1)]
theorem ledC_nt (c2 : Addr) (c : CellO) : ∀ p ∈ ledC c2 c, ∀ vs, p.2 ≠ tup vs := by
  intro p hp
  rw [List.mem_singleton.mp hp]
  obtain ⟨v, e⟩ := c.2
  exact cellNT e
theorem wAll_wd (l : List Ex) (e : Ex) (h : e ∈ wAll l) : isWd e = true := by
  unfold wAll at h
  rcases (mem_fold _ _ _).mp h with q | q
  · cases q
  · exact (List.mem_filter.mp q).2
theorem exs_shaped {es : List Ex} (h : ∀ e ∈ es, e.dep ≤ 20) : PySem.SeqAt.shaped (.list (es.map exP)) = true := by
  unfold PySem.SeqAt.shaped
  rw [Bool.and_eq_true, decide_eq_true_iff]
  have := exPs_dep 20 es h
  refine ⟨exPs_lay es, ?_⟩
  simp only [PyData.depth]
  omega
theorem eqvAll_exs : ∀ (es : List Ex), PyData.eqvAll (es.map exP) (es.map exP) = true
  | [] => eqv_n
  | e :: es => by rw [List.map_cons, eqv_c, (exP_eqv e e).mpr rfl, eqvAll_exs es]; rfl
section
variable {prog : Program} {w : World} {A : Around} {E : Value → Shared → Prop} {s : Shared} {h₀ : Heap} {L a b : Addr} {news : List (Addr × Obj)} {xs ys : List Value} {es : List Ex} {c d : Nat} {Q : Value → Shared → Prop}
theorem ne_exs (N : News h₀ L s.heap news) (ma : (a, listOf xs.toArray c) ∈ news) (mb : (b, listOf ys.toArray d) ∈ news) (Da : All2 (ExR (TupAt s.heap)) xs es) (Db : All2 (ExR (TupAt s.heap)) ys es) (hd : ∀ e ∈ es, e.dep ≤ 20) (hu : A.units + 64 < cLine)
    (h : Q (.bool false) s) : wpAny (model prog w) A (compareOp .NotEq (.ref a) (.ref b)) Q E s := by
  obtain ⟨as, ra⟩ := exs_reads Da
  obtain ⟨bs, rb⟩ := exs_reads Db
  refine ne_dataH (reads_list_at (N.get ma) rfl rfl (by simpa using ra)) (reads_list_at (N.get mb) rfl rfl (by simpa using rb)) (exs_shaped hd) (exs_shaped hd) hu ?_
  have : PyData.eqv (.list (es.map exP)) (.list (es.map exP)) = true := by
    simp only [PyData.eqv]; exact eqvAll_exs es
  rw [this]
  exact h
end
theorem fw_mem {key : Int} {l : List Ex} {e : Ex} (h : e ∈ fw key l) : e ∈ l := by
  unfold fw at h
  rcases (mem_fold _ _ _).mp h with q | q
  · cases q
  · exact (List.mem_filter.mp q).1
theorem selV_full {key : Int} {ws : List Value} {es : List Ex} (h : ws.length = es.length) : selV key (ws.take ws.toArray.size) (es.take ws.toArray.size) = selV key ws es := by
  have hsz : ws.toArray.size = ws.length := by simp
  rw [hsz, List.take_length, h, List.take_length]
noncomputable abbrev L6S := CellO × List Value × Nat
noncomputable abbrev led6 (c2 dA : Addr) (c : L6S) : List (Addr × Obj) := [(c2, c.1.1), (dA, listOf c.2.1.toArray c.2.2)]
theorem led6_nt (c2 dA : Addr) (c : L6S) : ∀ p ∈ led6 c2 dA c, ∀ vs, p.2 ≠ tup vs := by
  intro p hp
  simp only [List.mem_cons, List.not_mem_nil, or_false] at hp
  rcases hp with rfl | rfl
  · obtain ⟨v, e⟩ := c.1.2; exact cellNT e
  · exact listNT
noncomputable def ksTo (rk : List Int) (i : Nat) : List Int := ((List.range i).map fun j : Nat => (j : Int)).filter fun k => decide (k ∈ rk)
theorem ksTo_succ (rk : List Int) (i : Nat) : ksTo rk (i + 1) = ksTo rk i ++ (if (i : Int) ∈ rk then [(i : Int)] else []) := by
  unfold ksTo
  rw [List.range_succ, List.map_append, List.filter_append]
  congr 1
  simp only [List.map_cons, List.map_nil, List.filter_cons, List.filter_nil, decide_eq_true_eq]
theorem ksTo_five (rk : List Int) : ksTo rk 5 = [0, 1, 2, 3, 4].filter fun k => decide (k ∈ rk) := rfl
theorem rk_seen (sts : List St) (k : Int) : k ∈ Nd.rk (Nd.pre (.blk sts)) ↔ k ∈ (sts.flatMap St.seen).filterMap rkey := by
  rw [← blk_seen]
  unfold Nd.rk
  constructor
  · intro h
    obtain ⟨e, he, hk⟩ := List.mem_flatMap.mp h
    obtain ⟨d, hd, hr⟩ := List.mem_filterMap.mp hk
    refine List.mem_filterMap.mpr ⟨d, List.mem_filter.mpr ⟨List.mem_flatMap.mpr ⟨e, he, hd⟩, ?_⟩, hr⟩
    cases d <;> simp [rkey, Ex.isSW] at hr ⊢
  · intro h
    obtain ⟨d, hd, hr⟩ := List.mem_filterMap.mp h
    obtain ⟨hd, _⟩ := List.mem_filter.mp hd
    obtain ⟨e, he, hd⟩ := List.mem_flatMap.mp hd
    exact List.mem_flatMap.mpr ⟨e, he, List.mem_filterMap.mpr ⟨d, hd, hr⟩⟩
theorem seen_sw (sts : List St) : ∀ e ∈ sts.flatMap St.seen, e.isSW = true := fun e he => by
  rw [← blk_seen] at he
  exact (List.mem_filter.mp he).2
noncomputable def inv6 (lo : Int) (ex : List Ex) (rk : List Int) (i : Nat) (c : L6S) (h : Heap) : Prop := All2 (DuR (TupAt h)) c.2.1 ((ksTo rk i).flatMap (rowOf lo ex))
theorem all_five {α : Type} {P : α → Prop} {a b c d e : α} (ha : P a) (hb : P b) (hc : P c) (hd : P d) (he : P e) : ∀ p ∈ [a, b, c, d, e], P p := by
  intro z hz
  simp only [List.mem_cons, List.not_mem_nil, or_false] at hz
  rcases hz with rfl | rfl | rfl | rfl | rfl <;> assumption
noncomputable def pins6 (x lE S W dA : Addr) (_ : L6S) : List (Str × Value) := [(Str.ofString "design", .ref x), (Str.ofString "ends", .ref lE), (Str.ofString "statement", .ref S), (Str.ofString "words", .ref W), (Str.ofString "due", .ref dA)]
theorem all_swap {P : Addr × Obj → Prop} {a b : Addr × Obj} {tl : List (Addr × Obj)} (h : ∀ p ∈ a :: b :: tl, P p) : ∀ p ∈ [b, a] ++ tl, P p := fun p hp => by
  rcases List.mem_append.mp hp with q | q
  · rcases List.mem_cons.mp q with rfl | q
    · exact h _ (.tail _ (.head _))
    · rw [List.mem_singleton.mp q]; exact h _ (.head _)
  · exact h p (.tail _ (.tail _ q))
theorem own6 {tl : List (Addr × Obj)} {c2 dA : Addr} (O : OwnOff tl [c2]) (h : AllLt dA tl) : OwnOff tl [c2, dA] := fun p hp b hb q => by
  simp only [List.mem_cons, List.not_mem_nil, or_false] at hb
  rcases hb with rfl | rfl
  · exact O p hp b (.head _) q
  · exact allLt_ne h p hp q
noncomputable abbrev inv6m {lo : Int} {e0 : Addr} {t1 t2 : Tok} {tl : List (Addr × Obj)} (_ : (e0, tup [.int lo t1, .int 2 t2]) ∈ tl) (ex : List Ex) (rk : List Int) (i : Nat) (c : L6S) (h : Heap) : Prop := inv6 lo ex rk i c h
noncomputable def JK (N : List (Addr × Obj)) (l : List Ex) (i : Nat) (ys : List Value) (nw : List (Addr × Obj)) : Prop := IntsAre ys ((l.take i).filterMap rkey) ∧ nw = N
theorem ints_lay (ks : List Int) : PyData.canLayAll0 (ks.map PyData.int) = true := by
  induction ks with
  | nil => rfl
  | cons k ks ih => show ((PyData.int k).canLay0 && PyData.canLayAll0 (ks.map PyData.int)) = true; rw [ih]; rfl
theorem ints_reads {h : Heap} {vs : List Value} {ks : List Int} (x : IntsAre vs ks) : ∃ as, ReadsAll h vs (ks.map PyData.int) as := by
  induction x with
  | nil => exact ⟨_, .nil⟩
  | cons k t _ ih => obtain ⟨as, r⟩ := ih; exact ⟨_, .cons (.int _ _) r⟩
theorem ints_any (ks : List Int) (k : Int) : ((ks.map PyData.int).any fun y => PyData.eqv y (.int k)) = decide (k ∈ ks) := by
  rw [Bool.eq_iff_iff, decide_eq_true_iff, List.any_map, List.any_eq_true]
  constructor
  · rintro ⟨d, hd, q⟩
    have q' : PyData.eqv (.int d) (.int k) = true := q
    rw [eqv_i, beq_iff_eq] at q'
    rw [← q']; exact hd
  · exact fun h => ⟨k, h, by show PyData.eqv (.int k) (.int k) = true; rw [eqv_i]; exact beq_self_eq_true k⟩
theorem ints_depth (ks : List Int) : PyData.depthAll (ks.map PyData.int) ≤ 1 := by
  induction ks with
  | nil => simp [PyData.depthAll]
  | cons k ks ih => simp only [List.map_cons, PyData.depthAll, PyData.depth]; omega
section
variable {prog : Program} {w : World} {A : Around} {E : Value → Shared → Prop} {s : Shared} {h₀ : Heap} {L a : Addr} {news : List (Addr × Obj)} {xs : List Value} {ks : List Int} {c : Nat} {k : Int} {t : Tok} {Q : Value → Shared → Prop}
theorem notin_int (N : News h₀ L s.heap news) (ma : (a, listOf xs.toArray c) ∈ news) (Da : IntsAre xs ks) (hu : A.units + 64 < cLine)
    (h : Q (.bool (!decide (k ∈ ks))) s) : wpAny (model prog w) A (compareOp .NotIn (.int k t) (.ref a)) Q E s := by
  obtain ⟨as, ra⟩ := ints_reads (h := s.heap) Da
  refine SeqAt.notIn_list_reads (reads_list_at (N.get ma) rfl rfl (by simpa using ra)) (.int k t) (ints_lay ks) rfl ?_ (by rw [ints_any]; exact h)
  have := Nat.min_le_left (PyData.depthAll (ks.map PyData.int)) (PyData.int k).depth
  have := ints_depth ks
  omega
end

end
section
noncomputable def duP : Du → PyData
  | .ex e => .tuple [.str (Str.ofString "any"), exP e]
  | .cell k i => .tuple [.str (Str.ofString "any"), .tuple [.str (Str.ofString "word"), .int 4, .int k, .tuple [.str (Str.ofString "const"), .int 32, .int (i % 4294967296), .int 0], .bool true]]
noncomputable def Du.low : Du → Prop
  | .ex e => e.dep ≤ 20
  | .cell _ _ => True
theorem DuR.reads {h : Heap} {v : Value} {d : Du} (x : DuR (TupAt h) v d) : ∃ as, Reads h v (duP d) as := by
  cases x with
  | ex a b => obtain ⟨as, r⟩ := b.reads; exact ⟨_, reads_tup a (.cons (.str _ _) (.cons r .nil))⟩
  | cell a b c => exact ⟨_, reads_tup a (.cons (.str _ _) (.cons (reads_tup b (.cons (.str _ _) (.cons (.int _ _) (.cons (.int _ _) (.cons (reads_tup c (.cons (.str _ _) (.cons (.int _ _) (.cons (.int _ _) (.cons (.int _ _) .nil))))) (.cons (.bool _) .nil)))))) .nil))⟩
theorem dus_reads {h : Heap} {vs : List Value} {ds : List Du} (x : All2 (DuR (TupAt h)) vs ds) : ∃ as, ReadsAll h vs (ds.map duP) as := by
  induction x with
  | nil => exact ⟨_, .nil⟩
  | cons a _ ih => obtain ⟨as, r⟩ := a.reads; obtain ⟨bs, q⟩ := ih; exact ⟨_, .cons r q⟩
theorem so_any : PyData.strOk (Str.ofString "any") = true := by decide +kernel
theorem duP_lay (d : Du) : (duP d).canLay0 = true := by
  cases d with
  | ex e => simp only [duP, PyData.canLayAll0, PyData.canLay0, so_any, exP_lay, Bool.and_self]
  | cell k i => simp only [duP, PyData.canLayAll0, PyData.canLay0, so_any, so_word, so_const, Bool.and_self]
theorem duPs_lay (ds : List Du) : PyData.canLayAll0 (ds.map duP) = true := by
  induction ds with
  | nil => rfl
  | cons e es ih => show ((duP e).canLay0 && PyData.canLayAll0 (es.map duP)) = true; rw [duP_lay, ih]; rfl
theorem duP_dep (d : Du) (h : d.low) : (duP d).depth ≤ 21 := by
  cases d with
  | ex e =>
    have h1 : e.dep ≤ 20 := h
    simp only [duP, PyData.depth, PyData.depthAll, exP_dep, Nat.zero_max, Nat.max_zero]
    omega
  | cell k i =>
    simp only [duP, PyData.depth, PyData.depthAll, Nat.zero_max, Nat.max_zero]
    decide
theorem duPs_dep (ds : List Du) (h : ∀ d ∈ ds, d.low) : PyData.depthAll (ds.map duP) ≤ 21 := by
  induction ds with
  | nil => simp [PyData.depthAll]
  | cons e es ih =>
    have h1 := duP_dep e (h e (.head _))
    have h2 := ih fun x hx => h x (.tail _ hx)
    simp only [List.map_cons, PyData.depthAll]
    omega
theorem duP_eqv (d : Du) : PyData.eqv (duP d) (duP d) = true := by
  cases d with
  | ex e => simp only [duP, eqv_t, eqv_c, eqv_s, eqv_n, (exP_eqv e e).mpr rfl, beq_self_eq_true, Bool.and_self]
  | cell k i => simp only [duP, eqv_t, eqv_c, eqv_s, eqv_i, eqv_b, eqv_n, beq_self_eq_true, Bool.and_self]
theorem eqvAll_dus : ∀ (ds : List Du), PyData.eqvAll (ds.map duP) (ds.map duP) = true
  | [] => eqv_n
  | e :: es => by rw [List.map_cons, eqv_c, duP_eqv e, eqvAll_dus es]; rfl
theorem dus_shaped {ds : List Du} (h : ∀ d ∈ ds, d.low) : PySem.SeqAt.shaped (.tuple (ds.map duP)) = true := by
  unfold PySem.SeqAt.shaped
  rw [Bool.and_eq_true, decide_eq_true_iff]
  have := duPs_dep ds h
  refine ⟨duPs_lay ds, ?_⟩
  simp only [PyData.depth]
  omega
theorem rowOf_low {lo k : Int} {ex : List Ex} (h : ∀ e ∈ ex, e.dep ≤ 20) : ∀ d ∈ rowOf lo ex k, d.low := by
  intro d hd
  unfold rowOf at hd
  split at hd
  · rw [List.mem_singleton.mp hd]; exact (by decide : (1 : Nat) ≤ 20)
  · split at hd
    · obtain ⟨j, _, rfl⟩ := List.mem_map.mp hd; trivial
    · obtain ⟨e, he, rfl⟩ := List.mem_map.mp hd; exact h e (fw_mem he)
theorem rows_low {lo : Int} {ex : List Ex} {ks : List Int} (h : ∀ e ∈ ex, e.dep ≤ 20) : ∀ d ∈ ks.flatMap (rowOf lo ex), d.low := by
  intro d hd
  obtain ⟨k, _, hk⟩ := List.mem_flatMap.mp hd
  exact rowOf_low h d hk
section
variable {prog : Program} {w : World} {A : Around} {E : Value → Shared → Prop} {s : Shared} {a b : Addr} {xs ys : List Value} {ds : List Du} {Q : Value → Shared → Prop}
theorem eq_dus (ta : TupAt s.heap a xs) (tb : TupAt s.heap b ys) (Da : All2 (DuR (TupAt s.heap)) xs ds) (Db : All2 (DuR (TupAt s.heap)) ys ds) (hd : ∀ d ∈ ds, d.low) (hu : A.units + 64 < cLine)
    (h : Q (.bool true) s) : wpAny (model prog w) A (compareOp .Eq (.ref a) (.ref b)) Q E s := by
  obtain ⟨as, ra⟩ := dus_reads Da
  obtain ⟨bs, rb⟩ := dus_reads Db
  refine eq_dataH (reads_tup ta ra) (reads_tup tb rb) (dus_shaped hd) (dus_shaped hd) hu ?_
  have : PyData.eqv (.tuple (ds.map duP)) (.tuple (ds.map duP)) = true := by
    simp only [PyData.eqv]; exact eqvAll_dus ds
  rw [this]
  exact h
end
section
variable {prog : Program} {w : World} {A : Around} {E : Value → Shared → Prop} {s : Shared} {h₀ : Heap} {L : Addr} {m : Str → Option Value}
theorem inplace_iadd {a b : Value} {Q : Value → Shared → Prop} (ha : s.TypeIs a "list") (hb : s.TypeIs b "list")
    (hc : wpAny (model prog w) A (call (.builtin "list.__iadd__") [a, b]) Q E s) : wpAny (model prog w) A (inplaceOp .Add a b) Q E s := by
  unfold inplaceOp
  refine wpAny_holding ?_
  have hlk : typeLookup (.type "list") (dunderI "add") = pure (some (.builtin "list.__iadd__")) := PySem.F.slot_list_iadd.lookup
  have hsq : isSeqSlot (some (.builtin "list.__iadd__")) = true := by decide +kernel
  have hfi : fillsInplaceSlot (.type "list") "add" (Operator.Add == .Add) = pure false := by
    unfold fillsInplaceSlot
    show (typeLookup (.type "list") (dunderI "add") >>= fun fi => pure (fi.isSome && !isSeqSlot fi)) = pure false
    rw [hlk]
    show (pure (Option.isSome (some (Value.builtin "list.__iadd__")) && !isSeqSlot (some (Value.builtin "list.__iadd__"))) : Sem Bool) = pure false
    rw [hsq]; rfl
  have hsi : seqSlot? (.type "list") (dunderI "add") = pure (some (.builtin "list.__iadd__")) := PySem.seqSlot_of PySem.F.slot_list_iadd.lookup (by decide +kernel)
  refine wpAny_bind (wpAny_typeOf ha (wpAny_bind (wpAny_of_eq hfi ?_)))
  show wpAny _ A (if false = true then _ else _) Q E s
  rw [if_neg Bool.false_ne_true]
  refine wpAny_bind (binaryOp1_none (nm := "add") ha hb noFill_list_add ?_)
  refine wpAny_bind (wpAny_of_eq hsi ?_)
  exact wpAny_bind (wpAny_rule hc)
theorem iadd_in {D b : Addr} {ys : List Value} {n n2 : Nat} {its2 : Array Value} {own rest : List (Addr × Obj)} {Q : Value → Shared → Prop}
    (F : Fr h₀ L s.heap m) (N : News h₀ L s.heap (own ++ (D, { cls := .type "list", data := .seq ys.toArray n }) :: rest)) (hown : ∀ p ∈ own, p.1 ≠ D) (hap : ∀ p ∈ rest, p.1 ≠ D)
    (hb : s.heap.get? b = some { cls := .type "list", data := .seq its2 n2 })
    (h : ∀ h' n', Fr h₀ L h' m → News h₀ L h' (own ++ (D, { cls := .type "list", data := .seq (ys ++ its2.toList).toArray n' }) :: rest) → Q (.ref D) { s with heap := h' })
    (hsz : ys.length + its2.size ≤ sizeLine) :
    wpAny (model prog w) A (inplaceOp .Add (.ref D) (.ref b)) Q E s := by
  have hm := N _ (List.mem_append_right own (List.Mem.head rest))
  have hsz' : ys.toArray.size + its2.size ≤ sizeLine := by rw [List.size_toArray]; exact hsz
  refine inplace_iadd ⟨_, hm.1, rfl⟩ ⟨_, hb, rfl⟩ ?_
  refine call_meets PySem.F.slot_list_iadd ⟨_, hm.1, rfl⟩ PySem.F.entry_list_iadd (PySem.F.args_list_iadd_2 _ _) (AutoSeq1.list___iadd___list_list_0 D ys.toArray n b its2 n2 (extend_door hsz') (Nat.le_trans (Nat.le_add_right _ _) hsz') (Nat.le_succ_of_le hsz')) ⟨hm.1, hb, ?_⟩
  have e : ys.toArray ++ its2 = (ys ++ its2.toList).toArray := by simp
  have ho' : (s.heap.update D (Obj.mapSeq fun x => x ++ its2)).get? D = some { cls := .type "list", data := .seq (ys ++ its2.toList).toArray (if (ys.toArray ++ its2).size == ys.toArray.size then n else n + 1) } := by
    rw [Heap.get?_update_self _ hm.1 (by rw [mapSeq_app]; rfl), mapSeq_app, e]
  exact h _ _ (F.change (Heap.SameBut.update ..) hm.2.1 hm.2.2) (N.setIn hown hap (Heap.SameBut.update ..) ho')
theorem iadd_L {D b : Addr} {ys zs : List Value} {n n2 : Nat} {news : List (Addr × Obj)} {Q : Value → Shared → Prop} (F : Fr h₀ L s.heap m) (N : News h₀ L s.heap ((D, listOf ys.toArray n) :: news)) (hne : ∀ p ∈ news, p.1 ≠ D) (hb : s.heap.get? b = some (listOf zs.toArray n2)) (hz : ys.length + zs.length ≤ sizeLine)
    (h : ∀ h' n', Fr h₀ L h' m → News h₀ L h' ((D, listOf (ys ++ zs).toArray n') :: news) → Q (.ref D) { s with heap := h' }) : wpAny (model prog w) A (inplaceOp .Add (.ref D) (.ref b)) Q E s :=
  iadd_in (own := []) F N (fun _ q => nomatch q) hne hb (fun h' n' F' N' => h h' n' F' N') (by rw [List.size_toArray]; exact hz)
end

end
section
theorem regroup2 {g h : Heap} {L a b : Addr} {o o' : Obj} {news : List (Addr × Obj)} (N : News g L h news) (ha : (a, o) ∈ news) (hb : (b, o') ∈ news) :
    ∃ tl, News g L h ((a, o) :: (b, o') :: tl) ∧ OwnOff tl [a, b] ∧ ∀ p ∈ news, @Ne Nat p.1 a → @Ne Nat p.1 b → p ∈ tl := by
  obtain ⟨tl, N1, O1, h1⟩ := regroup [(a, o), (b, o')] (by
    intro p hp
    simp only [List.mem_cons, List.not_mem_nil, or_false] at hp
    rcases hp with rfl | rfl
    · exact N _ ha
    · exact N _ hb)
  exact ⟨tl, N1, O1, fun p hp na nb => h1 p (N p hp).1 (N p hp).2.2 (N p hp).2.1 (notin2' na nb)⟩
theorem inv6_no {lo : Int} {ex : List Ex} {rk : List Int} {i : Nat} {c c' : L6S} {h h' : Heap} (hI : inv6 lo ex rk i c h) (e : c'.2.1 = c.2.1) (hn : ¬ (i : Int) ∈ rk) (k : TupKeep h h') : inv6 lo ex rk (i + 1) c' h' := by
  unfold inv6 at hI ⊢
  rw [ksTo_succ, if_neg hn, List.append_nil, e]
  exact hI.mono fun _ _ z => z.mono k
theorem inv6_yes {lo : Int} {ex : List Ex} {rk : List Int} {i : Nat} {c c' : L6S} {h h' : Heap} {vs : List Value} (hI : inv6 lo ex rk i c h) (e : c'.2.1 = c.2.1 ++ vs) (hn : (i : Int) ∈ rk) (k : TupKeep h h') (hr : All2 (DuR (TupAt h')) vs (rowOf lo ex (i : Int))) : inv6 lo ex rk (i + 1) c' h' := by
  unfold inv6 at hI ⊢
  rw [ksTo_succ, if_pos hn, List.flatMap_append, e]
  refine (hI.mono fun _ _ z => z.mono k).append ?_
  simpa using hr
/-- the rows of the comprehension over words, as far as it has come -/
noncomputable def JW (k0 : List (Addr × Obj)) (key : Int) (ws : List Ex) (i : Nat) (ys : List Value) (nw : List (Addr × Obj)) : Prop :=
  ∃ tn : List (Addr × Obj), nw = tn ++ k0 ∧ All2 (DuR (PT (tn ++ k0))) ys (((ws.take i).filter (isW key)).map .ex)
theorem JW.zero {k0 : List (Addr × Obj)} {key : Int} {ws : List Ex} : JW k0 key ws 0 [] k0 := ⟨[], rfl, .nil⟩
theorem JW.no {k0 : List (Addr × Obj)} {key : Int} {ws : List Ex} {i : Nat} {ys : List Value} {nw : List (Addr × Obj)} {e : Ex} (J : JW k0 key ws i ys nw) (he : ws[i]? = some e) (hn : isW key e = false) : JW k0 key ws (i + 1) ys nw := by
  obtain ⟨tn, rfl, h⟩ := J
  refine ⟨tn, rfl, ?_⟩
  rw [List.take_add_one, he]
  simpa [List.filter_append, hn] using h
theorem JW.yes {k0 : List (Addr × Obj)} {key : Int} {ws : List Ex} {i : Nat} {ys : List Value} {nw : List (Addr × Obj)} {e : Ex} {T u : Addr} {t : Tok} (J : JW k0 key ws i ys nw) (he : ws[i]? = some e) (hn : isW key e = true) (hu : ExR (PT k0) (.ref u) e) :
    JW k0 key ws (i + 1) (ys ++ [.ref T]) ((T, tup [.str (Str.ofString "any") t, .ref u]) :: nw) := by
  obtain ⟨tn, rfl, h⟩ := J
  refine ⟨(T, tup [.str (Str.ofString "any") t, .ref u]) :: tn, rfl, ?_⟩
  rw [List.take_add_one, he, List.filter_append, List.map_append]
  refine (h.mono fun _ _ z => z.mono (PT.mono fun p hp => .tail _ hp)).append ?_
  simp only [Option.toList, List.filter_cons, hn, if_true, List.filter_nil, List.map_cons, List.map_nil]
  exact .one (.ex (.head _) (hu.mono (PT.mono fun p hp => List.mem_cons_of_mem _ (List.mem_append.mpr (.inr hp)))))
theorem FEnd.ct {Q : Flow → Shared → Prop} {s : Shared} {g : Heap} {L : Addr} {σ : Type} {Led : σ → List (Addr × Obj)} {ps : σ → List (Str × Value)} {I : Nat → σ → Heap → Prop} {tl : List (Addr × Obj)} {i : Nat} {s₂ : Shared} {h' : Heap} {tk' : Nat} {m' : Str → Option Value} (c' : σ) (tl' : List (Addr × Obj))
    (F : Fr g L h' m') (N : News g L h' (Led c' ++ tl')) (hs : ∀ p ∈ tl, p ∈ tl') (hps : ∀ p ∈ ps c', m' p.1 = some p.2) (hI : I i c' h') (e : s₂ = { s with heap := h', toks := tk' } := by rfl) : FEnd g L s Led ps I tl Q i .cont s₂ := ⟨c', h', tk', m', tl', e, F, N, hs, hps, hI⟩
theorem inv6_full {lo : Int} {ex : List Ex} {rk : List Int} {i : Nat} {c' : L6S} {h' : Heap} {r : List Du} (hI : All2 (DuR (TupAt h')) c'.2.1 ((ksTo rk i).flatMap (rowOf lo ex) ++ r)) (hr : rowOf lo ex (i : Int) = r) (hn : (i : Int) ∈ rk) : inv6 lo ex rk (i + 1) c' h' := by
  unfold inv6
  rw [ksTo_succ, if_pos hn, List.flatMap_append]
  simpa [hr] using hI
theorem row_sig {lo key : Int} {ex : List Ex} {i : Nat} (hk : key = 0 + (i : Int)) (h : key < 3) : rowOf lo ex (i : Int) = [.ex (.sig key)] := by
  unfold rowOf
  rw [if_pos (by omega), hk, Int.zero_add]
theorem row_three {lo : Int} {ex : List Ex} {i : Nat} (hk : (3 : Int) = 0 + (i : Int)) : rowOf lo ex (i : Int) = duCells 3 lo 3 := by
  unfold rowOf
  rw [if_neg (by omega), if_pos (by omega)]
theorem row_four {lo : Int} {ex : List Ex} {i : Nat} (hk : (4 : Int) = 0 + (i : Int)) : rowOf lo ex (i : Int) = (fw 4 ex).map .ex := by
  unfold rowOf
  rw [if_neg (by omega), if_neg (by omega)]
theorem range3 {lo : Int} (h : -2 ≤ lo ∧ lo ≤ 2) : Builtin.Range.small lo (lo + 3) 1 = true ∧ Builtin.Range.rangeSize lo (lo + 3) 1 = ((3 : Nat) : Int) := by
  have hz : Builtin.Range.rangeSize lo (lo + 3) 1 = ((3 : Nat) : Int) := by unfold Builtin.Range.rangeSize; simp; omega
  have hf : ∀ z : Int, -10 ≤ z → z ≤ 10 → Builtin.Range.rangeFitsLong z = true := fun z h1 h2 => by
    unfold Builtin.Range.rangeFitsLong
    rw [Bool.and_eq_true, decide_eq_true_iff, decide_eq_true_iff]
    omega
  refine ⟨?_, hz⟩
  unfold Builtin.Range.small
  rw [hz, hf lo (by omega) (by omega), hf (lo + 3) (by omega) (by omega), hf (lo + 3 + (1 - 1)) (by omega) (by omega)]
  rfl
theorem jw_end {k0 : List (Addr × Obj)} {key : Int} {seen : List Ex} {n : Nat} {ys : List Value} {nw : List (Addr × Obj)} (J : JW k0 key (wAll seen) n ys nw) (hn : (wAll seen).length ≤ n) : All2 (DuR (PT nw)) ys ((fw key seen).map .ex) := by
  obtain ⟨tn, rfl, h⟩ := J
  rw [List.take_of_length_le hn, fw_wAll] at h
  exact h
theorem duCells_zero (k lo : Int) : duCells k lo 0 = [] := rfl
theorem lo_nm {a : Int} (_ : -2 ≤ a ∧ a ≤ 2) : ∃ lo : Int, a = lo := ⟨a, rfl⟩
theorem regroup_4 {g h : Heap} {L a : Addr} {o : Obj} {p1 p2 p3 : Addr × Obj} {tl : List (Addr × Obj)} (N : News g L h (p1 :: p2 :: p3 :: (a, o) :: tl)) :
    ∃ tl', News g L h ((a, o) :: tl') ∧ OwnOff tl' [a] ∧ ∀ p ∈ tl, @Ne Nat p.1 a → p ∈ tl' := by
  obtain ⟨tl', N1, O1, h1⟩ := regroup1 N (.tail _ (.tail _ (.tail _ (.head _))))
  exact ⟨tl', N1, O1, fun p hp => h1 p (.tail _ (.tail _ (.tail _ (.tail _ hp))))⟩
theorem mod32 (a : Int) : a.fmod 4294967296 = a % 4294967296 := Int.fmod_eq_emod_of_nonneg a (by decide)
theorem jw_yes_end {g h' : Heap} {L I C D W T u : Addr} {m : Str → Option Value} {s1 : Shared} {oI oC oD : Obj} {ws : List Value} {nW tk' j : Nat} {k0 nw : List (Addr × Obj)} {key : Int} {wsE : List Ex} {ys2 : List Value} {e : Ex} {t : Tok}
    (F : Fr g L h' m) (N : News g L h' ((T, tup [.str (Str.ofString "any") t, .ref u]) :: (I, oI) :: (C, oC) :: (D, oD) :: nw)) (l : AllLt T ((I, oI) :: (C, oC) :: (D, oD) :: nw)) (off : LCg.Off3 I C D nw) (hW : (W, listOf ws.toArray nW) ∈ nw)
    (hJ : JW k0 key wsE j ys2 nw) (he : wsE[j]? = some e) (hn : isW key e = true) (hu : ExR (PT k0) (.ref u) e) :
    LCg.CompEnd g L m s1 I oI C oC D oD (LCg.SrcAt g W ws.toArray) (fun y nw' => JW k0 key wsE (j + 1) (ys2 ++ [y]) nw') (.ref T) { s1 with heap := h', toks := tk' } := by
  refine LCg.CompEnd.intro F N ((T, tup [.str (Str.ofString "any") t, .ref u]) :: nw) (fun p hp => ?_) ⟨⟨Nat.ne_of_gt (AllLt.get l (.head _)), Nat.ne_of_gt (AllLt.get l (.tail _ (.head _))), Nat.ne_of_gt (AllLt.get l (.tail _ (.tail _ (.head _))))⟩, off⟩ (.inr ⟨_, .tail _ hW, rfl, _, rfl⟩) (JW.yes hJ he hn hu)
  simp only [List.mem_cons] at hp ⊢
  rcases hp with q | q | q | q | q <;> simp [q]
/-- += of the comprehension's list upon due: the ledger ready for it -/
theorem plus_ready {g h : Heap} {L c2 dA D Dx : Addr} {oc ox : Obj} {cs ys2 : List Value} {cn : Nat} {tn tl3 nw : List (Addr × Obj)} (N : News g L h ((D, LCg.lst ys2) :: nw)) (e : nw = tn ++ (Dx, ox) :: (c2, oc) :: (dA, listOf cs.toArray cn) :: tl3) (hc : @Ne Nat c2 dA) (O : OwnOff tl3 [c2, dA]) :
    ∃ tl7, News g L h ((dA, listOf cs.toArray cn) :: tl7) ∧ (∀ p ∈ tl7, p.1 ≠ dA) ∧ (c2, oc) ∈ tl7 ∧ (∀ p ∈ tl3, p ∈ tl7) ∧ (∀ a vs, PT nw a vs → PT tl7 a vs) ∧ h.get? D = some (LCg.lst ys2) := by
  subst e
  have md : (dA, listOf cs.toArray cn) ∈ (D, LCg.lst ys2) :: (tn ++ (Dx, ox) :: (c2, oc) :: (dA, listOf cs.toArray cn) :: tl3) := .tail _ (List.mem_append.mpr (.inr (.tail _ (.tail _ (.head _)))))
  obtain ⟨tl7, N8, O8, i8⟩ := regroup1 N md
  refine ⟨tl7, N8, fun p hp => O8 p hp _ (.head _), i8 _ (.tail _ (List.mem_append.mpr (.inr (.tail _ (.head _))))) hc, fun p hp => i8 p (.tail _ (List.mem_append.mpr (.inr (.tail _ (.tail _ (.tail _ hp)))))) fun q => O p hp _ (.tail _ (.head _)) q, fun a vs z => i8 _ (.tail _ z) ?_, N.get (.head _)⟩
  exact ne_get (N.get (.tail _ z)) (N.get md) (clsNE (by show ¬ (Value.type "tuple" = Value.type "list"); decide))
theorem fw_blk (key : Int) (sts : List St) : fw key (Nd.ex (Nd.pre (.blk sts))) = fw key (sts.flatMap St.seen) := by rw [← blk_seen, fw_seen]
inductive PackG (g : Heap) (L x : Addr) (h : Heap) : Prop
  | mk (S dA : Addr) (cs : List Value) (cn : Nat) (tl dl : List (Addr × Obj)) (sts : List St) (lo : Int) (u : Str → Option Value)
    (_ : Fr g L h (pin [(Str.ofString "design", .ref x), (Str.ofString "statement", .ref S), (Str.ofString "due", .ref dA)] u))
    (_ : News g L h ((dA, listOf cs.toArray cn) :: tl))
    (_ : (∀ p ∈ dl, p ∈ tl))
    (_ : (∀ h', (∀ p ∈ dl, h'.get? p.1 = some p.2) → Dsg h' x lo))
    (_ : NdR (PT tl) (.ref S) (.blk sts))
    (_ : All2 (DuR (TupAt h)) cs ((ksTo (Nd.rk (Nd.pre (.blk sts))) 5).flatMap (rowOf lo (Nd.ex (Nd.pre (.blk sts))))))
    (_ : (∀ st ∈ sts, st.Good ∧ st.lev ≤ 1))
    (_ : sts.length ≤ 4)
    (_ : (-2 ≤ lo ∧ lo ≤ 2)) : PackG g L x h
theorem packG_of {g h : Heap} {L x S dA c2 : Addr} {m : Str → Option Value} {ck : Obj} {cs : List Value} {cn : Nat} {tl dl : List (Addr × Obj)} {sts : List St} {lo : Int} (F : Fr g L h m) (p1 : m (Str.ofString "design") = some (.ref x)) (p3 : m (Str.ofString "statement") = some (.ref S)) (p5 : m (Str.ofString "due") = some (.ref dA))
    (N : News g L h ((c2, ck) :: (dA, listOf cs.toArray cn) :: tl)) (hdl : ∀ p ∈ dl, p ∈ tl) (hdsg : ∀ h', (∀ p ∈ dl, h'.get? p.1 = some p.2) → Dsg h' x lo) (hnd : NdR (PT tl) (.ref S) (.blk sts))
    (hI : All2 (DuR (TupAt h)) cs ((ksTo (Nd.rk (Nd.pre (.blk sts))) 5).flatMap (rowOf lo (Nd.ex (Nd.pre (.blk sts)))))) (hG : ∀ st ∈ sts, st.Good ∧ st.lev ≤ 1) (hl : sts.length ≤ 4) (hlo : -2 ≤ lo ∧ lo ≤ 2) : PackG g L x h := by
  refine ⟨S, dA, cs, cn, (c2, ck) :: tl, dl, sts, lo, m, pins_fr F (all_three p1 p3 p5), fun p hp => ?_, fun p hp => .tail _ (hdl p hp), hdsg, hnd.mono (PT.mono fun p hp => .tail _ hp), hI, hG, hl, hlo⟩
  rcases List.mem_cons.mp hp with q | q
  · exact N p (q ▸ .tail _ (.head _))
  · rcases List.mem_cons.mp q with z | z
    · exact N p (z ▸ .head _)
    · exact N p (.tail _ (.tail _ z))

end
inductive Wr (P : Prop) : Prop
  | mk (h : P) : Wr P
theorem wr {P : Prop} (h : Wr P) : P := by
  cases h; assumption
theorem cutw {P : Prop} (h : P) (hw : True) : Wr P := .mk h
section
local macro_rules | `(tactic| o_law) => `(tactic| k_extra "seg")
local macro_rules | `(tactic| k_head) => `(tactic| skip)
local macro_rules | `(tactic| w_witness2) => `(tactic| trivial)
local macro_rules | `(tactic| k_qdec) => `(tactic| k_extra "qdec")
theorem reg_L0_0 : True := by
  k_with_none
  k_with "q_enter" => (refine' enterQ (by k_asm) (by k_asm) (by k_asm) (by k_asm) (by k_asm) (by exact rfl) (by exact rfl) (by assumption) (by k_is) (by k_is) (by ktr_room) (by exact BindsTo.of_eq rfl) (by exact locs rfl) ?_ (by exact rfl) (by exact rfl) (by exact rfl) (by decide); k_whole)
  k_with "units_room" => (ktr_units)
  k_with "q_len" => (rw [PySem.sizeLine_eq]; (try simp only [List.length_append, List.length_cons, List.length_nil]); omega)
  k_with "call builtin:list.append" => (k_here; k_dflt (refine' append_L (by k_asm) (by k_asm) (by k_upd) (by k_extra "q_len") ?_; (intro h' F' N'; (try dsimp only [List.nil_append, List.cons_append] at N'))))
  k_with "call builtin:list.pop" => (k_here; k_dflt (refine' pop_L (by k_asm) (by k_asm) (by k_upd) (by k_extra "q_len") ?_; (intro h' F' N'; (try dsimp only [List.nil_append, List.cons_append] at N'))))
  k_with "truthy ref" => (k_here; k_dflt (refine' truthy_L (by k_asm) (by k_mem) (by k_extra "q_len") ?_))
  k_with "exec While" => ((have hSt := (by with_reducible assumption : StopWhile)); clear hSt; refine Stop.of ?_)
  k_with "pyIter ref" => ((have hSt := (by with_reducible assumption : StopFor)); clear hSt; refine Stop.of ?_)
  k_with "call type:reversed" => (k_here; k_dflt (refine' rvt_L (by k_asm) (by k_asm) (by exact isTup_now (News.get (by assumption) (by k_mem))) (by ((try simp only [List.length_cons, List.length_nil]); omega)) ?_; (intro I' h' tk' F' N' l1; (try k_lt l1))))
  k_with "call builtin:list.extend" => (k_here; k_dflt (refine' extend_L (by k_asm) (by k_asm) (by (intro o'; k_upd)) (by first | assumption | exact News.get (by assumption) (by k_mem)) (by k_extra "q_len") ?_; (intro h' n' F' N'; (try dsimp only [List.nil_append, List.cons_append] at N'))))
  k_with "call type:list" => (k_here; k_dflt (refine' listT_L (by k_asm) (by k_asm) (by first | exact isTup_P (by assumption) (by assumption) (by assumption) | exact isTup_base (by assumption) (by assumption)) (by k_extra "q_len") ?_; (intro D' c' h' F' N' l1; (try k_lt l1))))
  k_with "exec For" => ((have hSt := (by with_reducible assumption : StopFor)); clear hSt; k_here; (rename Fr _ _ _ _ => lF'); (with_unfolding_all refine' For_invVF lF' (by exact rfl) (by exact rfl) ?_; k_whole))
  k_with "CompSrcT" => (k_here; (have hSt := (by with_reducible assumption : StopComp)); clear hSt; k_dflt (refine LCt.CompSrcT.ledger (by rfl) (by k_asm) (by k_asm) (by k_mem) (by (try rw [List.size_toArray]); k_extra "q_len") ?_); refine Stop.of ?_)
  k_with "CompSrc" => (k_here; (have hSt := (by with_reducible assumption : StopComp)); clear hSt; k_dflt (refine LCg.CompSrc.ledger (by rfl) (by k_asm) (by k_asm) (by k_mem) (by (try rw [List.size_toArray]); k_extra "q_len") ?_); refine Stop.of ?_)
  k_with "CompEnd" => ((have hSt := (by with_reducible assumption : StopComp)); clear hSt; refine Stop.of ?_)
  k_with "q_clean" => ((repeat (with_reducible rename Fr _ _ _ _ => hz; clear hz)); (repeat (with_reducible rename News _ _ _ _ => hz; clear hz)); (repeat (with_reducible rename _ ∧ _ => hz; clear hz)); (repeat (with_reducible rename @LT.lt Nat _ _ _ => hz; clear hz)); (repeat (with_reducible rename OwnOff _ _ => hz; clear hz)); (repeat (with_reducible rename Cov _ _ _ _ _ => hz; clear hz)); (repeat (with_reducible rename TCov _ _ _ => hz; clear hz)); (repeat (with_reducible rename _ ∈ _ => hz; clear hz)); (repeat (with_reducible rename SigEs _ _ _ _ => hz; clear hz)); (repeat (with_reducible rename ∀ p ∈ _, p ∈ _ => hz; clear hz)); (repeat (with_reducible rename @Ne Nat _ _ => hz; clear hz)); (repeat (with_reducible rename getL _ _ = _ => hz; clear hz)); (repeat (with_reducible rename _ = Data.cell _ => hz; clear hz)); (repeat (with_reducible rename StopFor => hz; clear hz)); (repeat (with_reducible rename Kept _ _ _ => hz; clear hz)); (repeat (with_reducible rename Heap.get? _ _ = _ => hz; clear hz)); (repeat (with_reducible rename @LE.le Nat _ _ _ => hz; clear hz)); (repeat (with_reducible rename IsRange _ _ _ _ _ _ _ _ => hz; clear hz)); (repeat (with_reducible rename Obj.IsDictOf _ _ _ => hz; clear hz)); (repeat (with_reducible rename AllLt _ _ => hz; clear hz)); (repeat (with_reducible rename IntsAre _ _ => hz; clear hz)); (repeat (with_reducible rename PyProof.V.FlatPairs _ _ _ => hz; clear hz)); (repeat (with_reducible rename Heap.IsList _ _ _ => hz; clear hz)); (repeat (with_reducible rename ReadsAll _ _ _ _ => hz; clear hz)); (repeat (with_reducible rename @LT.lt Int _ _ _ => hz; clear hz)); (repeat (with_reducible rename @LE.le Int _ _ _ => hz; clear hz)); (repeat (with_reducible rename _ ∨ _ => hz; clear hz)))
  k_with "q_no" => (exact notin2' (by k_ne) (by k_ne))
  k_with "q_fr" => (first | exact List.forall_mem_nil _ | (refine List.forall_mem_cons.mpr ⟨⟨_, by k_mem⟩, ?_⟩; k_extra "q_fr"))
  k_with "k_ne" => (refine neN ?_; (try dsimp only); k_extra "ne")
  k_with "ne" => (first | with_reducible assumption | exact Nat.ne_of_lt (AllLt.get (by with_reducible assumption) (by k_mem)) | exact Nat.ne_of_gt (AllLt.get (by with_reducible assumption) (by k_mem)) | exact Ne.symm (by with_reducible assumption) | exact Nat.ne_of_gt (AllLt.get2 (by with_reducible assumption) (by with_reducible assumption) (by k_mem)) | exact Nat.ne_of_lt (AllLt.get2 (by with_reducible assumption) (by with_reducible assumption) (by k_mem)) | exact Nat.ne_of_lt (by with_reducible assumption) | exact Nat.ne_of_gt (by with_reducible assumption) | omega)
  k_with "subscriptTail" => (k_here; k_dflt (refine' item_tupleT (by first | exact isTup_P (by assumption) (by assumption) (by assumption) | exact isTup_base (by assumption) (by assumption) | exact isTup_now (by assumption)) (by decide) (by decide) (by rfl) (by rfl) ?_; k_whole))
  k_with "k_steps" => ((try k_fold); repeat' (first | (k_unfold; (try dsimp only)) | (k_end; wrow_close) | walk1 | (dsimp only; walk1) | (leave1; walk_say "STEP leave1"; try dsimp only) | fail "no step"))
  k_with "k_memR" => (first | with_reducible exact List.mem_cons_self .. | with_reducible assumption | (with_reducible refine List.mem_cons_of_mem _ ?_; k_extra "k_memR"))
  k_with "k_memD" => (first | exact List.mem_cons_self .. | with_reducible assumption | (refine List.mem_cons_of_mem _ ?_; k_extra "k_memD"))
  k_with "k_mem" => (first | k_extra "k_memR" | k_extra "k_memD")
  k_with "k_all" => (first | exact List.forall_mem_nil _ | ((with_reducible refine' List.forall_mem_cons.mpr (And.intro ?_ ?_)); k_ne; k_all) | with_reducible assumption | exact OwnOff.ne (by with_reducible assumption) (by k_extra "k_memR") | exact allLt_ne (by with_reducible assumption) | exact allLt_nes (by with_reducible assumption) (by intro p9 hp9; k_extra "k_memR") | exact OwnOff.ne (by assumption) (by k_mem) | ((refine' List.forall_mem_cons.mpr (And.intro ?_ ?_)); k_ne; k_all) | exact allLt_nes (by with_reducible assumption) (by intro p9 hp9; k_mem))
  trivial
theorem reg_L0_1 : True := by
  k_with "call ref" => (k_here; (with_reducible show wpAny _ _ (call (Value.ref 241) _) _ _ _); k_dflt ((try k_fold); refine' Does.stop (given_does (by is_list) (by l_ints) (by ((have hL9 := IntsAre.length (by assumption)); omega))) (by k_asm) (by k_asm) (by k_asm) (by k_asm) (by first | exact rfl | assumption) (by exact List.forall_mem_nil _) (by ktr_room) (by ktr_units) ?_))
  k_with "exec For Name Call cons nil" => ((have hSt := (by with_reducible assumption : StopFor)); clear hSt; refine Stop.of ?_)
  trivial
theorem seg_L0 : True := by
  k_with "qdec" => (rw [PySem.W.Fast.te17448422675489707002, PySem.W.Fast.te821141287760084731]; kernel_rfl)
  k_with "qdec" => (rw [PySem.W.Fast.te2458874890965802552]; kernel_rfl)
  k_with "seg" => (
    refine hd ?_
    k_go0
    all_goals try k_fold
    k_steps
    unfold Stop
    rename Fr _ _ _ _ => F3
    rename News _ _ _ _ => N3
    intro r h2 tk2 hKp ⟨l, us, n, ns, e1, hf, hl, hi, hlen⟩
    subst e1
    have F4 := hKp.fr F3 (fun b hb => nomatch hb)
    have N4 := hKp.news N3 (fun p hp h => nomatch h)
    have Lne : l ≠ _ := ns_not_obj F4.ns hl (fun _ _ q => by cases q)
    have N5 : News _ _ _ ((l, listOf us.toArray n) :: _) := fun p hp => by
      rcases List.mem_cons.mp hp with rfl | hp
      · exact ⟨hl, Lne, old_none F3 hf⟩
      · exact N4 p hp
    have lt5 := And.intro (ne_mem N3 hf (.head _)) (And.intro (ne_mem N3 hf (.tail _ (.head _))) (ne_mem N3 hf (.tail _ (.tail _ (.head _)))))
    clear F3 N3 N4
    have hFo : StopFor := ⟨⟩
    k_steps
    unfold Stop
    rename Fr _ _ _ _ => F9
    rename News _ _ _ _ => N9
    have apart := lawA F9 rfl N9 (by k_get) (by k_get) (by k_get) (by k_get) (by assumption) hi hlen (by assumption) (by assumption) (by assumption) (by constructor <;> k_ne)
    clear F9 N9
    k_extra "q_clean"
    revert apart
    (repeat (rename _ => hz9; revert hz9))
    refine wr ?_
    apply cutw)
  trivial
set_option maxHeartbeats 8000000 in
open_top la for PySem.Challenge.rw_on0116_01
theorem reg_L1_0 : True := by
  k_with_none
  k_with "q_enter" => (refine' enterQ (by k_asm) (by k_asm) (by k_asm) (by k_asm) (by k_asm) (by exact rfl) (by exact rfl) (by assumption) (by k_is) (by k_is) (by ktr_room) (by exact BindsTo.of_eq rfl) (by exact locs rfl) ?_ (by exact rfl) (by exact rfl) (by exact rfl) (by decide); k_whole)
  k_with "units_room" => (ktr_units)
  k_with "q_len" => (rw [PySem.sizeLine_eq]; (try simp only [List.length_append, List.length_cons, List.length_nil]); omega)
  k_with "call builtin:list.append" => (k_here; k_dflt (refine' append_L (by k_asm) (by k_asm) (by k_upd) (by k_extra "q_len") ?_; (intro h' F' N'; (try dsimp only [List.nil_append, List.cons_append] at N'))))
  k_with "call builtin:list.pop" => (k_here; k_dflt (refine' pop_L (by k_asm) (by k_asm) (by k_upd) (by k_extra "q_len") ?_; (intro h' F' N'; (try dsimp only [List.nil_append, List.cons_append] at N'))))
  k_with "truthy ref" => (k_here; k_dflt (refine' truthy_L (by k_asm) (by k_mem) (by k_extra "q_len") ?_))
  k_with "exec While" => ((have hSt := (by with_reducible assumption : StopWhile)); clear hSt; refine Stop.of ?_)
  k_with "pyIter ref" => ((have hSt := (by with_reducible assumption : StopFor)); clear hSt; refine Stop.of ?_)
  k_with "call type:reversed" => (k_here; k_dflt (refine' rvt_L (by k_asm) (by k_asm) (by exact isTup_now (News.get (by assumption) (by k_mem))) (by ((try simp only [List.length_cons, List.length_nil]); omega)) ?_; (intro I' h' tk' F' N' l1; (try k_lt l1))))
  k_with "call builtin:list.extend" => (k_here; k_dflt (refine' extend_L (by k_asm) (by k_asm) (by (intro o'; k_upd)) (by first | assumption | exact News.get (by assumption) (by k_mem)) (by k_extra "q_len") ?_; (intro h' n' F' N'; (try dsimp only [List.nil_append, List.cons_append] at N'))))
  k_with "call type:list" => (k_here; k_dflt (refine' listT_L (by k_asm) (by k_asm) (by first | exact isTup_P (by assumption) (by assumption) (by assumption) | exact isTup_base (by assumption) (by assumption)) (by k_extra "q_len") ?_; (intro D' c' h' F' N' l1; (try k_lt l1))))
  k_with "exec For" => ((have hSt := (by with_reducible assumption : StopFor)); clear hSt; k_here; (rename Fr _ _ _ _ => lF'); (with_unfolding_all refine' For_invVF lF' (by exact rfl) (by exact rfl) ?_; k_whole))
  k_with "CompSrcT" => (k_here; (have hSt := (by with_reducible assumption : StopComp)); clear hSt; k_dflt (refine LCt.CompSrcT.ledger (by rfl) (by k_asm) (by k_asm) (by k_mem) (by (try rw [List.size_toArray]); k_extra "q_len") ?_); refine Stop.of ?_)
  k_with "CompSrc" => (k_here; (have hSt := (by with_reducible assumption : StopComp)); clear hSt; k_dflt (refine LCg.CompSrc.ledger (by rfl) (by k_asm) (by k_asm) (by k_mem) (by (try rw [List.size_toArray]); k_extra "q_len") ?_); refine Stop.of ?_)
  k_with "CompEnd" => ((have hSt := (by with_reducible assumption : StopComp)); clear hSt; refine Stop.of ?_)
  k_with "q_clean" => ((repeat (with_reducible rename Fr _ _ _ _ => hz; clear hz)); (repeat (with_reducible rename News _ _ _ _ => hz; clear hz)); (repeat (with_reducible rename _ ∧ _ => hz; clear hz)); (repeat (with_reducible rename @LT.lt Nat _ _ _ => hz; clear hz)); (repeat (with_reducible rename OwnOff _ _ => hz; clear hz)); (repeat (with_reducible rename Cov _ _ _ _ _ => hz; clear hz)); (repeat (with_reducible rename TCov _ _ _ => hz; clear hz)); (repeat (with_reducible rename _ ∈ _ => hz; clear hz)); (repeat (with_reducible rename SigEs _ _ _ _ => hz; clear hz)); (repeat (with_reducible rename ∀ p ∈ _, p ∈ _ => hz; clear hz)); (repeat (with_reducible rename @Ne Nat _ _ => hz; clear hz)); (repeat (with_reducible rename getL _ _ = _ => hz; clear hz)); (repeat (with_reducible rename _ = Data.cell _ => hz; clear hz)); (repeat (with_reducible rename StopFor => hz; clear hz)); (repeat (with_reducible rename Kept _ _ _ => hz; clear hz)); (repeat (with_reducible rename Heap.get? _ _ = _ => hz; clear hz)); (repeat (with_reducible rename @LE.le Nat _ _ _ => hz; clear hz)); (repeat (with_reducible rename IsRange _ _ _ _ _ _ _ _ => hz; clear hz)); (repeat (with_reducible rename Obj.IsDictOf _ _ _ => hz; clear hz)); (repeat (with_reducible rename AllLt _ _ => hz; clear hz)); (repeat (with_reducible rename IntsAre _ _ => hz; clear hz)); (repeat (with_reducible rename PyProof.V.FlatPairs _ _ _ => hz; clear hz)); (repeat (with_reducible rename Heap.IsList _ _ _ => hz; clear hz)); (repeat (with_reducible rename ReadsAll _ _ _ _ => hz; clear hz)); (repeat (with_reducible rename @LT.lt Int _ _ _ => hz; clear hz)); (repeat (with_reducible rename @LE.le Int _ _ _ => hz; clear hz)); (repeat (with_reducible rename _ ∨ _ => hz; clear hz)))
  k_with "q_no" => (exact notin2' (by k_ne) (by k_ne))
  k_with "q_fr" => (first | exact List.forall_mem_nil _ | (refine List.forall_mem_cons.mpr ⟨⟨_, by k_mem⟩, ?_⟩; k_extra "q_fr"))
  k_with "k_ne" => (refine neN ?_; (try dsimp only); k_extra "ne")
  k_with "ne" => (first | with_reducible assumption | exact Nat.ne_of_lt (AllLt.get (by with_reducible assumption) (by k_mem)) | exact Nat.ne_of_gt (AllLt.get (by with_reducible assumption) (by k_mem)) | exact Ne.symm (by with_reducible assumption) | exact Nat.ne_of_gt (AllLt.get2 (by with_reducible assumption) (by with_reducible assumption) (by k_mem)) | exact Nat.ne_of_lt (AllLt.get2 (by with_reducible assumption) (by with_reducible assumption) (by k_mem)) | exact Nat.ne_of_lt (by with_reducible assumption) | exact Nat.ne_of_gt (by with_reducible assumption) | omega)
  k_with "subscriptTail" => (k_here; k_dflt (refine' item_tupleT (by first | exact isTup_P (by assumption) (by assumption) (by assumption) | exact isTup_base (by assumption) (by assumption) | exact isTup_now (by assumption)) (by decide) (by decide) (by rfl) (by rfl) ?_; k_whole))
  k_with "k_steps" => ((try k_fold); repeat' (first | (k_unfold; (try dsimp only)) | (k_end; wrow_close) | walk1 | (dsimp only; walk1) | (leave1; walk_say "STEP leave1"; try dsimp only) | fail "no step"))
  k_with "k_memR" => (first | with_reducible exact List.mem_cons_self .. | with_reducible assumption | (with_reducible refine List.mem_cons_of_mem _ ?_; k_extra "k_memR"))
  k_with "k_memD" => (first | exact List.mem_cons_self .. | with_reducible assumption | (refine List.mem_cons_of_mem _ ?_; k_extra "k_memD"))
  k_with "k_mem" => (first | k_extra "k_memR" | k_extra "k_memD")
  k_with "k_all" => (first | exact List.forall_mem_nil _ | ((with_reducible refine' List.forall_mem_cons.mpr (And.intro ?_ ?_)); k_ne; k_all) | with_reducible assumption | exact OwnOff.ne (by with_reducible assumption) (by k_extra "k_memR") | exact allLt_ne (by with_reducible assumption) | exact allLt_nes (by with_reducible assumption) (by intro p9 hp9; k_extra "k_memR") | exact OwnOff.ne (by assumption) (by k_mem) | ((refine' List.forall_mem_cons.mpr (And.intro ?_ ?_)); k_ne; k_all) | exact allLt_nes (by with_reducible assumption) (by intro p9 hp9; k_mem))
  trivial
theorem reg_L1_1 : True := by
  k_with "k_inst" => (refine' InstAt.of_news (by k_asm) (by k_mem) (by k_mem))
  k_with "k_get" => (with_reducible assumption)
  k_with "exec For Name Call cons nil" => (k_here; (rename Fr _ _ _ _ => lF'); (refine' For_turns lF' ?_; k_whole))
  k_with "pyIter ref" => ((have hSt := (by with_reducible assumption : StopFor)); clear hSt; refine Stop.of ?_)
  k_with "call ref" => (k_here; (try dsimp only [List.cons_append, List.nil_append]); (with_reducible show wpAny _ _ (call (Value.ref 192) _) _ _ _); refine Stop.of ?_)
  trivial
theorem seg_L1 : True := by
  k_with "seg" => (
    refine la ?_
    w_on
    k_fill
    intros
    obtain ⟨x, d, es, nes, aL, aP, oP, l, us, n, ns, om, ok, or, vm, vk, tl, u, F0, N0, O0, mx, md, ml, m3, m1, gs, gp, ga, gf, hP, hIus, hlus, e1, e2, e3, ap⟩ := apart
    obtain ⟨q1, q2, q3, q4, q5, q6, q7, q8, q9, q10, q11, q12, q13, q14, q15, q16, q17, q18⟩ := id ap
    have hFo : StopFor := ⟨⟩
    k_steps
    unfold Stop
    rename Fr _ _ _ _ => F1
    rename News _ _ _ _ => N1
    rename IsRange _ _ _ _ _ _ _ _ => hr
    refine loop1 rfl hr F1 N1 O0 rfl e2 hP ?_ ?_
    · intro i t x91 u h3 tk3 tl3 hi5 F2 N2 O2 C2 TC2 hs2 x92
      (try dsimp only); (try k_fold)
      obtain ⟨⟨ck, vk2, hk2⟩, ys, yn, ⟨oP2, hc2⟩⟩ := x91
      obtain ⟨hyl, hys, hnd, kvs, D, hd2, hf2, hkl⟩ := x92
      have mx2 := hs2 _ mx
      have md2 := hs2 _ md
      dsimp only [pin, led1, locC, List.cons_append, List.nil_append] at F2 N2 O2 C2 hyl hys hnd hd2 hkl ⊢
      clear F1 N1
      k_steps
      unfold Stop
      rename Fr _ _ _ _ => F7
      rename News _ _ _ _ => N7
      rename _ = Data.cell (some (Value.int _ _)) => dC
      k_dflt (refine' Does.use (addsig_does (InstAt.of_news N7 (by k_mem) (by k_mem)) gs gp (N7.get (by k_mem)) ?hvl (N7.get (by k_mem)) hd2 hf2 ?hDl q18 q6) ?k1 F7 ?k3 ?k4 ?kK (all_two (news_none N7 (by k_mem)) (news_none N7 (by k_mem))) ?kd ?ku ?_; (case k1 => k_asm); (case k3 => k_asm); (case k4 => k_asm); (case kK => first | exact rfl | assumption); (case hvl => (simp only [sigVs, List.length_map]; omega)); (case hDl => omega); (case kd => ktr_room); (case ku => ktr_units))
      intro r h4 tk4 hK ⟨y, yd, es', k', o', kvs', D', n', e0, fy, fyd, iy, se, gL, gP, hd', hf', hk'⟩
      subst e0
      refine' afterX (S := [(aL, listOf (sigVs ys ++ [Value.ref y]).toArray n'), (aP, o')]) (.miss (all_two (fun q => q16 q.symm) (fun q => q17 q.symm)) (.hit (.head _) (.hit (.tail _ (.head _)) .nil))) F7 N7 hK (all_two gL gP) (all_two (news_none N7 (by k_mem)) (news_none N7 (by k_mem))) (all_three (cellNT dC) listNT (clsNT (dk_cls hd'))) ?_
      intro tl4 F8 N8 O8 C8 TC8 hs8
      dsimp only [List.map] at N8 O8 C8 hs8
      have hs4 : ∀ p ∈ tl3, p ∈ tl4 := fun p hp => hs8 p (by k_mem) (fun q => O2 p hp _ (.tail _ q) rfl) (fun q => O2 p hp _ q rfl)
      have hI := loop1_step (n' := n') hyl hys hnd hkl C2 F7 N7 fy fyd F8 N8 hs4 iy se dC hd' hf' hk'
      k_steps
      rw [← sigVs_snoc ys y yd] at N8
      exact FEnd.nx (⟨_, _, dC⟩, ys ++ [(y, yd)], n', ⟨o', dk_cls hd'⟩) tl4 F8 N8 hs4 (all_one rfl) hI
    intro x93 u h3 tk3 tl3 F2 N2 O2 C2 TC2 hs2 x94
    (try dsimp only); (try k_fold)
    obtain ⟨⟨ck, vk2, hk2⟩, ys, yn, ⟨oP2, hc2⟩⟩ := x93
    obtain ⟨hyl, hys, hnd, kvs, D, hd2, hf2, hkl⟩ := x94
    dsimp only [pin, led1, locC, List.cons_append, List.nil_append] at F2 N2 O2 C2 hyl hys hnd hd2 hkl ⊢
    rename IntsAre us ns => hIus
    have segB := lawB F2 N2 hk2 (hs2 _ mx) (hs2 _ md) (hs2 _ ml) (hs2 _ m3) (hs2 _ m1) gs gf hIus hlus e1 e3 hyl hys q8 q10 q13
    clear F1 N1 F2 N2
    k_extra "q_clean"
    clear hys hc2 hnd
    revert x
    (repeat (rename _ => hz9; revert hz9))
    refine wr ?_
    apply cutw)
  trivial
set_option tactic.hygienic false in
set_option maxHeartbeats 8000000 in
open_top lb for PySem.Challenge.rw_on0116_01
theorem reg_M2_0 : True := by
  k_with_none
  k_with "q_enter" => (refine' enterQ (by k_asm) (by k_asm) (by k_asm) (by k_asm) (by k_asm) (by exact rfl) (by exact rfl) (by assumption) (by k_is) (by k_is) (by ktr_room) (by exact BindsTo.of_eq rfl) (by exact locs rfl) ?_ (by exact rfl) (by exact rfl) (by exact rfl) (by decide); k_whole)
  k_with "units_room" => (ktr_units)
  k_with "q_len" => (rw [PySem.sizeLine_eq]; (try simp only [List.length_append, List.length_cons, List.length_nil]); omega)
  k_with "call builtin:list.append" => (k_here; k_dflt (refine' append_L (by k_asm) (by k_asm) (by k_upd) (by k_extra "q_len") ?_; (intro h' F' N'; (try dsimp only [List.nil_append, List.cons_append] at N'))))
  k_with "call builtin:list.pop" => (k_here; k_dflt (refine' pop_L (by k_asm) (by k_asm) (by k_upd) (by k_extra "q_len") ?_; (intro h' F' N'; (try dsimp only [List.nil_append, List.cons_append] at N'))))
  k_with "truthy ref" => (k_here; k_dflt (refine' truthy_L (by k_asm) (by k_mem) (by k_extra "q_len") ?_))
  k_with "exec While" => ((have hSt := (by with_reducible assumption : StopWhile)); clear hSt; refine Stop.of ?_)
  k_with "pyIter ref" => ((have hSt := (by with_reducible assumption : StopFor)); clear hSt; refine Stop.of ?_)
  k_with "call type:reversed" => (k_here; k_dflt (refine' rvt_L (by k_asm) (by k_asm) (by exact isTup_now (News.get (by assumption) (by k_mem))) (by ((try simp only [List.length_cons, List.length_nil]); omega)) ?_; (intro I' h' tk' F' N' l1; (try k_lt l1))))
  k_with "call builtin:list.extend" => (k_here; k_dflt (refine' extend_L (by k_asm) (by k_asm) (by (intro o'; k_upd)) (by first | assumption | exact News.get (by assumption) (by k_mem)) (by k_extra "q_len") ?_; (intro h' n' F' N'; (try dsimp only [List.nil_append, List.cons_append] at N'))))
  k_with "call type:list" => (k_here; k_dflt (refine' listT_L (by k_asm) (by k_asm) (by first | exact isTup_P (by assumption) (by assumption) (by assumption) | exact isTup_base (by assumption) (by assumption)) (by k_extra "q_len") ?_; (intro D' c' h' F' N' l1; (try k_lt l1))))
  k_with "exec For" => ((have hSt := (by with_reducible assumption : StopFor)); clear hSt; k_here; (rename Fr _ _ _ _ => lF'); (with_unfolding_all refine' For_invVF lF' (by exact rfl) (by exact rfl) ?_; k_whole))
  k_with "CompSrcT" => (k_here; (have hSt := (by with_reducible assumption : StopComp)); clear hSt; k_dflt (refine LCt.CompSrcT.ledger (by rfl) (by k_asm) (by k_asm) (by k_mem) (by (try rw [List.size_toArray]); k_extra "q_len") ?_); refine Stop.of ?_)
  k_with "CompSrc" => (k_here; (have hSt := (by with_reducible assumption : StopComp)); clear hSt; k_dflt (refine LCg.CompSrc.ledger (by rfl) (by k_asm) (by k_asm) (by k_mem) (by (try rw [List.size_toArray]); k_extra "q_len") ?_); refine Stop.of ?_)
  k_with "CompEnd" => ((have hSt := (by with_reducible assumption : StopComp)); clear hSt; refine Stop.of ?_)
  k_with "q_clean" => ((repeat (with_reducible rename Fr _ _ _ _ => hz; clear hz)); (repeat (with_reducible rename News _ _ _ _ => hz; clear hz)); (repeat (with_reducible rename _ ∧ _ => hz; clear hz)); (repeat (with_reducible rename @LT.lt Nat _ _ _ => hz; clear hz)); (repeat (with_reducible rename OwnOff _ _ => hz; clear hz)); (repeat (with_reducible rename Cov _ _ _ _ _ => hz; clear hz)); (repeat (with_reducible rename TCov _ _ _ => hz; clear hz)); (repeat (with_reducible rename _ ∈ _ => hz; clear hz)); (repeat (with_reducible rename SigEs _ _ _ _ => hz; clear hz)); (repeat (with_reducible rename ∀ p ∈ _, p ∈ _ => hz; clear hz)); (repeat (with_reducible rename @Ne Nat _ _ => hz; clear hz)); (repeat (with_reducible rename getL _ _ = _ => hz; clear hz)); (repeat (with_reducible rename _ = Data.cell _ => hz; clear hz)); (repeat (with_reducible rename StopFor => hz; clear hz)); (repeat (with_reducible rename Kept _ _ _ => hz; clear hz)); (repeat (with_reducible rename Heap.get? _ _ = _ => hz; clear hz)); (repeat (with_reducible rename @LE.le Nat _ _ _ => hz; clear hz)); (repeat (with_reducible rename IsRange _ _ _ _ _ _ _ _ => hz; clear hz)); (repeat (with_reducible rename Obj.IsDictOf _ _ _ => hz; clear hz)); (repeat (with_reducible rename AllLt _ _ => hz; clear hz)); (repeat (with_reducible rename IntsAre _ _ => hz; clear hz)); (repeat (with_reducible rename PyProof.V.FlatPairs _ _ _ => hz; clear hz)); (repeat (with_reducible rename Heap.IsList _ _ _ => hz; clear hz)); (repeat (with_reducible rename ReadsAll _ _ _ _ => hz; clear hz)); (repeat (with_reducible rename @LT.lt Int _ _ _ => hz; clear hz)); (repeat (with_reducible rename @LE.le Int _ _ _ => hz; clear hz)); (repeat (with_reducible rename _ ∨ _ => hz; clear hz)))
  k_with "q_no" => (exact notin2' (by k_ne) (by k_ne))
  k_with "q_fr" => (first | exact List.forall_mem_nil _ | (refine List.forall_mem_cons.mpr ⟨⟨_, by k_mem⟩, ?_⟩; k_extra "q_fr"))
  k_with "k_ne" => (refine neN ?_; (try dsimp only); k_extra "ne")
  k_with "ne" => (first | with_reducible assumption | exact Nat.ne_of_lt (AllLt.get (by with_reducible assumption) (by k_mem)) | exact Nat.ne_of_gt (AllLt.get (by with_reducible assumption) (by k_mem)) | exact Ne.symm (by with_reducible assumption) | exact Nat.ne_of_gt (AllLt.get2 (by with_reducible assumption) (by with_reducible assumption) (by k_mem)) | exact Nat.ne_of_lt (AllLt.get2 (by with_reducible assumption) (by with_reducible assumption) (by k_mem)) | exact Nat.ne_of_lt (by with_reducible assumption) | exact Nat.ne_of_gt (by with_reducible assumption) | omega)
  k_with "subscriptTail" => (k_here; k_dflt (refine' item_tupleT (by first | exact isTup_P (by assumption) (by assumption) (by assumption) | exact isTup_base (by assumption) (by assumption) | exact isTup_now (by assumption)) (by decide) (by decide) (by rfl) (by rfl) ?_; k_whole))
  k_with "k_steps" => ((try k_fold); repeat' (first | (k_unfold; (try dsimp only)) | (k_end; wrow_close) | walk1 | (dsimp only; walk1) | (leave1; walk_say "STEP leave1"; try dsimp only) | fail "no step"))
  k_with "k_memR" => (first | with_reducible exact List.mem_cons_self .. | with_reducible assumption | (with_reducible refine List.mem_cons_of_mem _ ?_; k_extra "k_memR"))
  k_with "k_memD" => (first | exact List.mem_cons_self .. | with_reducible assumption | (refine List.mem_cons_of_mem _ ?_; k_extra "k_memD"))
  k_with "k_mem" => (first | k_extra "k_memR" | k_extra "k_memD")
  k_with "k_all" => (first | exact List.forall_mem_nil _ | ((with_reducible refine' List.forall_mem_cons.mpr (And.intro ?_ ?_)); k_ne; k_all) | with_reducible assumption | exact OwnOff.ne (by with_reducible assumption) (by k_extra "k_memR") | exact allLt_ne (by with_reducible assumption) | exact allLt_nes (by with_reducible assumption) (by intro p9 hp9; k_extra "k_memR") | exact OwnOff.ne (by assumption) (by k_mem) | ((refine' List.forall_mem_cons.mpr (And.intro ?_ ?_)); k_ne; k_all) | exact allLt_nes (by with_reducible assumption) (by intro p9 hp9; k_mem))
  trivial
theorem reg_M2_1 : True := by
  k_with "k_inst" => (refine' InstAt.of_news (by k_asm) (by k_mem) (by k_mem))
  k_with "k_get" => (first | with_reducible assumption | exact SigEs.first (by with_reducible assumption) | exact SigEs.last (by with_reducible assumption))
  k_with "call ref" => (k_here; (with_reducible show wpAny _ _ (call (Value.ref 248) _) _ _ _); k_dflt (refine' pull_call (by k_asm) (by k_asm) (by k_asm) (by k_asm) (by k_asm) (by k_updF) (by assumption) (by first | assumption | omega) (by decide) (by decide) (by first | exact rfl | assumption) (by ktr_room) (by ktr_units) ?_); (intro k' u' vs' n' ns' h' tk' hlo' hhi' hi' hl' F' N'))
  k_with "setAttr ref" => (k_here; k_dflt ((first | ((with_reducible show wpAny _ _ (setAttr _ (PySem.Str.ofString "first") _) _ _ _); refine' set_first (by k_asm) (by k_asm) (by k_asm) (by k_inst) (by assumption) (by k_is) (by k_is) (by k_is) (by k_is) (by k_updF) ?_) | (refine' set_last (by k_asm) (by k_asm) (by k_asm) (by k_inst) (by assumption) (by k_is) (by k_is) (by k_is) (by k_is) (by k_updF) ?_))); intro h' es' n' F' N' se')
  k_with "execs cons" => ((with_reducible refine wpAny_execs_cons ?_); (try dsimp only))
  k_with "subscriptTail Name Constant ref int" => (k_here; k_dflt (refine' led_item (by k_asm) (by k_mem) (by decide) (by decide) (by exact rfl) ?_ (by with_unfolding_all rfl)))
  k_with "subscriptTail Attribute Name ref int" => (k_here; k_dflt (refine' led_item (by k_asm) (by k_mem) (by decide) (by decide) (by exact rfl) ?_ (by with_unfolding_all rfl)))
  k_with "subscriptTail Attribute Constant ref int" => (k_here; k_dflt (refine' led_item (by k_asm) (by k_mem) (by decide) (by decide) (by exact rfl) ?_ (by with_unfolding_all rfl)))
  k_with "subscriptTail Attribute Name Name ref int" => (k_here; k_dflt (refine' led_item (by k_asm) (by k_mem) (by decide) (by decide) (by exact rfl) ?_ (by with_unfolding_all rfl)))
  k_with "subscriptTail Attribute Name Constant ref int" => (k_here; k_dflt (refine' led_item (by k_asm) (by k_mem) (by decide) (by decide) (by exact rfl) ?_ (by with_unfolding_all rfl)))
  k_with "subscriptTail Subscript Name Constant Constant ref int" => (k_here; k_dflt (refine' led_tup (by k_asm) (by k_mem) (by decide) (by decide) (by exact rfl) ?_ (by with_unfolding_all rfl)))
  k_with "exec For Tuple List cons nil" => (k_here; k_dflt ((rename Fr _ _ _ _ => lF'); (refine' For_turns lF' ?_; k_whole)))
  k_with "pyIter ref" => ((with_reducible show wpAny _ _ (pyIter (Value.ref _)) (fun it s₂ => TurnsAt _ _ _ _ _ _ _ _ _ it s₂) _ _); k_dflt ((rename Fr _ _ _ _ => tF); (rename News _ _ _ _ => tN); refine' iter_listTurns (by exact rfl) tF tN (by k_mem) (by exact rfl) (by exact rfl) ?_; (intro i' l1; (try k_lt l1)); simp only [List.map]))
  k_with "ItemsRest" => (k_dflt (first | ((with_unfolding_all refine ItemsRest.val (fun h' tk' F' => ?_)); (dsimp only [locC] at F'); (refine AllObj.cons (fun o' hc' => ?_); (try dsimp only at hc')); (refine AllObj.nil (fun N' => ?_)); (try simp only [List.cons_append, List.nil_append, locC] at N')) | ((with_unfolding_all refine ItemsRest.zero (fun h' tk' F' N' => ?_)); (dsimp only [locC] at F' N'))))
  k_with "UnrEndW" => (k_dflt (refine' unr_tail (by assumption) (by assumption) (by k_all) (by k_subL) ?_))
  k_with "newTuple" => (k_here; k_dflt (refine' kup_newTuple (by k_asm) (by k_asm) ?_ (by kmk_size)); intro D' h' F' N' l1; (try k_lt l1))
  k_with "exec If" => ((have hSt := (by with_reducible assumption : StopIf)); clear hSt; refine Stop.of ?_)
  trivial
theorem seg_M2 : True := by
  k_with "seg" => (
    refine lb ?_
    w_on
    k_fill
    intros
    obtain ⟨d, es, nes, aL, nL, l, us, n, ns, om, or, ck, vm, vk, y0, d0, y1, d1, y2, d2, y3, d3, y4, d4, es0, es1, es2, es3, es4, n0, n1, n2, n3, n4, tl, u, F0, N0, O0, mx, md, mL, m3, m1, my0, md0, my1, md1, my2, md2, my3, my4, s0, s1, s2, s3, s4, gs, hIus, hlus, e1, e2, e3, r1, r2, r3, r4, r5, r6⟩ := segB
    have hIf : StopIf := ⟨⟩
    k_steps
    unfold Stop
    rename Fr _ _ _ _ => F9
    rename @LT.lt Int _ _ 5 => hk9
    refine cut_if F9 x hk9 ?h1 ?h2
    case h1 =>
      clear hIf
      k_steps
      all_goals
        rename Fr _ _ _ _ => F8
        rename News _ _ _ _ => N8
        refine lawC F8 rfl rfl N8 (om := om) (l := l) (by k_mem) (by k_mem) (by k_mem) (by k_mem) (by k_mem) (by k_mem) (by k_mem) (by k_mem) (by k_mem) (by k_mem) (by k_mem) (by k_mem) (by k_mem) (by k_mem) (by k_mem) (by k_mem) (by k_mem) (by k_mem) (by k_mem) s0 s1 s2 (by assumption) (by assumption) (by omega) (by omega) gs (by assumption) (by assumption) e1 (by assumption) e3 (by k_ne) (by k_ne) (by k_ne) (fun e => O0 _ mL l (.tail _ (.head _)) e)
    intro h2 tk2 packC
    clear hIf F9
    k_extra "q_clean"
    revert x
    (repeat (rename _ => hz9; revert hz9))
    refine wr ?_
    apply cutw)
  trivial
set_option tactic.hygienic false in
set_option maxHeartbeats 8000000 in
open_top lc for PySem.Challenge.rw_on0116_01
theorem reg_M3_0 : True := by
  k_with_none
  k_with "q_enter" => (refine' enterQ (by k_asm) (by k_asm) (by k_asm) (by k_asm) (by k_asm) (by exact rfl) (by exact rfl) (by assumption) (by k_is) (by k_is) (by ktr_room) (by exact BindsTo.of_eq rfl) (by exact locs rfl) ?_ (by exact rfl) (by exact rfl) (by exact rfl) (by decide); k_whole)
  k_with "units_room" => (ktr_units)
  k_with "q_len" => (rw [PySem.sizeLine_eq]; (try simp only [List.length_append, List.length_cons, List.length_nil]); omega)
  k_with "call builtin:list.append" => (k_here; k_dflt (refine' append_L (by k_asm) (by k_asm) (by k_upd) (by k_extra "q_len") ?_; (intro h' F' N'; (try dsimp only [List.nil_append, List.cons_append] at N'))))
  k_with "call builtin:list.pop" => (k_here; k_dflt (refine' pop_L (by k_asm) (by k_asm) (by k_upd) (by k_extra "q_len") ?_; (intro h' F' N'; (try dsimp only [List.nil_append, List.cons_append] at N'))))
  k_with "truthy ref" => (k_here; k_dflt (refine' truthy_L (by k_asm) (by k_mem) (by k_extra "q_len") ?_))
  k_with "exec While" => ((have hSt := (by with_reducible assumption : StopWhile)); clear hSt; refine Stop.of ?_)
  k_with "pyIter ref" => ((have hSt := (by with_reducible assumption : StopFor)); clear hSt; refine Stop.of ?_)
  k_with "call type:reversed" => (k_here; k_dflt (refine' rvt_L (by k_asm) (by k_asm) (by exact isTup_now (News.get (by assumption) (by k_mem))) (by ((try simp only [List.length_cons, List.length_nil]); omega)) ?_; (intro I' h' tk' F' N' l1; (try k_lt l1))))
  k_with "call builtin:list.extend" => (k_here; k_dflt (refine' extend_L (by k_asm) (by k_asm) (by (intro o'; k_upd)) (by first | assumption | exact News.get (by assumption) (by k_mem)) (by k_extra "q_len") ?_; (intro h' n' F' N'; (try dsimp only [List.nil_append, List.cons_append] at N'))))
  k_with "call type:list" => (k_here; k_dflt (refine' listT_L (by k_asm) (by k_asm) (by first | exact isTup_P (by assumption) (by assumption) (by assumption) | exact isTup_base (by assumption) (by assumption)) (by k_extra "q_len") ?_; (intro D' c' h' F' N' l1; (try k_lt l1))))
  k_with "exec For" => ((have hSt := (by with_reducible assumption : StopFor)); clear hSt; k_here; (rename Fr _ _ _ _ => lF'); (with_unfolding_all refine' For_invVF lF' (by exact rfl) (by exact rfl) ?_; k_whole))
  k_with "CompSrcT" => (k_here; (have hSt := (by with_reducible assumption : StopComp)); clear hSt; k_dflt (refine LCt.CompSrcT.ledger (by rfl) (by k_asm) (by k_asm) (by k_mem) (by (try rw [List.size_toArray]); k_extra "q_len") ?_); refine Stop.of ?_)
  k_with "CompSrc" => (k_here; (have hSt := (by with_reducible assumption : StopComp)); clear hSt; k_dflt (refine LCg.CompSrc.ledger (by rfl) (by k_asm) (by k_asm) (by k_mem) (by (try rw [List.size_toArray]); k_extra "q_len") ?_); refine Stop.of ?_)
  k_with "CompEnd" => ((have hSt := (by with_reducible assumption : StopComp)); clear hSt; refine Stop.of ?_)
  k_with "q_clean" => ((repeat (with_reducible rename Fr _ _ _ _ => hz; clear hz)); (repeat (with_reducible rename News _ _ _ _ => hz; clear hz)); (repeat (with_reducible rename _ ∧ _ => hz; clear hz)); (repeat (with_reducible rename @LT.lt Nat _ _ _ => hz; clear hz)); (repeat (with_reducible rename OwnOff _ _ => hz; clear hz)); (repeat (with_reducible rename Cov _ _ _ _ _ => hz; clear hz)); (repeat (with_reducible rename TCov _ _ _ => hz; clear hz)); (repeat (with_reducible rename _ ∈ _ => hz; clear hz)); (repeat (with_reducible rename SigEs _ _ _ _ => hz; clear hz)); (repeat (with_reducible rename ∀ p ∈ _, p ∈ _ => hz; clear hz)); (repeat (with_reducible rename @Ne Nat _ _ => hz; clear hz)); (repeat (with_reducible rename getL _ _ = _ => hz; clear hz)); (repeat (with_reducible rename _ = Data.cell _ => hz; clear hz)); (repeat (with_reducible rename StopFor => hz; clear hz)); (repeat (with_reducible rename Kept _ _ _ => hz; clear hz)); (repeat (with_reducible rename Heap.get? _ _ = _ => hz; clear hz)); (repeat (with_reducible rename @LE.le Nat _ _ _ => hz; clear hz)); (repeat (with_reducible rename IsRange _ _ _ _ _ _ _ _ => hz; clear hz)); (repeat (with_reducible rename Obj.IsDictOf _ _ _ => hz; clear hz)); (repeat (with_reducible rename AllLt _ _ => hz; clear hz)); (repeat (with_reducible rename IntsAre _ _ => hz; clear hz)); (repeat (with_reducible rename PyProof.V.FlatPairs _ _ _ => hz; clear hz)); (repeat (with_reducible rename Heap.IsList _ _ _ => hz; clear hz)); (repeat (with_reducible rename ReadsAll _ _ _ _ => hz; clear hz)); (repeat (with_reducible rename @LT.lt Int _ _ _ => hz; clear hz)); (repeat (with_reducible rename @LE.le Int _ _ _ => hz; clear hz)); (repeat (with_reducible rename _ ∨ _ => hz; clear hz)))
  k_with "q_no" => (exact notin2' (by k_ne) (by k_ne))
  k_with "q_fr" => (first | exact List.forall_mem_nil _ | (refine List.forall_mem_cons.mpr ⟨⟨_, by k_mem⟩, ?_⟩; k_extra "q_fr"))
  k_with "k_ne" => (refine neN ?_; (try dsimp only); k_extra "ne")
  k_with "ne" => (first | with_reducible assumption | exact Nat.ne_of_lt (AllLt.get (by with_reducible assumption) (by k_mem)) | exact Nat.ne_of_gt (AllLt.get (by with_reducible assumption) (by k_mem)) | exact Ne.symm (by with_reducible assumption) | exact Nat.ne_of_gt (AllLt.get2 (by with_reducible assumption) (by with_reducible assumption) (by k_mem)) | exact Nat.ne_of_lt (AllLt.get2 (by with_reducible assumption) (by with_reducible assumption) (by k_mem)) | exact Nat.ne_of_lt (by with_reducible assumption) | exact Nat.ne_of_gt (by with_reducible assumption) | omega)
  k_with "subscriptTail" => (k_here; k_dflt (refine' item_tupleT (by first | exact isTup_P (by assumption) (by assumption) (by assumption) | exact isTup_base (by assumption) (by assumption) | exact isTup_now (by assumption)) (by decide) (by decide) (by rfl) (by rfl) ?_; k_whole))
  k_with "k_steps" => ((try k_fold); repeat' (first | (k_unfold; (try dsimp only)) | (k_end; wrow_close) | walk1 | (dsimp only; walk1) | (leave1; walk_say "STEP leave1"; try dsimp only) | fail "no step"))
  k_with "k_memR" => (first | with_reducible exact List.mem_cons_self .. | with_reducible assumption | (with_reducible refine List.mem_cons_of_mem _ ?_; k_extra "k_memR"))
  k_with "k_memD" => (first | exact List.mem_cons_self .. | with_reducible assumption | (refine List.mem_cons_of_mem _ ?_; k_extra "k_memD"))
  k_with "k_mem" => (first | k_extra "k_memR" | k_extra "k_memD")
  k_with "k_all" => (first | exact List.forall_mem_nil _ | ((with_reducible refine' List.forall_mem_cons.mpr (And.intro ?_ ?_)); k_ne; k_all) | with_reducible assumption | exact OwnOff.ne (by with_reducible assumption) (by k_extra "k_memR") | exact allLt_ne (by with_reducible assumption) | exact allLt_nes (by with_reducible assumption) (by intro p9 hp9; k_extra "k_memR") | exact OwnOff.ne (by assumption) (by k_mem) | ((refine' List.forall_mem_cons.mpr (And.intro ?_ ?_)); k_ne; k_all) | exact allLt_nes (by with_reducible assumption) (by intro p9 hp9; k_mem))
  trivial
theorem reg_M3_1 : True := by
  k_with "k_inst" => (refine' InstAt.of_news (by k_asm) (by k_mem) (by k_mem))
  k_with "k_get" => (first | with_reducible assumption | exact SigEs.first (by with_reducible assumption) | exact SigEs.last (by with_reducible assumption))
  k_with "call ref" => (k_here; (with_reducible show wpAny _ _ (call (Value.ref 248) _) _ _ _); k_dflt (refine' pull_call (by k_asm) (by k_asm) (by k_asm) (by k_asm) (by k_asm) (by k_updF) (by assumption) (by first | assumption | omega) (by decide) (by decide) (by first | exact rfl | assumption) (by ktr_room) (by ktr_units) ?_); (intro k' u' vs' n' ns' h' tk' hlo' hhi' hi' hl' F' N'))
  k_with "setAttr ref" => (k_here; k_dflt ((first | ((with_reducible show wpAny _ _ (setAttr _ (PySem.Str.ofString "first") _) _ _ _); refine' set_first (by k_asm) (by k_asm) (by k_asm) (by k_inst) (by assumption) (by k_is) (by k_is) (by k_is) (by k_is) (by k_updF) ?_) | (refine' set_last (by k_asm) (by k_asm) (by k_asm) (by k_inst) (by assumption) (by k_is) (by k_is) (by k_is) (by k_is) (by k_updF) ?_))); intro h' es' n' F' N' se')
  k_with "execs cons" => ((with_reducible refine wpAny_execs_cons ?_); (try dsimp only))
  k_with "subscriptTail Name Constant ref int" => (k_here; k_dflt (refine' led_item (by k_asm) (by k_mem) (by decide) (by decide) (by exact rfl) ?_ (by with_unfolding_all rfl)))
  k_with "subscriptTail Attribute Name ref int" => (k_here; k_dflt (refine' led_item (by k_asm) (by k_mem) (by decide) (by decide) (by exact rfl) ?_ (by with_unfolding_all rfl)))
  k_with "subscriptTail Attribute Constant ref int" => (k_here; k_dflt (refine' led_item (by k_asm) (by k_mem) (by decide) (by decide) (by exact rfl) ?_ (by with_unfolding_all rfl)))
  k_with "subscriptTail Attribute Name Name ref int" => (k_here; k_dflt (refine' led_item (by k_asm) (by k_mem) (by decide) (by decide) (by exact rfl) ?_ (by with_unfolding_all rfl)))
  k_with "subscriptTail Attribute Name Constant ref int" => (k_here; k_dflt (refine' led_item (by k_asm) (by k_mem) (by decide) (by decide) (by exact rfl) ?_ (by with_unfolding_all rfl)))
  k_with "subscriptTail Subscript Name Constant Constant ref int" => (k_here; k_dflt (refine' led_tup (by k_asm) (by k_mem) (by decide) (by decide) (by exact rfl) ?_ (by with_unfolding_all rfl)))
  k_with "UnrEndW" => (k_dflt (refine' unr_tail (by assumption) (by assumption) (by k_all) (by k_subL) ?_))
  k_with "newTuple" => (k_here; k_dflt (refine' kup_newTuple (by k_asm) (by k_asm) ?_ (by kmk_size)); intro D' h' F' N' l1; (try k_lt l1))
  k_with "CompSrc" => ((have hSt := (by with_reducible assumption : StopComp)); clear hSt; refine Stop.of ?_)
  k_with "call ref" => (k_here; (with_reducible show wpAny _ _ (call (Value.ref 262) _) _ _ _); refine Stop.of ?_)
  k_with "exec For Name Name cons nil" => ((have hSt := (by with_reducible assumption : StopFor)); clear hSt; refine Stop.of ?_)
  k_with "call type:tuple" => (k_here; k_dflt (refine' tupleT_L (by k_asm) (by k_asm) (by k_mem) (by omega) ?_; (intro D' h' F' N' l1; (try k_lt l1))))
  trivial
theorem range_ok {n : Nat} (h : n ≤ 100) : Builtin.Range.small 0 (n : Int) 1 = true ∧ Builtin.Range.rangeSize 0 (n : Int) 1 = (n : Int) := by
  have hz : Builtin.Range.rangeSize 0 (n : Int) 1 = (n : Int) := by
    rw [rangeSize_one]; split <;> omega
  have hf : ∀ z : Int, 0 ≤ z → z ≤ 100 → Builtin.Range.rangeFitsLong z = true := fun z h1 h2 => by
    unfold Builtin.Range.rangeFitsLong
    rw [Bool.and_eq_true, decide_eq_true_iff, decide_eq_true_iff]
    omega
  refine ⟨?_, hz⟩
  unfold Builtin.Range.small
  rw [hz, hf 0 (by omega) (by omega), hf (n : Int) (by omega) (by omega), hf 1 (by omega) (by omega), if_pos (by decide), hf ((n : Int) + (1 - 1)) (by omega) (by omega)]
  simp
theorem seg_M3 : True := by
  k_with "seg" => (
    refine lc ?_
    w_on
    k_fill
    intros
    obtain ⟨l, us, n, ns, om, or, ck, vm, vk, lE, e0, e1, nE, t1, t2, tl, dl, u, F0, N0, O0, m2, m1, mE, me0, hdl, hdsg, hdc, hIus, hlus, h1, h2, h3, q3, hlo⟩ := packC
    dsimp only
    have hCo : StopComp := ⟨⟩
    k_steps
    unfold Stop
    clear hCo
    rename Fr _ _ _ _ => F9
    rename News _ _ _ _ => N9
    rename IsRange _ _ _ _ _ _ _ _ => hr
    rename @LT.lt Int _ _ 5 => hk5
    rename @LE.le Int _ 0 _ => hk0
    obtain ⟨kk, hkk⟩ := Int.eq_ofNat_of_zero_le hk0
    subst hkk
    have hko := range_ok (n := kk) (by omega)
    k_dflt refine LCg.CompSrc.range (by rfl) F9 N9 hr hko.1 hko.2 (by rw [PySem.sizeLine_eq]; omega) ?_
    intro g9
    rename IntsAre _ _ => hi9
    rename List.length _ ≤ 70 => hl9
    rename (_ < _) ∧ (_ < _) ∧ AllLt _ tl => l9
    rename _ = Data.cell (some (Value.ref _)) => dM
    refine compU_ind (JInner _ _ _ _ tl) ⟨_, _, _, [], 0, tl, [], rfl, hi9, hl9, own3 O0 l9.2.2, fun _ h => h, .nil, .nil, rfl, fun _ h => nomatch h⟩ ?_ ?_
    · rintro i v I oI C oC D mm h3 tk3 E' ys nw hi hv ⟨us2, n2, ns2, ms, nM, tl', sts, rfl, hI2, hl2, O2, hs2, hA, hB, hlen, hG⟩ hC hx F2 N2 off ne
      clear F9 N9
      have m1' := hs2 _ m1
      have hml := seen_sum sts hG
      have hmsl := hB.length
      obtain ⟨ne1, ne2, ne3⟩ := ne
      k_steps
      unfold Stop
      rename Fr _ _ _ _ => F7
      rename News _ _ _ _ => N7
      k_dflt (refine' Does.use (stat_one l _ 1 _ us2 n2 ns2 ms nM _ rfl ?ne (N7.get (by k_mem)) hI2 hl2 (N7.get (by k_mem)) ?hml) ?k1 F7 ?k3 ?k4 ?kK (all_two (news_none N7 (by k_mem)) (news_none N7 (by k_mem))) ?kd ?ku ?_; (case k1 => k_asm); (case k3 => k_asm); (case k4 => k_asm); (case kK => first | exact rfl | assumption); (case ne => k_ne); (case hml => omega); (case kd => ktr_room); (case ku => ktr_units))
      intro r h4 tk4 hK ⟨st, us', n', ns', ms', nM', hr2, gR, hI', hl', gM, hS', hG', hlev⟩
      exact inner_turn F7 N7 off (by k_ne) (by k_ne) q3 O2 hs2 hA hB hlen hG hK hr2 gR hI' hl' gM hS' hG' hlev
    rintro ys nw ⟨us2, n2, ns2, ms, nM, tl', sts, rfl, hI2, hl2, O2, hs2, hA, hB, hlen, hG⟩
    clear F9 N9
    unfold LCg.FinA
    intro D h5 tk5 F5 N5 o5
    have yl : ys.length ≤ 4 := by rw [hA.length]; omega
    have hFo : StopFor := ⟨⟩
    k_steps
    unfold Stop
    clear hFo
    rename Fr _ _ _ _ => F9
    rename News _ _ _ _ => N9
    rename (_ < _) ∧ (_ < _) ∧ (_ < _) ∧ (_ < _) ∧ (_ < _) ∧ (_ < _) ∧ AllLt _ tl' => lW
    have hWt := allLt_ne lW.2.2.2.2.2.2
    have packD := lawD (tl' := tl') F9 rfl rfl rfl rfl N9 (.head _) (List.mem_cons_of_mem _ (List.mem_cons_of_mem _ (List.mem_cons_of_mem _ (List.mem_cons_of_mem _ (List.mem_cons_of_mem _ (List.mem_cons_of_mem _ (List.mem_cons_of_mem _ (hs2 _ m2)))))))) (List.mem_cons_of_mem _ (List.mem_cons_of_mem _ (List.mem_cons_of_mem _ (List.mem_cons_of_mem _ (List.mem_cons_of_mem _ (.head _))))))
      (List.mem_cons_of_mem _ (List.mem_cons_of_mem _ (List.mem_cons_of_mem _ (List.mem_cons_of_mem _ (.head _))))) (List.mem_cons_of_mem _ (List.mem_cons_of_mem _ (List.mem_cons_of_mem _ (List.mem_cons_of_mem _ (List.mem_cons_of_mem _ (List.mem_cons_of_mem _ (List.mem_cons_of_mem _ (hs2 _ mE)))))))) (List.mem_cons_of_mem _ (List.mem_cons_of_mem _ (List.mem_cons_of_mem _ (List.mem_cons_of_mem _ (List.mem_cons_of_mem _ (List.mem_cons_of_mem _ (List.mem_cons_of_mem _ (hs2 _ me0))))))))
      (.tail _ (.head _)) (.tail _ (.tail _ (.head _))) (fun p hp => List.mem_cons_of_mem _ (List.mem_cons_of_mem _ (List.mem_cons_of_mem _ (List.mem_cons_of_mem _ (List.mem_cons_of_mem _ (List.mem_cons_of_mem _ (List.mem_cons_of_mem _ hp))))))) hWt (fun p hp => hs2 _ (hdl p hp)) hdsg hdc h2 dM hA hB hG (by omega) hlo (by k_ne) (by k_ne) (fun q => hWt _ (hs2 _ mE) q)
    clear F9 N9 hWt
    k_extra "q_clean"
    clear hA hB hG hdsg hdc
    revert x
    (repeat (rename _ => hz9; revert hz9))
    refine wr ?_
    apply cutw)
  trivial
set_option tactic.hygienic false in
set_option maxHeartbeats 8000000 in
open_top ld_ for PySem.Challenge.rw_on0116_01
theorem reg_M4_0 : True := by
  k_with_none
  k_with "q_enter" => (refine' enterQ (by k_asm) (by k_asm) (by k_asm) (by k_asm) (by k_asm) (by exact rfl) (by exact rfl) (by assumption) (by k_is) (by k_is) (by ktr_room) (by exact BindsTo.of_eq rfl) (by exact locs rfl) ?_ (by exact rfl) (by exact rfl) (by exact rfl) (by decide); k_whole)
  k_with "units_room" => (ktr_units)
  k_with "q_len" => (rw [PySem.sizeLine_eq]; (try simp only [List.length_append, List.length_cons, List.length_nil]); omega)
  k_with "call builtin:list.append" => (k_here; k_dflt (refine' append_L (by k_asm) (by k_asm) (by k_upd) (by k_extra "q_len") ?_; (intro h' F' N'; (try dsimp only [List.nil_append, List.cons_append] at N'))))
  k_with "call builtin:list.pop" => (k_here; k_dflt (refine' pop_L (by k_asm) (by k_asm) (by k_upd) (by k_extra "q_len") ?_; (intro h' F' N'; (try dsimp only [List.nil_append, List.cons_append] at N'))))
  k_with "truthy ref" => (k_here; k_dflt (refine' truthy_L (by k_asm) (by k_mem) (by k_extra "q_len") ?_))
  k_with "exec While" => ((have hSt := (by with_reducible assumption : StopWhile)); clear hSt; refine Stop.of ?_)
  k_with "pyIter ref" => ((have hSt := (by with_reducible assumption : StopFor)); clear hSt; refine Stop.of ?_)
  k_with "call type:reversed" => (k_here; k_dflt (refine' rvt_L (by k_asm) (by k_asm) (by exact isTup_now (News.get (by assumption) (by k_mem))) (by ((try simp only [List.length_cons, List.length_nil]); omega)) ?_; (intro I' h' tk' F' N' l1; (try k_lt l1))))
  k_with "call builtin:list.extend" => (k_here; k_dflt (refine' extend_L (by k_asm) (by k_asm) (by (intro o'; k_upd)) (by first | assumption | exact News.get (by assumption) (by k_mem)) (by k_extra "q_len") ?_; (intro h' n' F' N'; (try dsimp only [List.nil_append, List.cons_append] at N'))))
  k_with "call type:list" => (k_here; k_dflt (refine' listT_L (by k_asm) (by k_asm) (by first | exact isTup_P (by assumption) (by assumption) (by assumption) | exact isTup_base (by assumption) (by assumption)) (by k_extra "q_len") ?_; (intro D' c' h' F' N' l1; (try k_lt l1))))
  k_with "exec For" => ((have hSt := (by with_reducible assumption : StopFor)); clear hSt; k_here; (rename Fr _ _ _ _ => lF'); (with_unfolding_all refine' For_invVF lF' (by exact rfl) (by exact rfl) ?_; k_whole))
  k_with "CompSrcT" => (k_here; (have hSt := (by with_reducible assumption : StopComp)); clear hSt; k_dflt (refine LCt.CompSrcT.ledger (by rfl) (by k_asm) (by k_asm) (by k_mem) (by (try rw [List.size_toArray]); k_extra "q_len") ?_); refine Stop.of ?_)
  k_with "CompSrc" => (k_here; (have hSt := (by with_reducible assumption : StopComp)); clear hSt; k_dflt (refine LCg.CompSrc.ledger (by rfl) (by k_asm) (by k_asm) (by k_mem) (by (try rw [List.size_toArray]); k_extra "q_len") ?_); refine Stop.of ?_)
  k_with "CompEnd" => ((have hSt := (by with_reducible assumption : StopComp)); clear hSt; refine Stop.of ?_)
  k_with "q_clean" => ((repeat (with_reducible rename Fr _ _ _ _ => hz; clear hz)); (repeat (with_reducible rename News _ _ _ _ => hz; clear hz)); (repeat (with_reducible rename _ ∧ _ => hz; clear hz)); (repeat (with_reducible rename @LT.lt Nat _ _ _ => hz; clear hz)); (repeat (with_reducible rename OwnOff _ _ => hz; clear hz)); (repeat (with_reducible rename Cov _ _ _ _ _ => hz; clear hz)); (repeat (with_reducible rename TCov _ _ _ => hz; clear hz)); (repeat (with_reducible rename _ ∈ _ => hz; clear hz)); (repeat (with_reducible rename SigEs _ _ _ _ => hz; clear hz)); (repeat (with_reducible rename ∀ p ∈ _, p ∈ _ => hz; clear hz)); (repeat (with_reducible rename @Ne Nat _ _ => hz; clear hz)); (repeat (with_reducible rename getL _ _ = _ => hz; clear hz)); (repeat (with_reducible rename _ = Data.cell _ => hz; clear hz)); (repeat (with_reducible rename StopFor => hz; clear hz)); (repeat (with_reducible rename Kept _ _ _ => hz; clear hz)); (repeat (with_reducible rename Heap.get? _ _ = _ => hz; clear hz)); (repeat (with_reducible rename @LE.le Nat _ _ _ => hz; clear hz)); (repeat (with_reducible rename IsRange _ _ _ _ _ _ _ _ => hz; clear hz)); (repeat (with_reducible rename Obj.IsDictOf _ _ _ => hz; clear hz)); (repeat (with_reducible rename AllLt _ _ => hz; clear hz)); (repeat (with_reducible rename IntsAre _ _ => hz; clear hz)); (repeat (with_reducible rename PyProof.V.FlatPairs _ _ _ => hz; clear hz)); (repeat (with_reducible rename Heap.IsList _ _ _ => hz; clear hz)); (repeat (with_reducible rename ReadsAll _ _ _ _ => hz; clear hz)); (repeat (with_reducible rename @LT.lt Int _ _ _ => hz; clear hz)); (repeat (with_reducible rename @LE.le Int _ _ _ => hz; clear hz)); (repeat (with_reducible rename _ ∨ _ => hz; clear hz)))
  k_with "q_no" => (exact notin2' (by k_ne) (by k_ne))
  k_with "q_fr" => (first | exact List.forall_mem_nil _ | (refine List.forall_mem_cons.mpr ⟨⟨_, by k_mem⟩, ?_⟩; k_extra "q_fr"))
  k_with "k_ne" => (refine neN ?_; (try dsimp only); k_extra "ne")
  k_with "ne" => (first | with_reducible assumption | exact Nat.ne_of_lt (AllLt.get (by with_reducible assumption) (by k_mem)) | exact Nat.ne_of_gt (AllLt.get (by with_reducible assumption) (by k_mem)) | exact Ne.symm (by with_reducible assumption) | exact Nat.ne_of_gt (AllLt.get2 (by with_reducible assumption) (by with_reducible assumption) (by k_mem)) | exact Nat.ne_of_lt (AllLt.get2 (by with_reducible assumption) (by with_reducible assumption) (by k_mem)) | exact Nat.ne_of_lt (by with_reducible assumption) | exact Nat.ne_of_gt (by with_reducible assumption) | omega)
  k_with "subscriptTail" => (k_here; k_dflt (refine' item_tupleT (by first | exact isTup_P (by assumption) (by assumption) (by assumption) | exact isTup_base (by assumption) (by assumption) | exact isTup_now (by assumption)) (by decide) (by decide) (by rfl) (by rfl) ?_; k_whole))
  k_with "k_steps" => ((try k_fold); repeat' (first | (k_unfold; (try dsimp only)) | (k_end; wrow_close) | walk1 | (dsimp only; walk1) | (leave1; walk_say "STEP leave1"; try dsimp only) | fail "no step"))
  k_with "k_memR" => (first | with_reducible exact List.mem_cons_self .. | with_reducible assumption | (with_reducible refine List.mem_cons_of_mem _ ?_; k_extra "k_memR"))
  k_with "k_memD" => (first | exact List.mem_cons_self .. | with_reducible assumption | (refine List.mem_cons_of_mem _ ?_; k_extra "k_memD"))
  k_with "k_mem" => (first | k_extra "k_memR" | k_extra "k_memD")
  k_with "k_all" => (first | exact List.forall_mem_nil _ | ((with_reducible refine' List.forall_mem_cons.mpr (And.intro ?_ ?_)); k_ne; k_all) | with_reducible assumption | exact OwnOff.ne (by with_reducible assumption) (by k_extra "k_memR") | exact allLt_ne (by with_reducible assumption) | exact allLt_nes (by with_reducible assumption) (by intro p9 hp9; k_extra "k_memR") | exact OwnOff.ne (by assumption) (by k_mem) | ((refine' List.forall_mem_cons.mpr (And.intro ?_ ?_)); k_ne; k_all) | exact allLt_nes (by with_reducible assumption) (by intro p9 hp9; k_mem))
  trivial
theorem reg_M4_1 : True := by
  k_with "k_inst" => (refine' InstAt.of_news (by k_asm) (by k_mem) (by k_mem))
  k_with "k_get" => (first | with_reducible assumption | exact SigEs.first (by with_reducible assumption) | exact SigEs.last (by with_reducible assumption))
  k_with "call ref" => (k_here; (with_reducible show wpAny _ _ (call (Value.ref 248) _) _ _ _); k_dflt (refine' pull_call (by k_asm) (by k_asm) (by k_asm) (by k_asm) (by k_asm) (by k_updF) (by assumption) (by first | assumption | omega) (by decide) (by decide) (by first | exact rfl | assumption) (by ktr_room) (by ktr_units) ?_); (intro k' u' vs' n' ns' h' tk' hlo' hhi' hi' hl' F' N'))
  k_with "setAttr ref" => (k_here; k_dflt ((first | ((with_reducible show wpAny _ _ (setAttr _ (PySem.Str.ofString "first") _) _ _ _); refine' set_first (by k_asm) (by k_asm) (by k_asm) (by k_inst) (by assumption) (by k_is) (by k_is) (by k_is) (by k_is) (by k_updF) ?_) | (refine' set_last (by k_asm) (by k_asm) (by k_asm) (by k_inst) (by assumption) (by k_is) (by k_is) (by k_is) (by k_is) (by k_updF) ?_))); intro h' es' n' F' N' se')
  k_with "execs cons" => ((with_reducible refine wpAny_execs_cons ?_); (try dsimp only))
  k_with "subscriptTail Attribute Name ref int" => (k_here; k_dflt (refine' led_item (by k_asm) (by k_mem) (by decide) (by decide) (by exact rfl) ?_ (by with_unfolding_all rfl)))
  k_with "subscriptTail Attribute Constant ref int" => (k_here; k_dflt (refine' led_item (by k_asm) (by k_mem) (by decide) (by decide) (by exact rfl) ?_ (by with_unfolding_all rfl)))
  k_with "subscriptTail Attribute Name Name ref int" => (k_here; k_dflt (refine' led_item (by k_asm) (by k_mem) (by decide) (by decide) (by exact rfl) ?_ (by with_unfolding_all rfl)))
  k_with "subscriptTail Attribute Name Constant ref int" => (k_here; k_dflt (refine' led_item (by k_asm) (by k_mem) (by decide) (by decide) (by exact rfl) ?_ (by with_unfolding_all rfl)))
  k_with "subscriptTail Subscript Name Constant Constant ref int" => (k_here; k_dflt (refine' led_tup (by k_asm) (by k_mem) (by decide) (by decide) (by exact rfl) ?_ (by with_unfolding_all rfl)))
  k_with "UnrEndW" => (k_dflt (refine' unr_tail (by assumption) (by assumption) (by k_all) (by k_subL) ?_))
  k_with "newTuple" => (k_here; k_dflt (refine' kup_newTuple (by k_asm) (by k_asm) ?_ (by kmk_size)); intro D' h' F' N' l1; (try k_lt l1))
  k_with "subscriptTail Name Constant ref int" => (k_here; k_dflt (first | (refine' led_tup (by k_asm) (by k_mem) (by decide) (by decide) (by exact rfl) ?_ (by with_unfolding_all rfl)) | (refine' led_item (by k_asm) (by k_mem) (by decide) (by decide) (by exact rfl) ?_ (by with_unfolding_all rfl))))
  k_with "exec For Name Name cons nil" => ((have hSt := (by with_reducible assumption : StopFor)); clear hSt; k_here; k_dflt ((rename Fr _ _ _ _ => lF'); (with_unfolding_all refine' For_invVF lF' (by exact rfl) (by exact rfl) ?_; k_whole)))
  k_with "compareOp NotIn" => (k_here; k_dflt (refine' notin_ex (by k_asm) (by k_mem) (by assumption) (by assumption) (by assumption) (by ke_room) ?_))
  trivial
theorem seg_M4 : True := by
  k_with "seg" => (
    refine ld_ ?_
    w_on
    k_fill
    intros
    obtain ⟨W, S, aM, lE, e0, e1, ck, om, vk, ms, nM, nE, t1, t2, tl, dl, sts, u, F0, N0, O0, m2, m3, mM, mE, me0, hdl, hdsg, hdc, h2, h3, hnd, hms, hG, hsl, hWc, hlo⟩ := packD
    have hFo : StopFor := ⟨⟩
    dsimp only [pin] at F0
    k_steps
    unfold Stop
    clear hFo
    rename Fr _ _ _ _ => F9
    rename News _ _ _ _ => N9
    have hdep : ∀ e ∈ sts.flatMap St.seen, e.dep ≤ 20 := seen_dep hG
    have hlen : (sts.flatMap St.seen).length ≤ 92 := by have := seen_sum sts hG; omega
    k_dflt refine for_list (vs := ms) (nn := nM) (adr := [W]) (tl₀ := tl) (fun c : List Value × Nat => [(W, listOf c.1.toArray c.2)]) (fun _ => [(Str.ofString "design", .ref x), (Str.ofString "ends", .ref lE), (Str.ofString "statement", .ref S), (Str.ofString "words", .ref W)])
      (fun i c _ => All2 (ExR (PT tl)) c.1 (wAll ((sts.flatMap St.seen).take i))) ([], 0) rfl (N9.get (List.mem_cons_of_mem _ mM)) ?_ (fun c => all_one list_nt) (fun _ => rfl) (fun _ _ _ _ _ x => x) F9 N9 O0 ?_ .nil ?_ ?_
    · intro q
      rw [List.mem_singleton] at q
      exact O0 _ mM W (.head _) q
    · intro p hp
      simp only [List.mem_cons, List.not_mem_nil, or_false] at hp
      rcases hp with rfl | rfl | rfl | rfl <;> rfl
    · intro i y x91 u2 h5 tk5 tl3 hy F5 N5 O5 C5 TC5 hs5 hI
      (try dsimp only); (try k_fold)
      obtain ⟨cs, cn⟩ := x91
      dsimp only [pin, locC, List.cons_append, List.nil_append] at F5 N5 O5 C5 hI ⊢
      clear F9 N9
      obtain ⟨e, he, hyr⟩ := hms.get hy
      have hxd := hdep e (List.mem_of_getElem? he)
      have hPn : ∀ a vs, PT tl a vs → TupAt h5 a vs := fun a vs z => (N5 _ (.tail _ (hs5 _ z))).1
      have hA := hI.mono fun _ _ z => z.mono hPn
      have hX := hyr.mono hPn
      have hcl : cs.length ≤ 100 := by
        rw [hI.length]
        have a1 := wAll_len ((sts.flatMap St.seen).take i)
        have a2 : ((sts.flatMap St.seen).take i).length ≤ (sts.flatMap St.seen).length := by rw [List.length_take]; exact Nat.min_le_right _ _
        omega
      have hnx : wAll ((sts.flatMap St.seen).take (i + 1)) = if isWd e then addNew (wAll ((sts.flatMap St.seen).take i)) e else wAll ((sts.flatMap St.seen).take i) := by
        rw [List.take_add_one, he]; exact wAll_snoc _ _
      cases hyr with
      | word hT hi =>
        have hTm := hs5 _ hT
        k_steps
        · rename Ex.word _ _ ∈ _ => hm
          rename Fr _ _ _ _ => F7
          rename News _ _ _ _ => N7
          refine FEnd.nx (cs, cn) tl3 F7 N7 (fun _ h => h) (all_four rfl rfl rfl rfl) ?_
          show All2 _ cs _
          rw [hnx, if_pos (show isWd (Ex.word _ _) = true from rfl), addNew, if_pos hm]; exact hI
        · rename ¬ Ex.word _ _ ∈ _ => hm
          rename Fr _ _ _ _ => F7
          rename News _ _ _ _ => N7
          refine FEnd.nx (cs ++ [_], cn + 1) tl3 F7 N7 (fun _ h => h) (all_four rfl rfl rfl rfl) ?_
          show All2 _ (cs ++ [_]) _
          rw [hnx, if_pos (show isWd (Ex.word _ _) = true from rfl), addNew, if_neg hm]; exact hI.append (.one (.word hT hi))
      | _ =>
        rename PT _ _ _ => hT
        have hTm := hs5 _ hT
        k_steps
        rename Fr _ _ _ _ => F7
        rename News _ _ _ _ => N7
        refine FEnd.nx (cs, cn) tl3 F7 N7 (fun _ h => h) (all_four rfl rfl rfl rfl) ?_
        show All2 _ cs _
        rw [hnx, if_neg (by intro q; cases q)]; exact hI
    intro x92 u2 h5 tk5 tl3 F5 N5 O5 C5 TC5 hs5 hI
    (try dsimp only); (try k_fold)
    obtain ⟨cs, cn⟩ := x92
    dsimp only [pin, locC, List.cons_append, List.nil_append] at F5 N5 O5 C5 hI ⊢
    rw [hms.length, List.take_length] at hI
    have packE := lawE F5 N5 hs5 m2 m3 mM mE me0 hdl hdsg hdc h2 h3 hnd hms hG hsl hlo hI (by omega)
    clear F5 N5
    k_extra "q_clean"
    clear hdsg hdc hG hms hI
    revert x
    (repeat (rename _ => hz9; revert hz9))
    refine wr ?_
    apply cutw)
  trivial
set_option tactic.hygienic false in
set_option maxHeartbeats 8000000 in
open_top le_ for PySem.Challenge.rw_on0116_01
theorem reg_M5_0 : True := by
  k_with_none
  k_with "q_enter" => (refine' enterQ (by k_asm) (by k_asm) (by k_asm) (by k_asm) (by k_asm) (by exact rfl) (by exact rfl) (by assumption) (by k_is) (by k_is) (by ktr_room) (by exact BindsTo.of_eq rfl) (by exact locs rfl) ?_ (by exact rfl) (by exact rfl) (by exact rfl) (by decide); k_whole)
  k_with "units_room" => (ktr_units)
  k_with "q_len" => (rw [PySem.sizeLine_eq]; (try simp only [List.length_append, List.length_cons, List.length_nil]); omega)
  k_with "call builtin:list.append" => (k_here; k_dflt (refine' append_L (by k_asm) (by k_asm) (by k_upd) (by k_extra "q_len") ?_; (intro h' F' N'; (try dsimp only [List.nil_append, List.cons_append] at N'))))
  k_with "call builtin:list.pop" => (k_here; k_dflt (refine' pop_L (by k_asm) (by k_asm) (by k_upd) (by k_extra "q_len") ?_; (intro h' F' N'; (try dsimp only [List.nil_append, List.cons_append] at N'))))
  k_with "truthy ref" => (k_here; k_dflt (refine' truthy_L (by k_asm) (by k_mem) (by k_extra "q_len") ?_))
  k_with "exec While" => ((have hSt := (by with_reducible assumption : StopWhile)); clear hSt; refine Stop.of ?_)
  k_with "pyIter ref" => ((have hSt := (by with_reducible assumption : StopFor)); clear hSt; refine Stop.of ?_)
  k_with "call type:reversed" => (k_here; k_dflt (refine' rvt_L (by k_asm) (by k_asm) (by exact isTup_now (News.get (by assumption) (by k_mem))) (by ((try simp only [List.length_cons, List.length_nil]); omega)) ?_; (intro I' h' tk' F' N' l1; (try k_lt l1))))
  k_with "call builtin:list.extend" => (k_here; k_dflt (refine' extend_L (by k_asm) (by k_asm) (by (intro o'; k_upd)) (by first | assumption | exact News.get (by assumption) (by k_mem)) (by k_extra "q_len") ?_; (intro h' n' F' N'; (try dsimp only [List.nil_append, List.cons_append] at N'))))
  k_with "call type:list" => (k_here; k_dflt (refine' listT_L (by k_asm) (by k_asm) (by first | exact isTup_P (by assumption) (by assumption) (by assumption) | exact isTup_base (by assumption) (by assumption)) (by k_extra "q_len") ?_; (intro D' c' h' F' N' l1; (try k_lt l1))))
  k_with "exec For" => ((have hSt := (by with_reducible assumption : StopFor)); clear hSt; k_here; (rename Fr _ _ _ _ => lF'); (with_unfolding_all refine' For_invVF lF' (by exact rfl) (by exact rfl) ?_; k_whole))
  k_with "CompSrcT" => (k_here; (have hSt := (by with_reducible assumption : StopComp)); clear hSt; k_dflt (refine LCt.CompSrcT.ledger (by rfl) (by k_asm) (by k_asm) (by k_mem) (by (try rw [List.size_toArray]); k_extra "q_len") ?_); refine Stop.of ?_)
  k_with "CompSrc" => (k_here; (have hSt := (by with_reducible assumption : StopComp)); clear hSt; k_dflt (refine LCg.CompSrc.ledger (by rfl) (by k_asm) (by k_asm) (by k_mem) (by (try rw [List.size_toArray]); k_extra "q_len") ?_); refine Stop.of ?_)
  k_with "CompEnd" => ((have hSt := (by with_reducible assumption : StopComp)); clear hSt; refine Stop.of ?_)
  k_with "q_clean" => ((repeat (with_reducible rename Fr _ _ _ _ => hz; clear hz)); (repeat (with_reducible rename News _ _ _ _ => hz; clear hz)); (repeat (with_reducible rename _ ∧ _ => hz; clear hz)); (repeat (with_reducible rename @LT.lt Nat _ _ _ => hz; clear hz)); (repeat (with_reducible rename OwnOff _ _ => hz; clear hz)); (repeat (with_reducible rename Cov _ _ _ _ _ => hz; clear hz)); (repeat (with_reducible rename TCov _ _ _ => hz; clear hz)); (repeat (with_reducible rename _ ∈ _ => hz; clear hz)); (repeat (with_reducible rename SigEs _ _ _ _ => hz; clear hz)); (repeat (with_reducible rename ∀ p ∈ _, p ∈ _ => hz; clear hz)); (repeat (with_reducible rename @Ne Nat _ _ => hz; clear hz)); (repeat (with_reducible rename getL _ _ = _ => hz; clear hz)); (repeat (with_reducible rename _ = Data.cell _ => hz; clear hz)); (repeat (with_reducible rename StopFor => hz; clear hz)); (repeat (with_reducible rename Kept _ _ _ => hz; clear hz)); (repeat (with_reducible rename Heap.get? _ _ = _ => hz; clear hz)); (repeat (with_reducible rename @LE.le Nat _ _ _ => hz; clear hz)); (repeat (with_reducible rename IsRange _ _ _ _ _ _ _ _ => hz; clear hz)); (repeat (with_reducible rename Obj.IsDictOf _ _ _ => hz; clear hz)); (repeat (with_reducible rename AllLt _ _ => hz; clear hz)); (repeat (with_reducible rename IntsAre _ _ => hz; clear hz)); (repeat (with_reducible rename PyProof.V.FlatPairs _ _ _ => hz; clear hz)); (repeat (with_reducible rename Heap.IsList _ _ _ => hz; clear hz)); (repeat (with_reducible rename ReadsAll _ _ _ _ => hz; clear hz)); (repeat (with_reducible rename @LT.lt Int _ _ _ => hz; clear hz)); (repeat (with_reducible rename @LE.le Int _ _ _ => hz; clear hz)); (repeat (with_reducible rename _ ∨ _ => hz; clear hz)))
  k_with "q_no" => (exact notin2' (by k_ne) (by k_ne))
  k_with "q_fr" => (first | exact List.forall_mem_nil _ | (refine List.forall_mem_cons.mpr ⟨⟨_, by k_mem⟩, ?_⟩; k_extra "q_fr"))
  k_with "k_ne" => (refine neN ?_; (try dsimp only); k_extra "ne")
  k_with "ne" => (first | with_reducible assumption | exact Nat.ne_of_lt (AllLt.get (by with_reducible assumption) (by k_mem)) | exact Nat.ne_of_gt (AllLt.get (by with_reducible assumption) (by k_mem)) | exact Ne.symm (by with_reducible assumption) | exact Nat.ne_of_gt (AllLt.get2 (by with_reducible assumption) (by with_reducible assumption) (by k_mem)) | exact Nat.ne_of_lt (AllLt.get2 (by with_reducible assumption) (by with_reducible assumption) (by k_mem)) | exact Nat.ne_of_lt (by with_reducible assumption) | exact Nat.ne_of_gt (by with_reducible assumption) | omega)
  k_with "subscriptTail" => (k_here; k_dflt (refine' item_tupleT (by first | exact isTup_P (by assumption) (by assumption) (by assumption) | exact isTup_base (by assumption) (by assumption) | exact isTup_now (by assumption)) (by decide) (by decide) (by rfl) (by rfl) ?_; k_whole))
  k_with "k_steps" => ((try k_fold); repeat' (first | (k_unfold; (try dsimp only)) | (k_end; wrow_close) | walk1 | (dsimp only; walk1) | (leave1; walk_say "STEP leave1"; try dsimp only) | fail "no step"))
  k_with "k_memR" => (first | with_reducible exact List.mem_cons_self .. | with_reducible assumption | (with_reducible refine List.mem_cons_of_mem _ ?_; k_extra "k_memR"))
  k_with "k_memD" => (first | exact List.mem_cons_self .. | with_reducible assumption | (refine List.mem_cons_of_mem _ ?_; k_extra "k_memD"))
  k_with "k_mem" => (first | k_extra "k_memR" | k_extra "k_memD")
  k_with "k_all" => (first | exact List.forall_mem_nil _ | ((with_reducible refine' List.forall_mem_cons.mpr (And.intro ?_ ?_)); k_ne; k_all) | with_reducible assumption | exact OwnOff.ne (by with_reducible assumption) (by k_extra "k_memR") | exact allLt_ne (by with_reducible assumption) | exact allLt_nes (by with_reducible assumption) (by intro p9 hp9; k_extra "k_memR") | exact OwnOff.ne (by assumption) (by k_mem) | ((refine' List.forall_mem_cons.mpr (And.intro ?_ ?_)); k_ne; k_all) | exact allLt_nes (by with_reducible assumption) (by intro p9 hp9; k_mem))
  trivial
theorem reg_M5_1 : True := by
  k_with "k_inst" => (refine' InstAt.of_news (by k_asm) (by k_mem) (by k_mem))
  k_with "k_get" => (first | with_reducible assumption | exact SigEs.first (by with_reducible assumption) | exact SigEs.last (by with_reducible assumption))
  k_with "call ref" => (k_here; (with_reducible show wpAny _ _ (call (Value.ref 248) _) _ _ _); k_dflt (refine' pull_call (by k_asm) (by k_asm) (by k_asm) (by k_asm) (by k_asm) (by k_updF) (by assumption) (by first | assumption | omega) (by decide) (by decide) (by first | exact rfl | assumption) (by ktr_room) (by ktr_units) ?_); (intro k' u' vs' n' ns' h' tk' hlo' hhi' hi' hl' F' N'))
  k_with "setAttr ref" => (k_here; k_dflt ((first | ((with_reducible show wpAny _ _ (setAttr _ (PySem.Str.ofString "first") _) _ _ _); refine' set_first (by k_asm) (by k_asm) (by k_asm) (by k_inst) (by assumption) (by k_is) (by k_is) (by k_is) (by k_is) (by k_updF) ?_) | (refine' set_last (by k_asm) (by k_asm) (by k_asm) (by k_inst) (by assumption) (by k_is) (by k_is) (by k_is) (by k_is) (by k_updF) ?_))); intro h' es' n' F' N' se')
  k_with "execs cons" => ((with_reducible refine wpAny_execs_cons ?_); (try dsimp only))
  k_with "subscriptTail Attribute Name ref int" => (k_here; k_dflt (refine' led_item (by k_asm) (by k_mem) (by decide) (by decide) (by exact rfl) ?_ (by with_unfolding_all rfl)))
  k_with "subscriptTail Attribute Constant ref int" => (k_here; k_dflt (refine' led_item (by k_asm) (by k_mem) (by decide) (by decide) (by exact rfl) ?_ (by with_unfolding_all rfl)))
  k_with "subscriptTail Attribute Name Name ref int" => (k_here; k_dflt (refine' led_item (by k_asm) (by k_mem) (by decide) (by decide) (by exact rfl) ?_ (by with_unfolding_all rfl)))
  k_with "subscriptTail Attribute Name Constant ref int" => (k_here; k_dflt (refine' led_item (by k_asm) (by k_mem) (by decide) (by decide) (by exact rfl) ?_ (by with_unfolding_all rfl)))
  k_with "subscriptTail Subscript Name Constant Constant ref int" => (k_here; k_dflt (refine' led_tup (by k_asm) (by k_mem) (by decide) (by decide) (by exact rfl) ?_ (by with_unfolding_all rfl)))
  k_with "UnrEndW" => (k_dflt (refine' unr_tail (by assumption) (by assumption) (by k_all) (by k_subL) ?_))
  k_with "newTuple" => (k_here; k_dflt (refine' kup_newTuple (by k_asm) (by k_asm) ?_ (by kmk_size)); intro D' h' F' N' l1; (try k_lt l1))
  k_with "subscriptTail Name Constant ref int" => (k_here; k_dflt (first | (refine' led_tup (by k_asm) (by k_mem) (by decide) (by decide) (by exact rfl) ?_ (by with_unfolding_all rfl)) | (refine' led_item (by k_asm) (by k_mem) (by decide) (by decide) (by exact rfl) ?_ (by with_unfolding_all rfl))))
  k_with "exec For Name List cons nil" => ((have hSt := (by with_reducible assumption : StopFor)); clear hSt; k_here; k_dflt ((rename Fr _ _ _ _ => lF'); (refine' For_turns lF' ?_; k_whole)))
  k_with "call ref" => (k_here; (with_reducible show wpAny _ _ (call (Value.ref 108) _) _ _ _); refine Stop.of ?_)
  k_with "eval ListComp" => (k_here; k_dflt (refine LCt.ListComp_T (F₀ := by k_asm) (by with_unfolding_all rfl) (by decide) (by rfl) (by decide) (by rfl) ?_))
  k_with "compareOp NotEq ref ref" => (k_here; refine Stop.of ?_)
  trivial
theorem seg_M5 : True := by
  k_with "seg" => (
    refine le_ ?_
    w_on
    k_fill
    intros
    obtain ⟨W, S, aM, lE, e0, e1, ck, om, vk, ms, ws, nM, nE, nW, t1, t2, tl, dl, sts, u, F0, N0, O0, mW, m3, mM, mE, me0, hdl, hdsg, hdc, h2, h3, hnd, hms, hws, hG, hsl, hlo⟩ := packE
    have hok := nd_ok hG hsl
    have hFo : StopFor := ⟨⟩
    dsimp only [pin] at F0
    k_steps
    unfold Stop
    clear hFo
    rename Fr _ _ _ _ => F9
    rename News _ _ _ _ => N9
    k_dflt refine turns_list (adr := [_]) (tl₀ := tl) (ledC _) (fun _ => [(Str.ofString "design", .ref x), (Str.ofString "ends", .ref lE), (Str.ofString "statement", .ref S), (Str.ofString "words", .ref W)]) (fun _ _ _ => True) (⟨ck, _, h2⟩ : CellO) rfl (N9.get (.head _)) ?_ (ledC_nt _) (fun _ => rfl) (fun _ _ _ _ _ _ x => x) F9 (fun p hp => N9 p (.tail _ hp)) O0 (all_four rfl rfl rfl rfl) trivial ?_ ?_
    · rename _ ∧ AllLt _ tl => l9
      intro q
      rw [List.mem_singleton] at q
      have q' : @Eq Nat _ _ := q
      have l10 := l9.1
      omega
    · intro i v x91 u5 h5 tk5 tl3 hy F5 N5 O5 C5 TC5 hs5 _
      (try dsimp only); (try k_fold)
      obtain ⟨ck5, vk5, hck5⟩ := x91
      have hk34 : ∃ k t, v = .int k t ∧ (k = 3 ∨ k = 4) := by
        match i, hy with
        | 0, hy => exact ⟨3, _, (Option.some.inj hy).symm, .inl rfl⟩
        | 1, hy => exact ⟨4, _, (Option.some.inj hy).symm, .inr rfl⟩
      obtain ⟨key, kt, rfl, hk34⟩ := hk34
      dsimp only [pin, locC, ledC, List.cons_append, List.nil_append] at F5 N5 O5 C5 ⊢
      clear F9 N9
      k_steps
      unfold Stop
      rename Fr _ _ _ _ => F7
      rename News _ _ _ _ => N7
      rename _ = Data.cell (some (Value.int key _)) => dC
      k_dflt (refine' Does.use (rwords_does (P := PT tl) (fun a vs z => (N7 _ (.tail _ (hs5 _ z))).1) hnd hok) ?k1 F7 ?k3 ?k4 ?kK (List.forall_mem_nil _) ?kd ?ku ?_; (case k1 => k_asm); (case k3 => k_asm); (case k4 => k_asm); (case kK => first | exact rfl | assumption); (case kd => ktr_room); (case ku => ktr_units))
      intro r h6 tk6 hK ⟨l6, us6, n6, e6, hf6, hl6, hU6⟩
      subst e6
      refine' afterC (S := []) (.miss (fun _ h => nomatch h) .nil) F7 N7 hK (fun _ h => nomatch h) (fun _ h => nomatch h) ?_
      intro tl6 F8 N8 O8 C8 hs8
      dsimp only [List.map] at N8 O8 C8 hs8
      have hs6 : ∀ p ∈ tl3, p ∈ tl6 := fun p hp => hs8 p (.tail _ hp) (by simp) fun q => O5 p hp _ q rfl
      have hla6 : l6 ∉ [_] := fresh_adr N7 hf6 (adr := [_]) (all_one ⟨_, .head _⟩)
      have m6 : (l6, listOf us6.toArray n6) ∈ tl6 := C8.get hl6 (old_none F7 hf6) (ns_not_obj F8.ns hl6 (fun _ _ q => by cases q)) hla6
      have mW6 := hs6 _ (hs5 _ mW)
      have hwl : ws.length ≤ 100 := by
        rw [hws.length]
        have a1 := wAll_len (sts.flatMap St.seen)
        have a2 := seen_sum sts hG
        omega
      clear F7 N7
      have hCo : StopComp := ⟨⟩
      k_steps
      unfold Stop
      intro g6
      k_dflt (refine compT_same (fun i => selV key (ws.take i) ((wAll (sts.flatMap St.seen)).take i)) (by simp [selV]) ?_ ?_)
      · intro i v I oI C oC D mm h7 tk7 E7 hi hv hC hx F2 N2 o2 ne2
        clear hCo
        obtain ⟨e, he, hyr⟩ := hws.get (by simpa using hv)
        have hwd := wAll_wd _ e (List.mem_of_getElem? he)
        have hv' : ws[i]? = some v := by simpa using hv
        have hYn : selV key (ws.take (i + 1)) ((wAll (sts.flatMap St.seen)).take (i + 1)) = selV key (ws.take i) ((wAll (sts.flatMap St.seen)).take i) ++ (if isW key e then [v] else []) := by
          rw [List.take_add_one, List.take_add_one, hv', he]
          exact selV_snoc key _ _ v e (by rw [List.length_take, List.length_take, hws.length])
        cases hyr with
        | word hT hi' =>
          have hTm := hs6 _ (hs5 _ hT)
          k_steps
          · rename _ = key => hkk
            refine LCg.CompEnd.intro (by assumption) N2 _ (fun _ h => h) o2 (.inr ⟨_, by k_mem, rfl, _, rfl⟩) ⟨?_, rfl⟩
            show selV key (ws.take (i + 1)) ((wAll (sts.flatMap St.seen)).take (i + 1)) = _
            rw [hYn, if_pos (by simp [isW, hkk])]
          · rename _ ≠ key => hkk
            refine LCg.CompEnd.intro (by assumption) N2 _ (fun _ h => h) o2 (.inr ⟨_, by k_mem, rfl, _, rfl⟩) ⟨?_, rfl⟩
            show selV key (ws.take (i + 1)) ((wAll (sts.flatMap St.seen)).take (i + 1)) = _
            rw [hYn, if_neg (by simp [isW, hkk]), List.append_nil]
        | _ => cases hwd
      · clear hCo
        k_steps
        unfold Stop
        rename Fr _ _ _ _ => Fa
        rename News _ _ _ _ => Na
        have hPa : ∀ a vs, PT tl a vs → TupAt _ a vs := fun a vs z => (Na _ (.tail _ (.tail _ (hs6 _ (hs5 _ z))))).1
        rw [selV_full hws.length] at Na
        have Da := hU6.mono fun _ _ z => z.mono hPa
        have Db := (selV_all key hws).mono fun _ _ z => z.mono hPa
        have eF : (wAll (sts.flatMap St.seen)).filter (isW key) = fw key (Nd.ex (Nd.pre (.blk sts))) := by rw [fw_wAll, ← blk_seen, fw_seen]
        rw [eF] at Db
        k_dflt (refine' ne_exs Na ?ma ?mb Da Db ?hd ?hu ?_; (case ma => k_mem); (case mb => exact .head _); (case hd => exact fun e he => hok.dep e (fw_mem he)); (case hu => ke_room))
        clear Da Db hPa
        k_steps
        rename Fr _ _ _ _ => Fb
        rename News _ _ _ _ => Nb
        obtain ⟨tl9, N10, O10, i10⟩ := regroup1 Nb (.tail _ (.head _))
        exact FEnd.nx (⟨_, _, dC⟩ : CellO) tl9 Fb N10 (fun p hp => i10 p (.tail _ (.tail _ (hs6 _ hp))) fun e => O5 p hp _ (.head _) e) (all_four rfl rfl rfl rfl) trivial
    intro x92 u5 h5 tk5 tl3 F5 N5 O5 C5 TC5 hs5 _
    (try dsimp only); (try k_fold)
    obtain ⟨ck5, vk5, hck5⟩ := x92
    dsimp only [pin, locC, ledC, List.cons_append, List.nil_append] at F5 N5 O5 C5 ⊢
    have packF : PackE _ _ x _ _ _ _ := ⟨W, S, aM, lE, e0, e1, ck5, om, vk5, ms, ws, nM, nE, nW, t1, t2, tl3, dl, sts, u5, F5, N5, O5, hs5 _ mW, hs5 _ m3, hs5 _ mM, hs5 _ mE, hs5 _ me0, fun p hp => hs5 _ (hdl p hp), hdsg, hdc, hck5, h3, hnd.mono (PT.mono hs5), hms.mono fun _ _ z => z.mono (PT.mono hs5), hws.mono fun _ _ z => z.mono (PT.mono hs5), hG, hsl, hlo⟩
    clear F5 N5
    k_extra "q_clean"
    clear hdsg hdc hG hms hws
    revert x
    (repeat (rename _ => hz9; revert hz9))
    refine wr ?_
    apply cutw)
  trivial
set_option tactic.hygienic false in
set_option maxHeartbeats 8000000 in
open_top lf_ for PySem.Challenge.rw_on0116_01
theorem reg_M6_0 : True := by
  k_with_none
  k_with "q_enter" => (refine' enterQ (by k_asm) (by k_asm) (by k_asm) (by k_asm) (by k_asm) (by exact rfl) (by exact rfl) (by assumption) (by k_is) (by k_is) (by ktr_room) (by exact BindsTo.of_eq rfl) (by exact locs rfl) ?_ (by exact rfl) (by exact rfl) (by exact rfl) (by decide); k_whole)
  k_with "units_room" => (ktr_units)
  k_with "q_len" => (rw [PySem.sizeLine_eq]; (try simp only [List.length_append, List.length_cons, List.length_nil]); omega)
  k_with "call builtin:list.append" => (k_here; k_dflt (refine' append_L (by k_asm) (by k_asm) (by k_upd) (by k_extra "q_len") ?_; (intro h' F' N'; (try dsimp only [List.nil_append, List.cons_append] at N'))))
  k_with "call builtin:list.pop" => (k_here; k_dflt (refine' pop_L (by k_asm) (by k_asm) (by k_upd) (by k_extra "q_len") ?_; (intro h' F' N'; (try dsimp only [List.nil_append, List.cons_append] at N'))))
  k_with "truthy ref" => (k_here; k_dflt (refine' truthy_L (by k_asm) (by k_mem) (by k_extra "q_len") ?_))
  k_with "exec While" => ((have hSt := (by with_reducible assumption : StopWhile)); clear hSt; refine Stop.of ?_)
  k_with "pyIter ref" => ((have hSt := (by with_reducible assumption : StopFor)); clear hSt; refine Stop.of ?_)
  k_with "call type:reversed" => (k_here; k_dflt (refine' rvt_L (by k_asm) (by k_asm) (by exact isTup_now (News.get (by assumption) (by k_mem))) (by ((try simp only [List.length_cons, List.length_nil]); omega)) ?_; (intro I' h' tk' F' N' l1; (try k_lt l1))))
  k_with "call builtin:list.extend" => (k_here; k_dflt (refine' extend_L (by k_asm) (by k_asm) (by (intro o'; k_upd)) (by first | assumption | exact News.get (by assumption) (by k_mem)) (by k_extra "q_len") ?_; (intro h' n' F' N'; (try dsimp only [List.nil_append, List.cons_append] at N'))))
  k_with "call type:list" => (k_here; k_dflt (refine' listT_L (by k_asm) (by k_asm) (by first | exact isTup_P (by assumption) (by assumption) (by assumption) | exact isTup_base (by assumption) (by assumption)) (by k_extra "q_len") ?_; (intro D' c' h' F' N' l1; (try k_lt l1))))
  k_with "exec For" => ((have hSt := (by with_reducible assumption : StopFor)); clear hSt; k_here; (rename Fr _ _ _ _ => lF'); (with_unfolding_all refine' For_invVF lF' (by exact rfl) (by exact rfl) ?_; k_whole))
  k_with "CompSrcT" => (k_here; (have hSt := (by with_reducible assumption : StopComp)); clear hSt; k_dflt (refine LCt.CompSrcT.ledger (by rfl) (by k_asm) (by k_asm) (by k_mem) (by (try rw [List.size_toArray]); k_extra "q_len") ?_); refine Stop.of ?_)
  k_with "CompSrc" => (k_here; (have hSt := (by with_reducible assumption : StopComp)); clear hSt; k_dflt (refine LCg.CompSrc.ledger (by rfl) (by k_asm) (by k_asm) (by k_mem) (by (try rw [List.size_toArray]); k_extra "q_len") ?_); refine Stop.of ?_)
  k_with "CompEnd" => ((have hSt := (by with_reducible assumption : StopComp)); clear hSt; refine Stop.of ?_)
  k_with "q_clean" => ((repeat (with_reducible rename Fr _ _ _ _ => hz; clear hz)); (repeat (with_reducible rename News _ _ _ _ => hz; clear hz)); (repeat (with_reducible rename _ ∧ _ => hz; clear hz)); (repeat (with_reducible rename @LT.lt Nat _ _ _ => hz; clear hz)); (repeat (with_reducible rename OwnOff _ _ => hz; clear hz)); (repeat (with_reducible rename Cov _ _ _ _ _ => hz; clear hz)); (repeat (with_reducible rename TCov _ _ _ => hz; clear hz)); (repeat (with_reducible rename _ ∈ _ => hz; clear hz)); (repeat (with_reducible rename SigEs _ _ _ _ => hz; clear hz)); (repeat (with_reducible rename ∀ p ∈ _, p ∈ _ => hz; clear hz)); (repeat (with_reducible rename @Ne Nat _ _ => hz; clear hz)); (repeat (with_reducible rename getL _ _ = _ => hz; clear hz)); (repeat (with_reducible rename _ = Data.cell _ => hz; clear hz)); (repeat (with_reducible rename StopFor => hz; clear hz)); (repeat (with_reducible rename Kept _ _ _ => hz; clear hz)); (repeat (with_reducible rename Heap.get? _ _ = _ => hz; clear hz)); (repeat (with_reducible rename @LE.le Nat _ _ _ => hz; clear hz)); (repeat (with_reducible rename IsRange _ _ _ _ _ _ _ _ => hz; clear hz)); (repeat (with_reducible rename Obj.IsDictOf _ _ _ => hz; clear hz)); (repeat (with_reducible rename AllLt _ _ => hz; clear hz)); (repeat (with_reducible rename IntsAre _ _ => hz; clear hz)); (repeat (with_reducible rename PyProof.V.FlatPairs _ _ _ => hz; clear hz)); (repeat (with_reducible rename Heap.IsList _ _ _ => hz; clear hz)); (repeat (with_reducible rename ReadsAll _ _ _ _ => hz; clear hz)); (repeat (with_reducible rename @LT.lt Int _ _ _ => hz; clear hz)); (repeat (with_reducible rename @LE.le Int _ _ _ => hz; clear hz)); (repeat (with_reducible rename _ ∨ _ => hz; clear hz)))
  k_with "q_no" => (exact notin2' (by k_ne) (by k_ne))
  k_with "q_fr" => (first | exact List.forall_mem_nil _ | (refine List.forall_mem_cons.mpr ⟨⟨_, by k_mem⟩, ?_⟩; k_extra "q_fr"))
  k_with "k_ne" => (refine neN ?_; (try dsimp only); k_extra "ne")
  k_with "ne" => (first | with_reducible assumption | exact Nat.ne_of_lt (AllLt.get (by with_reducible assumption) (by k_mem)) | exact Nat.ne_of_gt (AllLt.get (by with_reducible assumption) (by k_mem)) | exact Ne.symm (by with_reducible assumption) | exact Nat.ne_of_gt (AllLt.get2 (by with_reducible assumption) (by with_reducible assumption) (by k_mem)) | exact Nat.ne_of_lt (AllLt.get2 (by with_reducible assumption) (by with_reducible assumption) (by k_mem)) | exact Nat.ne_of_lt (by with_reducible assumption) | exact Nat.ne_of_gt (by with_reducible assumption) | omega)
  k_with "subscriptTail" => (k_here; k_dflt (refine' item_tupleT (by first | exact isTup_P (by assumption) (by assumption) (by assumption) | exact isTup_base (by assumption) (by assumption) | exact isTup_now (by assumption)) (by decide) (by decide) (by rfl) (by rfl) ?_; k_whole))
  k_with "k_steps" => ((try k_fold); repeat' (first | (k_unfold; (try dsimp only)) | (k_end; wrow_close) | walk1 | (dsimp only; walk1) | (leave1; walk_say "STEP leave1"; try dsimp only) | fail "no step"))
  k_with "k_memR" => (first | with_reducible exact List.mem_cons_self .. | with_reducible assumption | (with_reducible refine List.mem_cons_of_mem _ ?_; k_extra "k_memR"))
  k_with "k_memD" => (first | exact List.mem_cons_self .. | with_reducible assumption | (refine List.mem_cons_of_mem _ ?_; k_extra "k_memD"))
  k_with "k_mem" => (first | k_extra "k_memR" | k_extra "k_memD")
  k_with "k_all" => (first | exact List.forall_mem_nil _ | ((with_reducible refine' List.forall_mem_cons.mpr (And.intro ?_ ?_)); k_ne; k_all) | with_reducible assumption | exact OwnOff.ne (by with_reducible assumption) (by k_extra "k_memR") | exact allLt_ne (by with_reducible assumption) | exact allLt_nes (by with_reducible assumption) (by intro p9 hp9; k_extra "k_memR") | exact OwnOff.ne (by assumption) (by k_mem) | ((refine' List.forall_mem_cons.mpr (And.intro ?_ ?_)); k_ne; k_all) | exact allLt_nes (by with_reducible assumption) (by intro p9 hp9; k_mem))
  trivial
theorem reg_M6_1 : True := by
  k_with "execs cons" => ((with_reducible refine wpAny_execs_cons ?_); (try dsimp only))
  k_with "subscriptTail Attribute Name ref int" => (k_here; k_dflt (refine' led_item (by k_asm) (by k_mem) (by decide) (by decide) (by exact rfl) ?_ (by with_unfolding_all rfl)))
  k_with "subscriptTail Attribute Constant ref int" => (k_here; k_dflt (refine' led_item (by k_asm) (by k_mem) (by decide) (by decide) (by exact rfl) ?_ (by with_unfolding_all rfl)))
  k_with "subscriptTail Attribute Name Name ref int" => (k_here; k_dflt (refine' led_item (by k_asm) (by k_mem) (by decide) (by decide) (by exact rfl) ?_ (by with_unfolding_all rfl)))
  k_with "subscriptTail Attribute Name Constant ref int" => (k_here; k_dflt (refine' led_item (by k_asm) (by k_mem) (by decide) (by decide) (by exact rfl) ?_ (by with_unfolding_all rfl)))
  k_with "subscriptTail Subscript Name Constant Constant ref int" => (k_here; k_dflt (refine' led_tup (by k_asm) (by k_mem) (by decide) (by decide) (by exact rfl) ?_ (by with_unfolding_all rfl)))
  k_with "newTuple" => (k_here; k_dflt (refine' kup_newTuple (by k_asm) (by k_asm) ?_ (by kmk_size)); intro D' h' F' N' l1; (try k_lt l1))
  k_with "subscriptTail Name Constant ref int" => (k_here; k_dflt (first | (refine' led_tup (by k_asm) (by k_mem) (by decide) (by decide) (by exact rfl) ?_ (by with_unfolding_all rfl)) | (refine' led_item (by k_asm) (by k_mem) (by decide) (by decide) (by exact rfl) ?_ (by with_unfolding_all rfl))))
  k_with "exec For Name Call cons nil" => (k_here; k_dflt ((rename Fr _ _ _ _ => lF'); (refine' For_turns lF' ?_; k_whole)))
  k_with "pyIter ref" => ((have hSt := (by with_reducible assumption : StopFor)); clear hSt; refine Stop.of ?_)
  k_with "CompSrc" => (k_here; (have hSt := (by with_reducible assumption : StopComp)); clear hSt; k_dflt (refine LCg.CompSrc.ledger (by rfl) (by k_asm) (by k_asm) (by k_mem) (by (try rw [List.size_toArray]); k_extra "q_len") ?_); refine Stop.of ?_)
  k_with "eval ListComp" => (k_here; k_dflt (refine LCg.ListComp_U (F₀ := by k_asm) (by with_unfolding_all rfl) (by decide) (by rfl) (by decide) (by rfl) ?_))
  k_with "compareOp NotIn" => (k_here; refine Stop.of ?_)
  k_with "compareOp NotIn int ref" => (k_here; refine Stop.of ?_)
  k_with "getMethod ref" => (k_here; (with_reducible show wpAny _ _ (getMethod (Value.ref _) (PySem.Str.ofString "append") _) _ _ _); k_dflt (refine' listMethod_K (by k_asm) (by k_mem) PySem.F.slot_list_append PySem.F.type_list_append ?_); (try dsimp only))
  k_with "callWith" => (k_here; (with_reducible show wpAny _ _ (callWith _ (Value.builtin _) _ (backTo _ (starEach (_ :: _) _)) []) _ _ _); k_dflt (refine callWith_method1 ?_))
  k_with "execs nil" => (with_reducible refine wpAny_execs_nil ?_)
  k_with "k_steps" => ((try k_fold); repeat' (first | (k_unfold; (try dsimp only)) | walk1 | (dsimp only; walk1) | (leave1; walk_say "STEP leave1"; try dsimp only) | fail "no step"))
  trivial
theorem rows_bound {lo : Int} {ex : List Ex} {rk : List Int} {i : Nat} {c : L6S} {h : Heap} (hI : inv6 lo ex rk i c h) (hex : ex.length ≤ 1000) (hi : i ≤ 5) : c.2.1.length ≤ 6000 := by
  rw [All2.length hI]
  have a1 := rows_len lo ex (ksTo rk i)
  have a2 : (ksTo rk i).length ≤ 5 := by
    unfold ksTo
    refine Nat.le_trans (List.length_filter_le _ _) ?_
    rw [List.length_map, List.length_range]; omega
  have a4 := Nat.mul_le_mul a2 (show ex.length + 3 ≤ 1003 by omega)
  exact Nat.le_trans a1 (by omega)
theorem seg_M6 : True := by
  k_with "seg" => (
    refine lf_ ?_
    w_on
    k_fill
    intros
    obtain ⟨W, S, aM, lE, e0, e1, ck, om, vk, ms, ws, nM, nE, nW, t1, t2, tl, dl, sts, u, F0, N0, O0, mW, m3, mM, mE, me0, hdl, hdsg, hdc, h2, h3, hnd, hms, hws, hG, hsl, hlo⟩ := packF
    obtain ⟨lo, hlo9⟩ := lo_nm hlo
    rw [hlo9] at hlo me0 hdsg
    have hok := nd_ok hG hsl
    have hFo : StopFor := ⟨⟩
    dsimp only [pin] at F0
    k_steps
    unfold Stop
    clear hFo
    rename Fr _ _ _ _ => F9
    rename News _ _ _ _ => N9
    rename IsRange _ _ _ _ _ _ _ _ => hr
    rename AllLt _ _ => l9
    have hml : ms.length ≤ 100 := by
      rw [hms.length]
      have a2 := seen_sum sts hG
      omega
    k_dflt refine turns_range (n := 5) (adr := [_, _]) (tl₀ := tl) (led6 _ _) (pins6 x lE S W _) (inv6m me0 (Nd.ex (Nd.pre (.blk sts))) (Nd.rk (Nd.pre (.blk sts)))) ((⟨ck, _, h2⟩, [], 0) : L6S) rfl hr (by decide) (by decide) (led6_nt _ _) (fun _ => rfl) (fun _ _ _ _ hk _ x => All2.mono (fun _ _ z => DuR.mono hk z) x) F9 (all_swap N9) (own6 O0 l9.2) (all_five rfl rfl rfl rfl rfl) .nil ?_ ?_
    · intro i kt x91 u5 h5 tk5 tl3 hi5 F5 N5 O5 C5 TC5 hs5 hI
      (try dsimp only); (try k_fold)
      obtain ⟨⟨ck5, vk5, hck5⟩, cs, cn⟩ := x91
      dsimp only [pin, pins6, locC, led6, List.cons_append, List.nil_append] at F5 N5 O5 C5 ⊢
      clear F9 N9
      have mM5 := hs5 _ mM
      have m35 := hs5 _ m3
      have hcl : cs.length ≤ 6000 := rows_bound (c := (⟨ck5, vk5, hck5⟩, cs, cn)) hI hok.tot (by omega)
      obtain ⟨key, hkey⟩ : ∃ key : Int, key = 0 + (i : Int) := ⟨_, rfl⟩
      rw [← hkey]
      have hCo : StopComp := ⟨⟩
      k_steps
      unfold Stop
      intro g6
      k_dflt refine compU_ind (JK _ (sts.flatMap St.seen)) ⟨.nil, rfl⟩ ?_ ?_
      · intro j v I oI C oC D mm h7 tk7 E7 ys nw hi hv hJ hC hx F2 N2 off ne
        obtain ⟨hY, rfl⟩ := hJ
        clear hCo
        obtain ⟨e, he, hyr⟩ := hms.get (by simpa using hv)
        have hsw := seen_sw sts e (List.mem_of_getElem? he)
        have hnx : ((sts.flatMap St.seen).take (j + 1)).filterMap rkey = ((sts.flatMap St.seen).take j).filterMap rkey ++ (rkey e).toList := by
          rw [List.take_add_one, he, List.filterMap_append]
          cases hr : rkey e <;> simp [hr]
        cases hyr with
        | sig hT =>
          have hTm := hs5 _ hT
          k_steps
          refine LCg.CompEnd.intro (by assumption) N2 _ (fun _ h => h) off (.inr ⟨_, by k_mem, rfl, _, rfl⟩) ⟨?_, rfl⟩
          rw [hnx]
          exact hY.append (.cons _ _ .nil)
        | word hT hi' =>
          have hTm := hs5 _ hT
          k_steps
          refine LCg.CompEnd.intro (by assumption) N2 _ (fun _ h => h) off (.inr ⟨_, by k_mem, rfl, _, rfl⟩) ⟨?_, rfl⟩
          rw [hnx]
          exact hY.append (.cons _ _ .nil)
        | _ => cases hsw
      intro ys nw hJ
      obtain ⟨hY, rfl⟩ := hJ
      clear hCo
      k_steps
      unfold Stop
      rename Fr _ _ _ _ => Fa
      rename News _ _ _ _ => Na
      k_dflt (refine' notin_int Na ?ma hY ?hu ?_; (case ma => exact .head _); (case hu => ke_room))
      have hrk : key ∈ ((sts.flatMap St.seen).take ms.toArray.size).filterMap rkey ↔ (i : Int) ∈ Nd.rk (Nd.pre (.blk sts)) := by
        rw [rk_seen, hkey, Int.zero_add, List.take_of_length_le (by rw [List.size_toArray, hms.length]; exact Nat.le_refl _)]
      clear hY
      by_cases hin : (i : Int) ∈ Nd.rk (Nd.pre (.blk sts))
      · rw [decide_eq_true (hrk.mpr hin)]
        have hc : key < 3 ∨ key = 3 ∨ key = 4 := by omega
        clear hrk
        rcases hc with hc | hc | hc
        · k_steps
          rename Fr _ _ _ _ => Fb
          rename News _ _ _ _ => Nb
          have k5 := TC5.keep Fb Nb (fun p hp => .tail _ (.tail _ (.tail _ (.tail _ (.tail _ hp)))))
          rename _ = Data.cell (some (Value.int key _)) => dC
          have mT := Nb.get (.head _)
          obtain ⟨tl9, N10, O10, i10⟩ := regroup2 Nb (b := _) (.tail _ (.tail _ (.tail _ (.head _)))) (.tail _ (.tail _ (.tail _ (.tail _ (.head _)))))
          refine FEnd.nx ((⟨_, _, dC⟩, cs ++ [_], cn + 1) : L6S) tl9 Fb N10 (fun p hp => i10 p (.tail _ (.tail _ (.tail _ (.tail _ (.tail _ hp))))) (fun e => O5 p hp _ (.head _) e) (fun e => O5 p hp _ (.tail _ (.head _)) e)) (all_five rfl rfl rfl rfl rfl) (inv6_yes hI rfl hin k5 ?_)
          rw [row_sig hkey hc]
          exact .one (.ex mT (.sig (Nb.get (.tail _ (.head _)))))
        · subst hc
          have mE5 := hs5 _ mE
          have me5 := hs5 _ me0
          have hFo : StopFor := ⟨⟩
          k_with "exec For Name Call cons nil" => (k_here; k_dflt ((rename Fr _ _ _ _ => lF'); (with_unfolding_all refine' For_invVF lF' (by exact rfl) (by exact rfl) ?_; k_whole)))
          k_steps
          unfold Stop
          clear hFo
          rename Fr _ _ _ _ => F7
          rename News _ _ _ _ => N7
          rename IsRange _ _ _ _ _ _ _ _ => hr7
          have hrg := range3 hlo
          rename _ = Data.cell (some (Value.int 3 _)) => dC
          have ik := TC5.keep F7 N7 (fun p hp => .tail _ (.tail _ (.tail _ hp)))
          obtain ⟨tl7, N8, O8, i8⟩ := regroup1 N7 (.tail _ (.tail _ (.head _)))
          obtain ⟨dA, hdA⟩ := news_hd N8
          subst hdA
          have mC := i8 _ (.tail _ (.head _)) (by k_ne)
          have s37 : ∀ p ∈ tl3, p ∈ tl7 := fun p hp => i8 p (.tail _ (.tail _ (.tail _ hp))) fun e => O5 p hp _ (.tail _ (.head _)) e
          have nCD : @Ne Nat _ dA := O8 _ mC dA (.head _)
          k_dflt refine for_range (n := 3) (adr := [dA]) (tl₀ := tl7) (fun c : List Value × Nat => [(dA, listOf c.1.toArray c.2)]) (fun _ => [(Str.ofString "design", .ref x), (Str.ofString "ends", .ref lE), (Str.ofString "statement", .ref S), (Str.ofString "words", .ref W), (Str.ofString "due", .ref dA)])
            (fun j c h => All2 (DuR (TupAt h)) c.1 ((ksTo (Nd.rk (Nd.pre (.blk sts))) i).flatMap (rowOf lo (Nd.ex (Nd.pre (.blk sts)))) ++ duCells 3 lo j)) (cs, cn) rfl hr7 hrg.1 hrg.2 (fun c => all_one list_nt) (fun _ => rfl) (fun _ _ _ _ hk x => x.mono fun _ _ z => z.mono hk) F7 N8 O8 (all_five rfl rfl rfl rfl rfl) (by rw [duCells_zero, List.append_nil]; exact hI.mono fun _ _ z => z.mono ik) ?_ ?_
          · intro j t x92 u7 h8 tk8 tl8 hj F8 N9 O9 C9 TC9 hs9 hI9
            (try dsimp only); (try k_fold)
            obtain ⟨cs2, cn2⟩ := x92
            dsimp only [pin, List.cons_append, List.nil_append] at F8 N9 O9 hI9 ⊢
            clear F7 N7 N8
            have hcl2 : cs2.length ≤ 7000 := by
              have a1 := hI9.length
              have a2 : ((ksTo (Nd.rk (Nd.pre (.blk sts))) i).flatMap (rowOf lo (Nd.ex (Nd.pre (.blk sts))))).length = cs.length := (All2.length hI).symm
              rw [List.length_append, a2] at a1
              simp only [duCells, List.length_map, List.length_range] at a1
              omega
            k_steps
            rename Fr _ _ _ _ => Fb
            rename News _ _ _ _ => Nb
            have k5 := TC9.keep Fb Nb (fun p hp => .tail _ (.tail _ (.tail _ (.tail _ hp))))
            rw [mod32] at Nb
            have q10 := regroup_4 Nb
            obtain ⟨tl9, N10, O10, i10⟩ := q10
            refine FEnd.nx (cs2 ++ [_], cn2 + 1) tl9 Fb N10 (fun p hp => i10 p hp fun e => O9 p hp dA (.head _) e) (all_five rfl rfl rfl rfl rfl) ?_
            show All2 _ (cs2 ++ [_]) _
            rw [duCells_succ, ← List.append_assoc]
            exact (hI9.mono fun _ _ z => z.mono k5).append (.one (.cell (Nb.get (.head _)) (Nb.get (.tail _ (.head _))) (Nb.get (.tail _ (.tail _ (.head _))))))
          · intro x93 u7 h8 tk8 tl8 F8 N9 O9 C9 TC9 hs9 hI9
            (try dsimp only); (try k_fold)
            obtain ⟨cs2, cn2⟩ := x93
            dsimp only [pin, List.cons_append, List.nil_append] at F8 N9 O9 hI9 ⊢
            clear F7 N7 N8
            k_steps
            rename Fr _ _ _ _ => Fb
            rename News _ _ _ _ => Nb
            have k5 := TC9.keep Fb Nb (fun p hp => .tail _ hp)
            obtain ⟨tl9, N10, O10, i10⟩ := regroup2 Nb (b := dA) (.tail _ (hs9 _ mC)) (.head _)
            refine FEnd.nx ((⟨_, _, dC⟩, cs2, cn2) : L6S) tl9 Fb N10 (fun p hp => i10 p (.tail _ (hs9 _ (s37 p hp))) (fun e => O5 p hp _ (.head _) e) (fun e => O5 p hp _ (.tail _ (.head _)) e)) (all_five rfl rfl rfl rfl rfl) (inv6_full (hI9.mono fun _ _ z => z.mono k5) (row_three hkey) hin)
        · subst hc
          have mW5 := hs5 _ mW
          have hwl : ws.length ≤ 100 := by
            rw [hws.length]
            have a1 := wAll_len (sts.flatMap St.seen)
            have a2 := seen_sum sts hG
            omega
          k_with "eval ListComp" => (k_here; k_dflt (refine LCt.ListComp_T (F₀ := by k_asm) (by with_unfolding_all rfl) (by decide) (by rfl) (by decide) (by rfl) ?_))
          k_with "inplaceOp Add ref" => (k_here; refine Stop.of ?_)
          have hCo : StopComp := ⟨⟩
          k_steps
          unfold Stop
          intro g6
          k_dflt (refine compT_ind (JW _ 4 (wAll (sts.flatMap St.seen))) JW.zero ?_ ?_)
          · intro j v I oI C oC D mm h7 tk7 E7 ys2 nw hi hv hJ hC hx F2 N2 o2 ne2
            clear hCo
            have hv' : ws[j]? = some v := by simpa using hv
            obtain ⟨e, he, hyr⟩ := hws.get hv'
            have hwd := wAll_wd _ e (List.mem_of_getElem? he)
            have hJ2 := hJ
            obtain ⟨tn, hnw, hA⟩ := hJ2
            cases hyr with
            | word hT hi' =>
              have hTm := hs5 _ hT
              have up : ∀ p ∈ tl3, p ∈ nw := fun p hp => by
                rw [hnw]
                exact List.mem_append.mpr (.inr (.tail _ (.tail _ (.tail _ hp))))
              have hTn := up _ hTm
              have hWn := up _ mW5
              clear up
              clear hnw hA tn
              k_steps
              · rename _ = (4 : Int) => hkk
                rename Fr _ _ _ _ => F3
                rename News _ _ _ _ => N3
                rename AllLt _ _ => l3
                exact jw_yes_end F3 N3 l3 o2 hWn hJ he (by simp [isW, hkk]) ((ExR.word hT hi').mono (PT.mono fun p hp => .tail _ (.tail _ (.tail _ (hs5 p hp)))))
              · rename _ ≠ (4 : Int) => hkk
                refine LCg.CompEnd.intro (by assumption) N2 _ (fun _ h => h) o2 (.inr ⟨_, hWn, rfl, _, rfl⟩) ?_
                exact JW.no hJ he (by simp [isW, hkk])
            | _ => cases hwd
          · intro ys2 nw hJ
            have hA := jw_end hJ (by rw [List.size_toArray, hws.length]; exact Nat.le_refl _)
            obtain ⟨tn, hnw, hX⟩ := hJ
            clear hCo hX
            have hyl : ys2.length ≤ 100 := by
              rw [hA.length, List.length_map]
              have a1 := fw_len 4 (sts.flatMap St.seen)
              have a2 := seen_sum sts hG
              omega
            k_steps
            unfold Stop
            rename Fr _ _ _ _ => Fb
            rename News _ _ _ _ => Nb
            rename _ = Data.cell (some (Value.int 4 _)) => dC
            have hcd := ne_get (Nb.get (.tail _ (by rw [hnw]; exact List.mem_append.mpr (.inr (.tail _ (.head _)))))) (Nb.get (.tail _ (by rw [hnw]; exact List.mem_append.mpr (.inr (.tail _ (.tail _ (.head _))))))) (cellNE dC (fun v q => by cases q)).symm
            have q7 := plus_ready Nb hnw hcd O5
            obtain ⟨tl7, N8, O8, mC, s37, hup, gD⟩ := q7
            k_dflt refine iadd_L Fb N8 O8 gD (by rw [PySem.sizeLine_eq]; omega) ?_
            intro h9 n9 F9 N9
            k_steps
            rename Fr _ _ _ _ => Fc
            rename News _ _ _ _ => Nc
            have k5 := TC5.keep Fc Nc (fun p hp => .tail _ (s37 p hp))
            have q10 := regroup2 Nc (.tail _ mC) (.head _)
            obtain ⟨tl9, N10, O10, i10⟩ := q10
            refine FEnd.nx ((⟨_, _, dC⟩, cs ++ ys2, n9) : L6S) tl9 Fc N10 (fun p hp => i10 p (.tail _ (s37 p hp)) (fun e => O5 p hp _ (.head _) e) (fun e => O5 p hp _ (.tail _ (.head _)) e)) (all_five rfl rfl rfl rfl rfl) (inv6_yes hI rfl hin k5 ?_)
            rw [row_four hkey, fw_blk]
            exact hA.mono fun _ _ z => z.mono fun a vs z => Nc.get (.tail _ (hup a vs z))
      · rw [decide_eq_false (fun q => hin (hrk.mp q))]
        clear hrk
        k_steps
        rename Fr _ _ _ _ => Fb
        rename News _ _ _ _ => Nb
        have k5 := TC5.keep Fb Nb (fun p hp => .tail _ (.tail _ (.tail _ hp)))
        obtain ⟨tl9, N10, O10, i10⟩ := regroup2 (a := _) (b := _) Nb (.tail _ (.head _)) (.tail _ (.tail _ (.head _)))
        rename _ = Data.cell (some (Value.int key _)) => dC
        exact FEnd.ct ((⟨_, _, dC⟩, cs, cn) : L6S) tl9 Fb N10 (fun p hp => i10 p (.tail _ (.tail _ (.tail _ hp))) (fun e => O5 p hp _ (.head _) e) (fun e => O5 p hp _ (.tail _ (.head _)) e)) (all_five rfl rfl rfl rfl rfl) (inv6_no hI rfl hin k5)
    intro x94 u5 h5 tk5 tl3 F5 N5 O5 C5 TC5 hs5 hI
    (try dsimp only); (try k_fold)
    obtain ⟨⟨ck5, vk5, hck5⟩, cs, cn⟩ := x94
    dsimp only [pin, pins6, locC, led6, List.cons_append, List.nil_append] at F5 N5 O5 C5 ⊢
    have packG := packG_of F5 rfl rfl rfl N5 (fun p hp => hs5 _ (hdl p hp)) hdsg (hnd.mono (PT.mono hs5)) hI hG hsl hlo
    clear F5 N5
    k_extra "q_clean"
    clear hdsg hdc hG hms hws hnd hok hI
    revert packG
    (repeat (rename _ => hz9; revert hz9))
    refine wr ?_
    apply cutw)
  trivial
set_option tactic.hygienic false in
set_option maxHeartbeats 8000000 in
open_top lg_ for PySem.Challenge.rw_on0116_01
theorem reg_M7_0 : True := by
  k_with_none
  k_with "q_enter" => (refine' enterQ (by k_asm) (by k_asm) (by k_asm) (by k_asm) (by k_asm) (by exact rfl) (by exact rfl) (by assumption) (by k_is) (by k_is) (by ktr_room) (by exact BindsTo.of_eq rfl) (by exact locs rfl) ?_ (by exact rfl) (by exact rfl) (by exact rfl) (by decide); k_whole)
  k_with "units_room" => (ktr_units)
  k_with "q_len" => (rw [PySem.sizeLine_eq]; (try simp only [List.length_append, List.length_cons, List.length_nil]); omega)
  k_with "call builtin:list.append" => (k_here; k_dflt (refine' append_L (by k_asm) (by k_asm) (by k_upd) (by k_extra "q_len") ?_; (intro h' F' N'; (try dsimp only [List.nil_append, List.cons_append] at N'))))
  k_with "call builtin:list.pop" => (k_here; k_dflt (refine' pop_L (by k_asm) (by k_asm) (by k_upd) (by k_extra "q_len") ?_; (intro h' F' N'; (try dsimp only [List.nil_append, List.cons_append] at N'))))
  k_with "truthy ref" => (k_here; k_dflt (refine' truthy_L (by k_asm) (by k_mem) (by k_extra "q_len") ?_))
  k_with "exec While" => ((have hSt := (by with_reducible assumption : StopWhile)); clear hSt; refine Stop.of ?_)
  k_with "pyIter ref" => ((have hSt := (by with_reducible assumption : StopFor)); clear hSt; refine Stop.of ?_)
  k_with "call type:reversed" => (k_here; k_dflt (refine' rvt_L (by k_asm) (by k_asm) (by exact isTup_now (News.get (by assumption) (by k_mem))) (by ((try simp only [List.length_cons, List.length_nil]); omega)) ?_; (intro I' h' tk' F' N' l1; (try k_lt l1))))
  k_with "call builtin:list.extend" => (k_here; k_dflt (refine' extend_L (by k_asm) (by k_asm) (by (intro o'; k_upd)) (by first | assumption | exact News.get (by assumption) (by k_mem)) (by k_extra "q_len") ?_; (intro h' n' F' N'; (try dsimp only [List.nil_append, List.cons_append] at N'))))
  k_with "call type:list" => (k_here; k_dflt (refine' listT_L (by k_asm) (by k_asm) (by first | exact isTup_P (by assumption) (by assumption) (by assumption) | exact isTup_base (by assumption) (by assumption)) (by k_extra "q_len") ?_; (intro D' c' h' F' N' l1; (try k_lt l1))))
  k_with "exec For" => ((have hSt := (by with_reducible assumption : StopFor)); clear hSt; k_here; (rename Fr _ _ _ _ => lF'); (with_unfolding_all refine' For_invVF lF' (by exact rfl) (by exact rfl) ?_; k_whole))
  k_with "CompSrcT" => (k_here; (have hSt := (by with_reducible assumption : StopComp)); clear hSt; k_dflt (refine LCt.CompSrcT.ledger (by rfl) (by k_asm) (by k_asm) (by k_mem) (by (try rw [List.size_toArray]); k_extra "q_len") ?_); refine Stop.of ?_)
  k_with "CompSrc" => (k_here; (have hSt := (by with_reducible assumption : StopComp)); clear hSt; k_dflt (refine LCg.CompSrc.ledger (by rfl) (by k_asm) (by k_asm) (by k_mem) (by (try rw [List.size_toArray]); k_extra "q_len") ?_); refine Stop.of ?_)
  k_with "CompEnd" => ((have hSt := (by with_reducible assumption : StopComp)); clear hSt; refine Stop.of ?_)
  k_with "q_clean" => ((repeat (with_reducible rename Fr _ _ _ _ => hz; clear hz)); (repeat (with_reducible rename News _ _ _ _ => hz; clear hz)); (repeat (with_reducible rename _ ∧ _ => hz; clear hz)); (repeat (with_reducible rename @LT.lt Nat _ _ _ => hz; clear hz)); (repeat (with_reducible rename OwnOff _ _ => hz; clear hz)); (repeat (with_reducible rename Cov _ _ _ _ _ => hz; clear hz)); (repeat (with_reducible rename TCov _ _ _ => hz; clear hz)); (repeat (with_reducible rename _ ∈ _ => hz; clear hz)); (repeat (with_reducible rename SigEs _ _ _ _ => hz; clear hz)); (repeat (with_reducible rename ∀ p ∈ _, p ∈ _ => hz; clear hz)); (repeat (with_reducible rename @Ne Nat _ _ => hz; clear hz)); (repeat (with_reducible rename getL _ _ = _ => hz; clear hz)); (repeat (with_reducible rename _ = Data.cell _ => hz; clear hz)); (repeat (with_reducible rename StopFor => hz; clear hz)); (repeat (with_reducible rename Kept _ _ _ => hz; clear hz)); (repeat (with_reducible rename Heap.get? _ _ = _ => hz; clear hz)); (repeat (with_reducible rename @LE.le Nat _ _ _ => hz; clear hz)); (repeat (with_reducible rename IsRange _ _ _ _ _ _ _ _ => hz; clear hz)); (repeat (with_reducible rename Obj.IsDictOf _ _ _ => hz; clear hz)); (repeat (with_reducible rename AllLt _ _ => hz; clear hz)); (repeat (with_reducible rename IntsAre _ _ => hz; clear hz)); (repeat (with_reducible rename PyProof.V.FlatPairs _ _ _ => hz; clear hz)); (repeat (with_reducible rename Heap.IsList _ _ _ => hz; clear hz)); (repeat (with_reducible rename ReadsAll _ _ _ _ => hz; clear hz)); (repeat (with_reducible rename @LT.lt Int _ _ _ => hz; clear hz)); (repeat (with_reducible rename @LE.le Int _ _ _ => hz; clear hz)); (repeat (with_reducible rename _ ∨ _ => hz; clear hz)))
  k_with "q_no" => (exact notin2' (by k_ne) (by k_ne))
  k_with "q_fr" => (first | exact List.forall_mem_nil _ | (refine List.forall_mem_cons.mpr ⟨⟨_, by k_mem⟩, ?_⟩; k_extra "q_fr"))
  k_with "k_ne" => (refine neN ?_; (try dsimp only); k_extra "ne")
  k_with "ne" => (first | with_reducible assumption | exact Nat.ne_of_lt (AllLt.get (by with_reducible assumption) (by k_mem)) | exact Nat.ne_of_gt (AllLt.get (by with_reducible assumption) (by k_mem)) | exact Ne.symm (by with_reducible assumption) | exact Nat.ne_of_gt (AllLt.get2 (by with_reducible assumption) (by with_reducible assumption) (by k_mem)) | exact Nat.ne_of_lt (AllLt.get2 (by with_reducible assumption) (by with_reducible assumption) (by k_mem)) | exact Nat.ne_of_lt (by with_reducible assumption) | exact Nat.ne_of_gt (by with_reducible assumption) | omega)
  k_with "subscriptTail" => (k_here; k_dflt (refine' item_tupleT (by first | exact isTup_P (by assumption) (by assumption) (by assumption) | exact isTup_base (by assumption) (by assumption) | exact isTup_now (by assumption)) (by decide) (by decide) (by rfl) (by rfl) ?_; k_whole))
  k_with "k_steps" => ((try k_fold); repeat' (first | (k_unfold; (try dsimp only)) | (k_end; wrow_close) | walk1 | (dsimp only; walk1) | (leave1; walk_say "STEP leave1"; try dsimp only) | fail "no step"))
  k_with "k_memR" => (first | with_reducible exact List.mem_cons_self .. | with_reducible assumption | (with_reducible refine List.mem_cons_of_mem _ ?_; k_extra "k_memR"))
  k_with "k_memD" => (first | exact List.mem_cons_self .. | with_reducible assumption | (refine List.mem_cons_of_mem _ ?_; k_extra "k_memD"))
  k_with "k_mem" => (first | k_extra "k_memR" | k_extra "k_memD")
  k_with "k_all" => (first | exact List.forall_mem_nil _ | ((with_reducible refine' List.forall_mem_cons.mpr (And.intro ?_ ?_)); k_ne; k_all) | with_reducible assumption | exact OwnOff.ne (by with_reducible assumption) (by k_extra "k_memR") | exact allLt_ne (by with_reducible assumption) | exact allLt_nes (by with_reducible assumption) (by intro p9 hp9; k_extra "k_memR") | exact OwnOff.ne (by assumption) (by k_mem) | ((refine' List.forall_mem_cons.mpr (And.intro ?_ ?_)); k_ne; k_all) | exact allLt_nes (by with_reducible assumption) (by intro p9 hp9; k_mem))
  trivial
theorem reg_M7_1 : True := by
  k_with "execs cons" => ((with_reducible refine wpAny_execs_cons ?_); (try dsimp only))
  k_with "newTuple" => (k_here; k_dflt (refine' kup_newTuple (by k_asm) (by k_asm) ?_ (by kmk_size)); intro D' h' F' N' l1; (try k_lt l1))
  k_with "call type:tuple" => (k_here; k_dflt (refine' tupleT_L (by k_asm) (by k_asm) (by k_mem) (by omega) ?_; (intro D' h' F' N' l1; (try k_lt l1))))
  k_with "call ref" => (k_here; refine Stop.of ?_)
  k_with "compareOp Eq ref ref" => (k_here; refine Stop.of ?_)
  trivial
end
set_option tactic.hygienic false in
set_option maxHeartbeats 8000000 in
theorem law_holds : PySem.Challenge.rw_on0116_01.Holds := by
  refine lg_ ?_
  w_on
  k_fill
  intros
  obtain ⟨S, dA, cs, cn, tl, dl, sts, lo, u, F0, N0, hdl, hdsg, hnd, hI, hG, hsl, hlo⟩ := packG
  have hok := nd_ok hG hsl
  have hcl : cs.length ≤ 6000 := rows_bound (c := (⟨⟨.none, none, .cell none, #[]⟩, none, rfl⟩, cs, cn)) hI hok.tot (Nat.le_refl _)
  dsimp only [pin] at F0
  k_steps
  unfold Stop
  rename Fr _ _ _ _ => F7
  rename News _ _ _ _ => N7
  k_dflt (refine' Does.use (stars_does (P := PT tl) (fun a vs z => N7.get (.tail _ z)) hnd hok (hdsg _ (fun p hp => N7.get (.tail _ (hdl p hp)))) hlo) ?k1 F7 ?k3 ?k4 ?kK (List.forall_mem_nil _) ?kd ?ku ?_; (case k1 => k_asm); (case k3 => k_asm); (case k4 => k_asm); (case kK => first | exact rfl | assumption); (case kd => ktr_room); (case ku => ktr_units))
  rintro r h4 tk4 hK ⟨a9, vs9, rfl, hT, hV⟩
  refine' after (S := []) (.miss (fun _ h => nomatch h) .nil) F7 N7 hK (fun _ h => nomatch h) (fun _ h => nomatch h) (all_one list_nt) ?_
  intro tl8 F8 N8 O8 C8 TC8 hs8
  dsimp only [List.map] at N8 O8 C8 hs8
  have kI := kept_tup hK (fun _ h => nomatch h)
  have hI8 := hI.mono fun _ _ z => z.mono kI
  clear F7 N7
  k_steps
  unfold Stop
  rename Fr _ _ _ _ => Fa
  rename News _ _ _ _ => Na
  have k8 := TC8.keep Fa Na (fun p hp => .tail _ (.tail _ hp))
  k_dflt (refine' eq_dus (k8 _ _ hT) (Na.get (.head _)) (hV.mono fun _ _ z => z.mono k8) (hI8.mono fun _ _ z => z.mono k8) (rows_low (fun e he => hok.dep e he)) ?hu ?_; (case hu => ke_room))
  clear hV hI8 hT
  k_steps
  unfold Stop
  k_dflt (refine' Does.use stars_none ?k1 Fa ?k3 ?k4 ?kK (List.forall_mem_nil _) ?kd ?ku ?_; (case k1 => k_asm); (case k3 => k_asm); (case k4 => k_asm); (case kK => first | exact rfl | assumption); (case kd => ktr_room); (case ku => ktr_units))
  rintro r h6 tk6 hK6 ⟨a6, rfl, hT6⟩
  refine' after (S := []) (.drop (.drop .nil)) Fa Na hK6 (fun _ h => nomatch h) (fun _ h => nomatch h) (fun _ h => nomatch h) ?_
  intro tl9 F9 N9 O9 C9 TC9 hs9
  clear Fa Na
  k_steps
  unfold Stop
  rename Fr _ _ _ _ => Fa
  rename News _ _ _ _ => Na
  have k9 := TC9.keep Fa Na (fun p hp => .tail _ hp)
  k_dflt (refine' eq_dus (ds := []) (k9 _ _ hT6) (Na.get (.head _)) .nil .nil (fun _ h => nomatch h) ?hu ?_; (case hu => ke_room))
  k_steps
  all_goals wrow_close
end Mine
theorem PySem.Challenge.cw_on0116_01_holds : PySem.Challenge.rw_on0116_01.Holds := by
  exact Mine.law_holds
