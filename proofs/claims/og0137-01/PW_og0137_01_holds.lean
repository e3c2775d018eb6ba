import PyProof.Rows.All
import Wide.All
import OpenK.AllK
import Wide.FinOn
import PySem.Challenge.RW_og0137_01
open PySem PySem.W PyProof.Rows PySem.Calls PySem.Spec
set_option maxRecDepth 100000
set_option maxHeartbeats 0
set_option Elab.async false
namespace Mine
/-- what stood outside the focus stands as it stood -/
def KeptBut (H : Heap) (S : List (Addr × Obj)) (h' : Heap) : Prop := ∀ b o, H.get? b = some o → b ∉ S.map (·.1) → h'.get? b = some o
def Stand (S : List (Addr × Obj)) (h' : Heap) : Prop := ∀ p ∈ S, h'.get? p.1 = some p.2

def LeaveF (g : Heap) (Kp : Heap → Prop) (R : Result → Shared → Prop) (v : Value) (s' : Shared) : Prop :=
  ∃ L' m' news', Fr g L' s'.heap m' ∧ News g L' s'.heap news' ∧ (Kp s'.heap → Stand news' s'.heap → R (.ok (.ret v)) s')

theorem leaveF_ {g : Heap} {Kp : Heap → Prop} {R : Result → Shared → Prop} {v : Value} {s' : Shared} {L' : Addr} {m' : Str → Option Value} {news' : List (Addr × Obj)}
    (F' : Fr g L' s'.heap m') (N' : News g L' s'.heap news') (k : Kp s'.heap → Stand news' s'.heap → R (.ok (.ret v)) s') : LeaveF g Kp R v s' := ⟨L', m', news', F', N', k⟩

section
variable {prog : Program} {w : World} {A A₀ : Around} {s : Shared} {K : Frag} {L : Addr} {h₀ base : Heap} {m mg mb : Str → Option Value} {sub : List (Addr × Obj)} {p : Program} {loose : List Str} {mean : ExcName → Option Value}
theorem enterF {env : Env} {outer : List Env} {R : Result → Shared → Prop} {name qual : Str} {params : Arguments} {body : List Stmt} {scope : Scope} {dV kV doc pm cdv ct oc : Value} {an od : Option Addr} {osl : Array (Option Value)} {f : Addr} {args : Args} {binds : List (Str × Value)}
    (B : Below A₀ base outer h₀) (F : Fr h₀ L s.heap m) (X₀ : K.In h₀) (N : News h₀ L s.heap sub) (T : Top p loose mean mg mb h₀) (hA : A.frames = some (env :: outer)) (hf : env.frame = some L) (hke : env.scope.kind = .function)
    (ho : K.lookup f = some ⟨oc, od, .func (fnOf name qual params body scope dV kV doc pm an cdv ct), osl⟩) (hcd : codeIn K cdv qual = true) (hroom : A.depth < recursionLimit)
    (hbind : BindsTo s (fnOf name qual params body scope dV kV doc pm an cdv ct) args binds) (hloc : ∀ y ∈ binds, scope.names.lookup y.1 = some .local)
    (h : ∀ g L' h₁, Fr g L' h₁ (fun y => binds.reverse.lookup y) → News g L' h₁ sub → Below A base (env :: outer) g → K.In g → Top p loose mean mg mb g →
      wpAny (model prog w) (A.deeper (envOf qual scope L' f cdv)) (execs body (envOf qual scope L' f cdv))
        (fun fl s' => LeaveF g (KeptBut s.heap sub) R (match fl with | .ret v => v | _ => .none) s')
        (fun e s' => wpAny (model prog w) (A.deeper (envOf qual scope L' f cdv)) (leaving (envOf qual scope L' f cdv) e) (fun _ s'' => R (.error e) s'') (fun e' s'' => R (.error e') s'') s')
        { s with heap := h₁, toks := s.toks + binds.length })
    (hco : scope.isCoroutine = false) (hgen : scope.isGenerator = false) (hk : scope.kind = .function)
    (hcell : ∀ x ∈ scope.names, x.2 ≠ .cell) : codeAny (model prog w) A (.call (.ref f) args) R s := by
  obtain ⟨FG, BG, st, _⟩ := groundX (R := R) B F N hA hf hke
  refine codeAny_call_def (fd := fnOf name qual params body scope dV kV doc pm an cdv ct) (body := body) (binds := binds) hroom ((X₀.keeps F.keep) _ _ ho) rfl (T.nolimit.keeps F.keep) (codeRec_of (X₀.keeps F.keep) hcd) rfl hbind hcell hloc (fun h₁ hns hk₁ => ?_) hco hgen hk
  refine wpAny_mono (h _ s.heap.objs.size h₁ ⟨hns, fun b o e => hk₁ b o (of_hideAll _ e), Nat.le_of_eq (hideAll_size _ _)⟩
    (fun p hp => ⟨hk₁ _ _ (N p hp).1, Nat.ne_of_lt (Heap.lt_size (N p hp).1), hideAll_none _ (List.mem_map_of_mem hp)⟩) BG (X₀.keeps st) (T.keeps st)) (fun fl s' hl => ?_) fun _ _ y => y
  obtain ⟨L', m', news', F', N', k⟩ := hl
  exact k (fun b o e hn => F'.keep b o (hideAll_get _ e hn)) fun p hp => (N' p hp).1
end

/-- a contract of a call: args, the objects in focus, what comes back and how the focus stands then -/
def Ct (prog : Program) (w : World) (K : Frag) (p : Program) (loose : List Str) (mean : ExcName → Option Value) (mg mb : Str → Option Value) (f : Addr) (c : Nat) (vs : List Value) (sub : List (Addr × Obj)) (post : Value → List (Addr × Obj) → Prop) : Prop :=
  ∀ (dp un : Nat) (gd : Option (List Code)) (cn : Str) (cs : Scope) (a : Addr) (ccd : Value) (cl : List (Str × Addr)) (outer : List Env) (A₀ : Around) (base h₀ : Heap) (L : Addr) (m : Str → Option Value) (s : Shared) (Q E : Value → Shared → Prop),
    Below A₀ base outer h₀ → Fr h₀ L s.heap m → K.In h₀ → News h₀ L s.heap sub → Top p loose mean mg mb h₀ → cs.kind = .function → dp + c < recursionLimit → un + 8 * c < cLine →
    (∀ v sub' h' tk', post v sub' → KeptBut s.heap sub h' → Stand sub' h' → Q v { s with heap := h', toks := tk' }) →
    wpAny (model prog w) (ktrTop dp un gd cn cs L a ccd cl outer) (call (.ref f) vs) Q E s

section
variable {h₀ H h' : Heap} {L : Addr} {m : Str → Option Value} {sub sub' news news' : List (Addr × Obj)}
theorem KeptBut.fr (F : Fr h₀ L H m) (N : News h₀ L H sub) (k : KeptBut H sub h') : Fr h₀ L h' m := by
  obtain ⟨oL, es, ep, hL, r⟩ := F.ns
  refine ⟨⟨oL, es, ep, k _ _ hL fun q => ?_, r⟩, fun b o e => k _ _ (F.keep b o e) fun q => ?_, F.above⟩
  · obtain ⟨p, hp, e⟩ := List.mem_map.mp q
    exact (N p hp).2.1 e
  · obtain ⟨p, hp, e'⟩ := List.mem_map.mp q
    have := (N p hp).2.2
    rw [e', e] at this; cases this
/-- nothing in the focus turned -/
theorem KeptBut.led (N : News h₀ L H news) (k : KeptBut H sub h') (y : Stand sub h') (hs : ∀ p ∈ sub, p ∈ news) : News h₀ L h' news := fun p hp => by
  refine ⟨?_, (N p hp).2⟩
  by_cases q : p.1 ∈ sub.map (·.1)
  · obtain ⟨r, hr, e⟩ := List.mem_map.mp q
    have h1 := (N p hp).1
    have h2 := (N r (hs r hr)).1
    rw [e, h1] at h2
    have h3 := y r hr
    rw [e] at h3
    rw [h3, h2]
  · exact k _ _ (N p hp).1 q
/-- one object of the focus turned -/
theorem KeptBut.upd {d : Addr} {o o' : Obj} (N : News h₀ L H news) (k : KeptBut H sub h') (y : Stand sub' h') (U : Upd d o o' news news') (ho : (d, o') ∈ sub') (hs : ∀ p ∈ sub, p.1 ≠ d → p ∈ sub') (hn : ∀ p ∈ sub, p ∈ news) : News h₀ L h' news' := by
  obtain ⟨pre, post, rfl, rfl, a, b⟩ := U.split
  have all : ∀ p ∈ pre ++ (d, o) :: post, p.1 ≠ d → h'.get? p.1 = some p.2 := fun p hp hne => by
    by_cases q : p.1 ∈ sub.map (·.1)
    · obtain ⟨r, hr, e⟩ := List.mem_map.mp q
      have h1 := (N p hp).1
      have h2 := (N r (hn r hr)).1
      rw [e, h1] at h2
      have h3 := y r (hs r hr (by rw [e]; exact hne))
      rw [e] at h3
      rw [h3, h2]
    · exact k _ _ (N p hp).1 q
  intro p hp
  rcases List.mem_append.mp hp with hp | hp
  · exact ⟨all p (List.mem_append_left _ hp) (a p hp), (N p (List.mem_append_left _ hp)).2⟩
  · rcases List.mem_cons.mp hp with rfl | hp
    · exact ⟨y _ ho, (N (d, o) (by simp)).2⟩
    · exact ⟨all p (List.mem_append_right _ (.tail _ hp)) (b p hp), (N p (List.mem_append_right _ (.tail _ hp))).2⟩
end

theorem Ct.use {prog : Program} {w : World} {K : Frag} {p : Program} {loose : List Str} {mean : ExcName → Option Value} {mg mb : Str → Option Value} {f : Addr} {c : Nat} {vs : List Value} {sub : List (Addr × Obj)} {post : Value → List (Addr × Obj) → Prop}
    {dp un : Nat} {gd : Option (List Code)} {cn : Str} {cs : Scope} {a : Addr} {ccd : Value} {cl : List (Str × Addr)} {outer : List Env} {A₀ : Around} {base h₀ : Heap} {L : Addr} {m : Str → Option Value} {news : List (Addr × Obj)} {s : Shared} {Q E : Value → Shared → Prop}
    (B : Below A₀ base outer h₀) (F : Fr h₀ L s.heap m) (X : K.In h₀) (N : News h₀ L s.heap news) (T : Top p loose mean mg mb h₀) (hk : cs.kind = .function) (C : Ct prog w K p loose mean mg mb f c vs sub post) (hs : ∀ q ∈ sub, q ∈ news)
    (hd : dp + c < recursionLimit) (hu : un + 8 * c < cLine)
    (ret : ∀ v sub' h' tk', post v sub' → Fr h₀ L h' m → KeptBut s.heap sub h' → Stand sub' h' → Q v { s with heap := h', toks := tk' }) :
    wpAny (model prog w) (ktrTop dp un gd cn cs L a ccd cl outer) (call (.ref f) vs) Q E s :=
  have N' : News h₀ L s.heap sub := fun q hq => N q (hs q hq)
  C _ _ _ _ _ _ _ _ _ _ _ _ _ _ _ _ _ B F X N' T hk hd hu fun v sub' h' tk' hp k y => ret v sub' h' tk' hp (k.fr F N') k y

/-- a call that turns nothing, as the walk wants it -/
theorem Ct.use0 {prog : Program} {w : World} {K : Frag} {p : Program} {loose : List Str} {mean : ExcName → Option Value} {mg mb : Str → Option Value} {f : Addr} {c : Nat} {vs : List Value} {sub : List (Addr × Obj)} {val : Value → Prop}
    {dp un : Nat} {gd : Option (List Code)} {cn : Str} {cs : Scope} {a : Addr} {ccd : Value} {cl : List (Str × Addr)} {outer : List Env} {A₀ : Around} {base h₀ : Heap} {L : Addr} {m : Str → Option Value} {news : List (Addr × Obj)} {s : Shared} {Q E : Value → Shared → Prop}
    (C : Ct prog w K p loose mean mg mb f c vs sub (fun v sub' => sub' = sub ∧ val v)) (B : Below A₀ base outer h₀) (F : Fr h₀ L s.heap m) (X : K.In h₀) (N : News h₀ L s.heap news) (T : Top p loose mean mg mb h₀) (hk : cs.kind = .function) (hs : ∀ q ∈ sub, q ∈ news)
    (hd : dp + c < recursionLimit) (hu : un + 8 * c < cLine)
    (ret : ∀ v h' tk', val v → Fr h₀ L h' m → News h₀ L h' news → Q v { s with heap := h', toks := tk' }) :
    wpAny (model prog w) (ktrTop dp un gd cn cs L a ccd cl outer) (call (.ref f) vs) Q E s :=
  Ct.use B F X N T hk C hs hd hu fun v sub' h' tk' hp F' k y => ret v h' tk' hp.2 F' (k.led N (hp.1 ▸ y) hs)

/-- a call that turns one object -/
theorem Ct.use1 {prog : Program} {w : World} {K : Frag} {p : Program} {loose : List Str} {mean : ExcName → Option Value} {mg mb : Str → Option Value} {f : Addr} {c : Nat} {vs : List Value} {sub : List (Addr × Obj)} {d : Addr} {o : Obj} {val : Value → Obj → Prop}
    {dp un : Nat} {gd : Option (List Code)} {cn : Str} {cs : Scope} {a : Addr} {ccd : Value} {cl : List (Str × Addr)} {outer : List Env} {A₀ : Around} {base h₀ : Heap} {L : Addr} {m : Str → Option Value} {news : List (Addr × Obj)} {news' : Obj → List (Addr × Obj)} {s : Shared} {Q E : Value → Shared → Prop}
    (C : Ct prog w K p loose mean mg mb f c vs sub (fun v sub' => ∃ o', (d, o') ∈ sub' ∧ (∀ q ∈ sub, q.1 ≠ d → q ∈ sub') ∧ val v o')) (B : Below A₀ base outer h₀) (F : Fr h₀ L s.heap m) (X : K.In h₀) (N : News h₀ L s.heap news) (T : Top p loose mean mg mb h₀) (hk : cs.kind = .function) (hs : ∀ q ∈ sub, q ∈ news)
    (U : ∀ o', Upd d o o' news (news' o')) (hd : dp + c < recursionLimit) (hu : un + 8 * c < cLine)
    (ret : ∀ v o' h' tk', val v o' → Fr h₀ L h' m → News h₀ L h' (news' o') → Q v { s with heap := h', toks := tk' }) :
    wpAny (model prog w) (ktrTop dp un gd cn cs L a ccd cl outer) (call (.ref f) vs) Q E s :=
  Ct.use B F X N T hk C hs hd hu fun v sub' h' tk' ⟨o', h1, h2, h3⟩ F' k y => ret v o' h' tk' h3 F' (k.upd N y (U o') h1 h2 hs)


section
variable {prog : Program} {w : World} {K : Frag} {p : Program} {loose : List Str} {mean : ExcName → Option Value} {mg mb : Str → Option Value} {f : Addr} {c : Nat} {vs : List Value} {sub : List (Addr × Obj)}
    {dp un : Nat} {gd : Option (List Code)} {cn : Str} {cs : Scope} {a : Addr} {ccd : Value} {cl : List (Str × Addr)} {outer : List Env} {A₀ : Around} {base h₀ : Heap} {L : Addr} {m : Str → Option Value} {news : List (Addr × Obj)} {s : Shared} {Q E : Value → Shared → Prop}
/-- nothing turned, a known value -/
theorem Ct.useV {V : Value} (C : Ct prog w K p loose mean mg mb f c vs sub (fun v sub' => sub' = sub ∧ v = V)) (B : Below A₀ base outer h₀) (F : Fr h₀ L s.heap m) (X : K.In h₀) (N : News h₀ L s.heap news) (T : Top p loose mean mg mb h₀) (hk : cs.kind = .function) (hs : ∀ q ∈ sub, q ∈ news)
    (hd : dp + c < recursionLimit) (hu : un + 8 * c < cLine) (ret : ∀ h' tk', Fr h₀ L h' m → News h₀ L h' news → Q V { s with heap := h', toks := tk' }) :
    wpAny (model prog w) (ktrTop dp un gd cn cs L a ccd cl outer) (call (.ref f) vs) Q E s :=
  Ct.use0 C B F X N T hk hs hd hu fun _ h' tk' e F' N' => e ▸ ret h' tk' F' N'
/-- nothing turned, an int -/
theorem Ct.useI {i : Int} (C : Ct prog w K p loose mean mg mb f c vs sub (fun v sub' => sub' = sub ∧ ∃ t, v = .int i t)) (B : Below A₀ base outer h₀) (F : Fr h₀ L s.heap m) (X : K.In h₀) (N : News h₀ L s.heap news) (T : Top p loose mean mg mb h₀) (hk : cs.kind = .function) (hs : ∀ q ∈ sub, q ∈ news)
    (hd : dp + c < recursionLimit) (hu : un + 8 * c < cLine) (ret : ∀ t h' tk', Fr h₀ L h' m → News h₀ L h' news → Q (.int i t) { s with heap := h', toks := tk' }) :
    wpAny (model prog w) (ktrTop dp un gd cn cs L a ccd cl outer) (call (.ref f) vs) Q E s :=
  Ct.use0 C B F X N T hk hs hd hu fun _ h' tk' ⟨t, e⟩ F' N' => e ▸ ret t h' tk' F' N'
/-- one object turned by one token, an int comes back -/
theorem Ct.useT {i : Int} {d : Addr} {o : Obj} {O : Tok → Obj} {news' : Obj → List (Addr × Obj)}
    (C : Ct prog w K p loose mean mg mb f c vs sub (fun v sub' => ∃ o', (d, o') ∈ sub' ∧ (∀ q ∈ sub, q.1 ≠ d → q ∈ sub') ∧ ∃ t t', v = .int i t ∧ o' = O t')) (B : Below A₀ base outer h₀) (F : Fr h₀ L s.heap m) (X : K.In h₀) (N : News h₀ L s.heap news) (T : Top p loose mean mg mb h₀) (hk : cs.kind = .function) (hs : ∀ q ∈ sub, q ∈ news)
    (U : ∀ o', Upd d o o' news (news' o')) (hd : dp + c < recursionLimit) (hu : un + 8 * c < cLine) (ret : ∀ t t' h' tk', Fr h₀ L h' m → News h₀ L h' (news' (O t')) → Q (.int i t) { s with heap := h', toks := tk' }) :
    wpAny (model prog w) (ktrTop dp un gd cn cs L a ccd cl outer) (call (.ref f) vs) Q E s :=
  Ct.use1 C B F X N T hk hs U hd hu fun _ o' h' tk' ⟨t, t', e, e'⟩ F' N' => e ▸ ret t t' h' tk' F' (e' ▸ N')
/-- one object turned, None comes back -/
theorem Ct.useS {d : Addr} {o : Obj} {O : Tok → Obj} {news' : Obj → List (Addr × Obj)}
    (C : Ct prog w K p loose mean mg mb f c vs sub (fun v sub' => ∃ o', (d, o') ∈ sub' ∧ (∀ q ∈ sub, q.1 ≠ d → q ∈ sub') ∧ v = .none ∧ ∃ t', o' = O t')) (B : Below A₀ base outer h₀) (F : Fr h₀ L s.heap m) (X : K.In h₀) (N : News h₀ L s.heap news) (T : Top p loose mean mg mb h₀) (hk : cs.kind = .function) (hs : ∀ q ∈ sub, q ∈ news)
    (U : ∀ o', Upd d o o' news (news' o')) (hd : dp + c < recursionLimit) (hu : un + 8 * c < cLine) (ret : ∀ t' h' tk', Fr h₀ L h' m → News h₀ L h' (news' (O t')) → Q .none { s with heap := h', toks := tk' }) :
    wpAny (model prog w) (ktrTop dp un gd cn cs L a ccd cl outer) (call (.ref f) vs) Q E s :=
  Ct.use1 C B F X N T hk hs U hd hu fun _ o' h' tk' ⟨e, t', e'⟩ F' N' => e ▸ ret t' h' tk' F' (e' ▸ N')
/-- one object turned, bytes come back -/
theorem Ct.useR {d : Addr} {o : Obj} {O : Tok → Obj} {P : Array UInt8 → Prop} {news' : Obj → List (Addr × Obj)}
    (C : Ct prog w K p loose mean mg mb f c vs sub (fun v sub' => ∃ o', (d, o') ∈ sub' ∧ (∀ q ∈ sub, q.1 ≠ d → q ∈ sub') ∧ ∃ b t t', P b ∧ v = .bytes b t ∧ o' = O t')) (B : Below A₀ base outer h₀) (F : Fr h₀ L s.heap m) (X : K.In h₀) (N : News h₀ L s.heap news) (T : Top p loose mean mg mb h₀) (hk : cs.kind = .function) (hs : ∀ q ∈ sub, q ∈ news)
    (U : ∀ o', Upd d o o' news (news' o')) (hd : dp + c < recursionLimit) (hu : un + 8 * c < cLine) (ret : ∀ b, P b → ∀ t t' h' tk', Fr h₀ L h' m → News h₀ L h' (news' (O t')) → Q (.bytes b t) { s with heap := h', toks := tk' }) :
    wpAny (model prog w) (ktrTop dp un gd cn cs L a ccd cl outer) (call (.ref f) vs) Q E s :=
  Ct.use1 C B F X N T hk hs U hd hu fun _ o' h' tk' ⟨b, t, t', hb, e, e'⟩ F' N' => e ▸ ret b hb t t' h' tk' F' (e' ▸ N')
/-- one object turned, None or an int comes back -/
theorem Ct.useN {d : Addr} {o : Obj} {c1 c2 : Prop} {O1 O2 : Tok → Obj} {news' : Obj → List (Addr × Obj)}
    (C : Ct prog w K p loose mean mg mb f c vs sub (fun v sub' => ∃ o', (d, o') ∈ sub' ∧ (∀ q ∈ sub, q.1 ≠ d → q ∈ sub') ∧ ((c1 ∧ v = .none ∧ ∃ t', o' = O1 t') ∨ (c2 ∧ ∃ n t t', v = .int n t ∧ o' = O2 t')))) (B : Below A₀ base outer h₀) (F : Fr h₀ L s.heap m) (X : K.In h₀) (N : News h₀ L s.heap news) (T : Top p loose mean mg mb h₀) (hk : cs.kind = .function) (hs : ∀ q ∈ sub, q ∈ news)
    (U : ∀ o', Upd d o o' news (news' o')) (hd : dp + c < recursionLimit) (hu : un + 8 * c < cLine)
    (r1 : c1 → ∀ t' h' tk', Fr h₀ L h' m → News h₀ L h' (news' (O1 t')) → Q .none { s with heap := h', toks := tk' })
    (r2 : c2 → ∀ n t t' h' tk', Fr h₀ L h' m → News h₀ L h' (news' (O2 t')) → Q (.int n t) { s with heap := h', toks := tk' }) :
    wpAny (model prog w) (ktrTop dp un gd cn cs L a ccd cl outer) (call (.ref f) vs) Q E s :=
  Ct.use1 C B F X N T hk hs U hd hu fun _ o' h' tk' hv F' N' => by
    rcases hv with ⟨hc, rfl, t', rfl⟩ | ⟨hc, n, t, t', rfl, rfl⟩
    · exact r1 hc t' h' tk' F' N'
    · exact r2 hc n t t' h' tk' F' N'
/-- one object turned, an int of which something is known comes back -/
theorem Ct.useD {d : Addr} {o : Obj} {O : Tok → Obj} {P : Int → Prop} {news' : Obj → List (Addr × Obj)}
    (C : Ct prog w K p loose mean mg mb f c vs sub (fun v sub' => ∃ o', (d, o') ∈ sub' ∧ (∀ q ∈ sub, q.1 ≠ d → q ∈ sub') ∧ ∃ i t t', P i ∧ v = .int i t ∧ o' = O t')) (B : Below A₀ base outer h₀) (F : Fr h₀ L s.heap m) (X : K.In h₀) (N : News h₀ L s.heap news) (T : Top p loose mean mg mb h₀) (hk : cs.kind = .function) (hs : ∀ q ∈ sub, q ∈ news)
    (U : ∀ o', Upd d o o' news (news' o')) (hd : dp + c < recursionLimit) (hu : un + 8 * c < cLine) (ret : ∀ i, P i → ∀ t t' h' tk', Fr h₀ L h' m → News h₀ L h' (news' (O t')) → Q (.int i t) { s with heap := h', toks := tk' }) :
    wpAny (model prog w) (ktrTop dp un gd cn cs L a ccd cl outer) (call (.ref f) vs) Q E s :=
  Ct.use1 C B F X N T hk hs U hd hu fun _ o' h' tk' ⟨i, t, t', hi, e, e'⟩ F' N' => e ▸ ret i hi t t' h' tk' F' (e' ▸ N')
end
section
open PySem.Builtin PyProof.V
-- an int of 0 .. 255 in bytes
theorem slot_bytes_contains : Slot "bytes" "__contains__" "bytes.__contains__" :=
  .of (owner := "bytes") (n := "__contains__") (by rw [typeLookup_type, builtinLookup_eq_fast]; kernel_rfl) (by decide +kernel) (by decide +kernel) (by decide +kernel)
    (by first | exact .inl (by decide +kernel) | exact .inr (by decide +kernel)) (by rw [isSubtype_type]; kernel_rfl)
theorem entry_bytes_contains : entryFor table "bytes.__contains__" = some Builtin.«bytes.__contains__» := entryFor_of_tree (by kernel_rfl)
theorem args_bytes_contains (a b : Value) : argsOk "bytes.__contains__" ⟨[a, b], []⟩ := by unfold argsOk; kernel_rfl
section
variable {prog : Program} {w : World} {A : Around} {E : Value → Shared → Prop} {s : Shared} {b : Array UInt8} {t u : Tok} {x : Int}
theorem bytes_contains_body {R : Value → Shared → Prop} (h0 : 0 ≤ x) (h1 : x < 256) (h : R (.bool (b.contains x.toNat.toUInt8)) s) :
    wpAny (model prog w) A («bytes.__contains__» ⟨[.bytes b t, .int x u], []⟩) (fun fin s' => ∃ v, fin = .done (.ret v) ∧ R v s') E s := by
  show wpAny _ A (Bytes.containsIn "bytes.__contains__" (.bytes b t) (.int x u) >>= fun r => _) _ E s
  refine wpAny_bind ?_
  unfold Bytes.containsIn
  refine wpAny_bind (wpAny_attempt ?_)
  refine wpAny_of_eq (a := x) rfl ?_
  refine wpAny_bind (wpAny_of_eq KBy.buffer_eq ?_)
  show wpAny _ A (if (decide (x < 0) || decide (x ≥ 256)) = true then _ else _) _ E s
  rw [if_neg (by simp; omega)]
  exact wpAny_pure (wpAny_pure ⟨_, rfl, h⟩)
theorem contains_bytes {Q : Bool → Shared → Prop} (h0 : 0 ≤ x) (h1 : x < 256) (h : Q (b.contains x.toNat.toUInt8) s) : wpAny (model prog w) A (contains (.bytes b t) (.int x u)) Q E s := by
  unfold contains
  refine wpAny_holding ?_
  refine wpAny_bind (wpAny_specialOf (typeIs_bytes s b t) slot_bytes_contains.lookup ?_)
  rw [if_neg (by decide)]
  refine wpAny_bind (wpAny_callSpecialUnlessNone?_slot (name := Str.ofString "__contains__") (typeIs_bytes s b t) slot_bytes_contains ?_)
  exact wpAny_call_entry slot_bytes_contains (typeIs_bytes s b t) entry_bytes_contains (bytes_contains_body h0 h1 (wpAny_truthy_bool h)) (args_bytes_contains _ _)
theorem notin_bytes {Q : Value → Shared → Prop} (h0 : 0 ≤ x) (h1 : x < 256) (h : Q (.bool (!(b.contains x.toNat.toUInt8))) s) : wpAny (model prog w) A (compareOp .NotIn (.int x u) (.bytes b t)) Q E s := by
  show wpAny _ _ (do return .bool (!(← contains (.bytes b t) (.int x u)))) Q E s
  exact wpAny_bind (contains_bytes h0 h1 (wpAny_pure h))
end
section
variable {prog : Program} {w : World} {A : Around} {E : Value → Shared → Prop} {s : Shared} {h₀ : Heap} {L : Addr} {m : PySem.Str → Option Value} {news : List (Addr × Obj)} {e n : Int} {t u : Tok}
theorem min_le {Q : Value → Shared → Prop} (hh : A.handled = none) (F : Fr h₀ L s.heap m) (N : News h₀ L s.heap news) (hle : e ≤ n) (h : ∀ h' tk, Fr h₀ L h' m → News h₀ L h' news → Q (.int e t) { s with heap := h', toks := tk }) :
    wpAny (model prog w) A (call (.builtin "min") [.int e t, .int n u]) Q E s :=
  PySem.Flt.min_two_split hh (.int _ _) (.int _ _) (k := false) (by show decide (n < e) = false; exact decide_eq_false (by omega)) F N (fun c => by cases c) (fun _ => h)
end
end
section
open PySem.Builtin PyProof.V
theorem slot_bytes_join : Slot "bytes" "join" "bytes.join" :=
  .of (owner := "bytes") (n := "join") (by rw [typeLookup_type, builtinLookup_eq_fast]; kernel_rfl) (by decide +kernel) (by decide +kernel) (by decide +kernel)
    (by first | exact .inl (by decide +kernel) | exact .inr (by decide +kernel)) (by rw [isSubtype_type]; kernel_rfl)
theorem type_bytes_join : typeOf (.builtin "bytes.join") = pure (.type "method_descriptor") := by show builtinType _ = _; rw [builtinType_eq_fast]; kernel_rfl
theorem entry_bytes_join : entryFor table "bytes.join" = some Builtin.«bytes.join» := entryFor_of_tree (by kernel_rfl)
theorem args_bytes_join (a b : Value) : argsOk "bytes.join" ⟨[a, b], []⟩ := by unfold argsOk; kernel_rfl
/-- all of the list are bytes, each of at most B -/
def AreBytes (B : Nat) (vs : List Value) : Prop := ∀ v ∈ vs, ∃ b t, v = .bytes b t ∧ b.size ≤ B
section
variable {prog : Program} {w : World} {A : Around} {E : Value → Shared → Prop} {s : Shared} {b : Array UInt8} {t : Tok} {B : Nat} {vs : List Value}
theorem join_method {M : Model} {pl : Sem Bool} {Q : Value × List Value → Shared → Prop} (h : Q (.builtin "bytes.join", [.bytes b t]) s) : wpAny M A (getMethod (.bytes b t) "join" pl) Q E s := by
  with_reducible exact KBd.method_of (.bytes b t) (typeIs_bytes _ _ _) slot_bytes_join type_bytes_join KBd.noRef h
theorem take_eq {id : String} : Bytes.takeBufferQuiet? id (.bytes b t) 0 = pure (some (b, none)) := by
  unfold Bytes.takeBufferQuiet? Bytes.takeBuffer?
  rw [KBy.special_eq KBy.look_buffer, KBy.own_buffer]
  have e : Bytes.buffer? id (.bytes b t) (full := (0 : Int) == Bytes.fullReadOnly) = pure (some b) := KBy.buffer_eq
  simp only [pure_bind, e]
  rfl
theorem letGo_taken {Q : Unit → Shared → Prop} {keep : List Value} : ∀ {taken : List (Value × Option Value)}, (∀ q ∈ taken, q.2 = none) → Q () s → wpAny (model prog w) A (Bytes.joinLetGo taken keep) Q E s
  | [], _, h => by unfold Bytes.joinLetGo; exact wpAny_pure h
  | (x, none) :: r, hn, h => by
    unfold Bytes.joinLetGo
    simp only [letGo]
    refine wpAny_bind (wpAny_bind (wpAny_holding (wpAny_point ?_)))
    exact wpAny_pure (letGo_taken (fun q hq => hn q (.tail _ hq)) h)
  | (x, some y) :: r, hn, _ => by
    have := hn _ (.head _)
    cases this
theorem forIn_inv {M : Model} {β : Type} {f : Nat → β → Sem (ForInStep β)} {I : Nat → β → Prop} {n : Nat} {Q : β → Shared → Prop} (step : ∀ i b, i < n → I i b → wpAny M A (f i b) (fun r s' => s' = s ∧ ∃ b', r = .yield b' ∧ I (i + 1) b') E s) (fin : ∀ b, I n b → Q b s) :
    ∀ (k i : Nat) (b : β), i + k = n → I i b → wpAny M A (forIn (List.range' i k 1) b f) Q E s
  | 0, i, b, e, h => by
    have e' : i = n := by omega
    subst e'
    exact wpAny_pure (fin b h)
  | k + 1, i, b, e, h => by
    rw [List.range'_succ, List.forIn_cons]
    refine wpAny_bind (wpAny_mono (step i b (by omega) h) (fun r s' hr => ?_) fun _ _ x => x)
    obtain ⟨es, b', rfl, h'⟩ := hr
    rw [es]
    exact forIn_inv step fin k (i + 1) b' (by omega) h'
theorem fold_sizes {B : Nat} : ∀ (l : List (Array UInt8)) (z : Nat), (∀ q ∈ l, q.size ≤ B) → l.foldl (fun a q => a + q.size) z ≤ z + l.length * B
  | [], z, _ => by simp
  | q :: r, z, h => by
    rw [List.foldl_cons, List.length_cons, Nat.succ_mul]
    have h1 := fold_sizes r (z + q.size) fun p hp => h p (.tail _ hp)
    have h2 := h q (.head _)
    omega
theorem joined_go {B : Nat} : ∀ (l : List (Array UInt8)) (k : Nat) (out : Array UInt8), (∀ q ∈ l, q.size ≤ B) →
    ((l.zipIdx k).foldl (fun out (x : Array UInt8 × Nat) => (if x.2 > 0 then out ++ #[] else out) ++ x.1) out).size ≤ out.size + l.length * B
  | [], k, out, _ => by simp
  | q :: r, k, out, h => by
    rw [List.zipIdx_cons, List.foldl_cons, List.length_cons, Nat.succ_mul]
    have h1 := joined_go r (k + 1) ((if k > 0 then out ++ #[] else out) ++ q) fun p hp => h p (.tail _ hp)
    have h2 := h q (.head _)
    have h3 : ((if k > 0 then out ++ #[] else out) ++ q).size = out.size + q.size := by
      rw [Array.size_append]; split <;> simp
    dsimp only
    omega
theorem joined_size {B : Nat} (l : List (Array UInt8)) (h : ∀ q ∈ l, q.size ≤ B) : (Bytes.joined #[] l).size ≤ l.length * B := by
  have := joined_go l 0 #[] h
  simpa [Bytes.joined] using this
theorem getD_bytes {i : Nat} (hv : AreBytes B vs) (hi : i < vs.toArray.size) : ∃ c u, vs.toArray.getD i .none = .bytes c u ∧ c.size ≤ B := by
  have hi' : i < vs.length := by simpa using hi
  have e : vs.toArray.getD i .none = vs[i] := by simp [Array.getD, hi']
  rw [e]
  exact hv _ (List.getElem_mem hi')
theorem join_tree {l : Addr} {R : Value → Shared → Prop} (hl : s.heap.IsList l vs.toArray) (hv : AreBytes B vs) (hn : vs.length * B ≤ 16777216)
    (h : ∀ c t' k, c.size ≤ vs.length * B → R (.bytes c t') { s with toks := k }) :
    wpAny (model prog w) A («bytes.join» ⟨[.bytes #[] t, .ref l], []⟩) (fun fin s' => ∃ v, fin = .done (.ret v) ∧ R v s') E s := by
  obtain ⟨o, ho, hc, n, hd⟩ := hl
  have hT : s.TypeIs (.ref l) "list" := ⟨o, ho, hc⟩
  have hseq : ∀ {Q : Option (Array Value) → Shared → Prop}, Q (some vs.toArray) s → wpAny (model prog w) A (seqItems? (.ref l)) Q E s := fun {Q} hQ => by
    unfold seqItems?
    refine wpAny_bind (wpAny_load ho ?_)
    rw [hd]
    exact wpAny_pure hQ
  unfold Builtin.«bytes.join» Bytes.joinM
  refine wpAny_bind (wpAny_of_eq (a := (Value.bytes #[] t, Value.ref l)) rfl ?_)
  dsimp only
  rw [if_pos (by rfl)]
  refine wpAny_bind ?_
  unfold Bytes.joinItems
  refine wpAny_bind (wpAny_typeOf hT ?_)
  rw [if_pos (by rfl)]
  refine wpAny_pure ?_
  refine wpAny_bind (hseq ?_)
  dsimp only
  rw [if_pos (by rfl)]
  rcases vs with _ | ⟨x, _ | ⟨y, r⟩⟩
  rotate_left
  · obtain ⟨c, u, rfl, hs⟩ := hv _ (.head _)
    refine wpAny_bind (wpAny_typeOf (typeIs_bytes s c u) ?_)
    rw [if_pos (by rfl)]
    refine wpAny_bind (wpAny_rule ?_)
    exact wpAny_pure ⟨_, rfl, h c u s.toks (by simpa using hs)⟩
  all_goals (
    rw [KPc.range_list]
    refine wpAny_bind ?_
    refine forIn_inv (I := fun i st => st.1.size = i ∧ (∀ q ∈ st.1.toList, q.size ≤ B) ∧ ∀ q ∈ st.2, q.2 = none ∧ q.1.onHeap = false) ?_ ?_ _ 0 _ (Nat.zero_add _) ⟨rfl, by simp, by simp⟩)
  all_goals (try (
    rintro i ⟨parts, taken⟩ hi ⟨h1, h2, h3⟩
    have hany : taken.any (fun x => x.1.onHeap) = false := List.any_eq_false.mpr fun q hq => by rw [(h3 q hq).2]; decide
    obtain ⟨c, u, hx, hs⟩ := getD_bytes hv hi
    refine wpAny_bind (hseq ?_)
    dsimp only
    rw [hany, if_neg (by decide), hx]
    refine wpAny_bind (wpAny_holding (wpAny_of_eq take_eq ?_))
    dsimp only
    refine wpAny_bind (hseq ?_)
    dsimp only
    rw [if_neg (by simp)]
    refine wpAny_pure ⟨rfl, _, rfl, ?_, ?_, ?_⟩
    · rw [Array.size_push]; exact congrArg (· + 1) h1
    · intro q hq
      rw [Array.toList_push] at hq
      rcases List.mem_append.mp hq with hq | hq
      · exact h2 q hq
      · rw [List.mem_singleton.mp hq]; exact hs
    · intro q hq
      rcases List.mem_append.mp hq with hq | hq
      · exact h3 q hq
      · rw [List.mem_singleton.mp hq]; exact ⟨rfl, rfl⟩))
  all_goals (
    rintro ⟨parts, taken⟩ ⟨h1, h2, h3⟩
    dsimp only at h1 h2 h3 ⊢
    have hsz : parts.toList.length = (List.length _) := h1
    have f1 := fold_sizes parts.toList 0 h2
    have f2 := joined_size parts.toList h2
    have hn' : parts.toList.length * B ≤ 16777216 := by rw [hsz]; exact hn
    refine wpAny_bind (wpAny_of_eq (a := #[]) rfl ?_)
    have hf : Array.foldl (fun x1 (x2 : Array UInt8) => x1 + x2.size) ((#[] : Array UInt8).size * (parts.size - 1)) parts ≤ 16777216 := by
      rw [← Array.foldl_toList]
      have e : (#[] : Array UInt8).size * (parts.size - 1) = 0 := by simp
      rw [e]
      omega
    rw [KBy.tooLong_not hf, if_neg (by decide)]
    show wpAny _ _ (mkBytes _ >>= _) _ _ _
    refine wpAny_bind (wpAny_mkBytes ?_ (by rw [sizeLine_eq]; omega))
    refine wpAny_bind (wpAny_holding (wpAny_point ?_))
    refine wpAny_bind (letGo_taken (fun q hq => (h3 q hq).1) ?_)
    exact wpAny_pure ⟨_, rfl, h _ _ _ (by rw [hsz] at f2; exact f2)⟩)
theorem call_join {l : Addr} {Q : Value → Shared → Prop} (hl : s.heap.IsList l vs.toArray) (hv : AreBytes B vs) (hn : vs.length * B ≤ 16777216)
    (h : ∀ c t' k, c.size ≤ vs.length * B → Q (.bytes c t') { s with toks := k }) : wpAny (model prog w) A (call (.builtin "bytes.join") [.bytes #[] t, .ref l]) Q E s :=
  wpAny_call_entry slot_bytes_join (typeIs_bytes s #[] t) entry_bytes_join (join_tree hl hv hn h) (args_bytes_join _ _)
end
end
section
open PySem.Builtin PyProof.V
/-! the law's own steps: a menu of bytes, a row of drawn bytes, bytes glued -/
section
variable {prog : Program} {w : World} {A : Around} {E : Value → Shared → Prop} {s : Shared}
theorem item_bytes {value slice : PySem.Expr} {l : Addr} {vs : List Value} {B : Nat} {i : Int} {u : Tok} {Q : Value → Shared → Prop}
    (hl : s.heap.IsList l vs.toArray) (h0 : 0 ≤ i) (h1 : i < vs.length) (hn : vs.length ≤ 1000) (hv : AreBytes B vs) (h : ∀ b t ks, KBw.bInts b = ks → ks.length ≤ B → Q (.bytes b t) s)
    (hs : subscripted slice false (.ref l) (.int i u) = operate [.ref l, .int i u] (getItem (.ref l) (.int i u)) := by with_unfolding_all rfl) :
    wpAny (model prog w) A (subscriptTail value slice (.ref l) (.int i u)) Q E s := by
  have hi : i.toNat < vs.length := by omega
  obtain ⟨b, t, e, hb⟩ := hv _ (List.getElem_mem hi)
  refine tail_any hl.typeIs slot_list_getitem.lookup (wpAny_getItem_list hl h0 (by omega) (x := .bytes b t) ?_ (h b t _ rfl (by rw [KBw.ints_length]; exact hb))) hs
  simp [hi, e]
theorem areBytes_nil {B : Nat} : AreBytes B [] := fun _ h => nomatch h
theorem areBytes_cons {B : Nat} {b : Array UInt8} {t : Tok} {vs : List Value} (h : b.size ≤ B) (hv : AreBytes B vs) : AreBytes B (.bytes b t :: vs) := fun v hm => by
  rcases List.mem_cons.mp hm with rfl | hm
  · exact ⟨b, t, rfl, h⟩
  · exact hv v hm
theorem areBytes_snoc {B : Nat} {b : Array UInt8} {t : Tok} {vs : List Value} (h : b.size ≤ B) (hv : AreBytes B vs) : AreBytes B (vs ++ [.bytes b t]) := fun v hm => by
  rcases List.mem_append.mp hm with hm | hm
  · exact hv v hm
  · exact ⟨b, t, List.mem_singleton.mp hm, h⟩
theorem add_any {b c : Array UInt8} {t u : Tok} {ks ls : List Int} {Q : Value → Shared → Prop} (hb : KBw.bInts b = ks) (hc : KBw.bInts c = ls) (h1 : ks.length ≤ 1000) (h2 : ls.length ≤ 1000)
    (h : ∀ d t' k ds, KBw.bInts d = ds → ds.length ≤ 2000 → Q (.bytes d t') { s with toks := k }) : wpAny (model prog w) A (binaryOp .Add (.bytes b t) (.bytes c u)) Q E s :=
  KBa.add_K hb hc (by omega) fun t' k e => h _ t' k _ e (by rw [List.length_append]; omega)
theorem join_any {l : Addr} {vs : List Value} {B : Nat} {t : Tok} {Q : Value → Shared → Prop} (hl : s.heap.IsList l vs.toArray) (hv : AreBytes B vs) (hn : vs.length * B ≤ 1000)
    (h : ∀ c t' k ks, KBw.bInts c = ks → ks.length ≤ 1000 → Q (.bytes c t') { s with toks := k }) : wpAny (model prog w) A (call (.builtin "bytes.join") [.bytes #[] t, .ref l]) Q E s :=
  call_join hl hv (by omega) fun c t' k hc => h c t' k _ rfl (by rw [KBw.ints_length]; omega)
theorem ne_same {x y : Int} {t u : Tok} {Q : Value → Shared → Prop} (e : x = y) (h : Q (.bool false) s) : wpAny (model prog w) A (compareOp .NotEq (.int x t) (.int y u)) Q E s :=
  ne_int (by rw [e, bne_self_eq_false]; exact h)
end
theorem drop5 {h₀ h : Heap} {L : Addr} {a b c d e : Addr × Obj} {r : List (Addr × Obj)} (N : News h₀ L h (a :: b :: c :: d :: e :: r)) : News h₀ L h r :=
  fun p hp => N p (.tail _ (.tail _ (.tail _ (.tail _ (.tail _ hp)))))
theorem Upd.same {d : Addr} {o : Obj} {l l' : List (Addr × Obj)} (U : Upd d o o l l') : l' = l := by
  obtain ⟨pre, post, rfl, rfl, _, _⟩ := U.split
  rfl
def DrawEl (B : Nat) (led : Tok → List (Addr × Obj)) (y : Value) (nw : List (Addr × Obj)) : Prop := (∃ b t ks, y = .bytes b t ∧ KBw.bInts b = ks ∧ ks.length ≤ B) ∧ ∃ t', nw = led t'
section
variable {prog : Program} {w : World} {A : Around} {h₀ : Heap} {L : Addr} {m : PySem.Str → Option Value} {env : Env} {elt : PySem.Expr} {x : PySem.Str} {scope : Scope} {cl : List (PySem.Str × Addr)} {s : Shared} {S : List (Addr × Obj) → Prop} {P : Nat → Value → Prop} {Fin : List Value → List (Addr × Obj) → Prop} {news : List (Addr × Obj)} {news' : Obj → List (Addr × Obj)}
theorem draw_rest {n : Nat} {pa c : Addr} {k₀ r : Int} {t₀ tr : Tok} (B : Nat) (_hm : (pa, PySem.W.listOf #[.ref c, .int k₀ t₀, .int r tr] 0) ∈ news) (U : ∀ o', Upd pa (PySem.W.listOf #[.ref c, .int k₀ t₀, .int r tr] 0) o' news (news' o')) (hk : 0 ≤ k₀) (hk2 : k₀ + n ≤ 100)
    (turn : ∀ (k : Int) (t : Tok) (ys : List Value) v I oI C oC D m₂ h tk (E' : Value → Shared → Prop), 0 ≤ k → k ≤ 100 → LCg.NsObj oC m₂ → m₂ x = some v → Fr h₀ L h m → News h₀ L h ((I, oI) :: (C, oC) :: (D, LCg.lst ys) :: news' (PySem.W.listOf #[.ref c, .int k t, .int r tr] 0)) → LCg.Off3 I C D (news' (PySem.W.listOf #[.ref c, .int k t, .int r tr] 0)) → ((@Ne Nat I C) ∧ (@Ne Nat I D) ∧ (@Ne Nat C D)) →
      wpAny (model prog w) A (eval elt (compEnvC scope cl C env)) (LCg.CompEnd h₀ L m { s with heap := h, toks := tk } I oI C oC D (LCg.lst ys) S (fun y nw => DrawEl B (fun t' => news' (PySem.W.listOf #[.ref c, .int (k + 1) t', .int r tr] 0)) y nw)) E' { s with heap := h, toks := tk })
    (fin : ∀ (k : Int) (t : Tok) (ys : List Value), 0 ≤ k → k ≤ 100 → ys.length = n → AreBytes B ys → Fin ys (news' (PySem.W.listOf #[.ref c, .int k t, .int r tr] 0))) :
    LCg.CompRest prog w A h₀ L m env elt x scope cl s S P Fin n 0 [] news := by
  have key : ∀ (j i : Nat) (k : Int) (t : Tok) (ys : List Value), i + j = n → k = k₀ + i → ys.length = i → AreBytes B ys → LCg.CompRest prog w A h₀ L m env elt x scope cl s S P Fin j i ys (news' (PySem.W.listOf #[.ref c, .int k t, .int r tr] 0)) := by
    intro j
    induction j with
    | zero =>
      intro i k t ys hi hki hy hv
      exact LCg.CompRest.zero (fin k t ys (by omega) (by omega) (by omega) hv)
    | succ j ih =>
      intro i k t ys hi hki hy hv
      refine LCg.CompRest.succ ?_
      intro v I oI C oC D m₂ h tk E' _ hC hx F N off ne
      refine wpAny_mono (turn k t ys v I oI C oC D m₂ h tk E' (by omega) (by omega) hC hx F N off ne) (fun y s₂ hq => ?_) fun _ _ e => e
      obtain ⟨h', tk', nw, e, F', N', off', hS, ⟨b, tb, ks, rfl, hb, hl⟩, t', rfl⟩ := hq
      refine ⟨h', tk', _, e, F', N', off', hS, ?_⟩
      exact ih (i + 1) (k + 1) t' _ (by omega) (by omega) (by rw [List.length_append, List.length_singleton, hy]) (areBytes_snoc (by rw [← KBw.ints_length, hb]; exact hl) hv)
  have e := Upd.same (U (PySem.W.listOf #[.ref c, .int k₀ t₀, .int r tr] 0))
  have z := key n 0 k₀ t₀ [] (by omega) (by omega) rfl areBytes_nil
  rw [e] at z
  exact z
end
section
variable {prog : Program} {w : World} {A : Around} {E : Value → Shared → Prop} {s : Shared} {env : Env} {h₀ : Heap} {x : PySem.Str} {body : List Stmt} {Q : Flow → Shared → Prop}
theorem idle_range {r : Addr} {a₀ b₀ : Int} {t₀ u₀ v₀ : Tok} {n : Nat} {m₀ : PySem.Str → Option Value} {news : List (Addr × Obj)} (stored : List PySem.Str)
    (hh : A.handled = none) (hr : IsRange s.heap r a₀ b₀ 1 t₀ u₀ v₀) (hsmall : Builtin.Range.small a₀ b₀ 1 = true) (hn : Builtin.Range.rangeSize a₀ b₀ 1 = (n : Int)) (F : Fr h₀ env.locals s.heap m₀) (N : News h₀ env.locals s.heap news)
    (turn : ∀ (k : Int) t (u : PySem.Str → Option Value) h tk own pre, a₀ ≤ k → k < a₀ + n → OwnOff own (news.map (·.1)) →
      Fr h₀ env.locals h (fun y => if y = x then some (.int k t) else if stored.contains y then u y else m₀ y) → News h₀ env.locals h (news ++ own) →
      wpAny (model prog w) A (execs body env) (InvPostN h₀ env.locals (KstS (σ := Unit) (fun _ => news) (fun _ => []) (fun _ => True) x stored m₀ (fun _ _ => True) pre) own (news.map (·.1)) { s with heap := h, toks := tk } Q) E { s with heap := h, toks := tk })
    (done : ∀ (u : PySem.Str → Option Value) h tk, Fr h₀ env.locals h (fun y => if y = x then u y else if stored.contains y then u y else m₀ y) → News h₀ env.locals h news → Q .next { s with heap := h, toks := tk }) :
    wpAny (model prog w) A (pyIter (.ref r)) (fun it s₂ => LoopAtV prog w A h₀ env x body Q E it s₂) E s :=
  kst_range (σ := Unit) (fun _ => news) (fun _ => []) (fun _ => True) stored (fun _ _ => True) () hh hr hsmall hn F N trivial (fun _ hp => nomatch hp) trivial
    (fun _ pre k t u h tk own hk hl ho _ _ F' N' => turn k t u h tk own (pre ++ [k]) (by omega) (by omega) ho F' N') (fun _ u h tk _ _ F' N' => done u h tk F' N')
end
end
/-! the plain law: no program in sight -/
def isFig (c : Int) : Bool := decide (48 ≤ c) && decide (c ≤ 57)
def isWhite (c : Int) : Bool := [0, 9, 10, 12, 13, 32].any (· == c)
def isDelim (c : Int) : Bool := [40, 41, 60, 62, 91, 93, 123, 125, 47, 37].any (· == c)
def isReg (c : Int) : Bool := decide (0 ≤ c) && (!isWhite c && !isDelim c)
def gk (ks : List Int) (i : Int) : Int := ks.getD i.toNat 0

theorem delim_bytes {c : Int} (h0 : 0 ≤ c) (h1 : c < 256) : ([40, 41, 60, 62, 91, 93, 123, 125, 47, 37].toArray : Array UInt8).contains c.toNat.toUInt8 = isDelim c := by
  have all : ∀ k : Fin 256, ([40, 41, 60, 62, 91, 93, 123, 125, 47, 37].toArray : Array UInt8).contains (k.val).toUInt8 = isDelim (k.val : Int) := by decide +kernel
  have h := all ⟨c.toNat, by omega⟩
  have e : ((c.toNat : Nat) : Int) = c := by omega
  simp only [e] at h
  exact h

def figE (ks : List Int) (e i : Int) : Int := if i < e ∧ isFig (gk ks i) = true then figE ks e (i + 1) else i
termination_by (e - i).toNat
decreasing_by omega
def regE (ks : List Int) (e i : Int) : Int := if i < e ∧ isReg (gk ks i) = true then regE ks e (i + 1) else i
termination_by (e - i).toNat
decreasing_by omega
/-- white and comments passed; c: within a comment -/
def pas (ks : List Int) (e : Int) (c : Bool) (i : Int) : Int :=
  if i < e then
    if c = true ∧ gk ks i ≠ 10 ∧ gk ks i ≠ 13 then pas ks e true (i + 1)
    else if gk ks i = 37 then pas ks e true (i + 1)
    else if isWhite (gk ks i) = true then pas ks e false (i + 1) else i
  else i
termination_by (e - i).toNat
decreasing_by all_goals omega

def num (ks : List Int) (e i : Int) : Int :=
  if figE ks e i = i ∨ 20 < figE ks e i - i ∨ (figE ks e i < e ∧ isReg (gk ks (figE ks e i)) = true) then -1 else pas ks e false (figE ks e i)
def due (ks : List Int) (e i : Int) : Int :=
  if num ks e i < 0 then -1 else if num ks e (num ks e i) < 0 then -1
  else if (ks.drop (num ks e (num ks e i)).toNat).take ((regE ks e (num ks e (num ks e i))).toNat - (num ks e (num ks e i)).toNat) = [111, 98, 106] then regE ks e (num ks e (num ks e i)) else -1

section
variable {ks : List Int} {e i : Int}
theorem figE_go (h : i < e) (hf : isFig (gk ks i) = true) : figE ks e i = figE ks e (i + 1) := by rw [figE, if_pos ⟨h, hf⟩]
theorem figE_out (h : e ≤ i) : figE ks e i = i := by rw [figE, if_neg (fun q => by omega)]
theorem figE_no (hf : isFig (gk ks i) = false) : figE ks e i = i := by rw [figE, if_neg (fun q => by rw [hf] at q; exact absurd q.2 (by decide))]
theorem regE_go (h : i < e) (hf : isReg (gk ks i) = true) : regE ks e i = regE ks e (i + 1) := by rw [regE, if_pos ⟨h, hf⟩]
theorem regE_out (h : e ≤ i) : regE ks e i = i := by rw [regE, if_neg (fun q => by omega)]
theorem regE_no (hf : isReg (gk ks i) = false) : regE ks e i = i := by rw [regE, if_neg (fun q => by rw [hf] at q; exact absurd q.2 (by decide))]
theorem figE_ge : i ≤ figE ks e i := by
  induction i using figE.induct (ks := ks) (e := e) with
  | case1 i h ih => rw [figE_go h.1 h.2]; omega
  | case2 i h => rw [figE, if_neg h]; omega
theorem figE_le (h : i ≤ e) : figE ks e i ≤ e := by
  induction i using figE.induct (ks := ks) (e := e) with
  | case1 i h' ih => rw [figE_go h'.1 h'.2]; exact ih (by omega)
  | case2 i h' => rw [figE, if_neg h']; omega
theorem regE_ge : i ≤ regE ks e i := by
  induction i using regE.induct (ks := ks) (e := e) with
  | case1 i h ih => rw [regE_go h.1 h.2]; omega
  | case2 i h => rw [regE, if_neg h]; omega
theorem regE_le (h : i ≤ e) : regE ks e i ≤ e := by
  induction i using regE.induct (ks := ks) (e := e) with
  | case1 i h' ih => rw [regE_go h'.1 h'.2]; exact ih (by omega)
  | case2 i h' => rw [regE, if_neg h']; omega
theorem pas_a {c : Bool} (h : i < e) (h' : c = true ∧ gk ks i ≠ 10 ∧ gk ks i ≠ 13) : pas ks e c i = pas ks e true (i + 1) := by rw [pas, if_pos h, if_pos h']
theorem pas_b {c : Bool} (h : i < e) (h' : ¬ (c = true ∧ gk ks i ≠ 10 ∧ gk ks i ≠ 13)) (hc : gk ks i = 37) : pas ks e c i = pas ks e true (i + 1) := by rw [pas, if_pos h, if_neg h', if_pos hc]
theorem pas_c {c : Bool} (h : i < e) (h' : ¬ (c = true ∧ gk ks i ≠ 10 ∧ gk ks i ≠ 13)) (hc : ¬ gk ks i = 37) (hw : isWhite (gk ks i) = true) : pas ks e c i = pas ks e false (i + 1) := by rw [pas, if_pos h, if_neg h', if_neg hc, if_pos hw]
theorem pas_d {c : Bool} (h : i < e) (h' : ¬ (c = true ∧ gk ks i ≠ 10 ∧ gk ks i ≠ 13)) (hc : ¬ gk ks i = 37) (hw : ¬ isWhite (gk ks i) = true) : pas ks e c i = i := by rw [pas, if_pos h, if_neg h', if_neg hc, if_neg hw]
theorem pas_out {c : Bool} (h : e ≤ i) : pas ks e c i = i := by rw [pas, if_neg (by omega)]
theorem pas_sign (h : i < e) (hc : gk ks i = 37) : pas ks e false i = pas ks e true i := (pas_b h (by simp) hc).trans (pas_a h ⟨rfl, by omega, by omega⟩).symm
theorem pas_in (h : i < e) (h1 : gk ks i ≠ 10) (h2 : gk ks i ≠ 13) : pas ks e true i = pas ks e true (i + 1) := pas_a h ⟨rfl, h1, h2⟩
theorem pas_end (h : gk ks i = 10 ∨ gk ks i = 13) : pas ks e true i = pas ks e false i := by
  have hw : isWhite (gk ks i) = true := by rcases h with h | h <;> rw [h] <;> decide
  by_cases hi : i < e
  · rw [pas_c (c := true) hi (by omega) (by omega) hw, pas_c (c := false) hi (by simp) (by omega) hw]
  · rw [pas_out (by omega), pas_out (by omega)]
theorem pas_white (h : i < e) (hc : gk ks i ≠ 37) (hw : isWhite (gk ks i) = true) : pas ks e false i = pas ks e false (i + 1) := pas_c h (by simp) hc hw
theorem pas_no (hc : gk ks i ≠ 37) (hw : isWhite (gk ks i) = false) : pas ks e false i = i := by
  by_cases hi : i < e
  · exact pas_d hi (by simp) hc (by rw [hw]; decide)
  · exact pas_out (by omega)
theorem pas_ge {c : Bool} : i ≤ pas ks e c i := by
  induction c, i using pas.induct (ks := ks) (e := e) with
  | case1 c i h h' ih => rw [pas_a h h']; omega
  | case2 c i h h' hc ih => rw [pas_b h h' hc]; omega
  | case3 c i h h' hc hw ih => rw [pas_c h h' hc hw]; omega
  | case4 c i h h' hc hw => rw [pas_d h h' hc hw]; omega
  | case5 c i h => rw [pas_out (by omega)]; omega
theorem pas_le {c : Bool} (hi : i ≤ e) : pas ks e c i ≤ e := by
  induction c, i using pas.induct (ks := ks) (e := e) with
  | case1 c i h h' ih => rw [pas_a h h']; exact ih (by omega)
  | case2 c i h h' hc ih => rw [pas_b h h' hc]; exact ih (by omega)
  | case3 c i h h' hc hw ih => rw [pas_c h h' hc hw]; exact ih (by omega)
  | case4 c i h h' hc hw => rw [pas_d h h' hc hw]; omega
  | case5 c i h => rw [pas_out (by omega)]; omega
theorem num_le (hi : i ≤ e) : num ks e i ≤ e ∨ num ks e i = -1 := by
  unfold num
  split
  · exact .inr rfl
  · exact .inl (pas_le (figE_le hi))
theorem num_ge (h : ¬ num ks e i < 0) : i ≤ num ks e i := by
  unfold num at h ⊢
  split at h
  · omega
  · rename_i q
    rw [if_neg q]
    have h1 := figE_ge (ks := ks) (e := e) (i := i)
    have h2 := pas_ge (ks := ks) (e := e) (c := false) (i := figE ks e i)
    omega
end

def peekV (ks : List Int) (e a : Int) : Int := if a < e then gk ks a else -1
section
variable {ks : List Int} {e i a F : Int}
theorem fig_lt (h : isFig (peekV ks e i) = true) : i < e := by
  by_cases q : i < e
  · exact q
  · unfold peekV at h; rw [if_neg q] at h; exact absurd h (by decide)
theorem fig_is (h : isFig (peekV ks e i) = true) : isFig (gk ks i) = true := by
  have q := fig_lt h
  unfold peekV at h; rw [if_pos q] at h; exact h
theorem fig_stop (h : isFig (peekV ks e i) = false) : figE ks e i = i := by
  by_cases q : i < e
  · unfold peekV at h; rw [if_pos q] at h; exact figE_no h
  · exact figE_out (by omega)
theorem num_turn (h : isFig (peekV ks e i) = true) (h1 : figE ks e i = F) (h2 : a ≤ i) : figE ks e (i + 1) = F ∧ a ≤ i + 1 ∧ i + 1 ≤ e := by
  have q := fig_lt h
  exact ⟨(figE_go q (fig_is h)).symm.trans h1, by omega, by omega⟩
theorem num_less (h : isFig (peekV ks e i) = true) : (e - (i + 1)).toNat < (e - i).toNat := by
  have q := fig_lt h
  omega
end

/-! only what lies ahead of the end is looked at -/
section
variable {ks ls : List Int} {e i : Int}
def Same (ks ls : List Int) (e : Int) : Prop := ∀ i, 0 ≤ i → i < e → gk ks i = gk ls i
theorem same_take {k : Nat} (h : e = k) : Same (ks.take k) ks e := fun i h0 h1 => by
  unfold gk
  rw [List.getD_eq_getElem?_getD, List.getD_eq_getElem?_getD, List.getElem?_take_of_lt (by omega)]
theorem figE_same (S : Same ks ls e) (h0 : 0 ≤ i) : figE ks e i = figE ls e i := by
  induction i using figE.induct (ks := ks) (e := e) with
  | case1 i h ih => rw [figE_go h.1 h.2, figE_go h.1 (by rw [← S i h0 h.1]; exact h.2)]; exact ih (by omega)
  | case2 i h =>
    rw [figE, if_neg h, figE, if_neg ?_]
    rintro ⟨h1, h2⟩
    exact h ⟨h1, by rw [S i h0 h1]; exact h2⟩
theorem regE_same (S : Same ks ls e) (h0 : 0 ≤ i) : regE ks e i = regE ls e i := by
  induction i using regE.induct (ks := ks) (e := e) with
  | case1 i h ih => rw [regE_go h.1 h.2, regE_go h.1 (by rw [← S i h0 h.1]; exact h.2)]; exact ih (by omega)
  | case2 i h =>
    rw [regE, if_neg h, regE, if_neg ?_]
    rintro ⟨h1, h2⟩
    exact h ⟨h1, by rw [S i h0 h1]; exact h2⟩
theorem pas_same {c : Bool} (S : Same ks ls e) (h0 : 0 ≤ i) : pas ks e c i = pas ls e c i := by
  induction c, i using pas.induct (ks := ks) (e := e) with
  | case1 c i h h' ih => rw [pas_a h h', pas_a h (by rw [← S i h0 h]; exact h')]; exact ih (by omega)
  | case2 c i h h' hc ih => rw [pas_b h h' hc, pas_b h (by rw [← S i h0 h]; exact h') (by rw [← S i h0 h]; exact hc)]; exact ih (by omega)
  | case3 c i h h' hc hw ih => rw [pas_c h h' hc hw, pas_c h (by rw [← S i h0 h]; exact h') (by rw [← S i h0 h]; exact hc) (by rw [← S i h0 h]; exact hw)]; exact ih (by omega)
  | case4 c i h h' hc hw => rw [pas_d h h' hc hw, pas_d h (by rw [← S i h0 h]; exact h') (by rw [← S i h0 h]; exact hc) (by rw [← S i h0 h]; exact hw)]
  | case5 c i h => rw [pas_out (by omega), pas_out (by omega)]
theorem num_same (S : Same ks ls e) (h0 : 0 ≤ i) : num ks e i = num ls e i := by
  have h1 := figE_ge (ks := ls) (e := e) (i := i)
  unfold num
  rw [figE_same S h0, pas_same S (by omega)]
  by_cases hl : figE ls e i < e
  · rw [S _ (by omega) hl]
  · simp only [hl, false_and]
theorem due_same {k : Nat} (hk : e = k) (h0 : 0 ≤ i) (hi : i ≤ e) : due (ks.take k) e i = due ks e i := by
  have S : Same (ks.take k) ks e := same_take hk
  unfold due
  rw [num_same S h0]
  by_cases h1 : num ks e i < 0
  · rw [if_pos h1, if_pos h1]
  · have g1 := num_ge h1
    rw [if_neg h1, if_neg h1, num_same S (by omega)]
    by_cases h2 : num ks e (num ks e i) < 0
    · rw [if_pos h2, if_pos h2]
    · have g2 := num_ge h2
      have l1 := num_le (ks := ks) hi
      have l2 := num_le (ks := ks) (i := num ks e i) (e := e) (by omega)
      have l3 := regE_le (ks := ks) (e := e) (i := num ks e (num ks e i)) (by omega)
      rw [if_neg h2, if_neg h2, regE_same S (by omega)]
      have e1 : ((ks.take k).drop (num ks e (num ks e i)).toNat).take ((regE ks e (num ks e (num ks e i))).toNat - (num ks e (num ks e i)).toNat)
          = (ks.drop (num ks e (num ks e i)).toNat).take ((regE ks e (num ks e (num ks e i))).toNat - (num ks e (num ks e i)).toNat) := by
        rw [List.drop_take, List.take_take]
        congr 1
        omega
      rw [e1]
end

/-! the turns of the loops, as the walk says them -/
section
variable {ks : List Int} {e i j a F : Int}
theorem any_two {c : Int} : ([10, 13].any fun x => x == c) = true ↔ (c = 10 ∨ c = 13) := by
  simp only [List.any_cons, List.any_nil, Bool.or_false, Bool.or_eq_true, beq_iff_eq]
  constructor <;> rintro (h | h) <;> omega
theorem sk1 (h : pas ks e false i = F) (hi : i < e) (hc : ks.getD i.toNat 0 = 37) : pas ks e true i = F ∧ i ≤ i ∧ i ≤ e :=
  ⟨(pas_sign hi hc).symm.trans h, by omega, by omega⟩
theorem sk2 (h : pas ks e true j = F) (ha : a ≤ j) (hj : j ≤ e) (hm : ([10, 13].any fun x => x == ks.getD j.toNat 0) = true) : pas ks e false j = F ∧ a ≤ j ∧ j ≤ e :=
  ⟨(pas_end (any_two.mp hm)).symm.trans h, ha, hj⟩
theorem sk3 (h : pas ks e true j = F) (ha : a ≤ j) (hj : j < e) (hm : ([10, 13].any fun x => x == ks.getD j.toNat 0) = false) : pas ks e true (j + 1) = F ∧ a ≤ j + 1 ∧ j + 1 ≤ e := by
  have q : ¬ (gk ks j = 10 ∨ gk ks j = 13) := fun q => absurd (any_two.mpr q) (by unfold gk; rw [hm]; decide)
  exact ⟨(pas_in hj (fun z => q (.inl z)) (fun z => q (.inr z))).symm.trans h, by omega, by omega⟩
theorem sk4 (h : pas ks e true j = F) (ha : a ≤ j) (hj : j ≤ e) (hn : ¬ j < e) : pas ks e false j = F ∧ a ≤ j ∧ j ≤ e := by
  rw [pas_out (by omega)] at h ⊢
  exact ⟨h, ha, hj⟩
theorem sk5 (h : pas ks e false i = F) (ha : a ≤ i) (hi : i < e) (hc : ks.getD i.toNat 0 ≠ 37) (hw : ([0, 9, 10, 12, 13, 32].any fun x => x == ks.getD i.toNat 0) = true) : pas ks e false (i + 1) = F ∧ a ≤ i + 1 ∧ i + 1 ≤ e :=
  ⟨(pas_white hi hc hw).symm.trans h, by omega, by omega⟩
theorem sk6 (hi : i < e) (hc : ks.getD i.toNat 0 = 37) (hij : i ≤ j) (hm : ([10, 13].any fun x => x == ks.getD j.toNat 0) = true) : (e - j).toNat < (e - i).toNat := by
  have h := any_two.mp hm
  have : i ≠ j := fun q => by rw [← q, hc] at h; omega
  omega
theorem rg1 (h : regE ks e i = F) (ha : a ≤ i) (hi : i < e) (hr : isReg (ks.getD i.toNat 0) = true) : regE ks e (i + 1) = F ∧ a ≤ i + 1 ∧ i + 1 ≤ e :=
  ⟨(regE_go hi hr).symm.trans h, by omega, by omega⟩
theorem bytes_ints {b c : Array UInt8} : (b.toList == c.toList) = decide (KBw.bInts b = KBw.bInts c) := by
  have inj : ∀ l l' : List UInt8, (l == l') = decide ((l.map fun c => ((c.toNat : Nat) : Int)) = l'.map fun c => ((c.toNat : Nat) : Int)) := by
    intro l
    induction l with
    | nil => intro l'; cases l' <;> rfl
    | cons x l ih =>
      intro l'
      cases l' with
      | nil => rfl
      | cons y l' =>
        rw [List.cons_beq_cons, ih]
        simp only [List.map_cons, List.cons.injEq]
        by_cases hxy : x = y
        · subst hxy; simp
        · have : ¬ ((x.toNat : Int) = (y.toNat : Int)) := fun q => hxy (UInt8.toNat_inj.mp (by omega))
          simp [hxy, this]
  exact inj _ _
theorem clip_in {n : Nat} (h0 : 0 ≤ i) (h1 : i ≤ n) : clipAt n i = i.toNat := by
  have e : i = ((i.toNat : Nat) : Int) := by omega
  rw [e, clipAt_nat]
  omega
end

/-! the ends of a number, as the walk says them -/
section
variable {ks : List Int} {e i : Int} {c : Bool}
theorem lo_fig (h : 0 ≤ i) : 0 ≤ figE ks e i := Int.le_trans h figE_ge
theorem lo_pas (h : 0 ≤ i) : 0 ≤ pas ks e c i := Int.le_trans h pas_ge
theorem reg_peek : isReg (peekV ks e i) = true ↔ (i < e ∧ isReg (gk ks i) = true) := by
  unfold peekV
  by_cases h : i < e
  · rw [if_pos h]; exact ⟨fun q => ⟨h, q⟩, fun q => q.2⟩
  · rw [if_neg h]; exact ⟨fun q => absurd q (by decide), fun q => absurd q.1 h⟩
theorem num_none (h : figE ks e i = i ∨ 20 < figE ks e i - i) : num ks e i = -1 := by
  unfold num
  rw [if_pos (by rcases h with h | h; exact .inl h; exact .inr (.inl h))]
theorem num_reg (h : isReg (peekV ks e (figE ks e i)) = true) : num ks e i = -1 := by
  unfold num
  rw [if_pos (.inr (.inr (reg_peek.mp h)))]
theorem num_some (h : ¬ (figE ks e i = i ∨ 20 < figE ks e i - i)) (hr : isReg (peekV ks e (figE ks e i)) = false) : num ks e i = pas ks e false (figE ks e i) := by
  unfold num
  rw [if_neg]
  rintro (q | q | q)
  · exact h (.inl q)
  · exact h (.inr q)
  · rw [reg_peek.mpr q] at hr; cases hr
theorem due_first (h : num ks e i = -1) : due ks e i = -1 := by
  unfold due; rw [if_pos (by omega)]
theorem due_second {j : Int} (h : num ks e i = j) (h2 : num ks e j = -1) : due ks e i = -1 := by
  unfold due; rw [h]
  by_cases q : j < 0
  · rw [if_pos q]
  · rw [if_neg q, if_pos (by omega)]
theorem due_third {j k : Int} (h : num ks e i = j) (h2 : num ks e j = k) (hj : 0 ≤ j) (hk : 0 ≤ k) :
    due ks e i = if (ks.drop k.toNat).take ((regE ks e k).toNat - k.toNat) = [111, 98, 106] then regE ks e k else -1 := by
  unfold due; rw [h, if_neg (by omega), h2, if_neg (by omega)]
end
section
variable {ks : List Int} {e i j k : Int} {b : Array UInt8}
theorem obj_ints : KBw.bInts #[111, 98, 106] = [111, 98, 106] := by decide +kernel
theorem due_yes (h : num ks e i = j) (h2 : num ks e j = k) (hj : 0 ≤ j) (hk : 0 ≤ k) (hB : KBw.bInts b = (ks.drop k.toNat).take ((regE ks e k).toNat - k.toNat)) (hT : (b.toList == #[111, 98, 106].toList) = true) : regE ks e k = due ks e i := by
  rw [due_third h h2 hj hk, ← hB, if_pos]
  rw [bytes_ints, obj_ints] at hT
  exact of_decide_eq_true hT
theorem due_not (h : num ks e i = j) (h2 : num ks e j = k) (hj : 0 ≤ j) (hk : 0 ≤ k) (hB : KBw.bInts b = (ks.drop k.toNat).take ((regE ks e k).toNat - k.toNat)) (hT : (b.toList == #[111, 98, 106].toList) = false) : -1 = due ks e i := by
  rw [due_third h h2 hj hk, ← hB, if_neg]
  rw [bytes_ints, obj_ints] at hT
  exact of_decide_eq_false hT
end

section
variable {ks : List Int} {e i j a F : Int}
theorem le_num (hi : i ≤ e) (h0 : 0 ≤ e) : num ks e i ≤ e := by
  rcases num_le (ks := ks) hi with h | h <;> omega
theorem nm1 (h : figE ks e i = F) (ha : a ≤ i) (hi : i < e) (h1 : 48 ≤ ks.getD i.toNat 0) (h2 : ks.getD i.toNat 0 ≤ 57) : figE ks e (i + 1) = F ∧ a ≤ i + 1 ∧ i + 1 ≤ e := by
  have hf : isFig (gk ks i) = true := by
    unfold isFig gk; rw [decide_eq_true h1, decide_eq_true h2]; rfl
  exact ⟨(figE_go hi hf).symm.trans h, by omega, by omega⟩
theorem nm2 (h : ¬ 48 ≤ ks.getD i.toNat 0) : figE ks e i = i := figE_no (by unfold isFig gk; rw [decide_eq_false h]; rfl)
theorem nm3 (h : ¬ ks.getD i.toNat 0 ≤ 57) : figE ks e i = i := figE_no (by unfold isFig gk; rw [decide_eq_false h, Bool.and_false])
theorem num_pas (h1 : figE ks e i ≠ i) (h2 : ¬ 20 < figE ks e i - i) (h3 : figE ks e i < e → isReg (ks.getD (figE ks e i).toNat 0) = false) : num ks e i = pas ks e false (figE ks e i) := by
  unfold num
  rw [if_neg]
  rintro (q | q | q)
  · exact h1 q
  · exact h2 q
  · have := h3 q.1
    have h4 := q.2
    unfold gk at h4
    rw [this] at h4; cases h4
theorem num_at (h1 : figE ks e i < e) (h2 : isReg (ks.getD (figE ks e i).toNat 0) = true) : num ks e i = -1 := by
  unfold num
  rw [if_pos (.inr (.inr ⟨h1, h2⟩))]
theorem due_neg (h : num ks e i < 0) : due ks e i = -1 := by
  unfold due; rw [if_pos h]
theorem due_neg2 (h : ¬ num ks e i < 0) (h2 : num ks e (num ks e i) < 0) : due ks e i = -1 := by
  unfold due; rw [if_neg h, if_pos h2]
end
section
variable {ks : List Int} {i a : Int}
theorem take_len (h0 : 0 ≤ i) (h1 : i ≤ ks.length) : (((List.take (clipAt ks.length i) ks).length : Nat) : Int) = i := by
  rw [List.length_take, clip_in h0 h1]; omega
theorem take_le {n : Nat} (h : ks.length ≤ 2000) : (List.take n ks).length ≤ 100000 := by
  rw [List.length_take]; omega
theorem due_cut (h0 : 0 ≤ a) (h1 : a ≤ i) (h2 : i ≤ ks.length) : due ks i a = due (List.take (clipAt ks.length i) ks) ((List.take (clipAt ks.length i) ks).length : Nat) a := by
  rw [take_len (by omega) h2, clip_in (by omega) h2]
  exact (due_same (by omega) h0 h1).symm
end
abbrev curD (h1 h2 h3 : Int) (t1 t2 t3 : Tok) (b : Array UInt8) (tb : Tok) (a : Int) (ta : Tok) (e : Int) (te : Tok) : Obj :=
  dictOf [⟨h1, .str (Str.ofString "data") t1, .bytes b tb⟩, ⟨h2, .str (Str.ofString "at") t2, .int a ta⟩, ⟨h3, .str (Str.ofString "end") t3, .int e te⟩] 3
theorem keep2 {x d : Addr} {i o o' : Obj} : ∀ q ∈ [(x, i), (d, o)], q.1 ≠ d → q ∈ [(x, i), (d, o')] := by
  intro q hq hn
  rcases List.mem_cons.mp hq with rfl | hq
  · exact .head _
  · rw [List.mem_singleton.mp hq] at hn
    exact absurd rfl hn
theorem Stand.sub {S S' : List (Addr × Obj)} {h : Heap} (y : Stand S h) (hs : ∀ q ∈ S', q ∈ S) : Stand S' h := fun q hq => y q (hs q hq)
theorem len60 {f : Int → Int} {ns : List Int} : (List.map f (List.take 60 ns)).length ≤ 1000 := by
  rw [List.length_map, List.length_take]; omega
theorem keep2' {x d : Addr} {i o o' : Obj} : ∀ q ∈ [(d, o), (x, i)], q.1 ≠ d → q ∈ [(d, o'), (x, i)] := by
  intro q hq hn
  rcases List.mem_cons.mp hq with rfl | hq
  · exact absurd rfl hn
  · exact .tail _ hq
def All_isfig (prog : Program) (w : World) (K : Frag) (q : Program) (mean : ExcName → Option Value) (mg mb : Str → Option Value) : Prop :=
  ∀  (c : Int) (t : Tok), Ct prog w K q (looseW q []) mean mg mb 37 1 [.int c t] [] (fun v sub' => sub' = [] ∧ v = .bool (isFig c))
def All_isreg (prog : Program) (w : World) (K : Frag) (q : Program) (mean : ExcName → Option Value) (mg mb : Str → Option Value) : Prop :=
  ∀  (c : Int) (t : Tok), Ct prog w K q (looseW q []) mean mg mb 30 1 [.int c t] [] (fun v sub' => sub' = [] ∧ v = .bool (isReg c))
def All_lisreg (prog : Program) (w : World) (K : Frag) (q : Program) (mean : ExcName → Option Value) (mg mb : Str → Option Value) : Prop :=
  ∀  (c : Int) (t : Tok) (h0 : 0 ≤ c) (h1 : c < 256), Ct prog w K q (looseW q []) mean mg mb 166 1 [.int c t] [] (fun v sub' => sub' = [] ∧ v = .bool (isReg c))
def All_peek (prog : Program) (w : World) (K : Frag) (q : Program) (mean : ExcName → Option Value) (mg mb : Str → Option Value) : Prop :=
  ∀ {x d : Addr} {h1 h2 h3 : Int} {t1 t2 t3 : Tok} {b : Array UInt8} {tb : Tok} {a₀ : Int} {ta : Tok} {e : Int} {te : Tok} {ks : List Int} (hk : KBw.bInts b = ks) (hlen : ks.length ≤ 100000) (h0 : 0 ≤ a₀) (he : e ≤ ks.length), Ct prog w K q (looseW q []) mean mg mb 67 1 [.ref x] [(x, instObj 140 d), (d, curD h1 h2 h3 t1 t2 t3 b tb a₀ ta e te)]
      (fun v sub' => sub' = [(x, instObj 140 d), (d, curD h1 h2 h3 t1 t2 t3 b tb a₀ ta e te)] ∧ ∃ t, v = .int (peekV ks e a₀) t)
def All_take (prog : Program) (w : World) (K : Frag) (q : Program) (mean : ExcName → Option Value) (mg mb : Str → Option Value) : Prop :=
  ∀ {x d : Addr} {h1 h2 h3 : Int} {t1 t2 t3 : Tok} {b : Array UInt8} {tb : Tok} {a₀ : Int} {ta : Tok} {e : Int} {te : Tok} {ks : List Int} (hxd : @LT.lt Nat _ d x) (hk : KBw.bInts b = ks) (hlen : ks.length ≤ 100000) (h0 : 0 ≤ a₀) (hae : a₀ < e) (he : e ≤ ks.length), Ct prog w K q (looseW q []) mean mg mb 74 1 [.ref x] [(x, instObj 140 d), (d, curD h1 h2 h3 t1 t2 t3 b tb a₀ ta e te)]
      (fun v sub' => ∃ o', (d, o') ∈ sub' ∧ (∀ q ∈ [(x, instObj 140 d), (d, curD h1 h2 h3 t1 t2 t3 b tb a₀ ta e te)], q.1 ≠ d → q ∈ sub') ∧ (∃ t t', v = .int (gk ks a₀) t ∧ o' = curD h1 h2 h3 t1 t2 t3 b tb (a₀ + 1) t' e te))
def All_number (prog : Program) (w : World) (K : Frag) (q : Program) (mean : ExcName → Option Value) (mg mb : Str → Option Value) : Prop :=
  ∀ {x d : Addr} {h1 h2 h3 : Int} {t1 t2 t3 : Tok} {b : Array UInt8} {tb : Tok} {a₀ : Int} {ta : Tok} {e : Int} {te : Tok} {ks : List Int} (hxd : @LT.lt Nat _ d x) (hk : KBw.bInts b = ks) (hlen : ks.length ≤ 100000) (h0 : 0 ≤ a₀) (hae : a₀ ≤ e) (he : e ≤ ks.length), Ct prog w K q (looseW q []) mean mg mb 123 3 [.ref x] [(x, instObj 140 d), (d, curD h1 h2 h3 t1 t2 t3 b tb a₀ ta e te)]
      (fun v sub' => ∃ o', (d, o') ∈ sub' ∧ (∀ q ∈ [(x, instObj 140 d), (d, curD h1 h2 h3 t1 t2 t3 b tb a₀ ta e te)], q.1 ≠ d → q ∈ sub') ∧
        (((figE ks e a₀ = a₀ ∨ 20 < figE ks e a₀ - a₀) ∧ v = .none ∧ ∃ t', o' = curD h1 h2 h3 t1 t2 t3 b tb a₀ t' e te) ∨
        (¬ (figE ks e a₀ = a₀ ∨ 20 < figE ks e a₀ - a₀) ∧ ∃ n t t', v = .int n t ∧ o' = curD h1 h2 h3 t1 t2 t3 b tb (figE ks e a₀) t' e te)))
def All_skip (prog : Program) (w : World) (K : Frag) (q : Program) (mean : ExcName → Option Value) (mg mb : Str → Option Value) : Prop :=
  ∀ {x d : Addr} {h1 h2 h3 : Int} {t1 t2 t3 : Tok} {b : Array UInt8} {tb : Tok} {a₀ : Int} {ta : Tok} {e : Int} {te : Tok} {ks : List Int} (hxd : @LT.lt Nat _ d x) (hk : KBw.bInts b = ks) (hlen : ks.length ≤ 100000) (h0 : 0 ≤ a₀) (hae : a₀ ≤ e) (he : e ≤ ks.length), Ct prog w K q (looseW q []) mean mg mb 95 3 [.ref x] [(x, instObj 140 d), (d, curD h1 h2 h3 t1 t2 t3 b tb a₀ ta e te)]
      (fun v sub' => ∃ o', (d, o') ∈ sub' ∧ (∀ q ∈ [(x, instObj 140 d), (d, curD h1 h2 h3 t1 t2 t3 b tb a₀ ta e te)], q.1 ≠ d → q ∈ sub') ∧
        v = .none ∧ ∃ t', o' = curD h1 h2 h3 t1 t2 t3 b tb (pas ks e false a₀) t' e te)
def All_regular (prog : Program) (w : World) (K : Frag) (q : Program) (mean : ExcName → Option Value) (mg mb : Str → Option Value) : Prop :=
  ∀ {x d : Addr} {h1 h2 h3 : Int} {t1 t2 t3 : Tok} {b : Array UInt8} {tb : Tok} {a₀ : Int} {ta : Tok} {e : Int} {te : Tok} {ks : List Int} (hxd : @LT.lt Nat _ d x) (hk : KBw.bInts b = ks) (hlen : ks.length ≤ 100000) (h0 : 0 ≤ a₀) (hae : a₀ ≤ e) (he : e ≤ ks.length), Ct prog w K q (looseW q []) mean mg mb 102 3 [.ref x] [(x, instObj 140 d), (d, curD h1 h2 h3 t1 t2 t3 b tb a₀ ta e te)]
      (fun v sub' => ∃ o', (d, o') ∈ sub' ∧ (∀ q ∈ [(x, instObj 140 d), (d, curD h1 h2 h3 t1 t2 t3 b tb a₀ ta e te)], q.1 ≠ d → q ∈ sub') ∧
        ∃ c t t', KBw.bInts c = (ks.drop a₀.toNat).take ((regE ks e a₀).toNat - a₀.toNat) ∧ v = .bytes c t ∧ o' = curD h1 h2 h3 t1 t2 t3 b tb (regE ks e a₀) t' e te)
def All_head (prog : Program) (w : World) (K : Frag) (q : Program) (mean : ExcName → Option Value) (mg mb : Str → Option Value) : Prop :=
  ∀ {x d : Addr} {h1 h2 h3 : Int} {t1 t2 t3 : Tok} {b : Array UInt8} {tb : Tok} {a₀ : Int} {ta : Tok} {e : Int} {te : Tok} {ks : List Int} (hk : KBw.bInts b = ks) (hlen : ks.length ≤ 100000) (h0 : 0 ≤ a₀) (hae : a₀ ≤ e) (he : e ≤ ks.length), Ct prog w K q (looseW q []) mean mg mb 151 6 [.ref x] [(x, instObj 140 d), (d, curD h1 h2 h3 t1 t2 t3 b tb a₀ ta e te)]
      (fun v sub' => sub' = [(x, instObj 140 d), (d, curD h1 h2 h3 t1 t2 t3 b tb a₀ ta e te)] ∧ ∃ t, v = .int (due ks e a₀) t)
def All_passed (prog : Program) (w : World) (K : Frag) (q : Program) (mean : ExcName → Option Value) (mg mb : Str → Option Value) : Prop :=
  ∀ {b : Array UInt8} {tb : Tok} {a₀ : Int} {ta : Tok} {ks : List Int} (hk : KBw.bInts b = ks) (hlen : ks.length ≤ 100000) (h0 : 0 ≤ a₀) (hae : a₀ ≤ ks.length), Ct prog w K q (looseW q []) mean mg mb 173 2 [.bytes b tb, .int a₀ ta] [] (fun v sub' => sub' = [] ∧ ∃ t, v = .int (pas ks ks.length false a₀) t)
def All_lnumber (prog : Program) (w : World) (K : Frag) (q : Program) (mean : ExcName → Option Value) (mg mb : Str → Option Value) : Prop :=
  ∀ {b : Array UInt8} {tb : Tok} {a₀ : Int} {ta : Tok} {ks : List Int} (hk : KBw.bInts b = ks) (hlen : ks.length ≤ 100000) (h0 : 0 ≤ a₀) (hae : a₀ ≤ ks.length), Ct prog w K q (looseW q []) mean mg mb 180 4 [.bytes b tb, .int a₀ ta] [] (fun v sub' => sub' = [] ∧ ∃ t, v = .int (num ks ks.length a₀) t)
def All_ldue (prog : Program) (w : World) (K : Frag) (q : Program) (mean : ExcName → Option Value) (mg mb : Str → Option Value) : Prop :=
  ∀ {b : Array UInt8} {tb : Tok} {a₀ : Int} {ta : Tok} {ks : List Int} (hk : KBw.bInts b = ks) (hlen : ks.length ≤ 100000) (h0 : 0 ≤ a₀) (hae : a₀ ≤ ks.length), Ct prog w K q (looseW q []) mean mg mb 187 6 [.bytes b tb, .int a₀ ta] [] (fun v sub' => sub' = [] ∧ ∃ t, v = .int (due ks ks.length a₀) t)
def All_draw (prog : Program) (w : World) (K : Frag) (q : Program) (mean : ExcName → Option Value) (mg mb : Str → Option Value) : Prop :=
  ∀ {pa c : Addr} {k r M : Int} {tk tr tM : Tok} {ys : List Value} {ns : List Int} (hcp : @LT.lt Nat _ c pa) (hI : IntsAre ys ns) (hn : ns.length ≤ 1000) (h0 : 0 ≤ k) (h1 : k ≤ 1000) (hM : 0 < M), Ct prog w K q (looseW q []) mean mg mb 158 1 [.ref pa, .int M tM] [(pa, PySem.W.listOf #[.ref c, .int k tk, .int r tr] 0), (c, LCg.lst ys)]
      (fun v sub' => ∃ o', (pa, o') ∈ sub' ∧ (∀ q ∈ [(pa, PySem.W.listOf #[.ref c, .int k tk, .int r tr] 0), (c, LCg.lst ys)], q.1 ≠ pa → q ∈ sub') ∧
        ∃ i t t', (0 ≤ i ∧ i < M) ∧ v = .int i t ∧ o' = PySem.W.listOf #[.ref c, .int (k + 1) t', .int r tr] 0)
/-- a contract is shown once, at the head's end, ahead of the walk -/
theorem cut0 {q : Program} {XP : (Str → Option Value) → Heap → Prop} {K : Params → Frag} {as : List Addr} {e : ∀ P, as = (K P).map (·.1)} {r : RowW} {d : DefRec} {kwd : List (Str × Expr)} {run : Value → List Value → Sem Value}
    (C : Program → World → Frag → Program → (ExcName → Option Value) → (Str → Option Value) → (Str → Option Value) → Prop) (hc : ∀ prog w mean mg mb, C prog w (K w.params) q mean mg mb)
    (k : (∀ prog w mean mg mb, C prog w (K w.params) q mean mg mb) → WalkO q [] XP (kHook K as e).says r d kwd run) : WalkO q [] XP (kHook K as e).says r d kwd run := k hc
end Mine
open Mine
-- what is said by k_with comes first
local macro_rules | `(tactic| walk_at $s:str) => `(tactic| k_extra $s)
local macro_rules | `(tactic| tb_rel) => `(tactic| (refine List.forall_mem_cons.mpr ⟨by k_mem, List.forall_mem_cons.mpr ⟨by k_mem, List.forall_mem_nil _⟩⟩))
local macro_rules | `(tactic| ktr_unf) => `(tactic| ((try simp only [depth_under_make, depth_under_kw, depth_in1, depth_deeper, depth_caller, units_in1, units_deeper, Around.mark_units, units_caller] at *); (try dsimp only [ktrTop] at *); (simp only [recursionLimit, cLine] at *); omega))
local macro_rules | `(tactic| k_room) => `(tactic| ktr_unf)
local macro_rules | `(tactic| ktr_unf) => `(tactic| ((try simp only [depth_under_make, depth_under_kw, depth_in1, depth_deeper, depth_caller, units_in1, units_deeper, Around.mark_units, units_caller]); decide))
local macro_rules | `(tactic| ktd_rel) => `(tactic| (repeat' (first | exact areBytes_nil | (refine areBytes_cons (by decide) ?_))))
theorem PySem.Challenge.cw_og0137_01_holds : PySem.Challenge.rw_og0137_01.Holds := by
  w_on
  o_law
  k_head
  (case hw => w_witness2)
  refine cut0 All_isfig ?_ (fun ct_isfig => ?_)
  · intro prog w mean mg mb c t
    intro dp un gd cn cs a ccd cl outer A₀ base h₀ L m s Q E B F X N T hk hdp hu hret
    k_with_none
    k_with "enter" => (refine' enterF ?k1 ?k2 ?k3 ?k4 ?k5 ?kA ?kF ?kK ?k6 ?k7 ?k8 ?k9 ?kB ?_ ?c2 ?c3 ?c4 ?c5; (case kA => exact rfl); (case kF => exact rfl); (case kK => assumption); (case k1 => k_asm); (case k2 => k_asm); (case k3 => k_asm); (case k4 => k_asm); (case k5 => k_asm); (case k6 => k_is); (case k7 => k_is); (case k8 => (simp only [ktrTop, recursionLimit] at *; omega)); (case k9 => first | exact BindsTo.of_eq rfl | exact binds_K (by k_in) rfl (by k_is) rfl rfl rfl); (case c5 => decide); (case kB => exact locs rfl); (case c2 => exact rfl); (case c3 => exact rfl); (case c4 => exact rfl); k_whole; intro g' L' h' F' N' B' X' T'; (try dsimp only); (try k_fold))
    k_with "LeaveF" => (k_dflt (refine' leaveF_ ?k1 ?k2 ?_; (case k1 => k_asm); (case k2 => k_asm)); intro kK kY; (try dsimp only))
    k_with "compareOp In int ref" => (k_here; k_dflt (refine' in_tuple_ints ?k1 ?k2 ?_; (case k1 => exact tupK (by k_in) (by k_is)); (case k2 => (repeat constructor))))
    k_with "compareOp NotIn int ref" => (k_here; k_dflt (refine' notin_tuple_ints ?k1 ?k2 ?_; (case k1 => exact tupK (by k_in) (by k_is)); (case k2 => (repeat constructor))))
    k_with "compareOp NotIn int bytes" => (k_here; (refine notin_bytes (by omega) (by omega) ?_))
    k_with "call builtin:min" => (k_here; (with_reducible show wpAny _ _ (call (Value.builtin _) [Value.int _ _, Value.int _ _]) _ _ _); k_dflt (refine' min_le ?k0 ?k1 ?k2 ?k3 ?_; (case k0 => with_unfolding_all rfl); (case k1 => k_asm); (case k2 => k_asm); (case k3 => omega)); intro h' tk' F' N'; (try k_sweep))
    refine wpAny_call ?_
    k_dflt (k_extra "enter")
    k_steps
    all_goals refine hret _ _ _ _ ⟨rfl, congrArg Value.bool ?_⟩ (by assumption) (by assumption)
    all_goals (unfold isFig; first | (simp_all; done) | (simp_all; omega))
  refine cut0 All_isreg ?_ (fun ct_isreg => ?_)
  · intro prog w mean mg mb c t
    intro dp un gd cn cs a ccd cl outer A₀ base h₀ L m s Q E B F X N T hk hdp hu hret
    k_with_none
    k_with "enter" => (refine' enterF ?k1 ?k2 ?k3 ?k4 ?k5 ?kA ?kF ?kK ?k6 ?k7 ?k8 ?k9 ?kB ?_ ?c2 ?c3 ?c4 ?c5; (case kA => exact rfl); (case kF => exact rfl); (case kK => assumption); (case k1 => k_asm); (case k2 => k_asm); (case k3 => k_asm); (case k4 => k_asm); (case k5 => k_asm); (case k6 => k_is); (case k7 => k_is); (case k8 => (simp only [ktrTop, recursionLimit] at *; omega)); (case k9 => first | exact BindsTo.of_eq rfl | exact binds_K (by k_in) rfl (by k_is) rfl rfl rfl); (case c5 => decide); (case kB => exact locs rfl); (case c2 => exact rfl); (case c3 => exact rfl); (case c4 => exact rfl); k_whole; intro g' L' h' F' N' B' X' T'; (try dsimp only); (try k_fold))
    k_with "LeaveF" => (k_dflt (refine' leaveF_ ?k1 ?k2 ?_; (case k1 => k_asm); (case k2 => k_asm)); intro kK kY; (try dsimp only))
    k_with "compareOp In int ref" => (k_here; k_dflt (refine' in_tuple_ints ?k1 ?k2 ?_; (case k1 => exact tupK (by k_in) (by k_is)); (case k2 => (repeat constructor))))
    k_with "compareOp NotIn int ref" => (k_here; k_dflt (refine' notin_tuple_ints ?k1 ?k2 ?_; (case k1 => exact tupK (by k_in) (by k_is)); (case k2 => (repeat constructor))))
    k_with "compareOp NotIn int bytes" => (k_here; (refine notin_bytes (by omega) (by omega) ?_))
    k_with "call builtin:min" => (k_here; (with_reducible show wpAny _ _ (call (Value.builtin _) [Value.int _ _, Value.int _ _]) _ _ _); k_dflt (refine' min_le ?k0 ?k1 ?k2 ?k3 ?_; (case k0 => with_unfolding_all rfl); (case k1 => k_asm); (case k2 => k_asm); (case k3 => omega)); intro h' tk' F' N'; (try k_sweep))
    refine wpAny_call ?_
    k_dflt (k_extra "enter")
    k_steps
    all_goals refine hret _ _ _ _ ⟨rfl, congrArg Value.bool ?_⟩ (by assumption) (by assumption)
    all_goals (unfold isReg isWhite isDelim; first | (simp_all; done) | (simp_all; omega))
  refine cut0 All_lisreg ?_ (fun ct_lisreg => ?_)
  · intro prog w mean mg mb c t h0 h1
    intro dp un gd cn cs a ccd cl outer A₀ base h₀ L m s Q E B F X N T hk hdp hu hret
    k_with_none
    k_with "enter" => (refine' enterF ?k1 ?k2 ?k3 ?k4 ?k5 ?kA ?kF ?kK ?k6 ?k7 ?k8 ?k9 ?kB ?_ ?c2 ?c3 ?c4 ?c5; (case kA => exact rfl); (case kF => exact rfl); (case kK => assumption); (case k1 => k_asm); (case k2 => k_asm); (case k3 => k_asm); (case k4 => k_asm); (case k5 => k_asm); (case k6 => k_is); (case k7 => k_is); (case k8 => (simp only [ktrTop, recursionLimit] at *; omega)); (case k9 => first | exact BindsTo.of_eq rfl | exact binds_K (by k_in) rfl (by k_is) rfl rfl rfl); (case c5 => decide); (case kB => exact locs rfl); (case c2 => exact rfl); (case c3 => exact rfl); (case c4 => exact rfl); k_whole; intro g' L' h' F' N' B' X' T'; (try dsimp only); (try k_fold))
    k_with "LeaveF" => (k_dflt (refine' leaveF_ ?k1 ?k2 ?_; (case k1 => k_asm); (case k2 => k_asm)); intro kK kY; (try dsimp only))
    k_with "compareOp In int ref" => (k_here; k_dflt (refine' in_tuple_ints ?k1 ?k2 ?_; (case k1 => exact tupK (by k_in) (by k_is)); (case k2 => (repeat constructor))))
    k_with "compareOp NotIn int ref" => (k_here; k_dflt (refine' notin_tuple_ints ?k1 ?k2 ?_; (case k1 => exact tupK (by k_in) (by k_is)); (case k2 => (repeat constructor))))
    k_with "compareOp NotIn int bytes" => (k_here; (refine notin_bytes (by omega) (by omega) ?_))
    k_with "call builtin:min" => (k_here; (with_reducible show wpAny _ _ (call (Value.builtin _) [Value.int _ _, Value.int _ _]) _ _ _); k_dflt (refine' min_le ?k0 ?k1 ?k2 ?k3 ?_; (case k0 => with_unfolding_all rfl); (case k1 => k_asm); (case k2 => k_asm); (case k3 => omega)); intro h' tk' F' N'; (try k_sweep))
    refine wpAny_call ?_
    k_dflt (k_extra "enter")
    k_steps
    all_goals refine hret _ _ _ _ ⟨rfl, congrArg Value.bool ?_⟩ (by assumption) (by assumption)
    all_goals (try rw [delim_bytes h0 h1])
    all_goals (unfold isReg isWhite; first | (simp_all; done) | (simp_all; omega))
  refine cut0 All_peek ?_ (fun ct_peek => ?_)
  · intro prog w mean mg mb x d h1 h2 h3 t1 t2 t3 b tb a₀ ta e te ks hk hlen h0 he
    intro dp un gd cn cs a ccd cl outer A₀ base h₀ L m s Q E B F X N T hk' hdp hu hret
    k_with_none
    k_with "enter" => (refine' enterF ?k1 ?k2 ?k3 ?k4 ?k5 ?kA ?kF ?kK ?k6 ?k7 ?k8 ?k9 ?kB ?_ ?c2 ?c3 ?c4 ?c5; (case kA => exact rfl); (case kF => exact rfl); (case kK => assumption); (case k1 => k_asm); (case k2 => k_asm); (case k3 => k_asm); (case k4 => k_asm); (case k5 => k_asm); (case k6 => k_is); (case k7 => k_is); (case k8 => (simp only [ktrTop, recursionLimit] at *; omega)); (case k9 => first | exact BindsTo.of_eq rfl | exact binds_K (by k_in) rfl (by k_is) rfl rfl rfl); (case c5 => decide); (case kB => exact locs rfl); (case c2 => exact rfl); (case c3 => exact rfl); (case c4 => exact rfl); k_whole; intro g' L' h' F' N' B' X' T'; (try dsimp only); (try k_fold))
    k_with "LeaveF" => (k_dflt (refine' leaveF_ ?k1 ?k2 ?_; (case k1 => k_asm); (case k2 => k_asm)); intro kK kY; (try dsimp only))
    k_with "compareOp In int ref" => (k_here; k_dflt (refine' in_tuple_ints ?k1 ?k2 ?_; (case k1 => exact tupK (by k_in) (by k_is)); (case k2 => (repeat constructor))))
    k_with "compareOp NotIn int ref" => (k_here; k_dflt (refine' notin_tuple_ints ?k1 ?k2 ?_; (case k1 => exact tupK (by k_in) (by k_is)); (case k2 => (repeat constructor))))
    k_with "compareOp NotIn int bytes" => (k_here; (refine notin_bytes (by omega) (by omega) ?_))
    k_with "call builtin:min" => (k_here; (with_reducible show wpAny _ _ (call (Value.builtin _) [Value.int _ _, Value.int _ _]) _ _ _); k_dflt (refine' min_le ?k0 ?k1 ?k2 ?k3 ?_; (case k0 => with_unfolding_all rfl); (case k1 => k_asm); (case k2 => k_asm); (case k3 => omega)); intro h' tk' F' N'; (try k_sweep))
    refine wpAny_call ?_
    k_dflt (k_extra "enter")
    k_steps
    all_goals (rename Stand _ _ => hY; rename KeptBut _ _ _ => hK; refine hret _ _ _ _ ?_ hK hY)
    all_goals (refine ⟨rfl, _, congrArg (Value.int · _) ?_⟩; unfold peekV gk; first | (rw [if_pos (by omega), Int.add_zero]; done) | (rw [if_neg (by omega)]; done))
  refine cut0 All_take ?_ (fun ct_take => ?_)
  · intro prog w mean mg mb x d h1 h2 h3 t1 t2 t3 b tb a₀ ta e te ks hxd hk hlen h0 hae he
    intro dp un gd cn cs a ccd cl outer A₀ base h₀ L m s Q E B F X N T hk' hdp hu hret
    k_with_none
    k_with "enter" => (refine' enterF ?k1 ?k2 ?k3 ?k4 ?k5 ?kA ?kF ?kK ?k6 ?k7 ?k8 ?k9 ?kB ?_ ?c2 ?c3 ?c4 ?c5; (case kA => exact rfl); (case kF => exact rfl); (case kK => assumption); (case k1 => k_asm); (case k2 => k_asm); (case k3 => k_asm); (case k4 => k_asm); (case k5 => k_asm); (case k6 => k_is); (case k7 => k_is); (case k8 => (simp only [ktrTop, recursionLimit] at *; omega)); (case k9 => first | exact BindsTo.of_eq rfl | exact binds_K (by k_in) rfl (by k_is) rfl rfl rfl); (case c5 => decide); (case kB => exact locs rfl); (case c2 => exact rfl); (case c3 => exact rfl); (case c4 => exact rfl); k_whole; intro g' L' h' F' N' B' X' T'; (try dsimp only); (try k_fold))
    k_with "LeaveF" => (k_dflt (refine' leaveF_ ?k1 ?k2 ?_; (case k1 => k_asm); (case k2 => k_asm)); intro kK kY; (try dsimp only))
    k_with "compareOp In int ref" => (k_here; k_dflt (refine' in_tuple_ints ?k1 ?k2 ?_; (case k1 => exact tupK (by k_in) (by k_is)); (case k2 => (repeat constructor))))
    k_with "compareOp NotIn int ref" => (k_here; k_dflt (refine' notin_tuple_ints ?k1 ?k2 ?_; (case k1 => exact tupK (by k_in) (by k_is)); (case k2 => (repeat constructor))))
    k_with "compareOp NotIn int bytes" => (k_here; (refine notin_bytes (by omega) (by omega) ?_))
    k_with "call builtin:min" => (k_here; (with_reducible show wpAny _ _ (call (Value.builtin _) [Value.int _ _, Value.int _ _]) _ _ _); k_dflt (refine' min_le ?k0 ?k1 ?k2 ?k3 ?_; (case k0 => with_unfolding_all rfl); (case k1 => k_asm); (case k2 => k_asm); (case k3 => omega)); intro h' tk' F' N'; (try k_sweep))
    refine wpAny_call ?_
    k_dflt (k_extra "enter")
    k_steps
    all_goals (rename Stand _ _ => hY; rename KeptBut _ _ _ => hK; refine hret _ _ _ _ ?_ hK hY)
    exact ⟨_, .tail _ (.head _), keep2, _, _, rfl, rfl⟩
  refine cut0 All_number ?_ (fun ct_number => ?_)
  · intro prog w mean mg mb x d h1 h2 h3 t1 t2 t3 b tb a₀ ta e te ks hxd hk hlen h0 hae he
    intro dp un gd cn cs a ccd cl outer A₀ base h₀ L m s Q E B F X N T hk' hdp hu hret
    k_with_none
    k_with "enter" => (refine' enterF ?k1 ?k2 ?k3 ?k4 ?k5 ?kA ?kF ?kK ?k6 ?k7 ?k8 ?k9 ?kB ?_ ?c2 ?c3 ?c4 ?c5; (case kA => exact rfl); (case kF => exact rfl); (case kK => assumption); (case k1 => k_asm); (case k2 => k_asm); (case k3 => k_asm); (case k4 => k_asm); (case k5 => k_asm); (case k6 => k_is); (case k7 => k_is); (case k8 => (simp only [ktrTop, recursionLimit] at *; omega)); (case k9 => first | exact BindsTo.of_eq rfl | exact binds_K (by k_in) rfl (by k_is) rfl rfl rfl); (case c5 => decide); (case kB => exact locs rfl); (case c2 => exact rfl); (case c3 => exact rfl); (case c4 => exact rfl); k_whole; intro g' L' h' F' N' B' X' T'; (try dsimp only); (try k_fold))
    k_with "LeaveF" => (k_dflt (refine' leaveF_ ?k1 ?k2 ?_; (case k1 => k_asm); (case k2 => k_asm)); intro kK kY; (try dsimp only))
    k_with "compareOp In int ref" => (k_here; k_dflt (refine' in_tuple_ints ?k1 ?k2 ?_; (case k1 => exact tupK (by k_in) (by k_is)); (case k2 => (repeat constructor))))
    k_with "compareOp NotIn int ref" => (k_here; k_dflt (refine' notin_tuple_ints ?k1 ?k2 ?_; (case k1 => exact tupK (by k_in) (by k_is)); (case k2 => (repeat constructor))))
    k_with "compareOp NotIn int bytes" => (k_here; (refine notin_bytes (by omega) (by omega) ?_))
    k_with "call builtin:min" => (k_here; (with_reducible show wpAny _ _ (call (Value.builtin _) [Value.int _ _, Value.int _ _]) _ _ _); k_dflt (refine' min_le ?k0 ?k1 ?k2 ?k3 ?_; (case k0 => with_unfolding_all rfl); (case k1 => k_asm); (case k2 => k_asm); (case k3 => omega)); intro h' tk' F' N'; (try k_sweep))
    k_with "call ref" => (k_here; k_dflt (refine' Ct.useV (ct_isfig _ _ _ _ _ _ _ ) ?k1 ?k2 ?k3 ?k4 ?k5 ?kK ?kqs ?kd ?ku ?_; (case k1 => k_asm); (case k2 => k_asm); (case k3 => k_asm); (case k4 => k_asm); (case k5 => k_asm); (case kK => exact rfl); (case kqs => exact List.forall_mem_nil _); (case kd => ktr_unf); (case ku => ktr_unf)); intro h' tk' F' N'; (try k_sweep))
    k_with "call ref" => (k_here; k_dflt (refine' Ct.useV (ct_isreg _ _ _ _ _ _ _ ) ?k1 ?k2 ?k3 ?k4 ?k5 ?kK ?kqs ?kd ?ku ?_; (case k1 => k_asm); (case k2 => k_asm); (case k3 => k_asm); (case k4 => k_asm); (case k5 => k_asm); (case kK => exact rfl); (case kqs => exact List.forall_mem_nil _); (case kd => ktr_unf); (case ku => ktr_unf)); intro h' tk' F' N'; (try k_sweep))
    k_with "call ref" => (k_here; k_dflt (refine' Ct.useV (ct_lisreg _ _ _ _ _ _ _ ?p1 ?p2) ?k1 ?k2 ?k3 ?k4 ?k5 ?kK ?kqs ?kd ?ku ?_; (case k1 => k_asm); (case k2 => k_asm); (case k3 => k_asm); (case k4 => k_asm); (case k5 => k_asm); (case kK => exact rfl); (case kqs => exact List.forall_mem_nil _); (case kd => ktr_unf); (case ku => ktr_unf); (case p1 => omega); (case p2 => omega)); intro h' tk' F' N'; (try k_sweep))
    k_with "call ref" => (k_here; k_dflt (refine' Ct.useI (ct_peek _ _ _ _ _ ?p1 ?p2 ?p3 ?p4) ?k1 ?k2 ?k3 ?k4 ?k5 ?kK ?kqs ?kd ?ku ?_; (case k1 => k_asm); (case k2 => k_asm); (case k3 => k_asm); (case k4 => k_asm); (case k5 => k_asm); (case kK => exact rfl); (case kqs => tb_rel); (case kd => ktr_unf); (case ku => ktr_unf); (case p1 => assumption); (case p2 => omega); (case p3 => first | omega | (repeat' (first | assumption | apply lo_fig | apply lo_pas | apply figE_le | apply pas_le | apply le_num | omega))); (case p4 => omega)); intro t' h' tk' F' N'; (try k_sweep))
    k_with "call ref" => (k_here; k_dflt (refine' Ct.useT (ct_take _ _ _ _ _ ?p1 ?p2 ?p3 ?p4 ?p5 ?p6) ?k1 ?k2 ?k3 ?k4 ?k5 ?kK ?kqs ?kU ?kd ?ku ?_; (case k1 => k_asm); (case k2 => k_asm); (case k3 => k_asm); (case k4 => k_asm); (case k5 => k_asm); (case kK => exact rfl); (case kqs => tb_rel); (case kU => (intro o'; k_upd)); (case kd => ktr_unf); (case ku => ktr_unf); (case p1 => assumption); (case p2 => assumption); (case p3 => omega); (case p4 => omega); (case p5 => first | omega | exact fig_lt (by assumption)); (case p6 => omega)); intro t' t'' h' tk' F' N'; (try dsimp only at N'); (try k_sweep))
    k_with "exec While Call cons nil" => k_while (fun _ i n => figE ks e i = figE ks e a₀ ∧ a₀ ≤ i ∧ i ≤ e) (fun _ i n => (e - i).toNat) "self.at" "number"
    k_with "state" => exact num_turn (by assumption) (by assumption) (by assumption)
    k_with "measure" => exact num_less (by assumption)
    dsimp only [curD] at N
    refine wpAny_call ?_
    k_dflt (k_extra "enter")
    k_steps
    all_goals (rename Stand _ _ => hY; rename KeptBut _ _ _ => hK; refine hret _ _ _ _ ?_ hK hY; (rename isFig _ = false => hz); (rename figE _ _ _ = figE _ _ _ => hF); have hi := (fig_stop hz).symm.trans hF)
    all_goals first
      | exact ⟨_, .tail _ (.head _), keep2, .inl ⟨by omega, rfl, _, rfl⟩⟩
      | exact ⟨_, .tail _ (.head _), keep2, .inr ⟨by omega, _, _, _, rfl, by rw [← hi]⟩⟩
  refine cut0 All_skip ?_ (fun ct_skip => ?_)
  · intro prog w mean mg mb x d h1 h2 h3 t1 t2 t3 b tb a₀ ta e te ks hxd hk hlen h0 hae he
    intro dp un gd cn cs a ccd cl outer A₀ base h₀ L m s Q E B F X N T hk' hdp hu hret
    k_with_none
    k_with "enter" => (refine' enterF ?k1 ?k2 ?k3 ?k4 ?k5 ?kA ?kF ?kK ?k6 ?k7 ?k8 ?k9 ?kB ?_ ?c2 ?c3 ?c4 ?c5; (case kA => exact rfl); (case kF => exact rfl); (case kK => assumption); (case k1 => k_asm); (case k2 => k_asm); (case k3 => k_asm); (case k4 => k_asm); (case k5 => k_asm); (case k6 => k_is); (case k7 => k_is); (case k8 => (simp only [ktrTop, recursionLimit] at *; omega)); (case k9 => first | exact BindsTo.of_eq rfl | exact binds_K (by k_in) rfl (by k_is) rfl rfl rfl); (case c5 => decide); (case kB => exact locs rfl); (case c2 => exact rfl); (case c3 => exact rfl); (case c4 => exact rfl); k_whole; intro g' L' h' F' N' B' X' T'; (try dsimp only); (try k_fold))
    k_with "LeaveF" => (k_dflt (refine' leaveF_ ?k1 ?k2 ?_; (case k1 => k_asm); (case k2 => k_asm)); intro kK kY; (try dsimp only))
    k_with "compareOp In int ref" => (k_here; k_dflt (refine' in_tuple_ints ?k1 ?k2 ?_; (case k1 => exact tupK (by k_in) (by k_is)); (case k2 => (repeat constructor))))
    k_with "compareOp NotIn int ref" => (k_here; k_dflt (refine' notin_tuple_ints ?k1 ?k2 ?_; (case k1 => exact tupK (by k_in) (by k_is)); (case k2 => (repeat constructor))))
    k_with "compareOp NotIn int bytes" => (k_here; (refine notin_bytes (by omega) (by omega) ?_))
    k_with "call builtin:min" => (k_here; (with_reducible show wpAny _ _ (call (Value.builtin _) [Value.int _ _, Value.int _ _]) _ _ _); k_dflt (refine' min_le ?k0 ?k1 ?k2 ?k3 ?_; (case k0 => with_unfolding_all rfl); (case k1 => k_asm); (case k2 => k_asm); (case k3 => omega)); intro h' tk' F' N'; (try k_sweep))
    k_with "call ref" => (k_here; k_dflt (refine' Ct.useV (ct_isfig _ _ _ _ _ _ _ ) ?k1 ?k2 ?k3 ?k4 ?k5 ?kK ?kqs ?kd ?ku ?_; (case k1 => k_asm); (case k2 => k_asm); (case k3 => k_asm); (case k4 => k_asm); (case k5 => k_asm); (case kK => exact rfl); (case kqs => exact List.forall_mem_nil _); (case kd => ktr_unf); (case ku => ktr_unf)); intro h' tk' F' N'; (try k_sweep))
    k_with "call ref" => (k_here; k_dflt (refine' Ct.useV (ct_isreg _ _ _ _ _ _ _ ) ?k1 ?k2 ?k3 ?k4 ?k5 ?kK ?kqs ?kd ?ku ?_; (case k1 => k_asm); (case k2 => k_asm); (case k3 => k_asm); (case k4 => k_asm); (case k5 => k_asm); (case kK => exact rfl); (case kqs => exact List.forall_mem_nil _); (case kd => ktr_unf); (case ku => ktr_unf)); intro h' tk' F' N'; (try k_sweep))
    k_with "call ref" => (k_here; k_dflt (refine' Ct.useV (ct_lisreg _ _ _ _ _ _ _ ?p1 ?p2) ?k1 ?k2 ?k3 ?k4 ?k5 ?kK ?kqs ?kd ?ku ?_; (case k1 => k_asm); (case k2 => k_asm); (case k3 => k_asm); (case k4 => k_asm); (case k5 => k_asm); (case kK => exact rfl); (case kqs => exact List.forall_mem_nil _); (case kd => ktr_unf); (case ku => ktr_unf); (case p1 => omega); (case p2 => omega)); intro h' tk' F' N'; (try k_sweep))
    k_with "call ref" => (k_here; k_dflt (refine' Ct.useI (ct_peek _ _ _ _ _ ?p1 ?p2 ?p3 ?p4) ?k1 ?k2 ?k3 ?k4 ?k5 ?kK ?kqs ?kd ?ku ?_; (case k1 => k_asm); (case k2 => k_asm); (case k3 => k_asm); (case k4 => k_asm); (case k5 => k_asm); (case kK => exact rfl); (case kqs => tb_rel); (case kd => ktr_unf); (case ku => ktr_unf); (case p1 => assumption); (case p2 => omega); (case p3 => first | omega | (repeat' (first | assumption | apply lo_fig | apply lo_pas | apply figE_le | apply pas_le | apply le_num | omega))); (case p4 => omega)); intro t' h' tk' F' N'; (try k_sweep))
    k_with "call ref" => (k_here; k_dflt (refine' Ct.useT (ct_take _ _ _ _ _ ?p1 ?p2 ?p3 ?p4 ?p5 ?p6) ?k1 ?k2 ?k3 ?k4 ?k5 ?kK ?kqs ?kU ?kd ?ku ?_; (case k1 => k_asm); (case k2 => k_asm); (case k3 => k_asm); (case k4 => k_asm); (case k5 => k_asm); (case kK => exact rfl); (case kqs => tb_rel); (case kU => (intro o'; k_upd)); (case kd => ktr_unf); (case ku => ktr_unf); (case p1 => assumption); (case p2 => assumption); (case p3 => omega); (case p4 => omega); (case p5 => first | omega | exact fig_lt (by assumption)); (case p6 => omega)); intro t' t'' h' tk' F' N'; (try dsimp only at N'); (try k_sweep))
    k_with "call ref" => (k_here; k_dflt (refine' Ct.useN (ct_number _ _ _ _ _ ?p1 ?p2 ?p3 ?p4 ?p5 ?p6) ?k1 ?k2 ?k3 ?k4 ?k5 ?kK ?kqs ?kU ?kd ?ku ?_ ?_; (case k1 => k_asm); (case k2 => k_asm); (case k3 => k_asm); (case k4 => k_asm); (case k5 => k_asm); (case kK => exact rfl); (case kqs => tb_rel); (case kU => (intro o'; k_upd)); (case kd => ktr_unf); (case ku => ktr_unf); (case p1 => assumption); (case p2 => assumption); (case p3 => omega); (case p4 => first | omega | (repeat' (first | assumption | apply lo_fig | apply lo_pas | apply figE_le | apply pas_le | apply le_num | omega))); (case p5 => first | omega | (repeat' (first | assumption | apply lo_fig | apply lo_pas | apply figE_le | apply pas_le | apply le_num | omega))); (case p6 => omega)); all_goals (intros; (rename News _ _ _ _ => nC'); (try dsimp only at nC'); (try k_sweep)))
    k_with "exec While Compare cons nil" => k_while (fun _ i => pas ks e false i = pas ks e false a₀ ∧ a₀ ≤ i ∧ i ≤ e) (fun _ i => (e - i).toNat) "self.at"
    k_with "exec While BoolOp cons nil" => k_while_given ["self.at!"] (fun i _ j => pas ks e true j = pas ks e false a₀ ∧ i ≤ j ∧ j ≤ e) (fun i _ j => (e - j).toNat) "self.at"
    k_with "state" => exact sk1 (by assumption) (by assumption) (by assumption)
    k_with "state" => exact sk2 (by assumption) (by omega) (by omega) (by assumption)
    k_with "state" => exact sk3 (by assumption) (by omega) (by omega) (by assumption)
    k_with "state" => exact sk4 (by assumption) (by omega) (by omega) (by assumption)
    k_with "state" => exact sk5 (by assumption) (by omega) (by omega) (by assumption) (by assumption)
    k_with "measure" => exact sk6 (by assumption) (by assumption) (by assumption) (by assumption)
    dsimp only [curD] at N
    refine wpAny_call ?_
    k_dflt (k_extra "enter")
    k_steps
    all_goals (rename Stand _ _ => hY; rename KeptBut _ _ _ => hK; refine hret _ _ _ _ ?_ hK hY; (rename pas _ _ _ _ = pas _ _ _ _ => hF))
    · have hi := (pas_no (ks := ks) (e := e) (by assumption) (by assumption)).symm.trans hF
      exact ⟨_, .tail _ (.head _), keep2, rfl, _, by rw [← hi]⟩
    · have hi := (pas_out (ks := ks) (e := e) (c := false) (by omega)).symm.trans hF
      exact ⟨_, .tail _ (.head _), keep2, rfl, _, by rw [← hi]⟩
  refine cut0 All_regular ?_ (fun ct_regular => ?_)
  · intro prog w mean mg mb x d h1 h2 h3 t1 t2 t3 b tb a₀ ta e te ks hxd hk hlen h0 hae he
    intro dp un gd cn cs a ccd cl outer A₀ base h₀ L m s Q E B F X N T hk' hdp hu hret
    k_with_none
    k_with "enter" => (refine' enterF ?k1 ?k2 ?k3 ?k4 ?k5 ?kA ?kF ?kK ?k6 ?k7 ?k8 ?k9 ?kB ?_ ?c2 ?c3 ?c4 ?c5; (case kA => exact rfl); (case kF => exact rfl); (case kK => assumption); (case k1 => k_asm); (case k2 => k_asm); (case k3 => k_asm); (case k4 => k_asm); (case k5 => k_asm); (case k6 => k_is); (case k7 => k_is); (case k8 => (simp only [ktrTop, recursionLimit] at *; omega)); (case k9 => first | exact BindsTo.of_eq rfl | exact binds_K (by k_in) rfl (by k_is) rfl rfl rfl); (case c5 => decide); (case kB => exact locs rfl); (case c2 => exact rfl); (case c3 => exact rfl); (case c4 => exact rfl); k_whole; intro g' L' h' F' N' B' X' T'; (try dsimp only); (try k_fold))
    k_with "LeaveF" => (k_dflt (refine' leaveF_ ?k1 ?k2 ?_; (case k1 => k_asm); (case k2 => k_asm)); intro kK kY; (try dsimp only))
    k_with "compareOp In int ref" => (k_here; k_dflt (refine' in_tuple_ints ?k1 ?k2 ?_; (case k1 => exact tupK (by k_in) (by k_is)); (case k2 => (repeat constructor))))
    k_with "compareOp NotIn int ref" => (k_here; k_dflt (refine' notin_tuple_ints ?k1 ?k2 ?_; (case k1 => exact tupK (by k_in) (by k_is)); (case k2 => (repeat constructor))))
    k_with "compareOp NotIn int bytes" => (k_here; (refine notin_bytes (by omega) (by omega) ?_))
    k_with "call builtin:min" => (k_here; (with_reducible show wpAny _ _ (call (Value.builtin _) [Value.int _ _, Value.int _ _]) _ _ _); k_dflt (refine' min_le ?k0 ?k1 ?k2 ?k3 ?_; (case k0 => with_unfolding_all rfl); (case k1 => k_asm); (case k2 => k_asm); (case k3 => omega)); intro h' tk' F' N'; (try k_sweep))
    k_with "call ref" => (k_here; k_dflt (refine' Ct.useV (ct_isfig _ _ _ _ _ _ _ ) ?k1 ?k2 ?k3 ?k4 ?k5 ?kK ?kqs ?kd ?ku ?_; (case k1 => k_asm); (case k2 => k_asm); (case k3 => k_asm); (case k4 => k_asm); (case k5 => k_asm); (case kK => exact rfl); (case kqs => exact List.forall_mem_nil _); (case kd => ktr_unf); (case ku => ktr_unf)); intro h' tk' F' N'; (try k_sweep))
    k_with "call ref" => (k_here; k_dflt (refine' Ct.useV (ct_isreg _ _ _ _ _ _ _ ) ?k1 ?k2 ?k3 ?k4 ?k5 ?kK ?kqs ?kd ?ku ?_; (case k1 => k_asm); (case k2 => k_asm); (case k3 => k_asm); (case k4 => k_asm); (case k5 => k_asm); (case kK => exact rfl); (case kqs => exact List.forall_mem_nil _); (case kd => ktr_unf); (case ku => ktr_unf)); intro h' tk' F' N'; (try k_sweep))
    k_with "call ref" => (k_here; k_dflt (refine' Ct.useV (ct_lisreg _ _ _ _ _ _ _ ?p1 ?p2) ?k1 ?k2 ?k3 ?k4 ?k5 ?kK ?kqs ?kd ?ku ?_; (case k1 => k_asm); (case k2 => k_asm); (case k3 => k_asm); (case k4 => k_asm); (case k5 => k_asm); (case kK => exact rfl); (case kqs => exact List.forall_mem_nil _); (case kd => ktr_unf); (case ku => ktr_unf); (case p1 => omega); (case p2 => omega)); intro h' tk' F' N'; (try k_sweep))
    k_with "call ref" => (k_here; k_dflt (refine' Ct.useI (ct_peek _ _ _ _ _ ?p1 ?p2 ?p3 ?p4) ?k1 ?k2 ?k3 ?k4 ?k5 ?kK ?kqs ?kd ?ku ?_; (case k1 => k_asm); (case k2 => k_asm); (case k3 => k_asm); (case k4 => k_asm); (case k5 => k_asm); (case kK => exact rfl); (case kqs => tb_rel); (case kd => ktr_unf); (case ku => ktr_unf); (case p1 => assumption); (case p2 => omega); (case p3 => first | omega | (repeat' (first | assumption | apply lo_fig | apply lo_pas | apply figE_le | apply pas_le | apply le_num | omega))); (case p4 => omega)); intro t' h' tk' F' N'; (try k_sweep))
    k_with "call ref" => (k_here; k_dflt (refine' Ct.useT (ct_take _ _ _ _ _ ?p1 ?p2 ?p3 ?p4 ?p5 ?p6) ?k1 ?k2 ?k3 ?k4 ?k5 ?kK ?kqs ?kU ?kd ?ku ?_; (case k1 => k_asm); (case k2 => k_asm); (case k3 => k_asm); (case k4 => k_asm); (case k5 => k_asm); (case kK => exact rfl); (case kqs => tb_rel); (case kU => (intro o'; k_upd)); (case kd => ktr_unf); (case ku => ktr_unf); (case p1 => assumption); (case p2 => assumption); (case p3 => omega); (case p4 => omega); (case p5 => first | omega | exact fig_lt (by assumption)); (case p6 => omega)); intro t' t'' h' tk' F' N'; (try dsimp only at N'); (try k_sweep))
    k_with "call ref" => (k_here; k_dflt (refine' Ct.useN (ct_number _ _ _ _ _ ?p1 ?p2 ?p3 ?p4 ?p5 ?p6) ?k1 ?k2 ?k3 ?k4 ?k5 ?kK ?kqs ?kU ?kd ?ku ?_ ?_; (case k1 => k_asm); (case k2 => k_asm); (case k3 => k_asm); (case k4 => k_asm); (case k5 => k_asm); (case kK => exact rfl); (case kqs => tb_rel); (case kU => (intro o'; k_upd)); (case kd => ktr_unf); (case ku => ktr_unf); (case p1 => assumption); (case p2 => assumption); (case p3 => omega); (case p4 => first | omega | (repeat' (first | assumption | apply lo_fig | apply lo_pas | apply figE_le | apply pas_le | apply le_num | omega))); (case p5 => first | omega | (repeat' (first | assumption | apply lo_fig | apply lo_pas | apply figE_le | apply pas_le | apply le_num | omega))); (case p6 => omega)); all_goals (intros; (rename News _ _ _ _ => nC'); (try dsimp only at nC'); (try k_sweep)))
    k_with "exec While BoolOp cons nil" => k_while (fun _ i => regE ks e i = regE ks e a₀ ∧ a₀ ≤ i ∧ i ≤ e) (fun _ i => (e - i).toNat) "self.at"
    k_with "state" => exact rg1 (by assumption) (by omega) (by assumption) (by assumption)
    dsimp only [curD] at N
    refine wpAny_call ?_
    k_dflt (k_extra "enter")
    k_steps
    all_goals (rename Stand _ _ => hY; rename KeptBut _ _ _ => hK; refine hret _ _ _ _ ?_ hK hY; (rename regE _ _ _ = regE _ _ _ => hF); (rename KBw.bInts (KBy.picked _ _ _) = _ => hS))
    · have hi := (regE_no (ks := ks) (e := e) (by assumption)).symm.trans hF
      subst hi
      exact ⟨_, .tail _ (.head _), keep2, _, _, _, by rw [hS, clip_in h0 (by omega), clip_in (i := regE ks e a₀) (by omega) (by omega)], rfl, rfl⟩
    · have hi := (regE_out (ks := ks) (e := e) (by omega)).symm.trans hF
      subst hi
      exact ⟨_, .tail _ (.head _), keep2, _, _, _, by rw [hS, clip_in h0 (by omega), clip_in (i := regE ks e a₀) (by omega) (by omega)], rfl, rfl⟩
  refine cut0 All_head ?_ (fun ct_head => ?_)
  · intro prog w mean mg mb x d h1 h2 h3 t1 t2 t3 b tb a₀ ta e te ks hk hlen h0 hae he
    intro dp un gd cn cs a ccd cl outer A₀ base h₀ L m s Q E B F X N T hk' hdp hu hret
    k_with_none
    k_with "enter" => (refine' enterF ?k1 ?k2 ?k3 ?k4 ?k5 ?kA ?kF ?kK ?k6 ?k7 ?k8 ?k9 ?kB ?_ ?c2 ?c3 ?c4 ?c5; (case kA => exact rfl); (case kF => exact rfl); (case kK => assumption); (case k1 => k_asm); (case k2 => k_asm); (case k3 => k_asm); (case k4 => k_asm); (case k5 => k_asm); (case k6 => k_is); (case k7 => k_is); (case k8 => (simp only [ktrTop, recursionLimit] at *; omega)); (case k9 => first | exact BindsTo.of_eq rfl | exact binds_K (by k_in) rfl (by k_is) rfl rfl rfl); (case c5 => decide); (case kB => exact locs rfl); (case c2 => exact rfl); (case c3 => exact rfl); (case c4 => exact rfl); k_whole; intro g' L' h' F' N' B' X' T'; (try dsimp only); (try k_fold))
    k_with "LeaveF" => (k_dflt (refine' leaveF_ ?k1 ?k2 ?_; (case k1 => k_asm); (case k2 => k_asm)); intro kK kY; (try dsimp only))
    k_with "compareOp In int ref" => (k_here; k_dflt (refine' in_tuple_ints ?k1 ?k2 ?_; (case k1 => exact tupK (by k_in) (by k_is)); (case k2 => (repeat constructor))))
    k_with "compareOp NotIn int ref" => (k_here; k_dflt (refine' notin_tuple_ints ?k1 ?k2 ?_; (case k1 => exact tupK (by k_in) (by k_is)); (case k2 => (repeat constructor))))
    k_with "compareOp NotIn int bytes" => (k_here; (refine notin_bytes (by omega) (by omega) ?_))
    k_with "call builtin:min" => (k_here; (with_reducible show wpAny _ _ (call (Value.builtin _) [Value.int _ _, Value.int _ _]) _ _ _); k_dflt (refine' min_le ?k0 ?k1 ?k2 ?k3 ?_; (case k0 => with_unfolding_all rfl); (case k1 => k_asm); (case k2 => k_asm); (case k3 => omega)); intro h' tk' F' N'; (try k_sweep))
    k_with "call ref" => (k_here; k_dflt (refine' Ct.useV (ct_isfig _ _ _ _ _ _ _ ) ?k1 ?k2 ?k3 ?k4 ?k5 ?kK ?kqs ?kd ?ku ?_; (case k1 => k_asm); (case k2 => k_asm); (case k3 => k_asm); (case k4 => k_asm); (case k5 => k_asm); (case kK => exact rfl); (case kqs => exact List.forall_mem_nil _); (case kd => ktr_unf); (case ku => ktr_unf)); intro h' tk' F' N'; (try k_sweep))
    k_with "call ref" => (k_here; k_dflt (refine' Ct.useV (ct_isreg _ _ _ _ _ _ _ ) ?k1 ?k2 ?k3 ?k4 ?k5 ?kK ?kqs ?kd ?ku ?_; (case k1 => k_asm); (case k2 => k_asm); (case k3 => k_asm); (case k4 => k_asm); (case k5 => k_asm); (case kK => exact rfl); (case kqs => exact List.forall_mem_nil _); (case kd => ktr_unf); (case ku => ktr_unf)); intro h' tk' F' N'; (try k_sweep))
    k_with "call ref" => (k_here; k_dflt (refine' Ct.useV (ct_lisreg _ _ _ _ _ _ _ ?p1 ?p2) ?k1 ?k2 ?k3 ?k4 ?k5 ?kK ?kqs ?kd ?ku ?_; (case k1 => k_asm); (case k2 => k_asm); (case k3 => k_asm); (case k4 => k_asm); (case k5 => k_asm); (case kK => exact rfl); (case kqs => exact List.forall_mem_nil _); (case kd => ktr_unf); (case ku => ktr_unf); (case p1 => omega); (case p2 => omega)); intro h' tk' F' N'; (try k_sweep))
    k_with "call ref" => (k_here; k_dflt (refine' Ct.useI (ct_peek _ _ _ _ _ ?p1 ?p2 ?p3 ?p4) ?k1 ?k2 ?k3 ?k4 ?k5 ?kK ?kqs ?kd ?ku ?_; (case k1 => k_asm); (case k2 => k_asm); (case k3 => k_asm); (case k4 => k_asm); (case k5 => k_asm); (case kK => exact rfl); (case kqs => tb_rel); (case kd => ktr_unf); (case ku => ktr_unf); (case p1 => assumption); (case p2 => omega); (case p3 => first | omega | (repeat' (first | assumption | apply lo_fig | apply lo_pas | apply figE_le | apply pas_le | apply le_num | omega))); (case p4 => omega)); intro t' h' tk' F' N'; (try k_sweep))
    k_with "call ref" => (k_here; k_dflt (refine' Ct.useT (ct_take _ _ _ _ _ ?p1 ?p2 ?p3 ?p4 ?p5 ?p6) ?k1 ?k2 ?k3 ?k4 ?k5 ?kK ?kqs ?kU ?kd ?ku ?_; (case k1 => k_asm); (case k2 => k_asm); (case k3 => k_asm); (case k4 => k_asm); (case k5 => k_asm); (case kK => exact rfl); (case kqs => tb_rel); (case kU => (intro o'; k_upd)); (case kd => ktr_unf); (case ku => ktr_unf); (case p1 => assumption); (case p2 => assumption); (case p3 => omega); (case p4 => omega); (case p5 => first | omega | exact fig_lt (by assumption)); (case p6 => omega)); intro t' t'' h' tk' F' N'; (try dsimp only at N'); (try k_sweep))
    k_with "call ref" => (k_here; k_dflt (refine' Ct.useN (ct_number _ _ _ _ _ ?p1 ?p2 ?p3 ?p4 ?p5 ?p6) ?k1 ?k2 ?k3 ?k4 ?k5 ?kK ?kqs ?kU ?kd ?ku ?_ ?_; (case k1 => k_asm); (case k2 => k_asm); (case k3 => k_asm); (case k4 => k_asm); (case k5 => k_asm); (case kK => exact rfl); (case kqs => tb_rel); (case kU => (intro o'; k_upd)); (case kd => ktr_unf); (case ku => ktr_unf); (case p1 => assumption); (case p2 => assumption); (case p3 => omega); (case p4 => first | omega | (repeat' (first | assumption | apply lo_fig | apply lo_pas | apply figE_le | apply pas_le | apply le_num | omega))); (case p5 => first | omega | (repeat' (first | assumption | apply lo_fig | apply lo_pas | apply figE_le | apply pas_le | apply le_num | omega))); (case p6 => omega)); all_goals (intros; (rename News _ _ _ _ => nC'); (try dsimp only at nC'); (try k_sweep)))
    k_with "call ref" => (k_here; k_dflt (refine' Ct.useS (ct_skip _ _ _ _ _ ?p1 ?p2 ?p3 ?p4 ?p5 ?p6) ?k1 ?k2 ?k3 ?k4 ?k5 ?kK ?kqs ?kU ?kd ?ku ?_; (case k1 => k_asm); (case k2 => k_asm); (case k3 => k_asm); (case k4 => k_asm); (case k5 => k_asm); (case kK => exact rfl); (case kqs => tb_rel); (case kU => (intro o'; k_upd)); (case kd => ktr_unf); (case ku => ktr_unf); (case p1 => assumption); (case p2 => assumption); (case p3 => omega); (case p4 => first | omega | (repeat' (first | assumption | apply lo_fig | apply lo_pas | apply figE_le | apply pas_le | apply le_num | omega))); (case p5 => first | omega | (repeat' (first | assumption | apply lo_fig | apply lo_pas | apply figE_le | apply pas_le | apply le_num | omega))); (case p6 => omega)); intro t' h' tk' F' N'; (try dsimp only at N'); (try k_sweep))
    k_with "call ref" => (k_here; k_dflt (refine' Ct.useR (ct_regular _ _ _ _ _ ?p1 ?p2 ?p3 ?p4 ?p5 ?p6) ?k1 ?k2 ?k3 ?k4 ?k5 ?kK ?kqs ?kU ?kd ?ku ?_; (case k1 => k_asm); (case k2 => k_asm); (case k3 => k_asm); (case k4 => k_asm); (case k5 => k_asm); (case kK => exact rfl); (case kqs => tb_rel); (case kU => (intro o'; k_upd)); (case kd => ktr_unf); (case ku => ktr_unf); (case p1 => assumption); (case p2 => assumption); (case p3 => omega); (case p4 => first | omega | (repeat' (first | assumption | apply lo_fig | apply lo_pas | apply figE_le | apply pas_le | apply le_num | omega))); (case p5 => first | omega | (repeat' (first | assumption | apply lo_fig | apply lo_pas | apply figE_le | apply pas_le | apply le_num | omega))); (case p6 => omega)); intro b' hB' t' t'' h' tk' F' N'; (try dsimp only at N'); (try k_sweep))
    dsimp only [curD] at N
    refine wpAny_call ?_
    k_dflt (k_extra "enter")
    k_steps
    all_goals ((rename Stand _ _ => hY); (rename KeptBut _ _ _ => hK); refine hret _ [(x, _), (d, _)] _ _ ⟨rfl, _, congrArg (Value.int · _) ?_⟩ hK (hY.sub (by tb_rel)))
    · exact (due_first (num_none (by assumption))).symm
    · exact (due_first (num_reg (by assumption))).symm
    · exact (due_second (num_some (by assumption) (by assumption)) (num_none (by assumption))).symm
    · exact (due_second (num_some (by assumption) (by assumption)) (num_reg (by assumption))).symm
    · exact due_yes (num_some (by assumption) (by assumption)) (num_some (by assumption) (by assumption)) (lo_pas (lo_fig h0)) (lo_pas (lo_fig (lo_pas (lo_fig h0)))) (by assumption) (by assumption)
    · exact due_not (num_some (by assumption) (by assumption)) (num_some (by assumption) (by assumption)) (lo_pas (lo_fig h0)) (lo_pas (lo_fig (lo_pas (lo_fig h0)))) (by assumption) (by assumption)
  refine cut0 All_passed ?_ (fun ct_passed => ?_)
  · intro prog w mean mg mb b tb a₀ ta ks hk hlen h0 hae
    intro dp un gd cn cs a ccd cl outer A₀ base h₀ L m s Q E B F X N T hk' hdp hu hret
    k_with_none
    k_with "enter" => (refine' enterF ?k1 ?k2 ?k3 ?k4 ?k5 ?kA ?kF ?kK ?k6 ?k7 ?k8 ?k9 ?kB ?_ ?c2 ?c3 ?c4 ?c5; (case kA => exact rfl); (case kF => exact rfl); (case kK => assumption); (case k1 => k_asm); (case k2 => k_asm); (case k3 => k_asm); (case k4 => k_asm); (case k5 => k_asm); (case k6 => k_is); (case k7 => k_is); (case k8 => (simp only [ktrTop, recursionLimit] at *; omega)); (case k9 => first | exact BindsTo.of_eq rfl | exact binds_K (by k_in) rfl (by k_is) rfl rfl rfl); (case c5 => decide); (case kB => exact locs rfl); (case c2 => exact rfl); (case c3 => exact rfl); (case c4 => exact rfl); k_whole; intro g' L' h' F' N' B' X' T'; (try dsimp only); (try k_fold))
    k_with "LeaveF" => (k_dflt (refine' leaveF_ ?k1 ?k2 ?_; (case k1 => k_asm); (case k2 => k_asm)); intro kK kY; (try dsimp only))
    k_with "compareOp In int ref" => (k_here; k_dflt (refine' in_tuple_ints ?k1 ?k2 ?_; (case k1 => exact tupK (by k_in) (by k_is)); (case k2 => (repeat constructor))))
    k_with "compareOp NotIn int ref" => (k_here; k_dflt (refine' notin_tuple_ints ?k1 ?k2 ?_; (case k1 => exact tupK (by k_in) (by k_is)); (case k2 => (repeat constructor))))
    k_with "compareOp NotIn int bytes" => (k_here; (refine notin_bytes (by omega) (by omega) ?_))
    k_with "call builtin:min" => (k_here; (with_reducible show wpAny _ _ (call (Value.builtin _) [Value.int _ _, Value.int _ _]) _ _ _); k_dflt (refine' min_le ?k0 ?k1 ?k2 ?k3 ?_; (case k0 => with_unfolding_all rfl); (case k1 => k_asm); (case k2 => k_asm); (case k3 => omega)); intro h' tk' F' N'; (try k_sweep))
    k_with "call ref" => (k_here; k_dflt (refine' Ct.useV (ct_isfig _ _ _ _ _ _ _ ) ?k1 ?k2 ?k3 ?k4 ?k5 ?kK ?kqs ?kd ?ku ?_; (case k1 => k_asm); (case k2 => k_asm); (case k3 => k_asm); (case k4 => k_asm); (case k5 => k_asm); (case kK => exact rfl); (case kqs => exact List.forall_mem_nil _); (case kd => ktr_unf); (case ku => ktr_unf)); intro h' tk' F' N'; (try k_sweep))
    k_with "call ref" => (k_here; k_dflt (refine' Ct.useV (ct_isreg _ _ _ _ _ _ _ ) ?k1 ?k2 ?k3 ?k4 ?k5 ?kK ?kqs ?kd ?ku ?_; (case k1 => k_asm); (case k2 => k_asm); (case k3 => k_asm); (case k4 => k_asm); (case k5 => k_asm); (case kK => exact rfl); (case kqs => exact List.forall_mem_nil _); (case kd => ktr_unf); (case ku => ktr_unf)); intro h' tk' F' N'; (try k_sweep))
    k_with "call ref" => (k_here; k_dflt (refine' Ct.useV (ct_lisreg _ _ _ _ _ _ _ ?p1 ?p2) ?k1 ?k2 ?k3 ?k4 ?k5 ?kK ?kqs ?kd ?ku ?_; (case k1 => k_asm); (case k2 => k_asm); (case k3 => k_asm); (case k4 => k_asm); (case k5 => k_asm); (case kK => exact rfl); (case kqs => exact List.forall_mem_nil _); (case kd => ktr_unf); (case ku => ktr_unf); (case p1 => omega); (case p2 => omega)); intro h' tk' F' N'; (try k_sweep))
    k_with "call ref" => (k_here; k_dflt (refine' Ct.useI (ct_peek _ _ _ _ _ ?p1 ?p2 ?p3 ?p4) ?k1 ?k2 ?k3 ?k4 ?k5 ?kK ?kqs ?kd ?ku ?_; (case k1 => k_asm); (case k2 => k_asm); (case k3 => k_asm); (case k4 => k_asm); (case k5 => k_asm); (case kK => exact rfl); (case kqs => tb_rel); (case kd => ktr_unf); (case ku => ktr_unf); (case p1 => assumption); (case p2 => omega); (case p3 => first | omega | (repeat' (first | assumption | apply lo_fig | apply lo_pas | apply figE_le | apply pas_le | apply le_num | omega))); (case p4 => omega)); intro t' h' tk' F' N'; (try k_sweep))
    k_with "call ref" => (k_here; k_dflt (refine' Ct.useT (ct_take _ _ _ _ _ ?p1 ?p2 ?p3 ?p4 ?p5 ?p6) ?k1 ?k2 ?k3 ?k4 ?k5 ?kK ?kqs ?kU ?kd ?ku ?_; (case k1 => k_asm); (case k2 => k_asm); (case k3 => k_asm); (case k4 => k_asm); (case k5 => k_asm); (case kK => exact rfl); (case kqs => tb_rel); (case kU => (intro o'; k_upd)); (case kd => ktr_unf); (case ku => ktr_unf); (case p1 => assumption); (case p2 => assumption); (case p3 => omega); (case p4 => omega); (case p5 => first | omega | exact fig_lt (by assumption)); (case p6 => omega)); intro t' t'' h' tk' F' N'; (try dsimp only at N'); (try k_sweep))
    k_with "call ref" => (k_here; k_dflt (refine' Ct.useN (ct_number _ _ _ _ _ ?p1 ?p2 ?p3 ?p4 ?p5 ?p6) ?k1 ?k2 ?k3 ?k4 ?k5 ?kK ?kqs ?kU ?kd ?ku ?_ ?_; (case k1 => k_asm); (case k2 => k_asm); (case k3 => k_asm); (case k4 => k_asm); (case k5 => k_asm); (case kK => exact rfl); (case kqs => tb_rel); (case kU => (intro o'; k_upd)); (case kd => ktr_unf); (case ku => ktr_unf); (case p1 => assumption); (case p2 => assumption); (case p3 => omega); (case p4 => first | omega | (repeat' (first | assumption | apply lo_fig | apply lo_pas | apply figE_le | apply pas_le | apply le_num | omega))); (case p5 => first | omega | (repeat' (first | assumption | apply lo_fig | apply lo_pas | apply figE_le | apply pas_le | apply le_num | omega))); (case p6 => omega)); all_goals (intros; (rename News _ _ _ _ => nC'); (try dsimp only at nC'); (try k_sweep)))
    k_with "call ref" => (k_here; k_dflt (refine' Ct.useS (ct_skip _ _ _ _ _ ?p1 ?p2 ?p3 ?p4 ?p5 ?p6) ?k1 ?k2 ?k3 ?k4 ?k5 ?kK ?kqs ?kU ?kd ?ku ?_; (case k1 => k_asm); (case k2 => k_asm); (case k3 => k_asm); (case k4 => k_asm); (case k5 => k_asm); (case kK => exact rfl); (case kqs => tb_rel); (case kU => (intro o'; k_upd)); (case kd => ktr_unf); (case ku => ktr_unf); (case p1 => assumption); (case p2 => assumption); (case p3 => omega); (case p4 => first | omega | (repeat' (first | assumption | apply lo_fig | apply lo_pas | apply figE_le | apply pas_le | apply le_num | omega))); (case p5 => first | omega | (repeat' (first | assumption | apply lo_fig | apply lo_pas | apply figE_le | apply pas_le | apply le_num | omega))); (case p6 => omega)); intro t' h' tk' F' N'; (try dsimp only at N'); (try k_sweep))
    k_with "call ref" => (k_here; k_dflt (refine' Ct.useR (ct_regular _ _ _ _ _ ?p1 ?p2 ?p3 ?p4 ?p5 ?p6) ?k1 ?k2 ?k3 ?k4 ?k5 ?kK ?kqs ?kU ?kd ?ku ?_; (case k1 => k_asm); (case k2 => k_asm); (case k3 => k_asm); (case k4 => k_asm); (case k5 => k_asm); (case kK => exact rfl); (case kqs => tb_rel); (case kU => (intro o'; k_upd)); (case kd => ktr_unf); (case ku => ktr_unf); (case p1 => assumption); (case p2 => assumption); (case p3 => omega); (case p4 => first | omega | (repeat' (first | assumption | apply lo_fig | apply lo_pas | apply figE_le | apply pas_le | apply le_num | omega))); (case p5 => first | omega | (repeat' (first | assumption | apply lo_fig | apply lo_pas | apply figE_le | apply pas_le | apply le_num | omega))); (case p6 => omega)); intro b' hB' t' t'' h' tk' F' N'; (try dsimp only at N'); (try k_sweep))
    k_with "call ref" => (k_here; k_dflt (refine' Ct.useI (ct_head _ _ _ _ _ ?p1 ?p2 ?p3 ?p4 ?p5) ?k1 ?k2 ?k3 ?k4 ?k5 ?kK ?kqs ?kd ?ku ?_; (case k1 => k_asm); (case k2 => k_asm); (case k3 => k_asm); (case k4 => k_asm); (case k5 => k_asm); (case kK => exact rfl); (case kqs => tb_rel); (case kd => ktr_unf); (case ku => ktr_unf); (case p1 => assumption); (case p2 => omega); (case p3 => first | omega | (repeat' (first | assumption | apply lo_fig | apply lo_pas | apply figE_le | apply pas_le | apply le_num | omega))); (case p4 => first | omega | (repeat' (first | assumption | apply lo_fig | apply lo_pas | apply figE_le | apply pas_le | apply le_num | omega))); (case p5 => omega)); intro t' h' tk' F' N'; (try k_sweep))
    k_with "exec While BoolOp cons nil" => k_while (fun _ i => pas ks ks.length false i = pas ks ks.length false a₀ ∧ a₀ ≤ i ∧ i ≤ (ks.length : Int)) (fun _ i => ((ks.length : Int) - i).toNat) "at"
    k_with "exec While BoolOp cons nil" => k_while_given ["at!"] (fun i _ j => pas ks ks.length true j = pas ks ks.length false a₀ ∧ i ≤ j ∧ j ≤ (ks.length : Int)) (fun i _ j => ((ks.length : Int) - j).toNat) "at"
    k_with "state" => exact sk1 (by assumption) (by assumption) (by assumption)
    k_with "state" => exact sk2 (by assumption) (by omega) (by omega) (by assumption)
    k_with "state" => exact sk3 (by assumption) (by omega) (by omega) (by assumption)
    k_with "state" => exact sk4 (by assumption) (by omega) (by omega) (by assumption)
    k_with "state" => exact sk5 (by assumption) (by omega) (by omega) (by assumption) (by assumption)
    k_with "measure" => exact sk6 (by assumption) (by assumption) (by assumption) (by assumption)
    refine wpAny_call ?_
    k_dflt (k_extra "enter")
    k_steps
    all_goals ((rename Stand _ _ => hY); (rename KeptBut _ _ _ => hK); refine hret _ _ _ _ ⟨rfl, _, congrArg (Value.int · _) ?_⟩ hK hY; (rename pas _ _ _ _ = pas _ _ _ _ => hF))
    · exact (pas_no (ks := ks) (e := ks.length) (by assumption) (by assumption)).symm.trans hF
    · exact (pas_out (ks := ks) (e := ks.length) (c := false) (by omega)).symm.trans hF
  refine cut0 All_lnumber ?_ (fun ct_lnumber => ?_)
  · intro prog w mean mg mb b tb a₀ ta ks hk hlen h0 hae
    intro dp un gd cn cs a ccd cl outer A₀ base h₀ L m s Q E B F X N T hk' hdp hu hret
    k_with_none
    k_with "enter" => (refine' enterF ?k1 ?k2 ?k3 ?k4 ?k5 ?kA ?kF ?kK ?k6 ?k7 ?k8 ?k9 ?kB ?_ ?c2 ?c3 ?c4 ?c5; (case kA => exact rfl); (case kF => exact rfl); (case kK => assumption); (case k1 => k_asm); (case k2 => k_asm); (case k3 => k_asm); (case k4 => k_asm); (case k5 => k_asm); (case k6 => k_is); (case k7 => k_is); (case k8 => (simp only [ktrTop, recursionLimit] at *; omega)); (case k9 => first | exact BindsTo.of_eq rfl | exact binds_K (by k_in) rfl (by k_is) rfl rfl rfl); (case c5 => decide); (case kB => exact locs rfl); (case c2 => exact rfl); (case c3 => exact rfl); (case c4 => exact rfl); k_whole; intro g' L' h' F' N' B' X' T'; (try dsimp only); (try k_fold))
    k_with "LeaveF" => (k_dflt (refine' leaveF_ ?k1 ?k2 ?_; (case k1 => k_asm); (case k2 => k_asm)); intro kK kY; (try dsimp only))
    k_with "compareOp In int ref" => (k_here; k_dflt (refine' in_tuple_ints ?k1 ?k2 ?_; (case k1 => exact tupK (by k_in) (by k_is)); (case k2 => (repeat constructor))))
    k_with "compareOp NotIn int ref" => (k_here; k_dflt (refine' notin_tuple_ints ?k1 ?k2 ?_; (case k1 => exact tupK (by k_in) (by k_is)); (case k2 => (repeat constructor))))
    k_with "compareOp NotIn int bytes" => (k_here; (refine notin_bytes (by omega) (by omega) ?_))
    k_with "call builtin:min" => (k_here; (with_reducible show wpAny _ _ (call (Value.builtin _) [Value.int _ _, Value.int _ _]) _ _ _); k_dflt (refine' min_le ?k0 ?k1 ?k2 ?k3 ?_; (case k0 => with_unfolding_all rfl); (case k1 => k_asm); (case k2 => k_asm); (case k3 => omega)); intro h' tk' F' N'; (try k_sweep))
    k_with "call ref" => (k_here; k_dflt (refine' Ct.useV (ct_isfig _ _ _ _ _ _ _ ) ?k1 ?k2 ?k3 ?k4 ?k5 ?kK ?kqs ?kd ?ku ?_; (case k1 => k_asm); (case k2 => k_asm); (case k3 => k_asm); (case k4 => k_asm); (case k5 => k_asm); (case kK => exact rfl); (case kqs => exact List.forall_mem_nil _); (case kd => ktr_unf); (case ku => ktr_unf)); intro h' tk' F' N'; (try k_sweep))
    k_with "call ref" => (k_here; k_dflt (refine' Ct.useV (ct_isreg _ _ _ _ _ _ _ ) ?k1 ?k2 ?k3 ?k4 ?k5 ?kK ?kqs ?kd ?ku ?_; (case k1 => k_asm); (case k2 => k_asm); (case k3 => k_asm); (case k4 => k_asm); (case k5 => k_asm); (case kK => exact rfl); (case kqs => exact List.forall_mem_nil _); (case kd => ktr_unf); (case ku => ktr_unf)); intro h' tk' F' N'; (try k_sweep))
    k_with "call ref" => (k_here; k_dflt (refine' Ct.useV (ct_lisreg _ _ _ _ _ _ _ ?p1 ?p2) ?k1 ?k2 ?k3 ?k4 ?k5 ?kK ?kqs ?kd ?ku ?_; (case k1 => k_asm); (case k2 => k_asm); (case k3 => k_asm); (case k4 => k_asm); (case k5 => k_asm); (case kK => exact rfl); (case kqs => exact List.forall_mem_nil _); (case kd => ktr_unf); (case ku => ktr_unf); (case p1 => omega); (case p2 => omega)); intro h' tk' F' N'; (try k_sweep))
    k_with "call ref" => (k_here; k_dflt (refine' Ct.useI (ct_peek _ _ _ _ _ ?p1 ?p2 ?p3 ?p4) ?k1 ?k2 ?k3 ?k4 ?k5 ?kK ?kqs ?kd ?ku ?_; (case k1 => k_asm); (case k2 => k_asm); (case k3 => k_asm); (case k4 => k_asm); (case k5 => k_asm); (case kK => exact rfl); (case kqs => tb_rel); (case kd => ktr_unf); (case ku => ktr_unf); (case p1 => assumption); (case p2 => omega); (case p3 => first | omega | (repeat' (first | assumption | apply lo_fig | apply lo_pas | apply figE_le | apply pas_le | apply le_num | omega))); (case p4 => omega)); intro t' h' tk' F' N'; (try k_sweep))
    k_with "call ref" => (k_here; k_dflt (refine' Ct.useT (ct_take _ _ _ _ _ ?p1 ?p2 ?p3 ?p4 ?p5 ?p6) ?k1 ?k2 ?k3 ?k4 ?k5 ?kK ?kqs ?kU ?kd ?ku ?_; (case k1 => k_asm); (case k2 => k_asm); (case k3 => k_asm); (case k4 => k_asm); (case k5 => k_asm); (case kK => exact rfl); (case kqs => tb_rel); (case kU => (intro o'; k_upd)); (case kd => ktr_unf); (case ku => ktr_unf); (case p1 => assumption); (case p2 => assumption); (case p3 => omega); (case p4 => omega); (case p5 => first | omega | exact fig_lt (by assumption)); (case p6 => omega)); intro t' t'' h' tk' F' N'; (try dsimp only at N'); (try k_sweep))
    k_with "call ref" => (k_here; k_dflt (refine' Ct.useN (ct_number _ _ _ _ _ ?p1 ?p2 ?p3 ?p4 ?p5 ?p6) ?k1 ?k2 ?k3 ?k4 ?k5 ?kK ?kqs ?kU ?kd ?ku ?_ ?_; (case k1 => k_asm); (case k2 => k_asm); (case k3 => k_asm); (case k4 => k_asm); (case k5 => k_asm); (case kK => exact rfl); (case kqs => tb_rel); (case kU => (intro o'; k_upd)); (case kd => ktr_unf); (case ku => ktr_unf); (case p1 => assumption); (case p2 => assumption); (case p3 => omega); (case p4 => first | omega | (repeat' (first | assumption | apply lo_fig | apply lo_pas | apply figE_le | apply pas_le | apply le_num | omega))); (case p5 => first | omega | (repeat' (first | assumption | apply lo_fig | apply lo_pas | apply figE_le | apply pas_le | apply le_num | omega))); (case p6 => omega)); all_goals (intros; (rename News _ _ _ _ => nC'); (try dsimp only at nC'); (try k_sweep)))
    k_with "call ref" => (k_here; k_dflt (refine' Ct.useS (ct_skip _ _ _ _ _ ?p1 ?p2 ?p3 ?p4 ?p5 ?p6) ?k1 ?k2 ?k3 ?k4 ?k5 ?kK ?kqs ?kU ?kd ?ku ?_; (case k1 => k_asm); (case k2 => k_asm); (case k3 => k_asm); (case k4 => k_asm); (case k5 => k_asm); (case kK => exact rfl); (case kqs => tb_rel); (case kU => (intro o'; k_upd)); (case kd => ktr_unf); (case ku => ktr_unf); (case p1 => assumption); (case p2 => assumption); (case p3 => omega); (case p4 => first | omega | (repeat' (first | assumption | apply lo_fig | apply lo_pas | apply figE_le | apply pas_le | apply le_num | omega))); (case p5 => first | omega | (repeat' (first | assumption | apply lo_fig | apply lo_pas | apply figE_le | apply pas_le | apply le_num | omega))); (case p6 => omega)); intro t' h' tk' F' N'; (try dsimp only at N'); (try k_sweep))
    k_with "call ref" => (k_here; k_dflt (refine' Ct.useR (ct_regular _ _ _ _ _ ?p1 ?p2 ?p3 ?p4 ?p5 ?p6) ?k1 ?k2 ?k3 ?k4 ?k5 ?kK ?kqs ?kU ?kd ?ku ?_; (case k1 => k_asm); (case k2 => k_asm); (case k3 => k_asm); (case k4 => k_asm); (case k5 => k_asm); (case kK => exact rfl); (case kqs => tb_rel); (case kU => (intro o'; k_upd)); (case kd => ktr_unf); (case ku => ktr_unf); (case p1 => assumption); (case p2 => assumption); (case p3 => omega); (case p4 => first | omega | (repeat' (first | assumption | apply lo_fig | apply lo_pas | apply figE_le | apply pas_le | apply le_num | omega))); (case p5 => first | omega | (repeat' (first | assumption | apply lo_fig | apply lo_pas | apply figE_le | apply pas_le | apply le_num | omega))); (case p6 => omega)); intro b' hB' t' t'' h' tk' F' N'; (try dsimp only at N'); (try k_sweep))
    k_with "call ref" => (k_here; k_dflt (refine' Ct.useI (ct_head _ _ _ _ _ ?p1 ?p2 ?p3 ?p4 ?p5) ?k1 ?k2 ?k3 ?k4 ?k5 ?kK ?kqs ?kd ?ku ?_; (case k1 => k_asm); (case k2 => k_asm); (case k3 => k_asm); (case k4 => k_asm); (case k5 => k_asm); (case kK => exact rfl); (case kqs => tb_rel); (case kd => ktr_unf); (case ku => ktr_unf); (case p1 => assumption); (case p2 => omega); (case p3 => first | omega | (repeat' (first | assumption | apply lo_fig | apply lo_pas | apply figE_le | apply pas_le | apply le_num | omega))); (case p4 => first | omega | (repeat' (first | assumption | apply lo_fig | apply lo_pas | apply figE_le | apply pas_le | apply le_num | omega))); (case p5 => omega)); intro t' h' tk' F' N'; (try k_sweep))
    k_with "call ref" => (k_here; k_dflt (refine' Ct.useI (ct_passed _ _ _ _ _ ?p1 ?p2 ?p3 ?p4) ?k1 ?k2 ?k3 ?k4 ?k5 ?kK ?kqs ?kd ?ku ?_; (case k1 => k_asm); (case k2 => k_asm); (case k3 => k_asm); (case k4 => k_asm); (case k5 => k_asm); (case kK => exact rfl); (case kqs => exact List.forall_mem_nil _); (case kd => ktr_unf); (case ku => ktr_unf); (case p1 => assumption); (case p2 => omega); (case p3 => first | omega | (repeat' (first | assumption | apply lo_fig | apply lo_pas | apply figE_le | apply pas_le | apply le_num | omega))); (case p4 => first | omega | (repeat' (first | assumption | apply lo_fig | apply lo_pas | apply figE_le | apply pas_le | apply le_num | omega)))); intro t' h' tk' F' N'; (try k_sweep))
    k_with "exec While BoolOp cons nil" => k_while (fun _ i => figE ks ks.length i = figE ks ks.length a₀ ∧ a₀ ≤ i ∧ i ≤ (ks.length : Int)) (fun _ i => ((ks.length : Int) - i).toNat) "end"
    k_with "state" => exact nm1 (by assumption) (by omega) (by omega) (by assumption) (by assumption)
    refine wpAny_call ?_
    k_dflt (k_extra "enter")
    k_steps
    all_goals ((rename Stand _ _ => hY); (rename KeptBut _ _ _ => hK); refine hret _ _ _ _ ⟨rfl, _, congrArg (Value.int · _) ?_⟩ hK hY; (rename figE _ _ _ = figE _ _ _ => hF))
    all_goals (first
      | have hi := (nm2 (ks := ks) (e := ks.length) (by assumption)).symm.trans hF
      | have hi := (nm3 (ks := ks) (e := ks.length) (by assumption)).symm.trans hF
      | have hi := (figE_out (ks := ks) (e := ks.length) (by omega)).symm.trans hF)
    all_goals subst hi
    all_goals first
      | exact (num_none (.inl (by assumption))).symm
      | exact (num_none (.inr (by assumption))).symm
      | exact (num_at (by assumption) (by assumption)).symm
      | exact (num_pas (by assumption) (by assumption) (fun _ => by assumption)).symm
      | exact (num_pas (by assumption) (by assumption) (fun h => absurd h (by assumption))).symm
  refine cut0 All_ldue ?_ (fun ct_ldue => ?_)
  · intro prog w mean mg mb b tb a₀ ta ks hk hlen h0 hae
    intro dp un gd cn cs a ccd cl outer A₀ base h₀ L m s Q E B F X N T hk' hdp hu hret
    k_with_none
    k_with "enter" => (refine' enterF ?k1 ?k2 ?k3 ?k4 ?k5 ?kA ?kF ?kK ?k6 ?k7 ?k8 ?k9 ?kB ?_ ?c2 ?c3 ?c4 ?c5; (case kA => exact rfl); (case kF => exact rfl); (case kK => assumption); (case k1 => k_asm); (case k2 => k_asm); (case k3 => k_asm); (case k4 => k_asm); (case k5 => k_asm); (case k6 => k_is); (case k7 => k_is); (case k8 => (simp only [ktrTop, recursionLimit] at *; omega)); (case k9 => first | exact BindsTo.of_eq rfl | exact binds_K (by k_in) rfl (by k_is) rfl rfl rfl); (case c5 => decide); (case kB => exact locs rfl); (case c2 => exact rfl); (case c3 => exact rfl); (case c4 => exact rfl); k_whole; intro g' L' h' F' N' B' X' T'; (try dsimp only); (try k_fold))
    k_with "LeaveF" => (k_dflt (refine' leaveF_ ?k1 ?k2 ?_; (case k1 => k_asm); (case k2 => k_asm)); intro kK kY; (try dsimp only))
    k_with "compareOp In int ref" => (k_here; k_dflt (refine' in_tuple_ints ?k1 ?k2 ?_; (case k1 => exact tupK (by k_in) (by k_is)); (case k2 => (repeat constructor))))
    k_with "compareOp NotIn int ref" => (k_here; k_dflt (refine' notin_tuple_ints ?k1 ?k2 ?_; (case k1 => exact tupK (by k_in) (by k_is)); (case k2 => (repeat constructor))))
    k_with "compareOp NotIn int bytes" => (k_here; (refine notin_bytes (by omega) (by omega) ?_))
    k_with "call builtin:min" => (k_here; (with_reducible show wpAny _ _ (call (Value.builtin _) [Value.int _ _, Value.int _ _]) _ _ _); k_dflt (refine' min_le ?k0 ?k1 ?k2 ?k3 ?_; (case k0 => with_unfolding_all rfl); (case k1 => k_asm); (case k2 => k_asm); (case k3 => omega)); intro h' tk' F' N'; (try k_sweep))
    k_with "call ref" => (k_here; k_dflt (refine' Ct.useV (ct_isfig _ _ _ _ _ _ _ ) ?k1 ?k2 ?k3 ?k4 ?k5 ?kK ?kqs ?kd ?ku ?_; (case k1 => k_asm); (case k2 => k_asm); (case k3 => k_asm); (case k4 => k_asm); (case k5 => k_asm); (case kK => exact rfl); (case kqs => exact List.forall_mem_nil _); (case kd => ktr_unf); (case ku => ktr_unf)); intro h' tk' F' N'; (try k_sweep))
    k_with "call ref" => (k_here; k_dflt (refine' Ct.useV (ct_isreg _ _ _ _ _ _ _ ) ?k1 ?k2 ?k3 ?k4 ?k5 ?kK ?kqs ?kd ?ku ?_; (case k1 => k_asm); (case k2 => k_asm); (case k3 => k_asm); (case k4 => k_asm); (case k5 => k_asm); (case kK => exact rfl); (case kqs => exact List.forall_mem_nil _); (case kd => ktr_unf); (case ku => ktr_unf)); intro h' tk' F' N'; (try k_sweep))
    k_with "call ref" => (k_here; k_dflt (refine' Ct.useV (ct_lisreg _ _ _ _ _ _ _ ?p1 ?p2) ?k1 ?k2 ?k3 ?k4 ?k5 ?kK ?kqs ?kd ?ku ?_; (case k1 => k_asm); (case k2 => k_asm); (case k3 => k_asm); (case k4 => k_asm); (case k5 => k_asm); (case kK => exact rfl); (case kqs => exact List.forall_mem_nil _); (case kd => ktr_unf); (case ku => ktr_unf); (case p1 => omega); (case p2 => omega)); intro h' tk' F' N'; (try k_sweep))
    k_with "call ref" => (k_here; k_dflt (refine' Ct.useI (ct_peek _ _ _ _ _ ?p1 ?p2 ?p3 ?p4) ?k1 ?k2 ?k3 ?k4 ?k5 ?kK ?kqs ?kd ?ku ?_; (case k1 => k_asm); (case k2 => k_asm); (case k3 => k_asm); (case k4 => k_asm); (case k5 => k_asm); (case kK => exact rfl); (case kqs => tb_rel); (case kd => ktr_unf); (case ku => ktr_unf); (case p1 => assumption); (case p2 => omega); (case p3 => first | omega | (repeat' (first | assumption | apply lo_fig | apply lo_pas | apply figE_le | apply pas_le | apply le_num | omega))); (case p4 => omega)); intro t' h' tk' F' N'; (try k_sweep))
    k_with "call ref" => (k_here; k_dflt (refine' Ct.useT (ct_take _ _ _ _ _ ?p1 ?p2 ?p3 ?p4 ?p5 ?p6) ?k1 ?k2 ?k3 ?k4 ?k5 ?kK ?kqs ?kU ?kd ?ku ?_; (case k1 => k_asm); (case k2 => k_asm); (case k3 => k_asm); (case k4 => k_asm); (case k5 => k_asm); (case kK => exact rfl); (case kqs => tb_rel); (case kU => (intro o'; k_upd)); (case kd => ktr_unf); (case ku => ktr_unf); (case p1 => assumption); (case p2 => assumption); (case p3 => omega); (case p4 => omega); (case p5 => first | omega | exact fig_lt (by assumption)); (case p6 => omega)); intro t' t'' h' tk' F' N'; (try dsimp only at N'); (try k_sweep))
    k_with "call ref" => (k_here; k_dflt (refine' Ct.useN (ct_number _ _ _ _ _ ?p1 ?p2 ?p3 ?p4 ?p5 ?p6) ?k1 ?k2 ?k3 ?k4 ?k5 ?kK ?kqs ?kU ?kd ?ku ?_ ?_; (case k1 => k_asm); (case k2 => k_asm); (case k3 => k_asm); (case k4 => k_asm); (case k5 => k_asm); (case kK => exact rfl); (case kqs => tb_rel); (case kU => (intro o'; k_upd)); (case kd => ktr_unf); (case ku => ktr_unf); (case p1 => assumption); (case p2 => assumption); (case p3 => omega); (case p4 => first | omega | (repeat' (first | assumption | apply lo_fig | apply lo_pas | apply figE_le | apply pas_le | apply le_num | omega))); (case p5 => first | omega | (repeat' (first | assumption | apply lo_fig | apply lo_pas | apply figE_le | apply pas_le | apply le_num | omega))); (case p6 => omega)); all_goals (intros; (rename News _ _ _ _ => nC'); (try dsimp only at nC'); (try k_sweep)))
    k_with "call ref" => (k_here; k_dflt (refine' Ct.useS (ct_skip _ _ _ _ _ ?p1 ?p2 ?p3 ?p4 ?p5 ?p6) ?k1 ?k2 ?k3 ?k4 ?k5 ?kK ?kqs ?kU ?kd ?ku ?_; (case k1 => k_asm); (case k2 => k_asm); (case k3 => k_asm); (case k4 => k_asm); (case k5 => k_asm); (case kK => exact rfl); (case kqs => tb_rel); (case kU => (intro o'; k_upd)); (case kd => ktr_unf); (case ku => ktr_unf); (case p1 => assumption); (case p2 => assumption); (case p3 => omega); (case p4 => first | omega | (repeat' (first | assumption | apply lo_fig | apply lo_pas | apply figE_le | apply pas_le | apply le_num | omega))); (case p5 => first | omega | (repeat' (first | assumption | apply lo_fig | apply lo_pas | apply figE_le | apply pas_le | apply le_num | omega))); (case p6 => omega)); intro t' h' tk' F' N'; (try dsimp only at N'); (try k_sweep))
    k_with "call ref" => (k_here; k_dflt (refine' Ct.useR (ct_regular _ _ _ _ _ ?p1 ?p2 ?p3 ?p4 ?p5 ?p6) ?k1 ?k2 ?k3 ?k4 ?k5 ?kK ?kqs ?kU ?kd ?ku ?_; (case k1 => k_asm); (case k2 => k_asm); (case k3 => k_asm); (case k4 => k_asm); (case k5 => k_asm); (case kK => exact rfl); (case kqs => tb_rel); (case kU => (intro o'; k_upd)); (case kd => ktr_unf); (case ku => ktr_unf); (case p1 => assumption); (case p2 => assumption); (case p3 => omega); (case p4 => first | omega | (repeat' (first | assumption | apply lo_fig | apply lo_pas | apply figE_le | apply pas_le | apply le_num | omega))); (case p5 => first | omega | (repeat' (first | assumption | apply lo_fig | apply lo_pas | apply figE_le | apply pas_le | apply le_num | omega))); (case p6 => omega)); intro b' hB' t' t'' h' tk' F' N'; (try dsimp only at N'); (try k_sweep))
    k_with "call ref" => (k_here; k_dflt (refine' Ct.useI (ct_head _ _ _ _ _ ?p1 ?p2 ?p3 ?p4 ?p5) ?k1 ?k2 ?k3 ?k4 ?k5 ?kK ?kqs ?kd ?ku ?_; (case k1 => k_asm); (case k2 => k_asm); (case k3 => k_asm); (case k4 => k_asm); (case k5 => k_asm); (case kK => exact rfl); (case kqs => tb_rel); (case kd => ktr_unf); (case ku => ktr_unf); (case p1 => assumption); (case p2 => omega); (case p3 => first | omega | (repeat' (first | assumption | apply lo_fig | apply lo_pas | apply figE_le | apply pas_le | apply le_num | omega))); (case p4 => first | omega | (repeat' (first | assumption | apply lo_fig | apply lo_pas | apply figE_le | apply pas_le | apply le_num | omega))); (case p5 => omega)); intro t' h' tk' F' N'; (try k_sweep))
    k_with "call ref" => (k_here; k_dflt (refine' Ct.useI (ct_passed _ _ _ _ _ ?p1 ?p2 ?p3 ?p4) ?k1 ?k2 ?k3 ?k4 ?k5 ?kK ?kqs ?kd ?ku ?_; (case k1 => k_asm); (case k2 => k_asm); (case k3 => k_asm); (case k4 => k_asm); (case k5 => k_asm); (case kK => exact rfl); (case kqs => exact List.forall_mem_nil _); (case kd => ktr_unf); (case ku => ktr_unf); (case p1 => assumption); (case p2 => omega); (case p3 => first | omega | (repeat' (first | assumption | apply lo_fig | apply lo_pas | apply figE_le | apply pas_le | apply le_num | omega))); (case p4 => first | omega | (repeat' (first | assumption | apply lo_fig | apply lo_pas | apply figE_le | apply pas_le | apply le_num | omega)))); intro t' h' tk' F' N'; (try k_sweep))
    k_with "call ref" => (k_here; k_dflt (refine' Ct.useI (ct_lnumber _ _ _ _ _ ?p1 ?p2 ?p3 ?p4) ?k1 ?k2 ?k3 ?k4 ?k5 ?kK ?kqs ?kd ?ku ?_; (case k1 => k_asm); (case k2 => k_asm); (case k3 => k_asm); (case k4 => k_asm); (case k5 => k_asm); (case kK => exact rfl); (case kqs => exact List.forall_mem_nil _); (case kd => ktr_unf); (case ku => ktr_unf); (case p1 => assumption); (case p2 => omega); (case p3 => first | omega | (repeat' (first | assumption | apply lo_fig | apply lo_pas | apply figE_le | apply pas_le | apply le_num | omega))); (case p4 => first | omega | (repeat' (first | assumption | apply lo_fig | apply lo_pas | apply figE_le | apply pas_le | apply le_num | omega)))); intro t' h' tk' F' N'; (try k_sweep))
    k_with "exec While BoolOp cons nil" => k_while_given ["end!"] (fun T _ i => regE ks ks.length i = regE ks ks.length T ∧ T ≤ i ∧ i ≤ (ks.length : Int)) (fun _ _ i => ((ks.length : Int) - i).toNat) "end"
    k_with "state" => exact ⟨rfl, Int.le_refl _, le_num (le_num hae (by omega)) (by omega)⟩
    k_with "state" => exact rg1 (by assumption) (by omega) (by assumption) (by assumption)
    refine wpAny_call ?_
    k_dflt (k_extra "enter")
    k_steps
    all_goals ((rename Stand _ _ => hY); (rename KeptBut _ _ _ => hK); refine hret _ _ _ _ ⟨rfl, _, congrArg (Value.int · _) ?_⟩ hK hY)
    · exact (due_neg2 (by omega) (by assumption)).symm
    rotate_right
    · exact (due_neg (by omega)).symm
    all_goals ((rename regE _ _ _ = regE _ _ _ => hF); (rename KBw.bInts (KBy.picked _ _ _) = _ => hS); (first
      | have hi := (regE_no (ks := ks) (e := ks.length) (by assumption)).symm.trans hF
      | have hi := (regE_out (ks := ks) (e := ks.length) (by omega)).symm.trans hF))
    all_goals (subst hi; rw [clip_in (i := num ks ks.length (num ks ks.length a₀)) (by omega) (by omega), clip_in (i := regE ks ks.length (num ks ks.length (num ks ks.length a₀))) (by omega) (by omega)] at hS)
    all_goals first
      | exact due_yes rfl rfl (by omega) (by omega) hS (by assumption)
      | exact due_not rfl rfl (by omega) (by omega) hS (by assumption)
  refine cut0 All_draw ?_ (fun ct_draw => ?_)
  · intro prog w mean mg mb pa c k r M tk tr tM ys ns hcp hI hn h0 h1 hM
    intro dp un gd cn cs a ccd cl outer A₀ base h₀ L m s Q E B F X N T hk' hdp hu hret
    k_with_none
    k_with "enter" => (refine' enterF ?k1 ?k2 ?k3 ?k4 ?k5 ?kA ?kF ?kK ?k6 ?k7 ?k8 ?k9 ?kB ?_ ?c2 ?c3 ?c4 ?c5; (case kA => exact rfl); (case kF => exact rfl); (case kK => assumption); (case k1 => k_asm); (case k2 => k_asm); (case k3 => k_asm); (case k4 => k_asm); (case k5 => k_asm); (case k6 => k_is); (case k7 => k_is); (case k8 => (simp only [ktrTop, recursionLimit] at *; omega)); (case k9 => first | exact BindsTo.of_eq rfl | exact binds_K (by k_in) rfl (by k_is) rfl rfl rfl); (case c5 => decide); (case kB => exact locs rfl); (case c2 => exact rfl); (case c3 => exact rfl); (case c4 => exact rfl); k_whole; intro g' L' h' F' N' B' X' T'; (try dsimp only); (try k_fold))
    k_with "LeaveF" => (k_dflt (refine' leaveF_ ?k1 ?k2 ?_; (case k1 => k_asm); (case k2 => k_asm)); intro kK kY; (try dsimp only))
    k_with "compareOp In int ref" => (k_here; k_dflt (refine' in_tuple_ints ?k1 ?k2 ?_; (case k1 => exact tupK (by k_in) (by k_is)); (case k2 => (repeat constructor))))
    k_with "compareOp NotIn int ref" => (k_here; k_dflt (refine' notin_tuple_ints ?k1 ?k2 ?_; (case k1 => exact tupK (by k_in) (by k_is)); (case k2 => (repeat constructor))))
    k_with "compareOp NotIn int bytes" => (k_here; (refine notin_bytes (by omega) (by omega) ?_))
    k_with "call builtin:min" => (k_here; (with_reducible show wpAny _ _ (call (Value.builtin _) [Value.int _ _, Value.int _ _]) _ _ _); k_dflt (refine' min_le ?k0 ?k1 ?k2 ?k3 ?_; (case k0 => with_unfolding_all rfl); (case k1 => k_asm); (case k2 => k_asm); (case k3 => omega)); intro h' tk' F' N'; (try k_sweep))
    k_with "call ref" => (k_here; k_dflt (refine' Ct.useV (ct_isfig _ _ _ _ _ _ _ ) ?k1 ?k2 ?k3 ?k4 ?k5 ?kK ?kqs ?kd ?ku ?_; (case k1 => k_asm); (case k2 => k_asm); (case k3 => k_asm); (case k4 => k_asm); (case k5 => k_asm); (case kK => exact rfl); (case kqs => exact List.forall_mem_nil _); (case kd => ktr_unf); (case ku => ktr_unf)); intro h' tk' F' N'; (try k_sweep))
    k_with "call ref" => (k_here; k_dflt (refine' Ct.useV (ct_isreg _ _ _ _ _ _ _ ) ?k1 ?k2 ?k3 ?k4 ?k5 ?kK ?kqs ?kd ?ku ?_; (case k1 => k_asm); (case k2 => k_asm); (case k3 => k_asm); (case k4 => k_asm); (case k5 => k_asm); (case kK => exact rfl); (case kqs => exact List.forall_mem_nil _); (case kd => ktr_unf); (case ku => ktr_unf)); intro h' tk' F' N'; (try k_sweep))
    k_with "call ref" => (k_here; k_dflt (refine' Ct.useV (ct_lisreg _ _ _ _ _ _ _ ?p1 ?p2) ?k1 ?k2 ?k3 ?k4 ?k5 ?kK ?kqs ?kd ?ku ?_; (case k1 => k_asm); (case k2 => k_asm); (case k3 => k_asm); (case k4 => k_asm); (case k5 => k_asm); (case kK => exact rfl); (case kqs => exact List.forall_mem_nil _); (case kd => ktr_unf); (case ku => ktr_unf); (case p1 => omega); (case p2 => omega)); intro h' tk' F' N'; (try k_sweep))
    k_with "call ref" => (k_here; k_dflt (refine' Ct.useI (ct_peek _ _ _ _ _ ?p1 ?p2 ?p3 ?p4) ?k1 ?k2 ?k3 ?k4 ?k5 ?kK ?kqs ?kd ?ku ?_; (case k1 => k_asm); (case k2 => k_asm); (case k3 => k_asm); (case k4 => k_asm); (case k5 => k_asm); (case kK => exact rfl); (case kqs => tb_rel); (case kd => ktr_unf); (case ku => ktr_unf); (case p1 => assumption); (case p2 => omega); (case p3 => first | omega | (repeat' (first | assumption | apply lo_fig | apply lo_pas | apply figE_le | apply pas_le | apply le_num | omega))); (case p4 => omega)); intro t' h' tk' F' N'; (try k_sweep))
    k_with "call ref" => (k_here; k_dflt (refine' Ct.useT (ct_take _ _ _ _ _ ?p1 ?p2 ?p3 ?p4 ?p5 ?p6) ?k1 ?k2 ?k3 ?k4 ?k5 ?kK ?kqs ?kU ?kd ?ku ?_; (case k1 => k_asm); (case k2 => k_asm); (case k3 => k_asm); (case k4 => k_asm); (case k5 => k_asm); (case kK => exact rfl); (case kqs => tb_rel); (case kU => (intro o'; k_upd)); (case kd => ktr_unf); (case ku => ktr_unf); (case p1 => assumption); (case p2 => assumption); (case p3 => omega); (case p4 => omega); (case p5 => first | omega | exact fig_lt (by assumption)); (case p6 => omega)); intro t' t'' h' tk' F' N'; (try dsimp only at N'); (try k_sweep))
    k_with "call ref" => (k_here; k_dflt (refine' Ct.useN (ct_number _ _ _ _ _ ?p1 ?p2 ?p3 ?p4 ?p5 ?p6) ?k1 ?k2 ?k3 ?k4 ?k5 ?kK ?kqs ?kU ?kd ?ku ?_ ?_; (case k1 => k_asm); (case k2 => k_asm); (case k3 => k_asm); (case k4 => k_asm); (case k5 => k_asm); (case kK => exact rfl); (case kqs => tb_rel); (case kU => (intro o'; k_upd)); (case kd => ktr_unf); (case ku => ktr_unf); (case p1 => assumption); (case p2 => assumption); (case p3 => omega); (case p4 => first | omega | (repeat' (first | assumption | apply lo_fig | apply lo_pas | apply figE_le | apply pas_le | apply le_num | omega))); (case p5 => first | omega | (repeat' (first | assumption | apply lo_fig | apply lo_pas | apply figE_le | apply pas_le | apply le_num | omega))); (case p6 => omega)); all_goals (intros; (rename News _ _ _ _ => nC'); (try dsimp only at nC'); (try k_sweep)))
    k_with "call ref" => (k_here; k_dflt (refine' Ct.useS (ct_skip _ _ _ _ _ ?p1 ?p2 ?p3 ?p4 ?p5 ?p6) ?k1 ?k2 ?k3 ?k4 ?k5 ?kK ?kqs ?kU ?kd ?ku ?_; (case k1 => k_asm); (case k2 => k_asm); (case k3 => k_asm); (case k4 => k_asm); (case k5 => k_asm); (case kK => exact rfl); (case kqs => tb_rel); (case kU => (intro o'; k_upd)); (case kd => ktr_unf); (case ku => ktr_unf); (case p1 => assumption); (case p2 => assumption); (case p3 => omega); (case p4 => first | omega | (repeat' (first | assumption | apply lo_fig | apply lo_pas | apply figE_le | apply pas_le | apply le_num | omega))); (case p5 => first | omega | (repeat' (first | assumption | apply lo_fig | apply lo_pas | apply figE_le | apply pas_le | apply le_num | omega))); (case p6 => omega)); intro t' h' tk' F' N'; (try dsimp only at N'); (try k_sweep))
    k_with "call ref" => (k_here; k_dflt (refine' Ct.useR (ct_regular _ _ _ _ _ ?p1 ?p2 ?p3 ?p4 ?p5 ?p6) ?k1 ?k2 ?k3 ?k4 ?k5 ?kK ?kqs ?kU ?kd ?ku ?_; (case k1 => k_asm); (case k2 => k_asm); (case k3 => k_asm); (case k4 => k_asm); (case k5 => k_asm); (case kK => exact rfl); (case kqs => tb_rel); (case kU => (intro o'; k_upd)); (case kd => ktr_unf); (case ku => ktr_unf); (case p1 => assumption); (case p2 => assumption); (case p3 => omega); (case p4 => first | omega | (repeat' (first | assumption | apply lo_fig | apply lo_pas | apply figE_le | apply pas_le | apply le_num | omega))); (case p5 => first | omega | (repeat' (first | assumption | apply lo_fig | apply lo_pas | apply figE_le | apply pas_le | apply le_num | omega))); (case p6 => omega)); intro b' hB' t' t'' h' tk' F' N'; (try dsimp only at N'); (try k_sweep))
    k_with "call ref" => (k_here; k_dflt (refine' Ct.useI (ct_head _ _ _ _ _ ?p1 ?p2 ?p3 ?p4 ?p5) ?k1 ?k2 ?k3 ?k4 ?k5 ?kK ?kqs ?kd ?ku ?_; (case k1 => k_asm); (case k2 => k_asm); (case k3 => k_asm); (case k4 => k_asm); (case k5 => k_asm); (case kK => exact rfl); (case kqs => tb_rel); (case kd => ktr_unf); (case ku => ktr_unf); (case p1 => assumption); (case p2 => omega); (case p3 => first | omega | (repeat' (first | assumption | apply lo_fig | apply lo_pas | apply figE_le | apply pas_le | apply le_num | omega))); (case p4 => first | omega | (repeat' (first | assumption | apply lo_fig | apply lo_pas | apply figE_le | apply pas_le | apply le_num | omega))); (case p5 => omega)); intro t' h' tk' F' N'; (try k_sweep))
    k_with "call ref" => (k_here; k_dflt (refine' Ct.useI (ct_passed _ _ _ _ _ ?p1 ?p2 ?p3 ?p4) ?k1 ?k2 ?k3 ?k4 ?k5 ?kK ?kqs ?kd ?ku ?_; (case k1 => k_asm); (case k2 => k_asm); (case k3 => k_asm); (case k4 => k_asm); (case k5 => k_asm); (case kK => exact rfl); (case kqs => exact List.forall_mem_nil _); (case kd => ktr_unf); (case ku => ktr_unf); (case p1 => assumption); (case p2 => omega); (case p3 => first | omega | (repeat' (first | assumption | apply lo_fig | apply lo_pas | apply figE_le | apply pas_le | apply le_num | omega))); (case p4 => first | omega | (repeat' (first | assumption | apply lo_fig | apply lo_pas | apply figE_le | apply pas_le | apply le_num | omega)))); intro t' h' tk' F' N'; (try k_sweep))
    k_with "call ref" => (k_here; k_dflt (refine' Ct.useI (ct_lnumber _ _ _ _ _ ?p1 ?p2 ?p3 ?p4) ?k1 ?k2 ?k3 ?k4 ?k5 ?kK ?kqs ?kd ?ku ?_; (case k1 => k_asm); (case k2 => k_asm); (case k3 => k_asm); (case k4 => k_asm); (case k5 => k_asm); (case kK => exact rfl); (case kqs => exact List.forall_mem_nil _); (case kd => ktr_unf); (case ku => ktr_unf); (case p1 => assumption); (case p2 => omega); (case p3 => first | omega | (repeat' (first | assumption | apply lo_fig | apply lo_pas | apply figE_le | apply pas_le | apply le_num | omega))); (case p4 => first | omega | (repeat' (first | assumption | apply lo_fig | apply lo_pas | apply figE_le | apply pas_le | apply le_num | omega)))); intro t' h' tk' F' N'; (try k_sweep))
    k_with "call ref" => (k_here; k_dflt (refine' Ct.useI (ct_ldue _ _ _ _ _ ?p1 ?p2 ?p3 ?p4) ?k1 ?k2 ?k3 ?k4 ?k5 ?kK ?kqs ?kd ?ku ?_; (case k1 => k_asm); (case k2 => k_asm); (case k3 => k_asm); (case k4 => k_asm); (case k5 => k_asm); (case kK => exact rfl); (case kqs => exact List.forall_mem_nil _); (case kd => ktr_unf); (case ku => ktr_unf); (case p1 => assumption); (case p2 => first | omega | exact take_le (by omega)); (case p3 => omega); (case p4 => first | omega | (rw [take_len (by omega) (by omega)]; omega))); intro t' h' tk' F' N'; (try k_sweep))
    refine wpAny_call ?_
    k_dflt (k_extra "enter")
    k_steps
    all_goals ((rename Stand _ _ => hY); (rename KeptBut _ _ _ => hK); refine hret _ _ _ _ ?_ hK hY)
    all_goals exact ⟨_, .head _, keep2', _, _, _, ⟨fmod_lo _ hM, fmod_hi _ hM⟩, rfl, rfl⟩
  k_with_none
  k_with "enter" => (refine' enterF ?k1 ?k2 ?k3 ?k4 ?k5 ?kA ?kF ?kK ?k6 ?k7 ?k8 ?k9 ?kB ?_ ?c2 ?c3 ?c4 ?c5; (case kA => exact rfl); (case kF => exact rfl); (case kK => assumption); (case k1 => k_asm); (case k2 => k_asm); (case k3 => k_asm); (case k4 => k_asm); (case k5 => k_asm); (case k6 => k_is); (case k7 => k_is); (case k8 => (simp only [ktrTop, recursionLimit] at *; omega)); (case k9 => first | exact BindsTo.of_eq rfl | exact binds_K (by k_in) rfl (by k_is) rfl rfl rfl); (case c5 => decide); (case kB => exact locs rfl); (case c2 => exact rfl); (case c3 => exact rfl); (case c4 => exact rfl); k_whole; intro g' L' h' F' N' B' X' T'; (try dsimp only); (try k_fold))
  k_with "LeaveF" => (k_dflt (refine' leaveF_ ?k1 ?k2 ?_; (case k1 => k_asm); (case k2 => k_asm)); intro kK kY; (try dsimp only))
  k_with "compareOp In int ref" => (k_here; k_dflt (refine' in_tuple_ints ?k1 ?k2 ?_; (case k1 => exact tupK (by k_in) (by k_is)); (case k2 => (repeat constructor))))
  k_with "compareOp NotIn int ref" => (k_here; k_dflt (refine' notin_tuple_ints ?k1 ?k2 ?_; (case k1 => exact tupK (by k_in) (by k_is)); (case k2 => (repeat constructor))))
  k_with "compareOp NotIn int bytes" => (k_here; (refine notin_bytes (by omega) (by omega) ?_))
  k_with "call builtin:min" => (k_here; (with_reducible show wpAny _ _ (call (Value.builtin _) [Value.int _ _, Value.int _ _]) _ _ _); k_dflt (refine' min_le ?k0 ?k1 ?k2 ?k3 ?_; (case k0 => with_unfolding_all rfl); (case k1 => k_asm); (case k2 => k_asm); (case k3 => omega)); intro h' tk' F' N'; (try k_sweep))
  k_with "call ref" => (k_here; k_dflt (refine' Ct.useV (ct_isfig _ _ _ _ _ _ _ ) ?k1 ?k2 ?k3 ?k4 ?k5 ?kK ?kqs ?kd ?ku ?_; (case k1 => k_asm); (case k2 => k_asm); (case k3 => k_asm); (case k4 => k_asm); (case k5 => k_asm); (case kK => exact rfl); (case kqs => exact List.forall_mem_nil _); (case kd => ktr_unf); (case ku => ktr_unf)); intro h' tk' F' N'; (try k_sweep))
  k_with "call ref" => (k_here; k_dflt (refine' Ct.useV (ct_isreg _ _ _ _ _ _ _ ) ?k1 ?k2 ?k3 ?k4 ?k5 ?kK ?kqs ?kd ?ku ?_; (case k1 => k_asm); (case k2 => k_asm); (case k3 => k_asm); (case k4 => k_asm); (case k5 => k_asm); (case kK => exact rfl); (case kqs => exact List.forall_mem_nil _); (case kd => ktr_unf); (case ku => ktr_unf)); intro h' tk' F' N'; (try k_sweep))
  k_with "call ref" => (k_here; k_dflt (refine' Ct.useV (ct_lisreg _ _ _ _ _ _ _ ?p1 ?p2) ?k1 ?k2 ?k3 ?k4 ?k5 ?kK ?kqs ?kd ?ku ?_; (case k1 => k_asm); (case k2 => k_asm); (case k3 => k_asm); (case k4 => k_asm); (case k5 => k_asm); (case kK => exact rfl); (case kqs => exact List.forall_mem_nil _); (case kd => ktr_unf); (case ku => ktr_unf); (case p1 => omega); (case p2 => omega)); intro h' tk' F' N'; (try k_sweep))
  k_with "call ref" => (k_here; k_dflt (refine' Ct.useI (ct_peek _ _ _ _ _ ?p1 ?p2 ?p3 ?p4) ?k1 ?k2 ?k3 ?k4 ?k5 ?kK ?kqs ?kd ?ku ?_; (case k1 => k_asm); (case k2 => k_asm); (case k3 => k_asm); (case k4 => k_asm); (case k5 => k_asm); (case kK => exact rfl); (case kqs => tb_rel); (case kd => ktr_unf); (case ku => ktr_unf); (case p1 => assumption); (case p2 => omega); (case p3 => first | omega | (repeat' (first | assumption | apply lo_fig | apply lo_pas | apply figE_le | apply pas_le | apply le_num | omega))); (case p4 => omega)); intro t' h' tk' F' N'; (try k_sweep))
  k_with "call ref" => (k_here; k_dflt (refine' Ct.useT (ct_take _ _ _ _ _ ?p1 ?p2 ?p3 ?p4 ?p5 ?p6) ?k1 ?k2 ?k3 ?k4 ?k5 ?kK ?kqs ?kU ?kd ?ku ?_; (case k1 => k_asm); (case k2 => k_asm); (case k3 => k_asm); (case k4 => k_asm); (case k5 => k_asm); (case kK => exact rfl); (case kqs => tb_rel); (case kU => (intro o'; k_upd)); (case kd => ktr_unf); (case ku => ktr_unf); (case p1 => assumption); (case p2 => assumption); (case p3 => omega); (case p4 => omega); (case p5 => first | omega | exact fig_lt (by assumption)); (case p6 => omega)); intro t' t'' h' tk' F' N'; (try dsimp only at N'); (try k_sweep))
  k_with "call ref" => (k_here; k_dflt (refine' Ct.useN (ct_number _ _ _ _ _ ?p1 ?p2 ?p3 ?p4 ?p5 ?p6) ?k1 ?k2 ?k3 ?k4 ?k5 ?kK ?kqs ?kU ?kd ?ku ?_ ?_; (case k1 => k_asm); (case k2 => k_asm); (case k3 => k_asm); (case k4 => k_asm); (case k5 => k_asm); (case kK => exact rfl); (case kqs => tb_rel); (case kU => (intro o'; k_upd)); (case kd => ktr_unf); (case ku => ktr_unf); (case p1 => assumption); (case p2 => assumption); (case p3 => omega); (case p4 => first | omega | (repeat' (first | assumption | apply lo_fig | apply lo_pas | apply figE_le | apply pas_le | apply le_num | omega))); (case p5 => first | omega | (repeat' (first | assumption | apply lo_fig | apply lo_pas | apply figE_le | apply pas_le | apply le_num | omega))); (case p6 => omega)); all_goals (intros; (rename News _ _ _ _ => nC'); (try dsimp only at nC'); (try k_sweep)))
  k_with "call ref" => (k_here; k_dflt (refine' Ct.useS (ct_skip _ _ _ _ _ ?p1 ?p2 ?p3 ?p4 ?p5 ?p6) ?k1 ?k2 ?k3 ?k4 ?k5 ?kK ?kqs ?kU ?kd ?ku ?_; (case k1 => k_asm); (case k2 => k_asm); (case k3 => k_asm); (case k4 => k_asm); (case k5 => k_asm); (case kK => exact rfl); (case kqs => tb_rel); (case kU => (intro o'; k_upd)); (case kd => ktr_unf); (case ku => ktr_unf); (case p1 => assumption); (case p2 => assumption); (case p3 => omega); (case p4 => first | omega | (repeat' (first | assumption | apply lo_fig | apply lo_pas | apply figE_le | apply pas_le | apply le_num | omega))); (case p5 => first | omega | (repeat' (first | assumption | apply lo_fig | apply lo_pas | apply figE_le | apply pas_le | apply le_num | omega))); (case p6 => omega)); intro t' h' tk' F' N'; (try dsimp only at N'); (try k_sweep))
  k_with "call ref" => (k_here; k_dflt (refine' Ct.useR (ct_regular _ _ _ _ _ ?p1 ?p2 ?p3 ?p4 ?p5 ?p6) ?k1 ?k2 ?k3 ?k4 ?k5 ?kK ?kqs ?kU ?kd ?ku ?_; (case k1 => k_asm); (case k2 => k_asm); (case k3 => k_asm); (case k4 => k_asm); (case k5 => k_asm); (case kK => exact rfl); (case kqs => tb_rel); (case kU => (intro o'; k_upd)); (case kd => ktr_unf); (case ku => ktr_unf); (case p1 => assumption); (case p2 => assumption); (case p3 => omega); (case p4 => first | omega | (repeat' (first | assumption | apply lo_fig | apply lo_pas | apply figE_le | apply pas_le | apply le_num | omega))); (case p5 => first | omega | (repeat' (first | assumption | apply lo_fig | apply lo_pas | apply figE_le | apply pas_le | apply le_num | omega))); (case p6 => omega)); intro b' hB' t' t'' h' tk' F' N'; (try dsimp only at N'); (try k_sweep))
  k_with "call ref" => (k_here; k_dflt (refine' Ct.useI (ct_head _ _ _ _ _ ?p1 ?p2 ?p3 ?p4 ?p5) ?k1 ?k2 ?k3 ?k4 ?k5 ?kK ?kqs ?kd ?ku ?_; (case k1 => k_asm); (case k2 => k_asm); (case k3 => k_asm); (case k4 => k_asm); (case k5 => k_asm); (case kK => exact rfl); (case kqs => tb_rel); (case kd => ktr_unf); (case ku => ktr_unf); (case p1 => assumption); (case p2 => omega); (case p3 => first | omega | (repeat' (first | assumption | apply lo_fig | apply lo_pas | apply figE_le | apply pas_le | apply le_num | omega))); (case p4 => first | omega | (repeat' (first | assumption | apply lo_fig | apply lo_pas | apply figE_le | apply pas_le | apply le_num | omega))); (case p5 => omega)); intro t' h' tk' F' N'; (try k_sweep))
  k_with "call ref" => (k_here; k_dflt (refine' Ct.useI (ct_passed _ _ _ _ _ ?p1 ?p2 ?p3 ?p4) ?k1 ?k2 ?k3 ?k4 ?k5 ?kK ?kqs ?kd ?ku ?_; (case k1 => k_asm); (case k2 => k_asm); (case k3 => k_asm); (case k4 => k_asm); (case k5 => k_asm); (case kK => exact rfl); (case kqs => exact List.forall_mem_nil _); (case kd => ktr_unf); (case ku => ktr_unf); (case p1 => assumption); (case p2 => omega); (case p3 => first | omega | (repeat' (first | assumption | apply lo_fig | apply lo_pas | apply figE_le | apply pas_le | apply le_num | omega))); (case p4 => first | omega | (repeat' (first | assumption | apply lo_fig | apply lo_pas | apply figE_le | apply pas_le | apply le_num | omega)))); intro t' h' tk' F' N'; (try k_sweep))
  k_with "call ref" => (k_here; k_dflt (refine' Ct.useI (ct_lnumber _ _ _ _ _ ?p1 ?p2 ?p3 ?p4) ?k1 ?k2 ?k3 ?k4 ?k5 ?kK ?kqs ?kd ?ku ?_; (case k1 => k_asm); (case k2 => k_asm); (case k3 => k_asm); (case k4 => k_asm); (case k5 => k_asm); (case kK => exact rfl); (case kqs => exact List.forall_mem_nil _); (case kd => ktr_unf); (case ku => ktr_unf); (case p1 => assumption); (case p2 => omega); (case p3 => first | omega | (repeat' (first | assumption | apply lo_fig | apply lo_pas | apply figE_le | apply pas_le | apply le_num | omega))); (case p4 => first | omega | (repeat' (first | assumption | apply lo_fig | apply lo_pas | apply figE_le | apply pas_le | apply le_num | omega)))); intro t' h' tk' F' N'; (try k_sweep))
  k_with "call ref" => (k_here; k_dflt (refine' Ct.useI (ct_ldue _ _ _ _ _ ?p1 ?p2 ?p3 ?p4) ?k1 ?k2 ?k3 ?k4 ?k5 ?kK ?kqs ?kd ?ku ?_; (case k1 => k_asm); (case k2 => k_asm); (case k3 => k_asm); (case k4 => k_asm); (case k5 => k_asm); (case kK => exact rfl); (case kqs => exact List.forall_mem_nil _); (case kd => ktr_unf); (case ku => ktr_unf); (case p1 => assumption); (case p2 => first | omega | exact take_le (by omega)); (case p3 => omega); (case p4 => first | omega | (rw [take_len (by omega) (by omega)]; omega))); intro t' h' tk' F' N'; (try k_sweep))
  k_with "call ref" => (k_here; k_dflt (refine' Ct.useD (ct_draw _ _ _ _ _ ?p1 ?p2 ?p3 ?p4 ?p5 ?p6) ?k1 ?k2 ?k3 ?k4 ?k5 ?kK ?kqs ?kU ?kd ?ku ?_; (case k1 => k_asm); (case k2 => k_asm); (case k3 => k_asm); (case k4 => k_asm); (case k5 => k_asm); (case kK => exact rfl); (case kqs => tb_rel); (case kU => (intro o'; k_upd)); (case kd => ktr_unf); (case ku => ktr_unf); (case p1 => omega); (case p2 => assumption); (case p3 => first | exact len60 | omega); (case p4 => omega); (case p5 => omega); (case p6 => first | decide | omega)); intro i' hi' t' t'' h' tk' F' N'; (try dsimp only at N'); (try dsimp only at hi'); (try k_sweep))
  k_with "subscriptTail" => (k_here; (with_reducible show wpAny _ _ (subscriptTail _ _ (Value.ref _) (Value.int _ _)) _ _ _); k_dflt (refine' item_bytes (B := 22) ?k1 ?k2 ?k3 ?k4 ?k5 ?_; (case k1 => exact News.isList (by k_asm) (by k_mem)); (case k5 => (ktd_rel; done)); (case k4 => exact Nat.le_of_ble_eq_true rfl); (case k2 => omega); (case k3 => (simp only [List.length_cons, List.length_nil]; omega))); intro b' t' ks' hk' hB')
  k_with "getMethod bytes" => (k_here; k_dflt (refine join_method ?_))
  k_with "CompSrc" => (k_here; k_dflt (refine' LCg.CompSrc.range ?k1 ?k2 ?k3 ?k4 ?k5 ?k6 ?k7 ?_; (case k1 => rfl); (case k2 => k_asm); (case k3 => k_asm); (case k4 => assumption); (case k5 => exact small_one (by omega) (by omega) (by omega) (by omega)); (case k6 => exact rangeSize_nat _ _); (case k7 => (rw [PySem.sizeLine_eq]; omega))); intro g'; k_dflt (refine' draw_rest 22 ?k1 ?k2 ?k3 ?k4 (fun k' t' ys' v' I' oI' C' oC' D' m' h' tk' E' hlo' hhi' hC' hx' F' N' off' ne' => ?_) (fun k' t' ys' hlo' hhi' hL' hA' => ?_); (case k1 => k_mem); (case k2 => (intro o'; k_upd)); (case k3 => omega); (case k4 => omega)); (all_goals (try dsimp only at N' off')); (all_goals (try (simp only [LCg.Off3, and_true] at off'))); (all_goals (try k_fold)))
  k_with "DrawEl" => exact ⟨⟨_, _, _, rfl, by assumption, by assumption⟩, _, rfl⟩
  k_with "call builtin:bytes.join" => (k_here; k_dflt (refine' join_any (B := 22) ?k1 ?k2 ?k3 ?_; (case k1 => exact News.isList (by k_asm) (by k_mem)); (case k2 => assumption); (case k3 => omega)); intro c' t' k' ks' hk' hB'; (rename News _ _ _ _ => nD); (replace nD := drop5 nD))
  k_with "binaryOp Add bytes bytes" => (k_here; k_dflt (refine' add_any ?k1 ?k2 ?k3 ?k4 ?_; (case k1 => assumption); (case k2 => assumption); (case k3 => omega); (case k4 => omega)); intro c' t' k' ks' hk' hB')
  k_with "compareOp NotEq int int" => (k_here; k_dflt (refine' ne_same ?k1 ?_; (case k1 => first | rfl | exact due_cut (by omega) (by omega) (by omega))))
  k_with "pyIter ref" => ((with_reducible show wpAny _ _ (pyIter (Value.ref _)) (fun it s₂ => LoopAtV _ _ _ _ _ _ _ _ _ it s₂) _ _); (rename Fr _ _ _ _ => lF'); (rename News _ _ _ _ => lN'); (rename IsRange _ _ _ _ _ _ _ _ => rgX); (with_unfolding_all refine' idle_range [Str.ofString "cursor"] ?k1 ?k2 ?k3 ?k4 lF' lN' (fun k' t' u' h' tk' own' pre' hlo' hhi' hoff' F' N' => ?_) (fun u' h' tk' F' N' => ?_); (case k1 => rfl); (case k2 => exact rgX); (case k3 => exact small_one (by omega) (by omega) (by omega) (by omega)); (case k4 => exact rangeSize_nat _ _)); (all_goals (try clear lF' lN')); (all_goals (try k_fold)))
  w_strict (k_go0; (all_goals try k_fold); k_steps; (all_goals (try k_data)))
