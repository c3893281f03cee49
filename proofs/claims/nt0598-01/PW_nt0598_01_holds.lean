import PyProof.Rows.All
import Wide.All
import OpenK.AllK
import Wide.FinOn
import PySem.Challenge.RW_nt0598_01
open PySem PySem.W PyProof.Rows
set_option Elab.async true
namespace Mine
/-- a word that says nothing: the constants that the next proof lays are what is wanted of it -/
def Put : Prop := True
theorem put_of (_ : PySem.Challenge.rw_nt0598_01.Holds) : Put = True := rfl
theorem hd.tw1651893491104343300 : True := trivial
theorem hd.tw7625024334918886175 : True := trivial
set_option maxRecDepth 100000 in
set_option maxHeartbeats 8000000 in
theorem hd : Put := by
  have h : Put ∧ True := by
    simp (disch := (w_on; o_law; k_head; (case hw => w_witness2))) only [put_of, and_true]
    exact trivial
  exact trivial
end Mine
open PySem PySem.W PyProof.Rows PySem.Calls PySem.Spec
set_option Elab.async false
set_option maxRecDepth 100000
set_option genInjectivity false
set_option genSizeOf false
namespace Mine
local macro_rules | `(tactic| walk_at $s:str) => `(tactic| k_extra $s)
local macro_rules | `(tactic| k_room) => `(tactic| k_extra "room")
local macro_rules | `(tactic| is_list) => `(tactic| k_extra "is_list")
local macro_rules | `(tactic| k_ne) => `(tactic| k_extra "kne")
local macro_rules | `(tactic| k_steps) => `(tactic| repeat' k_extra "st")
local macro_rules | `(tactic| omega) => `(tactic| first | k_extra "om" | omega +splitNatSub)
local macro_rules | `(tactic| k_lt $h:ident) => `(tactic| (replace $h := allLt_of $h; dsimp only [AllLt] at $h:ident))
local macro_rules | `(tactic| tb_start) => `(tactic| k_extra "tb")
theorem fill : PySem.Challenge.rw_nt0598_01 = PySem.Challenge.rw_nt0598_01 ∧ hd.heap_1_39 = hd.heap_1_39 := by w_top off; k_fill; exact ⟨rfl, rfl⟩
noncomputable abbrev Led := List (Addr × Obj)
/-- all that stood, less what may change, stands -/
noncomputable def Stands (h h' : Heap) (off : List Addr) : Prop := ∀ b o, h.get? b = some o → b ∉ off → h'.get? b = some o
/-- what is laid is one that may change, or new -/
noncomputable def Fresh (h : Heap) (off : List Addr) (led : Led) : Prop := ∀ p ∈ led, p.1 ∈ off ∨ h.get? p.1 = none
theorem Stands.refl (h : Heap) (off : List Addr) : Stands h h off := fun _ _ e _ => e
noncomputable def LeaveH (h₀ : Heap) (L : Addr) (m : Str → Option Value) (g : Heap) (h : Heap) (off : List Addr) (R : Result → Shared → Prop) (v : Value) (s' : Shared) : Prop :=
  ∃ L' m' led', Fr g L' s'.heap m' ∧ News g L' s'.heap led' ∧ (Fr h₀ L s'.heap m → News h₀ L s'.heap led' → Stands h s'.heap off → Fresh h off led' → R (.ok (.ret v)) s')
theorem leaveH_ {h₀ g h : Heap} {L L' : Addr} {m m' : Str → Option Value} {led' : Led} {off : List Addr} {R : Result → Shared → Prop} {v : Value} {s' : Shared} (F' : Fr g L' s'.heap m') (N' : News g L' s'.heap led')
    (k : Fr h₀ L s'.heap m → News h₀ L s'.heap led' → Stands h s'.heap off → Fresh h off led' → R (.ok (.ret v)) s') : LeaveH h₀ L m g h off R v s' := ⟨L', m', led', F', N', k⟩
theorem leaveH_own {h₀ g h : Heap} {L L' : Addr} {m m' : Str → Option Value} (led' own : Led) {off : List Addr} {R : Result → Shared → Prop} {v : Value} {s' : Shared} (F' : Fr g L' s'.heap m') (N' : News g L' s'.heap (led' ++ own))
    (k : Fr h₀ L s'.heap m → News h₀ L s'.heap led' → Stands h s'.heap off → Fresh h off led' → R (.ok (.ret v)) s') : LeaveH h₀ L m g h off R v s' := ⟨L', m', led', F', fun p hp => N' p (List.mem_append.mpr (.inl hp)), k⟩
theorem News.sub {h₀ h : Heap} {L : Addr} {a b : Led} (N : News h₀ L h a) (hs : ∀ p ∈ b, p ∈ a) : News h₀ L h b := fun p hp => N p (hs p hp)
theorem Fresh.sub {h : Heap} {off : List Addr} {a b : Led} (N : Fresh h off a) (hs : ∀ p ∈ b, p ∈ a) : Fresh h off b := fun p hp => N p (hs p hp)
section
variable {prog : Program} {w : World} {A A₀ : Around} {s : Shared} {K : Frag} {L : Addr} {h₀ base : Heap} {m mg mb : Str → Option Value} {news : Led} {p : Program} {loose : List Str} {mean : ExcName → Option Value}
theorem enterH {env : Env} {outer : List Env} {R : Result → Shared → Prop} {name qual : Str} {params : Arguments} {body : List Stmt} {scope : Scope} {dV kV doc pm cdv ct oc : Value} {an od : Option Addr} {osl : Array (Option Value)} {f : Addr} {args : Args} {binds : List (Str × Value)}
    (B : Below A₀ base outer h₀) (F : Fr h₀ L s.heap m) (X₀ : K.In h₀) (N : News h₀ L s.heap news) (T : Top p loose mean mg mb h₀) (hA : A.frames = some (env :: outer)) (hf : env.frame = some L) (hke : env.scope.kind = .function)
    (ho : K.lookup f = some ⟨oc, od, .func (fnOf name qual params body scope dV kV doc pm an cdv ct), osl⟩) (hcd : codeIn K cdv qual = true) (hroom : A.depth < recursionLimit)
    (hbind : BindsTo s (fnOf name qual params body scope dV kV doc pm an cdv ct) args binds) (hloc : ∀ y ∈ binds, scope.names.lookup y.1 = some .local)
    (h : ∀ g L' h₁, Fr g L' h₁ (fun y => binds.reverse.lookup y) → News g L' h₁ news → Below A base (env :: outer) g → K.In g → Top p loose mean mg mb g → (∀ p ∈ news, p.1 < L') →
      wpAny (model prog w) (A.deeper (envOf qual scope L' f cdv)) (execs body (envOf qual scope L' f cdv))
        (fun fl s' => LeaveH h₀ L m g s.heap (news.map (·.1)) R (match fl with | .ret v => v | _ => .none) s')
        (fun e s' => wpAny (model prog w) (A.deeper (envOf qual scope L' f cdv)) (leaving (envOf qual scope L' f cdv) e) (fun _ s'' => R (.error e) s'') (fun e' s'' => R (.error e') s'') s')
        { s with heap := h₁, toks := s.toks + binds.length })
    (hco : scope.isCoroutine = false) (hgen : scope.isGenerator = false) (hk : scope.kind = .function)
    (hcell : ∀ x ∈ scope.names, x.2 ≠ .cell) : codeAny (model prog w) A (.call (.ref f) args) R s := by
  obtain ⟨FG, BG, st, lv⟩ := groundX (R := R) B F N hA hf hke
  refine codeAny_call_def (fd := fnX name qual params body scope [] dV kV doc pm an cdv ct) (body := body) (binds := binds) hroom ((X₀.keeps F.keep) _ _ ho) rfl (T.nolimit.keeps F.keep) (codeRec_of (X₀.keeps F.keep) hcd) rfl hbind hcell hloc (fun h₁ hns hk₁ => ?_) hco hgen hk
  refine wpAny_mono (h _ s.heap.objs.size h₁ ⟨hns, fun b o e => hk₁ b o (of_hideAll _ e), Nat.le_of_eq (hideAll_size _ _)⟩
    (fun p hp => ⟨hk₁ _ _ (N p hp).1, Nat.ne_of_lt (Heap.lt_size (N p hp).1), hideAll_none _ (List.mem_map_of_mem hp)⟩) BG (X₀.keeps st) (T.keeps st) (fun p hp => Heap.lt_size (N p hp).1)) (fun fl s' hl => ?_) fun _ _ y => y
  obtain ⟨L', m', led', F', N', k⟩ := hl
  refine lv _ _ ⟨L', m', led', F', N', fun F₂ N₂ => k F₂ N₂ (fun b o e hb => F'.keep b o (hideAll_get _ e hb)) fun q hq => ?_⟩
  by_cases hm : q.1 ∈ news.map (·.1)
  · exact .inl hm
  · right
    cases e : s.heap.get? q.1 with
    | none => rfl
    | some o => have := (N' q hq).2.2; rw [hideAll_get _ e hm] at this; cases this
end
/-- a mark: the walk stops here -/
noncomputable def Stop (P : Prop) : Prop := P
theorem Stop.mk {P : Prop} (h : Stop P) : P := h
/-- what a call of a def does: the ledger led in, all else stands -/
noncomputable def Spec (w : World) (k : Nat) (f : Addr) (args : List Value) (led : Led) (Post : Value → Led → Prop) : Prop :=
  ∀ (mg mb : Str → Option Value) (mean : ExcName → Option Value) (dp un : Nat) (gd : Option (List Code)) (cn : Str) (cs : Scope) (a : Addr) (ccd : Value) (cl : List (Str × Addr)) (outer : List Env) (A₀ : Around) (base h₀ : Heap) (L : Addr) (m : Str → Option Value) (s : Shared)
    (Q E : Value → Shared → Prop),
    Below A₀ base outer h₀ → Fr h₀ L s.heap m → (hd.heap_1_39 w.params).In h₀ → News h₀ L s.heap led → Top hd.view_1_40 (looseW hd.view_1_40 []) mean mg mb h₀ → cs.kind = .function →
    dp + k < recursionLimit → un + 10 * k < cLine →
    (∀ r led' h' tk', Fr h₀ L h' m → News h₀ L h' led' → Stands s.heap h' (led.map (·.1)) → Fresh s.heap (led.map (·.1)) led' → Post r led' → Q r { s with heap := h', toks := tk' }) →
    wpAny (model PySem.Challenge.rw_nt0598_01.row.prog w) (ktrTop dp un gd cn cs L a ccd cl outer) (call (.ref f) args) Q E s
theorem Spec.mono {w : World} {k : Nat} {f : Addr} {args : List Value} {led : Led} {Post Post' : Value → Led → Prop} (S : Spec w k f args led Post) (h : ∀ r l, Post r l → Post' r l) : Spec w k f args led Post' := by
  intro mg mb mean dp un gd cn cs a ccd cl outer A₀ base h₀ L m s Q E B F X N T hk h1 h2 hret
  exact S mg mb mean dp un gd cn cs a ccd cl outer A₀ base h₀ L m s Q E B F X N T hk h1 h2 fun r led' h' tk' F' N' st fr p => hret r led' h' tk' F' N' st fr (h _ _ p)
/-- the use of a call's claim where the ledger holds more: the rest stands -/
theorem Spec.use {w : World} {k : Nat} {f : Addr} {args : List Value} {led : Led} {Post : Value → Led → Prop} (S : Spec w k f args led Post)
    {mg mb : Str → Option Value} {mean : ExcName → Option Value} {dp un : Nat} {gd : Option (List Code)} {cn : Str} {cs : Scope} {a : Addr} {ccd : Value} {cl : List (Str × Addr)} {outer : List Env} {A₀ : Around} {base h₀ : Heap} {L : Addr} {m : Str → Option Value} {s : Shared}
    {Q E : Value → Shared → Prop} {all : Led} (rest : Led)
    (B : Below A₀ base outer h₀) (F : Fr h₀ L s.heap m) (X : (hd.heap_1_39 w.params).In h₀) (N : News h₀ L s.heap all) (T : Top hd.view_1_40 (looseW hd.view_1_40 []) mean mg mb h₀) (hk : cs.kind = .function)
    (h1 : dp + k < recursionLimit) (h2 : un + 10 * k < cLine) (hl : ∀ p ∈ led, p ∈ all) (hr : ∀ p ∈ rest, p ∈ all) (hoff : ∀ p ∈ rest, ∀ q ∈ led, p.1 ≠ q.1)
    (kk : ∀ r led' h' tk', Fr h₀ L h' m → News h₀ L h' (led' ++ rest) → Stands s.heap h' (led.map (·.1)) → Fresh s.heap (led.map (·.1)) led' → Post r led' → Q r { s with heap := h', toks := tk' }) :
    wpAny (model PySem.Challenge.rw_nt0598_01.row.prog w) (ktrTop dp un gd cn cs L a ccd cl outer) (call (.ref f) args) Q E s := by
  refine S mg mb mean dp un gd cn cs a ccd cl outer A₀ base h₀ L m s Q E B F X (fun p hp => N p (hl p hp)) T hk h1 h2 fun r led' h' tk' F' N' st fr p => kk r led' h' tk' F' (fun q hq => ?_) st fr p
  rcases List.mem_append.mp hq with hq | hq
  · exact N' q hq
  · refine ⟨st _ _ (N q (hr q hq)).1 fun hm => ?_, (N q (hr q hq)).2⟩
    obtain ⟨y, hy, e⟩ := List.mem_map.mp hm
    exact hoff q hq y hy e.symm
theorem Spec.use0 {w : World} {k : Nat} {f : Addr} {args : List Value} {Post : Value → Led → Prop} (S : Spec w k f args [] Post)
    {mg mb : Str → Option Value} {mean : ExcName → Option Value} {dp un : Nat} {gd : Option (List Code)} {cn : Str} {cs : Scope} {a : Addr} {ccd : Value} {cl : List (Str × Addr)} {outer : List Env} {A₀ : Around} {base h₀ : Heap} {L : Addr} {m : Str → Option Value} {s : Shared}
    {Q E : Value → Shared → Prop} {all : Led}
    (B : Below A₀ base outer h₀) (F : Fr h₀ L s.heap m) (X : (hd.heap_1_39 w.params).In h₀) (N : News h₀ L s.heap all) (T : Top hd.view_1_40 (looseW hd.view_1_40 []) mean mg mb h₀) (hk : cs.kind = .function)
    (h1 : dp + k < recursionLimit) (h2 : un + 10 * k < cLine)
    (kk : ∀ r led' h' tk', Fr h₀ L h' m → News h₀ L h' (led' ++ all) → (∀ p ∈ led', ∀ q ∈ all, p.1 ≠ q.1) → Post r led' → Q r { s with heap := h', toks := tk' }) :
    wpAny (model PySem.Challenge.rw_nt0598_01.row.prog w) (ktrTop dp un gd cn cs L a ccd cl outer) (call (.ref f) args) Q E s := by
  refine S.use all B F X N T hk h1 h2 (fun _ h => nomatch h) (fun _ h => h) (fun _ _ _ h => nomatch h) fun r led' h' tk' F' N' st fr p => kk r led' h' tk' F' N' (fun q hq y hy e => ?_) p
  rcases fr q hq with z | z
  · cases z
  · rw [e, (N y hy).1] at z; cases z
theorem Spec.useAll {w : World} {k : Nat} {f : Addr} {args : List Value} {led : Led} {Post : Value → Led → Prop} (S : Spec w k f args led Post)
    {mg mb : Str → Option Value} {mean : ExcName → Option Value} {dp un : Nat} {gd : Option (List Code)} {cn : Str} {cs : Scope} {a : Addr} {ccd : Value} {cl : List (Str × Addr)} {outer : List Env} {A₀ : Around} {base h₀ : Heap} {L : Addr} {m : Str → Option Value} {s : Shared}
    {Q E : Value → Shared → Prop}
    (B : Below A₀ base outer h₀) (F : Fr h₀ L s.heap m) (X : (hd.heap_1_39 w.params).In h₀) (N : News h₀ L s.heap led) (T : Top hd.view_1_40 (looseW hd.view_1_40 []) mean mg mb h₀) (hk : cs.kind = .function)
    (h1 : dp + k < recursionLimit) (h2 : un + 10 * k < cLine)
    (kk : ∀ r led' h' tk', Fr h₀ L h' m → News h₀ L h' led' → Stands s.heap h' (led.map (·.1)) → Fresh s.heap (led.map (·.1)) led' → Post r led' → Q r { s with heap := h', toks := tk' }) :
    wpAny (model PySem.Challenge.rw_nt0598_01.row.prog w) (ktrTop dp un gd cn cs L a ccd cl outer) (call (.ref f) args) Q E s := 
  S _ _ _ _ _ _ _ _ _ _ _ _ _ _ _ _ _ _ _ _ B F X N T hk h1 h2 kk
/-- the use of a call's claim within a longer ledger -/
theorem Spec.useN {w : World} {k : Nat} {f : Addr} {args : List Value} {led : Led} {Post : Value → Led → Prop} (S : Spec w k f args led Post)
    {mg mb : Str → Option Value} {mean : ExcName → Option Value} {dp un : Nat} {gd : Option (List Code)} {cn : Str} {cs : Scope} {a : Addr} {ccd : Value} {cl : List (Str × Addr)} {outer : List Env} {A₀ : Around} {base h₀ : Heap} {L : Addr} {m : Str → Option Value} {s : Shared}
    {Q E : Value → Shared → Prop} (pre post : Led)
    (B : Below A₀ base outer h₀) (F : Fr h₀ L s.heap m) (X : (hd.heap_1_39 w.params).In h₀) (N : News h₀ L s.heap (pre ++ (led ++ post))) (T : Top hd.view_1_40 (looseW hd.view_1_40 []) mean mg mb h₀) (hk : cs.kind = .function)
    (h1 : dp + k < recursionLimit) (h2 : un + 10 * k < cLine) (hoff : OwnOff (pre ++ post) (led.map (·.1)))
    (kk : ∀ r led' h' tk', Fr h₀ L h' m → News h₀ L h' (led' ++ (pre ++ post)) → Stands s.heap h' (led.map (·.1)) → Fresh s.heap (led.map (·.1)) led' → Post r led' → Q r { s with heap := h', toks := tk' }) :
    wpAny (model PySem.Challenge.rw_nt0598_01.row.prog w) (ktrTop dp un gd cn cs L a ccd cl outer) (call (.ref f) args) Q E s :=
  S.use (pre ++ post) B F X N T hk h1 h2 (fun p hp => List.mem_append_right _ (List.mem_append_left _ hp)) (fun p hp => (List.mem_append.mp hp).elim (fun h => List.mem_append_left _ h) fun h => List.mem_append_right _ (List.mem_append_right _ h))
    (fun p hp q hq => hoff p hp _ (List.mem_map.mpr ⟨q, hq, rfl⟩)) kk
/-- a frame's map: the told names, else what one will -/
noncomputable def kB (u : Str → Option Value) (ps : List (Str × Value)) (y : Str) : Option Value := match ps.lookup y with
  | some v => some v
  | none => u y
theorem kB_of {m : Str → Option Value} {ps : List (Str × Value)} (h : ∀ p ∈ ps, m p.1 = some p.2) : kB m ps = m := by
  funext y
  unfold kB
  cases e : ps.lookup y with
  | none => rfl
  | some v =>
    have : ∀ (l : List (Str × Value)), l.lookup y = some v → (y, v) ∈ l := by
      intro l
      induction l with
      | nil => intro h; cases h
      | cons p r ih =>
        intro h
        rw [List.lookup_cons] at h
        by_cases hy : (y == p.1) = true
        · rw [hy] at h
          have h1 : p.2 = v := Option.some.inj h
          have h2 : y = p.1 := eq_of_beq hy
          rw [← h1, h2]; exact .head _
        · have : (y == p.1) = false := by simpa using hy
          rw [this] at h
          exact .tail _ (ih h)
    exact (h _ (this ps e)).symm
section
variable {prog : Program} {w : World} {A : Around} {E : Value → Shared → Prop} {s : Shared} {env : Env} {h₀ : Heap} {x : Str} {body : List Stmt} {Q : Flow → Shared → Prop}
/-- the end of a turn -/
noncomputable def TurnL {σ : Type} (h₀ : Heap) (L : Addr) (LedOf : σ → Led) (ps : σ → List (Str × Value)) (Inv : σ → Prop) (own : Led) (s₁ : Shared) (Q : Flow → Shared → Prop) (f : Flow) (s₂ : Shared) : Prop :=
  match f with
  | .ret v => Q (.ret v) s₂
  | .brk => Q .next s₂
  | _ => ∃ c h' tk m', s₂ = { s₁ with heap := h', toks := tk } ∧ Fr h₀ L h' m' ∧ News h₀ L h' (LedOf c ++ own) ∧ OwnOff own ((LedOf c).map (·.1)) ∧ (∀ p ∈ ps c, m' p.1 = some p.2) ∧ Inv c
theorem TurnL.ret {σ : Type} {L : Addr} {LedOf : σ → Led} {ps : σ → List (Str × Value)} {Inv : σ → Prop} {own : Led} {s₁ s₂ : Shared} {v : Value} (h : Q (.ret v) s₂) : TurnL h₀ L LedOf ps Inv own s₁ Q (.ret v) s₂ := h
theorem TurnL.next {σ : Type} {L : Addr} {LedOf : σ → Led} {ps : σ → List (Str × Value)} {Inv : σ → Prop} {own : Led} {s₁ : Shared} {h' : Heap} {tk : Nat} {m' : Str → Option Value} (c : σ) (F : Fr h₀ L h' m') (N : News h₀ L h' (LedOf c ++ own)) (ho : OwnOff own ((LedOf c).map (·.1))) (hp : ∀ p ∈ ps c, m' p.1 = some p.2) (hi : Inv c) :
    TurnL h₀ L LedOf ps Inv own s₁ Q .next { s₁ with heap := h', toks := tk } := ⟨c, h', tk, m', rfl, F, N, ho, hp, hi⟩
theorem iterL {σ : Type} (LedOf : σ → Led) (ps : σ → List (Str × Value)) (Inv : Nat → σ → Prop) (c₀ : σ) {n : Nat} {P : Nat → Value → Prop} {St : Nat → Heap → Prop} {o : Obj} {m₀ : Str → Option Value}
    (W : Walks prog w A s.heap.objs.size [s.heap.objs.size] [s.heap.objs.size] n P St) (hst : St 0 (s.heap.push o)) (hlive : ∀ i h, St i h → ∃ oI, h.get? s.heap.objs.size = some oI)
    (F : Fr h₀ env.locals s.heap m₀) (N : News h₀ env.locals s.heap (LedOf c₀)) (hp : ∀ p ∈ ps c₀, m₀ p.1 = some p.2) (hi : Inv 0 c₀)
    (turn : ∀ i c v own u h tk, i < n → P i v → Inv i c → OwnOff own ((LedOf c).map (·.1)) → (∀ q ∈ own, ∀ p ∈ LedOf c₀, p.1 < q.1) → Fr h₀ env.locals h (fun y => if y = x then some v else kB u (ps c) y) → News h₀ env.locals h (LedOf c ++ own) →
      wpAny (model prog w) A (execs body env) (TurnL h₀ env.locals LedOf ps (Inv (i + 1)) own { s with heap := h, toks := tk } Q) E { s with heap := h, toks := tk })
    (done : ∀ c u h tk, Inv n c → Fr h₀ env.locals h (kB u (ps c)) → News h₀ env.locals h (LedOf c) → Q .next { s with heap := h, toks := tk }) :
    LoopAtV prog w A h₀ env x body Q E (.ref s.heap.objs.size) { s with heap := s.heap.push o } := by
  refine ⟨s.heap.objs.size, _, _, n, P, St, m₀, LedOf c₀, fun i m led => ∃ c, led = LedOf c ∧ (∀ p ∈ ps c, m p.1 = some p.2) ∧ Inv i c, rfl, W, ?_, ?_, ?_, hst, F.push _, fun p hp => ⟨Heap.get?_push_of_some _ (N p hp).1, (N p hp).2⟩, ⟨c₀, rfl, hp, hi⟩, ?_, ?_⟩
  · intro hm
    exact absurd F.ns.lt ((List.mem_singleton.mp hm) ▸ Nat.lt_irrefl _)
  · intro b hb
    rw [List.mem_singleton.mp hb]
    exact next_is_new F
  · intro p hp hI
    exact absurd (Heap.lt_size (N p hp).1) ((List.mem_singleton.mp hI) ▸ Nat.lt_irrefl _)
  · rintro i v m₁ led₁ s₁ own ⟨h, tk, rfl⟩ hin hP ⟨c, rfl, hpc, hInv⟩ hoff hown hget hall hst' F₁ N₁
    have hI : ∀ q ∈ own, q.1 = s.heap.objs.size := fun q hq => List.mem_singleton.mp (hown q hq)
    have ho : OwnOff own ((LedOf c).map (·.1)) := by
      intro q hq b hb e
      obtain ⟨p, hp, rfl⟩ := List.mem_map.mp hb
      exact hoff p hp (by rw [← e, hI q hq]; exact .head _)
    have N₂ : News h₀ env.locals h (LedOf c ++ own) := fun p hp => N₁ p ((List.mem_append.mp hp).elim (fun h => List.mem_append.mpr (.inr h)) fun h => List.mem_append.mpr (.inl h))
    rw [← kB_of hpc] at F₁
    refine wpAny_mono (turn i c v own m₁ h tk hin hP hInv ho (fun q hq p hp => by rw [hI q hq]; exact Heap.lt_size (N p hp).1) F₁ N₂) (fun f s₂ t => ?_) fun _ _ e => e
    have fin : TurnL h₀ env.locals LedOf ps (Inv (i + 1)) own { s with heap := h, toks := tk } Q .next s₂ → LoopStepU h₀ env.locals [s.heap.objs.size] own (fun m led => ∃ c, led = LedOf c ∧ (∀ p ∈ ps c, m p.1 = some p.2) ∧ Inv (i + 1) c) { s with heap := h, toks := tk } .next s₂ := by
      rintro ⟨c', h', tk', m', e, F', N', ho', hpc', hInv'⟩
      refine ⟨rfl, h', tk', m', LedOf c', e, F', fun p hp => N' p ((List.mem_append.mp hp).elim (fun h => List.mem_append.mpr (.inr h)) fun h => List.mem_append.mpr (.inl h)), fun p hp hq => ?_, c', rfl, hpc', hInv'⟩
      have e1 := List.mem_singleton.mp hq
      obtain ⟨oI, e2⟩ := hlive _ _ hst'
      exact ho' _ (hall _ (.head _) (next_is_new F) oI e2) p.1 (List.mem_map.mpr ⟨p, hp, rfl⟩) e1.symm
    cases f with
    | ret v => exact .ret t
    | brk => exact .brk t
    | next => exact .next (fin t)
    | cont => exact .cont (fin t)
  · rintro h' tk m' led' F' N' _ ⟨c, rfl, hpc, hInv⟩
    rw [← kB_of hpc] at F'
    exact done c m' h' tk hInv F' N'
theorem iter_range {σ : Type} (LedOf : σ → Led) (ps : σ → List (Str × Value)) (Inv : Nat → σ → Prop) (c₀ : σ) {r : Addr} {b₀ : Int} {t₀ u₀ v₀ : Tok} (n : Nat) {m₀ : Str → Option Value}
    (hh : A.handled = none) (hr : IsRange s.heap r 0 b₀ 1 t₀ u₀ v₀) (hsmall : Builtin.Range.small 0 b₀ 1 = true) (hn : Builtin.Range.rangeSize 0 b₀ 1 = (n : Int))
    (F : Fr h₀ env.locals s.heap m₀) (N : News h₀ env.locals s.heap (LedOf c₀)) (hp : ∀ p ∈ ps c₀, m₀ p.1 = some p.2) (hi : Inv 0 c₀)
    (turn : ∀ i c t own u h tk, i < n → Inv i c → OwnOff own ((LedOf c).map (·.1)) → (∀ q ∈ own, ∀ p ∈ LedOf c₀, p.1 < q.1) → Fr h₀ env.locals h (fun y => if y = x then some (.int (i : Int) t) else kB u (ps c) y) → News h₀ env.locals h (LedOf c ++ own) →
      wpAny (model prog w) A (execs body env) (TurnL h₀ env.locals LedOf ps (Inv (i + 1)) own { s with heap := h, toks := tk } Q) E { s with heap := h, toks := tk })
    (done : ∀ c u h tk, Inv n c → Fr h₀ env.locals h (kB u (ps c)) → News h₀ env.locals h (LedOf c) → Q .next { s with heap := h, toks := tk }) :
    wpAny (model prog w) A (pyIter (.ref r)) (fun it s₂ => LoopAtV prog w A h₀ env x body Q E it s₂) E s := by
  refine wpAny_pyIter_range hr hsmall ?_
  refine iterL LedOf ps Inv c₀ (Walks.range hh _ 0 1 n) (by show IsRangeIter _ _ _ _ _; rw [hn]; simpa using Heap.get?_push_size _ rfl) (fun _ _ st => ⟨_, st⟩) F N hp hi ?_ done
  rintro i c v own u h tk hin ⟨t, rfl⟩ hI ho hlt F' N'
  simp only [Int.mul_one, Int.zero_add] at F'
  exact turn i c t own u h tk hin hI ho hlt F' N'
theorem iter_str {σ : Type} (LedOf : σ → Led) (ps : σ → List (Str × Value)) (Inv : Nat → σ → Prop) (c₀ : σ) {xt : Str} {tx : Tok} {m₀ : Str → Option Value}
    (hh : A.handled = none) (F : Fr h₀ env.locals s.heap m₀) (N : News h₀ env.locals s.heap (LedOf c₀)) (hp : ∀ p ∈ ps c₀, m₀ p.1 = some p.2) (hi : Inv 0 c₀)
    (turn : ∀ i c n t own u h tk, xt.cps[i]? = some n → Inv i c → OwnOff own ((LedOf c).map (·.1)) → (∀ q ∈ own, ∀ p ∈ LedOf c₀, p.1 < q.1) → Fr h₀ env.locals h (fun y => if y = x then some (.str ⟨#[n]⟩ t) else kB u (ps c) y) → News h₀ env.locals h (LedOf c ++ own) →
      wpAny (model prog w) A (execs body env) (TurnL h₀ env.locals LedOf ps (Inv (i + 1)) own { s with heap := h, toks := tk } Q) E { s with heap := h, toks := tk })
    (done : ∀ c u h tk, Inv xt.cps.size c → Fr h₀ env.locals h (kB u (ps c)) → News h₀ env.locals h (LedOf c) → Q .next { s with heap := h, toks := tk }) :
    wpAny (model prog w) A (pyIter (.str xt tx)) (fun it s₂ => LoopAtV prog w A h₀ env x body Q E it s₂) E s := by
  have go : ∀ (o : Obj) (St : Nat → Heap → Prop), Walks prog w A s.heap.objs.size [s.heap.objs.size] [s.heap.objs.size] xt.cps.size (SignAt xt) St → (∀ i h, St i h → ∃ oI, h.get? s.heap.objs.size = some oI) → St 0 (s.heap.push o) →
      LoopAtV prog w A h₀ env x body Q E (.ref s.heap.objs.size) { s with heap := s.heap.push o } := by
    intro o St W hl hst
    refine iterL LedOf ps Inv c₀ W hst hl F N hp hi ?_ done
    rintro i c v own u h tk hin ⟨n, t, hn, rfl⟩ hI ho hlt F' N'
    exact turn i c n t own u h tk hn hI ho hlt F' N'
  cases ha : xt.cps.all (· < 128)
  · exact wpAny_pyIter_wide ha (go _ _ (Walks.strWide hh _ xt tx) (fun _ _ st => let ⟨o, ho, _⟩ := st; ⟨o, ho⟩) ⟨_, Heap.get?_push_size _ rfl, rfl, rfl⟩)
  · exact wpAny_pyIter_ascii ha (go _ _ (Walks.strAscii hh _ xt tx) (fun _ _ st => let ⟨o, ho, _⟩ := st; ⟨o, ho⟩) ⟨_, Heap.get?_push_size _ rfl, rfl, rfl⟩)
end
theorem tok_gen {M : Model} {A : Around} {α : Type} {x : Sem α} {Q : α → Shared → Prop} {E : Value → Shared → Prop} {s : Shared} (h : ∀ tk, wpAny M A x Q E { s with toks := tk }) : wpAny M A x Q E s := h s.toks
theorem na0 {P : Prop} {a D : Nat} (h : a < D ∧ P) : a ≠ D := Nat.ne_of_lt h.1
theorem ns0 {P : Prop} {a D : Nat} (h : a < D ∧ P) : D ≠ a := Nat.ne_of_gt h.1
theorem na1 {A0 P : Prop} {a D : Nat} (h : A0 ∧ a < D ∧ P) : a ≠ D := Nat.ne_of_lt h.2.1
theorem ns1 {A0 P : Prop} {a D : Nat} (h : A0 ∧ a < D ∧ P) : D ≠ a := Nat.ne_of_gt h.2.1
theorem na2 {A0 A1 P : Prop} {a D : Nat} (h : A0 ∧ A1 ∧ a < D ∧ P) : a ≠ D := Nat.ne_of_lt h.2.2.1
theorem ns2 {A0 A1 P : Prop} {a D : Nat} (h : A0 ∧ A1 ∧ a < D ∧ P) : D ≠ a := Nat.ne_of_gt h.2.2.1
theorem na3 {A0 A1 A2 P : Prop} {a D : Nat} (h : A0 ∧ A1 ∧ A2 ∧ a < D ∧ P) : a ≠ D := Nat.ne_of_lt h.2.2.2.1
theorem ns3 {A0 A1 A2 P : Prop} {a D : Nat} (h : A0 ∧ A1 ∧ A2 ∧ a < D ∧ P) : D ≠ a := Nat.ne_of_gt h.2.2.2.1
theorem na4 {A0 A1 A2 A3 P : Prop} {a D : Nat} (h : A0 ∧ A1 ∧ A2 ∧ A3 ∧ a < D ∧ P) : a ≠ D := Nat.ne_of_lt h.2.2.2.2.1
theorem ns4 {A0 A1 A2 A3 P : Prop} {a D : Nat} (h : A0 ∧ A1 ∧ A2 ∧ A3 ∧ a < D ∧ P) : D ≠ a := Nat.ne_of_gt h.2.2.2.2.1
theorem na5 {A0 A1 A2 A3 A4 P : Prop} {a D : Nat} (h : A0 ∧ A1 ∧ A2 ∧ A3 ∧ A4 ∧ a < D ∧ P) : a ≠ D := Nat.ne_of_lt h.2.2.2.2.2.1
theorem ns5 {A0 A1 A2 A3 A4 P : Prop} {a D : Nat} (h : A0 ∧ A1 ∧ A2 ∧ A3 ∧ A4 ∧ a < D ∧ P) : D ≠ a := Nat.ne_of_gt h.2.2.2.2.2.1
theorem na6 {A0 A1 A2 A3 A4 A5 P : Prop} {a D : Nat} (h : A0 ∧ A1 ∧ A2 ∧ A3 ∧ A4 ∧ A5 ∧ a < D ∧ P) : a ≠ D := Nat.ne_of_lt h.2.2.2.2.2.2.1
theorem ns6 {A0 A1 A2 A3 A4 A5 P : Prop} {a D : Nat} (h : A0 ∧ A1 ∧ A2 ∧ A3 ∧ A4 ∧ A5 ∧ a < D ∧ P) : D ≠ a := Nat.ne_of_gt h.2.2.2.2.2.2.1
theorem na7 {A0 A1 A2 A3 A4 A5 A6 P : Prop} {a D : Nat} (h : A0 ∧ A1 ∧ A2 ∧ A3 ∧ A4 ∧ A5 ∧ A6 ∧ a < D ∧ P) : a ≠ D := Nat.ne_of_lt h.2.2.2.2.2.2.2.1
theorem ns7 {A0 A1 A2 A3 A4 A5 A6 P : Prop} {a D : Nat} (h : A0 ∧ A1 ∧ A2 ∧ A3 ∧ A4 ∧ A5 ∧ A6 ∧ a < D ∧ P) : D ≠ a := Nat.ne_of_gt h.2.2.2.2.2.2.2.1
theorem na8 {A0 A1 A2 A3 A4 A5 A6 A7 P : Prop} {a D : Nat} (h : A0 ∧ A1 ∧ A2 ∧ A3 ∧ A4 ∧ A5 ∧ A6 ∧ A7 ∧ a < D ∧ P) : a ≠ D := Nat.ne_of_lt h.2.2.2.2.2.2.2.2.1
theorem ns8 {A0 A1 A2 A3 A4 A5 A6 A7 P : Prop} {a D : Nat} (h : A0 ∧ A1 ∧ A2 ∧ A3 ∧ A4 ∧ A5 ∧ A6 ∧ A7 ∧ a < D ∧ P) : D ≠ a := Nat.ne_of_gt h.2.2.2.2.2.2.2.2.1
theorem na9 {A0 A1 A2 A3 A4 A5 A6 A7 A8 P : Prop} {a D : Nat} (h : A0 ∧ A1 ∧ A2 ∧ A3 ∧ A4 ∧ A5 ∧ A6 ∧ A7 ∧ A8 ∧ a < D ∧ P) : a ≠ D := Nat.ne_of_lt h.2.2.2.2.2.2.2.2.2.1
theorem ns9 {A0 A1 A2 A3 A4 A5 A6 A7 A8 P : Prop} {a D : Nat} (h : A0 ∧ A1 ∧ A2 ∧ A3 ∧ A4 ∧ A5 ∧ A6 ∧ A7 ∧ A8 ∧ a < D ∧ P) : D ≠ a := Nat.ne_of_gt h.2.2.2.2.2.2.2.2.2.1
theorem na10 {A0 A1 A2 A3 A4 A5 A6 A7 A8 A9 P : Prop} {a D : Nat} (h : A0 ∧ A1 ∧ A2 ∧ A3 ∧ A4 ∧ A5 ∧ A6 ∧ A7 ∧ A8 ∧ A9 ∧ a < D ∧ P) : a ≠ D := Nat.ne_of_lt h.2.2.2.2.2.2.2.2.2.2.1
theorem ns10 {A0 A1 A2 A3 A4 A5 A6 A7 A8 A9 P : Prop} {a D : Nat} (h : A0 ∧ A1 ∧ A2 ∧ A3 ∧ A4 ∧ A5 ∧ A6 ∧ A7 ∧ A8 ∧ A9 ∧ a < D ∧ P) : D ≠ a := Nat.ne_of_gt h.2.2.2.2.2.2.2.2.2.2.1
theorem na11 {A0 A1 A2 A3 A4 A5 A6 A7 A8 A9 A10 P : Prop} {a D : Nat} (h : A0 ∧ A1 ∧ A2 ∧ A3 ∧ A4 ∧ A5 ∧ A6 ∧ A7 ∧ A8 ∧ A9 ∧ A10 ∧ a < D ∧ P) : a ≠ D := Nat.ne_of_lt h.2.2.2.2.2.2.2.2.2.2.2.1
theorem ns11 {A0 A1 A2 A3 A4 A5 A6 A7 A8 A9 A10 P : Prop} {a D : Nat} (h : A0 ∧ A1 ∧ A2 ∧ A3 ∧ A4 ∧ A5 ∧ A6 ∧ A7 ∧ A8 ∧ A9 ∧ A10 ∧ a < D ∧ P) : D ≠ a := Nat.ne_of_gt h.2.2.2.2.2.2.2.2.2.2.2.1
theorem na12 {A0 A1 A2 A3 A4 A5 A6 A7 A8 A9 A10 A11 P : Prop} {a D : Nat} (h : A0 ∧ A1 ∧ A2 ∧ A3 ∧ A4 ∧ A5 ∧ A6 ∧ A7 ∧ A8 ∧ A9 ∧ A10 ∧ A11 ∧ a < D ∧ P) : a ≠ D := Nat.ne_of_lt h.2.2.2.2.2.2.2.2.2.2.2.2.1
theorem ns12 {A0 A1 A2 A3 A4 A5 A6 A7 A8 A9 A10 A11 P : Prop} {a D : Nat} (h : A0 ∧ A1 ∧ A2 ∧ A3 ∧ A4 ∧ A5 ∧ A6 ∧ A7 ∧ A8 ∧ A9 ∧ A10 ∧ A11 ∧ a < D ∧ P) : D ≠ a := Nat.ne_of_gt h.2.2.2.2.2.2.2.2.2.2.2.2.1
theorem na13 {A0 A1 A2 A3 A4 A5 A6 A7 A8 A9 A10 A11 A12 P : Prop} {a D : Nat} (h : A0 ∧ A1 ∧ A2 ∧ A3 ∧ A4 ∧ A5 ∧ A6 ∧ A7 ∧ A8 ∧ A9 ∧ A10 ∧ A11 ∧ A12 ∧ a < D ∧ P) : a ≠ D := Nat.ne_of_lt h.2.2.2.2.2.2.2.2.2.2.2.2.2.1
theorem ns13 {A0 A1 A2 A3 A4 A5 A6 A7 A8 A9 A10 A11 A12 P : Prop} {a D : Nat} (h : A0 ∧ A1 ∧ A2 ∧ A3 ∧ A4 ∧ A5 ∧ A6 ∧ A7 ∧ A8 ∧ A9 ∧ A10 ∧ A11 ∧ A12 ∧ a < D ∧ P) : D ≠ a := Nat.ne_of_gt h.2.2.2.2.2.2.2.2.2.2.2.2.2.1
theorem na14 {A0 A1 A2 A3 A4 A5 A6 A7 A8 A9 A10 A11 A12 A13 P : Prop} {a D : Nat} (h : A0 ∧ A1 ∧ A2 ∧ A3 ∧ A4 ∧ A5 ∧ A6 ∧ A7 ∧ A8 ∧ A9 ∧ A10 ∧ A11 ∧ A12 ∧ A13 ∧ a < D ∧ P) : a ≠ D := Nat.ne_of_lt h.2.2.2.2.2.2.2.2.2.2.2.2.2.2.1
theorem ns14 {A0 A1 A2 A3 A4 A5 A6 A7 A8 A9 A10 A11 A12 A13 P : Prop} {a D : Nat} (h : A0 ∧ A1 ∧ A2 ∧ A3 ∧ A4 ∧ A5 ∧ A6 ∧ A7 ∧ A8 ∧ A9 ∧ A10 ∧ A11 ∧ A12 ∧ A13 ∧ a < D ∧ P) : D ≠ a := Nat.ne_of_gt h.2.2.2.2.2.2.2.2.2.2.2.2.2.2.1
theorem na15 {A0 A1 A2 A3 A4 A5 A6 A7 A8 A9 A10 A11 A12 A13 A14 P : Prop} {a D : Nat} (h : A0 ∧ A1 ∧ A2 ∧ A3 ∧ A4 ∧ A5 ∧ A6 ∧ A7 ∧ A8 ∧ A9 ∧ A10 ∧ A11 ∧ A12 ∧ A13 ∧ A14 ∧ a < D ∧ P) : a ≠ D := Nat.ne_of_lt h.2.2.2.2.2.2.2.2.2.2.2.2.2.2.2.1
theorem ns15 {A0 A1 A2 A3 A4 A5 A6 A7 A8 A9 A10 A11 A12 A13 A14 P : Prop} {a D : Nat} (h : A0 ∧ A1 ∧ A2 ∧ A3 ∧ A4 ∧ A5 ∧ A6 ∧ A7 ∧ A8 ∧ A9 ∧ A10 ∧ A11 ∧ A12 ∧ A13 ∧ A14 ∧ a < D ∧ P) : D ≠ a := Nat.ne_of_gt h.2.2.2.2.2.2.2.2.2.2.2.2.2.2.2.1
theorem f_let {P : Prop} {h₀ h : Heap} {L : Addr} {m : Str → Option Value} (F : Fr h₀ L h m) (k : let m' := m; Fr h₀ L h m' → P) : P := k F
theorem n_let {P : Prop} {h₀ h : Heap} {L : Addr} {news : Led} (N : News h₀ L h news) (k : let nw := news; News h₀ L h nw → P) : P := k N
theorem fold_QE {M : Model} {A : Around} {α : Type} {x : Sem α} {Q : α → Shared → Prop} {E : Value → Shared → Prop} {s : Shared} (h : let q := Q; let e := E; wpAny M A x q e s) : wpAny M A x Q E s := h
theorem fold_QES {M : Model} {A : Around} {α : Type} {x : Sem α} {Q : α → Shared → Prop} {E : Value → Shared → Prop} {s : Shared} {hh : Heap} {tt : Nat} (h : let q := Q; let e := E; ∀ tk, let s' : Shared := { s with heap := hh, toks := tk }; wpAny M A x q e s') : wpAny M A x Q E { s with heap := hh, toks := tt } := h tt
theorem fold_QES0 {M : Model} {A : Around} {α : Type} {x : Sem α} {Q : α → Shared → Prop} {E : Value → Shared → Prop} {s : Shared} {hh : Heap} {tt : Nat} (h : let q := Q; let e := E; let s' : Shared := { s with heap := hh, toks := tt }; wpAny M A x q e s') : wpAny M A x Q E { s with heap := hh, toks := tt } := h
theorem lt4 {k : Nat} (h : k < 4) : k = 0 ∨ k = 1 ∨ k = 2 ∨ k = 3 := by omega
theorem lt5 {k : Nat} (h : k < 5) : k = 0 ∨ k = 1 ∨ k = 2 ∨ k = 3 ∨ k = 4 := by omega
theorem le2 {a b x y N : Nat} (h1 : a ≤ x) (h2 : b ≤ y) (h : x + y ≤ N) : a + b ≤ N := Nat.le_trans (Nat.add_le_add h1 h2) h
theorem le1 {a x N : Nat} (h1 : a ≤ x) (h : x ≤ N) : a ≤ N := Nat.le_trans h1 h
theorem ex2I {α β : Sort _} {p : α → β → Prop} (a : α) (b : β) (h : p a b) : ∃ a b, p a b := ⟨a, b, h⟩
theorem ex3I {α β γ : Sort _} {p : α → β → γ → Prop} (a : α) (b : β) (c : γ) (h : p a b c) : ∃ a b c, p a b c := ⟨a, b, c, h⟩
theorem ex8I {A1 A2 A3 A4 A5 A6 A7 A8 : Type} {p : A1 → A2 → A3 → A4 → A5 → A6 → A7 → A8 → Prop} (a : A1) (b : A2) (c : A3) (d : A4) (e : A5) (f : A6) (g : A7) (i : A8) (h : p a b c d e f g i) : ∃ a b c d e f g i, p a b c d e f g i := ⟨a, b, c, d, e, f, g, i, h⟩
theorem subH {α : Type} {l l' : List α} {x : α} (h : ∀ p ∈ l, p ∈ l') : ∀ p ∈ l, p ∈ x :: l' := fun p hp => .tail _ (h p hp)
theorem subR {α : Type} {l : List α} : ∀ p ∈ l, p ∈ l := fun _ h => h
theorem ex_cons {M : Model} {A : Around} {st : Stmt} {rest : List Stmt} {env : Env} {Q : Flow → Shared → Prop} {E : Value → Shared → Prop} {s : Shared}
    (h : ∀ tk, let q : Flow → Shared → Prop := fun f s' => match f with | .next => wpAny M A (execs rest env) Q E s' | f => Q f s'; wpAny M A (exec st env) q E { s with toks := tk }) : wpAny M A (execs (st :: rest) env) Q E s := wpAny_execs_cons (tok_gen h)
theorem ex_cons0 {M : Model} {A : Around} {st : Stmt} {rest : List Stmt} {env : Env} {Q : Flow → Shared → Prop} {E : Value → Shared → Prop} {s : Shared}
    (h : let q : Flow → Shared → Prop := fun f s' => match f with | .next => wpAny M A (execs rest env) Q E s' | f => Q f s'; wpAny M A (exec st env) q E s) : wpAny M A (execs (st :: rest) env) Q E s := wpAny_execs_cons h
theorem ex_consA {M : Model} {A : Around} {st : Stmt} {rest : List Stmt} {env : Env} {Q : Flow → Shared → Prop} {E : Value → Shared → Prop} {s : Shared} {hh : Heap} {tt : Nat}
    (h : let A' := A; ∀ tk, let s' : Shared := { s with heap := hh, toks := tk }; let q : Flow → Shared → Prop := fun f s' => match f with | .next => wpAny M A' (execs rest env) Q E s' | f => Q f s'; wpAny M A' (exec st env) q E s') : wpAny M A (execs (st :: rest) env) Q E { s with heap := hh, toks := tt } := wpAny_execs_cons (tok_gen h)
theorem ex_consA0 {M : Model} {A : Around} {st : Stmt} {rest : List Stmt} {env : Env} {Q : Flow → Shared → Prop} {E : Value → Shared → Prop} {s : Shared} {hh : Heap} {tt : Nat}
    (h : let A' := A; let s' : Shared := { s with heap := hh, toks := tt }; let q : Flow → Shared → Prop := fun f s' => match f with | .next => wpAny M A' (execs rest env) Q E s' | f => Q f s'; wpAny M A' (exec st env) q E s') : wpAny M A (execs (st :: rest) env) Q E { s with heap := hh, toks := tt } := wpAny_execs_cons h
theorem ex_consE {M : Model} {A : Around} {st : Stmt} {rest : List Stmt} {env : Env} {Q : Flow → Shared → Prop} {E : Value → Shared → Prop} {s : Shared}
    (h : let A' := A; let e' := env; ∀ tk, let q : Flow → Shared → Prop := fun f s' => match f with | .next => wpAny M A' (execs rest e') Q E s' | f => Q f s'; wpAny M A' (exec st e') q E { s with toks := tk }) : wpAny M A (execs (st :: rest) env) Q E s := wpAny_execs_cons (tok_gen h)
theorem rm0 {d K : Nat} (h : d + K < recursionLimit) : d < recursionLimit := Nat.lt_of_le_of_lt (Nat.le_add_right d K) h
theorem rm1 {d j K : Nat} (h : d + K < recursionLimit) (hj : j ≤ K) : d + j < recursionLimit := Nat.lt_of_le_of_lt (Nat.add_le_add_left hj d) h
theorem rm2 {d a j K : Nat} (h : d + K < recursionLimit) (hj : a + j ≤ K) : d + a + j < recursionLimit := by rw [Nat.add_assoc]; exact rm1 h hj
theorem um1 {u j K : Nat} (h : u + 10 * K < cLine) (hj : j ≤ K) : u + 10 * j < cLine := Nat.lt_of_le_of_lt (Nat.add_le_add_left (Nat.mul_le_mul_left 10 hj) u) h
theorem um2 {u a j K : Nat} (h : u + 10 * K < cLine) (hj : a + 10 * j ≤ 10 * K) : u + a + 10 * j < cLine := by rw [Nat.add_assoc]; exact Nat.lt_of_le_of_lt (Nat.add_le_add_left hj u) h
theorem rmS2 {d K : Nat} (h : d + K < recursionLimit) (hj : 2 ≤ K) : d + 1 + 1 < recursionLimit := rm1 (d := d) (j := 2) h hj
theorem rmS3 {d K : Nat} (h : d + K < recursionLimit) (hj : 3 ≤ K) : d + 1 + 1 + 1 < recursionLimit := rm1 (d := d) (j := 3) h hj
theorem rmS4 {d K : Nat} (h : d + K < recursionLimit) (hj : 4 ≤ K) : d + 1 + 1 + 1 + 1 < recursionLimit := rm1 (d := d) (j := 4) h hj
theorem cl3 {u j K : Nat} (h : u + 10 * K < cLine) (hj : 3 + j ≤ 10 * K) : u + 3 + j < cLine := by rw [Nat.add_assoc]; exact Nat.lt_of_le_of_lt (Nat.add_le_add_left hj u) h
section
section
variable {prog : Program} {w : World} {A : Around} {E : Value → Shared → Prop} {s : Shared} {Q : Value → Shared → Prop}
noncomputable def one (c : Nat) : Str := ⟨#[c]⟩
theorem sign_item {value slice : PySem.Expr} {l : Addr} {sv : List Value} {sl : List Nat} {k : Int} {u : Tok} {j d : Nat} (hl : s.heap.IsList l sv.toArray) (hs : StrsAre sv (sl.map one)) (hq : sl[j]? = some d) (hj : k = (j : Int)) (hfit : j < 2 ^ 62)
    (h : ∀ t, Q (.str ⟨#[d]⟩ t) s)
    (hs' : subscripted slice false (.ref l) (.int k u) = operate [.ref l, .int k u] (getItem (.ref l) (.int k u)) := by with_unfolding_all rfl) :
    wpAny (model prog w) A (subscriptTail value slice (.ref l) (.int k u)) Q E s := by
  subst hj
  obtain ⟨t, ht⟩ := hs.at (j := j) (y := one d) (by simp [hq])
  exact tail_any hl.typeIs slot_list_getitem.lookup (wpAny_getItem_list hl (by omega) (by omega) (by have z : sv[j]? = some (Value.str ⟨#[d]⟩ t) := ht; simpa using z) (h t)) hs'
theorem len_listN {l : Addr} {sv : List Value} (hl : s.heap.IsList l sv.toArray) (hf : sv.length < 2 ^ 62) (h : Q (.int (sv.length : Int) (s.toks + 1)) { s with toks := s.toks + 1 + 1 }) : wpAny (model prog w) A (call (.builtin "len") [.ref l]) Q E s := by
  refine Calls.call_len_list hl (by simp; omega) ?_
  simpa using h
theorem item_tx {wl : List Nat} {j c : Nat} (hq : wl[j]? = some c) : Txt.item ⟨wl.toArray⟩ (j : Int) = ⟨#[c]⟩ := by
  have hlt : j < wl.length := (List.getElem?_eq_some_iff.mp hq).1
  have e : Txt.charAt ⟨wl.toArray⟩ (j : Int) = some c := by
    unfold Txt.charAt seqIndex?
    have h1 : ¬ ((j : Int) < 0) := by omega
    have h2 : (⟨wl.toArray⟩ : Str).length = wl.length := by simp [Str.length]
    simp [h1, h2, hlt]
    obtain ⟨_, hh⟩ := List.getElem?_eq_some_iff.mp hq
    exact hh
  unfold Txt.item
  rw [e]; rfl
theorem char_item {value slice : PySem.Expr} {wl : List Nat} {t : Tok} {k : Int} {u : Tok} {j c : Nat} (hq : wl[j]? = some c) (hj : k = (j : Int)) (hfit : wl.length < 2 ^ 62)
    (h : Q (.str ⟨#[c]⟩ s.toks) { s with toks := s.toks + 1 })
    (hs : subscripted slice false (.str ⟨wl.toArray⟩ t) (.int k u) = operate [.str ⟨wl.toArray⟩ t, .int k u] (getItem (.str ⟨wl.toArray⟩ t) (.int k u)) := by with_unfolding_all rfl)
    (ht : ∀ r, letTemporaryGo value (.str ⟨wl.toArray⟩ t) r = pure () := by intro _; with_unfolding_all rfl) :
    wpAny (model prog w) A (subscriptTail value slice (.str ⟨wl.toArray⟩ t) (.int k u)) Q E s := by
  subst hj
  have hlt : j < wl.length := (List.getElem?_eq_some_iff.mp hq).1
  have h2 : (⟨wl.toArray⟩ : Str).length = wl.length := by simp [Str.length]
  refine item_str (fitsSsize_of (N := 9223372036854775808) (by omega) (by omega) (Int.le_refl _)) (by rw [h2]; omega) (by rw [h2]; omega) (fun _ => ?_) hs ht
  rw [item_tx hq]; exact h
end
theorem one_ne {c d : Nat} (h : ((⟨#[c]⟩ : Str) != ⟨#[d]⟩) = true) : c ≠ d := by
  intro e; subst e; simp at h
theorem one_eq {c d : Nat} (h : ((⟨#[c]⟩ : Str) != ⟨#[d]⟩) = false) : c = d := by
  simpa using h
theorem size_nat (n : Nat) : Builtin.Range.rangeSize 0 (n : Int) 1 = (n : Int) := by
  unfold Builtin.Range.rangeSize
  simp
  omega
theorem small_nat {n : Nat} (h : n < 10 ^ 9) : Builtin.Range.small 0 (n : Int) 1 = true := by
  unfold Builtin.Range.small
  rw [size_nat]
  unfold Builtin.Range.rangeFitsLong
  simp
  omega
theorem off_kind {h₀ h : Heap} {L : Addr} {A B all : Led} (N : News h₀ L h all) (hA : ∀ p ∈ A, p ∈ all) (hB : ∀ p ∈ B, p ∈ all) (cA : ∀ p ∈ A, p.2.cls ≠ .type "tuple") (cB : ∀ p ∈ B, p.2.cls = .type "tuple") : OwnOff B (A.map (·.1)) := by
  intro p hp b hb e
  obtain ⟨q, hq, rfl⟩ := List.mem_map.mp hb
  have h1 := (N p (hB p hp)).1
  have h2 := (N q (hA q hq)).1
  rw [e, h2] at h1
  have := Option.some.inj h1
  exact cA q hq (by rw [this]; exact cB p hp)
theorem OwnOff.app {a b : Led} {adr : List Addr} (h1 : OwnOff a adr) (h2 : OwnOff b adr) : OwnOff (a ++ b) adr := by
  intro p hp
  rcases List.mem_append.mp hp with hp | hp
  · exact h1 p hp
  · exact h2 p hp
theorem OwnOff.sub {a : Led} {adr adr' : List Addr} (h1 : OwnOff a adr) (h2 : ∀ b ∈ adr', b ∈ adr) : OwnOff a adr' := fun p hp b hb => h1 p hp b (h2 b hb)
noncomputable abbrev Tups (l : Led) : Prop := ∀ p ∈ l, p.2.cls = .type "tuple"
noncomputable abbrev tupObj (vs : List Value) : Obj := { cls := .type "tuple", data := .seq vs.toArray }
theorem allLt_mem {d : Addr} {l : Led} (h : AllLt d l) : ∀ p ∈ l, p.1 < d := by
  induction l with
  | nil => intro p hp; cases hp
  | cons q r ih =>
    intro p hp
    rcases List.mem_cons.mp hp with hp | hp
    · rw [hp]; exact h.1
    · exact ih h.2 p hp
theorem push_led {h₀ h : Heap} {L D : Addr} {oD : Obj} {A nt own : Led} (N : News h₀ L h ((D, oD) :: (A ++ (nt ++ own)))) : News h₀ L h ((A ++ (nt ++ [(D, oD)])) ++ own) := by
  refine News.sub N ?_
  intro p hp
  simp only [List.mem_append, List.mem_cons, List.not_mem_nil, or_false] at hp ⊢
  rcases hp with (hp | hp | hp) | hp
  · exact .inr (.inl hp)
  · exact .inr (.inr (.inl hp))
  · exact .inl hp
  · exact .inr (.inr (.inr hp))
section
variable {prog : Program} {w : World} {A : Around} {E : Value → Shared → Prop} {s : Shared} {Q : Value → Shared → Prop}
theorem strs_item {value slice : PySem.Expr} {l : Addr} {vs : List Value} {ys : List Str} {k : Int} {u : Tok} {j : Nat} {y : Str} (hl : s.heap.IsList l vs.toArray) (hs : StrsAre vs ys) (hq : ys[j]? = some y) (hj : k = (j : Int)) (hfit : j < 2 ^ 62)
    (h : ∀ t, Q (.str y t) s)
    (hs' : subscripted slice false (.ref l) (.int k u) = operate [.ref l, .int k u] (getItem (.ref l) (.int k u)) := by with_unfolding_all rfl) :
    wpAny (model prog w) A (subscriptTail value slice (.ref l) (.int k u)) Q E s := by
  subst hj
  obtain ⟨t, ht⟩ := hs.at (j := j) (y := y) hq
  exact tail_any hl.typeIs slot_list_getitem.lookup (wpAny_getItem_list hl (by omega) (by omega) (by simpa using ht) (h t)) hs'
end
theorem one_emp (c : Nat) : ((⟨#[c]⟩ : Str) == Str.ofString "") = false := by
  have e : Str.ofString "" = ⟨#[]⟩ := by decide +kernel
  rw [e]
  simp
theorem pick0_sub {y z : Addr × Obj} {A : Led} : ∀ p ∈ A ++ [], p ∈ y :: z :: (A ++ []) := fun _ hp => .tail _ (.tail _ hp)
theorem pick1_sub {x y z : Addr × Obj} {A : Led} : ∀ p ∈ A ++ [x], p ∈ x :: y :: z :: (A ++ []) := by
  intro p hp
  rcases List.mem_append.mp hp with hp | hp
  · exact .tail _ (.tail _ (.tail _ (List.mem_append_left _ hp)))
  · rw [List.mem_singleton.mp hp]; exact .head _
theorem ne9 {D c1 c2 c3 c4 c5 c6 c7 c8 c9 : Nat} {P : Prop} (h : c1 < D ∧ c2 < D ∧ c3 < D ∧ c4 < D ∧ c5 < D ∧ c6 < D ∧ c7 < D ∧ c8 < D ∧ c9 < D ∧ P) : ∀ b ∈ [c1, c2, c3, c4, c5, c6, c7, c8, c9], D ≠ b := List.forall_mem_cons.mpr ⟨ns0 h, List.forall_mem_cons.mpr ⟨ns1 h, List.forall_mem_cons.mpr ⟨ns2 h, List.forall_mem_cons.mpr ⟨ns3 h, List.forall_mem_cons.mpr ⟨ns4 h, List.forall_mem_cons.mpr ⟨ns5 h, List.forall_mem_cons.mpr ⟨ns6 h, List.forall_mem_cons.mpr ⟨ns7 h, List.forall_mem_cons.mpr ⟨ns8 h, List.forall_mem_nil _⟩⟩⟩⟩⟩⟩⟩⟩⟩
theorem drop2_sub {y z : Addr × Obj} {A : Led} : ∀ p ∈ A ++ [], p ∈ A ++ [y, z] := by
  intro p hp
  rw [List.append_nil] at hp
  exact List.mem_append_left _ hp
theorem OwnOff.nil {adr : List Addr} : OwnOff [] adr := fun _ h => nomatch h
theorem OwnOff.cons {p : Addr × Obj} {l : Led} {adr : List Addr} (h : ∀ b ∈ adr, p.1 ≠ b) (hl : OwnOff l adr) : OwnOff (p :: l) adr := by
  intro q hq
  rcases List.mem_cons.mp hq with hq | hq
  · rw [hq]; exact h
  · exact hl q hq
theorem ne11 {D c1 c2 c3 c4 c5 c6 c7 c8 c9 c10 c11 : Nat} {P : Prop} (h : c1 < D ∧ c2 < D ∧ c3 < D ∧ c4 < D ∧ c5 < D ∧ c6 < D ∧ c7 < D ∧ c8 < D ∧ c9 < D ∧ c10 < D ∧ c11 < D ∧ P) : ∀ b ∈ [c1, c2, c3, c4, c5, c6, c7, c8, c9], D ≠ b := List.forall_mem_cons.mpr ⟨ns0 h, List.forall_mem_cons.mpr ⟨ns1 h, List.forall_mem_cons.mpr ⟨ns2 h, List.forall_mem_cons.mpr ⟨ns3 h, List.forall_mem_cons.mpr ⟨ns4 h, List.forall_mem_cons.mpr ⟨ns5 h, List.forall_mem_cons.mpr ⟨ns6 h, List.forall_mem_cons.mpr ⟨ns7 h, List.forall_mem_cons.mpr ⟨ns8 h, List.forall_mem_nil _⟩⟩⟩⟩⟩⟩⟩⟩⟩
theorem pick2_sub {x y : Addr × Obj} {A B : Led} : ∀ p ∈ A ++ [x, y], p ∈ x :: y :: (A ++ B) := by
  intro p hp
  rcases List.mem_append.mp hp with hp | hp
  · exact .tail _ (.tail _ (List.mem_append_left _ hp))
  · simp only [List.mem_cons, List.not_mem_nil, or_false] at hp
    rcases hp with rfl | rfl
    · exact .head _
    · exact .tail _ (.head _)
theorem pick5_sub {x y e b1 b2 : Addr × Obj} {A nt : Led} : ∀ p ∈ A ++ (x :: y :: (nt ++ [e])), p ∈ x :: y :: (A ++ (nt ++ [e, b1, b2])) := by
  intro p hp
  simp only [List.mem_append, List.mem_cons, List.not_mem_nil, or_false] at hp ⊢
  rcases hp with hp | rfl | rfl | hp | rfl
  · exact .inr (.inr (.inl hp))
  · exact .inl rfl
  · exact .inr (.inl rfl)
  · exact .inr (.inr (.inr (.inl hp)))
  · exact .inr (.inr (.inr (.inr (.inl rfl))))
theorem comp_perm {x a b c : Addr × Obj} {l : Led} : ∀ p ∈ a :: b :: c :: x :: l, p ∈ x :: a :: b :: c :: l := by
  intro p hp
  simp only [List.mem_cons] at hp ⊢
  rcases hp with h | h | h | h | h
  · exact .inr (.inl h)
  · exact .inr (.inr (.inl h))
  · exact .inr (.inr (.inr (.inl h)))
  · exact .inl h
  · exact .inr (.inr (.inr (.inr h)))
end
noncomputable def lowC (c : Nat) : Nat := if 65 ≤ c ∧ c ≤ 90 then c + 32 else c
theorem ltA {c : Nat} (h : (⟨#[c]⟩ : Str).cps.toList < (Str.ofString "A").cps.toList) : c < 65 := by
  have e : (Str.ofString "A").cps.toList = [65] := by decide +kernel
  rw [e] at h; simp only [List.cons_lt_cons_iff] at h
  rcases h with h | ⟨_, h⟩
  · exact h
  · exact absurd h (by decide)
theorem geA {c : Nat} (h : ¬ (⟨#[c]⟩ : Str).cps.toList < (Str.ofString "A").cps.toList) : 65 ≤ c := by
  have e : (Str.ofString "A").cps.toList = [65] := by decide +kernel
  rw [e] at h; simp only [List.cons_lt_cons_iff] at h
  omega
theorem gtZ {c : Nat} (h : (Str.ofString "Z").cps.toList < (⟨#[c]⟩ : Str).cps.toList) : 90 < c := by
  have e : (Str.ofString "Z").cps.toList = [90] := by decide +kernel
  rw [e] at h; simp only [List.cons_lt_cons_iff] at h
  rcases h with h | ⟨_, h⟩
  · exact h
  · exact absurd h (by decide)
theorem leZ {c : Nat} (h : ¬ (Str.ofString "Z").cps.toList < (⟨#[c]⟩ : Str).cps.toList) : c ≤ 90 := by
  have e : (Str.ofString "Z").cps.toList = [90] := by decide +kernel
  rw [e] at h; simp only [List.cons_lt_cons_iff] at h
  omega
set_option maxHeartbeats 4000000 in
theorem lower_spec (w : World) (c : Nat) (tk : Tok) (hc : c < 100000) :
    Spec w 5 67 [.str ⟨#[c]⟩ tk] [] (fun r led' => led' = [] ∧ ∃ tk', r = .str ⟨#[lowC c]⟩ tk') := by
  w_top off
  k_with_none
  k_with "room" => (first | exact rmS2 (by assumption) (by decide) | exact rmS3 (by assumption) (by decide) | exact rmS4 (by assumption) (by decide) | exact rm2 (by assumption) (by decide) | exact rm0 (by assumption) | exact rm1 (by assumption) (by decide) | (dsimp +zetaDelta only; ktr_room))
  k_with "units" => (first | exact cl3 (by assumption) (by decide) | exact um2 (by assumption) (by decide) | exact um1 (by assumption) (by decide) | (dsimp +zetaDelta only; ktr_units))
  k_with "is_list" => (exact News.isList (by k_asm) (by k_mem))
  k_with "st" => (first | ((fail_if_success (fail_if_success k_unfold)); refine (?_ : wpAny _ _ _ _ _ _)) | (k_unfold; (try dsimp only)) | (k_end; wrow_close) | walk1 | (dsimp only; walk1) | (leave1; walk_say "STEP leave1"; try dsimp only) | fail "no step")
  k_with "om" => (first | assumption | with_reducible rfl | decide | exact Nat.le_trans (by assumption) (by decide) | exact Nat.lt_of_le_of_lt (by assumption) (by decide) | ((repeat (with_reducible rename _ ∧ _ => om9; clear om9)); first | ((repeat (with_reducible rename _ ≠ _ => om9; clear om9)); (repeat (with_reducible rename @Eq Nat _ _ => om9; clear om9)); (repeat (with_reducible rename @Eq Int _ _ => om9; clear om9)); omega +splitNatSub) | omega +splitNatSub))
  k_with "fold" => ((fail_if_success (fail_if_success k_fold)); refine fold_QES ?_; intro _ _ _ _)
  k_with "kne" => (first | ((refine (?_ : @Ne Nat _ _)); first | assumption | exact Ne.symm (by assumption) | k_extra "ne") | (refine neN ?_; (try dsimp only); first | assumption | exact Ne.symm (by assumption) | k_extra "ne" | omega))
  k_with "tb" => (repeat (first | exact List.forall_mem_nil _ | refine List.forall_mem_cons.mpr ⟨rfl, ?_⟩))
  k_with "ne" => with_reducible (first | exact na0 (by assumption) | exact ns0 (by assumption) | exact na1 (by assumption) | exact ns1 (by assumption) | exact na2 (by assumption) | exact ns2 (by assumption) | exact na3 (by assumption) | exact ns3 (by assumption) | exact na4 (by assumption) | exact ns4 (by assumption) | exact na5 (by assumption) | exact ns5 (by assumption) | exact na6 (by assumption) | exact ns6 (by assumption) | exact na7 (by assumption) | exact ns7 (by assumption) | exact na8 (by assumption) | exact ns8 (by assumption) | exact na9 (by assumption) | exact ns9 (by assumption) | exact na10 (by assumption) | exact ns10 (by assumption) | exact na11 (by assumption) | exact ns11 (by assumption) | exact na12 (by assumption) | exact ns12 (by assumption) | exact na13 (by assumption) | exact ns13 (by assumption) | exact na14 (by assumption) | exact ns14 (by assumption) | exact na15 (by assumption) | exact ns15 (by assumption))
  k_with "execs cons" => ((try ((fail_if_success (fail_if_success k_fold)); refine fold_QE ?_; intro _ _)); refine ex_consA ?_; intro _ _ _ _; (try (with_reducible rename News _ _ _ _ => kN'9; dsimp only at kN'9)); (try (with_reducible rename Fr _ _ _ _ => kF'9; refine f_let kF'9 ?_; clear kF'9; intro _ _)))
  k_with "LeaveH" => (refine' leaveH_ ?k1'9 ?k2'9 ?_; (case k1'9 => k_asm); (case k2'9 => k_asm); k_whole; intro _ _ _ _)
  k_with "pyIter ref" => ((with_reducible show wpAny _ _ (pyIter _) (fun it s₂ => LoopAtV _ _ _ _ _ _ _ _ _ it s₂) _ _); refine Stop.mk ?_)
  k_with "pyIter str" => ((with_reducible show wpAny _ _ (pyIter _) (fun it s₂ => LoopAtV _ _ _ _ _ _ _ _ _ it s₂) _ _); refine Stop.mk ?_)
  k_with "call ref" => (k_extra "mine call")
  k_with "call builtin:len" => (k_here; (with_reducible show wpAny _ _ (call (Value.builtin "len") [Value.ref _]) _ _ _); (with_unfolding_all refine' len_listN ?k1'9 ?k2'9 ?_; (case k1'9 => is_list); (case k2'9 => omega); k_whole))
  k_with "subscriptTail" => (k_here; (with_reducible show wpAny _ _ (subscriptTail _ _ (Value.ref _) (Value.int _ _)) _ _ _); (with_unfolding_all refine' sign_item ?k1'9 ?k2'9 ?k3'9 ?k4'9 ?k5'9 ?_; (case k1'9 => is_list); (case k2'9 => assumption); (case k3'9 => assumption); (case k4'9 => (push_cast; omega)); (case k5'9 => omega); k_whole); intro _)
  k_with "subscriptTail" => (k_here; (with_reducible show wpAny _ _ (subscriptTail _ _ (Value.str _ _) (Value.int _ _)) _ _ _); (with_unfolding_all refine' char_item ?k1'9 ?k2'9 ?k3'9 ?_; (case k1'9 => assumption); (case k2'9 => (push_cast; omega)); (case k3'9 => omega); k_whole))
  k_with "TurnL" => (refine TurnL.ret ?_; (try dsimp only))
  k_with "subscriptTail Name Name str int" => (k_here; (with_reducible show wpAny _ _ (subscriptTail _ _ (Value.str _ _) (Value.int _ _)) _ _ _); (with_unfolding_all refine' char_item ?k1'9 ?k2'9 ?k3'9 ?_; (case k1'9 => assumption); (case k2'9 => (push_cast; omega)); (case k3'9 => omega); k_whole))
  k_with "exec For Name Name cons nil" => (k_here; (rename Fr _ _ _ _ => lF'9); (with_unfolding_all refine' For_invVF lF'9 ?k1'9 ?k2'9 ?_; (case k1'9 => exact rfl); (case k2'9 => exact rfl); k_whole))
  k_with "call builtin:list.append" => (k_here; (with_reducible show wpAny _ _ (call (Value.builtin _) [Value.ref _, _]) _ _ _); k_dflt (refine' append_K ?k1'9 ?k2'9 ?k3'9 ?_ ?z'9; (case k1'9 => k_asm); (case k2'9 => k_asm); (case k3'9 => k_upd); (case z'9 => assumption); k_whole); intro _ _ _; (try k_sweep))
  k_with "eval BinOp" => k_extra "fold"
  k_with "eval Call" => k_extra "fold"
  k_with "eval List" => k_extra "fold"
  k_with "eval Tuple" => k_extra "fold"
  k_with "eval Subscript" => k_extra "fold"
  k_with "eval Compare" => k_extra "fold"
  k_with "eval BoolOp" => k_extra "fold"
  unfold Spec
  intro mg mb mean dp un gd cn cs a ccd cl outer A₀ base h₀ L m s Q E B F X N T hk hroom hun hret
  refine wpAny_call ?_
  k_dflt (refine' enterH ?k1'9 ?k2'9 ?k3'9 ?k4'9 ?k5'9 ?kA'9 ?kF'9 ?kK'9 ?k6'9 ?k7'9 ?k8'9 ?k9'9 ?kB'9 ?_ ?c2'9 ?c3'9 ?c4'9 ?c5'9; (case kA'9 => exact rfl); (case kF'9 => exact rfl); (case kK'9 => assumption); (case k1'9 => k_asm); (case k2'9 => k_asm); (case k3'9 => k_asm); (case k4'9 => k_asm); (case k5'9 => k_asm); (case k6'9 => k_is); (case k7'9 => k_is); (case k8'9 => (first | exact rm0 (by assumption) | exact rm1 (by assumption) (by decide) | k_extra "room" | ktr_room)); (case k9'9 => first | exact BindsTo.of_eq rfl | exact binds_K (by k_in) rfl (by k_is) rfl rfl rfl | exact hbind9 _ (by k_in)); (case c5'9 => decide); (case kB'9 => exact locs rfl); (case c2'9 => exact rfl); (case c3'9 => exact rfl); (case c4'9 => exact rfl); k_whole; intro _ _ _ _ _ _ _ _ l1'9; (try k_lt l1'9); (try dsimp only); (with_reducible refine (?_ : wpAny _ _ _ _ _ _)); (try ((fail_if_success (fail_if_success k_fold)); refine fold_QE ?_; intro _ _)); (try (revert l1'9; intro _)))
  k_steps
  all_goals (
    refine hret _ _ _ _ (by assumption) (by assumption) (by assumption) (by assumption) ⟨rfl, ?_⟩
    first
    | exact ⟨_, by rw [lowC, if_neg]; have := ltA (by assumption); omega⟩
    | exact ⟨_, by rw [lowC, if_neg]; have := gtZ (by assumption); omega⟩
    | exact ⟨_, by rw [lowC, if_pos ⟨geA (by assumption), leZ (by assumption)⟩]; rfl⟩)
/-- where a tokenizer's parts lie -/
structure Tz where
  t : Nat
  td : Nat
  st : Nat
  sd : Nat
  sg : Nat
  se : Nat
  ou : Nat
  er : Nat
  sts : Nat
  so : Obj
  k1 : Tok
  k2 : Tok
  k3 : Tok
  k4 : Tok
  k5 : Tok
  k6 : Tok
  k7 : Tok
  k8 : Tok
  k9 : Tok
  k10 : Tok
  k11 : Tok
  k12 : Tok
  k13 : Tok
  k14 : Tok
  k15 : Tok
  k16 : Tok
  k17 : Tok
  k18 : Tok
/-- what they hold -/
structure Ts where
  at' : Nat
  state : Str
  out : List Value
  errs : List Value
  sv : List Value
  closed : Bool
  isret : Bool
  last : Str
  buf : Str
  waiting : Bool
  done : Bool
  a1 : Tok
  a2 : Tok
  a3 : Tok
  a4 : Tok
  a5 : Tok
  a6 : Tok
  n1 : Nat
  n2 : Nat
  n3 : Nat
  n4 : Nat
noncomputable def Tz.Ok (Z : Tz) : Prop := Z.sts < Z.td ∧ Z.td < Z.t ∧ Z.t < Z.sd ∧ Z.sd < Z.st ∧ Z.st < Z.sg ∧ Z.sg < Z.se ∧ Z.se < Z.ou ∧ Z.ou < Z.er ∧ Z.so.cls = .type "dict"
theorem zl01 {Z : Tz} (h : Z.Ok) : Z.sts < Z.td := h.1
theorem zl02 {Z : Tz} (h : Z.Ok) : Z.sts < Z.t := Nat.lt_trans (zl01 h) h.2.1
theorem zl03 {Z : Tz} (h : Z.Ok) : Z.sts < Z.sd := Nat.lt_trans (zl02 h) h.2.2.1
theorem zl04 {Z : Tz} (h : Z.Ok) : Z.sts < Z.st := Nat.lt_trans (zl03 h) h.2.2.2.1
theorem zl05 {Z : Tz} (h : Z.Ok) : Z.sts < Z.sg := Nat.lt_trans (zl04 h) h.2.2.2.2.1
theorem zl06 {Z : Tz} (h : Z.Ok) : Z.sts < Z.se := Nat.lt_trans (zl05 h) h.2.2.2.2.2.1
theorem zl07 {Z : Tz} (h : Z.Ok) : Z.sts < Z.ou := Nat.lt_trans (zl06 h) h.2.2.2.2.2.2.1
theorem zl08 {Z : Tz} (h : Z.Ok) : Z.sts < Z.er := Nat.lt_trans (zl07 h) h.2.2.2.2.2.2.2.1
theorem zl12 {Z : Tz} (h : Z.Ok) : Z.td < Z.t := h.2.1
theorem zl13 {Z : Tz} (h : Z.Ok) : Z.td < Z.sd := Nat.lt_trans (zl12 h) h.2.2.1
theorem zl14 {Z : Tz} (h : Z.Ok) : Z.td < Z.st := Nat.lt_trans (zl13 h) h.2.2.2.1
theorem zl15 {Z : Tz} (h : Z.Ok) : Z.td < Z.sg := Nat.lt_trans (zl14 h) h.2.2.2.2.1
theorem zl16 {Z : Tz} (h : Z.Ok) : Z.td < Z.se := Nat.lt_trans (zl15 h) h.2.2.2.2.2.1
theorem zl17 {Z : Tz} (h : Z.Ok) : Z.td < Z.ou := Nat.lt_trans (zl16 h) h.2.2.2.2.2.2.1
theorem zl18 {Z : Tz} (h : Z.Ok) : Z.td < Z.er := Nat.lt_trans (zl17 h) h.2.2.2.2.2.2.2.1
theorem zl23 {Z : Tz} (h : Z.Ok) : Z.t < Z.sd := h.2.2.1
theorem zl24 {Z : Tz} (h : Z.Ok) : Z.t < Z.st := Nat.lt_trans (zl23 h) h.2.2.2.1
theorem zl25 {Z : Tz} (h : Z.Ok) : Z.t < Z.sg := Nat.lt_trans (zl24 h) h.2.2.2.2.1
theorem zl26 {Z : Tz} (h : Z.Ok) : Z.t < Z.se := Nat.lt_trans (zl25 h) h.2.2.2.2.2.1
theorem zl27 {Z : Tz} (h : Z.Ok) : Z.t < Z.ou := Nat.lt_trans (zl26 h) h.2.2.2.2.2.2.1
theorem zl28 {Z : Tz} (h : Z.Ok) : Z.t < Z.er := Nat.lt_trans (zl27 h) h.2.2.2.2.2.2.2.1
theorem zl34 {Z : Tz} (h : Z.Ok) : Z.sd < Z.st := h.2.2.2.1
theorem zl35 {Z : Tz} (h : Z.Ok) : Z.sd < Z.sg := Nat.lt_trans (zl34 h) h.2.2.2.2.1
theorem zl36 {Z : Tz} (h : Z.Ok) : Z.sd < Z.se := Nat.lt_trans (zl35 h) h.2.2.2.2.2.1
theorem zl37 {Z : Tz} (h : Z.Ok) : Z.sd < Z.ou := Nat.lt_trans (zl36 h) h.2.2.2.2.2.2.1
theorem zl38 {Z : Tz} (h : Z.Ok) : Z.sd < Z.er := Nat.lt_trans (zl37 h) h.2.2.2.2.2.2.2.1
theorem zl45 {Z : Tz} (h : Z.Ok) : Z.st < Z.sg := h.2.2.2.2.1
theorem zl46 {Z : Tz} (h : Z.Ok) : Z.st < Z.se := Nat.lt_trans (zl45 h) h.2.2.2.2.2.1
theorem zl47 {Z : Tz} (h : Z.Ok) : Z.st < Z.ou := Nat.lt_trans (zl46 h) h.2.2.2.2.2.2.1
theorem zl48 {Z : Tz} (h : Z.Ok) : Z.st < Z.er := Nat.lt_trans (zl47 h) h.2.2.2.2.2.2.2.1
theorem zl56 {Z : Tz} (h : Z.Ok) : Z.sg < Z.se := h.2.2.2.2.2.1
theorem zl57 {Z : Tz} (h : Z.Ok) : Z.sg < Z.ou := Nat.lt_trans (zl56 h) h.2.2.2.2.2.2.1
theorem zl58 {Z : Tz} (h : Z.Ok) : Z.sg < Z.er := Nat.lt_trans (zl57 h) h.2.2.2.2.2.2.2.1
theorem zl67 {Z : Tz} (h : Z.Ok) : Z.se < Z.ou := h.2.2.2.2.2.2.1
theorem zl68 {Z : Tz} (h : Z.Ok) : Z.se < Z.er := Nat.lt_trans (zl67 h) h.2.2.2.2.2.2.2.1
theorem zl78 {Z : Tz} (h : Z.Ok) : Z.ou < Z.er := h.2.2.2.2.2.2.2.1
theorem zn01 {Z : Tz} (h : Z.Ok) : Z.sts ≠ Z.td := Nat.ne_of_lt (zl01 h)
theorem zn10 {Z : Tz} (h : Z.Ok) : Z.td ≠ Z.sts := Nat.ne_of_gt (zl01 h)
theorem zn02 {Z : Tz} (h : Z.Ok) : Z.sts ≠ Z.t := Nat.ne_of_lt (zl02 h)
theorem zn20 {Z : Tz} (h : Z.Ok) : Z.t ≠ Z.sts := Nat.ne_of_gt (zl02 h)
theorem zn03 {Z : Tz} (h : Z.Ok) : Z.sts ≠ Z.sd := Nat.ne_of_lt (zl03 h)
theorem zn30 {Z : Tz} (h : Z.Ok) : Z.sd ≠ Z.sts := Nat.ne_of_gt (zl03 h)
theorem zn04 {Z : Tz} (h : Z.Ok) : Z.sts ≠ Z.st := Nat.ne_of_lt (zl04 h)
theorem zn40 {Z : Tz} (h : Z.Ok) : Z.st ≠ Z.sts := Nat.ne_of_gt (zl04 h)
theorem zn05 {Z : Tz} (h : Z.Ok) : Z.sts ≠ Z.sg := Nat.ne_of_lt (zl05 h)
theorem zn50 {Z : Tz} (h : Z.Ok) : Z.sg ≠ Z.sts := Nat.ne_of_gt (zl05 h)
theorem zn06 {Z : Tz} (h : Z.Ok) : Z.sts ≠ Z.se := Nat.ne_of_lt (zl06 h)
theorem zn60 {Z : Tz} (h : Z.Ok) : Z.se ≠ Z.sts := Nat.ne_of_gt (zl06 h)
theorem zn07 {Z : Tz} (h : Z.Ok) : Z.sts ≠ Z.ou := Nat.ne_of_lt (zl07 h)
theorem zn70 {Z : Tz} (h : Z.Ok) : Z.ou ≠ Z.sts := Nat.ne_of_gt (zl07 h)
theorem zn08 {Z : Tz} (h : Z.Ok) : Z.sts ≠ Z.er := Nat.ne_of_lt (zl08 h)
theorem zn80 {Z : Tz} (h : Z.Ok) : Z.er ≠ Z.sts := Nat.ne_of_gt (zl08 h)
theorem zn12 {Z : Tz} (h : Z.Ok) : Z.td ≠ Z.t := Nat.ne_of_lt (zl12 h)
theorem zn21 {Z : Tz} (h : Z.Ok) : Z.t ≠ Z.td := Nat.ne_of_gt (zl12 h)
theorem zn13 {Z : Tz} (h : Z.Ok) : Z.td ≠ Z.sd := Nat.ne_of_lt (zl13 h)
theorem zn31 {Z : Tz} (h : Z.Ok) : Z.sd ≠ Z.td := Nat.ne_of_gt (zl13 h)
theorem zn14 {Z : Tz} (h : Z.Ok) : Z.td ≠ Z.st := Nat.ne_of_lt (zl14 h)
theorem zn41 {Z : Tz} (h : Z.Ok) : Z.st ≠ Z.td := Nat.ne_of_gt (zl14 h)
theorem zn15 {Z : Tz} (h : Z.Ok) : Z.td ≠ Z.sg := Nat.ne_of_lt (zl15 h)
theorem zn51 {Z : Tz} (h : Z.Ok) : Z.sg ≠ Z.td := Nat.ne_of_gt (zl15 h)
theorem zn16 {Z : Tz} (h : Z.Ok) : Z.td ≠ Z.se := Nat.ne_of_lt (zl16 h)
theorem zn61 {Z : Tz} (h : Z.Ok) : Z.se ≠ Z.td := Nat.ne_of_gt (zl16 h)
theorem zn17 {Z : Tz} (h : Z.Ok) : Z.td ≠ Z.ou := Nat.ne_of_lt (zl17 h)
theorem zn71 {Z : Tz} (h : Z.Ok) : Z.ou ≠ Z.td := Nat.ne_of_gt (zl17 h)
theorem zn18 {Z : Tz} (h : Z.Ok) : Z.td ≠ Z.er := Nat.ne_of_lt (zl18 h)
theorem zn81 {Z : Tz} (h : Z.Ok) : Z.er ≠ Z.td := Nat.ne_of_gt (zl18 h)
theorem zn23 {Z : Tz} (h : Z.Ok) : Z.t ≠ Z.sd := Nat.ne_of_lt (zl23 h)
theorem zn32 {Z : Tz} (h : Z.Ok) : Z.sd ≠ Z.t := Nat.ne_of_gt (zl23 h)
theorem zn24 {Z : Tz} (h : Z.Ok) : Z.t ≠ Z.st := Nat.ne_of_lt (zl24 h)
theorem zn42 {Z : Tz} (h : Z.Ok) : Z.st ≠ Z.t := Nat.ne_of_gt (zl24 h)
theorem zn25 {Z : Tz} (h : Z.Ok) : Z.t ≠ Z.sg := Nat.ne_of_lt (zl25 h)
theorem zn52 {Z : Tz} (h : Z.Ok) : Z.sg ≠ Z.t := Nat.ne_of_gt (zl25 h)
theorem zn26 {Z : Tz} (h : Z.Ok) : Z.t ≠ Z.se := Nat.ne_of_lt (zl26 h)
theorem zn62 {Z : Tz} (h : Z.Ok) : Z.se ≠ Z.t := Nat.ne_of_gt (zl26 h)
theorem zn27 {Z : Tz} (h : Z.Ok) : Z.t ≠ Z.ou := Nat.ne_of_lt (zl27 h)
theorem zn72 {Z : Tz} (h : Z.Ok) : Z.ou ≠ Z.t := Nat.ne_of_gt (zl27 h)
theorem zn28 {Z : Tz} (h : Z.Ok) : Z.t ≠ Z.er := Nat.ne_of_lt (zl28 h)
theorem zn82 {Z : Tz} (h : Z.Ok) : Z.er ≠ Z.t := Nat.ne_of_gt (zl28 h)
theorem zn34 {Z : Tz} (h : Z.Ok) : Z.sd ≠ Z.st := Nat.ne_of_lt (zl34 h)
theorem zn43 {Z : Tz} (h : Z.Ok) : Z.st ≠ Z.sd := Nat.ne_of_gt (zl34 h)
theorem zn35 {Z : Tz} (h : Z.Ok) : Z.sd ≠ Z.sg := Nat.ne_of_lt (zl35 h)
theorem zn53 {Z : Tz} (h : Z.Ok) : Z.sg ≠ Z.sd := Nat.ne_of_gt (zl35 h)
theorem zn36 {Z : Tz} (h : Z.Ok) : Z.sd ≠ Z.se := Nat.ne_of_lt (zl36 h)
theorem zn63 {Z : Tz} (h : Z.Ok) : Z.se ≠ Z.sd := Nat.ne_of_gt (zl36 h)
theorem zn37 {Z : Tz} (h : Z.Ok) : Z.sd ≠ Z.ou := Nat.ne_of_lt (zl37 h)
theorem zn73 {Z : Tz} (h : Z.Ok) : Z.ou ≠ Z.sd := Nat.ne_of_gt (zl37 h)
theorem zn38 {Z : Tz} (h : Z.Ok) : Z.sd ≠ Z.er := Nat.ne_of_lt (zl38 h)
theorem zn83 {Z : Tz} (h : Z.Ok) : Z.er ≠ Z.sd := Nat.ne_of_gt (zl38 h)
theorem zn45 {Z : Tz} (h : Z.Ok) : Z.st ≠ Z.sg := Nat.ne_of_lt (zl45 h)
theorem zn54 {Z : Tz} (h : Z.Ok) : Z.sg ≠ Z.st := Nat.ne_of_gt (zl45 h)
theorem zn46 {Z : Tz} (h : Z.Ok) : Z.st ≠ Z.se := Nat.ne_of_lt (zl46 h)
theorem zn64 {Z : Tz} (h : Z.Ok) : Z.se ≠ Z.st := Nat.ne_of_gt (zl46 h)
theorem zn47 {Z : Tz} (h : Z.Ok) : Z.st ≠ Z.ou := Nat.ne_of_lt (zl47 h)
theorem zn74 {Z : Tz} (h : Z.Ok) : Z.ou ≠ Z.st := Nat.ne_of_gt (zl47 h)
theorem zn48 {Z : Tz} (h : Z.Ok) : Z.st ≠ Z.er := Nat.ne_of_lt (zl48 h)
theorem zn84 {Z : Tz} (h : Z.Ok) : Z.er ≠ Z.st := Nat.ne_of_gt (zl48 h)
theorem zn56 {Z : Tz} (h : Z.Ok) : Z.sg ≠ Z.se := Nat.ne_of_lt (zl56 h)
theorem zn65 {Z : Tz} (h : Z.Ok) : Z.se ≠ Z.sg := Nat.ne_of_gt (zl56 h)
theorem zn57 {Z : Tz} (h : Z.Ok) : Z.sg ≠ Z.ou := Nat.ne_of_lt (zl57 h)
theorem zn75 {Z : Tz} (h : Z.Ok) : Z.ou ≠ Z.sg := Nat.ne_of_gt (zl57 h)
theorem zn58 {Z : Tz} (h : Z.Ok) : Z.sg ≠ Z.er := Nat.ne_of_lt (zl58 h)
theorem zn85 {Z : Tz} (h : Z.Ok) : Z.er ≠ Z.sg := Nat.ne_of_gt (zl58 h)
theorem zn67 {Z : Tz} (h : Z.Ok) : Z.se ≠ Z.ou := Nat.ne_of_lt (zl67 h)
theorem zn76 {Z : Tz} (h : Z.Ok) : Z.ou ≠ Z.se := Nat.ne_of_gt (zl67 h)
theorem zn68 {Z : Tz} (h : Z.Ok) : Z.se ≠ Z.er := Nat.ne_of_lt (zl68 h)
theorem zn86 {Z : Tz} (h : Z.Ok) : Z.er ≠ Z.se := Nat.ne_of_gt (zl68 h)
theorem zn78 {Z : Tz} (h : Z.Ok) : Z.ou ≠ Z.er := Nat.ne_of_lt (zl78 h)
theorem zn87 {Z : Tz} (h : Z.Ok) : Z.er ≠ Z.ou := Nat.ne_of_gt (zl78 h)
noncomputable def tzEs (w : World) (Z : Tz) (at' : Int) (state last buf : Str) (waiting done : Bool) (a1 a2 a3 a4 a5 a6 : Tok) : List DictEntry := [
     ⟨PyData.keyHash w.params "states", .str "states" Z.k1, .ref Z.sts⟩,
     ⟨PyData.keyHash w.params "stream", .str "stream" Z.k2, .ref Z.st⟩,
     ⟨PyData.keyHash w.params "at", .str "at" Z.k3, .int at' a1⟩,
     ⟨PyData.keyHash w.params "state", .str "state" Z.k4, .str state a2⟩,
     ⟨PyData.keyHash w.params "back", .str "back" Z.k5, .str "data" a3⟩,
     ⟨PyData.keyHash w.params "out", .str "out" Z.k6, .ref Z.ou⟩,
     ⟨PyData.keyHash w.params "errors", .str "errors" Z.k7, .ref Z.er⟩,
     ⟨PyData.keyHash w.params "draft", .str "draft" Z.k8, .none⟩,
     ⟨PyData.keyHash w.params "buffer", .str "buffer" Z.k9, .str buf a4⟩,
     ⟨PyData.keyHash w.params "code", .str "code" Z.k10, .int 0 a5⟩,
     ⟨PyData.keyHash w.params "last", .str "last" Z.k11, .str last a6⟩,
     ⟨PyData.keyHash w.params "is_foreign", .str "is_foreign" Z.k12, .bool false⟩,
     ⟨PyData.keyHash w.params "is_waiting", .str "is_waiting" Z.k13, .bool waiting⟩,
     ⟨PyData.keyHash w.params "is_done", .str "is_done" Z.k14, .bool done⟩]
noncomputable def stEs (w : World) (Z : Tz) (closed isret : Bool) : List DictEntry := [
     ⟨PyData.keyHash w.params "signs", .str "signs" Z.k15, .ref Z.sg⟩,
     ⟨PyData.keyHash w.params "is_closed", .str "is_closed" Z.k16, .bool closed⟩,
     ⟨PyData.keyHash w.params "is_return", .str "is_return" Z.k17, .bool isret⟩,
     ⟨PyData.keyHash w.params "errors", .str "errors" Z.k18, .ref Z.se⟩]
noncomputable def tzLed (w : World) (Z : Tz) (S : Ts) : Led :=
  [(Z.t, instObj 296 Z.td),
   (Z.td, dictOf (tzEs w Z (S.at' : Nat) S.state S.last S.buf S.waiting S.done S.a1 S.a2 S.a3 S.a4 S.a5 S.a6) 14),
   (Z.st, instObj 133 Z.sd),
   (Z.sd, dictOf (stEs w Z S.closed S.isret) 4),
   (Z.sg, listOf S.sv.toArray S.n1), (Z.se, listOf #[] S.n2), (Z.ou, listOf S.out.toArray S.n3), (Z.er, listOf S.errs.toArray S.n4), (Z.sts, Z.so)]
theorem tz_kind {w : World} {Z : Tz} {S : Ts} (h : Z.so.cls = .type "dict") : ∀ p ∈ tzLed w Z S, p.2.cls ≠ .type "tuple" := by
  intro p hp
  simp only [tzLed, List.mem_cons, List.not_mem_nil, or_false] at hp
  rcases hp with rfl | rfl | rfl | rfl | rfl | rfl | rfl | rfl | rfl
  all_goals (dsimp only [instObj, dictOf, W.listOf]; first | (intro e; simp at e; done) | (intro e; rw [h] at e; simp at e))
theorem tz_addr (w : World) (Z : Tz) (S : Ts) : (tzLed w Z S).map (·.1) = [Z.t, Z.td, Z.st, Z.sd, Z.sg, Z.se, Z.ou, Z.er, Z.sts] := rfl
theorem tz_cons (w : World) (Z : Tz) (at' : Nat) (state : Str) (out errs sv : List Value) (closed isret : Bool) (last buf : Str) (waiting done : Bool) (a1 a2 a3 a4 a5 a6 : Tok) (n1 n2 n3 n4 : Nat) (tail : Led) :
  (Z.t, instObj 296 Z.td) ::
   (Z.td, dictOf (tzEs w Z (at' : Nat) state last buf waiting done a1 a2 a3 a4 a5 a6) 14) ::
   (Z.st, instObj 133 Z.sd) ::
   (Z.sd, dictOf (stEs w Z closed isret) 4) ::
   (Z.sg, listOf sv.toArray n1) ::
   (Z.se, listOf #[] n2) ::
   (Z.ou, listOf out.toArray n3) ::
   (Z.er, listOf errs.toArray n4) ::
   (Z.sts, Z.so) :: tail = tzLed w Z ⟨at', state, out, errs, sv, closed, isret, last, buf, waiting, done, a1, a2, a3, a4, a5, a6, n1, n2, n3, n4⟩ ++ tail := rfl
noncomputable abbrev tzAdr (Z : Tz) : List Addr := [Z.t, Z.td, Z.st, Z.sd, Z.sg, Z.se, Z.ou, Z.er, Z.sts]
/-- what lies behind a tokenizer's ledger: tuples, and what is known to lie apart -/
theorem own_tail {w : World} {Z : Tz} {S : Ts} {h₀ h : Heap} {L : Addr} {nt r : Led} (N : News h₀ L h ((tzLed w Z S ++ nt) ++ r)) (h9 : Z.so.cls = .type "dict") (hT : Tups nt) (hr : OwnOff r (tzAdr Z)) : OwnOff (nt ++ r) (tzAdr Z) := by
  refine OwnOff.app ?_ hr
  exact off_kind N (fun p hp => List.mem_append_left _ (List.mem_append_left _ hp)) (fun p hp => List.mem_append_left _ (List.mem_append_right _ hp)) (tz_kind h9) hT
theorem own_tail3 {w : World} {Z : Tz} {S : Ts} {h₀ h : Heap} {L : Addr} {nt : Led} {x y z : Addr × Obj} (N : News h₀ L h ((tzLed w Z S ++ nt) ++ ([x] ++ [y, z]))) (h9 : Z.so.cls = .type "dict") (hT : Tups nt)
    (hx : ∀ b ∈ tzAdr Z, x.1 ≠ b) (hy : ∀ b ∈ tzAdr Z, y.1 ≠ b) (hz : ∀ b ∈ tzAdr Z, z.1 ≠ b) : OwnOff (nt ++ [x, y, z]) [Z.t, Z.td, Z.st, Z.sd, Z.sg, Z.se, Z.ou, Z.er, Z.sts] :=
  own_tail (r := [x, y, z]) N h9 hT (OwnOff.cons hx (OwnOff.cons hy (OwnOff.cons hz OwnOff.nil)))
theorem off_tail {w : World} {Z : Tz} {S : Ts} {h₀ h : Heap} {L : Addr} {nt : Led} (N : News h₀ L h ((tzLed w Z S ++ nt) ++ ([] ++ []))) (h9 : Z.so.cls = .type "dict") (hT : Tups nt) : OwnOff nt [Z.t, Z.td, Z.st, Z.sd, Z.sg, Z.se, Z.ou, Z.er, Z.sts] := by
  have := own_tail (r := []) N h9 hT OwnOff.nil
  rw [List.append_nil] at this
  exact this
theorem set_tz {prog : Program} {w : World} {A : Around} {E : Value → Shared → Prop} {s : Shared} {K : Frag} {h₀ : Heap} {L x C dx : Addr} {ox : Obj} {m : Str → Option Value} {news news' : Led} {es : List DictEntry} {n n' : Nat} {name : Str} {v : Value} {Q : Unit → Shared → Prop} {Z : Tz} {at' : Int} {state last buf : Str} {waiting done : Bool} {a1 a2 a3 a4 a5 a6 : Tok} (F : Fr h₀ L s.heap m) (X₀ : K.In h₀) (N : News h₀ L s.heap news) (I : InstAt s.heap x ox C (some (dictOf es n))) (hd : ox.dict = some dx)
    (hs : findIn K (.ref C) "__setattr__" = some (some (.builtin "object.__setattr__"))) (hp : plainOver K C = true) (ht : takerIn K C name = some none) (hh : hasDictIn K C = true) (hl : (getL name es).isSome = true)
    (e : (putL name (PyData.keyHash w.params name) (.str name (s.toks + 1)) v es, putN name es n) = (tzEs w Z at' state last buf waiting done a1 a2 a3 a4 a5 a6, n')) (U : Upd dx (dictOf es n) (dictOf (tzEs w Z at' state last buf waiting done a1 a2 a3 a4 a5 a6) n') news news') (hz : (tzEs w Z at' state last buf waiting done a1 a2 a3 a4 a5 a6).length ≤ 1000)
    (h : ∀ h', Fr h₀ L h' m → News h₀ L h' news' → Q () { s with heap := h', toks := s.toks + 2 }) :
    wpAny (model prog w) A (setAttr (.ref x) name v) Q E s := set_dict F X₀ N I hd hs hp ht hh hl e U hz h
theorem set_st {prog : Program} {w : World} {A : Around} {E : Value → Shared → Prop} {s : Shared} {K : Frag} {h₀ : Heap} {L x C dx : Addr} {ox : Obj} {m : Str → Option Value} {news news' : Led} {es : List DictEntry} {n n' : Nat} {name : Str} {v : Value} {Q : Unit → Shared → Prop} {Z : Tz} {closed isret : Bool} (F : Fr h₀ L s.heap m) (X₀ : K.In h₀) (N : News h₀ L s.heap news) (I : InstAt s.heap x ox C (some (dictOf es n))) (hd : ox.dict = some dx)
    (hs : findIn K (.ref C) "__setattr__" = some (some (.builtin "object.__setattr__"))) (hp : plainOver K C = true) (ht : takerIn K C name = some none) (hh : hasDictIn K C = true) (hl : (getL name es).isSome = true)
    (e : (putL name (PyData.keyHash w.params name) (.str name (s.toks + 1)) v es, putN name es n) = (stEs w Z closed isret, n')) (U : Upd dx (dictOf es n) (dictOf (stEs w Z closed isret) n') news news') (hz : (stEs w Z closed isret).length ≤ 1000)
    (h : ∀ h', Fr h₀ L h' m → News h₀ L h' news' → Q () { s with heap := h', toks := s.toks + 2 }) :
    wpAny (model prog w) A (setAttr (.ref x) name v) Q E s := set_dict F X₀ N I hd hs hp ht hh hl e U hz h
section
open PySem.MeetsSeq PySem.MeetsSeq2
open PySem.AutoSeq1 (wpAny_loadPart')
theorem forIn_rangeN {M : Model} {A : Around} {E : Value → Shared → Prop} {s : Shared} {β : Type} (n : Nat) (f : Nat → β → Sem (ForInStep β)) (I : List Nat → β → Shared → Prop) (Q : β → Shared → Prop)
    (turn : ∀ x rest b s, I (x :: rest) b s → wpAny M A (f x b) (fun r s' => match r with | .yield b' => I rest b' s' | .done b' => Q b' s') E s)
    (fin : ∀ b s, I [] b s → Q b s) (b : β) (h : I (List.range' 0 n) b s) : wpAny M A (forIn [:n] b f) Q E s := by
  rw [Std.Legacy.Range.forIn_eq_forIn_range']
  simp only [Std.Legacy.Range.size, Nat.sub_zero, Nat.add_sub_cancel, Nat.div_one]
  exact wpAny_forIn_list f I Q turn fin _ b h
theorem tuple_index (l : Addr) (items : Array Value) (n : Nat) (x : Value) (e : Value → Bool) (he : ∀ y, y ∈ items → EqGives y x (e y)) (j : Nat) (hj : j < items.size) (hit : e items[j] = true) (hno : ∀ m (hm : m < items.size), m < j → e items[m] = false) :
    Meets (Builtin.«tuple.index» ⟨[.ref l, x], []⟩)
      (fun _ R s => s.heap.get? l = some { cls := .type "tuple", dict := none, data := .seq items n, slots := #[] } ∧ R (.ok (.ret (.int j s.toks))) { s with toks := s.toks + 1 }) :=
  .of_wp fun prog w A R s h => by
    obtain ⟨hp, g, d, tk, os⟩ := s; obtain ⟨hl, h⟩ := h
    wp_walk using wpAny_loadPart' hl, forIn_rangeN (min items.size items.size) _ (fun rest b s' => b.1 = none ∧ s' = ⟨hp, g, d, tk, os⟩ ∧ ∃ i, i ≤ j ∧ rest = List.range' i (items.size - i)) _
    case turn =>
      rintro i rest b s' ⟨hb, rfl, i', hi', hr⟩
      have hs : items.size - i' = (items.size - (i' + 1)) + 1 := by omega
      rw [hs, List.range'_succ] at hr
      injection hr with h1 h2
      subst h1 h2
      have hlt : i < items.size := by omega
      have hq : items[i]? = some items[i] := by simp [hlt]
      rw [hq]
      refine wpAny_bind (he items[i] (Array.getElem_mem hlt) prog w _ _ _ _ ?_)
      by_cases hij : i = j
      · subst hij
        rw [hit]
        wp_walk
        exact ⟨_, rfl, h⟩
      · rw [hno i hlt (by omega)]
        wp_walk
        exact ⟨rfl, rfl, i + 1, by omega, rfl⟩
    case fin =>
      rintro ⟨b1, b2⟩ s' ⟨hb, rfl, i, hi, hr⟩
      have : (List.range' i (items.size - i)).length = 0 := by rw [← hr]; rfl
      rw [List.length_range'] at this
      omega
    case h =>
      exact ⟨rfl, rfl, 0, Nat.zero_le _, by simp⟩
end
section
noncomputable def nm : Nat → Str
  | 0 => "one"
  | 1 => "two"
  | 2 => "three"
  | 3 => "four"
  | _ => "five"
noncomputable abbrev nameTup (t0 t1 t2 t3 t4 : Tok) : Obj := tupObj [.str (nm 0) t0, .str (nm 1) t1, .str (nm 2) t2, .str (nm 3) t3, .str (nm 4) t4]
set_option maxHeartbeats 4000000 in
theorem names_spec (w : World) :
    Spec w 5 314 [] [] (fun r led' => ∃ a t0 t1 t2 t3 t4, r = .ref a ∧ led' = [(a, nameTup t0 t1 t2 t3 t4)]) := by
  w_top off
  k_with_none
  k_with "room" => (first | exact rmS2 (by assumption) (by decide) | exact rmS3 (by assumption) (by decide) | exact rmS4 (by assumption) (by decide) | exact rm2 (by assumption) (by decide) | exact rm0 (by assumption) | exact rm1 (by assumption) (by decide) | (dsimp +zetaDelta only; ktr_room))
  k_with "units" => (first | exact cl3 (by assumption) (by decide) | exact um2 (by assumption) (by decide) | exact um1 (by assumption) (by decide) | (dsimp +zetaDelta only; ktr_units))
  k_with "is_list" => (exact News.isList (by k_asm) (by k_mem))
  k_with "st" => (first | ((fail_if_success (fail_if_success k_unfold)); refine (?_ : wpAny _ _ _ _ _ _)) | (k_unfold; (try dsimp only)) | (k_end; wrow_close) | walk1 | (dsimp only; walk1) | (leave1; walk_say "STEP leave1"; try dsimp only) | fail "no step")
  k_with "om" => (first | assumption | with_reducible rfl | decide | exact Nat.le_trans (by assumption) (by decide) | exact Nat.lt_of_le_of_lt (by assumption) (by decide) | ((repeat (with_reducible rename _ ∧ _ => om9; clear om9)); first | ((repeat (with_reducible rename _ ≠ _ => om9; clear om9)); (repeat (with_reducible rename @Eq Nat _ _ => om9; clear om9)); (repeat (with_reducible rename @Eq Int _ _ => om9; clear om9)); omega +splitNatSub) | omega +splitNatSub))
  k_with "fold" => ((fail_if_success (fail_if_success k_fold)); refine fold_QES ?_; intro _ _ _ _)
  k_with "kne" => (first | ((refine (?_ : @Ne Nat _ _)); first | assumption | exact Ne.symm (by assumption) | k_extra "ne") | (refine neN ?_; (try dsimp only); first | assumption | exact Ne.symm (by assumption) | k_extra "ne" | omega))
  k_with "tb" => (repeat (first | exact List.forall_mem_nil _ | refine List.forall_mem_cons.mpr ⟨rfl, ?_⟩))
  k_with "ne" => with_reducible (first | exact na0 (by assumption) | exact ns0 (by assumption) | exact na1 (by assumption) | exact ns1 (by assumption) | exact na2 (by assumption) | exact ns2 (by assumption) | exact na3 (by assumption) | exact ns3 (by assumption) | exact na4 (by assumption) | exact ns4 (by assumption) | exact na5 (by assumption) | exact ns5 (by assumption) | exact na6 (by assumption) | exact ns6 (by assumption) | exact na7 (by assumption) | exact ns7 (by assumption) | exact na8 (by assumption) | exact ns8 (by assumption) | exact na9 (by assumption) | exact ns9 (by assumption) | exact na10 (by assumption) | exact ns10 (by assumption) | exact na11 (by assumption) | exact ns11 (by assumption) | exact na12 (by assumption) | exact ns12 (by assumption) | exact na13 (by assumption) | exact ns13 (by assumption) | exact na14 (by assumption) | exact ns14 (by assumption) | exact na15 (by assumption) | exact ns15 (by assumption))
  k_with "ne" => with_reducible (first | (show Tz.sts _ ≠ _; first | exact zn01 (by assumption) | exact zn02 (by assumption) | exact zn03 (by assumption) | exact zn04 (by assumption) | exact zn05 (by assumption) | exact zn06 (by assumption) | exact zn07 (by assumption) | exact zn08 (by assumption)) | (show Tz.td _ ≠ _; first | exact zn10 (by assumption) | exact zn12 (by assumption) | exact zn13 (by assumption) | exact zn14 (by assumption) | exact zn15 (by assumption) | exact zn16 (by assumption) | exact zn17 (by assumption) | exact zn18 (by assumption)) | (show Tz.t _ ≠ _; first | exact zn20 (by assumption) | exact zn21 (by assumption) | exact zn23 (by assumption) | exact zn24 (by assumption) | exact zn25 (by assumption) | exact zn26 (by assumption) | exact zn27 (by assumption) | exact zn28 (by assumption)) | (show Tz.sd _ ≠ _; first | exact zn30 (by assumption) | exact zn31 (by assumption) | exact zn32 (by assumption) | exact zn34 (by assumption) | exact zn35 (by assumption) | exact zn36 (by assumption) | exact zn37 (by assumption) | exact zn38 (by assumption)) | (show Tz.st _ ≠ _; first | exact zn40 (by assumption) | exact zn41 (by assumption) | exact zn42 (by assumption) | exact zn43 (by assumption) | exact zn45 (by assumption) | exact zn46 (by assumption) | exact zn47 (by assumption) | exact zn48 (by assumption)) | (show Tz.sg _ ≠ _; first | exact zn50 (by assumption) | exact zn51 (by assumption) | exact zn52 (by assumption) | exact zn53 (by assumption) | exact zn54 (by assumption) | exact zn56 (by assumption) | exact zn57 (by assumption) | exact zn58 (by assumption)) | (show Tz.se _ ≠ _; first | exact zn60 (by assumption) | exact zn61 (by assumption) | exact zn62 (by assumption) | exact zn63 (by assumption) | exact zn64 (by assumption) | exact zn65 (by assumption) | exact zn67 (by assumption) | exact zn68 (by assumption)) | (show Tz.ou _ ≠ _; first | exact zn70 (by assumption) | exact zn71 (by assumption) | exact zn72 (by assumption) | exact zn73 (by assumption) | exact zn74 (by assumption) | exact zn75 (by assumption) | exact zn76 (by assumption) | exact zn78 (by assumption)) | (show Tz.er _ ≠ _; first | exact zn80 (by assumption) | exact zn81 (by assumption) | exact zn82 (by assumption) | exact zn83 (by assumption) | exact zn84 (by assumption) | exact zn85 (by assumption) | exact zn86 (by assumption) | exact zn87 (by assumption)))
  k_with "execs cons" => ((try ((fail_if_success (fail_if_success k_fold)); refine fold_QE ?_; intro _ _)); refine ex_consA ?_; intro _ _ _ _; (try (with_reducible rename News _ _ _ _ => kN'9; dsimp only at kN'9)); (try (with_reducible rename Fr _ _ _ _ => kF'9; refine f_let kF'9 ?_; clear kF'9; intro _ _)))
  k_with "LeaveH" => (refine' leaveH_ ?k1'9 ?k2'9 ?_; (case k1'9 => k_asm); (case k2'9 => k_asm); k_whole; intro _ _ _ _)
  k_with "pyIter ref" => ((with_reducible show wpAny _ _ (pyIter _) (fun it s₂ => LoopAtV _ _ _ _ _ _ _ _ _ it s₂) _ _); refine Stop.mk ?_)
  k_with "pyIter str" => ((with_reducible show wpAny _ _ (pyIter _) (fun it s₂ => LoopAtV _ _ _ _ _ _ _ _ _ it s₂) _ _); refine Stop.mk ?_)
  k_with "call ref" => (k_extra "mine call")
  k_with "call builtin:len" => (k_here; (with_reducible show wpAny _ _ (call (Value.builtin "len") [Value.ref _]) _ _ _); (with_unfolding_all refine' len_listN ?k1'9 ?k2'9 ?_; (case k1'9 => is_list); (case k2'9 => omega); k_whole))
  k_with "subscriptTail" => (k_here; (with_reducible show wpAny _ _ (subscriptTail _ _ (Value.ref _) (Value.int _ _)) _ _ _); (with_unfolding_all refine' sign_item ?k1'9 ?k2'9 ?k3'9 ?k4'9 ?k5'9 ?_; (case k1'9 => is_list); (case k2'9 => assumption); (case k3'9 => assumption); (case k4'9 => (push_cast; omega)); (case k5'9 => omega); k_whole); intro _)
  k_with "subscriptTail" => (k_here; (with_reducible show wpAny _ _ (subscriptTail _ _ (Value.str _ _) (Value.int _ _)) _ _ _); (with_unfolding_all refine' char_item ?k1'9 ?k2'9 ?k3'9 ?_; (case k1'9 => assumption); (case k2'9 => (push_cast; omega)); (case k3'9 => omega); k_whole))
  k_with "TurnL" => (refine TurnL.ret ?_; (try dsimp only))
  k_with "subscriptTail Name Name str int" => (k_here; (with_reducible show wpAny _ _ (subscriptTail _ _ (Value.str _ _) (Value.int _ _)) _ _ _); (with_unfolding_all refine' char_item ?k1'9 ?k2'9 ?k3'9 ?_; (case k1'9 => assumption); (case k2'9 => (push_cast; omega)); (case k3'9 => omega); k_whole))
  k_with "exec For Name Name cons nil" => (k_here; (rename Fr _ _ _ _ => lF'9); (with_unfolding_all refine' For_invVF lF'9 ?k1'9 ?k2'9 ?_; (case k1'9 => exact rfl); (case k2'9 => exact rfl); k_whole))
  k_with "call builtin:list.append" => (k_here; (with_reducible show wpAny _ _ (call (Value.builtin _) [Value.ref _, _]) _ _ _); k_dflt (refine' append_K ?k1'9 ?k2'9 ?k3'9 ?_ ?z'9; (case k1'9 => k_asm); (case k2'9 => k_asm); (case k3'9 => k_upd); (case z'9 => assumption); k_whole); intro _ _ _; (try k_sweep))
  k_with "setAttr ref" => (k_here; k_dflt (first | (refine' set_tz ?k1'9 ?k2'9 ?k3'9 ?k4'9 ?k5'9 ?k6'9 ?k7'9 ?k8'9 ?k9'9 ?k10'9 ?k11'9 ?k12'9 ?k13'9 ?_; (case k1'9 => k_asm); (case k2'9 => k_asm); (case k3'9 => k_asm); (case k4'9 => k_inst); (case k5'9 => exact rfl); (case k6'9 => k_is); (case k7'9 => k_is); (case k8'9 => k_is); (case k9'9 => k_is); (case k10'9 => k_get); (case k11'9 => k_put); (case k12'9 => k_upd); (case k13'9 => exact Nat.le_of_ble_eq_true rfl); k_whole; intro _ _ _; (try k_sweep)) | (refine' set_st ?k1'9 ?k2'9 ?k3'9 ?k4'9 ?k5'9 ?k6'9 ?k7'9 ?k8'9 ?k9'9 ?k10'9 ?k11'9 ?k12'9 ?k13'9 ?_; (case k1'9 => k_asm); (case k2'9 => k_asm); (case k3'9 => k_asm); (case k4'9 => k_inst); (case k5'9 => exact rfl); (case k6'9 => k_is); (case k7'9 => k_is); (case k8'9 => k_is); (case k9'9 => k_is); (case k10'9 => k_get); (case k11'9 => k_put); (case k12'9 => k_upd); (case k13'9 => exact Nat.le_of_ble_eq_true rfl); k_whole; intro _ _ _; (try k_sweep))))
  k_with "eval BinOp" => k_extra "fold"
  k_with "eval Call" => k_extra "fold"
  k_with "eval List" => k_extra "fold"
  k_with "eval Tuple" => k_extra "fold"
  k_with "eval Subscript" => k_extra "fold"
  k_with "eval Compare" => k_extra "fold"
  k_with "eval BoolOp" => k_extra "fold"
  unfold Spec
  intro mg mb mean dp un gd cn cs a ccd cl outer A₀ base h₀ L m s Q E B F X N T hk hroom hun hret
  refine wpAny_call ?_
  k_dflt (refine' enterH ?k1'9 ?k2'9 ?k3'9 ?k4'9 ?k5'9 ?kA'9 ?kF'9 ?kK'9 ?k6'9 ?k7'9 ?k8'9 ?k9'9 ?kB'9 ?_ ?c2'9 ?c3'9 ?c4'9 ?c5'9; (case kA'9 => exact rfl); (case kF'9 => exact rfl); (case kK'9 => assumption); (case k1'9 => k_asm); (case k2'9 => k_asm); (case k3'9 => k_asm); (case k4'9 => k_asm); (case k5'9 => k_asm); (case k6'9 => k_is); (case k7'9 => k_is); (case k8'9 => (first | exact rm0 (by assumption) | exact rm1 (by assumption) (by decide) | k_extra "room" | ktr_room)); (case k9'9 => first | exact BindsTo.of_eq rfl | exact binds_K (by k_in) rfl (by k_is) rfl rfl rfl | exact hbind9 _ (by k_in)); (case c5'9 => decide); (case kB'9 => exact locs rfl); (case c2'9 => exact rfl); (case c3'9 => exact rfl); (case c4'9 => exact rfl); k_whole; intro _ _ _ _ _ _ _ _ l1'9; (try k_lt l1'9); (try dsimp only); (with_reducible refine (?_ : wpAny _ _ _ _ _ _)); (try ((fail_if_success (fail_if_success k_fold)); refine fold_QE ?_; intro _ _)); (try (revert l1'9; intro _)))
  k_steps
  refine hret _ _ _ _ (by assumption) (by assumption) (by assumption) (by assumption) ⟨_, _, _, _, _, _, rfl, rfl⟩
theorem names_elim {r : Value} {led' : Led} {C : Prop} (h : ∃ a t0 t1 t2 t3 t4, r = .ref a ∧ led' = [(a, nameTup t0 t1 t2 t3 t4)]) (k : ∀ a t0 t1 t2 t3 t4, r = .ref a → led' = [(a, nameTup t0 t1 t2 t3 t4)] → C) : C := by
  obtain ⟨a, t0, t1, t2, t3, t4, h1, h2⟩ := h
  exact k a t0 t1 t2 t3 t4 h1 h2
noncomputable def isNm (k : Nat) : Value → Bool
  | .str z _ => z.cps.toList == (nm k).cps.toList
  | _ => false
section
variable {prog : Program} {w : World} {A : Around} {E : Value → Shared → Prop} {s : Shared} {Q : Value → Shared → Prop} {h₀ : Heap} {L a : Addr} {led : Led} {t0 t1 t2 t3 t4 : Tok}
theorem names_method {pl : Sem Bool} {Q : Value × List Value → Shared → Prop} (N : News h₀ L s.heap led) (hm : (a, nameTup t0 t1 t2 t3 t4) ∈ led)
    (h : Q (.builtin "tuple.index", [.ref a]) s) : wpAny (model prog w) A (getMethod (.ref a) "index" pl) Q E s :=
  getMethod_builtin ⟨_, (N _ hm).1, rfl⟩ PySem.F.plainAttrs_tuple PySem.F.slot_tuple_index PySem.F.type_tuple_index (fun a e => by cases e; exact ⟨_, (N _ hm).1, rfl⟩) h
theorem names_index {k : Nat} {t : Tok} (hk : k < 5) (N : News h₀ L s.heap led) (hm : (a, nameTup t0 t1 t2 t3 t4) ∈ led) (h : Q (.int (k : Int) s.toks) { s with toks := s.toks + 1 }) :
    wpAny (model prog w) A (call (.builtin "tuple.index") [.ref a, .str (nm k) t]) Q E s := by
  have hq := lt5 (k := k) (by assumption)
  refine call_meets PySem.F.slot_tuple_index ⟨_, (N _ hm).1, rfl⟩ PySem.F.entry_tuple_index (PySem.F.args_tuple_index_2 _ _)
    (tuple_index a _ _ (.str (nm k) t) (isNm k) (fun y hy => ?_) k ?_ ?_ ?_) ⟨(N _ hm).1, h⟩
  · simp only [List.mem_toArray, List.mem_cons, List.not_mem_nil, or_false] at hy
    rcases hy with rfl | rfl | rfl | rfl | rfl <;> exact SeqRoads2.EqGives.str _ _ _ _
  · show k < 5; exact hk
  · rcases hq with rfl | rfl | rfl | rfl | rfl <;> kernel_rfl
  · intro m hm' hlt
    have hq2 := lt4 (k := m) (Nat.lt_of_lt_of_le hlt (Nat.le_of_lt_succ hk))
    rcases hq with rfl | rfl | rfl | rfl | rfl <;> rcases hq2 with rfl | rfl | rfl | rfl <;> first | exact absurd hlt (by decide) | kernel_rfl
theorem names_item {value slice : PySem.Expr} {k : Int} {u : Tok} {j : Nat} (N : News h₀ L s.heap led) (hm : (a, nameTup t0 t1 t2 t3 t4) ∈ led) (hj : k = (j : Int)) (hj5 : j < 5) (h : ∀ t, Q (.str (nm j) t) s)
    (hs : subscripted slice false (.ref a) (.int k u) = operate [.ref a, .int k u] (getItem (.ref a) (.int k u)) := by with_unfolding_all rfl) :
    wpAny (model prog w) A (subscriptTail value slice (.ref a) (.int k u)) Q E s := by
  subst hj
  have hT : IsTup s.heap a [.str (nm 0) t0, .str (nm 1) t1, .str (nm 2) t2, .str (nm 3) t3, .str (nm 4) t4].toArray := ⟨_, (N _ hm).1, rfl, _, rfl⟩
  have hq := lt5 (k := j) (by assumption)
  rcases hq with rfl | rfl | rfl | rfl | rfl
  · exact item_tupleT (j := 0) hT (by decide) (by decide) rfl rfl (h t0) hs
  · exact item_tupleT (j := 1) hT (by decide) (by decide) rfl rfl (h t1) hs
  · exact item_tupleT (j := 2) hT (by decide) (by decide) rfl rfl (h t2) hs
  · exact item_tupleT (j := 3) hT (by decide) (by decide) rfl rfl (h t3) hs
  · exact item_tupleT (j := 4) hT (by decide) (by decide) rfl rfl (h t4) hs
end
end
noncomputable def fo (b : Bool) (c : Nat) : Nat := if b then lowC c else c
/-- what looks answers -/
noncomputable def lookF (sg : List Nat) (closed folded : Bool) : List Nat → Nat → Int
  | [], _ => 1
  | c :: r, a => match sg[a]? with
    | none => if closed then 0 else -1
    | some d => if fo folded d = c then lookF sg closed folded r (a + 1) else 0
set_option maxHeartbeats 4000000 in
theorem looks_both (w : World) (Z : Tz) (S : Ts) (folded : Bool) (wl : List Nat) (sl : List Nat) (tk1 : Tok) (hw : wl.length ≤ 1000) (hs : StrsAre S.sv (sl.map one)) (hsl : sl.length ≤ 1000) (hc : ∀ c ∈ sl, c < 100000) :
    Spec w 12 244 [.ref Z.t, .str ⟨wl.toArray⟩ tk1, .bool folded] (tzLed w Z S) (fun r led' => (∃ tk, r = .int (lookF sl S.closed folded wl S.at') tk) ∧ led' = tzLed w Z S) ∧ (folded = false → Spec w 12 244 [.ref Z.t, .str ⟨wl.toArray⟩ tk1] (tzLed w Z S) (fun r led' => (∃ tk, r = .int (lookF sl S.closed folded wl S.at') tk) ∧ led' = tzLed w Z S)) := by
  w_top off
  obtain ⟨at', state, out, errs, sv, closed, isret, last, buf, waiting, done, a1, a2, a3, a4, a5, a6, n1, n2, n3, n4⟩ := S
  dsimp only at *
  have hlwE : (⟨wl.toArray⟩ : Str).length = wl.length := by simp [Str.length]
  have hlw : (⟨wl.toArray⟩ : Str).length ≤ 1000 := by rw [hlwE]; exact hw
  simp only [tzLed]
  refine' (fun key : ∀ args : List Value, (∀ s : Shared, (hd.heap_1_39 w.params).In s.heap → BindsTo s _ ⟨args, []⟩ [(Str.ofString "self", Value.ref Z.t), (Str.ofString "word", Value.str ⟨wl.toArray⟩ tk1), (Str.ofString "is_folded", Value.bool folded)]) → Spec w 12 244 args _ _ => ⟨key _ ?b1, fun e => key _ ?b2⟩) ?key
  case key =>
    intro args hbind9
    unfold Spec
    intro mg mb mean dp un gd cn cs a ccd cl outer A₀ base h₀ L m s Q E B F X N T hk hroom hun hret
    refine wpAny_call ?_
    k_dflt (refine' enterH ?k1'9 ?k2'9 ?k3'9 ?k4'9 ?k5'9 ?kA'9 ?kF'9 ?kK'9 ?k6'9 ?k7'9 ?k8'9 ?k9'9 ?kB'9 ?_ ?c2'9 ?c3'9 ?c4'9 ?c5'9; (case kA'9 => exact rfl); (case kF'9 => exact rfl); (case kK'9 => assumption); (case k1'9 => k_asm); (case k2'9 => k_asm); (case k3'9 => k_asm); (case k4'9 => k_asm); (case k5'9 => k_asm); (case k6'9 => k_is); (case k7'9 => k_is); (case k8'9 => (first | exact rm0 (by assumption) | exact rm1 (by assumption) (by decide) | k_extra "room" | ktr_room)); (case k9'9 => first | exact BindsTo.of_eq rfl | exact binds_K (by k_in) rfl (by k_is) rfl rfl rfl | exact hbind9 _ (by k_in)); (case c5'9 => decide); (case kB'9 => exact locs rfl); (case c2'9 => exact rfl); (case c3'9 => exact rfl); (case c4'9 => exact rfl); k_whole; intro _ _ _ _ _ _ _ _ l1'9; (try k_lt l1'9); (try dsimp only); (with_reducible refine (?_ : wpAny _ _ _ _ _ _)); (try ((fail_if_success (fail_if_success k_fold)); refine fold_QE ?_; intro _ _)); (try (revert l1'9; intro _)))
    k_with_none
    k_with "room" => (first | exact rmS2 (by assumption) (by decide) | exact rmS3 (by assumption) (by decide) | exact rmS4 (by assumption) (by decide) | exact rm2 (by assumption) (by decide) | exact rm0 (by assumption) | exact rm1 (by assumption) (by decide) | (dsimp +zetaDelta only; ktr_room))
    k_with "units" => (first | exact cl3 (by assumption) (by decide) | exact um2 (by assumption) (by decide) | exact um1 (by assumption) (by decide) | (dsimp +zetaDelta only; ktr_units))
    k_with "is_list" => (exact News.isList (by k_asm) (by k_mem))
    k_with "st" => (first | ((fail_if_success (fail_if_success k_unfold)); refine (?_ : wpAny _ _ _ _ _ _)) | (k_unfold; (try dsimp only)) | (k_end; wrow_close) | walk1 | (dsimp only; walk1) | (leave1; walk_say "STEP leave1"; try dsimp only) | fail "no step")
    k_with "om" => (first | assumption | with_reducible rfl | decide | exact Nat.le_trans (by assumption) (by decide) | exact Nat.lt_of_le_of_lt (by assumption) (by decide) | ((repeat (with_reducible rename _ ∧ _ => om9; clear om9)); first | ((repeat (with_reducible rename _ ≠ _ => om9; clear om9)); (repeat (with_reducible rename @Eq Nat _ _ => om9; clear om9)); (repeat (with_reducible rename @Eq Int _ _ => om9; clear om9)); omega +splitNatSub) | omega +splitNatSub))
    k_with "fold" => ((fail_if_success (fail_if_success k_fold)); refine fold_QES ?_; intro _ _ _ _)
    k_with "kne" => (first | ((refine (?_ : @Ne Nat _ _)); first | assumption | exact Ne.symm (by assumption) | k_extra "ne") | (refine neN ?_; (try dsimp only); first | assumption | exact Ne.symm (by assumption) | k_extra "ne" | omega))
    k_with "tb" => (repeat (first | exact List.forall_mem_nil _ | refine List.forall_mem_cons.mpr ⟨rfl, ?_⟩))
    k_with "ne" => with_reducible (first | exact na0 (by assumption) | exact ns0 (by assumption) | exact na1 (by assumption) | exact ns1 (by assumption) | exact na2 (by assumption) | exact ns2 (by assumption) | exact na3 (by assumption) | exact ns3 (by assumption) | exact na4 (by assumption) | exact ns4 (by assumption) | exact na5 (by assumption) | exact ns5 (by assumption) | exact na6 (by assumption) | exact ns6 (by assumption) | exact na7 (by assumption) | exact ns7 (by assumption) | exact na8 (by assumption) | exact ns8 (by assumption) | exact na9 (by assumption) | exact ns9 (by assumption) | exact na10 (by assumption) | exact ns10 (by assumption) | exact na11 (by assumption) | exact ns11 (by assumption) | exact na12 (by assumption) | exact ns12 (by assumption) | exact na13 (by assumption) | exact ns13 (by assumption) | exact na14 (by assumption) | exact ns14 (by assumption) | exact na15 (by assumption) | exact ns15 (by assumption))
    k_with "ne" => with_reducible (first | (show Tz.sts _ ≠ _; first | exact zn01 (by assumption) | exact zn02 (by assumption) | exact zn03 (by assumption) | exact zn04 (by assumption) | exact zn05 (by assumption) | exact zn06 (by assumption) | exact zn07 (by assumption) | exact zn08 (by assumption)) | (show Tz.td _ ≠ _; first | exact zn10 (by assumption) | exact zn12 (by assumption) | exact zn13 (by assumption) | exact zn14 (by assumption) | exact zn15 (by assumption) | exact zn16 (by assumption) | exact zn17 (by assumption) | exact zn18 (by assumption)) | (show Tz.t _ ≠ _; first | exact zn20 (by assumption) | exact zn21 (by assumption) | exact zn23 (by assumption) | exact zn24 (by assumption) | exact zn25 (by assumption) | exact zn26 (by assumption) | exact zn27 (by assumption) | exact zn28 (by assumption)) | (show Tz.sd _ ≠ _; first | exact zn30 (by assumption) | exact zn31 (by assumption) | exact zn32 (by assumption) | exact zn34 (by assumption) | exact zn35 (by assumption) | exact zn36 (by assumption) | exact zn37 (by assumption) | exact zn38 (by assumption)) | (show Tz.st _ ≠ _; first | exact zn40 (by assumption) | exact zn41 (by assumption) | exact zn42 (by assumption) | exact zn43 (by assumption) | exact zn45 (by assumption) | exact zn46 (by assumption) | exact zn47 (by assumption) | exact zn48 (by assumption)) | (show Tz.sg _ ≠ _; first | exact zn50 (by assumption) | exact zn51 (by assumption) | exact zn52 (by assumption) | exact zn53 (by assumption) | exact zn54 (by assumption) | exact zn56 (by assumption) | exact zn57 (by assumption) | exact zn58 (by assumption)) | (show Tz.se _ ≠ _; first | exact zn60 (by assumption) | exact zn61 (by assumption) | exact zn62 (by assumption) | exact zn63 (by assumption) | exact zn64 (by assumption) | exact zn65 (by assumption) | exact zn67 (by assumption) | exact zn68 (by assumption)) | (show Tz.ou _ ≠ _; first | exact zn70 (by assumption) | exact zn71 (by assumption) | exact zn72 (by assumption) | exact zn73 (by assumption) | exact zn74 (by assumption) | exact zn75 (by assumption) | exact zn76 (by assumption) | exact zn78 (by assumption)) | (show Tz.er _ ≠ _; first | exact zn80 (by assumption) | exact zn81 (by assumption) | exact zn82 (by assumption) | exact zn83 (by assumption) | exact zn84 (by assumption) | exact zn85 (by assumption) | exact zn86 (by assumption) | exact zn87 (by assumption)))
    k_with "execs cons" => ((try ((fail_if_success (fail_if_success k_fold)); refine fold_QE ?_; intro _ _)); refine ex_consA ?_; intro _ _ _ _; (try (with_reducible rename News _ _ _ _ => kN'9; dsimp only at kN'9)); (try (with_reducible rename Fr _ _ _ _ => kF'9; refine f_let kF'9 ?_; clear kF'9; intro _ _)))
    k_with "LeaveH" => (refine' leaveH_ ?k1'9 ?k2'9 ?_; (case k1'9 => k_asm); (case k2'9 => k_asm); k_whole; intro _ _ _ _)
    k_with "pyIter ref" => ((with_reducible show wpAny _ _ (pyIter _) (fun it s₂ => LoopAtV _ _ _ _ _ _ _ _ _ it s₂) _ _); refine Stop.mk ?_)
    k_with "pyIter str" => ((with_reducible show wpAny _ _ (pyIter _) (fun it s₂ => LoopAtV _ _ _ _ _ _ _ _ _ it s₂) _ _); refine Stop.mk ?_)
    k_with "call ref" => (k_extra "mine call")
    k_with "call builtin:len" => (k_here; (with_reducible show wpAny _ _ (call (Value.builtin "len") [Value.ref _]) _ _ _); (with_unfolding_all refine' len_listN ?k1'9 ?k2'9 ?_; (case k1'9 => is_list); (case k2'9 => omega); k_whole))
    k_with "subscriptTail" => (k_here; (with_reducible show wpAny _ _ (subscriptTail _ _ (Value.ref _) (Value.int _ _)) _ _ _); (with_unfolding_all refine' sign_item ?k1'9 ?k2'9 ?k3'9 ?k4'9 ?k5'9 ?_; (case k1'9 => is_list); (case k2'9 => assumption); (case k3'9 => assumption); (case k4'9 => (push_cast; omega)); (case k5'9 => omega); k_whole); intro _)
    k_with "subscriptTail" => (k_here; (with_reducible show wpAny _ _ (subscriptTail _ _ (Value.str _ _) (Value.int _ _)) _ _ _); (with_unfolding_all refine' char_item ?k1'9 ?k2'9 ?k3'9 ?_; (case k1'9 => assumption); (case k2'9 => (push_cast; omega)); (case k3'9 => omega); k_whole))
    k_with "TurnL" => (refine TurnL.ret ?_; (try dsimp only))
    k_with "subscriptTail Name Name str int" => (k_here; (with_reducible show wpAny _ _ (subscriptTail _ _ (Value.str _ _) (Value.int _ _)) _ _ _); (with_unfolding_all refine' char_item ?k1'9 ?k2'9 ?k3'9 ?_; (case k1'9 => assumption); (case k2'9 => (push_cast; omega)); (case k3'9 => omega); k_whole))
    k_with "exec For Name Name cons nil" => (k_here; (rename Fr _ _ _ _ => lF'9); (with_unfolding_all refine' For_invVF lF'9 ?k1'9 ?k2'9 ?_; (case k1'9 => exact rfl); (case k2'9 => exact rfl); k_whole))
    k_with "call builtin:list.append" => (k_here; (with_reducible show wpAny _ _ (call (Value.builtin _) [Value.ref _, _]) _ _ _); k_dflt (refine' append_K ?k1'9 ?k2'9 ?k3'9 ?_ ?z'9; (case k1'9 => k_asm); (case k2'9 => k_asm); (case k3'9 => k_upd); (case z'9 => assumption); k_whole); intro _ _ _; (try k_sweep))
    k_with "setAttr ref" => (k_here; k_dflt (first | (refine' set_tz ?k1'9 ?k2'9 ?k3'9 ?k4'9 ?k5'9 ?k6'9 ?k7'9 ?k8'9 ?k9'9 ?k10'9 ?k11'9 ?k12'9 ?k13'9 ?_; (case k1'9 => k_asm); (case k2'9 => k_asm); (case k3'9 => k_asm); (case k4'9 => k_inst); (case k5'9 => exact rfl); (case k6'9 => k_is); (case k7'9 => k_is); (case k8'9 => k_is); (case k9'9 => k_is); (case k10'9 => k_get); (case k11'9 => k_put); (case k12'9 => k_upd); (case k13'9 => exact Nat.le_of_ble_eq_true rfl); k_whole; intro _ _ _; (try k_sweep)) | (refine' set_st ?k1'9 ?k2'9 ?k3'9 ?k4'9 ?k5'9 ?k6'9 ?k7'9 ?k8'9 ?k9'9 ?k10'9 ?k11'9 ?k12'9 ?k13'9 ?_; (case k1'9 => k_asm); (case k2'9 => k_asm); (case k3'9 => k_asm); (case k4'9 => k_inst); (case k5'9 => exact rfl); (case k6'9 => k_is); (case k7'9 => k_is); (case k8'9 => k_is); (case k9'9 => k_is); (case k10'9 => k_get); (case k11'9 => k_put); (case k12'9 => k_upd); (case k13'9 => exact Nat.le_of_ble_eq_true rfl); k_whole; intro _ _ _; (try k_sweep))))
    k_with "eval BinOp" => k_extra "fold"
    k_with "eval Call" => k_extra "fold"
    k_with "eval List" => k_extra "fold"
    k_with "eval Tuple" => k_extra "fold"
    k_with "eval Subscript" => k_extra "fold"
    k_with "eval Compare" => k_extra "fold"
    k_with "eval BoolOp" => k_extra "fold"
    k_with "mine call" => ((with_reducible show wpAny _ _ (call (Value.ref 67) _) _ _ _); refine Stop.mk ?_)
    k_steps
    unfold Stop
    refine iter_range (σ := Unit) (fun _ => tzLed w Z ⟨at', state, out, errs, sv, closed, isret, last, buf, waiting, done, a1, a2, a3, a4, a5, a6, n1, n2, n3, n4⟩)
        (fun _ => [("self", .ref Z.t), ("word", .str ⟨wl.toArray⟩ tk1), ("is_folded", .bool folded), ("signs", .ref Z.sg)])
        (fun i _ => lookF sl closed folded wl at' = lookF sl closed folded (wl.drop i) (at' + i)) () wl.length rfl (by assumption) ?hsm ?hn (by assumption) (by assumption) ?hps (by simp) ?turn ?done
    case hsm => 
      rw [hlwE]; exact small_nat (by omega)
    case hn => rw [hlwE]; exact size_nat _
    case hps => intro p hp; simp only [List.mem_cons, List.not_mem_nil, or_false] at hp; rcases hp with rfl | rfl | rfl | rfl <;> rfl
    case done =>
      intro c u h tk hI F' N'
      simp only [tzLed] at N'
      (try dsimp only)
      k_steps
      refine hret _ _ _ _ (by assumption) (by assumption) (by assumption) (by assumption) ⟨⟨_, by rw [hI, List.drop_length]; rfl⟩, rfl⟩
    case turn => 
      intro i c tI own u h tk hi hI ho hlt F' N'
      have hlen := hs.len_eq
      rw [List.length_map] at hlen
      simp only [tzLed, List.cons_append, List.nil_append] at N' ho hlt
      obtain ⟨c', hc'⟩ : ∃ c', wl[i]? = some c' := ⟨wl[i], by simp [hi]⟩
      have hdr : wl.drop i = c' :: wl.drop (i + 1) := by
        obtain ⟨hh, e⟩ := List.getElem?_eq_some_iff.mp hc'
        rw [← e]; exact List.drop_eq_getElem_cons hh
      rw [hdr, lookF] at hI
      rcases hq : sl[at' + i]? with _ | d
      · have hq2 := List.getElem?_eq_none_iff.mp hq
        rw [hq] at hI
        (try dsimp only)
        cases closed
        all_goals (
          k_steps
          refine hret _ (tzLed w Z ⟨at', state, out, errs, sv, _, isret, last, buf, waiting, done, a1, a2, a3, a4, a5, a6, n1, n2, n3, n4⟩) _ _ (by assumption) (News.sub (by assumption) (fun p hp => List.mem_append_left own hp)) (by assumption) (Fresh.sub (by assumption) (fun p hp => List.mem_append_left own hp)) ⟨⟨_, by rw [hI]; rfl⟩, rfl⟩)
      · have hq2 := (List.getElem?_eq_some_iff.mp hq).1
        rw [hq] at hI
        (try dsimp only)
        cases folded
        · replace hI : lookF sl closed false wl at' = if d = c' then lookF sl closed false (List.drop (i + 1) wl) (at' + i + 1) else 0 := hI
          k_steps
          · refine hret _ (tzLed w Z ⟨at', state, out, errs, sv, closed, isret, last, buf, waiting, done, a1, a2, a3, a4, a5, a6, n1, n2, n3, n4⟩) _ _ (by assumption) (News.sub (by assumption) (fun p hp => List.mem_append_left own hp)) (by assumption) (Fresh.sub (by assumption) (fun p hp => List.mem_append_left own hp)) ⟨⟨_, by rw [hI, if_neg (one_ne (by assumption))]⟩, rfl⟩
          · refine TurnL.next () (by assumption) (by assumption) ho ?_ ?_
            · intro p hp; simp only [List.mem_cons, List.not_mem_nil, or_false] at hp; rcases hp with rfl | rfl | rfl | rfl <;> rfl
            · rw [hI]
              have := one_eq (by assumption)
              simp only [if_pos this]; rfl
        · k_steps
          unfold Stop
          k_dflt (refine (lower_spec w d _ (hc d (List.mem_of_getElem? hq))).use0 (by k_asm) (by k_asm) (by k_asm) (by k_asm) (by k_asm) rfl (by (first | exact rm0 (by assumption) | exact rm1 (by assumption) (by decide) | k_extra "room" | ktr_room)) (by (first | k_extra "units" | ktr_units)) ?_)
          intro r led' h' tk' F' N' off ⟨hl', tk2', hr'⟩
          subst hl' hr'
          replace hI : lookF sl closed true wl at' = if lowC d = c' then lookF sl closed true (List.drop (i + 1) wl) (at' + i + 1) else 0 := hI
          (try dsimp only)
          k_steps
          · refine hret _ (tzLed w Z ⟨at', state, out, errs, sv, closed, isret, last, buf, waiting, done, a1, a2, a3, a4, a5, a6, n1, n2, n3, n4⟩) _ _ (by assumption) (News.sub (by assumption) (fun p hp => List.mem_append_left own hp)) (by assumption) (Fresh.sub (by assumption) (fun p hp => List.mem_append_left own hp)) ⟨⟨_, by rw [hI, if_neg (one_ne (by assumption))]⟩, rfl⟩
          · refine TurnL.next () (by assumption) (by assumption) ho ?_ ?_
            · intro p hp; simp only [List.mem_cons, List.not_mem_nil, or_false] at hp; rcases hp with rfl | rfl | rfl | rfl <;> rfl
            · rw [hI]
              have := one_eq (by assumption)
              simp only [if_pos this]; rfl
  case b1 => exact fun s X => (by first | exact BindsTo.of_eq rfl | exact binds_K X rfl (by k_is) rfl rfl rfl)
  case b2 =>
    subst e
    exact fun s X => binds_K X rfl (by k_is) rfl rfl rfl
theorem looks_spec (w : World) (Z : Tz) (S : Ts) (folded : Bool) (wl : List Nat) (sl : List Nat) (tk1 : Tok) (hw : wl.length ≤ 1000) (hs : StrsAre S.sv (sl.map one)) (hsl : sl.length ≤ 1000) (hc : ∀ c ∈ sl, c < 100000) :
    Spec w 12 244 [.ref Z.t, .str ⟨wl.toArray⟩ tk1, .bool folded] (tzLed w Z S) (fun r led' => (∃ tk, r = .int (lookF sl S.closed folded wl S.at') tk) ∧ led' = tzLed w Z S) := (looks_both w Z S folded wl sl tk1 hw hs hsl hc).1
theorem looks_spec0 (w : World) (Z : Tz) (S : Ts) (wl : List Nat) (sl : List Nat) (tk1 : Tok) (hw : wl.length ≤ 1000) (hs : StrsAre S.sv (sl.map one)) (hsl : sl.length ≤ 1000) (hc : ∀ c ∈ sl, c < 100000) :
    Spec w 12 244 [.ref Z.t, .str ⟨wl.toArray⟩ tk1] (tzLed w Z S)
      (fun r led' => (∃ tk, r = .int (lookF sl S.closed false wl S.at') tk) ∧ led' = tzLed w Z S) := (looks_both w Z S false wl sl tk1 hw hs hsl hc).2 rfl
/-- a token of a sign -/
noncomputable def charD (c : Nat) : Dat := .tuple [.str "char", .str ⟨#[c]⟩]
set_option maxHeartbeats 4000000 in
theorem emit_text_spec (w : World) (Z : Tz) (S : Ts) (hZ : Z.Ok) (tl : List Nat) (tk1 : Tok) (hl : S.out.length + tl.length ≤ 100000) :
    Spec w 12 215 [.ref Z.t, .str ⟨tl.toArray⟩ tk1] (tzLed w Z S)
      (fun r led' => r = .none ∧ ∃ vs nt n3, led' = tzLed w Z { S with out := S.out ++ vs, n3 := n3 } ++ nt ∧ Tups nt ∧ DatAll nt vs (tl.map charD)) := by
  w_top off
  k_with_none
  k_with "room" => (first | exact rmS2 (by assumption) (by decide) | exact rmS3 (by assumption) (by decide) | exact rmS4 (by assumption) (by decide) | exact rm2 (by assumption) (by decide) | exact rm0 (by assumption) | exact rm1 (by assumption) (by decide) | (dsimp +zetaDelta only; ktr_room))
  k_with "units" => (first | exact cl3 (by assumption) (by decide) | exact um2 (by assumption) (by decide) | exact um1 (by assumption) (by decide) | (dsimp +zetaDelta only; ktr_units))
  k_with "is_list" => (exact News.isList (by k_asm) (by k_mem))
  k_with "st" => (first | ((fail_if_success (fail_if_success k_unfold)); refine (?_ : wpAny _ _ _ _ _ _)) | (k_unfold; (try dsimp only)) | (k_end; wrow_close) | walk1 | (dsimp only; walk1) | (leave1; walk_say "STEP leave1"; try dsimp only) | fail "no step")
  k_with "om" => (first | assumption | with_reducible rfl | decide | exact Nat.le_trans (by assumption) (by decide) | exact Nat.lt_of_le_of_lt (by assumption) (by decide) | ((repeat (with_reducible rename _ ∧ _ => om9; clear om9)); first | ((repeat (with_reducible rename _ ≠ _ => om9; clear om9)); (repeat (with_reducible rename @Eq Nat _ _ => om9; clear om9)); (repeat (with_reducible rename @Eq Int _ _ => om9; clear om9)); omega +splitNatSub) | omega +splitNatSub))
  k_with "fold" => ((fail_if_success (fail_if_success k_fold)); refine fold_QES ?_; intro _ _ _ _)
  k_with "kne" => (first | ((refine (?_ : @Ne Nat _ _)); first | assumption | exact Ne.symm (by assumption) | k_extra "ne") | (refine neN ?_; (try dsimp only); first | assumption | exact Ne.symm (by assumption) | k_extra "ne" | omega))
  k_with "tb" => (repeat (first | exact List.forall_mem_nil _ | refine List.forall_mem_cons.mpr ⟨rfl, ?_⟩))
  k_with "ne" => with_reducible (first | exact na0 (by assumption) | exact ns0 (by assumption) | exact na1 (by assumption) | exact ns1 (by assumption) | exact na2 (by assumption) | exact ns2 (by assumption) | exact na3 (by assumption) | exact ns3 (by assumption) | exact na4 (by assumption) | exact ns4 (by assumption) | exact na5 (by assumption) | exact ns5 (by assumption) | exact na6 (by assumption) | exact ns6 (by assumption) | exact na7 (by assumption) | exact ns7 (by assumption) | exact na8 (by assumption) | exact ns8 (by assumption) | exact na9 (by assumption) | exact ns9 (by assumption) | exact na10 (by assumption) | exact ns10 (by assumption) | exact na11 (by assumption) | exact ns11 (by assumption) | exact na12 (by assumption) | exact ns12 (by assumption) | exact na13 (by assumption) | exact ns13 (by assumption) | exact na14 (by assumption) | exact ns14 (by assumption) | exact na15 (by assumption) | exact ns15 (by assumption))
  k_with "ne" => with_reducible (first | (show Tz.sts _ ≠ _; first | exact zn01 (by assumption) | exact zn02 (by assumption) | exact zn03 (by assumption) | exact zn04 (by assumption) | exact zn05 (by assumption) | exact zn06 (by assumption) | exact zn07 (by assumption) | exact zn08 (by assumption)) | (show Tz.td _ ≠ _; first | exact zn10 (by assumption) | exact zn12 (by assumption) | exact zn13 (by assumption) | exact zn14 (by assumption) | exact zn15 (by assumption) | exact zn16 (by assumption) | exact zn17 (by assumption) | exact zn18 (by assumption)) | (show Tz.t _ ≠ _; first | exact zn20 (by assumption) | exact zn21 (by assumption) | exact zn23 (by assumption) | exact zn24 (by assumption) | exact zn25 (by assumption) | exact zn26 (by assumption) | exact zn27 (by assumption) | exact zn28 (by assumption)) | (show Tz.sd _ ≠ _; first | exact zn30 (by assumption) | exact zn31 (by assumption) | exact zn32 (by assumption) | exact zn34 (by assumption) | exact zn35 (by assumption) | exact zn36 (by assumption) | exact zn37 (by assumption) | exact zn38 (by assumption)) | (show Tz.st _ ≠ _; first | exact zn40 (by assumption) | exact zn41 (by assumption) | exact zn42 (by assumption) | exact zn43 (by assumption) | exact zn45 (by assumption) | exact zn46 (by assumption) | exact zn47 (by assumption) | exact zn48 (by assumption)) | (show Tz.sg _ ≠ _; first | exact zn50 (by assumption) | exact zn51 (by assumption) | exact zn52 (by assumption) | exact zn53 (by assumption) | exact zn54 (by assumption) | exact zn56 (by assumption) | exact zn57 (by assumption) | exact zn58 (by assumption)) | (show Tz.se _ ≠ _; first | exact zn60 (by assumption) | exact zn61 (by assumption) | exact zn62 (by assumption) | exact zn63 (by assumption) | exact zn64 (by assumption) | exact zn65 (by assumption) | exact zn67 (by assumption) | exact zn68 (by assumption)) | (show Tz.ou _ ≠ _; first | exact zn70 (by assumption) | exact zn71 (by assumption) | exact zn72 (by assumption) | exact zn73 (by assumption) | exact zn74 (by assumption) | exact zn75 (by assumption) | exact zn76 (by assumption) | exact zn78 (by assumption)) | (show Tz.er _ ≠ _; first | exact zn80 (by assumption) | exact zn81 (by assumption) | exact zn82 (by assumption) | exact zn83 (by assumption) | exact zn84 (by assumption) | exact zn85 (by assumption) | exact zn86 (by assumption) | exact zn87 (by assumption)))
  k_with "execs cons" => ((try ((fail_if_success (fail_if_success k_fold)); refine fold_QE ?_; intro _ _)); refine ex_consA ?_; intro _ _ _ _; (try (with_reducible rename News _ _ _ _ => kN'9; dsimp only at kN'9)); (try (with_reducible rename Fr _ _ _ _ => kF'9; refine f_let kF'9 ?_; clear kF'9; intro _ _)))
  k_with "LeaveH" => (refine' leaveH_ ?k1'9 ?k2'9 ?_; (case k1'9 => k_asm); (case k2'9 => k_asm); k_whole; intro _ _ _ _)
  k_with "pyIter ref" => ((with_reducible show wpAny _ _ (pyIter _) (fun it s₂ => LoopAtV _ _ _ _ _ _ _ _ _ it s₂) _ _); refine Stop.mk ?_)
  k_with "pyIter str" => ((with_reducible show wpAny _ _ (pyIter _) (fun it s₂ => LoopAtV _ _ _ _ _ _ _ _ _ it s₂) _ _); refine Stop.mk ?_)
  k_with "call ref" => (k_extra "mine call")
  k_with "call builtin:len" => (k_here; (with_reducible show wpAny _ _ (call (Value.builtin "len") [Value.ref _]) _ _ _); (with_unfolding_all refine' len_listN ?k1'9 ?k2'9 ?_; (case k1'9 => is_list); (case k2'9 => omega); k_whole))
  k_with "subscriptTail" => (k_here; (with_reducible show wpAny _ _ (subscriptTail _ _ (Value.ref _) (Value.int _ _)) _ _ _); (with_unfolding_all refine' sign_item ?k1'9 ?k2'9 ?k3'9 ?k4'9 ?k5'9 ?_; (case k1'9 => is_list); (case k2'9 => assumption); (case k3'9 => assumption); (case k4'9 => (push_cast; omega)); (case k5'9 => omega); k_whole); intro _)
  k_with "subscriptTail" => (k_here; (with_reducible show wpAny _ _ (subscriptTail _ _ (Value.str _ _) (Value.int _ _)) _ _ _); (with_unfolding_all refine' char_item ?k1'9 ?k2'9 ?k3'9 ?_; (case k1'9 => assumption); (case k2'9 => (push_cast; omega)); (case k3'9 => omega); k_whole))
  k_with "TurnL" => (refine TurnL.ret ?_; (try dsimp only))
  k_with "subscriptTail Name Name str int" => (k_here; (with_reducible show wpAny _ _ (subscriptTail _ _ (Value.str _ _) (Value.int _ _)) _ _ _); (with_unfolding_all refine' char_item ?k1'9 ?k2'9 ?k3'9 ?_; (case k1'9 => assumption); (case k2'9 => (push_cast; omega)); (case k3'9 => omega); k_whole))
  k_with "exec For Name Name cons nil" => (k_here; (rename Fr _ _ _ _ => lF'9); (with_unfolding_all refine' For_invVF lF'9 ?k1'9 ?k2'9 ?_; (case k1'9 => exact rfl); (case k2'9 => exact rfl); k_whole))
  k_with "call builtin:list.append" => (k_here; (with_reducible show wpAny _ _ (call (Value.builtin _) [Value.ref _, _]) _ _ _); k_dflt (refine' append_K ?k1'9 ?k2'9 ?k3'9 ?_ ?z'9; (case k1'9 => k_asm); (case k2'9 => k_asm); (case k3'9 => k_upd); (case z'9 => assumption); k_whole); intro _ _ _; (try k_sweep))
  k_with "setAttr ref" => (k_here; k_dflt (first | (refine' set_tz ?k1'9 ?k2'9 ?k3'9 ?k4'9 ?k5'9 ?k6'9 ?k7'9 ?k8'9 ?k9'9 ?k10'9 ?k11'9 ?k12'9 ?k13'9 ?_; (case k1'9 => k_asm); (case k2'9 => k_asm); (case k3'9 => k_asm); (case k4'9 => k_inst); (case k5'9 => exact rfl); (case k6'9 => k_is); (case k7'9 => k_is); (case k8'9 => k_is); (case k9'9 => k_is); (case k10'9 => k_get); (case k11'9 => k_put); (case k12'9 => k_upd); (case k13'9 => exact Nat.le_of_ble_eq_true rfl); k_whole; intro _ _ _; (try k_sweep)) | (refine' set_st ?k1'9 ?k2'9 ?k3'9 ?k4'9 ?k5'9 ?k6'9 ?k7'9 ?k8'9 ?k9'9 ?k10'9 ?k11'9 ?k12'9 ?k13'9 ?_; (case k1'9 => k_asm); (case k2'9 => k_asm); (case k3'9 => k_asm); (case k4'9 => k_inst); (case k5'9 => exact rfl); (case k6'9 => k_is); (case k7'9 => k_is); (case k8'9 => k_is); (case k9'9 => k_is); (case k10'9 => k_get); (case k11'9 => k_put); (case k12'9 => k_upd); (case k13'9 => exact Nat.le_of_ble_eq_true rfl); k_whole; intro _ _ _; (try k_sweep))))
  obtain ⟨at', state, out, errs, sv, closed, isret, last, buf, waiting, done, a1, a2, a3, a4, a5, a6, n1, n2, n3, n4⟩ := S
  dsimp only at *
  simp only [tzLed]
  have z9 := hZ.2.2.2.2.2.2.2.2
  unfold Spec
  intro mg mb mean dp un gd cn cs a ccd cl outer A₀ base h₀ L m s Q E B F X N T hk hroom hun hret
  refine wpAny_call ?_
  k_dflt (refine' enterH ?k1'9 ?k2'9 ?k3'9 ?k4'9 ?k5'9 ?kA'9 ?kF'9 ?kK'9 ?k6'9 ?k7'9 ?k8'9 ?k9'9 ?kB'9 ?_ ?c2'9 ?c3'9 ?c4'9 ?c5'9; (case kA'9 => exact rfl); (case kF'9 => exact rfl); (case kK'9 => assumption); (case k1'9 => k_asm); (case k2'9 => k_asm); (case k3'9 => k_asm); (case k4'9 => k_asm); (case k5'9 => k_asm); (case k6'9 => k_is); (case k7'9 => k_is); (case k8'9 => (first | exact rm0 (by assumption) | exact rm1 (by assumption) (by decide) | k_extra "room" | ktr_room)); (case k9'9 => first | exact BindsTo.of_eq rfl | exact binds_K (by k_in) rfl (by k_is) rfl rfl rfl | exact hbind9 _ (by k_in)); (case c5'9 => decide); (case kB'9 => exact locs rfl); (case c2'9 => exact rfl); (case c3'9 => exact rfl); (case c4'9 => exact rfl); k_whole; intro _ _ _ _ _ _ _ _ l1'9; (try k_lt l1'9); (try dsimp only); (with_reducible refine (?_ : wpAny _ _ _ _ _ _)); (try ((fail_if_success (fail_if_success k_fold)); refine fold_QE ?_; intro _ _)); (try (revert l1'9; intro _)))
  k_steps
  unfold Stop
  refine iter_str (σ := List Value × Led × Nat) (fun c => tzLed w Z ⟨at', state, out ++ c.1, errs, sv, closed, isret, last, buf, waiting, done, a1, a2, a3, a4, a5, a6, n1, n2, c.2.2, n4⟩ ++ c.2.1)
      (fun _ => [("self", .ref Z.t)])
      (fun i c => Tups c.2.1 ∧ DatAll c.2.1 c.1 ((tl.take i).map charD)) ([], [], n3) rfl (by assumption) ?hN ?hps ⟨(fun _ h => (nomatch h)), DatAll.nil⟩ ?turn ?done
  case hN => simp only [tzLed, List.append_nil]; assumption
  case hps => intro p hp; simp only [List.mem_cons, List.not_mem_nil, or_false] at hp; rcases hp with rfl; rfl
  case done =>
    rintro ⟨vs, nt, n3'⟩ u h tk ⟨hT, hD⟩ F' N'
    (try dsimp only)
    k_steps
    refine hret _ _ _ _ (by assumption) (by assumption) (by assumption) (by assumption) ⟨rfl, vs, nt, n3', rfl, hT, ?_⟩
    simpa using hD
  case turn => 
    rintro i ⟨vs, nt, n3'⟩ n tI own u h tk hn ⟨hT, hD⟩ ho hlt F' N'
    dsimp only at hT hD ho hlt N' ⊢
    have hoff : OwnOff (nt ++ own) [Z.t, Z.td, Z.st, Z.sd, Z.sg, Z.se, Z.ou, Z.er, Z.sts] := by
      refine OwnOff.app ?_ (OwnOff.sub ho fun b hb => ?_)
      · exact off_kind N' (fun p hp => List.mem_append_left _ (List.mem_append_left _ hp)) (fun p hp => List.mem_append_left _ (List.mem_append_right _ hp)) (tz_kind z9) hT
      · rw [List.map_append, tz_addr]; exact List.mem_append_left _ hb
    simp only [tzLed, List.cons_append, List.nil_append, List.append_assoc] at N'
    have hsz : (out ++ vs).toArray.size ≤ sizeLine := by
      have h1 := hD.length
      have h2 : i < tl.length := by
        have := (Array.getElem?_eq_some_iff.mp hn).1
        simpa using this
      simp only [List.length_map, List.length_take] at h1
      simp only [List.size_toArray, List.length_append]
      rw [sizeLine_eq]
      omega
    k_steps
    rename_i D h9 l9 h8 F9 N9
    simp only [List.push_toArray, List.append_assoc] at N9
    rw [tz_cons] at N9
    have hD' := allLt_mem l9.2.2.2.2.2.2.2.2.2
    refine TurnL.next (vs ++ [.ref D], nt ++ [(D, _)], n3' + 1) F9 (push_led N9) ?_ ?_ ⟨?_, ?_⟩
    · rw [List.map_append, tz_addr]
      intro q hq b hb
      rcases List.mem_append.mp hb with hb | hb
      · exact hoff q (List.mem_append_right _ hq) b hb
      · simp only [List.map_append, List.map_cons, List.map_nil, List.mem_append, List.mem_cons, List.not_mem_nil, or_false] at hb
        rcases hb with hb | hb
        · exact ho q hq b (by rw [List.map_append]; exact List.mem_append_right _ hb)
        · rw [hb]; exact Nat.ne_of_lt (hD' q (List.mem_append_right _ hq))
    · intro p hp; simp only [List.mem_cons, List.not_mem_nil, or_false] at hp; rcases hp with rfl; rfl
    · intro p hp
      rcases List.mem_append.mp hp with hp | hp
      · exact hT p hp
      · rw [List.mem_singleton.mp hp]
    · have e : (tl.take (i + 1)).map charD = (tl.take i).map charD ++ [charD n] := by
        have : tl[i]? = some n := by simpa using hn
        rw [List.take_add_one, this]; simp
      rw [e]
      refine DatAll.append (hD.mono fun p hp => List.mem_append_left _ hp) (.cons (.tuple (List.mem_append_right _ (.head _)) (.cons (.str _ _) (.cons (.str _ _) .nil))) .nil)
theorem if_two {M : Model} {A : Around} {env : Env} {E : Value → Shared → Prop} {s : Shared} {test : PySem.Expr} {x y : Str} {kx ky : Nat} {px py pos : Pos} {Q : Value → Shared → Prop} (f : Bool)
    (h : wpAny M A (isTrue test env (eval test env)) (fun b s₁ => b = f ∧ ∃ tk, s₁ = { s with toks := tk }) E s) (k : ∀ t tk, Q (.str (if f then x else y) t) { s with toks := tk }) :
    wpAny M A (eval (.IfExp test (.Constant (.str x) kx px) (.Constant (.str y) ky py) pos) env) Q E s :=
  wpAny_IfExp (wpAny_mono h (fun b s₁ hb => by
    obtain ⟨rfl, tk, rfl⟩ := hb
    cases b
    · exact wpAny_Constant_str (k _ _)
    · exact wpAny_Constant_str (k _ _)) fun _ _ e => e)
/-- a token of either kind -/
noncomputable abbrev tkObj (f : Bool) (wl : List Nat) (t1 t2 : Tok) (e : Nat) : Obj := tupObj [.str (if f then "start" else "end") t1, .str ⟨wl.toArray⟩ t2, .ref e, .bool false]
set_option maxHeartbeats 4000000 in
theorem emit_tok_spec (w : World) (Z : Tz) (S : Ts) (hZ : Z.Ok) (f : Bool) (wl : List Nat) (D e : Nat) (t1 t2 : Tok) (hl : S.out.length ≤ 100000) (e1 : D ≠ Z.td) (e2 : D ≠ Z.ou) :
    Spec w 5 201 [.ref Z.t, .ref D] ((D, tkObj f wl t1 t2 e) :: tzLed w Z S)
      (fun r led' => r = .none ∧ ∃ a6 n3, led' = (D, tkObj f wl t1 t2 e) :: tzLed w Z { S with last := if f then ⟨wl.toArray⟩ else S.last, out := S.out ++ [.ref D], a6 := a6, n3 := n3 }) := by
  w_top off
  obtain ⟨at', state, out, errs, sv, closed, isret, last, buf, waiting, done, a1, a2, a3, a4, a5, a6, n1, n2, n3, n4⟩ := S
  dsimp only at *
  simp only [tzLed]
  have hosz : out.toArray.size ≤ sizeLine := by rw [List.size_toArray, sizeLine_eq]; omega
  cases f
  all_goals (
    simp only [tkObj, Bool.false_eq_true, if_false, if_true]
    unfold Spec
    intro mg mb mean dp un gd cn cs a ccd cl outer A₀ base h₀ L m s Q E B F X N T hk hroom hun hret
    refine wpAny_call ?_
    k_dflt (refine' enterH ?k1'9 ?k2'9 ?k3'9 ?k4'9 ?k5'9 ?kA'9 ?kF'9 ?kK'9 ?k6'9 ?k7'9 ?k8'9 ?k9'9 ?kB'9 ?_ ?c2'9 ?c3'9 ?c4'9 ?c5'9; (case kA'9 => exact rfl); (case kF'9 => exact rfl); (case kK'9 => assumption); (case k1'9 => k_asm); (case k2'9 => k_asm); (case k3'9 => k_asm); (case k4'9 => k_asm); (case k5'9 => k_asm); (case k6'9 => k_is); (case k7'9 => k_is); (case k8'9 => (first | exact rm0 (by assumption) | exact rm1 (by assumption) (by decide) | k_extra "room" | ktr_room)); (case k9'9 => first | exact BindsTo.of_eq rfl | exact binds_K (by k_in) rfl (by k_is) rfl rfl rfl | exact hbind9 _ (by k_in)); (case c5'9 => decide); (case kB'9 => exact locs rfl); (case c2'9 => exact rfl); (case c3'9 => exact rfl); (case c4'9 => exact rfl); k_whole; intro _ _ _ _ _ _ _ _ l1'9; (try k_lt l1'9); (try dsimp only); (with_reducible refine (?_ : wpAny _ _ _ _ _ _)); (try ((fail_if_success (fail_if_success k_fold)); refine fold_QE ?_; intro _ _)); (try (revert l1'9; intro _)))
    k_with_none
    k_with "room" => (first | exact rmS2 (by assumption) (by decide) | exact rmS3 (by assumption) (by decide) | exact rmS4 (by assumption) (by decide) | exact rm2 (by assumption) (by decide) | exact rm0 (by assumption) | exact rm1 (by assumption) (by decide) | (dsimp +zetaDelta only; ktr_room))
    k_with "units" => (first | exact cl3 (by assumption) (by decide) | exact um2 (by assumption) (by decide) | exact um1 (by assumption) (by decide) | (dsimp +zetaDelta only; ktr_units))
    k_with "is_list" => (exact News.isList (by k_asm) (by k_mem))
    k_with "st" => (first | ((fail_if_success (fail_if_success k_unfold)); refine (?_ : wpAny _ _ _ _ _ _)) | (k_unfold; (try dsimp only)) | (k_end; wrow_close) | walk1 | (dsimp only; walk1) | (leave1; walk_say "STEP leave1"; try dsimp only) | fail "no step")
    k_with "om" => (first | assumption | with_reducible rfl | decide | exact Nat.le_trans (by assumption) (by decide) | exact Nat.lt_of_le_of_lt (by assumption) (by decide) | ((repeat (with_reducible rename _ ∧ _ => om9; clear om9)); first | ((repeat (with_reducible rename _ ≠ _ => om9; clear om9)); (repeat (with_reducible rename @Eq Nat _ _ => om9; clear om9)); (repeat (with_reducible rename @Eq Int _ _ => om9; clear om9)); omega +splitNatSub) | omega +splitNatSub))
    k_with "fold" => ((fail_if_success (fail_if_success k_fold)); refine fold_QES ?_; intro _ _ _ _)
    k_with "kne" => (first | ((refine (?_ : @Ne Nat _ _)); first | assumption | exact Ne.symm (by assumption) | k_extra "ne") | (refine neN ?_; (try dsimp only); first | assumption | exact Ne.symm (by assumption) | k_extra "ne" | omega))
    k_with "tb" => (repeat (first | exact List.forall_mem_nil _ | refine List.forall_mem_cons.mpr ⟨rfl, ?_⟩))
    k_with "ne" => with_reducible (first | exact na0 (by assumption) | exact ns0 (by assumption) | exact na1 (by assumption) | exact ns1 (by assumption) | exact na2 (by assumption) | exact ns2 (by assumption) | exact na3 (by assumption) | exact ns3 (by assumption) | exact na4 (by assumption) | exact ns4 (by assumption) | exact na5 (by assumption) | exact ns5 (by assumption) | exact na6 (by assumption) | exact ns6 (by assumption) | exact na7 (by assumption) | exact ns7 (by assumption) | exact na8 (by assumption) | exact ns8 (by assumption) | exact na9 (by assumption) | exact ns9 (by assumption) | exact na10 (by assumption) | exact ns10 (by assumption) | exact na11 (by assumption) | exact ns11 (by assumption) | exact na12 (by assumption) | exact ns12 (by assumption) | exact na13 (by assumption) | exact ns13 (by assumption) | exact na14 (by assumption) | exact ns14 (by assumption) | exact na15 (by assumption) | exact ns15 (by assumption))
    k_with "ne" => with_reducible (first | (show Tz.sts _ ≠ _; first | exact zn01 (by assumption) | exact zn02 (by assumption) | exact zn03 (by assumption) | exact zn04 (by assumption) | exact zn05 (by assumption) | exact zn06 (by assumption) | exact zn07 (by assumption) | exact zn08 (by assumption)) | (show Tz.td _ ≠ _; first | exact zn10 (by assumption) | exact zn12 (by assumption) | exact zn13 (by assumption) | exact zn14 (by assumption) | exact zn15 (by assumption) | exact zn16 (by assumption) | exact zn17 (by assumption) | exact zn18 (by assumption)) | (show Tz.t _ ≠ _; first | exact zn20 (by assumption) | exact zn21 (by assumption) | exact zn23 (by assumption) | exact zn24 (by assumption) | exact zn25 (by assumption) | exact zn26 (by assumption) | exact zn27 (by assumption) | exact zn28 (by assumption)) | (show Tz.sd _ ≠ _; first | exact zn30 (by assumption) | exact zn31 (by assumption) | exact zn32 (by assumption) | exact zn34 (by assumption) | exact zn35 (by assumption) | exact zn36 (by assumption) | exact zn37 (by assumption) | exact zn38 (by assumption)) | (show Tz.st _ ≠ _; first | exact zn40 (by assumption) | exact zn41 (by assumption) | exact zn42 (by assumption) | exact zn43 (by assumption) | exact zn45 (by assumption) | exact zn46 (by assumption) | exact zn47 (by assumption) | exact zn48 (by assumption)) | (show Tz.sg _ ≠ _; first | exact zn50 (by assumption) | exact zn51 (by assumption) | exact zn52 (by assumption) | exact zn53 (by assumption) | exact zn54 (by assumption) | exact zn56 (by assumption) | exact zn57 (by assumption) | exact zn58 (by assumption)) | (show Tz.se _ ≠ _; first | exact zn60 (by assumption) | exact zn61 (by assumption) | exact zn62 (by assumption) | exact zn63 (by assumption) | exact zn64 (by assumption) | exact zn65 (by assumption) | exact zn67 (by assumption) | exact zn68 (by assumption)) | (show Tz.ou _ ≠ _; first | exact zn70 (by assumption) | exact zn71 (by assumption) | exact zn72 (by assumption) | exact zn73 (by assumption) | exact zn74 (by assumption) | exact zn75 (by assumption) | exact zn76 (by assumption) | exact zn78 (by assumption)) | (show Tz.er _ ≠ _; first | exact zn80 (by assumption) | exact zn81 (by assumption) | exact zn82 (by assumption) | exact zn83 (by assumption) | exact zn84 (by assumption) | exact zn85 (by assumption) | exact zn86 (by assumption) | exact zn87 (by assumption)))
    k_with "execs cons" => ((try ((fail_if_success (fail_if_success k_fold)); refine fold_QE ?_; intro _ _)); refine ex_consA ?_; intro _ _ _ _; (try (with_reducible rename News _ _ _ _ => kN'9; dsimp only at kN'9)); (try (with_reducible rename Fr _ _ _ _ => kF'9; refine f_let kF'9 ?_; clear kF'9; intro _ _)))
    k_with "LeaveH" => (refine' leaveH_ ?k1'9 ?k2'9 ?_; (case k1'9 => k_asm); (case k2'9 => k_asm); k_whole; intro _ _ _ _)
    k_with "pyIter ref" => ((with_reducible show wpAny _ _ (pyIter _) (fun it s₂ => LoopAtV _ _ _ _ _ _ _ _ _ it s₂) _ _); refine Stop.mk ?_)
    k_with "pyIter str" => ((with_reducible show wpAny _ _ (pyIter _) (fun it s₂ => LoopAtV _ _ _ _ _ _ _ _ _ it s₂) _ _); refine Stop.mk ?_)
    k_with "call ref" => (k_extra "mine call")
    k_with "call builtin:len" => (k_here; (with_reducible show wpAny _ _ (call (Value.builtin "len") [Value.ref _]) _ _ _); (with_unfolding_all refine' len_listN ?k1'9 ?k2'9 ?_; (case k1'9 => is_list); (case k2'9 => omega); k_whole))
    k_with "subscriptTail" => (k_here; (with_reducible show wpAny _ _ (subscriptTail _ _ (Value.ref _) (Value.int _ _)) _ _ _); (with_unfolding_all refine' sign_item ?k1'9 ?k2'9 ?k3'9 ?k4'9 ?k5'9 ?_; (case k1'9 => is_list); (case k2'9 => assumption); (case k3'9 => assumption); (case k4'9 => (push_cast; omega)); (case k5'9 => omega); k_whole); intro _)
    k_with "subscriptTail" => (k_here; (with_reducible show wpAny _ _ (subscriptTail _ _ (Value.str _ _) (Value.int _ _)) _ _ _); (with_unfolding_all refine' char_item ?k1'9 ?k2'9 ?k3'9 ?_; (case k1'9 => assumption); (case k2'9 => (push_cast; omega)); (case k3'9 => omega); k_whole))
    k_with "TurnL" => (refine TurnL.ret ?_; (try dsimp only))
    k_with "subscriptTail Name Name str int" => (k_here; (with_reducible show wpAny _ _ (subscriptTail _ _ (Value.str _ _) (Value.int _ _)) _ _ _); (with_unfolding_all refine' char_item ?k1'9 ?k2'9 ?k3'9 ?_; (case k1'9 => assumption); (case k2'9 => (push_cast; omega)); (case k3'9 => omega); k_whole))
    k_with "exec For Name Name cons nil" => (k_here; (rename Fr _ _ _ _ => lF'9); (with_unfolding_all refine' For_invVF lF'9 ?k1'9 ?k2'9 ?_; (case k1'9 => exact rfl); (case k2'9 => exact rfl); k_whole))
    k_with "call builtin:list.append" => (k_here; (with_reducible show wpAny _ _ (call (Value.builtin _) [Value.ref _, _]) _ _ _); k_dflt (refine' append_K ?k1'9 ?k2'9 ?k3'9 ?_ ?z'9; (case k1'9 => k_asm); (case k2'9 => k_asm); (case k3'9 => k_upd); (case z'9 => assumption); k_whole); intro _ _ _; (try k_sweep))
    k_with "setAttr ref" => (k_here; k_dflt (first | (refine' set_tz ?k1'9 ?k2'9 ?k3'9 ?k4'9 ?k5'9 ?k6'9 ?k7'9 ?k8'9 ?k9'9 ?k10'9 ?k11'9 ?k12'9 ?k13'9 ?_; (case k1'9 => k_asm); (case k2'9 => k_asm); (case k3'9 => k_asm); (case k4'9 => k_inst); (case k5'9 => exact rfl); (case k6'9 => k_is); (case k7'9 => k_is); (case k8'9 => k_is); (case k9'9 => k_is); (case k10'9 => k_get); (case k11'9 => k_put); (case k12'9 => k_upd); (case k13'9 => exact Nat.le_of_ble_eq_true rfl); k_whole; intro _ _ _; (try k_sweep)) | (refine' set_st ?k1'9 ?k2'9 ?k3'9 ?k4'9 ?k5'9 ?k6'9 ?k7'9 ?k8'9 ?k9'9 ?k10'9 ?k11'9 ?k12'9 ?k13'9 ?_; (case k1'9 => k_asm); (case k2'9 => k_asm); (case k3'9 => k_asm); (case k4'9 => k_inst); (case k5'9 => exact rfl); (case k6'9 => k_is); (case k7'9 => k_is); (case k8'9 => k_is); (case k9'9 => k_is); (case k10'9 => k_get); (case k11'9 => k_put); (case k12'9 => k_upd); (case k13'9 => exact Nat.le_of_ble_eq_true rfl); k_whole; intro _ _ _; (try k_sweep))))
    k_steps
    rename News _ _ _ _ => N9
    rename Fresh _ _ _ => H9
    simp only [List.push_toArray] at N9 H9
    exact hret _ _ _ _ (by assumption) N9 (by assumption) H9 ⟨rfl, _, _, rfl⟩)
section
section
open Builtin Builtin.Str
theorem len_tx (l : List Nat) : (⟨l.toArray⟩ : Str).length = l.length := by simp [Str.length]
theorem nn0 (k : Nat) : ¬ ((k : Int) < 0) := Int.not_lt.mpr (Int.natCast_nonneg _)
theorem cl_nat (k n : Nat) : max (0 : Int) (min (k : Int) (n : Int)) = ((min k n : Nat) : Int) := by
  rcases Nat.le_total k n with h | h
  · rw [Nat.min_eq_left h, Int.min_eq_left (Int.ofNat_le.mpr h), Int.max_eq_right (Int.natCast_nonneg _)]
  · rw [Nat.min_eq_right h, Int.min_eq_right (Int.ofNat_le.mpr h), Int.max_eq_right (Int.natCast_nonneg _)]
theorem cl_in {k n : Nat} (h : k ≤ n) : max (0 : Int) (min (k : Int) (n : Int)) = (k : Int) := by rw [cl_nat, Nat.min_eq_left h]
theorem idx_clamp (a b n : Nat) : strSliceIndices (some (a : Int)) (some (b : Int)) 1 n = strSliceIndices (some ((min a n : Nat) : Int)) (some ((max (min a n) (min b n) : Nat) : Int)) 1 n := by
  have h1 := nn0 a
  have h2 := nn0 b
  have h3 := nn0 (min a n)
  have h4 := nn0 (max (min a n) (min b n))
  have e1 := cl_nat a n
  have e2 := cl_nat b n
  have e3 : max (0 : Int) (min ((min a n : Nat) : Int) (n : Int)) = ((min a n : Nat) : Int) := cl_in (Nat.min_le_right a n)
  have e4 : max (0 : Int) (min ((max (min a n) (min b n) : Nat) : Int) (n : Int)) = ((max (min a n) (min b n) : Nat) : Int) := cl_in (Nat.max_le.mpr ⟨Nat.min_le_right a n, Nat.min_le_right b n⟩)
  simp only [strSliceIndices, h1, h2, h3, h4, if_false, e1, e2, e3, e4, show ((1 : Int) > 0) = True from by simp, if_true]
  by_cases hc : min a n ≤ min b n
  · rw [Nat.max_eq_right hc]
  · rw [Nat.max_eq_left (Nat.le_of_lt (Nat.lt_of_not_le hc))]
    unfold sliceRange
    simp
    omega
theorem slice_nn (l : List Nat) (a b : Nat) : Txt.slice ⟨l.toArray⟩ (some (a : Int)) (some (b : Int)) = ⟨((l.drop a).take (b - a)).toArray⟩ := by
  have e : Txt.slice ⟨l.toArray⟩ (some (a : Int)) (some (b : Int)) = Txt.slice ⟨l.toArray⟩ (some ((min a l.length : Nat) : Int)) (some ((max (min a l.length) (min b l.length) : Nat) : Int)) := by
    unfold Txt.slice
    rw [len_tx, idx_clamp]
  rw [e]
  refine (StrLaws.sliceText_nat ⟨l.toArray⟩ (a := min a l.length) (b := max (min a l.length) (min b l.length)) (Nat.le_max_left _ _) (by rw [len_tx]; exact Nat.max_le.mpr ⟨Nat.min_le_right _ _, Nat.min_le_right _ _⟩)).trans ?_
  congr 2
  show List.take _ (List.drop _ l) = List.take _ (List.drop _ l)
  rcases Nat.le_total l.length a with ha | ha
  · rw [Nat.min_eq_right ha, List.drop_of_length_le ha, List.drop_of_length_le (Nat.le_refl _), List.take_nil, List.take_nil]
  · rw [Nat.min_eq_left ha]
    rcases Nat.le_total b l.length with hb | hb
    · rw [Nat.min_eq_left hb]
      rcases Nat.le_total a b with hab | hab
      · rw [Nat.max_eq_right hab]
      · rw [Nat.max_eq_left hab, Nat.sub_self, Nat.sub_eq_zero_of_le hab]
    · rw [Nat.min_eq_right hb, Nat.max_eq_right ha, List.take_of_length_le (by rw [List.length_drop]; exact Nat.le_refl _), List.take_of_length_le (by rw [List.length_drop]; exact Nat.sub_le_sub_right hb a)]
theorem slice_from (l : List Nat) (a : Nat) : Txt.slice ⟨l.toArray⟩ (some (a : Int)) none = ⟨(l.drop a).toArray⟩ := by
  have e : Txt.slice ⟨l.toArray⟩ (some (a : Int)) none = Txt.slice ⟨l.toArray⟩ (some (a : Int)) (some (l.length : Int)) := by
    unfold Txt.slice
    rw [len_tx, StrLaws.sliceIdx_none_hi]
  rw [e, slice_nn, List.take_of_length_le (by simp)]
theorem slice_to (l : List Nat) (b : Nat) : Txt.slice ⟨l.toArray⟩ none (some (b : Int)) = ⟨(l.take b).toArray⟩ := by
  have e : Txt.slice ⟨l.toArray⟩ none (some (b : Int)) = Txt.slice ⟨l.toArray⟩ (some ((0 : Nat) : Int)) (some (b : Int)) := by
    unfold Txt.slice
    rw [len_tx, StrLaws.sliceIdx_none_lo]; rfl
  rw [e, slice_nn, List.drop_zero, Nat.sub_zero]
theorem neg1_clamp : ∀ n : Nat, max (0 : Int) (min (-1 + (n : Int)) (n : Int)) = ((n - 1 : Nat) : Int)
  | 0 => by decide
  | n + 1 => by
    have h : (-1 + ((n + 1 : Nat) : Int)) = (n : Int) := by rw [Int.natCast_succ, Int.add_comm (n : Int) 1, Int.neg_add_cancel_left]
    rw [h]; exact cl_in (Nat.le_succ n)
theorem slice_neg1 (l : List Nat) : Txt.slice ⟨l.toArray⟩ none (some (-1)) = ⟨(l.take (l.length - 1)).toArray⟩ := by
  have e : Txt.slice ⟨l.toArray⟩ none (some (-1)) = Txt.slice ⟨l.toArray⟩ none (some ((l.length - 1 : Nat) : Int)) := by
    unfold Txt.slice
    rw [len_tx]
    have z : strSliceIndices none (some (-1)) 1 l.length = strSliceIndices none (some ((l.length - 1 : Nat) : Int)) 1 l.length := by
      have h1 : ((-1 : Int) < 0) := by decide
      have h2 : ¬ (((l.length - 1 : Nat) : Int) < 0) := nn0 _
      have e1 := neg1_clamp l.length
      have e2 : max (0 : Int) (min ((l.length - 1 : Nat) : Int) (l.length : Int)) = ((l.length - 1 : Nat) : Int) := cl_in (Nat.sub_le _ 1)
      simp only [strSliceIndices, h1, h2, if_false, if_true, e1, e2, show ((1 : Int) > 0) = True from by simp]
    rw [z]
  rw [e, slice_to]
end
section
open Builtin Builtin.Str
variable {prog : Program} {w : World} {A : Around} {E : Value → Shared → Prop} {s : Shared} {Q : Value → Shared → Prop} {h₀ : Heap} {L : Addr} {m : Str → Option Value} {news : Led} {value slice : PySem.Expr} {t : Tok}
theorem cut_from {i : Int} {ui : Tok} {l : List Nat} {a : Nat} (hF : Fr h₀ L s.heap m) (hN : News h₀ L s.heap news) (hi : i = (a : Int)) (hsz : l.length ≤ 100000) (h : ∀ h' t' k, Fr h₀ L h' m → News h₀ L h' news → Q (.str ⟨(l.drop a).toArray⟩ t') { s with heap := h', toks := k })
    (hs : subscripted slice false (.str ⟨l.toArray⟩ t) (.ref s.heap.objs.size) = operate [.ref s.heap.objs.size, .str ⟨l.toArray⟩ t] (getItem (.str ⟨l.toArray⟩ t) (.ref s.heap.objs.size)) := by with_unfolding_all rfl)
    (ht : ∀ r, letTemporaryGo value (.str ⟨l.toArray⟩ t) r = pure () := by intro _; with_unfolding_all rfl) :
    wpAny (model prog w) A (subscriptTail value slice (.str ⟨l.toArray⟩ t) (.ref s.heap.objs.size)) Q E { s with heap := s.heap.push { cls := .type "slice", data := .fields #[.int i ui, .none, .none] } } := by
  subst hi
  refine slice_strN_sn hF hN (fun h' t' k F' N' => ?_) hs ht (by rw [len_tx, sizeLine_eq]; omega)
  rw [slice_from]; exact h h' t' k F' N'
theorem cut_to {j : Int} {uj : Tok} {l : List Nat} {b : Nat} (hF : Fr h₀ L s.heap m) (hN : News h₀ L s.heap news) (hj : j = (b : Int)) (hsz : l.length ≤ 100000) (h : ∀ h' t' k, Fr h₀ L h' m → News h₀ L h' news → Q (.str ⟨(l.take b).toArray⟩ t') { s with heap := h', toks := k })
    (hs : subscripted slice false (.str ⟨l.toArray⟩ t) (.ref s.heap.objs.size) = operate [.ref s.heap.objs.size, .str ⟨l.toArray⟩ t] (getItem (.str ⟨l.toArray⟩ t) (.ref s.heap.objs.size)) := by with_unfolding_all rfl)
    (ht : ∀ r, letTemporaryGo value (.str ⟨l.toArray⟩ t) r = pure () := by intro _; with_unfolding_all rfl) :
    wpAny (model prog w) A (subscriptTail value slice (.str ⟨l.toArray⟩ t) (.ref s.heap.objs.size)) Q E { s with heap := s.heap.push { cls := .type "slice", data := .fields #[.none, .int j uj, .none] } } := by
  subst hj
  refine slice_strN_ns hF hN (fun h' t' k F' N' => ?_) hs ht (by rw [len_tx, sizeLine_eq]; omega)
  rw [slice_to]; exact h h' t' k F' N'
theorem cut_last {uj : Tok} {l : List Nat} (hF : Fr h₀ L s.heap m) (hN : News h₀ L s.heap news) (hsz : l.length ≤ 100000) (h : ∀ h' t' k, Fr h₀ L h' m → News h₀ L h' news → Q (.str ⟨(l.take (l.length - 1)).toArray⟩ t') { s with heap := h', toks := k })
    (hs : subscripted slice false (.str ⟨l.toArray⟩ t) (.ref s.heap.objs.size) = operate [.ref s.heap.objs.size, .str ⟨l.toArray⟩ t] (getItem (.str ⟨l.toArray⟩ t) (.ref s.heap.objs.size)) := by with_unfolding_all rfl)
    (ht : ∀ r, letTemporaryGo value (.str ⟨l.toArray⟩ t) r = pure () := by intro _; with_unfolding_all rfl) :
    wpAny (model prog w) A (subscriptTail value slice (.str ⟨l.toArray⟩ t) (.ref s.heap.objs.size)) Q E { s with heap := s.heap.push { cls := .type "slice", data := .fields #[.none, .int (-1) uj, .none] } } := by
  refine slice_strN_ns hF hN (fun h' t' k F' N' => ?_) hs ht (by rw [len_tx, sizeLine_eq]; omega)
  rw [slice_neg1]; exact h h' t' k F' N'
theorem cut_nn {i j : Int} {ui uj : Tok} {l : List Nat} {a b : Nat} (hF : Fr h₀ L s.heap m) (hN : News h₀ L s.heap news) (hi : i = (a : Int)) (hj : j = (b : Int)) (hsz : l.length ≤ 100000) (h : ∀ h' t' k, Fr h₀ L h' m → News h₀ L h' news → Q (.str ⟨((l.drop a).take (b - a)).toArray⟩ t') { s with heap := h', toks := k })
    (hs : subscripted slice false (.str ⟨l.toArray⟩ t) (.ref s.heap.objs.size) = operate [.ref s.heap.objs.size, .str ⟨l.toArray⟩ t] (getItem (.str ⟨l.toArray⟩ t) (.ref s.heap.objs.size)) := by with_unfolding_all rfl)
    (ht : ∀ r, letTemporaryGo value (.str ⟨l.toArray⟩ t) r = pure () := by intro _; with_unfolding_all rfl) :
    wpAny (model prog w) A (subscriptTail value slice (.str ⟨l.toArray⟩ t) (.ref s.heap.objs.size)) Q E { s with heap := s.heap.push { cls := .type "slice", data := .fields #[.int i ui, .int j uj, .none] } } := by
  subst hi hj
  refine slice_strN_ss hF hN (fun h' t' k F' N' => ?_) hs ht (by rw [len_tx, sizeLine_eq]; omega)
  rw [slice_nn]; exact h h' t' k F' N'
theorem cut_tail {ui : Tok} {p : Nat} {l : List Nat} (hF : Fr h₀ L s.heap m) (hN : News h₀ L s.heap news) (hsz : l.length ≤ 1000) (h : ∀ h' t' k, Fr h₀ L h' m → News h₀ L h' news → Q (.str ⟨l.toArray⟩ t') { s with heap := h', toks := k })
    (hs : subscripted slice false (.str ⟨(p :: l).toArray⟩ t) (.ref s.heap.objs.size) = operate [.ref s.heap.objs.size, .str ⟨(p :: l).toArray⟩ t] (getItem (.str ⟨(p :: l).toArray⟩ t) (.ref s.heap.objs.size)) := by with_unfolding_all rfl)
    (ht : ∀ r, letTemporaryGo value (.str ⟨(p :: l).toArray⟩ t) r = pure () := by intro _; with_unfolding_all rfl) :
    wpAny (model prog w) A (subscriptTail value slice (.str ⟨(p :: l).toArray⟩ t) (.ref s.heap.objs.size)) Q E { s with heap := s.heap.push { cls := .type "slice", data := .fields #[.int 1 ui, .none, .none] } } :=
  cut_from (a := 1) hF hN rfl (by simp only [List.length_cons]; omega) h hs ht
theorem head_item {p : Nat} {l : List Nat} {u : Tok} (hfit : l.length ≤ 1000) (h : Q (.str ⟨#[p]⟩ s.toks) { s with toks := s.toks + 1 })
    (hs : subscripted slice false (.str ⟨(p :: l).toArray⟩ t) (.int 0 u) = operate [.str ⟨(p :: l).toArray⟩ t, .int 0 u] (getItem (.str ⟨(p :: l).toArray⟩ t) (.int 0 u)) := by with_unfolding_all rfl)
    (ht : ∀ r, letTemporaryGo value (.str ⟨(p :: l).toArray⟩ t) r = pure () := by intro _; with_unfolding_all rfl) :
    wpAny (model prog w) A (subscriptTail value slice (.str ⟨(p :: l).toArray⟩ t) (.int 0 u)) Q E s :=
  char_item (wl := p :: l) (j := 0) (c := p) rfl rfl (by simp only [List.length_cons]; omega) h hs ht
end
end
section
noncomputable def part (p : List Nat × Bool) : Str := ⟨((if p.2 then 126 else 61) :: p.1).toArray⟩
noncomputable def errD (c : Str) (i : Int) : Dat := .tuple [.str c, .int i]
noncomputable def tokD (f : Bool) (wl : List Nat) : Dat := .tuple [.str (if f then "start" else "end"), .str ⟨wl.toArray⟩, .tuple [], .bool false]
noncomputable def eofD : Dat := .tuple [.str "eof"]
/-- what a rule's turn comes to -/
structure RR where
  at' : Nat
  k : Nat
  out : List Dat
  errs : List Dat
  waiting : Bool
  done : Bool
  last : Option (List Nat)
noncomputable def ruleF (sl : List Nat) (closed : Bool) (wl : List Nat) (f : Bool) (k at' : Nat) : RR :=
  match sl[at']? with
  | none => ⟨at' + 1, k, [eofD], [], false, true, none⟩
  | some c =>
    if lookF sl closed f wl (at' + 1) = -1 then ⟨at' + 1, k, [], [], true, false, none⟩
    else if lookF sl closed f wl (at' + 1) = 1 then ⟨at' + 1 + wl.length, (k + 1) % 4, (c :: wl).map charD ++ [tokD f wl], [errD "taken" ((at' + wl.length : Nat) : Int)], false, false, if f then some wl else none⟩
    else if k % 2 = 0 then ⟨at', (k + 1) % 4, [], [], false, false, none⟩
    else ⟨at' + 1, (k + 1) % 4, [charD c], [errD "passed" ((at' : Nat) : Int)], false, false, none⟩
/-- a tokenizer behind a turn -/
noncomputable def after (S : Ts) (R : RR) (vs es : List Value) (a1 a2 a6 : Tok) (n3 n4 : Nat) : Ts :=
  { S with at' := R.at', state := nm R.k, out := S.out ++ vs, errs := S.errs ++ es, waiting := R.waiting || S.waiting, done := R.done || S.done, last := match R.last with | some l => ⟨l.toArray⟩ | none => S.last, a1 := a1, a2 := a2, a6 := a6, n3 := n3, n4 := n4 }
theorem look_three (sl : List Nat) (closed f : Bool) : ∀ (wl : List Nat) (a : Nat), lookF sl closed f wl a = 1 ∨ lookF sl closed f wl a = 0 ∨ lookF sl closed f wl a = -1
  | [], _ => .inl rfl
  | c :: r, a => by
    unfold lookF
    cases sl[a]? with
    | none => cases closed <;> simp
    | some d =>
      dsimp only
      split
      · exact look_three sl closed f r (a + 1)
      · exact .inr (.inl rfl)
theorem str_cons (c : Nat) (wl : List Nat) : (⟨#[c]⟩ : Str) ++ (⟨wl.toArray⟩ : Str) = ⟨(c :: wl).toArray⟩ := by
  refine PySem.Str.ext' (Array.toList_inj.mp ?_)
  rw [PySem.Str.cps_append, Array.toList_append]
  simp
theorem swap2_led {g h : Heap} {L : Addr} {x y : Addr × Obj} {A tl : Led} (N : News g L h (x :: y :: (A ++ tl))) : News g L h ([] ++ ((x :: A) ++ (y :: tl))) := News.sub N fun p hp => by
  simp only [List.nil_append, List.mem_append, List.mem_cons] at hp ⊢
  rcases hp with (h | h) | h | h
  · exact .inl h
  · exact .inr (.inr (.inl h))
  · exact .inr (.inl h)
  · exact .inr (.inr (.inr h))
theorem pick6_sub {x y e b1 b2 : Addr × Obj} {A nt : Led} : ∀ p ∈ A ++ (x :: y :: (nt ++ [e])), p ∈ x :: (A ++ (y :: (nt ++ [e, b1, b2]))) := by
  intro p hp
  simp only [List.mem_append, List.mem_cons, List.not_mem_nil, or_false] at hp ⊢
  rcases hp with hp | rfl | rfl | hp | rfl
  · exact .inr (.inl hp)
  · exact .inl rfl
  · exact .inr (.inr (.inl rfl))
  · exact .inr (.inr (.inr (.inl hp)))
  · exact .inr (.inr (.inr (.inr (.inl rfl))))
section
variable {w : World} {Z : Tz} {at' : Nat} {state : Str} {out errs sv : List Value} {closed isret : Bool} {last buf : Str} {waiting done : Bool} {a1 a2 a3 a4 a5 a6 : Tok} {n1 n2 n3 n4 : Nat} {pv : Int} {oa ea : Array Value}
theorem news_conv0 {g h : Heap} {L : Addr} {post : Led} (N : News g L h ((Z.t, instObj 296 Z.td) :: (Z.td, dictOf (tzEs w Z pv state last buf waiting done a1 a2 a3 a4 a5 a6) 14) :: (Z.st, instObj 133 Z.sd) :: (Z.sd, dictOf (stEs w Z closed isret) 4) :: (Z.sg, listOf sv.toArray n1) :: (Z.se, listOf #[] n2) :: (Z.ou, listOf oa n3) :: (Z.er, listOf ea n4) :: (Z.sts, Z.so) :: post)) (hp : pv = (at' : Int)) (ho : oa = out.toArray) (he : ea = errs.toArray) :
    News g L h ((tzLed w Z ⟨at', state, out, errs, sv, closed, isret, last, buf, waiting, done, a1, a2, a3, a4, a5, a6, n1, n2, n3, n4⟩ ++ post)) := by subst hp ho he; exact N
theorem fresh_conv0 {h : Heap} {off : List Addr} {post : Led} (N : Fresh h off ((Z.t, instObj 296 Z.td) :: (Z.td, dictOf (tzEs w Z pv state last buf waiting done a1 a2 a3 a4 a5 a6) 14) :: (Z.st, instObj 133 Z.sd) :: (Z.sd, dictOf (stEs w Z closed isret) 4) :: (Z.sg, listOf sv.toArray n1) :: (Z.se, listOf #[] n2) :: (Z.ou, listOf oa n3) :: (Z.er, listOf ea n4) :: (Z.sts, Z.so) :: post)) (hp : pv = (at' : Int)) (ho : oa = out.toArray) (he : ea = errs.toArray) :
    Fresh h off ((tzLed w Z ⟨at', state, out, errs, sv, closed, isret, last, buf, waiting, done, a1, a2, a3, a4, a5, a6, n1, n2, n3, n4⟩ ++ post)) := by subst hp ho he; exact N
theorem news_conv1 {g h : Heap} {L : Addr} {x : Addr × Obj} {post : Led} (N : News g L h (x :: (Z.t, instObj 296 Z.td) :: (Z.td, dictOf (tzEs w Z pv state last buf waiting done a1 a2 a3 a4 a5 a6) 14) :: (Z.st, instObj 133 Z.sd) :: (Z.sd, dictOf (stEs w Z closed isret) 4) :: (Z.sg, listOf sv.toArray n1) :: (Z.se, listOf #[] n2) :: (Z.ou, listOf oa n3) :: (Z.er, listOf ea n4) :: (Z.sts, Z.so) :: post)) (hp : pv = (at' : Int)) (ho : oa = out.toArray) (he : ea = errs.toArray) :
    News g L h (x :: (tzLed w Z ⟨at', state, out, errs, sv, closed, isret, last, buf, waiting, done, a1, a2, a3, a4, a5, a6, n1, n2, n3, n4⟩ ++ post)) := by subst hp ho he; exact N
theorem fresh_conv1 {h : Heap} {off : List Addr} {x : Addr × Obj} {post : Led} (N : Fresh h off (x :: (Z.t, instObj 296 Z.td) :: (Z.td, dictOf (tzEs w Z pv state last buf waiting done a1 a2 a3 a4 a5 a6) 14) :: (Z.st, instObj 133 Z.sd) :: (Z.sd, dictOf (stEs w Z closed isret) 4) :: (Z.sg, listOf sv.toArray n1) :: (Z.se, listOf #[] n2) :: (Z.ou, listOf oa n3) :: (Z.er, listOf ea n4) :: (Z.sts, Z.so) :: post)) (hp : pv = (at' : Int)) (ho : oa = out.toArray) (he : ea = errs.toArray) :
    Fresh h off (x :: (tzLed w Z ⟨at', state, out, errs, sv, closed, isret, last, buf, waiting, done, a1, a2, a3, a4, a5, a6, n1, n2, n3, n4⟩ ++ post)) := by subst hp ho he; exact N
theorem news_conv2 {g h : Heap} {L : Addr} {x y : Addr × Obj} {post : Led} (N : News g L h (x :: y :: (Z.t, instObj 296 Z.td) :: (Z.td, dictOf (tzEs w Z pv state last buf waiting done a1 a2 a3 a4 a5 a6) 14) :: (Z.st, instObj 133 Z.sd) :: (Z.sd, dictOf (stEs w Z closed isret) 4) :: (Z.sg, listOf sv.toArray n1) :: (Z.se, listOf #[] n2) :: (Z.ou, listOf oa n3) :: (Z.er, listOf ea n4) :: (Z.sts, Z.so) :: post)) (hp : pv = (at' : Int)) (ho : oa = out.toArray) (he : ea = errs.toArray) :
    News g L h (x :: y :: (tzLed w Z ⟨at', state, out, errs, sv, closed, isret, last, buf, waiting, done, a1, a2, a3, a4, a5, a6, n1, n2, n3, n4⟩ ++ post)) := by subst hp ho he; exact N
theorem fresh_conv2 {h : Heap} {off : List Addr} {x y : Addr × Obj} {post : Led} (N : Fresh h off (x :: y :: (Z.t, instObj 296 Z.td) :: (Z.td, dictOf (tzEs w Z pv state last buf waiting done a1 a2 a3 a4 a5 a6) 14) :: (Z.st, instObj 133 Z.sd) :: (Z.sd, dictOf (stEs w Z closed isret) 4) :: (Z.sg, listOf sv.toArray n1) :: (Z.se, listOf #[] n2) :: (Z.ou, listOf oa n3) :: (Z.er, listOf ea n4) :: (Z.sts, Z.so) :: post)) (hp : pv = (at' : Int)) (ho : oa = out.toArray) (he : ea = errs.toArray) :
    Fresh h off (x :: y :: (tzLed w Z ⟨at', state, out, errs, sv, closed, isret, last, buf, waiting, done, a1, a2, a3, a4, a5, a6, n1, n2, n3, n4⟩ ++ post)) := by subst hp ho he; exact N
theorem news_conv3 {g h : Heap} {L : Addr} {x y z : Addr × Obj} {post : Led} (N : News g L h (x :: y :: z :: (Z.t, instObj 296 Z.td) :: (Z.td, dictOf (tzEs w Z pv state last buf waiting done a1 a2 a3 a4 a5 a6) 14) :: (Z.st, instObj 133 Z.sd) :: (Z.sd, dictOf (stEs w Z closed isret) 4) :: (Z.sg, listOf sv.toArray n1) :: (Z.se, listOf #[] n2) :: (Z.ou, listOf oa n3) :: (Z.er, listOf ea n4) :: (Z.sts, Z.so) :: post)) (hp : pv = (at' : Int)) (ho : oa = out.toArray) (he : ea = errs.toArray) :
    News g L h (x :: y :: z :: (tzLed w Z ⟨at', state, out, errs, sv, closed, isret, last, buf, waiting, done, a1, a2, a3, a4, a5, a6, n1, n2, n3, n4⟩ ++ post)) := by subst hp ho he; exact N
theorem fresh_conv3 {h : Heap} {off : List Addr} {x y z : Addr × Obj} {post : Led} (N : Fresh h off (x :: y :: z :: (Z.t, instObj 296 Z.td) :: (Z.td, dictOf (tzEs w Z pv state last buf waiting done a1 a2 a3 a4 a5 a6) 14) :: (Z.st, instObj 133 Z.sd) :: (Z.sd, dictOf (stEs w Z closed isret) 4) :: (Z.sg, listOf sv.toArray n1) :: (Z.se, listOf #[] n2) :: (Z.ou, listOf oa n3) :: (Z.er, listOf ea n4) :: (Z.sts, Z.so) :: post)) (hp : pv = (at' : Int)) (ho : oa = out.toArray) (he : ea = errs.toArray) :
    Fresh h off (x :: y :: z :: (tzLed w Z ⟨at', state, out, errs, sv, closed, isret, last, buf, waiting, done, a1, a2, a3, a4, a5, a6, n1, n2, n3, n4⟩ ++ post)) := by subst hp ho he; exact N
end
theorem tups_nil : Tups [] := fun _ h => nomatch h
theorem tups_cons {p : Addr × Obj} {l : Led} (h : p.2.cls = .type "tuple") (t : Tups l) : Tups (p :: l) := List.forall_mem_cons.mpr ⟨h, t⟩
theorem tups_app {l l' : Led} (h : Tups l) (t : Tups l') : Tups (l ++ l') := fun p hp => (List.mem_append.mp hp).elim (h p) (t p)
/-- what a rule's turn leaves -/
noncomputable def RuleOut (w : World) (Z : Tz) (S : Ts) (R : RR) (r : Value) (led' : Led) : Prop :=
  r = .none ∧ ∃ vs es nt a1 a2 a6 n3 n4, led' = tzLed w Z (after S R vs es a1 a2 a6 n3 n4) ++ nt ∧ Tups nt ∧ DatAll nt vs R.out ∧ DatAll nt es R.errs
theorem RuleOut.elim {w : World} {Z : Tz} {S : Ts} {R : RR} {r : Value} {led' : Led} {C : Prop} (h : RuleOut w Z S R r led')
    (k : ∀ vs es nt a1 a2 a6 n3 n4, r = .none → led' = tzLed w Z (after S R vs es a1 a2 a6 n3 n4) ++ nt → Tups nt → DatAll nt vs R.out → DatAll nt es R.errs → C) : C := by
  obtain ⟨h1, vs, es, nt, a1, a2, a6, n3, n4, h2, h3, h4, h5⟩ := h
  exact k vs es nt a1 a2 a6 n3 n4 h1 h2 h3 h4 h5
theorem ro_intro {w : World} {Z : Tz} {S : Ts} {R : RR} {at1 k1 : Nat} {o1 e1 : List Dat} {wt dn wt' dn' : Bool} {ls : Option (List Nat)} {out' errs' vs es : List Value} {last' : Str} {nt : Led} {a1 a2 a6 : Tok} {n3 n4 : Nat}
    (hR : R = ⟨at1, k1, o1, e1, wt, dn, ls⟩) (ho : out' = S.out ++ vs) (he : errs' = S.errs ++ es) (hl : last' = match (generalizing := false) ls with | some l => (⟨l.toArray⟩ : Str) | none => S.last) (hw : wt' = (wt || S.waiting)) (hd : dn' = (dn || S.done))
    (hT : Tups nt) (hD : DatAll nt vs o1) (hE : DatAll nt es e1) :
    RuleOut w Z S R .none (tzLed w Z ⟨at1, nm k1, out', errs', S.sv, S.closed, S.isret, last', S.buf, wt', dn', a1, a2, S.a3, S.a4, S.a5, a6, S.n1, S.n2, n3, n4⟩ ++ nt) := by
  subst hR ho he hl hw hd
  exact ⟨rfl, vs, es, nt, a1, a2, a6, n3, n4, rfl, hT, hD, hE⟩
set_option maxHeartbeats 0 in
theorem rule_spec (w : World) (Z : Tz) (S : Ts) (hZ : Z.Ok) (k : Nat) (hk4 : k < 4) (hst : S.state = nm k) (wl : List Nat) (p : Nat) (f : Bool) (hpf : ((⟨#[p]⟩ : Str) == Str.ofString "~") = f) (hword : (Txt.split S.buf (Str.ofString "|"))[k]? = some ⟨(p :: wl).toArray⟩) (hwl : wl.length ≤ 1000) (hbsz : S.buf.length + 2 ≤ sizeLine) (ho1 : S.out.length ≤ 10000) (ho2 : S.errs.length ≤ 10000) (sl : List Nat) (hs : StrsAre S.sv (sl.map one)) (hsl : sl.length ≤ 1000) (hc : ∀ c ∈ sl, c < 100000) :
    Spec w 30 338 [.ref Z.t] (tzLed w Z S)
      (RuleOut w Z S (ruleF sl S.closed wl f k S.at')) := by
  w_top off
  obtain ⟨at', state, out, errs, sv, closed, isret, last, buf, waiting, done, a1, a2, a3, a4, a5, a6, n1, n2, n3, n4⟩ := S
  dsimp only at *
  have hosz : out.toArray.size ≤ sizeLine := by rw [List.size_toArray, sizeLine_eq]; omega
  have hesz : errs.toArray.size ≤ sizeLine := by rw [List.size_toArray, sizeLine_eq]; omega
  subst hst
  have z9 := hZ.2.2.2.2.2.2.2.2
  have hlen := hs.len_eq
  rw [List.length_map] at hlen
  unfold Spec
  intro mg mb mean dp un gd cn cs a ccd cl outer A₀ base h₀ L m s Q E B F X N T hk hroom hun hret
  simp only [tzLed] at N
  refine wpAny_call ?_
  k_dflt (refine' enterH ?k1'9 ?k2'9 ?k3'9 ?k4'9 ?k5'9 ?kA'9 ?kF'9 ?kK'9 ?k6'9 ?k7'9 ?k8'9 ?k9'9 ?kB'9 ?_ ?c2'9 ?c3'9 ?c4'9 ?c5'9; (case kA'9 => exact rfl); (case kF'9 => exact rfl); (case kK'9 => assumption); (case k1'9 => k_asm); (case k2'9 => k_asm); (case k3'9 => k_asm); (case k4'9 => k_asm); (case k5'9 => k_asm); (case k6'9 => k_is); (case k7'9 => k_is); (case k8'9 => (first | exact rm0 (by assumption) | exact rm1 (by assumption) (by decide) | k_extra "room" | ktr_room)); (case k9'9 => first | exact BindsTo.of_eq rfl | exact binds_K (by k_in) rfl (by k_is) rfl rfl rfl | exact hbind9 _ (by k_in)); (case c5'9 => decide); (case kB'9 => exact locs rfl); (case c2'9 => exact rfl); (case c3'9 => exact rfl); (case c4'9 => exact rfl); k_whole; intro _ _ _ _ _ _ _ _ l1'9; (try k_lt l1'9); (try dsimp only); (with_reducible refine (?_ : wpAny _ _ _ _ _ _)); (try ((fail_if_success (fail_if_success k_fold)); refine fold_QE ?_; intro _ _)); (try (revert l1'9; intro _)))
  k_with_none
  k_with "room" => (first | exact rmS2 (by assumption) (by decide) | exact rmS3 (by assumption) (by decide) | exact rmS4 (by assumption) (by decide) | exact rm2 (by assumption) (by decide) | exact rm0 (by assumption) | exact rm1 (by assumption) (by decide) | (dsimp +zetaDelta only; ktr_room))
  k_with "units" => (first | exact cl3 (by assumption) (by decide) | exact um2 (by assumption) (by decide) | exact um1 (by assumption) (by decide) | (dsimp +zetaDelta only; ktr_units))
  k_with "is_list" => (exact News.isList (by k_asm) (by k_mem))
  k_with "st" => (first | ((fail_if_success (fail_if_success k_unfold)); refine (?_ : wpAny _ _ _ _ _ _)) | (k_unfold; (try dsimp only)) | (k_end; wrow_close) | walk1 | (dsimp only; walk1) | (leave1; walk_say "STEP leave1"; try dsimp only) | fail "no step")
  k_with "om" => (first | assumption | with_reducible rfl | decide | exact Nat.le_trans (by assumption) (by decide) | exact Nat.lt_of_le_of_lt (by assumption) (by decide) | ((repeat (with_reducible rename _ ∧ _ => om9; clear om9)); first | ((repeat (with_reducible rename _ ≠ _ => om9; clear om9)); (repeat (with_reducible rename @Eq Nat _ _ => om9; clear om9)); (repeat (with_reducible rename @Eq Int _ _ => om9; clear om9)); omega +splitNatSub) | omega +splitNatSub))
  k_with "fold" => ((fail_if_success (fail_if_success k_fold)); refine fold_QES ?_; intro _ _ _ _)
  k_with "kne" => (first | ((refine (?_ : @Ne Nat _ _)); first | assumption | exact Ne.symm (by assumption) | k_extra "ne") | (refine neN ?_; (try dsimp only); first | assumption | exact Ne.symm (by assumption) | k_extra "ne" | omega))
  k_with "tb" => (repeat (first | exact List.forall_mem_nil _ | refine List.forall_mem_cons.mpr ⟨rfl, ?_⟩))
  k_with "ne" => with_reducible (first | exact na0 (by assumption) | exact ns0 (by assumption) | exact na1 (by assumption) | exact ns1 (by assumption) | exact na2 (by assumption) | exact ns2 (by assumption) | exact na3 (by assumption) | exact ns3 (by assumption) | exact na4 (by assumption) | exact ns4 (by assumption) | exact na5 (by assumption) | exact ns5 (by assumption) | exact na6 (by assumption) | exact ns6 (by assumption) | exact na7 (by assumption) | exact ns7 (by assumption) | exact na8 (by assumption) | exact ns8 (by assumption) | exact na9 (by assumption) | exact ns9 (by assumption) | exact na10 (by assumption) | exact ns10 (by assumption) | exact na11 (by assumption) | exact ns11 (by assumption) | exact na12 (by assumption) | exact ns12 (by assumption) | exact na13 (by assumption) | exact ns13 (by assumption) | exact na14 (by assumption) | exact ns14 (by assumption) | exact na15 (by assumption) | exact ns15 (by assumption))
  k_with "ne" => with_reducible (first | (show Tz.sts _ ≠ _; first | exact zn01 (by assumption) | exact zn02 (by assumption) | exact zn03 (by assumption) | exact zn04 (by assumption) | exact zn05 (by assumption) | exact zn06 (by assumption) | exact zn07 (by assumption) | exact zn08 (by assumption)) | (show Tz.td _ ≠ _; first | exact zn10 (by assumption) | exact zn12 (by assumption) | exact zn13 (by assumption) | exact zn14 (by assumption) | exact zn15 (by assumption) | exact zn16 (by assumption) | exact zn17 (by assumption) | exact zn18 (by assumption)) | (show Tz.t _ ≠ _; first | exact zn20 (by assumption) | exact zn21 (by assumption) | exact zn23 (by assumption) | exact zn24 (by assumption) | exact zn25 (by assumption) | exact zn26 (by assumption) | exact zn27 (by assumption) | exact zn28 (by assumption)) | (show Tz.sd _ ≠ _; first | exact zn30 (by assumption) | exact zn31 (by assumption) | exact zn32 (by assumption) | exact zn34 (by assumption) | exact zn35 (by assumption) | exact zn36 (by assumption) | exact zn37 (by assumption) | exact zn38 (by assumption)) | (show Tz.st _ ≠ _; first | exact zn40 (by assumption) | exact zn41 (by assumption) | exact zn42 (by assumption) | exact zn43 (by assumption) | exact zn45 (by assumption) | exact zn46 (by assumption) | exact zn47 (by assumption) | exact zn48 (by assumption)) | (show Tz.sg _ ≠ _; first | exact zn50 (by assumption) | exact zn51 (by assumption) | exact zn52 (by assumption) | exact zn53 (by assumption) | exact zn54 (by assumption) | exact zn56 (by assumption) | exact zn57 (by assumption) | exact zn58 (by assumption)) | (show Tz.se _ ≠ _; first | exact zn60 (by assumption) | exact zn61 (by assumption) | exact zn62 (by assumption) | exact zn63 (by assumption) | exact zn64 (by assumption) | exact zn65 (by assumption) | exact zn67 (by assumption) | exact zn68 (by assumption)) | (show Tz.ou _ ≠ _; first | exact zn70 (by assumption) | exact zn71 (by assumption) | exact zn72 (by assumption) | exact zn73 (by assumption) | exact zn74 (by assumption) | exact zn75 (by assumption) | exact zn76 (by assumption) | exact zn78 (by assumption)) | (show Tz.er _ ≠ _; first | exact zn80 (by assumption) | exact zn81 (by assumption) | exact zn82 (by assumption) | exact zn83 (by assumption) | exact zn84 (by assumption) | exact zn85 (by assumption) | exact zn86 (by assumption) | exact zn87 (by assumption)))
  k_with "execs cons" => ((try ((fail_if_success (fail_if_success k_fold)); refine fold_QE ?_; intro _ _)); refine ex_consA ?_; intro _ _ _ _; (try (with_reducible rename News _ _ _ _ => kN'9; dsimp only at kN'9)); (try (with_reducible rename Fr _ _ _ _ => kF'9; refine f_let kF'9 ?_; clear kF'9; intro _ _)))
  k_with "LeaveH" => (refine' leaveH_ ?k1'9 ?k2'9 ?_; (case k1'9 => k_asm); (case k2'9 => k_asm); k_whole; intro _ _ _ _)
  k_with "pyIter ref" => ((with_reducible show wpAny _ _ (pyIter _) (fun it s₂ => LoopAtV _ _ _ _ _ _ _ _ _ it s₂) _ _); refine Stop.mk ?_)
  k_with "pyIter str" => ((with_reducible show wpAny _ _ (pyIter _) (fun it s₂ => LoopAtV _ _ _ _ _ _ _ _ _ it s₂) _ _); refine Stop.mk ?_)
  k_with "call ref" => (k_extra "mine call")
  k_with "call builtin:len" => (k_here; (with_reducible show wpAny _ _ (call (Value.builtin "len") [Value.ref _]) _ _ _); (with_unfolding_all refine' len_listN ?k1'9 ?k2'9 ?_; (case k1'9 => is_list); (case k2'9 => omega); k_whole))
  k_with "subscriptTail" => (k_here; (with_reducible show wpAny _ _ (subscriptTail _ _ (Value.ref _) (Value.int _ _)) _ _ _); (with_unfolding_all refine' sign_item ?k1'9 ?k2'9 ?k3'9 ?k4'9 ?k5'9 ?_; (case k1'9 => is_list); (case k2'9 => assumption); (case k3'9 => assumption); (case k4'9 => (push_cast; omega)); (case k5'9 => omega); k_whole); intro _)
  k_with "subscriptTail" => (k_here; (with_reducible show wpAny _ _ (subscriptTail _ _ (Value.str _ _) (Value.int _ _)) _ _ _); (with_unfolding_all refine' char_item ?k1'9 ?k2'9 ?k3'9 ?_; (case k1'9 => assumption); (case k2'9 => (push_cast; omega)); (case k3'9 => omega); k_whole))
  k_with "TurnL" => (refine TurnL.ret ?_; (try dsimp only))
  k_with "subscriptTail Name Name str int" => (k_here; (with_reducible show wpAny _ _ (subscriptTail _ _ (Value.str _ _) (Value.int _ _)) _ _ _); (with_unfolding_all refine' char_item ?k1'9 ?k2'9 ?k3'9 ?_; (case k1'9 => assumption); (case k2'9 => (push_cast; omega)); (case k3'9 => omega); k_whole))
  k_with "exec For Name Name cons nil" => (k_here; (rename Fr _ _ _ _ => lF'9); (with_unfolding_all refine' For_invVF lF'9 ?k1'9 ?k2'9 ?_; (case k1'9 => exact rfl); (case k2'9 => exact rfl); k_whole))
  k_with "call builtin:list.append" => (k_here; (with_reducible show wpAny _ _ (call (Value.builtin _) [Value.ref _, _]) _ _ _); k_dflt (refine' append_K ?k1'9 ?k2'9 ?k3'9 ?_ ?z'9; (case k1'9 => k_asm); (case k2'9 => k_asm); (case k3'9 => k_upd); (case z'9 => assumption); k_whole); intro _ _ _; (try k_sweep))
  k_with "call builtin:str.split" => (k_here; (with_reducible show wpAny _ _ (call (Value.builtin "str.split") _) _ _ _); (refine KSpl.split1 (by k_asm) (by k_asm) (by decide) ?_ (by assumption)); (intro _ _ _ _ e'9 a'9 _ _ l1'9); (try k_lt l1'9); rw [e'9] at a'9; (try (revert a'9; intro _)); (try (revert l1'9; intro _)); (try (revert e'9; intro _)))
  k_with "subscriptTail" => (k_here; (with_reducible show wpAny _ _ (subscriptTail _ _ (Value.ref _) (Value.int _ _)) _ _ _); (with_unfolding_all refine' strs_item ?k1'9 ?k2'9 ?k3'9 ?k4'9 ?k5'9 ?_; (case k1'9 => is_list); (case k2'9 => assumption); (case k3'9 => assumption); (case k4'9 => rfl); (case k5'9 => omega); k_whole); intro _)
  k_with "subscriptTail Call Attribute cons nil Name ref int" => (k_here; (with_reducible show wpAny _ _ (subscriptTail _ _ (Value.ref _) (Value.int _ _)) _ _ _); (with_unfolding_all refine' strs_item ?k1'9 ?k2'9 ?k3'9 ?k4'9 ?k5'9 ?_; (case k1'9 => is_list); (case k2'9 => assumption); (case k3'9 => assumption); (case k4'9 => rfl); (case k5'9 => omega); k_whole); intro _)
  k_with "getMethod ref" => (k_here; (with_reducible show wpAny _ _ (getMethod (Value.ref _) (PySem.Str.ofString "index") _) _ _ _); k_dflt (refine' names_method ?N'9 ?m'9 ?_; (case N'9 => k_asm); (case m'9 => k_mem)))
  k_with "call builtin:tuple.index" => (k_here; k_dflt (refine' names_index ?k'9 ?N'9 ?m'9 ?_; (case N'9 => k_asm); (case m'9 => k_mem); (case k'9 => omega)))
  k_with "subscriptTail Name BinOp ref int" => (k_here; (with_reducible show wpAny _ _ (subscriptTail _ _ (Value.ref _) (Value.int _ _)) _ _ _); (with_unfolding_all refine' names_item ?N'9 ?m'9 ?hj'9 ?h5'9 ?_; (case N'9 => k_asm); (case m'9 => k_mem); (case hj'9 => assumption); (case h5'9 => omega); k_whole); intro _)
  k_with "subscriptTail Name Slice str ref" => (k_here; ((with_unfolding_all refine' cut_tail ?F'9 ?N'9 ?sz'9 ?_); (case F'9 => k_asm); (case N'9 => k_asm); (case sz'9 => assumption); intro _ _ _ _ _; (try k_sweep)))
  k_with "subscriptTail Name Constant str int" => (k_here; (with_unfolding_all refine' head_item ?sz'9 ?_); (case sz'9 => assumption))
  k_with "setAttr ref" => (k_here; k_dflt (first | (refine' set_tz ?k1'9 ?k2'9 ?k3'9 ?k4'9 ?k5'9 ?k6'9 ?k7'9 ?k8'9 ?k9'9 ?k10'9 ?k11'9 ?k12'9 ?k13'9 ?_; (case k1'9 => k_asm); (case k2'9 => k_asm); (case k3'9 => k_asm); (case k4'9 => k_inst); (case k5'9 => exact rfl); (case k6'9 => k_is); (case k7'9 => k_is); (case k8'9 => k_is); (case k9'9 => k_is); (case k10'9 => k_get); (case k11'9 => k_put); (case k12'9 => k_upd); (case k13'9 => exact Nat.le_of_ble_eq_true rfl); k_whole; intro _ _ _; (try k_sweep)) | (refine' set_st ?k1'9 ?k2'9 ?k3'9 ?k4'9 ?k5'9 ?k6'9 ?k7'9 ?k8'9 ?k9'9 ?k10'9 ?k11'9 ?k12'9 ?k13'9 ?_; (case k1'9 => k_asm); (case k2'9 => k_asm); (case k3'9 => k_asm); (case k4'9 => k_inst); (case k5'9 => exact rfl); (case k6'9 => k_is); (case k7'9 => k_is); (case k8'9 => k_is); (case k9'9 => k_is); (case k10'9 => k_get); (case k11'9 => k_put); (case k12'9 => k_upd); (case k13'9 => exact Nat.le_of_ble_eq_true rfl); k_whole; intro _ _ _; (try k_sweep))))
  k_with "eval BinOp" => k_extra "fold"
  k_with "eval Call" => k_extra "fold"
  k_with "eval List" => k_extra "fold"
  k_with "eval Tuple" => k_extra "fold"
  k_with "eval Subscript" => k_extra "fold"
  k_with "eval Compare" => k_extra "fold"
  k_with "eval BoolOp" => k_extra "fold"
  k_with "mine call" => ((with_reducible show wpAny _ _ (call (Value.ref 314) _) _ _ _); refine Stop.mk ?_)
  k_with "mine call" => ((with_reducible show wpAny _ _ (call (Value.ref 244) _) _ _ _); refine Stop.mk ?_)
  k_with "mine call" => ((with_reducible show wpAny _ _ (call (Value.ref 215) _) _ _ _); refine Stop.mk ?_)
  k_steps
  unfold Stop
  k_dflt (refine (names_spec w).use0 (by k_asm) (by k_asm) (by k_asm) (by k_asm) (by k_asm) rfl (by (first | exact rm0 (by assumption) | exact rm1 (by assumption) (by decide) | k_extra "room" | ktr_room)) (by (first | k_extra "units" | ktr_units)) ?_)
  rintro r led' h' tk' F' N' off so9
  refine names_elim so9 ?_
  clear so9
  rintro nt' t0 t1 t2 t3 t4 rfl rfl
  have off2 : ∀ b ∈ [Z.t, Z.td, Z.st, Z.sd, Z.sg, Z.se, Z.ou, Z.er, Z.sts], @Ne Nat nt' b := by
    intro b hb
    rw [← tz_addr w Z ⟨at', nm k, out, errs, sv, closed, isret, last, buf, waiting, done, a1, a2, a3, a4, a5, a6, n1, n2, n3, n4⟩] at hb
    obtain ⟨q, hq, rfl⟩ := List.mem_map.mp hb
    exact off _ (.head _) q hq
  clear off
  have e1 : @Ne Nat nt' Z.td := off2 _ (by simp)
  have e2 : @Ne Nat nt' Z.ou := off2 _ (by simp)
  have e3 : @Ne Nat nt' Z.er := off2 _ (by simp)
  simp only [List.cons_append, List.nil_append] at N'
  have hbeh : Int.fmod ((k : Int) + 1) 4 = (((k + 1) % 4 : Nat) : Int) := by
    rw [Int.fmod_eq_emod_of_nonneg _ (by omega)]; push_cast; rfl
  rcases hq : sl[at']? with _ | c
  · have hq2 := List.getElem?_eq_none_iff.mp hq
    have hR : ruleF sl closed wl f k at' = ⟨at' + 1, k, [eofD], [], false, true, none⟩ := by unfold ruleF; rw [hq]
    (try dsimp only)
    k_steps
    rename News _ _ _ _ => N9
    rename Fresh _ _ _ => H9
    exact hret _ _ _ _ (by assumption) (News.sub (news_conv3 N9 rfl (List.push_toArray _ _) rfl) pick1_sub) (by assumption) (Fresh.sub (fresh_conv3 H9 rfl (List.push_toArray _ _) rfl) pick1_sub)
      (ro_intro (vs := [_]) (es := []) hR rfl (List.append_nil errs).symm rfl rfl rfl (tups_cons rfl tups_nil) (.cons (.tuple (.head _) (.cons (.str _ _) .nil)) .nil) .nil)
  · have hq2 := (List.getElem?_eq_some_iff.mp hq).1
    have hce : ((⟨#[c]⟩ : Str) == Str.ofString "") = false := one_emp c
    (try dsimp only)
    k_steps
    unfold Stop
    rename News _ _ _ _ => N9
    rename StrsAre (strValues _) _ => hparts
    rename @LT.lt Nat _ nt' _ ∧ _ => l9
    have hat : ((at' : Int) + 1) = ((at' + 1 : Nat) : Int) := by push_cast; rfl
    rw [hat, tz_cons] at N9
    have hDoff := ne9 l9.2
    k_dflt (refine (looks_spec w Z ⟨at' + 1, nm k, out, errs, sv, closed, isret, last, buf, waiting, done, _, a2, a3, a4, a5, a6, n1, n2, n3, n4⟩ _ wl sl _ hwl hs hsl hc).useN [(_, _), (_, _)] [] (by k_asm) (by k_asm) (by k_asm) N9 (by k_asm) rfl (by (first | exact rm0 (by assumption) | exact rm1 (by assumption) (by decide) | k_extra "room" | ktr_room)) (by (first | k_extra "units" | ktr_units)) ?_ ?_)
    · rw [tz_addr]
      exact OwnOff.cons hDoff (OwnOff.cons off2 OwnOff.nil)
    rintro r led' h' tk' F' N' St' Fr' ⟨⟨tkr, rfl⟩, rfl⟩
    clear St' Fr'
    rw [hpf]
    rcases look_three sl closed f wl (at' + 1) with hL | hL | hL
    · rw [hL]
      have hlw : (⟨(p :: wl).toArray⟩ : Str).length = wl.length + 1 := by simp [Str.length]
      have hlw2 : (⟨(p :: wl).toArray⟩ : Str).length ≤ 1001 := by rw [hlw]; omega
      have hlw3 : (⟨wl.toArray⟩ : Str).length ≤ 1000 := by simpa [Str.length] using hwl
      simp only [tzLed, List.cons_append, List.nil_append] at N'
      (try dsimp only)
      k_steps
      unfold Stop
      rename News _ _ _ _ => N9
      rename @LT.lt Nat _ _ _ ∧ _ => l8
      have hatw : (((at' + 1 : Nat) : Int) + (((⟨(p :: wl).toArray⟩ : Str).length : Int) - 1)) = ((at' + 1 + wl.length : Nat) : Int) := by rw [hlw]; push_cast; omega
      simp only [List.push_toArray] at N9
      rw [hatw, tz_cons] at N9
      rw [str_cons]
      have hD8 := ne11 l8
      clear l8
      k_dflt (refine (emit_text_spec w Z ⟨at' + 1 + wl.length, nm k, out, _, sv, closed, isret, last, buf, waiting, done, _, a2, a3, a4, a5, a6, n1, n2, n3, _⟩ hZ (c :: wl) _ ?_).useN [(_, _)] [(_, _), (_, _)] (by k_asm) (by k_asm) (by k_asm) N9 (by k_asm) rfl (by (first | exact rm0 (by assumption) | exact rm1 (by assumption) (by decide) | k_extra "room" | ktr_room)) (by (first | k_extra "units" | ktr_units)) ?_ ?_)
      · simp only [List.length_cons]; omega
      · rw [tz_addr]
        exact OwnOff.cons hD8 (OwnOff.cons hDoff (OwnOff.cons off2 OwnOff.nil))
      rintro r led' h' tk' F' N' St' Fr' ⟨rfl, vs, nt, n3', rfl, hT, hD⟩
      clear St' Fr'
      have hoff := own_tail3 N' z9 hT hD8 hDoff off2
      simp only [tzLed, List.cons_append, List.nil_append, List.append_assoc] at N'
      have hosz2 : (out ++ vs).toArray.size ≤ sizeLine := by
        have h1 := hD.length
        simp only [List.length_map, List.length_cons] at h1
        rw [List.size_toArray, List.length_append, sizeLine_eq]; omega
      have hR : ruleF sl closed wl f k at' = ⟨at' + 1 + wl.length, (k + 1) % 4, (c :: wl).map charD ++ [tokD f wl], [errD "taken" ((at' + wl.length : Nat) : Int)], false, false, if f then some wl else none⟩ := by
        unfold ruleF; rw [hq]; dsimp only; rw [if_neg (by rw [hL]; decide), if_pos hL]
      (try dsimp only)
      k_with "eval IfExp" => (refine if_two f ?_ ?_)
      k_with "mine call" => ((with_reducible show wpAny _ _ (call (Value.ref 201) _) _ _ _); refine Stop.mk ?_)
      k_steps
      unfold Stop
      rename News _ _ _ _ => N9
      rename Fr _ _ _ _ => F9
      (try dsimp +zetaDelta only at F9)
      rename @LT.lt Nat _ _ _ ∧ _ => l9
      have hD9 := ne9 l9.2
      have hDE := l9.1
      have hDt := allLt_mem l9.2.2.2.2.2.2.2.2.2.2
      clear l9
      rename @LT.lt Nat _ _ _ ∧ _ => l7
      have hE9 := ne9 l7
      clear l7
      have e9a := hD9 _ (.tail _ (.head _))
      have e9b := hE9 _ (.tail _ (.head _))
      have hol : (out ++ vs).length ≤ 100000 := by
        have h1 := hD.length
        simp only [List.length_map, List.length_cons] at h1
        rw [List.length_append]; omega
      rw [tz_cons] at N9
      have N9c := swap2_led (A := tzLed w Z _) N9
      k_dflt (refine (emit_tok_spec w Z ⟨at' + 1 + wl.length, nm k, out ++ vs, errs ++ [_], sv, closed, isret, last, buf, waiting, done, _, a2, a3, a4, a5, a6, n1, n2, n3', _⟩ hZ f wl _ _ _ _ hol (hD9 _ (.tail _ (.head _))) (hD9 _ (.tail _ (.tail _ (.tail _ (.tail _ (.tail _ (.tail _ (.head _))))))))).useN [] _ (by k_asm) F9 (by k_asm) N9c (by k_asm) rfl (by (first | exact rm0 (by assumption) | exact rm1 (by assumption) (by decide) | k_extra "room" | ktr_room)) (by (first | k_extra "units" | ktr_units)) ?_ ?_)
      · intro p hp b hb
        rw [List.map_cons, tz_addr] at hb
        rcases List.mem_cons.mp hb with rfl | hb
        · rcases List.mem_cons.mp hp with rfl | hp
          · exact Nat.ne_of_lt hDE
          · exact Nat.ne_of_lt (hDt p hp)
        · rcases List.mem_cons.mp hp with rfl | hp
          · exact hE9 _ hb
          · exact hoff p hp _ hb
      rintro r led' h' tk' F' N' St' Fr' ⟨rfl, a6', n3'', rfl⟩
      clear St' Fr'
      simp only [tzLed, List.cons_append, List.nil_append, List.append_assoc] at N'
      (try dsimp only)
      k_steps
      rename News _ _ _ _ => N9
      rename Fresh _ _ _ => H9
      have hate : (((at' + 1 + wl.length : Nat) : Int) - 1) = ((at' + wl.length : Nat) : Int) := by omega
      cases f
      all_goals (
        refine hret _ _ _ _ (by assumption) (News.sub (news_conv1 N9 rfl rfl rfl) pick6_sub) (by assumption) (Fresh.sub (fresh_conv1 H9 rfl rfl rfl) pick6_sub)
          (ro_intro (es := [_]) hR rfl rfl rfl rfl rfl (tups_cons rfl (tups_cons rfl (tups_app hT (tups_cons rfl tups_nil)))) ?_ ?_)
        · exact DatAll.append (hD.mono fun p hp => .tail _ (.tail _ (List.mem_append_left _ hp))) (.cons (.tuple (.head _) (.cons (.str _ _) (.cons (.str _ _) (.cons (.tuple (.tail _ (.head _)) .nil) (.cons (.bool _) .nil))))) .nil)
        · rw [← hate]
          exact .cons (.tuple (.tail _ (.tail _ (List.mem_append_right _ (.head _)))) (.cons (.str _ _) (.cons (.int _ _) .nil))) .nil)
    · rw [hL]
      simp only [tzLed, List.cons_append, List.nil_append] at N'
      rcases Nat.mod_two_eq_zero_or_one k with hk2 | hk2
      · have hR : ruleF sl closed wl f k at' = ⟨at', (k + 1) % 4, [], [], false, false, none⟩ := by
          unfold ruleF; rw [hq]; dsimp only; rw [if_neg (by rw [hL]; decide), if_neg (by rw [hL]; decide), if_pos hk2]
        have hpar : Int.fmod (k : Int) 2 = 0 := by rw [Int.fmod_eq_emod_of_nonneg _ (by omega)]; omega
        (try dsimp only)
        k_steps
        rename News _ _ _ _ => N9
        rename Fresh _ _ _ => H9
        have hat2 : (((at' + 1 : Nat) : Int) - 1) = ((at' : Nat) : Int) := by omega
        exact hret _ _ _ _ (by assumption) (News.sub (news_conv0 N9 hat2 rfl rfl) drop2_sub) (by assumption) (Fresh.sub (fresh_conv0 H9 hat2 rfl rfl) drop2_sub)
          (ro_intro (vs := []) (es := []) hR (List.append_nil out).symm (List.append_nil errs).symm rfl rfl rfl tups_nil .nil .nil)
        · exact absurd hpar (by assumption)
      · have hR : ruleF sl closed wl f k at' = ⟨at' + 1, (k + 1) % 4, [charD c], [errD "passed" ((at' : Nat) : Int)], false, false, none⟩ := by
          unfold ruleF; rw [hq]; dsimp only; rw [if_neg (by rw [hL]; decide), if_neg (by rw [hL]; decide), if_neg (by omega)]
        have hpar : Int.fmod (k : Int) 2 = 1 := by rw [Int.fmod_eq_emod_of_nonneg _ (by omega)]; omega
        (try dsimp only)
        k_steps
        · exact absurd (hpar.symm.trans (by assumption)) (by decide)
        rename News _ _ _ _ => N9
        rename Fresh _ _ _ => H9
        have hat2 : (((at' + 1 : Nat) : Int) - 1) = ((at' : Nat) : Int) := by omega
        refine hret _ _ _ _ (by assumption) (News.sub (news_conv2 N9 rfl (List.push_toArray _ _) (List.push_toArray _ _)) pick2_sub) (by assumption) (Fresh.sub (fresh_conv2 H9 rfl (List.push_toArray _ _) (List.push_toArray _ _)) pick2_sub)
          (ro_intro (vs := [_]) (es := [_]) hR rfl rfl rfl rfl rfl (tups_cons rfl (tups_cons rfl tups_nil)) ?_ ?_)
        · exact .cons (.tuple (.head _) (.cons (.str _ _) (.cons (.str _ _) .nil))) .nil
        · rw [← hat2]; exact .cons (.tuple (.tail _ (.head _)) (.cons (.str _ _) (.cons (.int _ _) .nil))) .nil
    · rw [hL]
      have hR : ruleF sl closed wl f k at' = ⟨at' + 1, k, [], [], true, false, none⟩ := by unfold ruleF; rw [hq]; dsimp only; rw [if_pos hL]
      simp only [tzLed, List.cons_append, List.nil_append] at N'
      (try dsimp only)
      k_steps
      rename News _ _ _ _ => N9
      rename Fresh _ _ _ => H9
      exact hret _ _ _ _ (by assumption) (News.sub (news_conv0 N9 rfl rfl rfl) drop2_sub) (by assumption) (Fresh.sub (fresh_conv0 H9 rfl rfl rfl) drop2_sub)
        (ro_intro (vs := []) (es := []) hR (List.append_nil out).symm (List.append_nil errs).symm rfl rfl rfl tups_nil .nil .nil)
end
section
/-- the dict of states -/
noncomputable def stKvs (many : Nat) : List (Str × Value) := (List.range many).map fun i => (nm i, Value.ref 338)
noncomputable def manyOf (four : Bool) : Nat := if four then 4 else 3
noncomputable def stepF (sl : List Nat) (closed : Bool) (wl : List Nat) (f : Bool) (k at' : Nat) : RR :=
  let R := ruleF sl closed wl f k at'
  { R with at' := if R.waiting then at' else R.at' }
theorem st_val {four : Bool} {k : Nat} (h : k < manyOf four) : valueAt (stKvs (manyOf four)) (nm k) = some (.ref 338) := by
  cases four
  · have hq : k = 0 ∨ k = 1 ∨ k = 2 := by simp [manyOf] at h; omega
    rcases hq with rfl | rfl | rfl <;> kernel_rfl
  · have hq : k = 0 ∨ k = 1 ∨ k = 2 ∨ k = 3 := by simp [manyOf] at h; omega
    rcases hq with rfl | rfl | rfl | rfl <;> kernel_rfl
theorem st_none {four : Bool} {k : Nat} (h : manyOf four ≤ k) (h5 : k < 5) : valueAt (stKvs (manyOf four)) (nm k) = none := by
  cases four
  · have hq : k = 3 ∨ k = 4 := by simp [manyOf] at h; omega
    rcases hq with rfl | rfl <;> kernel_rfl
  · have hq : k = 4 := by simp [manyOf] at h; omega
    subst hq; kernel_rfl
noncomputable abbrev prg : Program := PySem.Challenge.rw_nt0598_01.row.prog
/-- the states' object -/
structure StOk (w : World) (Z : Tz) (four : Bool) : Prop where
  dict : Z.so.IsDictOf (PySem.strKind prg w) (stKvs (manyOf four))
  lo : (Z.sts == sysModules) = false
section
variable {w : World} {A : Around} {E : Value → Shared → Prop} {s : Shared} {h₀ : Heap} {L : Addr} {news : Led} {Z : Tz} {four : Bool} {k : Nat} {t : Tok} {Q : Value → Shared → Prop}
theorem st_notin (N : News h₀ L s.heap news) (hp : (Z.sts, Z.so) ∈ news) (O : StOk w Z four) (hk : k < manyOf four) (h : Q (.bool false) { s with toks := s.toks + 1 }) :
    wpAny (model prg w) A (compareOp .NotIn (.str (nm k) t) (.ref Z.sts)) Q E s :=
  kdg_notin N hp O.dict O.lo (strKind_is _ _ _ _) true (by rw [st_val hk]; rfl) h
theorem st_notin_no (N : News h₀ L s.heap news) (hp : (Z.sts, Z.so) ∈ news) (O : StOk w Z four) (hk : manyOf four ≤ k) (h5 : k < 5) (h : Q (.bool true) { s with toks := s.toks + 1 }) :
    wpAny (model prg w) A (compareOp .NotIn (.str (nm k) t) (.ref Z.sts)) Q E s :=
  kdg_notin N hp O.dict O.lo (strKind_is _ _ _ _) false (by rw [st_none hk h5]; rfl) h
theorem st_item {value slice : PySem.Expr} (N : News h₀ L s.heap news) (hp : (Z.sts, Z.so) ∈ news) (O : StOk w Z four) (hk : k < manyOf four) (h : Q (.ref 338) { s with toks := s.toks + 1 })
    (hs : subscripted slice false (.ref Z.sts) (.str (nm k) t) = operate [.ref Z.sts, .str (nm k) t] (getItem (.ref Z.sts) (.str (nm k) t)) := by with_unfolding_all rfl) (hg : ∀ r, letTemporaryGo value (.ref Z.sts) r = pure () := by intro _; with_unfolding_all rfl) :
    wpAny (model prg w) A (subscriptTail value slice (.ref Z.sts) (.str (nm k) t)) Q E s :=
  kda_item N hp O.dict (strKind_is _ _ _ _) (st_val hk) h hs hg
end
set_option maxHeartbeats 0 in
theorem step_spec (w : World) (Z : Tz) (S : Ts) (hZ : Z.Ok) (four : Bool) (O : StOk w Z four) (k : Nat) (hk4 : k < manyOf four) (hst : S.state = nm k) (wl : List Nat) (p : Nat) (f : Bool) (hpf : ((⟨#[p]⟩ : Str) == Str.ofString "~") = f) (hword : (Txt.split S.buf (Str.ofString "|"))[k]? = some ⟨(p :: wl).toArray⟩) (hwl : wl.length ≤ 1000) (hbsz : S.buf.length + 2 ≤ sizeLine) (ho1 : S.out.length ≤ 10000) (ho2 : S.errs.length ≤ 10000) (sl : List Nat) (hs : StrsAre S.sv (sl.map one)) (hsl : sl.length ≤ 1000) (hc : ∀ c ∈ sl, c < 100000) :
    Spec w 40 279 [.ref Z.t] (tzLed w Z S)
      (RuleOut w Z { S with waiting := false } (stepF sl S.closed wl f k S.at')) := by
  w_top off
  obtain ⟨at', state, out, errs, sv, closed, isret, last, buf, waiting, done, a1, a2, a3, a4, a5, a6, n1, n2, n3, n4⟩ := S
  dsimp only at *
  subst hst
  have hZ' := hZ
  have z9 := hZ.2.2.2.2.2.2.2.2
  have hk5 : k < 4 := by cases four <;> simp [manyOf] at hk4 <;> omega
  unfold Spec
  intro mg mb mean dp un gd cn cs a ccd cl outer A₀ base h₀ L m s Q E B F X N T hk hroom hun hret
  simp only [tzLed] at N
  refine wpAny_call ?_
  k_dflt (refine' enterH ?k1'9 ?k2'9 ?k3'9 ?k4'9 ?k5'9 ?kA'9 ?kF'9 ?kK'9 ?k6'9 ?k7'9 ?k8'9 ?k9'9 ?kB'9 ?_ ?c2'9 ?c3'9 ?c4'9 ?c5'9; (case kA'9 => exact rfl); (case kF'9 => exact rfl); (case kK'9 => assumption); (case k1'9 => k_asm); (case k2'9 => k_asm); (case k3'9 => k_asm); (case k4'9 => k_asm); (case k5'9 => k_asm); (case k6'9 => k_is); (case k7'9 => k_is); (case k8'9 => (first | exact rm0 (by assumption) | exact rm1 (by assumption) (by decide) | k_extra "room" | ktr_room)); (case k9'9 => first | exact BindsTo.of_eq rfl | exact binds_K (by k_in) rfl (by k_is) rfl rfl rfl | exact hbind9 _ (by k_in)); (case c5'9 => decide); (case kB'9 => exact locs rfl); (case c2'9 => exact rfl); (case c3'9 => exact rfl); (case c4'9 => exact rfl); k_whole; intro _ _ _ _ _ _ _ _ l1'9; (try k_lt l1'9); (try dsimp only); (with_reducible refine (?_ : wpAny _ _ _ _ _ _)); (try ((fail_if_success (fail_if_success k_fold)); refine fold_QE ?_; intro _ _)); (try (revert l1'9; intro _)))
  k_with_none
  k_with "room" => (first | exact rmS2 (by assumption) (by decide) | exact rmS3 (by assumption) (by decide) | exact rmS4 (by assumption) (by decide) | exact rm2 (by assumption) (by decide) | exact rm0 (by assumption) | exact rm1 (by assumption) (by decide) | (dsimp +zetaDelta only; ktr_room))
  k_with "units" => (first | exact cl3 (by assumption) (by decide) | exact um2 (by assumption) (by decide) | exact um1 (by assumption) (by decide) | (dsimp +zetaDelta only; ktr_units))
  k_with "is_list" => (exact News.isList (by k_asm) (by k_mem))
  k_with "st" => (first | ((fail_if_success (fail_if_success k_unfold)); refine (?_ : wpAny _ _ _ _ _ _)) | (k_unfold; (try dsimp only)) | (k_end; wrow_close) | walk1 | (dsimp only; walk1) | (leave1; walk_say "STEP leave1"; try dsimp only) | fail "no step")
  k_with "om" => (first | assumption | with_reducible rfl | decide | exact Nat.le_trans (by assumption) (by decide) | exact Nat.lt_of_le_of_lt (by assumption) (by decide) | ((repeat (with_reducible rename _ ∧ _ => om9; clear om9)); first | ((repeat (with_reducible rename _ ≠ _ => om9; clear om9)); (repeat (with_reducible rename @Eq Nat _ _ => om9; clear om9)); (repeat (with_reducible rename @Eq Int _ _ => om9; clear om9)); omega +splitNatSub) | omega +splitNatSub))
  k_with "fold" => ((fail_if_success (fail_if_success k_fold)); refine fold_QES ?_; intro _ _ _ _)
  k_with "kne" => (first | ((refine (?_ : @Ne Nat _ _)); first | assumption | exact Ne.symm (by assumption) | k_extra "ne") | (refine neN ?_; (try dsimp only); first | assumption | exact Ne.symm (by assumption) | k_extra "ne" | omega))
  k_with "tb" => (repeat (first | exact List.forall_mem_nil _ | refine List.forall_mem_cons.mpr ⟨rfl, ?_⟩))
  k_with "ne" => with_reducible (first | exact na0 (by assumption) | exact ns0 (by assumption) | exact na1 (by assumption) | exact ns1 (by assumption) | exact na2 (by assumption) | exact ns2 (by assumption) | exact na3 (by assumption) | exact ns3 (by assumption) | exact na4 (by assumption) | exact ns4 (by assumption) | exact na5 (by assumption) | exact ns5 (by assumption) | exact na6 (by assumption) | exact ns6 (by assumption) | exact na7 (by assumption) | exact ns7 (by assumption) | exact na8 (by assumption) | exact ns8 (by assumption) | exact na9 (by assumption) | exact ns9 (by assumption) | exact na10 (by assumption) | exact ns10 (by assumption) | exact na11 (by assumption) | exact ns11 (by assumption) | exact na12 (by assumption) | exact ns12 (by assumption) | exact na13 (by assumption) | exact ns13 (by assumption) | exact na14 (by assumption) | exact ns14 (by assumption) | exact na15 (by assumption) | exact ns15 (by assumption))
  k_with "ne" => with_reducible (first | (show Tz.sts _ ≠ _; first | exact zn01 (by assumption) | exact zn02 (by assumption) | exact zn03 (by assumption) | exact zn04 (by assumption) | exact zn05 (by assumption) | exact zn06 (by assumption) | exact zn07 (by assumption) | exact zn08 (by assumption)) | (show Tz.td _ ≠ _; first | exact zn10 (by assumption) | exact zn12 (by assumption) | exact zn13 (by assumption) | exact zn14 (by assumption) | exact zn15 (by assumption) | exact zn16 (by assumption) | exact zn17 (by assumption) | exact zn18 (by assumption)) | (show Tz.t _ ≠ _; first | exact zn20 (by assumption) | exact zn21 (by assumption) | exact zn23 (by assumption) | exact zn24 (by assumption) | exact zn25 (by assumption) | exact zn26 (by assumption) | exact zn27 (by assumption) | exact zn28 (by assumption)) | (show Tz.sd _ ≠ _; first | exact zn30 (by assumption) | exact zn31 (by assumption) | exact zn32 (by assumption) | exact zn34 (by assumption) | exact zn35 (by assumption) | exact zn36 (by assumption) | exact zn37 (by assumption) | exact zn38 (by assumption)) | (show Tz.st _ ≠ _; first | exact zn40 (by assumption) | exact zn41 (by assumption) | exact zn42 (by assumption) | exact zn43 (by assumption) | exact zn45 (by assumption) | exact zn46 (by assumption) | exact zn47 (by assumption) | exact zn48 (by assumption)) | (show Tz.sg _ ≠ _; first | exact zn50 (by assumption) | exact zn51 (by assumption) | exact zn52 (by assumption) | exact zn53 (by assumption) | exact zn54 (by assumption) | exact zn56 (by assumption) | exact zn57 (by assumption) | exact zn58 (by assumption)) | (show Tz.se _ ≠ _; first | exact zn60 (by assumption) | exact zn61 (by assumption) | exact zn62 (by assumption) | exact zn63 (by assumption) | exact zn64 (by assumption) | exact zn65 (by assumption) | exact zn67 (by assumption) | exact zn68 (by assumption)) | (show Tz.ou _ ≠ _; first | exact zn70 (by assumption) | exact zn71 (by assumption) | exact zn72 (by assumption) | exact zn73 (by assumption) | exact zn74 (by assumption) | exact zn75 (by assumption) | exact zn76 (by assumption) | exact zn78 (by assumption)) | (show Tz.er _ ≠ _; first | exact zn80 (by assumption) | exact zn81 (by assumption) | exact zn82 (by assumption) | exact zn83 (by assumption) | exact zn84 (by assumption) | exact zn85 (by assumption) | exact zn86 (by assumption) | exact zn87 (by assumption)))
  k_with "execs cons" => ((try ((fail_if_success (fail_if_success k_fold)); refine fold_QE ?_; intro _ _)); refine ex_consA ?_; intro _ _ _ _; (try (with_reducible rename News _ _ _ _ => kN'9; dsimp only at kN'9)); (try (with_reducible rename Fr _ _ _ _ => kF'9; refine f_let kF'9 ?_; clear kF'9; intro _ _)))
  k_with "LeaveH" => (refine' leaveH_ ?k1'9 ?k2'9 ?_; (case k1'9 => k_asm); (case k2'9 => k_asm); k_whole; intro _ _ _ _)
  k_with "pyIter ref" => ((with_reducible show wpAny _ _ (pyIter _) (fun it s₂ => LoopAtV _ _ _ _ _ _ _ _ _ it s₂) _ _); refine Stop.mk ?_)
  k_with "pyIter str" => ((with_reducible show wpAny _ _ (pyIter _) (fun it s₂ => LoopAtV _ _ _ _ _ _ _ _ _ it s₂) _ _); refine Stop.mk ?_)
  k_with "call ref" => (k_extra "mine call")
  k_with "call builtin:len" => (k_here; (with_reducible show wpAny _ _ (call (Value.builtin "len") [Value.ref _]) _ _ _); (with_unfolding_all refine' len_listN ?k1'9 ?k2'9 ?_; (case k1'9 => is_list); (case k2'9 => omega); k_whole))
  k_with "subscriptTail" => (k_here; (with_reducible show wpAny _ _ (subscriptTail _ _ (Value.ref _) (Value.int _ _)) _ _ _); (with_unfolding_all refine' sign_item ?k1'9 ?k2'9 ?k3'9 ?k4'9 ?k5'9 ?_; (case k1'9 => is_list); (case k2'9 => assumption); (case k3'9 => assumption); (case k4'9 => (push_cast; omega)); (case k5'9 => omega); k_whole); intro _)
  k_with "subscriptTail" => (k_here; (with_reducible show wpAny _ _ (subscriptTail _ _ (Value.str _ _) (Value.int _ _)) _ _ _); (with_unfolding_all refine' char_item ?k1'9 ?k2'9 ?k3'9 ?_; (case k1'9 => assumption); (case k2'9 => (push_cast; omega)); (case k3'9 => omega); k_whole))
  k_with "TurnL" => (refine TurnL.ret ?_; (try dsimp only))
  k_with "subscriptTail Name Name str int" => (k_here; (with_reducible show wpAny _ _ (subscriptTail _ _ (Value.str _ _) (Value.int _ _)) _ _ _); (with_unfolding_all refine' char_item ?k1'9 ?k2'9 ?k3'9 ?_; (case k1'9 => assumption); (case k2'9 => (push_cast; omega)); (case k3'9 => omega); k_whole))
  k_with "exec For Name Name cons nil" => (k_here; (rename Fr _ _ _ _ => lF'9); (with_unfolding_all refine' For_invVF lF'9 ?k1'9 ?k2'9 ?_; (case k1'9 => exact rfl); (case k2'9 => exact rfl); k_whole))
  k_with "call builtin:list.append" => (k_here; (with_reducible show wpAny _ _ (call (Value.builtin _) [Value.ref _, _]) _ _ _); k_dflt (refine' append_K ?k1'9 ?k2'9 ?k3'9 ?_ ?z'9; (case k1'9 => k_asm); (case k2'9 => k_asm); (case k3'9 => k_upd); (case z'9 => assumption); k_whole); intro _ _ _; (try k_sweep))
  k_with "call builtin:str.split" => (k_here; (with_reducible show wpAny _ _ (call (Value.builtin "str.split") _) _ _ _); (refine KSpl.split1 (by k_asm) (by k_asm) (by decide) ?_ (by assumption)); (intro _ _ _ _ e'9 a'9 _ _ l1'9); (try k_lt l1'9); rw [e'9] at a'9; (try (revert a'9; intro _)); (try (revert l1'9; intro _)); (try (revert e'9; intro _)))
  k_with "subscriptTail" => (k_here; (with_reducible show wpAny _ _ (subscriptTail _ _ (Value.ref _) (Value.int _ _)) _ _ _); (with_unfolding_all refine' strs_item ?k1'9 ?k2'9 ?k3'9 ?k4'9 ?k5'9 ?_; (case k1'9 => is_list); (case k2'9 => assumption); (case k3'9 => assumption); (case k4'9 => rfl); (case k5'9 => omega); k_whole); intro _)
  k_with "subscriptTail Call Attribute cons nil Name ref int" => (k_here; (with_reducible show wpAny _ _ (subscriptTail _ _ (Value.ref _) (Value.int _ _)) _ _ _); (with_unfolding_all refine' strs_item ?k1'9 ?k2'9 ?k3'9 ?k4'9 ?k5'9 ?_; (case k1'9 => is_list); (case k2'9 => assumption); (case k3'9 => assumption); (case k4'9 => rfl); (case k5'9 => omega); k_whole); intro _)
  k_with "getMethod ref" => (k_here; (with_reducible show wpAny _ _ (getMethod (Value.ref _) (PySem.Str.ofString "index") _) _ _ _); k_dflt (refine' names_method ?N'9 ?m'9 ?_; (case N'9 => k_asm); (case m'9 => k_mem)))
  k_with "call builtin:tuple.index" => (k_here; k_dflt (refine' names_index ?k'9 ?N'9 ?m'9 ?_; (case N'9 => k_asm); (case m'9 => k_mem); (case k'9 => omega)))
  k_with "subscriptTail Name BinOp ref int" => (k_here; (with_reducible show wpAny _ _ (subscriptTail _ _ (Value.ref _) (Value.int _ _)) _ _ _); (with_unfolding_all refine' names_item ?N'9 ?m'9 ?hj'9 ?h5'9 ?_; (case N'9 => k_asm); (case m'9 => k_mem); (case hj'9 => assumption); (case h5'9 => omega); k_whole); intro _)
  k_with "subscriptTail Name Slice str ref" => (k_here; ((with_unfolding_all refine' cut_tail ?F'9 ?N'9 ?sz'9 ?_); (case F'9 => k_asm); (case N'9 => k_asm); (case sz'9 => assumption); intro _ _ _ _ _; (try k_sweep)))
  k_with "subscriptTail Name Constant str int" => (k_here; (with_unfolding_all refine' head_item ?sz'9 ?_); (case sz'9 => assumption))
  k_with "setAttr ref" => (k_here; k_dflt (first | (refine' set_tz ?k1'9 ?k2'9 ?k3'9 ?k4'9 ?k5'9 ?k6'9 ?k7'9 ?k8'9 ?k9'9 ?k10'9 ?k11'9 ?k12'9 ?k13'9 ?_; (case k1'9 => k_asm); (case k2'9 => k_asm); (case k3'9 => k_asm); (case k4'9 => k_inst); (case k5'9 => exact rfl); (case k6'9 => k_is); (case k7'9 => k_is); (case k8'9 => k_is); (case k9'9 => k_is); (case k10'9 => k_get); (case k11'9 => k_put); (case k12'9 => k_upd); (case k13'9 => exact Nat.le_of_ble_eq_true rfl); k_whole; intro _ _ _; (try k_sweep)) | (refine' set_st ?k1'9 ?k2'9 ?k3'9 ?k4'9 ?k5'9 ?k6'9 ?k7'9 ?k8'9 ?k9'9 ?k10'9 ?k11'9 ?k12'9 ?k13'9 ?_; (case k1'9 => k_asm); (case k2'9 => k_asm); (case k3'9 => k_asm); (case k4'9 => k_inst); (case k5'9 => exact rfl); (case k6'9 => k_is); (case k7'9 => k_is); (case k8'9 => k_is); (case k9'9 => k_is); (case k10'9 => k_get); (case k11'9 => k_put); (case k12'9 => k_upd); (case k13'9 => exact Nat.le_of_ble_eq_true rfl); k_whole; intro _ _ _; (try k_sweep))))
  k_with "eval BinOp" => k_extra "fold"
  k_with "eval Call" => k_extra "fold"
  k_with "eval List" => k_extra "fold"
  k_with "eval Tuple" => k_extra "fold"
  k_with "eval Subscript" => k_extra "fold"
  k_with "eval Compare" => k_extra "fold"
  k_with "eval BoolOp" => k_extra "fold"
  k_with "compareOp NotIn str ref" => (k_here; k_dflt (refine' st_notin ?N'9 ?m'9 ?O'9 ?k'9 ?_; (case N'9 => k_asm); (case m'9 => k_mem); (case O'9 => assumption); (case k'9 => assumption)))
  k_with "subscriptTail Attribute Attribute ref str" => (k_here; k_dflt (refine' st_item ?N'9 ?m'9 ?O'9 ?k'9 ?_; (case N'9 => k_asm); (case m'9 => k_mem); (case O'9 => assumption); (case k'9 => assumption)))
  k_with "subscriptTail" => (k_here; k_dflt (refine' st_item ?N'9 ?m'9 ?O'9 ?k'9 ?_; (case N'9 => k_asm); (case m'9 => k_mem); (case O'9 => assumption); (case k'9 => assumption)))
  k_with "mine call" => ((with_reducible show wpAny _ _ (call (Value.ref 338) _) _ _ _); refine Stop.mk ?_)
  k_steps
  unfold Stop
  rename News _ _ _ _ => N9
  rw [tz_cons] at N9
  k_dflt (refine (rule_spec w Z ⟨at', nm k, out, errs, sv, closed, isret, last, buf, false, done, a1, a2, a3, a4, a5, a6, n1, n2, n3, n4⟩ hZ' k hk5 rfl wl p f hpf hword hwl hbsz ho1 ho2 sl hs hsl hc).useN [] [] (by k_asm) (by k_asm) (by k_asm) N9 (by k_asm) rfl (by (first | exact rm0 (by assumption) | exact rm1 (by assumption) (by decide) | k_extra "room" | ktr_room)) (by (first | k_extra "units" | ktr_units)) OwnOff.nil ?_)
  rintro r led' h' tk' F' N' St' Fr' so9
  refine so9.elim ?_
  clear so9
  rintro vs es nt a1' a2' a6' n3' n4' rfl rfl hT hD hE
  clear St' Fr'
  dsimp only at hD hE N'
  have hoff : OwnOff nt [Z.t, Z.td, Z.st, Z.sd, Z.sg, Z.se, Z.ou, Z.er, Z.sts] := off_tail N' z9 hT
  unfold stepF at hret
  generalize ruleF sl closed wl f k at' = R at *
  obtain ⟨r1, r2, r3, r4, r5, r6, r7⟩ := R
  dsimp only at hret
  dsimp only [after] at N' hD hE ⊢
  generalize hlast : (match r7 with | some l => (⟨l.toArray⟩ : Str) | none => last) = last2 at *
  simp only [tzLed, List.cons_append, List.nil_append, List.append_nil, Bool.or_false] at N'
  (try dsimp only)
  cases r5
  · k_steps
    rename News _ _ _ _ => N9
    rename Fresh _ _ _ => H9
    exact hret _ _ _ _ (by assumption) (news_conv0 N9 rfl rfl rfl) (by assumption) (fresh_conv0 H9 rfl rfl rfl) (ro_intro (ls := r7) rfl rfl rfl (by first | exact hlast.symm | rfl) rfl rfl hT hD hE)
  · k_steps
    rename News _ _ _ _ => N9
    rename Fresh _ _ _ => H9
    exact hret _ _ _ _ (by assumption) (news_conv0 N9 rfl rfl rfl) (by assumption) (fresh_conv0 H9 rfl rfl rfl) (ro_intro (ls := r7) rfl rfl rfl (by first | exact hlast.symm | rfl) rfl rfl hT hD hE)
end
structure Mc where
  at' : Nat
  k : Nat
  out : List Dat
  errs : List Dat
  last : List Nat
  waiting : Bool
  done : Bool
noncomputable def ready (four : Bool) (n : Nat) (closed : Bool) (c : Mc) : Bool := !c.done && !c.waiting && decide (c.k < manyOf four) && (closed || decide (c.at' < n))
noncomputable def nextM (sl : List Nat) (closed : Bool) (ws : Nat → List Nat × Bool) (c : Mc) : Mc :=
  let R := stepF sl closed (ws c.k).1 (ws c.k).2 c.k c.at'
  ⟨R.at', R.k, c.out ++ R.out, c.errs ++ R.errs, R.last.getD c.last, R.waiting, R.done || c.done⟩
structure Rel (S : Ts) (nt : Led) (c : Mc) : Prop where
  at' : S.at' = c.at'
  state : S.state = nm c.k
  last : S.last = ⟨c.last.toArray⟩
  waiting : S.waiting = c.waiting
  done : S.done = c.done
  out : DatAll nt S.out c.out
  errs : DatAll nt S.errs c.errs
  tups : Tups nt
structure Same (S S' : Ts) : Prop where
  sv : S'.sv = S.sv
  closed : S'.closed = S.closed
  isret : S'.isret = S.isret
  buf : S'.buf = S.buf
  n1 : S'.n1 = S.n1
  n2 : S'.n2 = S.n2
theorem Same.refl (S : Ts) : Same S S := ⟨rfl, rfl, rfl, rfl, rfl, rfl⟩
theorem Same.trans {S S' S'' : Ts} (a : Same S S') (b : Same S' S'') : Same S S'' := ⟨b.1.trans a.1, b.2.trans a.2, b.3.trans a.3, b.4.trans a.4, b.5.trans a.5, b.6.trans a.6⟩
structure WsOk (buf : Str) (ws : Nat → List Nat × Bool) : Prop where
  word : ∀ k < 4, (Txt.split buf (Str.ofString "|"))[k]? = some ⟨((if (ws k).2 then 126 else 61) :: (ws k).1).toArray⟩
  len : ∀ k < 4, (ws k).1.length ≤ 1000
  buf : buf.length + 2 ≤ sizeLine
/-- the signs of a stream -/
structure SgOk (S : Ts) (sl : List Nat) : Prop where
  sg : StrsAre S.sv (sl.map one)
  le : sl.length ≤ 1000
  sm : ∀ c ∈ sl, c < 100000
theorem SgOk.same {S S' : Ts} {sl : List Nat} (a : SgOk S sl) (h : Same S S') : SgOk S' sl := ⟨by rw [h.sv]; exact a.1, a.2, a.3⟩
theorem many_le (four : Bool) : manyOf four ≤ 4 := by cases four <;> decide
/-- one step of the machine -/
theorem step_mc (w : World) (Z : Tz) (S : Ts) (hZ : Z.Ok) (four : Bool) (O : StOk w Z four) (ws : Nat → List Nat × Bool) (W : WsOk S.buf ws) (sl : List Nat) (G : SgOk S sl) (c : Mc) (nt : Led) (R : Rel S nt c) (hk : c.k < manyOf four) (ho1 : c.out.length ≤ 10000) (ho2 : c.errs.length ≤ 10000) :
    Spec w 40 279 [.ref Z.t] (tzLed w Z S ++ nt)
      (fun r led' => r = .none ∧ ∃ S' nt', led' = tzLed w Z S' ++ nt' ∧ Same S S' ∧ Rel S' nt' (nextM sl S.closed ws c)) := by
  have hk4 : c.k < 4 := Nat.lt_of_lt_of_le hk (many_le four)
  have st := step_spec w Z S hZ four O c.k hk R.state (ws c.k).1 (if (ws c.k).2 then 126 else 61) (ws c.k).2 (by cases (ws c.k).2 <;> decide +kernel) (W.word _ hk4) (W.len _ hk4) W.buf (by rw [R.out.length]; exact ho1) (by rw [R.errs.length]; exact ho2) sl G.sg G.le G.sm
  intro mg mb mean dp un gd cn cs a ccd cl outer A₀ base h₀ L m s Q E B F X N T hcs h1 h2 hret
  have N0 : News h₀ L s.heap ([] ++ (tzLed w Z S ++ nt)) := N
  have hoff : OwnOff ([] ++ nt) ((tzLed w Z S).map (·.1)) := by
    rw [List.nil_append, tz_addr]
    exact off_kind N (fun p hp => List.mem_append_left _ hp) (fun p hp => List.mem_append_right _ hp) (tz_kind hZ.2.2.2.2.2.2.2.2) R.tups
  refine st.useN [] nt B F X N0 T hcs h1 h2 hoff ?_
  rintro r led' h' tk' F' N' St' Fr' ⟨rfl, vs, es, nt', a1, a2, a6, n3, n4, rfl, hT, hD, hE⟩
  have hs1 : ∀ p ∈ nt, p ∈ nt' ++ nt := fun p hp => List.mem_append_right _ hp
  have hs2 : ∀ p ∈ nt', p ∈ nt' ++ nt := fun p hp => List.mem_append_left _ hp
  rw [List.nil_append, List.append_assoc] at N'
  refine hret _ _ _ _ F' N' (fun b o hb hn => St' b o hb fun hm => hn (by rw [List.map_append]; exact List.mem_append_left _ hm)) ?_ ⟨rfl, _, nt' ++ nt, rfl, ⟨rfl, rfl, rfl, rfl, rfl, rfl⟩, ?_⟩
  · intro p hp
    rw [← List.append_assoc] at hp
    rcases List.mem_append.mp hp with hp | hp
    · rcases Fr' p hp with h | h
      · left; rw [List.map_append]; exact List.mem_append_left _ h
      · exact .inr h
    · left; rw [List.map_append]; exact List.mem_append_right _ (List.mem_map_of_mem hp)
  · constructor
    · show _ = (nextM sl S.closed ws c).at'
      rw [nextM, ← R.at']; rfl
    · show _ = nm (nextM sl S.closed ws c).k
      rw [nextM, ← R.at']; rfl
    · show _ = (⟨(nextM sl S.closed ws c).last.toArray⟩ : Str)
      rw [nextM, ← R.at']
      dsimp only [after]
      cases (stepF sl S.closed (ws c.k).1 (ws c.k).2 c.k S.at').last with
      | none => exact R.last
      | some l => rfl
    · show _ = (nextM sl S.closed ws c).waiting
      rw [nextM, ← R.at']; simp [after]
    · show _ = (nextM sl S.closed ws c).done
      rw [nextM, ← R.at', ← R.done]; rfl
    · show DatAll _ _ (nextM sl S.closed ws c).out
      rw [nextM, ← R.at']
      exact DatAll.append (R.out.mono hs1) (hD.mono hs2)
    · show DatAll _ _ (nextM sl S.closed ws c).errs
      rw [nextM, ← R.at']
      exact DatAll.append (R.errs.mono hs1) (hE.mono hs2)
    · intro p hp
      rcases List.mem_append.mp hp with hp | hp
      · exact hT p hp
      · exact R.tups p hp
theorem st_notinD {w : World} {A : Around} {E : Value → Shared → Prop} {s : Shared} {h₀ : Heap} {L : Addr} {news : Led} {Z : Tz} {four : Bool} {k : Nat} {t : Tok} {Q : Value → Shared → Prop} (N : News h₀ L s.heap news) (hp : (Z.sts, Z.so) ∈ news) (O : StOk w Z four) (h5 : k < 5) (h : Q (.bool (!decide (k < manyOf four))) { s with toks := s.toks + 1 }) :
    wpAny (model prg w) A (compareOp .NotIn (.str (nm k) t) (.ref Z.sts)) Q E s := by
  by_cases hk : k < manyOf four
  · rw [decide_eq_true hk] at h; exact st_notin N hp O hk h
  · rw [decide_eq_false hk] at h; exact st_notin_no N hp O (Nat.le_of_not_lt hk) h5 h
set_option maxHeartbeats 0 in
theorem is_ready_spec (w : World) (Z : Tz) (S : Ts) (four : Bool) (O : StOk w Z four) (k : Nat) (h5 : k < 5) (hst : S.state = nm k) (n : Nat) (hs : S.sv.length = n) (hn : n ≤ 1000) :
    Spec w 10 286 [.ref Z.t] (tzLed w Z S)
      (fun r led' => r = .bool (!S.done && !S.waiting && decide (k < manyOf four) && (S.closed || decide (S.at' < n))) ∧ led' = tzLed w Z S) := by
  w_top off
  obtain ⟨at', state, out, errs, sv, closed, isret, last, buf, waiting, done, a1, a2, a3, a4, a5, a6, n1, n2, n3, n4⟩ := S
  dsimp only at *
  subst hst
  unfold Spec
  intro mg mb mean dp un gd cn cs a ccd cl outer A₀ base h₀ L m s Q E B F X N T hk hroom hun hret
  simp only [tzLed] at N
  refine wpAny_call ?_
  k_dflt (refine' enterH ?k1'9 ?k2'9 ?k3'9 ?k4'9 ?k5'9 ?kA'9 ?kF'9 ?kK'9 ?k6'9 ?k7'9 ?k8'9 ?k9'9 ?kB'9 ?_ ?c2'9 ?c3'9 ?c4'9 ?c5'9; (case kA'9 => exact rfl); (case kF'9 => exact rfl); (case kK'9 => assumption); (case k1'9 => k_asm); (case k2'9 => k_asm); (case k3'9 => k_asm); (case k4'9 => k_asm); (case k5'9 => k_asm); (case k6'9 => k_is); (case k7'9 => k_is); (case k8'9 => (first | exact rm0 (by assumption) | exact rm1 (by assumption) (by decide) | k_extra "room" | ktr_room)); (case k9'9 => first | exact BindsTo.of_eq rfl | exact binds_K (by k_in) rfl (by k_is) rfl rfl rfl | exact hbind9 _ (by k_in)); (case c5'9 => decide); (case kB'9 => exact locs rfl); (case c2'9 => exact rfl); (case c3'9 => exact rfl); (case c4'9 => exact rfl); k_whole; intro _ _ _ _ _ _ _ _ l1'9; (try k_lt l1'9); (try dsimp only); (with_reducible refine (?_ : wpAny _ _ _ _ _ _)); (try ((fail_if_success (fail_if_success k_fold)); refine fold_QE ?_; intro _ _)); (try (revert l1'9; intro _)))
  k_with_none
  k_with "room" => (first | exact rmS2 (by assumption) (by decide) | exact rmS3 (by assumption) (by decide) | exact rmS4 (by assumption) (by decide) | exact rm2 (by assumption) (by decide) | exact rm0 (by assumption) | exact rm1 (by assumption) (by decide) | (dsimp +zetaDelta only; ktr_room))
  k_with "units" => (first | exact cl3 (by assumption) (by decide) | exact um2 (by assumption) (by decide) | exact um1 (by assumption) (by decide) | (dsimp +zetaDelta only; ktr_units))
  k_with "is_list" => (exact News.isList (by k_asm) (by k_mem))
  k_with "st" => (first | ((fail_if_success (fail_if_success k_unfold)); refine (?_ : wpAny _ _ _ _ _ _)) | (k_unfold; (try dsimp only)) | (k_end; wrow_close) | walk1 | (dsimp only; walk1) | (leave1; walk_say "STEP leave1"; try dsimp only) | fail "no step")
  k_with "om" => (first | assumption | with_reducible rfl | decide | exact Nat.le_trans (by assumption) (by decide) | exact Nat.lt_of_le_of_lt (by assumption) (by decide) | ((repeat (with_reducible rename _ ∧ _ => om9; clear om9)); first | ((repeat (with_reducible rename _ ≠ _ => om9; clear om9)); (repeat (with_reducible rename @Eq Nat _ _ => om9; clear om9)); (repeat (with_reducible rename @Eq Int _ _ => om9; clear om9)); omega +splitNatSub) | omega +splitNatSub))
  k_with "fold" => ((fail_if_success (fail_if_success k_fold)); refine fold_QES ?_; intro _ _ _ _)
  k_with "kne" => (first | ((refine (?_ : @Ne Nat _ _)); first | assumption | exact Ne.symm (by assumption) | k_extra "ne") | (refine neN ?_; (try dsimp only); first | assumption | exact Ne.symm (by assumption) | k_extra "ne" | omega))
  k_with "tb" => (repeat (first | exact List.forall_mem_nil _ | refine List.forall_mem_cons.mpr ⟨rfl, ?_⟩))
  k_with "ne" => with_reducible (first | exact na0 (by assumption) | exact ns0 (by assumption) | exact na1 (by assumption) | exact ns1 (by assumption) | exact na2 (by assumption) | exact ns2 (by assumption) | exact na3 (by assumption) | exact ns3 (by assumption) | exact na4 (by assumption) | exact ns4 (by assumption) | exact na5 (by assumption) | exact ns5 (by assumption) | exact na6 (by assumption) | exact ns6 (by assumption) | exact na7 (by assumption) | exact ns7 (by assumption) | exact na8 (by assumption) | exact ns8 (by assumption) | exact na9 (by assumption) | exact ns9 (by assumption) | exact na10 (by assumption) | exact ns10 (by assumption) | exact na11 (by assumption) | exact ns11 (by assumption) | exact na12 (by assumption) | exact ns12 (by assumption) | exact na13 (by assumption) | exact ns13 (by assumption) | exact na14 (by assumption) | exact ns14 (by assumption) | exact na15 (by assumption) | exact ns15 (by assumption))
  k_with "ne" => with_reducible (first | (show Tz.sts _ ≠ _; first | exact zn01 (by assumption) | exact zn02 (by assumption) | exact zn03 (by assumption) | exact zn04 (by assumption) | exact zn05 (by assumption) | exact zn06 (by assumption) | exact zn07 (by assumption) | exact zn08 (by assumption)) | (show Tz.td _ ≠ _; first | exact zn10 (by assumption) | exact zn12 (by assumption) | exact zn13 (by assumption) | exact zn14 (by assumption) | exact zn15 (by assumption) | exact zn16 (by assumption) | exact zn17 (by assumption) | exact zn18 (by assumption)) | (show Tz.t _ ≠ _; first | exact zn20 (by assumption) | exact zn21 (by assumption) | exact zn23 (by assumption) | exact zn24 (by assumption) | exact zn25 (by assumption) | exact zn26 (by assumption) | exact zn27 (by assumption) | exact zn28 (by assumption)) | (show Tz.sd _ ≠ _; first | exact zn30 (by assumption) | exact zn31 (by assumption) | exact zn32 (by assumption) | exact zn34 (by assumption) | exact zn35 (by assumption) | exact zn36 (by assumption) | exact zn37 (by assumption) | exact zn38 (by assumption)) | (show Tz.st _ ≠ _; first | exact zn40 (by assumption) | exact zn41 (by assumption) | exact zn42 (by assumption) | exact zn43 (by assumption) | exact zn45 (by assumption) | exact zn46 (by assumption) | exact zn47 (by assumption) | exact zn48 (by assumption)) | (show Tz.sg _ ≠ _; first | exact zn50 (by assumption) | exact zn51 (by assumption) | exact zn52 (by assumption) | exact zn53 (by assumption) | exact zn54 (by assumption) | exact zn56 (by assumption) | exact zn57 (by assumption) | exact zn58 (by assumption)) | (show Tz.se _ ≠ _; first | exact zn60 (by assumption) | exact zn61 (by assumption) | exact zn62 (by assumption) | exact zn63 (by assumption) | exact zn64 (by assumption) | exact zn65 (by assumption) | exact zn67 (by assumption) | exact zn68 (by assumption)) | (show Tz.ou _ ≠ _; first | exact zn70 (by assumption) | exact zn71 (by assumption) | exact zn72 (by assumption) | exact zn73 (by assumption) | exact zn74 (by assumption) | exact zn75 (by assumption) | exact zn76 (by assumption) | exact zn78 (by assumption)) | (show Tz.er _ ≠ _; first | exact zn80 (by assumption) | exact zn81 (by assumption) | exact zn82 (by assumption) | exact zn83 (by assumption) | exact zn84 (by assumption) | exact zn85 (by assumption) | exact zn86 (by assumption) | exact zn87 (by assumption)))
  k_with "execs cons" => ((try ((fail_if_success (fail_if_success k_fold)); refine fold_QE ?_; intro _ _)); refine ex_consA ?_; intro _ _ _ _; (try (with_reducible rename News _ _ _ _ => kN'9; dsimp only at kN'9)); (try (with_reducible rename Fr _ _ _ _ => kF'9; refine f_let kF'9 ?_; clear kF'9; intro _ _)))
  k_with "LeaveH" => (refine' leaveH_ ?k1'9 ?k2'9 ?_; (case k1'9 => k_asm); (case k2'9 => k_asm); k_whole; intro _ _ _ _)
  k_with "pyIter ref" => ((with_reducible show wpAny _ _ (pyIter _) (fun it s₂ => LoopAtV _ _ _ _ _ _ _ _ _ it s₂) _ _); refine Stop.mk ?_)
  k_with "pyIter str" => ((with_reducible show wpAny _ _ (pyIter _) (fun it s₂ => LoopAtV _ _ _ _ _ _ _ _ _ it s₂) _ _); refine Stop.mk ?_)
  k_with "call ref" => (k_extra "mine call")
  k_with "call builtin:len" => (k_here; (with_reducible show wpAny _ _ (call (Value.builtin "len") [Value.ref _]) _ _ _); (with_unfolding_all refine' len_listN ?k1'9 ?k2'9 ?_; (case k1'9 => is_list); (case k2'9 => omega); k_whole))
  k_with "subscriptTail" => (k_here; (with_reducible show wpAny _ _ (subscriptTail _ _ (Value.ref _) (Value.int _ _)) _ _ _); (with_unfolding_all refine' sign_item ?k1'9 ?k2'9 ?k3'9 ?k4'9 ?k5'9 ?_; (case k1'9 => is_list); (case k2'9 => assumption); (case k3'9 => assumption); (case k4'9 => (push_cast; omega)); (case k5'9 => omega); k_whole); intro _)
  k_with "subscriptTail" => (k_here; (with_reducible show wpAny _ _ (subscriptTail _ _ (Value.str _ _) (Value.int _ _)) _ _ _); (with_unfolding_all refine' char_item ?k1'9 ?k2'9 ?k3'9 ?_; (case k1'9 => assumption); (case k2'9 => (push_cast; omega)); (case k3'9 => omega); k_whole))
  k_with "TurnL" => (refine TurnL.ret ?_; (try dsimp only))
  k_with "subscriptTail Name Name str int" => (k_here; (with_reducible show wpAny _ _ (subscriptTail _ _ (Value.str _ _) (Value.int _ _)) _ _ _); (with_unfolding_all refine' char_item ?k1'9 ?k2'9 ?k3'9 ?_; (case k1'9 => assumption); (case k2'9 => (push_cast; omega)); (case k3'9 => omega); k_whole))
  k_with "exec For Name Name cons nil" => (k_here; (rename Fr _ _ _ _ => lF'9); (with_unfolding_all refine' For_invVF lF'9 ?k1'9 ?k2'9 ?_; (case k1'9 => exact rfl); (case k2'9 => exact rfl); k_whole))
  k_with "call builtin:list.append" => (k_here; (with_reducible show wpAny _ _ (call (Value.builtin _) [Value.ref _, _]) _ _ _); k_dflt (refine' append_K ?k1'9 ?k2'9 ?k3'9 ?_ ?z'9; (case k1'9 => k_asm); (case k2'9 => k_asm); (case k3'9 => k_upd); (case z'9 => assumption); k_whole); intro _ _ _; (try k_sweep))
  k_with "call builtin:str.split" => (k_here; (with_reducible show wpAny _ _ (call (Value.builtin "str.split") _) _ _ _); (refine KSpl.split1 (by k_asm) (by k_asm) (by decide) ?_ (by assumption)); (intro _ _ _ _ e'9 a'9 _ _ l1'9); (try k_lt l1'9); rw [e'9] at a'9; (try (revert a'9; intro _)); (try (revert l1'9; intro _)); (try (revert e'9; intro _)))
  k_with "subscriptTail" => (k_here; (with_reducible show wpAny _ _ (subscriptTail _ _ (Value.ref _) (Value.int _ _)) _ _ _); (with_unfolding_all refine' strs_item ?k1'9 ?k2'9 ?k3'9 ?k4'9 ?k5'9 ?_; (case k1'9 => is_list); (case k2'9 => assumption); (case k3'9 => assumption); (case k4'9 => rfl); (case k5'9 => omega); k_whole); intro _)
  k_with "subscriptTail Call Attribute cons nil Name ref int" => (k_here; (with_reducible show wpAny _ _ (subscriptTail _ _ (Value.ref _) (Value.int _ _)) _ _ _); (with_unfolding_all refine' strs_item ?k1'9 ?k2'9 ?k3'9 ?k4'9 ?k5'9 ?_; (case k1'9 => is_list); (case k2'9 => assumption); (case k3'9 => assumption); (case k4'9 => rfl); (case k5'9 => omega); k_whole); intro _)
  k_with "getMethod ref" => (k_here; (with_reducible show wpAny _ _ (getMethod (Value.ref _) (PySem.Str.ofString "index") _) _ _ _); k_dflt (refine' names_method ?N'9 ?m'9 ?_; (case N'9 => k_asm); (case m'9 => k_mem)))
  k_with "call builtin:tuple.index" => (k_here; k_dflt (refine' names_index ?k'9 ?N'9 ?m'9 ?_; (case N'9 => k_asm); (case m'9 => k_mem); (case k'9 => omega)))
  k_with "subscriptTail Name BinOp ref int" => (k_here; (with_reducible show wpAny _ _ (subscriptTail _ _ (Value.ref _) (Value.int _ _)) _ _ _); (with_unfolding_all refine' names_item ?N'9 ?m'9 ?hj'9 ?h5'9 ?_; (case N'9 => k_asm); (case m'9 => k_mem); (case hj'9 => assumption); (case h5'9 => omega); k_whole); intro _)
  k_with "subscriptTail Name Slice str ref" => (k_here; ((with_unfolding_all refine' cut_tail ?F'9 ?N'9 ?sz'9 ?_); (case F'9 => k_asm); (case N'9 => k_asm); (case sz'9 => assumption); intro _ _ _ _ _; (try k_sweep)))
  k_with "subscriptTail Name Constant str int" => (k_here; (with_unfolding_all refine' head_item ?sz'9 ?_); (case sz'9 => assumption))
  k_with "setAttr ref" => (k_here; k_dflt (first | (refine' set_tz ?k1'9 ?k2'9 ?k3'9 ?k4'9 ?k5'9 ?k6'9 ?k7'9 ?k8'9 ?k9'9 ?k10'9 ?k11'9 ?k12'9 ?k13'9 ?_; (case k1'9 => k_asm); (case k2'9 => k_asm); (case k3'9 => k_asm); (case k4'9 => k_inst); (case k5'9 => exact rfl); (case k6'9 => k_is); (case k7'9 => k_is); (case k8'9 => k_is); (case k9'9 => k_is); (case k10'9 => k_get); (case k11'9 => k_put); (case k12'9 => k_upd); (case k13'9 => exact Nat.le_of_ble_eq_true rfl); k_whole; intro _ _ _; (try k_sweep)) | (refine' set_st ?k1'9 ?k2'9 ?k3'9 ?k4'9 ?k5'9 ?k6'9 ?k7'9 ?k8'9 ?k9'9 ?k10'9 ?k11'9 ?k12'9 ?k13'9 ?_; (case k1'9 => k_asm); (case k2'9 => k_asm); (case k3'9 => k_asm); (case k4'9 => k_inst); (case k5'9 => exact rfl); (case k6'9 => k_is); (case k7'9 => k_is); (case k8'9 => k_is); (case k9'9 => k_is); (case k10'9 => k_get); (case k11'9 => k_put); (case k12'9 => k_upd); (case k13'9 => exact Nat.le_of_ble_eq_true rfl); k_whole; intro _ _ _; (try k_sweep))))
  k_with "eval BinOp" => k_extra "fold"
  k_with "eval Call" => k_extra "fold"
  k_with "eval List" => k_extra "fold"
  k_with "eval Tuple" => k_extra "fold"
  k_with "eval Subscript" => k_extra "fold"
  k_with "eval Compare" => k_extra "fold"
  k_with "eval BoolOp" => k_extra "fold"
  k_with "compareOp NotIn str ref" => (k_here; k_dflt (refine' st_notinD ?N'9 ?m'9 ?O'9 ?k'9 ?_; (case N'9 => k_asm); (case m'9 => k_mem); (case O'9 => assumption); (case k'9 => assumption)))
  cases done
  · cases waiting
    · by_cases hk : k < manyOf four
      · cases closed
        · k_steps
          exact hret _ (tzLed w Z ⟨at', nm k, out, errs, sv, _, isret, last, buf, _, _, a1, a2, a3, a4, a5, a6, n1, n2, n3, n4⟩) _ _ (by assumption) (by assumption) (by assumption) (by assumption) ⟨by first | (simp [hk, hs]; done) | (simp [hs]; done), rfl⟩
        · k_steps
          exact hret _ (tzLed w Z ⟨at', nm k, out, errs, sv, _, isret, last, buf, _, _, a1, a2, a3, a4, a5, a6, n1, n2, n3, n4⟩) _ _ (by assumption) (by assumption) (by assumption) (by assumption) ⟨by first | (simp [hk, hs]; done) | (simp [hs]; done), rfl⟩
      · k_steps
        exact hret _ (tzLed w Z ⟨at', nm k, out, errs, sv, _, isret, last, buf, _, _, a1, a2, a3, a4, a5, a6, n1, n2, n3, n4⟩) _ _ (by assumption) (by assumption) (by assumption) (by assumption) ⟨by first | (simp [hk, hs]; done) | (simp [hs]; done), rfl⟩
    · k_steps
      exact hret _ (tzLed w Z ⟨at', nm k, out, errs, sv, _, isret, last, buf, _, _, a1, a2, a3, a4, a5, a6, n1, n2, n3, n4⟩) _ _ (by assumption) (by assumption) (by assumption) (by assumption) ⟨by first | (simp [hk, hs]; done) | (simp [hs]; done), rfl⟩
  · k_steps
    exact hret _ (tzLed w Z ⟨at', nm k, out, errs, sv, _, isret, last, buf, _, _, a1, a2, a3, a4, a5, a6, n1, n2, n3, n4⟩) _ _ (by assumption) (by assumption) (by assumption) (by assumption) ⟨by first | (simp [hk, hs]; done) | (simp [hs]; done), rfl⟩
section
section
variable {prog : Program} {w : World} {A : Around} {E : Value → Shared → Prop} {s : Shared} {env : Env} {test : PySem.Expr} {body orelse : List Stmt} {Q : Flow → Shared → Prop}
/-- the end of a while's turn -/
noncomputable def TurnW (J : Shared → Prop) (Q : Flow → Shared → Prop) (f : Flow) (s₂ : Shared) : Prop :=
  match f with
  | .ret v => Q (.ret v) s₂
  | .brk => Q .next s₂
  | _ => J s₂
theorem TurnW.next {J : Shared → Prop} (h : J s) : TurnW J Q .next s := h
theorem while_ind (J : Nat → Shared → Prop) (hE : PassesOwn (model prog w) A env E)
    (turn : ∀ n s, J n s → wpAny (model prog w) A (isTrue test env (eval test env)) (fun b s₂ => WhlIf b (wpAny (model prog w) A (execs body env) (TurnW (fun s₃ => ∃ m, m < n ∧ J m s₃) Q) E s₂) (wpAny (model prog w) A (execs orelse env) Q E s₂)) E s) :
    ∀ n s, J n s → WhlRest prog w A E env test body orelse Q 0 s := by
  intro n
  induction n using Nat.strongRecOn with
  | ind n ih =>
    intro s hJ
    refine whl_turn (k := 0) hE (wpAny_mono (turn n s hJ) (fun b s₂ h => ?_) fun _ _ e => e)
    cases b with
    | false => exact h
    | true =>
      refine WhlIf.yes rfl (wpAny_mono (show wpAny _ _ _ (TurnW _ Q) E s₂ from h) (fun f s₃ t => ?_) fun _ _ e => e)
      cases f with
      | next => obtain ⟨m, hm, hj⟩ := t; exact ih m hm s₃ hj
      | cont => obtain ⟨m, hm, hj⟩ := t; exact ih m hm s₃ hj
      | brk => exact t
      | ret v => exact t
end
theorem Spec.frame {w : World} {k : Nat} {f : Addr} {args : List Value} {led nt : Led} {Post : Value → Led → Prop} (S : Spec w k f args led Post) (off : ∀ {h₀ h : Heap} {L : Addr}, News h₀ L h (led ++ nt) → OwnOff nt (led.map (·.1))) :
    Spec w k f args (led ++ nt) (fun r l => ∃ l', l = l' ++ nt ∧ Post r l') := by
  intro mg mb mean dp un gd cn cs a ccd cl outer A₀ base h₀ L m s Q E B F X N T hcs h1 h2 hret
  have N0 : News h₀ L s.heap ([] ++ (led ++ nt)) := N
  refine S.useN [] nt B F X N0 T hcs h1 h2 (by rw [List.nil_append]; exact off N) ?_
  intro r led' h' tk' F' N' St' Fr' hp
  rw [List.nil_append] at N'
  refine hret _ _ _ _ F' N' (fun b o hb hn => St' b o hb fun hm => hn (by rw [List.map_append]; exact List.mem_append_left _ hm)) ?_ ⟨led', rfl, hp⟩
  intro p hp
  rcases List.mem_append.mp hp with hp | hp
  · rcases Fr' p hp with h | h
    · left; rw [List.map_append]; exact List.mem_append_left _ h
    · exact .inr h
  · left; rw [List.map_append]; exact List.mem_append_right _ (List.mem_map_of_mem hp)
theorem tz_off {w : World} {Z : Tz} {S : Ts} (h9 : Z.so.cls = .type "dict") {nt : Led} (hT : Tups nt) {h₀ h : Heap} {L : Addr} (N : News h₀ L h (tzLed w Z S ++ nt)) : OwnOff nt ((tzLed w Z S).map (·.1)) :=
  off_kind N (fun p hp => List.mem_append_left _ hp) (fun p hp => List.mem_append_right _ hp) (tz_kind h9) hT
theorem told {h₀ h : Heap} {L : Addr} {m : Str → Option Value} (ps : List (Str × Value)) (F : Fr h₀ L h m) (hp : ∀ p ∈ ps, m p.1 = some p.2) : Fr h₀ L h (kB m ps) := by rw [kB_of hp]; exact F
/-- the use of a claim that changes nothing: all that stood stands -/
theorem Spec.useR {w : World} {k : Nat} {f : Addr} {args : List Value} {led : Led} {Post : Value → Led → Prop} (S : Spec w k f args led Post) (hro : ∀ r l, Post r l → ∀ p ∈ led, p ∈ l)
    {mg mb : Str → Option Value} {mean : ExcName → Option Value} {dp un : Nat} {gd : Option (List Code)} {cn : Str} {cs : Scope} {a : Addr} {ccd : Value} {cl : List (Str × Addr)} {outer : List Env} {A₀ : Around} {base h₀ : Heap} {L : Addr} {m : Str → Option Value} {s : Shared}
    {Q E : Value → Shared → Prop} {all : Led}
    (B : Below A₀ base outer h₀) (F : Fr h₀ L s.heap m) (X : (hd.heap_1_39 w.params).In h₀) (N : News h₀ L s.heap all) (T : Top hd.view_1_40 (looseW hd.view_1_40 []) mean mg mb h₀) (hk : cs.kind = .function)
    (h1 : dp + k < recursionLimit) (h2 : un + 10 * k < cLine) (hl : ∀ p ∈ led, p ∈ all)
    (kk : ∀ r led' h' tk', Fr h₀ L h' m → News h₀ L h' (led' ++ all) → (∀ p ∈ led', p ∈ led ∨ ∀ q ∈ all, p.1 ≠ q.1) → Post r led' → Q r { s with heap := h', toks := tk' }) :
    wpAny (model PySem.Challenge.rw_nt0598_01.row.prog w) (ktrTop dp un gd cn cs L a ccd cl outer) (call (.ref f) args) Q E s := by
  refine S mg mb mean dp un gd cn cs a ccd cl outer A₀ base h₀ L m s Q E B F X (fun p hp => N p (hl p hp)) T hk h1 h2 fun r led' h' tk' F' N' st fr p => kk r led' h' tk' F' (fun q hq => ?_) (fun q hq => ?_) p
  · rcases List.mem_append.mp hq with hq | hq
    · exact N' q hq
    · by_cases hm : q.1 ∈ led.map (·.1)
      · obtain ⟨y, hy, e⟩ := List.mem_map.mp hm
        have h3 := (N y (hl y hy)).1
        have h4 := (N q hq).1
        rw [e, h4] at h3
        have : q = y := Prod.ext e.symm (Option.some.inj h3)
        rw [this]; exact N' y (hro r led' p y hy)
      · exact ⟨st _ _ (N q hq).1 hm, (N q hq).2⟩
  · rcases fr q hq with hm | hn
    · left
      obtain ⟨y, hy, e⟩ := List.mem_map.mp hm
      have h3 := (N' y (hro r led' p y hy)).1
      have h4 := (N' q hq).1
      rw [e, h4] at h3
      have : q = y := Prod.ext e.symm (Option.some.inj h3)
      rw [this]; exact hy
    · right
      intro y hy e
      rw [e, (N y hy).1] at hn; cases hn
/-- what a test comes to -/
noncomputable def TestIs (b₀ : Bool) (s : Shared) (b : Bool) (s₂ : Shared) : Prop := b = b₀ ∧ ∃ tk, s₂ = { s with toks := tk }
theorem add_new {prog : Program} {w : World} {A : Around} {E : Value → Shared → Prop} {s : Shared} {h₀ : Heap} {L l b : Addr} {m : Str → Option Value} {news : Led} {xs ys : List Value} {nx ny : Nat} {Q : Value → Shared → Prop} (F : Fr h₀ L s.heap m) (N : News h₀ L s.heap news) (ha : (l, W.listOf xs.toArray nx) ∈ news) (hb : (b, W.listOf ys.toArray ny) ∈ news) (hsz : xs.length + ys.length ≤ 100000)
    (h : ∀ h' D, Fr h₀ L h' m → News h₀ L h' ((D, W.listOf (xs ++ ys).toArray 0) :: news) → (∀ p ∈ news, p.1 < D) → Q (.ref D) { s with heap := h' }) :
    wpAny (model prog w) A (binaryOp .Add (.ref l) (.ref b)) Q E s := by
  refine add_arrays F N (News.isList N ha) (News.isList N hb) (fun h' F' N' => h h' _ F' ?_ fun p hp => Heap.lt_size (N p hp).1) (by simp only [List.size_toArray]; rw [sizeLine_eq]; omega)
  simpa [W.listOf] using N'
theorem News.cons_mem {h₀ h : Heap} {L : Addr} {l : Led} {p : Addr × Obj} (N : News h₀ L h l) (hp : p ∈ l) : News h₀ L h (p :: l) := fun q hq => by
  rcases List.mem_cons.mp hq with rfl | hq
  · exact N _ hp
  · exact N q hq
end
inductive RunsIn (four : Bool) (sl : List Nat) (closed : Bool) (ws : Nat → List Nat × Bool) : Nat → Mc → Mc → Prop
  | stop {c : Mc} (h : ready four sl.length closed c = false) (h5 : c.k < 5) : RunsIn four sl closed ws 0 c c
  | step {c c' : Mc} {n : Nat} (h : ready four sl.length closed c = true) (h1 : c.out.length ≤ 10000) (h2 : c.errs.length ≤ 10000) (h3 : c.at' ≤ sl.length) (r : RunsIn four sl closed ws n (nextM sl closed ws c) c') : RunsIn four sl closed ws (n + 1) c c'
theorem RunsIn.k5 {four : Bool} {sl : List Nat} {closed : Bool} {ws : Nat → List Nat × Bool} {n : Nat} {c c' : Mc} (h : RunsIn four sl closed ws n c c') : c.k < 5 := by
  cases h with
  | stop _ h5 => exact h5
  | step h _ _ _ _ =>
    have := many_le four
    simp [ready] at h; omega
theorem is_ready_mc (w : World) (Z : Tz) (S : Ts) (hZ : Z.Ok) (four : Bool) (O : StOk w Z four) (sl : List Nat) (G : SgOk S sl) (c : Mc) (nt : Led) (R : Rel S nt c) (h5 : c.k < 5) :
    Spec w 10 286 [.ref Z.t] (tzLed w Z S ++ nt) (fun r led' => r = .bool (ready four sl.length S.closed c) ∧ led' = tzLed w Z S ++ nt) := by
  refine ((is_ready_spec w Z S four O c.k h5 R.state sl.length (by rw [G.sg.len_eq, List.length_map]) G.le).frame (tz_off hZ.2.2.2.2.2.2.2.2 R.tups)).mono ?_
  rintro r l ⟨l', rfl, rfl, rfl⟩
  refine ⟨?_, rfl⟩
  unfold ready
  rw [R.done, R.waiting, R.at']
set_option maxHeartbeats 0 in
theorem run_spec (w : World) (Z : Tz) (S : Ts) (hZ : Z.Ok) (four : Bool) (O : StOk w Z four) (ws : Nat → List Nat × Bool) (W : WsOk S.buf ws) (sl : List Nat) (G : SgOk S sl) (c c' : Mc) (nt : Led) (R : Rel S nt c) (n : Nat) (H : RunsIn four sl S.closed ws n c c') :
    Spec w 60 293 [.ref Z.t] (tzLed w Z S ++ nt)
      (fun r led' => r = .bool c'.done ∧ ∃ S' nt', led' = tzLed w Z S' ++ nt' ∧ Same S S' ∧ Rel S' nt' c') := by
  w_top off
  have hZ' := hZ
  unfold Spec
  intro mg mb mean dp un gd cn cs a ccd cl outer A₀ base h₀ L m s Q E B F X N T hk hroom hun hret
  refine wpAny_call ?_
  k_dflt (refine' enterH ?k1'9 ?k2'9 ?k3'9 ?k4'9 ?k5'9 ?kA'9 ?kF'9 ?kK'9 ?k6'9 ?k7'9 ?k8'9 ?k9'9 ?kB'9 ?_ ?c2'9 ?c3'9 ?c4'9 ?c5'9; (case kA'9 => exact rfl); (case kF'9 => exact rfl); (case kK'9 => assumption); (case k1'9 => k_asm); (case k2'9 => k_asm); (case k3'9 => k_asm); (case k4'9 => k_asm); (case k5'9 => k_asm); (case k6'9 => k_is); (case k7'9 => k_is); (case k8'9 => (first | exact rm0 (by assumption) | exact rm1 (by assumption) (by decide) | k_extra "room" | ktr_room)); (case k9'9 => first | exact BindsTo.of_eq rfl | exact binds_K (by k_in) rfl (by k_is) rfl rfl rfl | exact hbind9 _ (by k_in)); (case c5'9 => decide); (case kB'9 => exact locs rfl); (case c2'9 => exact rfl); (case c3'9 => exact rfl); (case c4'9 => exact rfl); k_whole; intro _ _ _ _ _ _ _ _ l1'9; (try k_lt l1'9); (try dsimp only); (with_reducible refine (?_ : wpAny _ _ _ _ _ _)); (try ((fail_if_success (fail_if_success k_fold)); refine fold_QE ?_; intro _ _)); (try (revert l1'9; intro _)))
  k_with_none
  k_with "room" => (first | exact rmS2 (by assumption) (by decide) | exact rmS3 (by assumption) (by decide) | exact rmS4 (by assumption) (by decide) | exact rm2 (by assumption) (by decide) | exact rm0 (by assumption) | exact rm1 (by assumption) (by decide) | (dsimp +zetaDelta only; ktr_room))
  k_with "units" => (first | exact cl3 (by assumption) (by decide) | exact um2 (by assumption) (by decide) | exact um1 (by assumption) (by decide) | (dsimp +zetaDelta only; ktr_units))
  k_with "is_list" => (exact News.isList (by k_asm) (by k_mem))
  k_with "st" => (first | ((fail_if_success (fail_if_success k_unfold)); refine (?_ : wpAny _ _ _ _ _ _)) | (k_unfold; (try dsimp only)) | (k_end; wrow_close) | walk1 | (dsimp only; walk1) | (leave1; walk_say "STEP leave1"; try dsimp only) | fail "no step")
  k_with "om" => (first | assumption | with_reducible rfl | decide | exact Nat.le_trans (by assumption) (by decide) | exact Nat.lt_of_le_of_lt (by assumption) (by decide) | ((repeat (with_reducible rename _ ∧ _ => om9; clear om9)); first | ((repeat (with_reducible rename _ ≠ _ => om9; clear om9)); (repeat (with_reducible rename @Eq Nat _ _ => om9; clear om9)); (repeat (with_reducible rename @Eq Int _ _ => om9; clear om9)); omega +splitNatSub) | omega +splitNatSub))
  k_with "fold" => ((fail_if_success (fail_if_success k_fold)); refine fold_QES ?_; intro _ _ _ _)
  k_with "kne" => (first | ((refine (?_ : @Ne Nat _ _)); first | assumption | exact Ne.symm (by assumption) | k_extra "ne") | (refine neN ?_; (try dsimp only); first | assumption | exact Ne.symm (by assumption) | k_extra "ne" | omega))
  k_with "tb" => (repeat (first | exact List.forall_mem_nil _ | refine List.forall_mem_cons.mpr ⟨rfl, ?_⟩))
  k_with "ne" => with_reducible (first | exact na0 (by assumption) | exact ns0 (by assumption) | exact na1 (by assumption) | exact ns1 (by assumption) | exact na2 (by assumption) | exact ns2 (by assumption) | exact na3 (by assumption) | exact ns3 (by assumption) | exact na4 (by assumption) | exact ns4 (by assumption) | exact na5 (by assumption) | exact ns5 (by assumption) | exact na6 (by assumption) | exact ns6 (by assumption) | exact na7 (by assumption) | exact ns7 (by assumption) | exact na8 (by assumption) | exact ns8 (by assumption) | exact na9 (by assumption) | exact ns9 (by assumption) | exact na10 (by assumption) | exact ns10 (by assumption) | exact na11 (by assumption) | exact ns11 (by assumption) | exact na12 (by assumption) | exact ns12 (by assumption) | exact na13 (by assumption) | exact ns13 (by assumption) | exact na14 (by assumption) | exact ns14 (by assumption) | exact na15 (by assumption) | exact ns15 (by assumption))
  k_with "ne" => with_reducible (first | (show Tz.sts _ ≠ _; first | exact zn01 (by assumption) | exact zn02 (by assumption) | exact zn03 (by assumption) | exact zn04 (by assumption) | exact zn05 (by assumption) | exact zn06 (by assumption) | exact zn07 (by assumption) | exact zn08 (by assumption)) | (show Tz.td _ ≠ _; first | exact zn10 (by assumption) | exact zn12 (by assumption) | exact zn13 (by assumption) | exact zn14 (by assumption) | exact zn15 (by assumption) | exact zn16 (by assumption) | exact zn17 (by assumption) | exact zn18 (by assumption)) | (show Tz.t _ ≠ _; first | exact zn20 (by assumption) | exact zn21 (by assumption) | exact zn23 (by assumption) | exact zn24 (by assumption) | exact zn25 (by assumption) | exact zn26 (by assumption) | exact zn27 (by assumption) | exact zn28 (by assumption)) | (show Tz.sd _ ≠ _; first | exact zn30 (by assumption) | exact zn31 (by assumption) | exact zn32 (by assumption) | exact zn34 (by assumption) | exact zn35 (by assumption) | exact zn36 (by assumption) | exact zn37 (by assumption) | exact zn38 (by assumption)) | (show Tz.st _ ≠ _; first | exact zn40 (by assumption) | exact zn41 (by assumption) | exact zn42 (by assumption) | exact zn43 (by assumption) | exact zn45 (by assumption) | exact zn46 (by assumption) | exact zn47 (by assumption) | exact zn48 (by assumption)) | (show Tz.sg _ ≠ _; first | exact zn50 (by assumption) | exact zn51 (by assumption) | exact zn52 (by assumption) | exact zn53 (by assumption) | exact zn54 (by assumption) | exact zn56 (by assumption) | exact zn57 (by assumption) | exact zn58 (by assumption)) | (show Tz.se _ ≠ _; first | exact zn60 (by assumption) | exact zn61 (by assumption) | exact zn62 (by assumption) | exact zn63 (by assumption) | exact zn64 (by assumption) | exact zn65 (by assumption) | exact zn67 (by assumption) | exact zn68 (by assumption)) | (show Tz.ou _ ≠ _; first | exact zn70 (by assumption) | exact zn71 (by assumption) | exact zn72 (by assumption) | exact zn73 (by assumption) | exact zn74 (by assumption) | exact zn75 (by assumption) | exact zn76 (by assumption) | exact zn78 (by assumption)) | (show Tz.er _ ≠ _; first | exact zn80 (by assumption) | exact zn81 (by assumption) | exact zn82 (by assumption) | exact zn83 (by assumption) | exact zn84 (by assumption) | exact zn85 (by assumption) | exact zn86 (by assumption) | exact zn87 (by assumption)))
  k_with "execs cons" => ((try ((fail_if_success (fail_if_success k_fold)); refine fold_QE ?_; intro _ _)); refine ex_consA ?_; intro _ _ _ _; (try (with_reducible rename News _ _ _ _ => kN'9; dsimp only at kN'9)); (try (with_reducible rename Fr _ _ _ _ => kF'9; refine f_let kF'9 ?_; clear kF'9; intro _ _)))
  k_with "LeaveH" => (refine' leaveH_ ?k1'9 ?k2'9 ?_; (case k1'9 => k_asm); (case k2'9 => k_asm); k_whole; intro _ _ _ _)
  k_with "pyIter ref" => ((with_reducible show wpAny _ _ (pyIter _) (fun it s₂ => LoopAtV _ _ _ _ _ _ _ _ _ it s₂) _ _); refine Stop.mk ?_)
  k_with "pyIter str" => ((with_reducible show wpAny _ _ (pyIter _) (fun it s₂ => LoopAtV _ _ _ _ _ _ _ _ _ it s₂) _ _); refine Stop.mk ?_)
  k_with "call ref" => (k_extra "mine call")
  k_with "call builtin:len" => (k_here; (with_reducible show wpAny _ _ (call (Value.builtin "len") [Value.ref _]) _ _ _); (with_unfolding_all refine' len_listN ?k1'9 ?k2'9 ?_; (case k1'9 => is_list); (case k2'9 => omega); k_whole))
  k_with "subscriptTail" => (k_here; (with_reducible show wpAny _ _ (subscriptTail _ _ (Value.ref _) (Value.int _ _)) _ _ _); (with_unfolding_all refine' sign_item ?k1'9 ?k2'9 ?k3'9 ?k4'9 ?k5'9 ?_; (case k1'9 => is_list); (case k2'9 => assumption); (case k3'9 => assumption); (case k4'9 => (push_cast; omega)); (case k5'9 => omega); k_whole); intro _)
  k_with "subscriptTail" => (k_here; (with_reducible show wpAny _ _ (subscriptTail _ _ (Value.str _ _) (Value.int _ _)) _ _ _); (with_unfolding_all refine' char_item ?k1'9 ?k2'9 ?k3'9 ?_; (case k1'9 => assumption); (case k2'9 => (push_cast; omega)); (case k3'9 => omega); k_whole))
  k_with "TurnL" => (refine TurnL.ret ?_; (try dsimp only))
  k_with "subscriptTail Name Name str int" => (k_here; (with_reducible show wpAny _ _ (subscriptTail _ _ (Value.str _ _) (Value.int _ _)) _ _ _); (with_unfolding_all refine' char_item ?k1'9 ?k2'9 ?k3'9 ?_; (case k1'9 => assumption); (case k2'9 => (push_cast; omega)); (case k3'9 => omega); k_whole))
  k_with "exec For Name Name cons nil" => (k_here; (rename Fr _ _ _ _ => lF'9); (with_unfolding_all refine' For_invVF lF'9 ?k1'9 ?k2'9 ?_; (case k1'9 => exact rfl); (case k2'9 => exact rfl); k_whole))
  k_with "call builtin:list.append" => (k_here; (with_reducible show wpAny _ _ (call (Value.builtin _) [Value.ref _, _]) _ _ _); k_dflt (refine' append_K ?k1'9 ?k2'9 ?k3'9 ?_ ?z'9; (case k1'9 => k_asm); (case k2'9 => k_asm); (case k3'9 => k_upd); (case z'9 => assumption); k_whole); intro _ _ _; (try k_sweep))
  k_with "call builtin:str.split" => (k_here; (with_reducible show wpAny _ _ (call (Value.builtin "str.split") _) _ _ _); (refine KSpl.split1 (by k_asm) (by k_asm) (by decide) ?_ (by assumption)); (intro _ _ _ _ e'9 a'9 _ _ l1'9); (try k_lt l1'9); rw [e'9] at a'9; (try (revert a'9; intro _)); (try (revert l1'9; intro _)); (try (revert e'9; intro _)))
  k_with "subscriptTail" => (k_here; (with_reducible show wpAny _ _ (subscriptTail _ _ (Value.ref _) (Value.int _ _)) _ _ _); (with_unfolding_all refine' strs_item ?k1'9 ?k2'9 ?k3'9 ?k4'9 ?k5'9 ?_; (case k1'9 => is_list); (case k2'9 => assumption); (case k3'9 => assumption); (case k4'9 => rfl); (case k5'9 => omega); k_whole); intro _)
  k_with "subscriptTail Call Attribute cons nil Name ref int" => (k_here; (with_reducible show wpAny _ _ (subscriptTail _ _ (Value.ref _) (Value.int _ _)) _ _ _); (with_unfolding_all refine' strs_item ?k1'9 ?k2'9 ?k3'9 ?k4'9 ?k5'9 ?_; (case k1'9 => is_list); (case k2'9 => assumption); (case k3'9 => assumption); (case k4'9 => rfl); (case k5'9 => omega); k_whole); intro _)
  k_with "getMethod ref" => (k_here; (with_reducible show wpAny _ _ (getMethod (Value.ref _) (PySem.Str.ofString "index") _) _ _ _); k_dflt (refine' names_method ?N'9 ?m'9 ?_; (case N'9 => k_asm); (case m'9 => k_mem)))
  k_with "call builtin:tuple.index" => (k_here; k_dflt (refine' names_index ?k'9 ?N'9 ?m'9 ?_; (case N'9 => k_asm); (case m'9 => k_mem); (case k'9 => omega)))
  k_with "subscriptTail Name BinOp ref int" => (k_here; (with_reducible show wpAny _ _ (subscriptTail _ _ (Value.ref _) (Value.int _ _)) _ _ _); (with_unfolding_all refine' names_item ?N'9 ?m'9 ?hj'9 ?h5'9 ?_; (case N'9 => k_asm); (case m'9 => k_mem); (case hj'9 => assumption); (case h5'9 => omega); k_whole); intro _)
  k_with "subscriptTail Name Slice str ref" => (k_here; ((with_unfolding_all refine' cut_tail ?F'9 ?N'9 ?sz'9 ?_); (case F'9 => k_asm); (case N'9 => k_asm); (case sz'9 => assumption); intro _ _ _ _ _; (try k_sweep)))
  k_with "subscriptTail Name Constant str int" => (k_here; (with_unfolding_all refine' head_item ?sz'9 ?_); (case sz'9 => assumption))
  k_with "setAttr ref" => (k_here; k_dflt (first | (refine' set_tz ?k1'9 ?k2'9 ?k3'9 ?k4'9 ?k5'9 ?k6'9 ?k7'9 ?k8'9 ?k9'9 ?k10'9 ?k11'9 ?k12'9 ?k13'9 ?_; (case k1'9 => k_asm); (case k2'9 => k_asm); (case k3'9 => k_asm); (case k4'9 => k_inst); (case k5'9 => exact rfl); (case k6'9 => k_is); (case k7'9 => k_is); (case k8'9 => k_is); (case k9'9 => k_is); (case k10'9 => k_get); (case k11'9 => k_put); (case k12'9 => k_upd); (case k13'9 => exact Nat.le_of_ble_eq_true rfl); k_whole; intro _ _ _; (try k_sweep)) | (refine' set_st ?k1'9 ?k2'9 ?k3'9 ?k4'9 ?k5'9 ?k6'9 ?k7'9 ?k8'9 ?k9'9 ?k10'9 ?k11'9 ?k12'9 ?k13'9 ?_; (case k1'9 => k_asm); (case k2'9 => k_asm); (case k3'9 => k_asm); (case k4'9 => k_inst); (case k5'9 => exact rfl); (case k6'9 => k_is); (case k7'9 => k_is); (case k8'9 => k_is); (case k9'9 => k_is); (case k10'9 => k_get); (case k11'9 => k_put); (case k12'9 => k_upd); (case k13'9 => exact Nat.le_of_ble_eq_true rfl); k_whole; intro _ _ _; (try k_sweep))))
  k_with "eval BinOp" => k_extra "fold"
  k_with "eval Call" => k_extra "fold"
  k_with "eval List" => k_extra "fold"
  k_with "eval Tuple" => k_extra "fold"
  k_with "eval Subscript" => k_extra "fold"
  k_with "eval Compare" => k_extra "fold"
  k_with "eval BoolOp" => k_extra "fold"
  k_with "exec While" => (k_here; (with_reducible show wpAny _ _ (exec (Stmt.While _ _ _ _) _) _ _ _); refine Stop.mk ?_)
  k_with "mine call" => ((with_reducible show wpAny _ _ (call (Value.ref 286) _) _ _ _); refine Stop.mk ?_)
  k_with "mine call" => ((with_reducible show wpAny _ _ (call (Value.ref 279) _) _ _ _); refine Stop.mk ?_)
  k_steps
  unfold Stop
  rename Fr _ _ _ _ => Fx
  (try dsimp +zetaDelta only at Fx)
  rename News _ _ _ _ => Nx
  rename Below _ _ _ _ => Bx
  rename Frag.In _ _ => Xx
  rename Top _ _ _ _ _ _ => Tx
  replace Fx := told [("self", .ref Z.t)] Fx (fun p hp => by rw [List.mem_singleton.mp hp]; rfl)
  k_dflt (refine whl_start 0 (while_ind (J := fun n s₁ => ∃ S₁ nt₁ c₁ h₁ tk₁ u₁, s₁ = { s with heap := h₁, toks := tk₁ } ∧ Same S S₁ ∧ Rel S₁ nt₁ c₁ ∧ RunsIn four sl S.closed ws n c₁ c' ∧ Fr _ _ h₁ (kB u₁ [("self", .ref Z.t)]) ∧ News _ _ h₁ (tzLed w Z S₁ ++ nt₁)) (by passes_own) ?_ n _ ⟨S, nt, c, _, _, _, rfl, Same.refl S, R, H, Fx, Nx⟩))
  rintro n₁ s₁ ⟨S₁, nt₁, c₁, h₁, tk₁, u₁, rfl, hSame, R₁, H₁, F₁, N₁⟩
  have hoff : OwnOff nt₁ [Z.t, Z.td, Z.st, Z.sd, Z.sg, Z.se, Z.ou, Z.er, Z.sts] := tz_off hZ.2.2.2.2.2.2.2.2 R₁.tups N₁
  (try dsimp only)
  have hcl : S₁.closed = S.closed := hSame.closed
  k_steps
  unfold Stop
  k_dflt (refine (is_ready_mc w Z S₁ hZ four O sl (G.same hSame) c₁ nt₁ R₁ H₁.k5).useAll (by k_asm) (by k_asm) (by k_asm) N₁ (by k_asm) rfl (by (first | exact rm0 (by assumption) | exact rm1 (by assumption) (by decide) | k_extra "room" | ktr_room)) (by (first | k_extra "units" | ktr_units)) ?_)
  rintro r led' h' tk' F' N' St' Fr' ⟨rfl, rfl⟩
  clear St' Fr'
  rw [hcl]
  (try dsimp only)
  cases H₁ with
  | stop hr h5 =>
    rw [hr]
    k_steps
    exact hret _ _ _ _ (by assumption) (by assumption) (by assumption) (by assumption) ⟨by rw [← R₁.done], S₁, nt₁, rfl, hSame, R₁⟩
  | step hr h1 h2 h3 rr =>
    rw [hr]
    k_steps
    unfold Stop
    have hkm : c₁.k < manyOf four := by simp [ready] at hr; omega
    k_dflt (refine (step_mc w Z S₁ hZ four O ws (by rw [hSame.buf]; exact W) sl (G.same hSame) c₁ nt₁ R₁ hkm h1 h2).useAll (by k_asm) (by k_asm) (by k_asm) N' (by k_asm) rfl (by (first | exact rm0 (by assumption) | exact rm1 (by assumption) (by decide) | k_extra "room" | ktr_room)) (by (first | k_extra "units" | ktr_units)) ?_)
    rintro r led' h' tk' F'' N'' St'' Fr'' ⟨rfl, S₂, nt₂, rfl, hS2, R₂⟩
    clear St'' Fr''
    rw [hcl] at R₂
    (try dsimp only)
    k_steps
    exact TurnW.next ⟨_, Nat.lt_succ_self _, S₂, nt₂, _, _, _, _, rfl, hSame.trans hS2, R₂, rr, by assumption, by assumption⟩
noncomputable def goodC (c : Nat) : Prop := c = 0 ∨ c = 10 ∨ c = 13 ∨ (32 ≤ c ∧ c ≤ 126) ∨ c = 305 ∨ c = 8490
noncomputable def nrmL : Bool → List Nat → List Nat
  | _, [] => []
  | r, c :: t => if c = 13 then 10 :: nrmL true t else if c = 10 ∧ r = true then nrmL false t else c :: nrmL false t
noncomputable def nrmR : Bool → List Nat → Bool
  | r, [] => r
  | _, c :: t => nrmR (decide (c = 13)) t
theorem one_is {c d : Nat} {x : Str} (hx : x = ⟨#[d]⟩) : ((⟨#[c]⟩ : Str) == x) = decide (c = d) := by
  subst hx
  by_cases h : c = d
  · subst h; simp
  · simp [h]
theorem good_cases {c : Nat} (hg : goodC c) (h13 : c ≠ 13) : c = 0 ∨ c = 10 ∨ (32 ≤ (c : Int) ∧ (c : Int) ≤ 126) ∨ (160 ≤ (c : Int) ∧ (c : Int) ≤ 8490) := by
  unfold goodC at hg
  rcases hg with h | h | h | ⟨h, h'⟩ | h | h
  · exact .inl h
  · exact .inr (.inl h)
  · exact absurd h h13
  · exact .inr (.inr (.inl ⟨Int.ofNat_le.mpr h, Int.ofNat_le.mpr h'⟩))
  · subst h; exact .inr (.inr (.inr ⟨by decide, by decide⟩))
  · subst h; exact .inr (.inr (.inr ⟨by decide, by decide⟩))
theorem good_le {c : Nat} (hg : goodC c) : (c : Int) ≤ 8490 := by
  unfold goodC at hg
  rcases hg with h | h | h | ⟨_, h⟩ | h | h
  all_goals first | exact Int.ofNat_le.mpr (Nat.le_trans h (by decide)) | (subst h; decide)
set_option maxHeartbeats 0 in
theorem input_error_spec (w : World) (c : Nat) (tk : Tok) (hg : goodC c) (h13 : c ≠ 13) :
    Spec w 5 95 [.int (c : Nat) tk] [] (fun r led' => led' = [] ∧ ∃ tk', r = .str "" tk') := by
  w_top off
  have hq : c = 0 ∨ c = 10 ∨ (32 ≤ (c : Int) ∧ (c : Int) ≤ 126) ∨ (160 ≤ (c : Int) ∧ (c : Int) ≤ 8490) := good_cases hg h13
  have hb : (0 : Int) ≤ (c : Int) ∧ (c : Int) ≤ 8490 := ⟨Int.natCast_nonneg c, good_le hg⟩
  obtain ⟨h1, h2⟩ := hb
  unfold Spec
  intro mg mb mean dp un gd cn cs a ccd cl outer A₀ base h₀ L m s Q E B F X N T hk hroom hun hret
  refine wpAny_call ?_
  k_dflt (refine' enterH ?k1'9 ?k2'9 ?k3'9 ?k4'9 ?k5'9 ?kA'9 ?kF'9 ?kK'9 ?k6'9 ?k7'9 ?k8'9 ?k9'9 ?kB'9 ?_ ?c2'9 ?c3'9 ?c4'9 ?c5'9; (case kA'9 => exact rfl); (case kF'9 => exact rfl); (case kK'9 => assumption); (case k1'9 => k_asm); (case k2'9 => k_asm); (case k3'9 => k_asm); (case k4'9 => k_asm); (case k5'9 => k_asm); (case k6'9 => k_is); (case k7'9 => k_is); (case k8'9 => (first | exact rm0 (by assumption) | exact rm1 (by assumption) (by decide) | k_extra "room" | ktr_room)); (case k9'9 => first | exact BindsTo.of_eq rfl | exact binds_K (by k_in) rfl (by k_is) rfl rfl rfl | exact hbind9 _ (by k_in)); (case c5'9 => decide); (case kB'9 => exact locs rfl); (case c2'9 => exact rfl); (case c3'9 => exact rfl); (case c4'9 => exact rfl); k_whole; intro _ _ _ _ _ _ _ _ l1'9; (try k_lt l1'9); (try dsimp only); (with_reducible refine (?_ : wpAny _ _ _ _ _ _)); (try ((fail_if_success (fail_if_success k_fold)); refine fold_QE ?_; intro _ _)); (try (revert l1'9; intro _)))
  k_with_none
  k_with "room" => (first | exact rmS2 (by assumption) (by decide) | exact rmS3 (by assumption) (by decide) | exact rmS4 (by assumption) (by decide) | exact rm2 (by assumption) (by decide) | exact rm0 (by assumption) | exact rm1 (by assumption) (by decide) | (dsimp +zetaDelta only; ktr_room))
  k_with "units" => (first | exact cl3 (by assumption) (by decide) | exact um2 (by assumption) (by decide) | exact um1 (by assumption) (by decide) | (dsimp +zetaDelta only; ktr_units))
  k_with "is_list" => (exact News.isList (by k_asm) (by k_mem))
  k_with "st" => (first | ((fail_if_success (fail_if_success k_unfold)); refine (?_ : wpAny _ _ _ _ _ _)) | (k_unfold; (try dsimp only)) | (k_end; wrow_close) | walk1 | (dsimp only; walk1) | (leave1; walk_say "STEP leave1"; try dsimp only) | fail "no step")
  k_with "om" => (first | assumption | with_reducible rfl | decide | exact Nat.le_trans (by assumption) (by decide) | exact Nat.lt_of_le_of_lt (by assumption) (by decide) | ((repeat (with_reducible rename _ ∧ _ => om9; clear om9)); first | ((repeat (with_reducible rename _ ≠ _ => om9; clear om9)); (repeat (with_reducible rename @Eq Nat _ _ => om9; clear om9)); (repeat (with_reducible rename @Eq Int _ _ => om9; clear om9)); omega +splitNatSub) | omega +splitNatSub))
  k_with "fold" => ((fail_if_success (fail_if_success k_fold)); refine fold_QES ?_; intro _ _ _ _)
  k_with "kne" => (first | ((refine (?_ : @Ne Nat _ _)); first | assumption | exact Ne.symm (by assumption) | k_extra "ne") | (refine neN ?_; (try dsimp only); first | assumption | exact Ne.symm (by assumption) | k_extra "ne" | omega))
  k_with "tb" => (repeat (first | exact List.forall_mem_nil _ | refine List.forall_mem_cons.mpr ⟨rfl, ?_⟩))
  k_with "ne" => with_reducible (first | exact na0 (by assumption) | exact ns0 (by assumption) | exact na1 (by assumption) | exact ns1 (by assumption) | exact na2 (by assumption) | exact ns2 (by assumption) | exact na3 (by assumption) | exact ns3 (by assumption) | exact na4 (by assumption) | exact ns4 (by assumption) | exact na5 (by assumption) | exact ns5 (by assumption) | exact na6 (by assumption) | exact ns6 (by assumption) | exact na7 (by assumption) | exact ns7 (by assumption) | exact na8 (by assumption) | exact ns8 (by assumption) | exact na9 (by assumption) | exact ns9 (by assumption) | exact na10 (by assumption) | exact ns10 (by assumption) | exact na11 (by assumption) | exact ns11 (by assumption) | exact na12 (by assumption) | exact ns12 (by assumption) | exact na13 (by assumption) | exact ns13 (by assumption) | exact na14 (by assumption) | exact ns14 (by assumption) | exact na15 (by assumption) | exact ns15 (by assumption))
  k_with "ne" => with_reducible (first | (show Tz.sts _ ≠ _; first | exact zn01 (by assumption) | exact zn02 (by assumption) | exact zn03 (by assumption) | exact zn04 (by assumption) | exact zn05 (by assumption) | exact zn06 (by assumption) | exact zn07 (by assumption) | exact zn08 (by assumption)) | (show Tz.td _ ≠ _; first | exact zn10 (by assumption) | exact zn12 (by assumption) | exact zn13 (by assumption) | exact zn14 (by assumption) | exact zn15 (by assumption) | exact zn16 (by assumption) | exact zn17 (by assumption) | exact zn18 (by assumption)) | (show Tz.t _ ≠ _; first | exact zn20 (by assumption) | exact zn21 (by assumption) | exact zn23 (by assumption) | exact zn24 (by assumption) | exact zn25 (by assumption) | exact zn26 (by assumption) | exact zn27 (by assumption) | exact zn28 (by assumption)) | (show Tz.sd _ ≠ _; first | exact zn30 (by assumption) | exact zn31 (by assumption) | exact zn32 (by assumption) | exact zn34 (by assumption) | exact zn35 (by assumption) | exact zn36 (by assumption) | exact zn37 (by assumption) | exact zn38 (by assumption)) | (show Tz.st _ ≠ _; first | exact zn40 (by assumption) | exact zn41 (by assumption) | exact zn42 (by assumption) | exact zn43 (by assumption) | exact zn45 (by assumption) | exact zn46 (by assumption) | exact zn47 (by assumption) | exact zn48 (by assumption)) | (show Tz.sg _ ≠ _; first | exact zn50 (by assumption) | exact zn51 (by assumption) | exact zn52 (by assumption) | exact zn53 (by assumption) | exact zn54 (by assumption) | exact zn56 (by assumption) | exact zn57 (by assumption) | exact zn58 (by assumption)) | (show Tz.se _ ≠ _; first | exact zn60 (by assumption) | exact zn61 (by assumption) | exact zn62 (by assumption) | exact zn63 (by assumption) | exact zn64 (by assumption) | exact zn65 (by assumption) | exact zn67 (by assumption) | exact zn68 (by assumption)) | (show Tz.ou _ ≠ _; first | exact zn70 (by assumption) | exact zn71 (by assumption) | exact zn72 (by assumption) | exact zn73 (by assumption) | exact zn74 (by assumption) | exact zn75 (by assumption) | exact zn76 (by assumption) | exact zn78 (by assumption)) | (show Tz.er _ ≠ _; first | exact zn80 (by assumption) | exact zn81 (by assumption) | exact zn82 (by assumption) | exact zn83 (by assumption) | exact zn84 (by assumption) | exact zn85 (by assumption) | exact zn86 (by assumption) | exact zn87 (by assumption)))
  k_with "execs cons" => ((try ((fail_if_success (fail_if_success k_fold)); refine fold_QE ?_; intro _ _)); refine ex_consA ?_; intro _ _ _ _; (try (with_reducible rename News _ _ _ _ => kN'9; dsimp only at kN'9)); (try (with_reducible rename Fr _ _ _ _ => kF'9; refine f_let kF'9 ?_; clear kF'9; intro _ _)))
  k_with "LeaveH" => (refine' leaveH_ ?k1'9 ?k2'9 ?_; (case k1'9 => k_asm); (case k2'9 => k_asm); k_whole; intro _ _ _ _)
  k_with "pyIter ref" => ((with_reducible show wpAny _ _ (pyIter _) (fun it s₂ => LoopAtV _ _ _ _ _ _ _ _ _ it s₂) _ _); refine Stop.mk ?_)
  k_with "pyIter str" => ((with_reducible show wpAny _ _ (pyIter _) (fun it s₂ => LoopAtV _ _ _ _ _ _ _ _ _ it s₂) _ _); refine Stop.mk ?_)
  k_with "call ref" => (k_extra "mine call")
  k_with "call builtin:len" => (k_here; (with_reducible show wpAny _ _ (call (Value.builtin "len") [Value.ref _]) _ _ _); (with_unfolding_all refine' len_listN ?k1'9 ?k2'9 ?_; (case k1'9 => is_list); (case k2'9 => omega); k_whole))
  k_with "subscriptTail" => (k_here; (with_reducible show wpAny _ _ (subscriptTail _ _ (Value.ref _) (Value.int _ _)) _ _ _); (with_unfolding_all refine' sign_item ?k1'9 ?k2'9 ?k3'9 ?k4'9 ?k5'9 ?_; (case k1'9 => is_list); (case k2'9 => assumption); (case k3'9 => assumption); (case k4'9 => (push_cast; omega)); (case k5'9 => omega); k_whole); intro _)
  k_with "subscriptTail" => (k_here; (with_reducible show wpAny _ _ (subscriptTail _ _ (Value.str _ _) (Value.int _ _)) _ _ _); (with_unfolding_all refine' char_item ?k1'9 ?k2'9 ?k3'9 ?_; (case k1'9 => assumption); (case k2'9 => (push_cast; omega)); (case k3'9 => omega); k_whole))
  k_with "TurnL" => (refine TurnL.ret ?_; (try dsimp only))
  k_with "subscriptTail Name Name str int" => (k_here; (with_reducible show wpAny _ _ (subscriptTail _ _ (Value.str _ _) (Value.int _ _)) _ _ _); (with_unfolding_all refine' char_item ?k1'9 ?k2'9 ?k3'9 ?_; (case k1'9 => assumption); (case k2'9 => (push_cast; omega)); (case k3'9 => omega); k_whole))
  k_with "exec For Name Name cons nil" => (k_here; (rename Fr _ _ _ _ => lF'9); (with_unfolding_all refine' For_invVF lF'9 ?k1'9 ?k2'9 ?_; (case k1'9 => exact rfl); (case k2'9 => exact rfl); k_whole))
  k_with "call builtin:list.append" => (k_here; (with_reducible show wpAny _ _ (call (Value.builtin _) [Value.ref _, _]) _ _ _); k_dflt (refine' append_K ?k1'9 ?k2'9 ?k3'9 ?_ ?z'9; (case k1'9 => k_asm); (case k2'9 => k_asm); (case k3'9 => k_upd); (case z'9 => assumption); k_whole); intro _ _ _; (try k_sweep))
  k_with "call builtin:str.split" => (k_here; (with_reducible show wpAny _ _ (call (Value.builtin "str.split") _) _ _ _); (refine KSpl.split1 (by k_asm) (by k_asm) (by decide) ?_ (by assumption)); (intro _ _ _ _ e'9 a'9 _ _ l1'9); (try k_lt l1'9); rw [e'9] at a'9; (try (revert a'9; intro _)); (try (revert l1'9; intro _)); (try (revert e'9; intro _)))
  k_with "subscriptTail" => (k_here; (with_reducible show wpAny _ _ (subscriptTail _ _ (Value.ref _) (Value.int _ _)) _ _ _); (with_unfolding_all refine' strs_item ?k1'9 ?k2'9 ?k3'9 ?k4'9 ?k5'9 ?_; (case k1'9 => is_list); (case k2'9 => assumption); (case k3'9 => assumption); (case k4'9 => rfl); (case k5'9 => omega); k_whole); intro _)
  k_with "subscriptTail Call Attribute cons nil Name ref int" => (k_here; (with_reducible show wpAny _ _ (subscriptTail _ _ (Value.ref _) (Value.int _ _)) _ _ _); (with_unfolding_all refine' strs_item ?k1'9 ?k2'9 ?k3'9 ?k4'9 ?k5'9 ?_; (case k1'9 => is_list); (case k2'9 => assumption); (case k3'9 => assumption); (case k4'9 => rfl); (case k5'9 => omega); k_whole); intro _)
  k_with "getMethod ref" => (k_here; (with_reducible show wpAny _ _ (getMethod (Value.ref _) (PySem.Str.ofString "index") _) _ _ _); k_dflt (refine' names_method ?N'9 ?m'9 ?_; (case N'9 => k_asm); (case m'9 => k_mem)))
  k_with "call builtin:tuple.index" => (k_here; k_dflt (refine' names_index ?k'9 ?N'9 ?m'9 ?_; (case N'9 => k_asm); (case m'9 => k_mem); (case k'9 => omega)))
  k_with "subscriptTail Name BinOp ref int" => (k_here; (with_reducible show wpAny _ _ (subscriptTail _ _ (Value.ref _) (Value.int _ _)) _ _ _); (with_unfolding_all refine' names_item ?N'9 ?m'9 ?hj'9 ?h5'9 ?_; (case N'9 => k_asm); (case m'9 => k_mem); (case hj'9 => assumption); (case h5'9 => omega); k_whole); intro _)
  k_with "subscriptTail Name Slice str ref" => (k_here; ((with_unfolding_all refine' cut_tail ?F'9 ?N'9 ?sz'9 ?_); (case F'9 => k_asm); (case N'9 => k_asm); (case sz'9 => assumption); intro _ _ _ _ _; (try k_sweep)))
  k_with "subscriptTail Name Constant str int" => (k_here; (with_unfolding_all refine' head_item ?sz'9 ?_); (case sz'9 => assumption))
  k_with "setAttr ref" => (k_here; k_dflt (first | (refine' set_tz ?k1'9 ?k2'9 ?k3'9 ?k4'9 ?k5'9 ?k6'9 ?k7'9 ?k8'9 ?k9'9 ?k10'9 ?k11'9 ?k12'9 ?k13'9 ?_; (case k1'9 => k_asm); (case k2'9 => k_asm); (case k3'9 => k_asm); (case k4'9 => k_inst); (case k5'9 => exact rfl); (case k6'9 => k_is); (case k7'9 => k_is); (case k8'9 => k_is); (case k9'9 => k_is); (case k10'9 => k_get); (case k11'9 => k_put); (case k12'9 => k_upd); (case k13'9 => exact Nat.le_of_ble_eq_true rfl); k_whole; intro _ _ _; (try k_sweep)) | (refine' set_st ?k1'9 ?k2'9 ?k3'9 ?k4'9 ?k5'9 ?k6'9 ?k7'9 ?k8'9 ?k9'9 ?k10'9 ?k11'9 ?k12'9 ?k13'9 ?_; (case k1'9 => k_asm); (case k2'9 => k_asm); (case k3'9 => k_asm); (case k4'9 => k_inst); (case k5'9 => exact rfl); (case k6'9 => k_is); (case k7'9 => k_is); (case k8'9 => k_is); (case k9'9 => k_is); (case k10'9 => k_get); (case k11'9 => k_put); (case k12'9 => k_upd); (case k13'9 => exact Nat.le_of_ble_eq_true rfl); k_whole; intro _ _ _; (try k_sweep))))
  k_with "eval BinOp" => k_extra "fold"
  k_with "eval Call" => k_extra "fold"
  k_with "eval List" => k_extra "fold"
  k_with "eval Tuple" => k_extra "fold"
  k_with "eval Subscript" => k_extra "fold"
  k_with "eval Compare" => k_extra "fold"
  k_with "eval BoolOp" => k_extra "fold"
  k_with "exec If" => (k_here; (with_reducible show wpAny _ _ (exec (Stmt.If (PySem.Expr.BoolOp PySem.BoolOp.And _ _) _ _ _) _) _ _ _); refine Stop.mk ?_)
  k_steps
  unfold Stop
  k_with_none
  k_with "room" => (first | exact rmS2 (by assumption) (by decide) | exact rmS3 (by assumption) (by decide) | exact rmS4 (by assumption) (by decide) | exact rm2 (by assumption) (by decide) | exact rm0 (by assumption) | exact rm1 (by assumption) (by decide) | (dsimp +zetaDelta only; ktr_room))
  k_with "units" => (first | exact cl3 (by assumption) (by decide) | exact um2 (by assumption) (by decide) | exact um1 (by assumption) (by decide) | (dsimp +zetaDelta only; ktr_units))
  k_with "is_list" => (exact News.isList (by k_asm) (by k_mem))
  k_with "st" => (first | ((fail_if_success (fail_if_success k_unfold)); refine (?_ : wpAny _ _ _ _ _ _)) | (k_unfold; (try dsimp only)) | (k_end; wrow_close) | walk1 | (dsimp only; walk1) | (leave1; walk_say "STEP leave1"; try dsimp only) | fail "no step")
  k_with "om" => (first | assumption | with_reducible rfl | decide | exact Nat.le_trans (by assumption) (by decide) | exact Nat.lt_of_le_of_lt (by assumption) (by decide) | ((repeat (with_reducible rename _ ∧ _ => om9; clear om9)); first | ((repeat (with_reducible rename _ ≠ _ => om9; clear om9)); (repeat (with_reducible rename @Eq Nat _ _ => om9; clear om9)); (repeat (with_reducible rename @Eq Int _ _ => om9; clear om9)); omega +splitNatSub) | omega +splitNatSub))
  k_with "fold" => ((fail_if_success (fail_if_success k_fold)); refine fold_QES ?_; intro _ _ _ _)
  k_with "kne" => (first | ((refine (?_ : @Ne Nat _ _)); first | assumption | exact Ne.symm (by assumption) | k_extra "ne") | (refine neN ?_; (try dsimp only); first | assumption | exact Ne.symm (by assumption) | k_extra "ne" | omega))
  k_with "tb" => (repeat (first | exact List.forall_mem_nil _ | refine List.forall_mem_cons.mpr ⟨rfl, ?_⟩))
  k_with "ne" => with_reducible (first | exact na0 (by assumption) | exact ns0 (by assumption) | exact na1 (by assumption) | exact ns1 (by assumption) | exact na2 (by assumption) | exact ns2 (by assumption) | exact na3 (by assumption) | exact ns3 (by assumption) | exact na4 (by assumption) | exact ns4 (by assumption) | exact na5 (by assumption) | exact ns5 (by assumption) | exact na6 (by assumption) | exact ns6 (by assumption) | exact na7 (by assumption) | exact ns7 (by assumption) | exact na8 (by assumption) | exact ns8 (by assumption) | exact na9 (by assumption) | exact ns9 (by assumption) | exact na10 (by assumption) | exact ns10 (by assumption) | exact na11 (by assumption) | exact ns11 (by assumption) | exact na12 (by assumption) | exact ns12 (by assumption) | exact na13 (by assumption) | exact ns13 (by assumption) | exact na14 (by assumption) | exact ns14 (by assumption) | exact na15 (by assumption) | exact ns15 (by assumption))
  k_with "ne" => with_reducible (first | (show Tz.sts _ ≠ _; first | exact zn01 (by assumption) | exact zn02 (by assumption) | exact zn03 (by assumption) | exact zn04 (by assumption) | exact zn05 (by assumption) | exact zn06 (by assumption) | exact zn07 (by assumption) | exact zn08 (by assumption)) | (show Tz.td _ ≠ _; first | exact zn10 (by assumption) | exact zn12 (by assumption) | exact zn13 (by assumption) | exact zn14 (by assumption) | exact zn15 (by assumption) | exact zn16 (by assumption) | exact zn17 (by assumption) | exact zn18 (by assumption)) | (show Tz.t _ ≠ _; first | exact zn20 (by assumption) | exact zn21 (by assumption) | exact zn23 (by assumption) | exact zn24 (by assumption) | exact zn25 (by assumption) | exact zn26 (by assumption) | exact zn27 (by assumption) | exact zn28 (by assumption)) | (show Tz.sd _ ≠ _; first | exact zn30 (by assumption) | exact zn31 (by assumption) | exact zn32 (by assumption) | exact zn34 (by assumption) | exact zn35 (by assumption) | exact zn36 (by assumption) | exact zn37 (by assumption) | exact zn38 (by assumption)) | (show Tz.st _ ≠ _; first | exact zn40 (by assumption) | exact zn41 (by assumption) | exact zn42 (by assumption) | exact zn43 (by assumption) | exact zn45 (by assumption) | exact zn46 (by assumption) | exact zn47 (by assumption) | exact zn48 (by assumption)) | (show Tz.sg _ ≠ _; first | exact zn50 (by assumption) | exact zn51 (by assumption) | exact zn52 (by assumption) | exact zn53 (by assumption) | exact zn54 (by assumption) | exact zn56 (by assumption) | exact zn57 (by assumption) | exact zn58 (by assumption)) | (show Tz.se _ ≠ _; first | exact zn60 (by assumption) | exact zn61 (by assumption) | exact zn62 (by assumption) | exact zn63 (by assumption) | exact zn64 (by assumption) | exact zn65 (by assumption) | exact zn67 (by assumption) | exact zn68 (by assumption)) | (show Tz.ou _ ≠ _; first | exact zn70 (by assumption) | exact zn71 (by assumption) | exact zn72 (by assumption) | exact zn73 (by assumption) | exact zn74 (by assumption) | exact zn75 (by assumption) | exact zn76 (by assumption) | exact zn78 (by assumption)) | (show Tz.er _ ≠ _; first | exact zn80 (by assumption) | exact zn81 (by assumption) | exact zn82 (by assumption) | exact zn83 (by assumption) | exact zn84 (by assumption) | exact zn85 (by assumption) | exact zn86 (by assumption) | exact zn87 (by assumption)))
  k_with "execs cons" => ((try ((fail_if_success (fail_if_success k_fold)); refine fold_QE ?_; intro _ _)); refine ex_consA ?_; intro _ _ _ _; (try (with_reducible rename News _ _ _ _ => kN'9; dsimp only at kN'9)); (try (with_reducible rename Fr _ _ _ _ => kF'9; refine f_let kF'9 ?_; clear kF'9; intro _ _)))
  k_with "LeaveH" => (refine' leaveH_ ?k1'9 ?k2'9 ?_; (case k1'9 => k_asm); (case k2'9 => k_asm); k_whole; intro _ _ _ _)
  k_with "pyIter ref" => ((with_reducible show wpAny _ _ (pyIter _) (fun it s₂ => LoopAtV _ _ _ _ _ _ _ _ _ it s₂) _ _); refine Stop.mk ?_)
  k_with "pyIter str" => ((with_reducible show wpAny _ _ (pyIter _) (fun it s₂ => LoopAtV _ _ _ _ _ _ _ _ _ it s₂) _ _); refine Stop.mk ?_)
  k_with "call ref" => (k_extra "mine call")
  k_with "call builtin:len" => (k_here; (with_reducible show wpAny _ _ (call (Value.builtin "len") [Value.ref _]) _ _ _); (with_unfolding_all refine' len_listN ?k1'9 ?k2'9 ?_; (case k1'9 => is_list); (case k2'9 => omega); k_whole))
  k_with "subscriptTail" => (k_here; (with_reducible show wpAny _ _ (subscriptTail _ _ (Value.ref _) (Value.int _ _)) _ _ _); (with_unfolding_all refine' sign_item ?k1'9 ?k2'9 ?k3'9 ?k4'9 ?k5'9 ?_; (case k1'9 => is_list); (case k2'9 => assumption); (case k3'9 => assumption); (case k4'9 => (push_cast; omega)); (case k5'9 => omega); k_whole); intro _)
  k_with "subscriptTail" => (k_here; (with_reducible show wpAny _ _ (subscriptTail _ _ (Value.str _ _) (Value.int _ _)) _ _ _); (with_unfolding_all refine' char_item ?k1'9 ?k2'9 ?k3'9 ?_; (case k1'9 => assumption); (case k2'9 => (push_cast; omega)); (case k3'9 => omega); k_whole))
  k_with "TurnL" => (refine TurnL.ret ?_; (try dsimp only))
  k_with "subscriptTail Name Name str int" => (k_here; (with_reducible show wpAny _ _ (subscriptTail _ _ (Value.str _ _) (Value.int _ _)) _ _ _); (with_unfolding_all refine' char_item ?k1'9 ?k2'9 ?k3'9 ?_; (case k1'9 => assumption); (case k2'9 => (push_cast; omega)); (case k3'9 => omega); k_whole))
  k_with "exec For Name Name cons nil" => (k_here; (rename Fr _ _ _ _ => lF'9); (with_unfolding_all refine' For_invVF lF'9 ?k1'9 ?k2'9 ?_; (case k1'9 => exact rfl); (case k2'9 => exact rfl); k_whole))
  k_with "call builtin:list.append" => (k_here; (with_reducible show wpAny _ _ (call (Value.builtin _) [Value.ref _, _]) _ _ _); k_dflt (refine' append_K ?k1'9 ?k2'9 ?k3'9 ?_ ?z'9; (case k1'9 => k_asm); (case k2'9 => k_asm); (case k3'9 => k_upd); (case z'9 => assumption); k_whole); intro _ _ _; (try k_sweep))
  k_with "call builtin:str.split" => (k_here; (with_reducible show wpAny _ _ (call (Value.builtin "str.split") _) _ _ _); (refine KSpl.split1 (by k_asm) (by k_asm) (by decide) ?_ (by assumption)); (intro _ _ _ _ e'9 a'9 _ _ l1'9); (try k_lt l1'9); rw [e'9] at a'9; (try (revert a'9; intro _)); (try (revert l1'9; intro _)); (try (revert e'9; intro _)))
  k_with "subscriptTail" => (k_here; (with_reducible show wpAny _ _ (subscriptTail _ _ (Value.ref _) (Value.int _ _)) _ _ _); (with_unfolding_all refine' strs_item ?k1'9 ?k2'9 ?k3'9 ?k4'9 ?k5'9 ?_; (case k1'9 => is_list); (case k2'9 => assumption); (case k3'9 => assumption); (case k4'9 => rfl); (case k5'9 => omega); k_whole); intro _)
  k_with "subscriptTail Call Attribute cons nil Name ref int" => (k_here; (with_reducible show wpAny _ _ (subscriptTail _ _ (Value.ref _) (Value.int _ _)) _ _ _); (with_unfolding_all refine' strs_item ?k1'9 ?k2'9 ?k3'9 ?k4'9 ?k5'9 ?_; (case k1'9 => is_list); (case k2'9 => assumption); (case k3'9 => assumption); (case k4'9 => rfl); (case k5'9 => omega); k_whole); intro _)
  k_with "getMethod ref" => (k_here; (with_reducible show wpAny _ _ (getMethod (Value.ref _) (PySem.Str.ofString "index") _) _ _ _); k_dflt (refine' names_method ?N'9 ?m'9 ?_; (case N'9 => k_asm); (case m'9 => k_mem)))
  k_with "call builtin:tuple.index" => (k_here; k_dflt (refine' names_index ?k'9 ?N'9 ?m'9 ?_; (case N'9 => k_asm); (case m'9 => k_mem); (case k'9 => omega)))
  k_with "subscriptTail Name BinOp ref int" => (k_here; (with_reducible show wpAny _ _ (subscriptTail _ _ (Value.ref _) (Value.int _ _)) _ _ _); (with_unfolding_all refine' names_item ?N'9 ?m'9 ?hj'9 ?h5'9 ?_; (case N'9 => k_asm); (case m'9 => k_mem); (case hj'9 => assumption); (case h5'9 => omega); k_whole); intro _)
  k_with "subscriptTail Name Slice str ref" => (k_here; ((with_unfolding_all refine' cut_tail ?F'9 ?N'9 ?sz'9 ?_); (case F'9 => k_asm); (case N'9 => k_asm); (case sz'9 => assumption); intro _ _ _ _ _; (try k_sweep)))
  k_with "subscriptTail Name Constant str int" => (k_here; (with_unfolding_all refine' head_item ?sz'9 ?_); (case sz'9 => assumption))
  k_with "setAttr ref" => (k_here; k_dflt (first | (refine' set_tz ?k1'9 ?k2'9 ?k3'9 ?k4'9 ?k5'9 ?k6'9 ?k7'9 ?k8'9 ?k9'9 ?k10'9 ?k11'9 ?k12'9 ?k13'9 ?_; (case k1'9 => k_asm); (case k2'9 => k_asm); (case k3'9 => k_asm); (case k4'9 => k_inst); (case k5'9 => exact rfl); (case k6'9 => k_is); (case k7'9 => k_is); (case k8'9 => k_is); (case k9'9 => k_is); (case k10'9 => k_get); (case k11'9 => k_put); (case k12'9 => k_upd); (case k13'9 => exact Nat.le_of_ble_eq_true rfl); k_whole; intro _ _ _; (try k_sweep)) | (refine' set_st ?k1'9 ?k2'9 ?k3'9 ?k4'9 ?k5'9 ?k6'9 ?k7'9 ?k8'9 ?k9'9 ?k10'9 ?k11'9 ?k12'9 ?k13'9 ?_; (case k1'9 => k_asm); (case k2'9 => k_asm); (case k3'9 => k_asm); (case k4'9 => k_inst); (case k5'9 => exact rfl); (case k6'9 => k_is); (case k7'9 => k_is); (case k8'9 => k_is); (case k9'9 => k_is); (case k10'9 => k_get); (case k11'9 => k_put); (case k12'9 => k_upd); (case k13'9 => exact Nat.le_of_ble_eq_true rfl); k_whole; intro _ _ _; (try k_sweep))))
  k_with "eval BinOp" => k_extra "fold"
  k_with "eval Call" => k_extra "fold"
  k_with "eval List" => k_extra "fold"
  k_with "eval Tuple" => k_extra "fold"
  k_with "eval Subscript" => k_extra "fold"
  k_with "eval Compare" => k_extra "fold"
  k_with "eval BoolOp" => k_extra "fold"
  clear h1 h2
  rcases hq with rfl | rfl | ⟨h1, h2⟩ | ⟨h1, h2⟩
  all_goals (
    k_steps
    all_goals exact hret _ [] _ _ (by assumption) (fun _ hp => nomatch hp) (by assumption) (fun _ hp => nomatch hp) ⟨rfl, _, rfl⟩)
set_option maxHeartbeats 0 in
theorem sfeed_spec (w : World) (Z : Tz) (S : Ts) (hZ : Z.Ok) (tl : List Nat) (tk1 : Tok) (hcl : S.closed = false) (hg : ∀ c ∈ tl, goodC c) (h1 : S.sv.length ≤ 1000) (h2 : tl.length ≤ 1000) :
    Spec w 12 116 [.ref Z.st, .str ⟨tl.toArray⟩ tk1] (tzLed w Z S)
      (fun r led' => r = .none ∧ ∃ vs n1, led' = tzLed w Z { S with sv := S.sv ++ vs, isret := nrmR S.isret tl, n1 := n1 } ∧ StrsAre vs ((nrmL S.isret tl).map one)) := by
  w_top off
  obtain ⟨at', state, out, errs, sv, closed, isret, last, buf, waiting, done, a1, a2, a3, a4, a5, a6, n1, n2, n3, n4⟩ := S
  dsimp only at *
  have z9 := hZ.2.2.2.2.2.2.2.2
  subst hcl
  unfold Spec
  intro mg mb mean dp un gd cn cs a ccd cl outer A₀ base h₀ L m s Q E B F X N T hk hroom hun hret
  simp only [tzLed] at N
  refine wpAny_call ?_
  k_dflt (refine' enterH ?k1'9 ?k2'9 ?k3'9 ?k4'9 ?k5'9 ?kA'9 ?kF'9 ?kK'9 ?k6'9 ?k7'9 ?k8'9 ?k9'9 ?kB'9 ?_ ?c2'9 ?c3'9 ?c4'9 ?c5'9; (case kA'9 => exact rfl); (case kF'9 => exact rfl); (case kK'9 => assumption); (case k1'9 => k_asm); (case k2'9 => k_asm); (case k3'9 => k_asm); (case k4'9 => k_asm); (case k5'9 => k_asm); (case k6'9 => k_is); (case k7'9 => k_is); (case k8'9 => (first | exact rm0 (by assumption) | exact rm1 (by assumption) (by decide) | k_extra "room" | ktr_room)); (case k9'9 => first | exact BindsTo.of_eq rfl | exact binds_K (by k_in) rfl (by k_is) rfl rfl rfl | exact hbind9 _ (by k_in)); (case c5'9 => decide); (case kB'9 => exact locs rfl); (case c2'9 => exact rfl); (case c3'9 => exact rfl); (case c4'9 => exact rfl); k_whole; intro _ _ _ _ _ _ _ _ l1'9; (try k_lt l1'9); (try dsimp only); (with_reducible refine (?_ : wpAny _ _ _ _ _ _)); (try ((fail_if_success (fail_if_success k_fold)); refine fold_QE ?_; intro _ _)); (try (revert l1'9; intro _)))
  k_with_none
  k_with "room" => (first | exact rmS2 (by assumption) (by decide) | exact rmS3 (by assumption) (by decide) | exact rmS4 (by assumption) (by decide) | exact rm2 (by assumption) (by decide) | exact rm0 (by assumption) | exact rm1 (by assumption) (by decide) | (dsimp +zetaDelta only; ktr_room))
  k_with "units" => (first | exact cl3 (by assumption) (by decide) | exact um2 (by assumption) (by decide) | exact um1 (by assumption) (by decide) | (dsimp +zetaDelta only; ktr_units))
  k_with "is_list" => (exact News.isList (by k_asm) (by k_mem))
  k_with "st" => (first | ((fail_if_success (fail_if_success k_unfold)); refine (?_ : wpAny _ _ _ _ _ _)) | (k_unfold; (try dsimp only)) | (k_end; wrow_close) | walk1 | (dsimp only; walk1) | (leave1; walk_say "STEP leave1"; try dsimp only) | fail "no step")
  k_with "om" => (first | assumption | with_reducible rfl | decide | exact Nat.le_trans (by assumption) (by decide) | exact Nat.lt_of_le_of_lt (by assumption) (by decide) | ((repeat (with_reducible rename _ ∧ _ => om9; clear om9)); first | ((repeat (with_reducible rename _ ≠ _ => om9; clear om9)); (repeat (with_reducible rename @Eq Nat _ _ => om9; clear om9)); (repeat (with_reducible rename @Eq Int _ _ => om9; clear om9)); omega +splitNatSub) | omega +splitNatSub))
  k_with "fold" => ((fail_if_success (fail_if_success k_fold)); refine fold_QES ?_; intro _ _ _ _)
  k_with "kne" => (first | ((refine (?_ : @Ne Nat _ _)); first | assumption | exact Ne.symm (by assumption) | k_extra "ne") | (refine neN ?_; (try dsimp only); first | assumption | exact Ne.symm (by assumption) | k_extra "ne" | omega))
  k_with "tb" => (repeat (first | exact List.forall_mem_nil _ | refine List.forall_mem_cons.mpr ⟨rfl, ?_⟩))
  k_with "ne" => with_reducible (first | exact na0 (by assumption) | exact ns0 (by assumption) | exact na1 (by assumption) | exact ns1 (by assumption) | exact na2 (by assumption) | exact ns2 (by assumption) | exact na3 (by assumption) | exact ns3 (by assumption) | exact na4 (by assumption) | exact ns4 (by assumption) | exact na5 (by assumption) | exact ns5 (by assumption) | exact na6 (by assumption) | exact ns6 (by assumption) | exact na7 (by assumption) | exact ns7 (by assumption) | exact na8 (by assumption) | exact ns8 (by assumption) | exact na9 (by assumption) | exact ns9 (by assumption) | exact na10 (by assumption) | exact ns10 (by assumption) | exact na11 (by assumption) | exact ns11 (by assumption) | exact na12 (by assumption) | exact ns12 (by assumption) | exact na13 (by assumption) | exact ns13 (by assumption) | exact na14 (by assumption) | exact ns14 (by assumption) | exact na15 (by assumption) | exact ns15 (by assumption))
  k_with "ne" => with_reducible (first | (show Tz.sts _ ≠ _; first | exact zn01 (by assumption) | exact zn02 (by assumption) | exact zn03 (by assumption) | exact zn04 (by assumption) | exact zn05 (by assumption) | exact zn06 (by assumption) | exact zn07 (by assumption) | exact zn08 (by assumption)) | (show Tz.td _ ≠ _; first | exact zn10 (by assumption) | exact zn12 (by assumption) | exact zn13 (by assumption) | exact zn14 (by assumption) | exact zn15 (by assumption) | exact zn16 (by assumption) | exact zn17 (by assumption) | exact zn18 (by assumption)) | (show Tz.t _ ≠ _; first | exact zn20 (by assumption) | exact zn21 (by assumption) | exact zn23 (by assumption) | exact zn24 (by assumption) | exact zn25 (by assumption) | exact zn26 (by assumption) | exact zn27 (by assumption) | exact zn28 (by assumption)) | (show Tz.sd _ ≠ _; first | exact zn30 (by assumption) | exact zn31 (by assumption) | exact zn32 (by assumption) | exact zn34 (by assumption) | exact zn35 (by assumption) | exact zn36 (by assumption) | exact zn37 (by assumption) | exact zn38 (by assumption)) | (show Tz.st _ ≠ _; first | exact zn40 (by assumption) | exact zn41 (by assumption) | exact zn42 (by assumption) | exact zn43 (by assumption) | exact zn45 (by assumption) | exact zn46 (by assumption) | exact zn47 (by assumption) | exact zn48 (by assumption)) | (show Tz.sg _ ≠ _; first | exact zn50 (by assumption) | exact zn51 (by assumption) | exact zn52 (by assumption) | exact zn53 (by assumption) | exact zn54 (by assumption) | exact zn56 (by assumption) | exact zn57 (by assumption) | exact zn58 (by assumption)) | (show Tz.se _ ≠ _; first | exact zn60 (by assumption) | exact zn61 (by assumption) | exact zn62 (by assumption) | exact zn63 (by assumption) | exact zn64 (by assumption) | exact zn65 (by assumption) | exact zn67 (by assumption) | exact zn68 (by assumption)) | (show Tz.ou _ ≠ _; first | exact zn70 (by assumption) | exact zn71 (by assumption) | exact zn72 (by assumption) | exact zn73 (by assumption) | exact zn74 (by assumption) | exact zn75 (by assumption) | exact zn76 (by assumption) | exact zn78 (by assumption)) | (show Tz.er _ ≠ _; first | exact zn80 (by assumption) | exact zn81 (by assumption) | exact zn82 (by assumption) | exact zn83 (by assumption) | exact zn84 (by assumption) | exact zn85 (by assumption) | exact zn86 (by assumption) | exact zn87 (by assumption)))
  k_with "execs cons" => ((try ((fail_if_success (fail_if_success k_fold)); refine fold_QE ?_; intro _ _)); refine ex_consA ?_; intro _ _ _ _; (try (with_reducible rename News _ _ _ _ => kN'9; dsimp only at kN'9)); (try (with_reducible rename Fr _ _ _ _ => kF'9; refine f_let kF'9 ?_; clear kF'9; intro _ _)))
  k_with "LeaveH" => (refine' leaveH_ ?k1'9 ?k2'9 ?_; (case k1'9 => k_asm); (case k2'9 => k_asm); k_whole; intro _ _ _ _)
  k_with "pyIter ref" => ((with_reducible show wpAny _ _ (pyIter _) (fun it s₂ => LoopAtV _ _ _ _ _ _ _ _ _ it s₂) _ _); refine Stop.mk ?_)
  k_with "pyIter str" => ((with_reducible show wpAny _ _ (pyIter _) (fun it s₂ => LoopAtV _ _ _ _ _ _ _ _ _ it s₂) _ _); refine Stop.mk ?_)
  k_with "call ref" => (k_extra "mine call")
  k_with "call builtin:len" => (k_here; (with_reducible show wpAny _ _ (call (Value.builtin "len") [Value.ref _]) _ _ _); (with_unfolding_all refine' len_listN ?k1'9 ?k2'9 ?_; (case k1'9 => is_list); (case k2'9 => omega); k_whole))
  k_with "subscriptTail" => (k_here; (with_reducible show wpAny _ _ (subscriptTail _ _ (Value.ref _) (Value.int _ _)) _ _ _); (with_unfolding_all refine' sign_item ?k1'9 ?k2'9 ?k3'9 ?k4'9 ?k5'9 ?_; (case k1'9 => is_list); (case k2'9 => assumption); (case k3'9 => assumption); (case k4'9 => (push_cast; omega)); (case k5'9 => omega); k_whole); intro _)
  k_with "subscriptTail" => (k_here; (with_reducible show wpAny _ _ (subscriptTail _ _ (Value.str _ _) (Value.int _ _)) _ _ _); (with_unfolding_all refine' char_item ?k1'9 ?k2'9 ?k3'9 ?_; (case k1'9 => assumption); (case k2'9 => (push_cast; omega)); (case k3'9 => omega); k_whole))
  k_with "TurnL" => (refine TurnL.ret ?_; (try dsimp only))
  k_with "subscriptTail Name Name str int" => (k_here; (with_reducible show wpAny _ _ (subscriptTail _ _ (Value.str _ _) (Value.int _ _)) _ _ _); (with_unfolding_all refine' char_item ?k1'9 ?k2'9 ?k3'9 ?_; (case k1'9 => assumption); (case k2'9 => (push_cast; omega)); (case k3'9 => omega); k_whole))
  k_with "exec For Name Name cons nil" => (k_here; (rename Fr _ _ _ _ => lF'9); (with_unfolding_all refine' For_invVF lF'9 ?k1'9 ?k2'9 ?_; (case k1'9 => exact rfl); (case k2'9 => exact rfl); k_whole))
  k_with "call builtin:list.append" => (k_here; (with_reducible show wpAny _ _ (call (Value.builtin _) [Value.ref _, _]) _ _ _); k_dflt (refine' append_K ?k1'9 ?k2'9 ?k3'9 ?_ ?z'9; (case k1'9 => k_asm); (case k2'9 => k_asm); (case k3'9 => k_upd); (case z'9 => assumption); k_whole); intro _ _ _; (try k_sweep))
  k_with "call builtin:str.split" => (k_here; (with_reducible show wpAny _ _ (call (Value.builtin "str.split") _) _ _ _); (refine KSpl.split1 (by k_asm) (by k_asm) (by decide) ?_ (by assumption)); (intro _ _ _ _ e'9 a'9 _ _ l1'9); (try k_lt l1'9); rw [e'9] at a'9; (try (revert a'9; intro _)); (try (revert l1'9; intro _)); (try (revert e'9; intro _)))
  k_with "subscriptTail" => (k_here; (with_reducible show wpAny _ _ (subscriptTail _ _ (Value.ref _) (Value.int _ _)) _ _ _); (with_unfolding_all refine' strs_item ?k1'9 ?k2'9 ?k3'9 ?k4'9 ?k5'9 ?_; (case k1'9 => is_list); (case k2'9 => assumption); (case k3'9 => assumption); (case k4'9 => rfl); (case k5'9 => omega); k_whole); intro _)
  k_with "subscriptTail Call Attribute cons nil Name ref int" => (k_here; (with_reducible show wpAny _ _ (subscriptTail _ _ (Value.ref _) (Value.int _ _)) _ _ _); (with_unfolding_all refine' strs_item ?k1'9 ?k2'9 ?k3'9 ?k4'9 ?k5'9 ?_; (case k1'9 => is_list); (case k2'9 => assumption); (case k3'9 => assumption); (case k4'9 => rfl); (case k5'9 => omega); k_whole); intro _)
  k_with "getMethod ref" => (k_here; (with_reducible show wpAny _ _ (getMethod (Value.ref _) (PySem.Str.ofString "index") _) _ _ _); k_dflt (refine' names_method ?N'9 ?m'9 ?_; (case N'9 => k_asm); (case m'9 => k_mem)))
  k_with "call builtin:tuple.index" => (k_here; k_dflt (refine' names_index ?k'9 ?N'9 ?m'9 ?_; (case N'9 => k_asm); (case m'9 => k_mem); (case k'9 => omega)))
  k_with "subscriptTail Name BinOp ref int" => (k_here; (with_reducible show wpAny _ _ (subscriptTail _ _ (Value.ref _) (Value.int _ _)) _ _ _); (with_unfolding_all refine' names_item ?N'9 ?m'9 ?hj'9 ?h5'9 ?_; (case N'9 => k_asm); (case m'9 => k_mem); (case hj'9 => assumption); (case h5'9 => omega); k_whole); intro _)
  k_with "subscriptTail Name Slice str ref" => (k_here; ((with_unfolding_all refine' cut_tail ?F'9 ?N'9 ?sz'9 ?_); (case F'9 => k_asm); (case N'9 => k_asm); (case sz'9 => assumption); intro _ _ _ _ _; (try k_sweep)))
  k_with "subscriptTail Name Constant str int" => (k_here; (with_unfolding_all refine' head_item ?sz'9 ?_); (case sz'9 => assumption))
  k_with "setAttr ref" => (k_here; k_dflt (first | (refine' set_tz ?k1'9 ?k2'9 ?k3'9 ?k4'9 ?k5'9 ?k6'9 ?k7'9 ?k8'9 ?k9'9 ?k10'9 ?k11'9 ?k12'9 ?k13'9 ?_; (case k1'9 => k_asm); (case k2'9 => k_asm); (case k3'9 => k_asm); (case k4'9 => k_inst); (case k5'9 => exact rfl); (case k6'9 => k_is); (case k7'9 => k_is); (case k8'9 => k_is); (case k9'9 => k_is); (case k10'9 => k_get); (case k11'9 => k_put); (case k12'9 => k_upd); (case k13'9 => exact Nat.le_of_ble_eq_true rfl); k_whole; intro _ _ _; (try k_sweep)) | (refine' set_st ?k1'9 ?k2'9 ?k3'9 ?k4'9 ?k5'9 ?k6'9 ?k7'9 ?k8'9 ?k9'9 ?k10'9 ?k11'9 ?k12'9 ?k13'9 ?_; (case k1'9 => k_asm); (case k2'9 => k_asm); (case k3'9 => k_asm); (case k4'9 => k_inst); (case k5'9 => exact rfl); (case k6'9 => k_is); (case k7'9 => k_is); (case k8'9 => k_is); (case k9'9 => k_is); (case k10'9 => k_get); (case k11'9 => k_put); (case k12'9 => k_upd); (case k13'9 => exact Nat.le_of_ble_eq_true rfl); k_whole; intro _ _ _; (try k_sweep))))
  k_with "eval BinOp" => k_extra "fold"
  k_with "eval Call" => k_extra "fold"
  k_with "eval List" => k_extra "fold"
  k_with "eval Tuple" => k_extra "fold"
  k_with "eval Subscript" => k_extra "fold"
  k_with "eval Compare" => k_extra "fold"
  k_with "eval BoolOp" => k_extra "fold"
  k_with "mine call" => ((with_reducible show wpAny _ _ (call (Value.ref 95) _) _ _ _); refine Stop.mk ?_)
  k_steps
  unfold Stop
  refine iter_str (σ := List Value × Bool × Nat) (fun c => tzLed w Z ⟨at', state, out, errs, sv ++ c.1, false, c.2.1, last, buf, waiting, done, a1, a2, a3, a4, a5, a6, c.2.2, n2, n3, n4⟩)
      (fun _ => [("self", .ref Z.st)])
      (fun i c => ∃ ad, StrsAre c.1 (ad.map one) ∧ ad ++ nrmL c.2.1 (tl.drop i) = nrmL isret tl ∧ nrmR c.2.1 (tl.drop i) = nrmR isret tl ∧ ad.length ≤ i) ([], isret, n1) rfl (by assumption) ?hN ?hps ⟨[], .nil, rfl, rfl, Nat.le_refl _⟩ ?turn ?done
  case hN => simp only [tzLed, List.append_nil]; assumption
  case hps => intro p hp; simp only [List.mem_cons, List.not_mem_nil, or_false] at hp; rcases hp with rfl; rfl
  case done =>
    rintro ⟨vs, rr, n1'⟩ u h tk ⟨ad, hS, hA, hR, hL⟩ F' N'
    (try dsimp only)
    rw [show (⟨tl.toArray⟩ : Str).cps.size = tl.length from by simp, List.drop_length] at hA hR
    simp only [nrmL, nrmR, List.append_nil] at hA hR
    subst hA hR
    k_steps
    exact hret _ _ _ _ (by assumption) (by assumption) (by assumption) (by assumption) ⟨rfl, vs, n1', rfl, hS⟩
  case turn => 
    rintro i ⟨vs, rr, n1'⟩ n tI own u h tk hn ⟨ad, hS, hA, hR, hL⟩ ho hlt F' N'
    dsimp only at hS hA hR hL ho hlt N' ⊢
    have hn' : tl[i]? = some n := by simpa using hn
    obtain ⟨hi, hni⟩ := List.getElem?_eq_some_iff.mp hn'
    have hgn := hg n (List.mem_of_getElem? hn')
    have hdr : tl.drop i = n :: tl.drop (i + 1) := by rw [← hni]; exact List.drop_eq_getElem_cons hi
    rw [hdr] at hA hR
    simp only [nrmL, nrmR] at hA hR
    have hvl := hS.len_eq
    rw [List.length_map] at hvl
    have hsz : (sv ++ vs).toArray.size ≤ sizeLine := by
      simp only [List.size_toArray, List.length_append]
      rw [sizeLine_eq]; omega
    have e13 : ((⟨#[n]⟩ : Str) == Str.ofString "\r") = decide (n = 13) := one_is (by decide +kernel)
    have e10 : ((⟨#[n]⟩ : Str) != Str.ofString "\n") = !decide (n = 10) := by rw [bne, one_is (d := 10) (by decide +kernel)]
    simp only [tzLed, List.cons_append, List.nil_append, List.append_assoc] at N'
    (try dsimp only)
    by_cases c13 : n = 13
    · rw [decide_eq_true c13] at e13 hR
      rw [if_pos c13] at hA
      k_steps
      rename News _ _ _ _ => N9
      simp only [List.push_toArray, List.append_assoc, e13] at N9
      rw [tz_cons] at N9
      refine TurnL.next (vs ++ [.str "\n" _], true, n1' + 1) (by assumption) N9 ho (fun p hp => by rw [List.mem_singleton.mp hp]; rfl) ⟨ad ++ [10], ?_, ?_, ?_, ?_⟩
      · rw [List.map_append]; exact hS.append' (.cons _ _ .nil)
      · rw [List.append_assoc]; exact hA
      · exact hR
      · simp only [List.length_append, List.length_cons, List.length_nil]; omega
    · rw [decide_eq_false c13] at e13 hR
      rw [if_neg c13] at hA
      by_cases c10 : n = 10
      · rw [decide_eq_true c10, Bool.not_true] at e10
        cases rr
        · rw [if_neg (by simp)] at hA
          k_steps
          unfold Stop
          k_dflt (refine (input_error_spec w n _ hgn c13).use0 (by k_asm) (by k_asm) (by k_asm) (by k_asm) (by k_asm) rfl (by (first | exact rm0 (by assumption) | exact rm1 (by assumption) (by decide) | k_extra "room" | ktr_room)) (by (first | k_extra "units" | ktr_units)) ?_)
          rintro r led' h' tk' F' N' off ⟨rfl, tk2, rfl⟩
          (try dsimp only)
          k_steps
          rename News _ _ _ _ => N9
          simp only [List.push_toArray, List.append_assoc, e13] at N9
          rw [tz_cons] at N9
          refine TurnL.next (vs ++ [Value.str (PySem.Str.mk #[n]) tI], false, n1' + 1) (by assumption) N9 ho (fun p hp => by rw [List.mem_singleton.mp hp]; rfl) ⟨ad ++ [n], ?_, ?_, ?_, ?_⟩
          · rw [List.map_append]; exact hS.append' (.cons _ _ .nil)
          · rw [List.append_assoc]; exact hA
          · exact hR
          · simp only [List.length_append, List.length_cons, List.length_nil]; omega
        · rw [if_pos ⟨c10, rfl⟩] at hA
          k_steps
          rename News _ _ _ _ => N9
          simp only [e13] at N9
          rw [tz_cons] at N9
          exact TurnL.next (vs, false, n1') (by assumption) N9 ho (fun p hp => by rw [List.mem_singleton.mp hp]; rfl) ⟨ad, hS, hA, hR, by omega⟩
      · rw [decide_eq_false c10, Bool.not_false] at e10
        rw [if_neg (fun h => c10 h.1)] at hA
        k_steps
        unfold Stop
        k_dflt (refine (input_error_spec w n _ hgn c13).use0 (by k_asm) (by k_asm) (by k_asm) (by k_asm) (by k_asm) rfl (by (first | exact rm0 (by assumption) | exact rm1 (by assumption) (by decide) | k_extra "room" | ktr_room)) (by (first | k_extra "units" | ktr_units)) ?_)
        rintro r led' h' tk' F' N' off ⟨rfl, tk2, rfl⟩
        (try dsimp only)
        k_steps
        rename News _ _ _ _ => N9
        simp only [List.push_toArray, List.append_assoc, e13] at N9
        rw [tz_cons] at N9
        refine TurnL.next (vs ++ [Value.str (PySem.Str.mk #[n]) tI], false, n1' + 1) (by assumption) N9 ho (fun p hp => by rw [List.mem_singleton.mp hp]; rfl) ⟨ad ++ [n], ?_, ?_, ?_, ?_⟩
        · rw [List.map_append]; exact hS.append' (.cons _ _ .nil)
        · rw [List.append_assoc]; exact hA
        · exact hR
        · simp only [List.length_append, List.length_cons, List.length_nil]; omega
set_option maxHeartbeats 0 in
theorem tfeed_spec (w : World) (Z : Tz) (S : Ts) (hZ : Z.Ok) (tl : List Nat) (tk1 : Tok) (hcl : S.closed = false) (hg : ∀ c ∈ tl, goodC c) (h1 : S.sv.length ≤ 1000) (h2 : tl.length ≤ 1000) :
    Spec w 20 159 [.ref Z.t, .str ⟨tl.toArray⟩ tk1] (tzLed w Z S)
      (fun r led' => r = .none ∧ ∃ vs n1, led' = tzLed w Z { S with sv := S.sv ++ vs, isret := nrmR S.isret tl, n1 := n1, waiting := false } ∧ StrsAre vs ((nrmL S.isret tl).map one)) := by
  w_top off
  have hZ' := hZ
  obtain ⟨at', state, out, errs, sv, closed, isret, last, buf, waiting, done, a1, a2, a3, a4, a5, a6, n1, n2, n3, n4⟩ := S
  dsimp only at *
  have z9 := hZ.2.2.2.2.2.2.2.2
  unfold Spec
  intro mg mb mean dp un gd cn cs a ccd cl outer A₀ base h₀ L m s Q E B F X N T hk hroom hun hret
  simp only [tzLed] at N
  refine wpAny_call ?_
  k_dflt (refine' enterH ?k1'9 ?k2'9 ?k3'9 ?k4'9 ?k5'9 ?kA'9 ?kF'9 ?kK'9 ?k6'9 ?k7'9 ?k8'9 ?k9'9 ?kB'9 ?_ ?c2'9 ?c3'9 ?c4'9 ?c5'9; (case kA'9 => exact rfl); (case kF'9 => exact rfl); (case kK'9 => assumption); (case k1'9 => k_asm); (case k2'9 => k_asm); (case k3'9 => k_asm); (case k4'9 => k_asm); (case k5'9 => k_asm); (case k6'9 => k_is); (case k7'9 => k_is); (case k8'9 => (first | exact rm0 (by assumption) | exact rm1 (by assumption) (by decide) | k_extra "room" | ktr_room)); (case k9'9 => first | exact BindsTo.of_eq rfl | exact binds_K (by k_in) rfl (by k_is) rfl rfl rfl | exact hbind9 _ (by k_in)); (case c5'9 => decide); (case kB'9 => exact locs rfl); (case c2'9 => exact rfl); (case c3'9 => exact rfl); (case c4'9 => exact rfl); k_whole; intro _ _ _ _ _ _ _ _ l1'9; (try k_lt l1'9); (try dsimp only); (with_reducible refine (?_ : wpAny _ _ _ _ _ _)); (try ((fail_if_success (fail_if_success k_fold)); refine fold_QE ?_; intro _ _)); (try (revert l1'9; intro _)))
  k_with_none
  k_with "room" => (first | exact rmS2 (by assumption) (by decide) | exact rmS3 (by assumption) (by decide) | exact rmS4 (by assumption) (by decide) | exact rm2 (by assumption) (by decide) | exact rm0 (by assumption) | exact rm1 (by assumption) (by decide) | (dsimp +zetaDelta only; ktr_room))
  k_with "units" => (first | exact cl3 (by assumption) (by decide) | exact um2 (by assumption) (by decide) | exact um1 (by assumption) (by decide) | (dsimp +zetaDelta only; ktr_units))
  k_with "is_list" => (exact News.isList (by k_asm) (by k_mem))
  k_with "st" => (first | ((fail_if_success (fail_if_success k_unfold)); refine (?_ : wpAny _ _ _ _ _ _)) | (k_unfold; (try dsimp only)) | (k_end; wrow_close) | walk1 | (dsimp only; walk1) | (leave1; walk_say "STEP leave1"; try dsimp only) | fail "no step")
  k_with "om" => (first | assumption | with_reducible rfl | decide | exact Nat.le_trans (by assumption) (by decide) | exact Nat.lt_of_le_of_lt (by assumption) (by decide) | ((repeat (with_reducible rename _ ∧ _ => om9; clear om9)); first | ((repeat (with_reducible rename _ ≠ _ => om9; clear om9)); (repeat (with_reducible rename @Eq Nat _ _ => om9; clear om9)); (repeat (with_reducible rename @Eq Int _ _ => om9; clear om9)); omega +splitNatSub) | omega +splitNatSub))
  k_with "fold" => ((fail_if_success (fail_if_success k_fold)); refine fold_QES ?_; intro _ _ _ _)
  k_with "kne" => (first | ((refine (?_ : @Ne Nat _ _)); first | assumption | exact Ne.symm (by assumption) | k_extra "ne") | (refine neN ?_; (try dsimp only); first | assumption | exact Ne.symm (by assumption) | k_extra "ne" | omega))
  k_with "tb" => (repeat (first | exact List.forall_mem_nil _ | refine List.forall_mem_cons.mpr ⟨rfl, ?_⟩))
  k_with "ne" => with_reducible (first | exact na0 (by assumption) | exact ns0 (by assumption) | exact na1 (by assumption) | exact ns1 (by assumption) | exact na2 (by assumption) | exact ns2 (by assumption) | exact na3 (by assumption) | exact ns3 (by assumption) | exact na4 (by assumption) | exact ns4 (by assumption) | exact na5 (by assumption) | exact ns5 (by assumption) | exact na6 (by assumption) | exact ns6 (by assumption) | exact na7 (by assumption) | exact ns7 (by assumption) | exact na8 (by assumption) | exact ns8 (by assumption) | exact na9 (by assumption) | exact ns9 (by assumption) | exact na10 (by assumption) | exact ns10 (by assumption) | exact na11 (by assumption) | exact ns11 (by assumption) | exact na12 (by assumption) | exact ns12 (by assumption) | exact na13 (by assumption) | exact ns13 (by assumption) | exact na14 (by assumption) | exact ns14 (by assumption) | exact na15 (by assumption) | exact ns15 (by assumption))
  k_with "ne" => with_reducible (first | (show Tz.sts _ ≠ _; first | exact zn01 (by assumption) | exact zn02 (by assumption) | exact zn03 (by assumption) | exact zn04 (by assumption) | exact zn05 (by assumption) | exact zn06 (by assumption) | exact zn07 (by assumption) | exact zn08 (by assumption)) | (show Tz.td _ ≠ _; first | exact zn10 (by assumption) | exact zn12 (by assumption) | exact zn13 (by assumption) | exact zn14 (by assumption) | exact zn15 (by assumption) | exact zn16 (by assumption) | exact zn17 (by assumption) | exact zn18 (by assumption)) | (show Tz.t _ ≠ _; first | exact zn20 (by assumption) | exact zn21 (by assumption) | exact zn23 (by assumption) | exact zn24 (by assumption) | exact zn25 (by assumption) | exact zn26 (by assumption) | exact zn27 (by assumption) | exact zn28 (by assumption)) | (show Tz.sd _ ≠ _; first | exact zn30 (by assumption) | exact zn31 (by assumption) | exact zn32 (by assumption) | exact zn34 (by assumption) | exact zn35 (by assumption) | exact zn36 (by assumption) | exact zn37 (by assumption) | exact zn38 (by assumption)) | (show Tz.st _ ≠ _; first | exact zn40 (by assumption) | exact zn41 (by assumption) | exact zn42 (by assumption) | exact zn43 (by assumption) | exact zn45 (by assumption) | exact zn46 (by assumption) | exact zn47 (by assumption) | exact zn48 (by assumption)) | (show Tz.sg _ ≠ _; first | exact zn50 (by assumption) | exact zn51 (by assumption) | exact zn52 (by assumption) | exact zn53 (by assumption) | exact zn54 (by assumption) | exact zn56 (by assumption) | exact zn57 (by assumption) | exact zn58 (by assumption)) | (show Tz.se _ ≠ _; first | exact zn60 (by assumption) | exact zn61 (by assumption) | exact zn62 (by assumption) | exact zn63 (by assumption) | exact zn64 (by assumption) | exact zn65 (by assumption) | exact zn67 (by assumption) | exact zn68 (by assumption)) | (show Tz.ou _ ≠ _; first | exact zn70 (by assumption) | exact zn71 (by assumption) | exact zn72 (by assumption) | exact zn73 (by assumption) | exact zn74 (by assumption) | exact zn75 (by assumption) | exact zn76 (by assumption) | exact zn78 (by assumption)) | (show Tz.er _ ≠ _; first | exact zn80 (by assumption) | exact zn81 (by assumption) | exact zn82 (by assumption) | exact zn83 (by assumption) | exact zn84 (by assumption) | exact zn85 (by assumption) | exact zn86 (by assumption) | exact zn87 (by assumption)))
  k_with "execs cons" => ((try ((fail_if_success (fail_if_success k_fold)); refine fold_QE ?_; intro _ _)); refine ex_consA ?_; intro _ _ _ _; (try (with_reducible rename News _ _ _ _ => kN'9; dsimp only at kN'9)); (try (with_reducible rename Fr _ _ _ _ => kF'9; refine f_let kF'9 ?_; clear kF'9; intro _ _)))
  k_with "LeaveH" => (refine' leaveH_ ?k1'9 ?k2'9 ?_; (case k1'9 => k_asm); (case k2'9 => k_asm); k_whole; intro _ _ _ _)
  k_with "pyIter ref" => ((with_reducible show wpAny _ _ (pyIter _) (fun it s₂ => LoopAtV _ _ _ _ _ _ _ _ _ it s₂) _ _); refine Stop.mk ?_)
  k_with "pyIter str" => ((with_reducible show wpAny _ _ (pyIter _) (fun it s₂ => LoopAtV _ _ _ _ _ _ _ _ _ it s₂) _ _); refine Stop.mk ?_)
  k_with "call ref" => (k_extra "mine call")
  k_with "call builtin:len" => (k_here; (with_reducible show wpAny _ _ (call (Value.builtin "len") [Value.ref _]) _ _ _); (with_unfolding_all refine' len_listN ?k1'9 ?k2'9 ?_; (case k1'9 => is_list); (case k2'9 => omega); k_whole))
  k_with "subscriptTail" => (k_here; (with_reducible show wpAny _ _ (subscriptTail _ _ (Value.ref _) (Value.int _ _)) _ _ _); (with_unfolding_all refine' sign_item ?k1'9 ?k2'9 ?k3'9 ?k4'9 ?k5'9 ?_; (case k1'9 => is_list); (case k2'9 => assumption); (case k3'9 => assumption); (case k4'9 => (push_cast; omega)); (case k5'9 => omega); k_whole); intro _)
  k_with "subscriptTail" => (k_here; (with_reducible show wpAny _ _ (subscriptTail _ _ (Value.str _ _) (Value.int _ _)) _ _ _); (with_unfolding_all refine' char_item ?k1'9 ?k2'9 ?k3'9 ?_; (case k1'9 => assumption); (case k2'9 => (push_cast; omega)); (case k3'9 => omega); k_whole))
  k_with "TurnL" => (refine TurnL.ret ?_; (try dsimp only))
  k_with "subscriptTail Name Name str int" => (k_here; (with_reducible show wpAny _ _ (subscriptTail _ _ (Value.str _ _) (Value.int _ _)) _ _ _); (with_unfolding_all refine' char_item ?k1'9 ?k2'9 ?k3'9 ?_; (case k1'9 => assumption); (case k2'9 => (push_cast; omega)); (case k3'9 => omega); k_whole))
  k_with "exec For Name Name cons nil" => (k_here; (rename Fr _ _ _ _ => lF'9); (with_unfolding_all refine' For_invVF lF'9 ?k1'9 ?k2'9 ?_; (case k1'9 => exact rfl); (case k2'9 => exact rfl); k_whole))
  k_with "call builtin:list.append" => (k_here; (with_reducible show wpAny _ _ (call (Value.builtin _) [Value.ref _, _]) _ _ _); k_dflt (refine' append_K ?k1'9 ?k2'9 ?k3'9 ?_ ?z'9; (case k1'9 => k_asm); (case k2'9 => k_asm); (case k3'9 => k_upd); (case z'9 => assumption); k_whole); intro _ _ _; (try k_sweep))
  k_with "call builtin:str.split" => (k_here; (with_reducible show wpAny _ _ (call (Value.builtin "str.split") _) _ _ _); (refine KSpl.split1 (by k_asm) (by k_asm) (by decide) ?_ (by assumption)); (intro _ _ _ _ e'9 a'9 _ _ l1'9); (try k_lt l1'9); rw [e'9] at a'9; (try (revert a'9; intro _)); (try (revert l1'9; intro _)); (try (revert e'9; intro _)))
  k_with "subscriptTail" => (k_here; (with_reducible show wpAny _ _ (subscriptTail _ _ (Value.ref _) (Value.int _ _)) _ _ _); (with_unfolding_all refine' strs_item ?k1'9 ?k2'9 ?k3'9 ?k4'9 ?k5'9 ?_; (case k1'9 => is_list); (case k2'9 => assumption); (case k3'9 => assumption); (case k4'9 => rfl); (case k5'9 => omega); k_whole); intro _)
  k_with "subscriptTail Call Attribute cons nil Name ref int" => (k_here; (with_reducible show wpAny _ _ (subscriptTail _ _ (Value.ref _) (Value.int _ _)) _ _ _); (with_unfolding_all refine' strs_item ?k1'9 ?k2'9 ?k3'9 ?k4'9 ?k5'9 ?_; (case k1'9 => is_list); (case k2'9 => assumption); (case k3'9 => assumption); (case k4'9 => rfl); (case k5'9 => omega); k_whole); intro _)
  k_with "getMethod ref" => (k_here; (with_reducible show wpAny _ _ (getMethod (Value.ref _) (PySem.Str.ofString "index") _) _ _ _); k_dflt (refine' names_method ?N'9 ?m'9 ?_; (case N'9 => k_asm); (case m'9 => k_mem)))
  k_with "call builtin:tuple.index" => (k_here; k_dflt (refine' names_index ?k'9 ?N'9 ?m'9 ?_; (case N'9 => k_asm); (case m'9 => k_mem); (case k'9 => omega)))
  k_with "subscriptTail Name BinOp ref int" => (k_here; (with_reducible show wpAny _ _ (subscriptTail _ _ (Value.ref _) (Value.int _ _)) _ _ _); (with_unfolding_all refine' names_item ?N'9 ?m'9 ?hj'9 ?h5'9 ?_; (case N'9 => k_asm); (case m'9 => k_mem); (case hj'9 => assumption); (case h5'9 => omega); k_whole); intro _)
  k_with "subscriptTail Name Slice str ref" => (k_here; ((with_unfolding_all refine' cut_tail ?F'9 ?N'9 ?sz'9 ?_); (case F'9 => k_asm); (case N'9 => k_asm); (case sz'9 => assumption); intro _ _ _ _ _; (try k_sweep)))
  k_with "subscriptTail Name Constant str int" => (k_here; (with_unfolding_all refine' head_item ?sz'9 ?_); (case sz'9 => assumption))
  k_with "setAttr ref" => (k_here; k_dflt (first | (refine' set_tz ?k1'9 ?k2'9 ?k3'9 ?k4'9 ?k5'9 ?k6'9 ?k7'9 ?k8'9 ?k9'9 ?k10'9 ?k11'9 ?k12'9 ?k13'9 ?_; (case k1'9 => k_asm); (case k2'9 => k_asm); (case k3'9 => k_asm); (case k4'9 => k_inst); (case k5'9 => exact rfl); (case k6'9 => k_is); (case k7'9 => k_is); (case k8'9 => k_is); (case k9'9 => k_is); (case k10'9 => k_get); (case k11'9 => k_put); (case k12'9 => k_upd); (case k13'9 => exact Nat.le_of_ble_eq_true rfl); k_whole; intro _ _ _; (try k_sweep)) | (refine' set_st ?k1'9 ?k2'9 ?k3'9 ?k4'9 ?k5'9 ?k6'9 ?k7'9 ?k8'9 ?k9'9 ?k10'9 ?k11'9 ?k12'9 ?k13'9 ?_; (case k1'9 => k_asm); (case k2'9 => k_asm); (case k3'9 => k_asm); (case k4'9 => k_inst); (case k5'9 => exact rfl); (case k6'9 => k_is); (case k7'9 => k_is); (case k8'9 => k_is); (case k9'9 => k_is); (case k10'9 => k_get); (case k11'9 => k_put); (case k12'9 => k_upd); (case k13'9 => exact Nat.le_of_ble_eq_true rfl); k_whole; intro _ _ _; (try k_sweep))))
  k_with "eval BinOp" => k_extra "fold"
  k_with "eval Call" => k_extra "fold"
  k_with "eval List" => k_extra "fold"
  k_with "eval Tuple" => k_extra "fold"
  k_with "eval Subscript" => k_extra "fold"
  k_with "eval Compare" => k_extra "fold"
  k_with "eval BoolOp" => k_extra "fold"
  k_with "mine call" => ((with_reducible show wpAny _ _ (call (Value.ref 116) _) _ _ _); refine Stop.mk ?_)
  k_steps
  unfold Stop
  rename News _ _ _ _ => N9
  rw [← List.append_nil (_ :: _), tz_cons, List.append_nil] at N9
  k_dflt (refine (sfeed_spec w Z ⟨at', state, out, errs, sv, closed, isret, last, buf, waiting, done, a1, a2, a3, a4, a5, a6, n1, n2, n3, n4⟩ hZ' tl _ hcl hg h1 h2).useAll (by k_asm) (by k_asm) (by k_asm) N9 (by k_asm) rfl (by (first | exact rm0 (by assumption) | exact rm1 (by assumption) (by decide) | k_extra "room" | ktr_room)) (by (first | k_extra "units" | ktr_units)) ?_)
  rintro r led' h' tk' F' N' St' Fr' ⟨rfl, vs, n1', rfl, hS⟩
  clear St' Fr'
  simp only [tzLed] at N'
  (try dsimp only)
  k_steps
  exact hret _ _ _ _ (by assumption) (by assumption) (by assumption) (by assumption) ⟨rfl, vs, n1', rfl, hS⟩
set_option maxHeartbeats 0 in
theorem tend_spec (w : World) (Z : Tz) (S : Ts) (hZ : Z.Ok) :
    Spec w 20 166 [.ref Z.t] (tzLed w Z S)
      (fun r led' => r = .none ∧ led' = tzLed w Z { S with closed := true, waiting := false }) := by
  w_top off
  have hZ' := hZ
  obtain ⟨at', state, out, errs, sv, closed, isret, last, buf, waiting, done, a1, a2, a3, a4, a5, a6, n1, n2, n3, n4⟩ := S
  dsimp only at *
  have z9 := hZ.2.2.2.2.2.2.2.2
  unfold Spec
  intro mg mb mean dp un gd cn cs a ccd cl outer A₀ base h₀ L m s Q E B F X N T hk hroom hun hret
  simp only [tzLed] at N
  refine wpAny_call ?_
  k_dflt (refine' enterH ?k1'9 ?k2'9 ?k3'9 ?k4'9 ?k5'9 ?kA'9 ?kF'9 ?kK'9 ?k6'9 ?k7'9 ?k8'9 ?k9'9 ?kB'9 ?_ ?c2'9 ?c3'9 ?c4'9 ?c5'9; (case kA'9 => exact rfl); (case kF'9 => exact rfl); (case kK'9 => assumption); (case k1'9 => k_asm); (case k2'9 => k_asm); (case k3'9 => k_asm); (case k4'9 => k_asm); (case k5'9 => k_asm); (case k6'9 => k_is); (case k7'9 => k_is); (case k8'9 => (first | exact rm0 (by assumption) | exact rm1 (by assumption) (by decide) | k_extra "room" | ktr_room)); (case k9'9 => first | exact BindsTo.of_eq rfl | exact binds_K (by k_in) rfl (by k_is) rfl rfl rfl | exact hbind9 _ (by k_in)); (case c5'9 => decide); (case kB'9 => exact locs rfl); (case c2'9 => exact rfl); (case c3'9 => exact rfl); (case c4'9 => exact rfl); k_whole; intro _ _ _ _ _ _ _ _ l1'9; (try k_lt l1'9); (try dsimp only); (with_reducible refine (?_ : wpAny _ _ _ _ _ _)); (try ((fail_if_success (fail_if_success k_fold)); refine fold_QE ?_; intro _ _)); (try (revert l1'9; intro _)))
  k_with_none
  k_with "room" => (first | exact rmS2 (by assumption) (by decide) | exact rmS3 (by assumption) (by decide) | exact rmS4 (by assumption) (by decide) | exact rm2 (by assumption) (by decide) | exact rm0 (by assumption) | exact rm1 (by assumption) (by decide) | (dsimp +zetaDelta only; ktr_room))
  k_with "units" => (first | exact cl3 (by assumption) (by decide) | exact um2 (by assumption) (by decide) | exact um1 (by assumption) (by decide) | (dsimp +zetaDelta only; ktr_units))
  k_with "is_list" => (exact News.isList (by k_asm) (by k_mem))
  k_with "st" => (first | ((fail_if_success (fail_if_success k_unfold)); refine (?_ : wpAny _ _ _ _ _ _)) | (k_unfold; (try dsimp only)) | (k_end; wrow_close) | walk1 | (dsimp only; walk1) | (leave1; walk_say "STEP leave1"; try dsimp only) | fail "no step")
  k_with "om" => (first | assumption | with_reducible rfl | decide | exact Nat.le_trans (by assumption) (by decide) | exact Nat.lt_of_le_of_lt (by assumption) (by decide) | ((repeat (with_reducible rename _ ∧ _ => om9; clear om9)); first | ((repeat (with_reducible rename _ ≠ _ => om9; clear om9)); (repeat (with_reducible rename @Eq Nat _ _ => om9; clear om9)); (repeat (with_reducible rename @Eq Int _ _ => om9; clear om9)); omega +splitNatSub) | omega +splitNatSub))
  k_with "fold" => ((fail_if_success (fail_if_success k_fold)); refine fold_QES ?_; intro _ _ _ _)
  k_with "kne" => (first | ((refine (?_ : @Ne Nat _ _)); first | assumption | exact Ne.symm (by assumption) | k_extra "ne") | (refine neN ?_; (try dsimp only); first | assumption | exact Ne.symm (by assumption) | k_extra "ne" | omega))
  k_with "tb" => (repeat (first | exact List.forall_mem_nil _ | refine List.forall_mem_cons.mpr ⟨rfl, ?_⟩))
  k_with "ne" => with_reducible (first | exact na0 (by assumption) | exact ns0 (by assumption) | exact na1 (by assumption) | exact ns1 (by assumption) | exact na2 (by assumption) | exact ns2 (by assumption) | exact na3 (by assumption) | exact ns3 (by assumption) | exact na4 (by assumption) | exact ns4 (by assumption) | exact na5 (by assumption) | exact ns5 (by assumption) | exact na6 (by assumption) | exact ns6 (by assumption) | exact na7 (by assumption) | exact ns7 (by assumption) | exact na8 (by assumption) | exact ns8 (by assumption) | exact na9 (by assumption) | exact ns9 (by assumption) | exact na10 (by assumption) | exact ns10 (by assumption) | exact na11 (by assumption) | exact ns11 (by assumption) | exact na12 (by assumption) | exact ns12 (by assumption) | exact na13 (by assumption) | exact ns13 (by assumption) | exact na14 (by assumption) | exact ns14 (by assumption) | exact na15 (by assumption) | exact ns15 (by assumption))
  k_with "ne" => with_reducible (first | (show Tz.sts _ ≠ _; first | exact zn01 (by assumption) | exact zn02 (by assumption) | exact zn03 (by assumption) | exact zn04 (by assumption) | exact zn05 (by assumption) | exact zn06 (by assumption) | exact zn07 (by assumption) | exact zn08 (by assumption)) | (show Tz.td _ ≠ _; first | exact zn10 (by assumption) | exact zn12 (by assumption) | exact zn13 (by assumption) | exact zn14 (by assumption) | exact zn15 (by assumption) | exact zn16 (by assumption) | exact zn17 (by assumption) | exact zn18 (by assumption)) | (show Tz.t _ ≠ _; first | exact zn20 (by assumption) | exact zn21 (by assumption) | exact zn23 (by assumption) | exact zn24 (by assumption) | exact zn25 (by assumption) | exact zn26 (by assumption) | exact zn27 (by assumption) | exact zn28 (by assumption)) | (show Tz.sd _ ≠ _; first | exact zn30 (by assumption) | exact zn31 (by assumption) | exact zn32 (by assumption) | exact zn34 (by assumption) | exact zn35 (by assumption) | exact zn36 (by assumption) | exact zn37 (by assumption) | exact zn38 (by assumption)) | (show Tz.st _ ≠ _; first | exact zn40 (by assumption) | exact zn41 (by assumption) | exact zn42 (by assumption) | exact zn43 (by assumption) | exact zn45 (by assumption) | exact zn46 (by assumption) | exact zn47 (by assumption) | exact zn48 (by assumption)) | (show Tz.sg _ ≠ _; first | exact zn50 (by assumption) | exact zn51 (by assumption) | exact zn52 (by assumption) | exact zn53 (by assumption) | exact zn54 (by assumption) | exact zn56 (by assumption) | exact zn57 (by assumption) | exact zn58 (by assumption)) | (show Tz.se _ ≠ _; first | exact zn60 (by assumption) | exact zn61 (by assumption) | exact zn62 (by assumption) | exact zn63 (by assumption) | exact zn64 (by assumption) | exact zn65 (by assumption) | exact zn67 (by assumption) | exact zn68 (by assumption)) | (show Tz.ou _ ≠ _; first | exact zn70 (by assumption) | exact zn71 (by assumption) | exact zn72 (by assumption) | exact zn73 (by assumption) | exact zn74 (by assumption) | exact zn75 (by assumption) | exact zn76 (by assumption) | exact zn78 (by assumption)) | (show Tz.er _ ≠ _; first | exact zn80 (by assumption) | exact zn81 (by assumption) | exact zn82 (by assumption) | exact zn83 (by assumption) | exact zn84 (by assumption) | exact zn85 (by assumption) | exact zn86 (by assumption) | exact zn87 (by assumption)))
  k_with "execs cons" => ((try ((fail_if_success (fail_if_success k_fold)); refine fold_QE ?_; intro _ _)); refine ex_consA ?_; intro _ _ _ _; (try (with_reducible rename News _ _ _ _ => kN'9; dsimp only at kN'9)); (try (with_reducible rename Fr _ _ _ _ => kF'9; refine f_let kF'9 ?_; clear kF'9; intro _ _)))
  k_with "LeaveH" => (refine' leaveH_ ?k1'9 ?k2'9 ?_; (case k1'9 => k_asm); (case k2'9 => k_asm); k_whole; intro _ _ _ _)
  k_with "pyIter ref" => ((with_reducible show wpAny _ _ (pyIter _) (fun it s₂ => LoopAtV _ _ _ _ _ _ _ _ _ it s₂) _ _); refine Stop.mk ?_)
  k_with "pyIter str" => ((with_reducible show wpAny _ _ (pyIter _) (fun it s₂ => LoopAtV _ _ _ _ _ _ _ _ _ it s₂) _ _); refine Stop.mk ?_)
  k_with "call ref" => (k_extra "mine call")
  k_with "call builtin:len" => (k_here; (with_reducible show wpAny _ _ (call (Value.builtin "len") [Value.ref _]) _ _ _); (with_unfolding_all refine' len_listN ?k1'9 ?k2'9 ?_; (case k1'9 => is_list); (case k2'9 => omega); k_whole))
  k_with "subscriptTail" => (k_here; (with_reducible show wpAny _ _ (subscriptTail _ _ (Value.ref _) (Value.int _ _)) _ _ _); (with_unfolding_all refine' sign_item ?k1'9 ?k2'9 ?k3'9 ?k4'9 ?k5'9 ?_; (case k1'9 => is_list); (case k2'9 => assumption); (case k3'9 => assumption); (case k4'9 => (push_cast; omega)); (case k5'9 => omega); k_whole); intro _)
  k_with "subscriptTail" => (k_here; (with_reducible show wpAny _ _ (subscriptTail _ _ (Value.str _ _) (Value.int _ _)) _ _ _); (with_unfolding_all refine' char_item ?k1'9 ?k2'9 ?k3'9 ?_; (case k1'9 => assumption); (case k2'9 => (push_cast; omega)); (case k3'9 => omega); k_whole))
  k_with "TurnL" => (refine TurnL.ret ?_; (try dsimp only))
  k_with "subscriptTail Name Name str int" => (k_here; (with_reducible show wpAny _ _ (subscriptTail _ _ (Value.str _ _) (Value.int _ _)) _ _ _); (with_unfolding_all refine' char_item ?k1'9 ?k2'9 ?k3'9 ?_; (case k1'9 => assumption); (case k2'9 => (push_cast; omega)); (case k3'9 => omega); k_whole))
  k_with "exec For Name Name cons nil" => (k_here; (rename Fr _ _ _ _ => lF'9); (with_unfolding_all refine' For_invVF lF'9 ?k1'9 ?k2'9 ?_; (case k1'9 => exact rfl); (case k2'9 => exact rfl); k_whole))
  k_with "call builtin:list.append" => (k_here; (with_reducible show wpAny _ _ (call (Value.builtin _) [Value.ref _, _]) _ _ _); k_dflt (refine' append_K ?k1'9 ?k2'9 ?k3'9 ?_ ?z'9; (case k1'9 => k_asm); (case k2'9 => k_asm); (case k3'9 => k_upd); (case z'9 => assumption); k_whole); intro _ _ _; (try k_sweep))
  k_with "call builtin:str.split" => (k_here; (with_reducible show wpAny _ _ (call (Value.builtin "str.split") _) _ _ _); (refine KSpl.split1 (by k_asm) (by k_asm) (by decide) ?_ (by assumption)); (intro _ _ _ _ e'9 a'9 _ _ l1'9); (try k_lt l1'9); rw [e'9] at a'9; (try (revert a'9; intro _)); (try (revert l1'9; intro _)); (try (revert e'9; intro _)))
  k_with "subscriptTail" => (k_here; (with_reducible show wpAny _ _ (subscriptTail _ _ (Value.ref _) (Value.int _ _)) _ _ _); (with_unfolding_all refine' strs_item ?k1'9 ?k2'9 ?k3'9 ?k4'9 ?k5'9 ?_; (case k1'9 => is_list); (case k2'9 => assumption); (case k3'9 => assumption); (case k4'9 => rfl); (case k5'9 => omega); k_whole); intro _)
  k_with "subscriptTail Call Attribute cons nil Name ref int" => (k_here; (with_reducible show wpAny _ _ (subscriptTail _ _ (Value.ref _) (Value.int _ _)) _ _ _); (with_unfolding_all refine' strs_item ?k1'9 ?k2'9 ?k3'9 ?k4'9 ?k5'9 ?_; (case k1'9 => is_list); (case k2'9 => assumption); (case k3'9 => assumption); (case k4'9 => rfl); (case k5'9 => omega); k_whole); intro _)
  k_with "getMethod ref" => (k_here; (with_reducible show wpAny _ _ (getMethod (Value.ref _) (PySem.Str.ofString "index") _) _ _ _); k_dflt (refine' names_method ?N'9 ?m'9 ?_; (case N'9 => k_asm); (case m'9 => k_mem)))
  k_with "call builtin:tuple.index" => (k_here; k_dflt (refine' names_index ?k'9 ?N'9 ?m'9 ?_; (case N'9 => k_asm); (case m'9 => k_mem); (case k'9 => omega)))
  k_with "subscriptTail Name BinOp ref int" => (k_here; (with_reducible show wpAny _ _ (subscriptTail _ _ (Value.ref _) (Value.int _ _)) _ _ _); (with_unfolding_all refine' names_item ?N'9 ?m'9 ?hj'9 ?h5'9 ?_; (case N'9 => k_asm); (case m'9 => k_mem); (case hj'9 => assumption); (case h5'9 => omega); k_whole); intro _)
  k_with "subscriptTail Name Slice str ref" => (k_here; ((with_unfolding_all refine' cut_tail ?F'9 ?N'9 ?sz'9 ?_); (case F'9 => k_asm); (case N'9 => k_asm); (case sz'9 => assumption); intro _ _ _ _ _; (try k_sweep)))
  k_with "subscriptTail Name Constant str int" => (k_here; (with_unfolding_all refine' head_item ?sz'9 ?_); (case sz'9 => assumption))
  k_with "setAttr ref" => (k_here; k_dflt (first | (refine' set_tz ?k1'9 ?k2'9 ?k3'9 ?k4'9 ?k5'9 ?k6'9 ?k7'9 ?k8'9 ?k9'9 ?k10'9 ?k11'9 ?k12'9 ?k13'9 ?_; (case k1'9 => k_asm); (case k2'9 => k_asm); (case k3'9 => k_asm); (case k4'9 => k_inst); (case k5'9 => exact rfl); (case k6'9 => k_is); (case k7'9 => k_is); (case k8'9 => k_is); (case k9'9 => k_is); (case k10'9 => k_get); (case k11'9 => k_put); (case k12'9 => k_upd); (case k13'9 => exact Nat.le_of_ble_eq_true rfl); k_whole; intro _ _ _; (try k_sweep)) | (refine' set_st ?k1'9 ?k2'9 ?k3'9 ?k4'9 ?k5'9 ?k6'9 ?k7'9 ?k8'9 ?k9'9 ?k10'9 ?k11'9 ?k12'9 ?k13'9 ?_; (case k1'9 => k_asm); (case k2'9 => k_asm); (case k3'9 => k_asm); (case k4'9 => k_inst); (case k5'9 => exact rfl); (case k6'9 => k_is); (case k7'9 => k_is); (case k8'9 => k_is); (case k9'9 => k_is); (case k10'9 => k_get); (case k11'9 => k_put); (case k12'9 => k_upd); (case k13'9 => exact Nat.le_of_ble_eq_true rfl); k_whole; intro _ _ _; (try k_sweep))))
  k_with "eval BinOp" => k_extra "fold"
  k_with "eval Call" => k_extra "fold"
  k_with "eval List" => k_extra "fold"
  k_with "eval Tuple" => k_extra "fold"
  k_with "eval Subscript" => k_extra "fold"
  k_with "eval Compare" => k_extra "fold"
  k_with "eval BoolOp" => k_extra "fold"
  k_steps
  exact hret _ _ _ _ (by assumption) (by assumption) (by assumption) (by assumption) ⟨rfl, rfl⟩
noncomputable def cutL (l : List Nat) (a n : Nat) : List Nat := (l.drop a).take n
/-- what the law's looks answers -/
noncomputable def llF (tl : List Nat) (closed : Bool) (wl : List Nat) (a : Nat) : Int :=
  if cutL tl a wl.length = wl then 1 else if closed = true ∨ wl.take (cutL tl a wl.length).length ≠ cutL tl a wl.length then 0 else -1
theorem look_ll (sl : List Nat) (closed : Bool) : ∀ (wl : List Nat) (a : Nat), lookF sl closed false wl a = llF sl closed wl a := by
  intro wl
  induction wl with
  | nil => intro a; simp [lookF, llF, cutL]
  | cons c r ih =>
    intro a
    rw [lookF]
    cases hq : sl[a]? with
    | none =>
      have hd : sl.drop a = [] := List.drop_eq_nil_iff.mpr (List.getElem?_eq_none_iff.mp hq)
      cases closed <;> simp [llF, cutL, hd]
    | some d =>
      obtain ⟨hlt, hd⟩ := List.getElem?_eq_some_iff.mp hq
      have hdr : sl.drop a = d :: sl.drop (a + 1) := by rw [← hd]; exact List.drop_eq_getElem_cons hlt
      have hc : cutL sl a (c :: r).length = d :: cutL sl (a + 1) r.length := by simp [cutL, hdr]
      dsimp only
      simp only [fo, Bool.false_eq_true, if_false]
      by_cases hdc : d = c
      · subst hdc
        rw [if_pos rfl, ih]
        unfold llF
        rw [hc]
        simp
      · rw [if_neg hdc]
        unfold llF
        rw [hc]
        simp [hdc, Ne.symm hdc, eq_comm]
theorem look_fold (sl : List Nat) (closed : Bool) : ∀ (wl : List Nat) (a : Nat), lookF sl closed true wl a = lookF (sl.map lowC) closed false wl a := by
  intro wl
  induction wl with
  | nil => intro a; rfl
  | cons c r ih =>
    intro a
    rw [lookF, lookF, List.getElem?_map]
    cases sl[a]? with
    | none => rfl
    | some d =>
      simp only [Option.map_some, fo, Bool.false_eq_true, if_false, if_true, ih]
theorem str_eqL (a b : List Nat) : ((⟨a.toArray⟩ : Str) == ⟨b.toArray⟩) = decide (a = b) := by
  by_cases h : a = b
  · subst h; simp
  · rw [decide_eq_false h]
    refine beq_eq_false_iff_ne.mpr fun e => h ?_
    injection e with e
    have := congrArg Array.toList e
    simpa using this
theorem str_neL (a b : List Nat) : ((⟨a.toArray⟩ : Str) != ⟨b.toArray⟩) = !decide (a = b) := by rw [bne, str_eqL]
theorem cut_at {prog : Program} {w : World} {A : Around} {E : Value → Shared → Prop} {s : Shared} {Q : Value → Shared → Prop} {h₀ : Heap} {L : Addr} {m : Str → Option Value} {news : Led} {value slice : PySem.Expr} {t : Tok} {i j : Int} {ui uj : Tok} {l : List Nat} {a n : Nat} (hF : Fr h₀ L s.heap m) (hN : News h₀ L s.heap news) (hi : i = (a : Int)) (hj : j = ((a + n : Nat) : Int)) (hsz : l.length ≤ 100000) (h : ∀ h' t' k, Fr h₀ L h' m → News h₀ L h' news → Q (.str ⟨(cutL l a n).toArray⟩ t') { s with heap := h', toks := k })
    (hs : subscripted slice false (.str ⟨l.toArray⟩ t) (.ref s.heap.objs.size) = operate [.ref s.heap.objs.size, .str ⟨l.toArray⟩ t] (getItem (.str ⟨l.toArray⟩ t) (.ref s.heap.objs.size)) := by with_unfolding_all rfl)
    (ht : ∀ r, letTemporaryGo value (.str ⟨l.toArray⟩ t) r = pure () := by intro _; with_unfolding_all rfl) :
    wpAny (model prog w) A (subscriptTail value slice (.str ⟨l.toArray⟩ t) (.ref s.heap.objs.size)) Q E { s with heap := s.heap.push { cls := .type "slice", data := .fields #[.int i ui, .int j uj, .none] } } := by
  refine cut_nn hF hN hi hj hsz (fun h' t' k F' N' => ?_) hs ht
  rw [Nat.add_sub_cancel_left]; exact h h' t' k F' N'
theorem cut_tol {prog : Program} {w : World} {A : Around} {E : Value → Shared → Prop} {s : Shared} {Q : Value → Shared → Prop} {h₀ : Heap} {L : Addr} {m : Str → Option Value} {news : Led} {value slice : PySem.Expr} {t : Tok} {uj : Tok} {l c : List Nat} (hF : Fr h₀ L s.heap m) (hN : News h₀ L s.heap news) (hsz : l.length ≤ 100000) (h : ∀ h' t' k, Fr h₀ L h' m → News h₀ L h' news → Q (.str ⟨(l.take c.length).toArray⟩ t') { s with heap := h', toks := k })
    (hs : subscripted slice false (.str ⟨l.toArray⟩ t) (.ref s.heap.objs.size) = operate [.ref s.heap.objs.size, .str ⟨l.toArray⟩ t] (getItem (.str ⟨l.toArray⟩ t) (.ref s.heap.objs.size)) := by with_unfolding_all rfl)
    (ht : ∀ r, letTemporaryGo value (.str ⟨l.toArray⟩ t) r = pure () := by intro _; with_unfolding_all rfl) :
    wpAny (model prog w) A (subscriptTail value slice (.str ⟨l.toArray⟩ t) (.ref s.heap.objs.size)) Q E { s with heap := s.heap.push { cls := .type "slice", data := .fields #[.none, .int ((⟨c.toArray⟩ : Str).length : Int) uj, .none] } } :=
  cut_to hF hN (by rw [len_tx]) hsz h hs ht
set_option maxHeartbeats 0 in
theorem llooks_spec (w : World) (tl : List Nat) (t1 : Tok) (pa : Nat) (t2 : Tok) (wl : List Nat) (t3 : Tok) (closed : Bool) (ht : tl.length ≤ 100000) (hw : wl.length ≤ 100000) (ha : pa ≤ 100000) :
    Spec w 5 350 [.str ⟨tl.toArray⟩ t1, .int (pa : Nat) t2, .str ⟨wl.toArray⟩ t3, .bool closed] [] (fun r led' => led' = [] ∧ ∃ tk, r = .int (llF tl closed wl pa) tk) := by
  w_top off
  have hend : ((pa : Int) + ((⟨wl.toArray⟩ : Str).length : Int)) = ((pa + wl.length : Nat) : Int) := by rw [len_tx]; push_cast; rfl
  unfold llF
  have hwl2 : (⟨wl.toArray⟩ : Str).length ≤ 100000 := by rw [len_tx]; exact hw
  unfold Spec
  intro mg mb mean dp un gd cn cs a ccd cl outer A₀ base h₀ L m s Q E B F X N T hk hroom hun hret
  refine wpAny_call ?_
  k_dflt (refine' enterH ?k1'9 ?k2'9 ?k3'9 ?k4'9 ?k5'9 ?kA'9 ?kF'9 ?kK'9 ?k6'9 ?k7'9 ?k8'9 ?k9'9 ?kB'9 ?_ ?c2'9 ?c3'9 ?c4'9 ?c5'9; (case kA'9 => exact rfl); (case kF'9 => exact rfl); (case kK'9 => assumption); (case k1'9 => k_asm); (case k2'9 => k_asm); (case k3'9 => k_asm); (case k4'9 => k_asm); (case k5'9 => k_asm); (case k6'9 => k_is); (case k7'9 => k_is); (case k8'9 => (first | exact rm0 (by assumption) | exact rm1 (by assumption) (by decide) | k_extra "room" | ktr_room)); (case k9'9 => first | exact BindsTo.of_eq rfl | exact binds_K (by k_in) rfl (by k_is) rfl rfl rfl | exact hbind9 _ (by k_in)); (case c5'9 => decide); (case kB'9 => exact locs rfl); (case c2'9 => exact rfl); (case c3'9 => exact rfl); (case c4'9 => exact rfl); k_whole; intro _ _ _ _ _ _ _ _ l1'9; (try k_lt l1'9); (try dsimp only); (with_reducible refine (?_ : wpAny _ _ _ _ _ _)); (try ((fail_if_success (fail_if_success k_fold)); refine fold_QE ?_; intro _ _)); (try (revert l1'9; intro _)))
  k_with_none
  k_with "room" => (first | exact rmS2 (by assumption) (by decide) | exact rmS3 (by assumption) (by decide) | exact rmS4 (by assumption) (by decide) | exact rm2 (by assumption) (by decide) | exact rm0 (by assumption) | exact rm1 (by assumption) (by decide) | (dsimp +zetaDelta only; ktr_room))
  k_with "units" => (first | exact cl3 (by assumption) (by decide) | exact um2 (by assumption) (by decide) | exact um1 (by assumption) (by decide) | (dsimp +zetaDelta only; ktr_units))
  k_with "is_list" => (exact News.isList (by k_asm) (by k_mem))
  k_with "st" => (first | ((fail_if_success (fail_if_success k_unfold)); refine (?_ : wpAny _ _ _ _ _ _)) | (k_unfold; (try dsimp only)) | (k_end; wrow_close) | walk1 | (dsimp only; walk1) | (leave1; walk_say "STEP leave1"; try dsimp only) | fail "no step")
  k_with "om" => (first | assumption | with_reducible rfl | decide | exact Nat.le_trans (by assumption) (by decide) | exact Nat.lt_of_le_of_lt (by assumption) (by decide) | ((repeat (with_reducible rename _ ∧ _ => om9; clear om9)); first | ((repeat (with_reducible rename _ ≠ _ => om9; clear om9)); (repeat (with_reducible rename @Eq Nat _ _ => om9; clear om9)); (repeat (with_reducible rename @Eq Int _ _ => om9; clear om9)); omega +splitNatSub) | omega +splitNatSub))
  k_with "fold" => ((fail_if_success (fail_if_success k_fold)); refine fold_QES ?_; intro _ _ _ _)
  k_with "kne" => (first | ((refine (?_ : @Ne Nat _ _)); first | assumption | exact Ne.symm (by assumption) | k_extra "ne") | (refine neN ?_; (try dsimp only); first | assumption | exact Ne.symm (by assumption) | k_extra "ne" | omega))
  k_with "tb" => (repeat (first | exact List.forall_mem_nil _ | refine List.forall_mem_cons.mpr ⟨rfl, ?_⟩))
  k_with "ne" => with_reducible (first | exact na0 (by assumption) | exact ns0 (by assumption) | exact na1 (by assumption) | exact ns1 (by assumption) | exact na2 (by assumption) | exact ns2 (by assumption) | exact na3 (by assumption) | exact ns3 (by assumption) | exact na4 (by assumption) | exact ns4 (by assumption) | exact na5 (by assumption) | exact ns5 (by assumption) | exact na6 (by assumption) | exact ns6 (by assumption) | exact na7 (by assumption) | exact ns7 (by assumption) | exact na8 (by assumption) | exact ns8 (by assumption) | exact na9 (by assumption) | exact ns9 (by assumption) | exact na10 (by assumption) | exact ns10 (by assumption) | exact na11 (by assumption) | exact ns11 (by assumption) | exact na12 (by assumption) | exact ns12 (by assumption) | exact na13 (by assumption) | exact ns13 (by assumption) | exact na14 (by assumption) | exact ns14 (by assumption) | exact na15 (by assumption) | exact ns15 (by assumption))
  k_with "ne" => with_reducible (first | (show Tz.sts _ ≠ _; first | exact zn01 (by assumption) | exact zn02 (by assumption) | exact zn03 (by assumption) | exact zn04 (by assumption) | exact zn05 (by assumption) | exact zn06 (by assumption) | exact zn07 (by assumption) | exact zn08 (by assumption)) | (show Tz.td _ ≠ _; first | exact zn10 (by assumption) | exact zn12 (by assumption) | exact zn13 (by assumption) | exact zn14 (by assumption) | exact zn15 (by assumption) | exact zn16 (by assumption) | exact zn17 (by assumption) | exact zn18 (by assumption)) | (show Tz.t _ ≠ _; first | exact zn20 (by assumption) | exact zn21 (by assumption) | exact zn23 (by assumption) | exact zn24 (by assumption) | exact zn25 (by assumption) | exact zn26 (by assumption) | exact zn27 (by assumption) | exact zn28 (by assumption)) | (show Tz.sd _ ≠ _; first | exact zn30 (by assumption) | exact zn31 (by assumption) | exact zn32 (by assumption) | exact zn34 (by assumption) | exact zn35 (by assumption) | exact zn36 (by assumption) | exact zn37 (by assumption) | exact zn38 (by assumption)) | (show Tz.st _ ≠ _; first | exact zn40 (by assumption) | exact zn41 (by assumption) | exact zn42 (by assumption) | exact zn43 (by assumption) | exact zn45 (by assumption) | exact zn46 (by assumption) | exact zn47 (by assumption) | exact zn48 (by assumption)) | (show Tz.sg _ ≠ _; first | exact zn50 (by assumption) | exact zn51 (by assumption) | exact zn52 (by assumption) | exact zn53 (by assumption) | exact zn54 (by assumption) | exact zn56 (by assumption) | exact zn57 (by assumption) | exact zn58 (by assumption)) | (show Tz.se _ ≠ _; first | exact zn60 (by assumption) | exact zn61 (by assumption) | exact zn62 (by assumption) | exact zn63 (by assumption) | exact zn64 (by assumption) | exact zn65 (by assumption) | exact zn67 (by assumption) | exact zn68 (by assumption)) | (show Tz.ou _ ≠ _; first | exact zn70 (by assumption) | exact zn71 (by assumption) | exact zn72 (by assumption) | exact zn73 (by assumption) | exact zn74 (by assumption) | exact zn75 (by assumption) | exact zn76 (by assumption) | exact zn78 (by assumption)) | (show Tz.er _ ≠ _; first | exact zn80 (by assumption) | exact zn81 (by assumption) | exact zn82 (by assumption) | exact zn83 (by assumption) | exact zn84 (by assumption) | exact zn85 (by assumption) | exact zn86 (by assumption) | exact zn87 (by assumption)))
  k_with "execs cons" => ((try ((fail_if_success (fail_if_success k_fold)); refine fold_QE ?_; intro _ _)); refine ex_consA ?_; intro _ _ _ _; (try (with_reducible rename News _ _ _ _ => kN'9; dsimp only at kN'9)); (try (with_reducible rename Fr _ _ _ _ => kF'9; refine f_let kF'9 ?_; clear kF'9; intro _ _)))
  k_with "LeaveH" => (refine' leaveH_ ?k1'9 ?k2'9 ?_; (case k1'9 => k_asm); (case k2'9 => k_asm); k_whole; intro _ _ _ _)
  k_with "pyIter ref" => ((with_reducible show wpAny _ _ (pyIter _) (fun it s₂ => LoopAtV _ _ _ _ _ _ _ _ _ it s₂) _ _); refine Stop.mk ?_)
  k_with "pyIter str" => ((with_reducible show wpAny _ _ (pyIter _) (fun it s₂ => LoopAtV _ _ _ _ _ _ _ _ _ it s₂) _ _); refine Stop.mk ?_)
  k_with "call ref" => (k_extra "mine call")
  k_with "call builtin:len" => (k_here; (with_reducible show wpAny _ _ (call (Value.builtin "len") [Value.ref _]) _ _ _); (with_unfolding_all refine' len_listN ?k1'9 ?k2'9 ?_; (case k1'9 => is_list); (case k2'9 => omega); k_whole))
  k_with "subscriptTail" => (k_here; (with_reducible show wpAny _ _ (subscriptTail _ _ (Value.ref _) (Value.int _ _)) _ _ _); (with_unfolding_all refine' sign_item ?k1'9 ?k2'9 ?k3'9 ?k4'9 ?k5'9 ?_; (case k1'9 => is_list); (case k2'9 => assumption); (case k3'9 => assumption); (case k4'9 => (push_cast; omega)); (case k5'9 => omega); k_whole); intro _)
  k_with "subscriptTail" => (k_here; (with_reducible show wpAny _ _ (subscriptTail _ _ (Value.str _ _) (Value.int _ _)) _ _ _); (with_unfolding_all refine' char_item ?k1'9 ?k2'9 ?k3'9 ?_; (case k1'9 => assumption); (case k2'9 => (push_cast; omega)); (case k3'9 => omega); k_whole))
  k_with "TurnL" => (refine TurnL.ret ?_; (try dsimp only))
  k_with "subscriptTail Name Name str int" => (k_here; (with_reducible show wpAny _ _ (subscriptTail _ _ (Value.str _ _) (Value.int _ _)) _ _ _); (with_unfolding_all refine' char_item ?k1'9 ?k2'9 ?k3'9 ?_; (case k1'9 => assumption); (case k2'9 => (push_cast; omega)); (case k3'9 => omega); k_whole))
  k_with "exec For Name Name cons nil" => (k_here; (rename Fr _ _ _ _ => lF'9); (with_unfolding_all refine' For_invVF lF'9 ?k1'9 ?k2'9 ?_; (case k1'9 => exact rfl); (case k2'9 => exact rfl); k_whole))
  k_with "call builtin:list.append" => (k_here; (with_reducible show wpAny _ _ (call (Value.builtin _) [Value.ref _, _]) _ _ _); k_dflt (refine' append_K ?k1'9 ?k2'9 ?k3'9 ?_ ?z'9; (case k1'9 => k_asm); (case k2'9 => k_asm); (case k3'9 => k_upd); (case z'9 => assumption); k_whole); intro _ _ _; (try k_sweep))
  k_with "subscriptTail Name Slice str ref" => (k_here; ((with_unfolding_all refine' cut_tail ?F'9 ?N'9 ?sz'9 ?_); (case F'9 => k_asm); (case N'9 => k_asm); (case sz'9 => assumption); intro _ _ _ _ _; (try k_sweep)))
  k_with "subscriptTail Name Constant str int" => (k_here; (with_unfolding_all refine' head_item ?sz'9 ?_); (case sz'9 => assumption))
  k_with "setAttr ref" => (k_here; k_dflt (first | (refine' set_tz ?k1'9 ?k2'9 ?k3'9 ?k4'9 ?k5'9 ?k6'9 ?k7'9 ?k8'9 ?k9'9 ?k10'9 ?k11'9 ?k12'9 ?k13'9 ?_; (case k1'9 => k_asm); (case k2'9 => k_asm); (case k3'9 => k_asm); (case k4'9 => k_inst); (case k5'9 => exact rfl); (case k6'9 => k_is); (case k7'9 => k_is); (case k8'9 => k_is); (case k9'9 => k_is); (case k10'9 => k_get); (case k11'9 => k_put); (case k12'9 => k_upd); (case k13'9 => exact Nat.le_of_ble_eq_true rfl); k_whole; intro _ _ _; (try k_sweep)) | (refine' set_st ?k1'9 ?k2'9 ?k3'9 ?k4'9 ?k5'9 ?k6'9 ?k7'9 ?k8'9 ?k9'9 ?k10'9 ?k11'9 ?k12'9 ?k13'9 ?_; (case k1'9 => k_asm); (case k2'9 => k_asm); (case k3'9 => k_asm); (case k4'9 => k_inst); (case k5'9 => exact rfl); (case k6'9 => k_is); (case k7'9 => k_is); (case k8'9 => k_is); (case k9'9 => k_is); (case k10'9 => k_get); (case k11'9 => k_put); (case k12'9 => k_upd); (case k13'9 => exact Nat.le_of_ble_eq_true rfl); k_whole; intro _ _ _; (try k_sweep))))
  k_with "eval BinOp" => k_extra "fold"
  k_with "eval Call" => k_extra "fold"
  k_with "eval List" => k_extra "fold"
  k_with "eval Tuple" => k_extra "fold"
  k_with "eval Subscript" => k_extra "fold"
  k_with "eval Compare" => k_extra "fold"
  k_with "eval BoolOp" => k_extra "fold"
  k_with "subscriptTail Name Slice str ref" => (k_here; (refine' cut_at ?F'9 ?N'9 ?i'9 ?j'9 ?sz'9 ?_); (case F'9 => k_asm); (case N'9 => k_asm); (case i'9 => rfl); (case j'9 => assumption); (case sz'9 => assumption); intro _ _ _ _ _; (try k_sweep))
  k_with "subscriptTail Name Slice str ref" => (k_here; (refine' cut_tol ?F'9 ?N'9 ?sz'9 ?_); (case F'9 => k_asm); (case N'9 => k_asm); (case sz'9 => assumption); intro _ _ _ _ _; (try k_sweep))
  k_with "compareOp Eq str str" => (refine Stop.mk ?_)
  k_steps
  unfold Stop
  rename Fr _ _ _ _ => F8
  (try dsimp +zetaDelta only at F8)
  generalize hC : cutL tl pa wl.length = C at *
  k_with_none
  k_with "room" => (first | exact rmS2 (by assumption) (by decide) | exact rmS3 (by assumption) (by decide) | exact rmS4 (by assumption) (by decide) | exact rm2 (by assumption) (by decide) | exact rm0 (by assumption) | exact rm1 (by assumption) (by decide) | (dsimp +zetaDelta only; ktr_room))
  k_with "units" => (first | exact cl3 (by assumption) (by decide) | exact um2 (by assumption) (by decide) | exact um1 (by assumption) (by decide) | (dsimp +zetaDelta only; ktr_units))
  k_with "is_list" => (exact News.isList (by k_asm) (by k_mem))
  k_with "st" => (first | ((fail_if_success (fail_if_success k_unfold)); refine (?_ : wpAny _ _ _ _ _ _)) | (k_unfold; (try dsimp only)) | (k_end; wrow_close) | walk1 | (dsimp only; walk1) | (leave1; walk_say "STEP leave1"; try dsimp only) | fail "no step")
  k_with "om" => (first | assumption | with_reducible rfl | decide | exact Nat.le_trans (by assumption) (by decide) | exact Nat.lt_of_le_of_lt (by assumption) (by decide) | ((repeat (with_reducible rename _ ∧ _ => om9; clear om9)); first | ((repeat (with_reducible rename _ ≠ _ => om9; clear om9)); (repeat (with_reducible rename @Eq Nat _ _ => om9; clear om9)); (repeat (with_reducible rename @Eq Int _ _ => om9; clear om9)); omega +splitNatSub) | omega +splitNatSub))
  k_with "fold" => ((fail_if_success (fail_if_success k_fold)); refine fold_QES ?_; intro _ _ _ _)
  k_with "kne" => (first | ((refine (?_ : @Ne Nat _ _)); first | assumption | exact Ne.symm (by assumption) | k_extra "ne") | (refine neN ?_; (try dsimp only); first | assumption | exact Ne.symm (by assumption) | k_extra "ne" | omega))
  k_with "tb" => (repeat (first | exact List.forall_mem_nil _ | refine List.forall_mem_cons.mpr ⟨rfl, ?_⟩))
  k_with "ne" => with_reducible (first | exact na0 (by assumption) | exact ns0 (by assumption) | exact na1 (by assumption) | exact ns1 (by assumption) | exact na2 (by assumption) | exact ns2 (by assumption) | exact na3 (by assumption) | exact ns3 (by assumption) | exact na4 (by assumption) | exact ns4 (by assumption) | exact na5 (by assumption) | exact ns5 (by assumption) | exact na6 (by assumption) | exact ns6 (by assumption) | exact na7 (by assumption) | exact ns7 (by assumption) | exact na8 (by assumption) | exact ns8 (by assumption) | exact na9 (by assumption) | exact ns9 (by assumption) | exact na10 (by assumption) | exact ns10 (by assumption) | exact na11 (by assumption) | exact ns11 (by assumption) | exact na12 (by assumption) | exact ns12 (by assumption) | exact na13 (by assumption) | exact ns13 (by assumption) | exact na14 (by assumption) | exact ns14 (by assumption) | exact na15 (by assumption) | exact ns15 (by assumption))
  k_with "ne" => with_reducible (first | (show Tz.sts _ ≠ _; first | exact zn01 (by assumption) | exact zn02 (by assumption) | exact zn03 (by assumption) | exact zn04 (by assumption) | exact zn05 (by assumption) | exact zn06 (by assumption) | exact zn07 (by assumption) | exact zn08 (by assumption)) | (show Tz.td _ ≠ _; first | exact zn10 (by assumption) | exact zn12 (by assumption) | exact zn13 (by assumption) | exact zn14 (by assumption) | exact zn15 (by assumption) | exact zn16 (by assumption) | exact zn17 (by assumption) | exact zn18 (by assumption)) | (show Tz.t _ ≠ _; first | exact zn20 (by assumption) | exact zn21 (by assumption) | exact zn23 (by assumption) | exact zn24 (by assumption) | exact zn25 (by assumption) | exact zn26 (by assumption) | exact zn27 (by assumption) | exact zn28 (by assumption)) | (show Tz.sd _ ≠ _; first | exact zn30 (by assumption) | exact zn31 (by assumption) | exact zn32 (by assumption) | exact zn34 (by assumption) | exact zn35 (by assumption) | exact zn36 (by assumption) | exact zn37 (by assumption) | exact zn38 (by assumption)) | (show Tz.st _ ≠ _; first | exact zn40 (by assumption) | exact zn41 (by assumption) | exact zn42 (by assumption) | exact zn43 (by assumption) | exact zn45 (by assumption) | exact zn46 (by assumption) | exact zn47 (by assumption) | exact zn48 (by assumption)) | (show Tz.sg _ ≠ _; first | exact zn50 (by assumption) | exact zn51 (by assumption) | exact zn52 (by assumption) | exact zn53 (by assumption) | exact zn54 (by assumption) | exact zn56 (by assumption) | exact zn57 (by assumption) | exact zn58 (by assumption)) | (show Tz.se _ ≠ _; first | exact zn60 (by assumption) | exact zn61 (by assumption) | exact zn62 (by assumption) | exact zn63 (by assumption) | exact zn64 (by assumption) | exact zn65 (by assumption) | exact zn67 (by assumption) | exact zn68 (by assumption)) | (show Tz.ou _ ≠ _; first | exact zn70 (by assumption) | exact zn71 (by assumption) | exact zn72 (by assumption) | exact zn73 (by assumption) | exact zn74 (by assumption) | exact zn75 (by assumption) | exact zn76 (by assumption) | exact zn78 (by assumption)) | (show Tz.er _ ≠ _; first | exact zn80 (by assumption) | exact zn81 (by assumption) | exact zn82 (by assumption) | exact zn83 (by assumption) | exact zn84 (by assumption) | exact zn85 (by assumption) | exact zn86 (by assumption) | exact zn87 (by assumption)))
  k_with "execs cons" => ((try ((fail_if_success (fail_if_success k_fold)); refine fold_QE ?_; intro _ _)); refine ex_consA ?_; intro _ _ _ _; (try (with_reducible rename News _ _ _ _ => kN'9; dsimp only at kN'9)); (try (with_reducible rename Fr _ _ _ _ => kF'9; refine f_let kF'9 ?_; clear kF'9; intro _ _)))
  k_with "LeaveH" => (refine' leaveH_ ?k1'9 ?k2'9 ?_; (case k1'9 => k_asm); (case k2'9 => k_asm); k_whole; intro _ _ _ _)
  k_with "pyIter ref" => ((with_reducible show wpAny _ _ (pyIter _) (fun it s₂ => LoopAtV _ _ _ _ _ _ _ _ _ it s₂) _ _); refine Stop.mk ?_)
  k_with "pyIter str" => ((with_reducible show wpAny _ _ (pyIter _) (fun it s₂ => LoopAtV _ _ _ _ _ _ _ _ _ it s₂) _ _); refine Stop.mk ?_)
  k_with "call ref" => (k_extra "mine call")
  k_with "call builtin:len" => (k_here; (with_reducible show wpAny _ _ (call (Value.builtin "len") [Value.ref _]) _ _ _); (with_unfolding_all refine' len_listN ?k1'9 ?k2'9 ?_; (case k1'9 => is_list); (case k2'9 => omega); k_whole))
  k_with "subscriptTail" => (k_here; (with_reducible show wpAny _ _ (subscriptTail _ _ (Value.ref _) (Value.int _ _)) _ _ _); (with_unfolding_all refine' sign_item ?k1'9 ?k2'9 ?k3'9 ?k4'9 ?k5'9 ?_; (case k1'9 => is_list); (case k2'9 => assumption); (case k3'9 => assumption); (case k4'9 => (push_cast; omega)); (case k5'9 => omega); k_whole); intro _)
  k_with "subscriptTail" => (k_here; (with_reducible show wpAny _ _ (subscriptTail _ _ (Value.str _ _) (Value.int _ _)) _ _ _); (with_unfolding_all refine' char_item ?k1'9 ?k2'9 ?k3'9 ?_; (case k1'9 => assumption); (case k2'9 => (push_cast; omega)); (case k3'9 => omega); k_whole))
  k_with "TurnL" => (refine TurnL.ret ?_; (try dsimp only))
  k_with "subscriptTail Name Name str int" => (k_here; (with_reducible show wpAny _ _ (subscriptTail _ _ (Value.str _ _) (Value.int _ _)) _ _ _); (with_unfolding_all refine' char_item ?k1'9 ?k2'9 ?k3'9 ?_; (case k1'9 => assumption); (case k2'9 => (push_cast; omega)); (case k3'9 => omega); k_whole))
  k_with "exec For Name Name cons nil" => (k_here; (rename Fr _ _ _ _ => lF'9); (with_unfolding_all refine' For_invVF lF'9 ?k1'9 ?k2'9 ?_; (case k1'9 => exact rfl); (case k2'9 => exact rfl); k_whole))
  k_with "call builtin:list.append" => (k_here; (with_reducible show wpAny _ _ (call (Value.builtin _) [Value.ref _, _]) _ _ _); k_dflt (refine' append_K ?k1'9 ?k2'9 ?k3'9 ?_ ?z'9; (case k1'9 => k_asm); (case k2'9 => k_asm); (case k3'9 => k_upd); (case z'9 => assumption); k_whole); intro _ _ _; (try k_sweep))
  k_with "subscriptTail Name Slice str ref" => (k_here; ((with_unfolding_all refine' cut_tail ?F'9 ?N'9 ?sz'9 ?_); (case F'9 => k_asm); (case N'9 => k_asm); (case sz'9 => assumption); intro _ _ _ _ _; (try k_sweep)))
  k_with "subscriptTail Name Constant str int" => (k_here; (with_unfolding_all refine' head_item ?sz'9 ?_); (case sz'9 => assumption))
  k_with "setAttr ref" => (k_here; k_dflt (first | (refine' set_tz ?k1'9 ?k2'9 ?k3'9 ?k4'9 ?k5'9 ?k6'9 ?k7'9 ?k8'9 ?k9'9 ?k10'9 ?k11'9 ?k12'9 ?k13'9 ?_; (case k1'9 => k_asm); (case k2'9 => k_asm); (case k3'9 => k_asm); (case k4'9 => k_inst); (case k5'9 => exact rfl); (case k6'9 => k_is); (case k7'9 => k_is); (case k8'9 => k_is); (case k9'9 => k_is); (case k10'9 => k_get); (case k11'9 => k_put); (case k12'9 => k_upd); (case k13'9 => exact Nat.le_of_ble_eq_true rfl); k_whole; intro _ _ _; (try k_sweep)) | (refine' set_st ?k1'9 ?k2'9 ?k3'9 ?k4'9 ?k5'9 ?k6'9 ?k7'9 ?k8'9 ?k9'9 ?k10'9 ?k11'9 ?k12'9 ?k13'9 ?_; (case k1'9 => k_asm); (case k2'9 => k_asm); (case k3'9 => k_asm); (case k4'9 => k_inst); (case k5'9 => exact rfl); (case k6'9 => k_is); (case k7'9 => k_is); (case k8'9 => k_is); (case k9'9 => k_is); (case k10'9 => k_get); (case k11'9 => k_put); (case k12'9 => k_upd); (case k13'9 => exact Nat.le_of_ble_eq_true rfl); k_whole; intro _ _ _; (try k_sweep))))
  k_with "eval BinOp" => k_extra "fold"
  k_with "eval Call" => k_extra "fold"
  k_with "eval List" => k_extra "fold"
  k_with "eval Tuple" => k_extra "fold"
  k_with "eval Subscript" => k_extra "fold"
  k_with "eval Compare" => k_extra "fold"
  k_with "eval BoolOp" => k_extra "fold"
  k_with "subscriptTail Name Slice str ref" => (k_here; (refine' cut_at ?F'9 ?N'9 ?i'9 ?j'9 ?sz'9 ?_); (case F'9 => k_asm); (case N'9 => k_asm); (case i'9 => rfl); (case j'9 => assumption); (case sz'9 => assumption); intro _ _ _ _ _; (try k_sweep))
  k_with "subscriptTail Name Slice str ref" => (k_here; (refine' cut_tol ?F'9 ?N'9 ?sz'9 ?_); (case F'9 => k_asm); (case N'9 => k_asm); (case sz'9 => assumption); intro _ _ _ _ _; (try k_sweep))
  have hcl : C.length ≤ 100000 := by rw [← hC]; unfold cutL; simp; omega
  have hcl2 : (⟨C.toArray⟩ : Str).length ≤ 100000 := by rw [len_tx]; exact hcl
  by_cases h1 : C = wl
  · have e1 : ((⟨C.toArray⟩ : Str) == ⟨wl.toArray⟩) = true := by rw [str_eqL, decide_eq_true h1]
    rw [if_pos h1] at hret
    k_steps
    rename Stands _ _ _ => hS9
    exact hret _ [] _ _ (by assumption) (fun _ hp => nomatch hp) hS9 (fun _ hp => nomatch hp) ⟨rfl, _, rfl⟩
  · have e1 : ((⟨C.toArray⟩ : Str) == ⟨wl.toArray⟩) = false := by rw [str_eqL, decide_eq_false h1]
    rw [if_neg h1] at hret
    cases closed
    · by_cases h2 : wl.take C.length = C
      · have e2 : ((⟨(wl.take C.length).toArray⟩ : Str) != ⟨C.toArray⟩) = false := by rw [str_neL, decide_eq_true h2]; rfl
        rw [if_neg (by simp [h2])] at hret
        k_steps
        rename Stands _ _ _ => hS9
        exact hret _ [] _ _ (by assumption) (fun _ hp => nomatch hp) hS9 (fun _ hp => nomatch hp) ⟨rfl, _, rfl⟩
      · have e2 : ((⟨(wl.take C.length).toArray⟩ : Str) != ⟨C.toArray⟩) = true := by rw [str_neL, decide_eq_false h2]; rfl
        rw [if_pos (Or.inr h2)] at hret
        k_steps
        rename Stands _ _ _ => hS9
        exact hret _ [] _ _ (by assumption) (fun _ hp => nomatch hp) hS9 (fun _ hp => nomatch hp) ⟨rfl, _, rfl⟩
    · rw [if_pos (Or.inl rfl)] at hret
      k_steps
      rename Stands _ _ _ => hS9
      exact hret _ [] _ _ (by assumption) (fun _ hp => nomatch hp) hS9 (fun _ hp => nomatch hp) ⟨rfl, _, rfl⟩
section
open LCg in
/-- a comprehension over a text: what its element's turns have to bring -/
noncomputable def SrcS (prog : Program) (w : World) (A : Around) (h₀ : Heap) (L : Addr) (m : Str → Option Value) (env : Env) (elt : PySem.Expr) (x : Str) (scope : Scope) (cl : List (Str × Addr)) (Fin : Shared → List Value → Led → Prop) (xv : Value) (s₁ : Shared) : Prop :=
  ∃ xt t news, xv = .str xt t ∧ A.handled = none ∧ Fr h₀ L s₁.heap m ∧ News h₀ L s₁.heap news ∧ xt.cps.size ≤ sizeLine ∧
    ∀ s₂ : Shared, (∃ h, s₂ = { s₁ with heap := h }) → CompRest prog w A h₀ L m env elt x scope cl s₂ (fun _ => True) (SignAt xt) (Fin s₂) xt.cps.size 0 [] news
section
open LCg
variable {prog : Program} {w : World} {A : Around} {E : Value → Shared → Prop} {s : Shared} {h₀ : Heap} {L : Addr} {m : Str → Option Value} {env : Env}
theorem comp_rest {elt : PySem.Expr} {x : Str} {scope : Scope} {cl : List (Str × Addr)} {S : Led → Prop} {P : Nat → Value → Prop} {Fin : List Value → Led → Prop} {n : Nat} {news : Led} (J : Nat → List Value → Led → Prop) (h0 : J 0 [] news)
    (turn : ∀ i v I oI C oC D m₂ ys nw h tk (E' : Value → Shared → Prop), i < n → P i v → J i ys nw → NsObj oC m₂ → m₂ x = some v → Fr h₀ L h m → News h₀ L h ((I, oI) :: (C, oC) :: (D, lst ys) :: nw) → Off3 I C D nw → ((@Ne Nat I C) ∧ (@Ne Nat I D) ∧ (@Ne Nat C D)) →
      wpAny (model prog w) A (eval elt (compEnvC scope cl C env)) (CompEnd h₀ L m { s with heap := h, toks := tk } I oI C oC D (lst ys) S (fun y nw' => J (i + 1) (ys ++ [y]) nw')) E' { s with heap := h, toks := tk })
    (fin : ∀ ys nw, J n ys nw → Fin ys nw) : CompRest prog w A h₀ L m env elt x scope cl s S P Fin n 0 [] news := by
  have key : ∀ (j i : Nat) (ys : List Value) (nw : Led), i + j = n → J i ys nw → CompRest prog w A h₀ L m env elt x scope cl s S P Fin j i ys nw := by
    intro j
    induction j with
    | zero =>
      intro i ys nw hi hJ
      have e : i = n := by omega
      subst e
      exact CompRest.zero (fin ys nw hJ)
    | succ j ih =>
      intro i ys nw hi hJ
      refine CompRest.succ ?_
      intro v I oI C oC D m₂ h tk E' hv hC hx F N off ne
      refine wpAny_mono (turn i v I oI C oC D m₂ ys nw h tk E' (by omega) hv hJ hC hx F N off ne) (fun y s₂ hq => ?_) fun _ _ e => e
      obtain ⟨h', tk', nw', e, F', N', off', hS, hJ'⟩ := hq
      exact ⟨h', tk', nw', e, F', N', off', hS, ih (i + 1) _ _ (by omega) hJ'⟩
  exact key n 0 [] news (by omega) h0
theorem str_block {elt iter : PySem.Expr} {x : Str} {px : Pos} {scope : Scope} {cl : List (Str × Addr)} {pos : Pos} {Fin : List Value → Led → Prop} {RR : Value → Addr → Result → Shared → Prop} {s₁ : Shared} {xt : Str} {t : Tok} {news : Led}
    (hcell : ∀ y ∈ scope.names, y.2 ≠ .cell) (hkind : scope.kind = .function) (hx : scope.names.lookup x = some .local)
    (hh : A.handled = none) (F : Fr h₀ L s₁.heap m) (N : News h₀ L s₁.heap news) (hsz : xt.cps.size ≤ sizeLine)
    (R : ∀ s₂ : Shared, (∃ h, s₂ = { s₁ with heap := h }) → CompRest prog w A h₀ L m env elt x scope cl s₂ (fun _ => True) (SignAt xt) Fin xt.cps.size 0 [] news)
    (hRR : ∀ D C h tk m' ys news', Fr h₀ L h m → News h₀ L h ((D, lst ys) :: news') → Off1 D news' → h.Ns C m' → h₀.get? C = none → h₀.get? D = none → C ≠ L → D ≠ L → C ≠ D → (∀ p ∈ news', p.1 ≠ C) → Fin ys news' → RR (.ref D) C (.ok .next) { s₁ with heap := h, toks := tk }) :
    wpAny (model prog w) A (pyIter (.str xt t)) (fun it s₂ => wpAny (model prog w) A (newList []) (fun acc s₃ => wpAny (model prog w) A (newFunctionEnv scope env.globals cl [] env.qual none .none (some env)) (fun cenv s₄ =>
      codeAny (model prog w) A (.compStart (.ListComp elt [⟨.Name x px, iter, [], 0⟩] scope pos) 0 it acc { cenv with scope := relabel scope env }) (RR acc cenv.locals) s₄) E s₃) E s₂) E s₁ := by
  cases ha : xt.cps.all (· < 128)
  · refine wpAny_pyIter_wide ha ?_
    refine block_U (Walks.strWide hh _ xt t) hsz (fun i h st => by obtain ⟨o, e, _⟩ := st; exact ⟨o, e⟩) (S := fun _ => True) ?_ hcell hkind hx ⟨_, Heap.get?_push_size _ rfl, rfl, rfl⟩ ?_
      (F.keeps fun _ _ e => Heap.get?_push_of_some _ e) (N.grown fun _ _ e => Heap.get?_push_of_some _ e) (Nat.ne_of_lt F.ns.lt) (next_is_new F) (fun p hp => Nat.ne_of_lt (Heap.lt_size (N p hp).1)) trivial (R _ ⟨_, rfl⟩) hRR
    · intro i h h' o nw st e e' _ _ _
      obtain ⟨o', q, r⟩ := st
      rw [e] at q; cases q; exact ⟨o, e', r⟩
    · intro b hb
      rw [List.mem_singleton.mp hb]
      show s₁.heap.objs.size < (s₁.heap.push _).objs.size
      rw [Heap.size_push]; exact Nat.lt_succ_self _
  · refine wpAny_pyIter_ascii ha ?_
    refine block_U (Walks.strAscii hh _ xt t) hsz (fun i h st => by obtain ⟨o, e, _⟩ := st; exact ⟨o, e⟩) (S := fun _ => True) ?_ hcell hkind hx ⟨_, Heap.get?_push_size _ rfl, rfl, rfl⟩ ?_
      (F.keeps fun _ _ e => Heap.get?_push_of_some _ e) (N.grown fun _ _ e => Heap.get?_push_of_some _ e) (Nat.ne_of_lt F.ns.lt) (next_is_new F) (fun p hp => Nat.ne_of_lt (Heap.lt_size (N p hp).1)) trivial (R _ ⟨_, rfl⟩) hRR
    · intro i h h' o nw st e e' _ _ _
      obtain ⟨o', q, r⟩ := st
      rw [e] at q; cases q; exact ⟨o, e', r⟩
    · intro b hb
      rw [List.mem_singleton.mp hb]
      show s₁.heap.objs.size < (s₁.heap.push _).objs.size
      rw [Heap.size_push]; exact Nat.lt_succ_self _
theorem ListComp_S {elt iter : PySem.Expr} {x : Str} {px : Pos} {scope : Scope} {cl : List (Str × Addr)} {pos : Pos} {Q : Value → Shared → Prop} (F₀ : Fr h₀ L s.heap m)
    (hclos : closureFor scope env = pure cl) (hcell : ∀ y ∈ scope.names, y.2 ≠ .cell) (hkind : scope.kind = .function)
    (hnames : ∀ y ∈ scope.names, y.2 = .local → scope.names.lookup y.1 = some .local) (hx : scope.names.lookup x = some .local)
    (h : wpAny (model prog w) A (eval iter env) (SrcS prog w A h₀ L m env elt x scope cl (fun s₂ => FinE h₀ L m s₂ Q)) E s)
    (hs : ∀ x, foldedSetIterable iter env x = pure x := by intro _; rfl) :
    wpAny (model prog w) A (eval (.ListComp elt [⟨.Name x px, iter, [], 0⟩] scope pos) env) Q E s := by
  rw [eval_ListComp]
  refine wpAny_comprehension_free (use := none) rfl hs hclos hkind hnames (wpAny_mono h (fun xv s₁ h₁ => ?_) fun _ _ e => e)
  obtain ⟨xt, t, news, rfl, hh, F, N, hsz, R⟩ := h₁
  refine str_block (Fin := FinE h₀ L m s₁ Q) hcell hkind hx hh F N hsz (fun s₂ ⟨g, e⟩ => by subst e; exact R _ ⟨g, rfl⟩) ?_
  intro D C h tk m' ys news' F' N' o1 hn hC₀ hD₀ hCL hDL hCD offC fin
  refine ⟨m', hn, fun h'' hs'' => fin D h'' tk (F'.change hs'' hCL hC₀) (fun p hp => ?_) o1⟩
  refine ⟨hs''.extBut _ _ ?_ (N' p hp).1, (N' p hp).2⟩
  rcases List.mem_cons.mp hp with rfl | hp
  · exact Ne.symm hCD
  · exact offC p hp
theorem Assign_ListComp_S {elt iter : PySem.Expr} {x y : Str} {px py : Pos} {scope : Scope} {cl : List (Str × Addr)} {pos spos : Pos} {Q : Flow → Shared → Prop} (F₀ : Fr h₀ L s.heap m) (hLe : env.locals = L)
    (hsw : swapsWith (.ListComp elt [⟨.Name x px, iter, [], 0⟩] scope pos) (some (.Name y py)) spos.line env = pure true)
    (hclos : closureFor scope env = pure cl) (hcell : ∀ z ∈ scope.names, z.2 ≠ .cell) (hkind : scope.kind = .function)
    (hnames : ∀ z ∈ scope.names, z.2 = .local → scope.names.lookup z.1 = some .local) (hx : scope.names.lookup x = some .local)
    (hy : env.kindOf y = some .local) (hp : (env.scope.kind == .class || (env.scope.kind == .module && env.locals != env.globals)) = false)
    (h : wpAny (model prog w) A (eval iter env) (SrcS prog w A h₀ L m env elt x scope cl (fun s₂ => FinA h₀ L m s₂ y Q)) E s)
    (hs : ∀ x, foldedSetIterable iter env x = pure x := by intro _; rfl) :
    wpAny (model prog w) A (exec (.Assign [.Name y py] (.ListComp elt [⟨.Name x px, iter, [], 0⟩] scope pos) spos) env) Q E s := by
  subst hLe
  rw [exec_Assign_Name_used _ _ _ _ hsw]
  refine wpAny_bind (wpAny_standAt (wpAny_bind ?_))
  show wpAny _ A (do let _ ← comprehension (.ListComp elt [⟨.Name x px, iter, [], 0⟩] scope pos) scope env _ (newList []) false (eval iter env) (some (assign (.Name y py) env))) _ _ s
  refine wpAny_bind (wpAny_mono (wpAny_comprehension_free (use := some (assign (.Name y py) env)) (Q := fun _ s' => Q .next s') rfl hs hclos hkind hnames
    (wpAny_mono h (fun xv s₁ h₁ => ?_) fun _ _ e => e)) (fun _ s' hq => wpAny_pure (wpAny_pure hq)) fun _ _ e => e)
  obtain ⟨xt, t, news, rfl, hh, F, N, hsz, R⟩ := h₁
  refine str_block (Fin := FinA h₀ env.locals m s₁ y Q) hcell hkind hx hh F N hsz (fun s₂ ⟨g, e⟩ => by subst e; exact R _ ⟨g, rfl⟩) ?_
  intro D C h' tk m' ys news' F' N' o1 hn hC₀ hD₀ hCL hDL hCD offC fin
  show wpAny _ A (assign (.Name y py) env (.ref D)) _ _ _
  refine wpAny_assign_Name (wpAny_storeName_local hy F'.ns (fun h₂ hn₂ hs₂ => ?_) hp)
  have hL₀ : h₀.get? env.locals = none := Heap.get?_none_of_le F'.above
  have F₂ : Fr h₀ env.locals h₂ (fun z => if z = y then some (.ref D) else m z) := ⟨hn₂, fun b o e => hs₂.extBut b o (fun q => by rw [q, hL₀] at e; cases e) (F'.keep b o e), F'.above⟩
  refine ⟨m', hn.sameBut hs₂ hCL, fun h'' hs'' => fin D h'' _ (F₂.change hs'' hCL hC₀) (fun p hp => ?_) o1⟩
  have z : h₂.get? p.1 = some p.2 := hs₂.extBut _ _ (N' p hp).2.1 (N' p hp).1
  refine ⟨hs''.extBut _ _ ?_ z, (N' p hp).2⟩
  rcases List.mem_cons.mp hp with rfl | hp
  · exact Ne.symm hCD
  · exact offC p hp
/-- the end of a comprehension's turn, for the walk to stop at -/
theorem off3_new {I C D T : Addr} {o : Obj} {nw : Led} (off : Off3 I C D nw) (h : I < T ∧ C < T ∧ D < T) : Off3 I C D ((T, o) :: nw) :=
  Off3.of fun p hp => by
    rcases List.mem_cons.mp hp with rfl | hp
    · exact ⟨Nat.ne_of_gt h.1, Nat.ne_of_gt h.2.1, Nat.ne_of_gt h.2.2⟩
    · exact off.mem p hp
theorem off1_mem {D : Addr} : ∀ {l : Led}, Off1 D l → ∀ p ∈ l, p.1 ≠ D
  | [], _, p, hp => nomatch hp
  | q :: r, h, p, hp => by
    rcases List.mem_cons.mp hp with rfl | hp
    · exact h.1
    · exact off1_mem h.2 p hp
theorem off1_own {D : Addr} {l : Led} (h : Off1 D l) : OwnOff l [D] := fun p hp b hb => by
  rw [List.mem_singleton.mp hb]; exact off1_mem h p hp
open LCt in
theorem comp_restT {ct elt : PySem.Expr} {x : Str} {scope : Scope} {cl : List (Str × Addr)} {S : Led → Prop} {P : Nat → Value → Prop} {Fin : List Value → Led → Prop} {n : Nat} {news : Led} (J : Nat → List Value → Led → Prop) (h0 : J 0 [] news)
    (turn : ∀ i v I oI C oC D m₂ ys nw h tk (E' : Value → Shared → Prop), i < n → P i v → J i ys nw → NsObj oC m₂ → m₂ x = some v → Fr h₀ L h m → News h₀ L h ((I, oI) :: (C, oC) :: (D, lst ys) :: nw) → Off3 I C D nw → ((@Ne Nat I C) ∧ (@Ne Nat I D) ∧ (@Ne Nat C D)) →
      wpAny (model prog w) A (isTrue ct (compEnvC scope cl C env) (eval ct (compEnvC scope cl C env))) (fun ok s' => if ok = true then
        wpAny (model prog w) A (eval elt (compEnvC scope cl C env)) (CompEnd h₀ L m { s with heap := h, toks := tk } I oI C oC D (lst ys) S (fun y nw' => J (i + 1) (ys ++ [y]) nw')) E' s'
        else CompEnd h₀ L m { s with heap := h, toks := tk } I oI C oC D (lst ys) S (fun _ nw' => J (i + 1) ys nw') Value.none s') E' { s with heap := h, toks := tk })
    (fin : ∀ ys nw, J n ys nw → Fin ys nw) : CompRestT prog w A h₀ L m env ct elt x scope cl s S P Fin n 0 [] news := by
  have key : ∀ (j i : Nat) (ys : List Value) (nw : Led), i + j = n → J i ys nw → CompRestT prog w A h₀ L m env ct elt x scope cl s S P Fin j i ys nw := by
    intro j
    induction j with
    | zero =>
      intro i ys nw hi hJ
      have e : i = n := by omega
      subst e
      exact CompRestT.zero (fin ys nw hJ)
    | succ j ih =>
      intro i ys nw hi hJ
      refine CompRestT.succ ?_
      intro v I oI C oC D m₂ h tk E' hv hC hx F N off ne
      refine wpAny_mono (turn i v I oI C oC D m₂ ys nw h tk E' (by omega) hv hJ hC hx F N off ne) (fun ok s₂ hq => ?_) fun _ _ e => e
      cases ok with
      | true =>
        refine wpAny_mono (show wpAny _ _ _ _ _ _ from hq) (fun y s₃ hq => ?_) fun _ _ e => e
        obtain ⟨h', tk', nw', e, F', N', off', hS, hJ'⟩ := hq
        exact ⟨h', tk', nw', e, F', N', off', hS, ih (i + 1) _ _ (by omega) hJ'⟩
      | false =>
        rw [if_neg Bool.false_ne_true] at hq ⊢
        obtain ⟨h', tk', nw', e, F', N', off', hS, hJ'⟩ := hq
        exact ⟨h', tk', nw', e, F', N', off', hS, ih (i + 1) _ _ (by omega) hJ'⟩
  exact key n 0 [] news (by omega) h0
open LCp in
theorem comp_restP {elt : PySem.Expr} {x x₂ : Str} {scope : Scope} {cl : List (Str × Addr)} {S : Led → Prop} {P : Nat → Value → Prop} {Fin : List Value → Led → Prop} {n : Nat} {news : Led} (J : Nat → List Value → Led → Prop) (h0 : J 0 [] news)
    (turn : ∀ i v ys nw, i < n → P i v → J i ys nw → ∃ (t : Addr) (ot : Obj) (v₁ v₂ : Value) (nt : Nat), v = .ref t ∧ (t, ot) ∈ nw ∧ ot.cls = .type "tuple" ∧ ot.data = .seq #[v₁, v₂] nt ∧
      ∀ I oI C oC D m₂ h tk (E' : Value → Shared → Prop), NsObj oC m₂ → m₂ x = some v₁ → m₂ x₂ = some v₂ → Fr h₀ L h m → News h₀ L h ((I, oI) :: (C, oC) :: (D, lst ys) :: nw) → Off3 I C D nw → ((@Ne Nat I C) ∧ (@Ne Nat I D) ∧ (@Ne Nat C D)) →
      wpAny (model prog w) A (eval elt (compEnvC scope cl C env)) (CompEnd h₀ L m { s with heap := h, toks := tk } I oI C oC D (lst ys) S (fun y nw' => J (i + 1) (ys ++ [y]) nw')) E' { s with heap := h, toks := tk })
    (fin : ∀ ys nw, J n ys nw → Fin ys nw) : CompRestP prog w A h₀ L m env elt x x₂ scope cl s S P Fin n 0 [] news := by
  have key : ∀ (j i : Nat) (ys : List Value) (nw : Led), i + j = n → J i ys nw → CompRestP prog w A h₀ L m env elt x x₂ scope cl s S P Fin j i ys nw := by
    intro j
    induction j with
    | zero =>
      intro i ys nw hi hJ
      have e : i = n := by omega
      subst e
      exact CompRestP.zero (fin ys nw hJ)
    | succ j ih =>
      intro i ys nw hi hJ v hv
      obtain ⟨t, ot, v₁, v₂, nt, a1, a2, a3, a4, go⟩ := turn i v ys nw (by omega) hv hJ
      refine ⟨t, ot, v₁, v₂, nt, a1, a2, a3, a4, ?_⟩
      intro I oI C oC D m₂ h tk E' hC hx hx2 F N off ne
      refine wpAny_mono (go I oI C oC D m₂ h tk E' hC hx hx2 F N off ne) (fun y s₂ hq => ?_) fun _ _ e => e
      obtain ⟨h', tk', nw', e, F', N', off', hS, hJ'⟩ := hq
      exact ⟨h', tk', nw', e, F', N', off', hS, ih (i + 1) _ _ (by omega) hJ'⟩
  exact key n 0 [] news (by omega) h0
end
end
section
mutual
/-- a datum without bytes -/
noncomputable def noB : Dat → Bool
  | .bytes _ => false
  | .tuple ds => noBs ds
  | .list ds => noBs ds
  | _ => true
noncomputable def noBs : List Dat → Bool
  | [] => true
  | d :: ds => noB d && noBs ds
end
/-- a datum that may be compared -/
noncomputable def okD (d : Dat) : Bool := noB d && (kqdP d).canLay0 && decide ((kqdP d).depth ≤ 20)
noncomputable def okDs (ds : List Dat) : Bool := noBs ds && PyData.canLayAll0 (kqdPs ds) && decide (PyData.depthAll (kqdPs ds) ≤ 20)
theorem okDs_of {ds : List Dat} (h : ∀ d ∈ ds, okD d = true) : okDs ds = true := by
  unfold okDs
  induction ds with
  | nil => simp [noBs, kqdPs, PyData.canLayAll0, PyData.depthAll]
  | cons d r ih =>
    have h1 := h d (.head _)
    have h2 := ih fun e he => h e (.tail _ he)
    simp only [okD, Bool.and_eq_true, decide_eq_true_eq] at h1 h2
    simp only [noBs, kqdPs, PyData.canLayAll0, PyData.depthAll, Bool.and_eq_true, decide_eq_true_eq]
    exact ⟨⟨⟨h1.1.1, h2.1.1⟩, h1.1.2, h2.1.2⟩, Nat.max_le.mpr ⟨h1.2, h2.2⟩⟩
mutual
theorem rd_in {h₀ h : Heap} {L : Addr} {news : Led} (N : News h₀ L h news) : ∀ {v : Value} {d : Dat}, DatIn news v d → noB d = true → ∃ as, Reads h v (kqdP d) as
  | _, _, .none, _ => ⟨_, Reads.none⟩
  | _, _, .bool b, _ => ⟨_, Reads.bool b⟩
  | _, _, .int i t, _ => ⟨_, Reads.int i t⟩
  | _, _, .str x t, _ => ⟨_, Reads.str x t⟩
  | _, _, .tuple hm r, hk => by
    obtain ⟨as, q⟩ := rd_all N r (by simpa [noB] using hk)
    rw [kqdP]
    exact ⟨_, reads_tuple_at (N.get hm) rfl rfl (by simpa using q)⟩
  | _, _, .list hm r, hk => by
    obtain ⟨as, q⟩ := rd_all N r (by simpa [noB] using hk)
    rw [kqdP]
    exact ⟨_, reads_list_at (N.get hm) rfl rfl (by simpa [W.listOf] using q)⟩
theorem rd_all {h₀ h : Heap} {L : Addr} {news : Led} (N : News h₀ L h news) : ∀ {vs : List Value} {ds : List Dat}, DatAll news vs ds → noBs ds = true → ∃ as, ReadsAll h vs (kqdPs ds) as
  | _, _, .nil, _ => ⟨_, ReadsAll.nil⟩
  | _, _, .cons hd r, hk => by
    rw [noBs, Bool.and_eq_true] at hk
    obtain ⟨as, q⟩ := rd_in N hd hk.1
    obtain ⟨bs, p⟩ := rd_all N r hk.2
    rw [kqdPs]
    exact ⟨_, ReadsAll.cons q p⟩
end
mutual
theorem eqv_self : ∀ x : PyData, x.canLay0 = true → PyData.eqv x x = true
  | .none, _ => rfl
  | .bool b, _ => by simp [PyData.eqv]
  | .int i, _ => by simp [PyData.eqv]
  | .str x, _ => by simp [PyData.eqv]
  | .list xs, h => by rw [PyData.eqv]; exact eqvAll_self xs (by simpa [PyData.canLay0] using h)
  | .tuple xs, h => by rw [PyData.eqv]; exact eqvAll_self xs (by simpa [PyData.canLay0] using h)
  | .dict _, h => by simp [PyData.canLay0] at h
theorem eqvAll_self : ∀ xs : List PyData, PyData.canLayAll0 xs = true → PyData.eqvAll xs xs = true
  | [], _ => rfl
  | x :: xs, h => by
    rw [PyData.canLayAll0, Bool.and_eq_true] at h
    rw [PyData.eqvAll, eqv_self x h.1, eqvAll_self xs h.2]; rfl
end
section
variable {prog : Program} {w : World} {A : Around} {E : Value → Shared → Prop} {s : Shared} {h₀ : Heap} {L a b : Addr} {news : Led} {xs ys : List Value} {ka kb : Nat} {ds : List Dat} {Q : Value → Shared → Prop}
theorem same_both (N : News h₀ L s.heap news) (ma : (a, W.listOf xs.toArray ka) ∈ news) (mb : (b, W.listOf ys.toArray kb) ∈ news) (Da : DatAll news xs ds) (Db : DatAll news ys ds) (ok : okDs ds = true) :
    (∃ as, Reads s.heap (.ref a) (.list (kqdPs ds)) as) ∧ (∃ as, Reads s.heap (.ref b) (.list (kqdPs ds)) as) ∧ SeqAt.shaped (.list (kqdPs ds)) = true ∧ PyData.eqv (.list (kqdPs ds)) (.list (kqdPs ds)) = true := by
  simp only [okDs, Bool.and_eq_true, decide_eq_true_eq] at ok
  obtain ⟨as, ra⟩ := rd_all N Da ok.1.1
  obtain ⟨bs, rb⟩ := rd_all N Db ok.1.1
  refine ⟨⟨_, reads_list_at (N.get ma) rfl rfl (by simpa [W.listOf] using ra)⟩, ⟨_, reads_list_at (N.get mb) rfl rfl (by simpa [W.listOf] using rb)⟩, ?_, eqv_self _ (by simpa [PyData.canLay0] using ok.1.2)⟩
  unfold SeqAt.shaped
  simp only [PyData.canLay0, PyData.depth, Bool.and_eq_true, decide_eq_true_eq]
  exact ⟨ok.1.2, decide_eq_true (by omega)⟩
theorem same_eqL (N : News h₀ L s.heap news) (ma : (a, W.listOf xs.toArray ka) ∈ news) (mb : (b, W.listOf ys.toArray kb) ∈ news) (Da : DatAll news xs ds) (Db : DatAll news ys ds) (ok : okDs ds = true)
    (hu : A.units + 64 < cLine) (h : Q (.bool true) s) : wpAny (model prog w) A (compareOp .Eq (.ref a) (.ref b)) Q E s := by
  obtain ⟨⟨as, ra⟩, ⟨bs, rb⟩, sh, e⟩ := same_both N ma mb Da Db ok
  exact eq_dataH ra rb sh sh hu (by rw [e]; exact h)
theorem same_neL (N : News h₀ L s.heap news) (ma : (a, W.listOf xs.toArray ka) ∈ news) (mb : (b, W.listOf ys.toArray kb) ∈ news) (Da : DatAll news xs ds) (Db : DatAll news ys ds) (ok : okDs ds = true)
    (hu : A.units + 64 < cLine) (h : Q (.bool false) s) : wpAny (model prog w) A (compareOp .NotEq (.ref a) (.ref b)) Q E s := by
  obtain ⟨⟨as, ra⟩, ⟨bs, rb⟩, sh, e⟩ := same_both N ma mb Da Db ok
  exact ne_dataH ra rb sh sh hu (by rw [e]; exact h)
end
end
section
section
variable {prog : Program} {w : World} {A A₀ : Around} {s : Shared} {K : Frag} {L : Addr} {h₀ base : Heap} {m mg mb : Str → Option Value} {news : Led} {p : Program} {loose : List Str} {mean : ExcName → Option Value}
theorem enterHC {env : Env} {outer : List Env} {R : Result → Shared → Prop} {name qual : Str} {params : Arguments} {body : List Stmt} {scope : Scope} {dV kV doc pm cdv ct oc : Value} {an od : Option Addr} {osl : Array (Option Value)} {f : Addr} {args : Args} {binds : List (Str × Value)}
    (B : Below A₀ base outer h₀) (F : Fr h₀ L s.heap m) (X₀ : K.In h₀) (N : News h₀ L s.heap news) (T : Top p loose mean mg mb h₀) (hA : A.frames = some (env :: outer)) (hf : env.frame = some L) (hke : env.scope.kind = .function)
    (ho : K.lookup f = some ⟨oc, od, .func (fnOf name qual params body scope dV kV doc pm an cdv ct), osl⟩) (hcd : codeIn K cdv qual = true) (hroom : A.depth < recursionLimit)
    (hbind : BindsTo s (fnOf name qual params body scope dV kV doc pm an cdv ct) args binds) (hkind : (binds.all fun y => scope.names.lookup y.1 == some .local || scope.names.lookup y.1 == some .cell) = true)
    (hnd : ((cellsFrom 0 scope.names []).map (·.1)).Nodup)
    (h : ∀ g L' h₁ tk cells, Fr g L' h₁ (bindL (envOfC qual scope L' f cdv).kindOf binds fun _ => none) → News g L' h₁ (cells ++ news) →
      CellsAre (bindC (envOfC qual scope L' f cdv).kindOf binds fun _ => none) (cellsFrom (L' + 1) scope.names []) cells → Below A base (env :: outer) g → K.In g → Top p loose mean mg mb g → (∀ p ∈ news, p.1 < L') →
      wpAny (model prog w) (A.deeper (envOfC qual scope L' f cdv)) (execs body (envOfC qual scope L' f cdv))
        (fun fl s' => LeaveH h₀ L m g s.heap (news.map (·.1)) R (match fl with | .ret v => v | _ => .none) s')
        (fun e s' => wpAny (model prog w) (A.deeper (envOfC qual scope L' f cdv)) (leaving (envOfC qual scope L' f cdv) e) (fun _ s'' => R (.error e) s'') (fun e' s'' => R (.error e') s'') s')
        { s with heap := h₁, toks := tk })
    (hco : scope.isCoroutine = false) (hgen : scope.isGenerator = false) (hk : scope.kind = .function) : codeAny (model prog w) A (.call (.ref f) args) R s := by
  obtain ⟨FG, BG, st, lv⟩ := groundX (R := R) B F N hA hf hke
  refine codeAny_call_function hroom ((X₀.keeps F.keep) _ _ ho) rfl hco hgen rfl (codeRec_of (X₀.keeps F.keep) hcd) (hbind _ _ _ _ ?_)
  refine wpAny_newFunctionEnv_cells hk (kindsX hkind _) fun env' he s' x => ?_
  subst he
  refine ⟨(T.nolimit.keeps F.keep).keeps x.toInCall.keep, codeAny_func ?_⟩
  obtain ⟨h₁, tk, rfl, _⟩ := x.done
  have up := x.toInCall.keep
  obtain ⟨cells, NC, Y⟩ := Cl.news (h₀ := s.heap) (Nat.le_refl _) fun n c hm => ⟨x.cell n c (lookup_of_mem_nodup (cellsFrom_names scope.names 0 (s.heap.objs.size + 1) [] [] rfl ▸ hnd) hm), x.above n c hm⟩
  refine wpAny_mono (h _ s.heap.objs.size h₁ tk cells ⟨x.toInCall.ns, fun b o e => up b o (of_hideAll _ e), Nat.le_of_eq (hideAll_size _ _)⟩ (fun p hp => ?_) Y BG (X₀.keeps st) (T.keeps st) (fun p hp => Heap.lt_size (N p hp).1)) (fun fl s' hl => ?_) fun _ _ y => y
  · rcases List.mem_append.mp hp with hp | hp
    · refine ⟨(NC p hp).1, (NC p hp).2.1, ?_⟩
      cases q : (hideAll s.heap (news.map (·.1))).get? p.1 with
      | none => rfl
      | some o => have := of_hideAll _ q; rw [(NC p hp).2.2] at this; cases this
    · exact ⟨up _ _ (N p hp).1, Nat.ne_of_lt (Heap.lt_size (N p hp).1), hideAll_none _ (List.mem_map_of_mem hp)⟩
  · obtain ⟨L', m', led', F', N', k⟩ := hl
    refine lv _ _ ⟨L', m', led', F', N', fun F₂ N₂ => k F₂ N₂ (fun b o e hb => F'.keep b o (hideAll_get _ e hb)) fun q hq => ?_⟩
    by_cases hm : q.1 ∈ news.map (·.1)
    · exact .inl hm
    · right
      cases e : s.heap.get? q.1 with
      | none => rfl
      | some o => have := (N' q hq).2.2; rw [hideAll_get _ e hm] at this; cases this
theorem enterHS {env : Env} {outer : List Env} {R : Result → Shared → Prop} {name qual : Str} {params : Arguments} {body : List Stmt} {scope : Scope} {dV kV doc pm cdv ct oc : Value} {an od : Option Addr} {osl : Array (Option Value)} {f : Addr} {args : Args} {binds : List (Str × Value)}
    (B : Below A₀ base outer h₀) (F : Fr h₀ L s.heap m) (X₀ : K.In h₀) (N : News h₀ L s.heap news) (T : Top p loose mean mg mb h₀) (hA : A.frames = some (env :: outer)) (hf : env.frame = some L) (hke : env.scope.kind = .function)
    (ho : K.lookup f = some ⟨oc, od, .func (fnOf name qual params body scope dV kV doc pm an cdv ct), osl⟩) (hcd : codeIn K cdv qual = true) (hroom : A.depth < recursionLimit)
    (hbind : BindsTo s (fnOf name qual params body scope dV kV doc pm an cdv ct) args binds) (hloc : ∀ y ∈ binds, scope.names.lookup y.1 = some .local)
    (h : ∀ g L' h₁, Fr g L' h₁ (fun y => binds.reverse.lookup y) → News g L' h₁ news → Below A base (env :: outer) g → K.In g → Top p loose mean mg mb g → (∀ p ∈ news, p.1 < L') → (∀ b o, h₀.get? b = some o → g.get? b = some o) →
      wpAny (model prog w) (A.deeper (envOf qual scope L' f cdv)) (execs body (envOf qual scope L' f cdv))
        (fun fl s' => LeaveH h₀ L m g s.heap (news.map (·.1)) R (match fl with | .ret v => v | _ => .none) s')
        (fun e s' => wpAny (model prog w) (A.deeper (envOf qual scope L' f cdv)) (leaving (envOf qual scope L' f cdv) e) (fun _ s'' => R (.error e) s'') (fun e' s'' => R (.error e') s'') s')
        { s with heap := h₁, toks := s.toks + binds.length })
    (hco : scope.isCoroutine = false) (hgen : scope.isGenerator = false) (hk : scope.kind = .function)
    (hcell : ∀ x ∈ scope.names, x.2 ≠ .cell) : codeAny (model prog w) A (.call (.ref f) args) R s := by
  obtain ⟨FG, BG, st, lv⟩ := groundX (R := R) B F N hA hf hke
  refine codeAny_call_def (fd := fnX name qual params body scope [] dV kV doc pm an cdv ct) (body := body) (binds := binds) hroom ((X₀.keeps F.keep) _ _ ho) rfl (T.nolimit.keeps F.keep) (codeRec_of (X₀.keeps F.keep) hcd) rfl hbind hcell hloc (fun h₁ hns hk₁ => ?_) hco hgen hk
  refine wpAny_mono (h _ s.heap.objs.size h₁ ⟨hns, fun b o e => hk₁ b o (of_hideAll _ e), Nat.le_of_eq (hideAll_size _ _)⟩
    (fun p hp => ⟨hk₁ _ _ (N p hp).1, Nat.ne_of_lt (Heap.lt_size (N p hp).1), hideAll_none _ (List.mem_map_of_mem hp)⟩) BG (X₀.keeps st) (T.keeps st) (fun p hp => Heap.lt_size (N p hp).1) st) (fun fl s' hl => ?_) fun _ _ y => y
  obtain ⟨L', m', led', F', N', k⟩ := hl
  refine lv _ _ ⟨L', m', led', F', N', fun F₂ N₂ => k F₂ N₂ (fun b o e hb => F'.keep b o (hideAll_get _ e hb)) fun q hq => ?_⟩
  by_cases hm : q.1 ∈ news.map (·.1)
  · exact .inl hm
  · right
    cases e : s.heap.get? q.1 with
    | none => rfl
    | some o => have := (N' q hq).2.2; rw [hideAll_get _ e hm] at this; cases this
end
/-- a claim of a call whose script lies in the ground -/
noncomputable def SpecS (w : World) (sc : Addr) (sv : List Value) (k : Nat) (f : Addr) (args : List Value) (led : Led) (Post : Value → Led → Prop) : Prop :=
  ∀ (mg mb : Str → Option Value) (mean : ExcName → Option Value) (dp un : Nat) (gd : Option (List Code)) (cn : Str) (cs : Scope) (a : Addr) (ccd : Value) (cl : List (Str × Addr)) (outer : List Env) (A₀ : Around) (base h₀ : Heap) (L : Addr) (m : Str → Option Value) (s : Shared)
    (Q E : Value → Shared → Prop),
    h₀.IsList sc sv.toArray → Below A₀ base outer h₀ → Fr h₀ L s.heap m → (hd.heap_1_39 w.params).In h₀ → News h₀ L s.heap led → Top hd.view_1_40 (looseW hd.view_1_40 []) mean mg mb h₀ → cs.kind = .function →
    dp + k < recursionLimit → un + 10 * k < cLine →
    (∀ r led' h' tk', Fr h₀ L h' m → News h₀ L h' led' → Stands s.heap h' (led.map (·.1)) → Fresh s.heap (led.map (·.1)) led' → Post r led' → Q r { s with heap := h', toks := tk' }) →
    wpAny (model PySem.Challenge.rw_nt0598_01.row.prog w) (ktrTop dp un gd cn cs L a ccd cl outer) (call (.ref f) args) Q E s
/-- the same, the script in the ground -/
theorem SpecS.useR {w : World} {sc : Addr} {sv : List Value} {k : Nat} {f : Addr} {args : List Value} {led : Led} {Post : Value → Led → Prop} (S : SpecS w sc sv k f args led Post) (hro : ∀ r l, Post r l → ∀ p ∈ led, p ∈ l)
    {mg mb : Str → Option Value} {mean : ExcName → Option Value} {dp un : Nat} {gd : Option (List Code)} {cn : Str} {cs : Scope} {a : Addr} {ccd : Value} {cl : List (Str × Addr)} {outer : List Env} {A₀ : Around} {base h₀ : Heap} {L : Addr} {m : Str → Option Value} {s : Shared}
    {Q E : Value → Shared → Prop} {all : Led} (hsc : h₀.IsList sc sv.toArray)
    (B : Below A₀ base outer h₀) (F : Fr h₀ L s.heap m) (X : (hd.heap_1_39 w.params).In h₀) (N : News h₀ L s.heap all) (T : Top hd.view_1_40 (looseW hd.view_1_40 []) mean mg mb h₀) (hk : cs.kind = .function)
    (h1 : dp + k < recursionLimit) (h2 : un + 10 * k < cLine) (hl : ∀ p ∈ led, p ∈ all)
    (kk : ∀ r led' h' tk', Fr h₀ L h' m → News h₀ L h' (led' ++ all) → (∀ p ∈ led', p ∈ led ∨ ∀ q ∈ all, p.1 ≠ q.1) → Post r led' → Q r { s with heap := h', toks := tk' }) :
    wpAny (model PySem.Challenge.rw_nt0598_01.row.prog w) (ktrTop dp un gd cn cs L a ccd cl outer) (call (.ref f) args) Q E s := by
  refine S mg mb mean dp un gd cn cs a ccd cl outer A₀ base h₀ L m s Q E hsc B F X (fun p hp => N p (hl p hp)) T hk h1 h2 fun r led' h' tk' F' N' st fr p => kk r led' h' tk' F' (fun q hq => ?_) (fun q hq => ?_) p
  · rcases List.mem_append.mp hq with hq | hq
    · exact N' q hq
    · by_cases hm : q.1 ∈ led.map (·.1)
      · obtain ⟨y, hy, e⟩ := List.mem_map.mp hm
        have h3 := (N y (hl y hy)).1
        have h4 := (N q hq).1
        rw [e, h4] at h3
        have : q = y := Prod.ext e.symm (Option.some.inj h3)
        rw [this]; exact N' y (hro r led' p y hy)
      · exact ⟨st _ _ (N q hq).1 hm, (N q hq).2⟩
  · rcases fr q hq with hm | hn
    · left
      obtain ⟨y, hy, e⟩ := List.mem_map.mp hm
      have h3 := (N' y (hro r led' p y hy)).1
      have h4 := (N' q hq).1
      rw [e, h4] at h3
      have : q = y := Prod.ext e.symm (Option.some.inj h3)
      rw [this]; exact hy
    · right
      intro y hy e
      rw [e, (N y hy).1] at hn; cases hn
end
theorem join_one : ∀ l : List Nat, Str.join ⟨#[]⟩ (l.map one) = ⟨l.toArray⟩
  | [] => rfl
  | c :: r => by
    rw [List.map_cons, join_nil_cons, join_one r]
    refine PySem.Str.ext' (Array.toList_inj.mp ?_)
    rw [PySem.Str.cps_append, Array.toList_append]
    simp [one]
theorem sum_ones : ∀ l : List Nat, ((l.map one).map (·.length)).sum = l.length
  | [] => rfl
  | c :: r => by
    rw [List.map_cons, List.map_cons, List.sum_cons, sum_ones r, List.length_cons]
    have : (one c).length = 1 := rfl
    omega
noncomputable abbrev greatS : Str := Str.ofString "ABCDEFGHIJKLMNOPQRSTUVWXYZ"
noncomputable abbrev smallS : Str := Str.ofString "abcdefghijklmnopqrstuvwxyz"
theorem great_in {n : Nat} : (Builtin.Str.occurrences greatS ⟨#[n]⟩ 0 greatS.length 1).isEmpty = !decide (65 ≤ n ∧ n ≤ 90) := by
  have h := StrLaws.found_one greatS n
  have e : greatS.cps.toList = List.range' 65 26 := by decide +kernel
  rw [e] at h
  have h2 : decide (n ∈ List.range' 65 26) = decide (65 ≤ n ∧ n ≤ 90) := by
    apply decide_eq_decide.mpr
    rw [List.mem_range']
    constructor
    · rintro ⟨i, hi, rfl⟩; omega
    · intro hh; exact ⟨n - 65, by omega, by omega⟩
  rw [← h2, ← h, Bool.not_not]
theorem great_at : ∀ j, j < 26 → Txt.find greatS ⟨#[65 + j]⟩ = (j : Int) := by decide +kernel
theorem small_item {prog : Program} {w : World} {A : Around} {E : Value → Shared → Prop} {s : Shared} {Q : Value → Shared → Prop} {value slice : PySem.Expr} {t : Tok} {k : Int} {u : Tok} {j : Nat} (hk : k = (j : Int)) (hj : j < 26)
    (h : Q (.str ⟨#[97 + j]⟩ s.toks) { s with toks := s.toks + 1 })
    (hs : subscripted slice false (.str smallS t) (.int k u) = operate [.str smallS t, .int k u] (getItem (.str smallS t) (.int k u)) := by with_unfolding_all rfl)
    (ht : ∀ r, letTemporaryGo value (.str smallS t) r = pure () := by intro _; with_unfolding_all rfl) :
    wpAny (model prog w) A (subscriptTail value slice (.str smallS t) (.int k u)) Q E s := by
  have e : smallS = ⟨(List.range' 97 26).toArray⟩ := by decide +kernel
  rw [e] at hs ht ⊢
  exact char_item (wl := List.range' 97 26) (j := j) (c := 97 + j) (by simp [hj]) hk (by simp) h hs ht
set_option maxHeartbeats 0 in
theorem small_spec (w : World) (tl : List Nat) (tk1 : Tok) (hl : tl.length ≤ 1000) (hc : ∀ c ∈ tl, c < 100000) :
    Spec w 5 319 [.str ⟨tl.toArray⟩ tk1] [] (fun r led' => led' = [] ∧ ∃ tk', r = .str ⟨(tl.map lowC).toArray⟩ tk') := by
  w_top off
  unfold Spec
  intro mg mb mean dp un gd cn cs a ccd cl outer A₀ base h₀ L m s Q E B F X N T hk hroom hun hret
  refine wpAny_call ?_
  k_dflt (refine' enterHC ?k1'9 ?k2'9 ?k3'9 ?k4'9 ?k5'9 ?kA'9 ?kF'9 ?kK'9 ?k6'9 ?k7'9 ?k8'9 ?k9'9 ?kB'9 ?kD'9 ?_ ?c2'9 ?c3'9 ?c4'9; (case kA'9 => exact rfl); (case kF'9 => exact rfl); (case kK'9 => assumption); (case k1'9 => k_asm); (case k2'9 => k_asm); (case k3'9 => k_asm); (case k4'9 => k_asm); (case k5'9 => k_asm); (case k6'9 => k_is); (case k7'9 => k_is); (case k8'9 => (first | exact rm0 (by assumption) | exact rm1 (by assumption) (by decide) | k_extra "room" | ktr_room)); (case k9'9 => first | exact BindsTo.of_eq rfl | exact binds_K (by k_in) rfl (by k_is) rfl rfl rfl); (case kB'9 => exact rfl); (case kD'9 => decide +kernel); (case c2'9 => exact rfl); (case c3'9 => exact rfl); (case c4'9 => exact rfl); k_whole; intro _ _ _ _ _ _ N'9 Y'9 _ _ _ l1'9; (try k_lt l1'9); k_cells Y'9; (try simp only [List.cons_append, List.nil_append] at N'9); (try dsimp only); (with_reducible show wpAny _ _ _ _ _ _); (try k_fold); (try (revert l1'9; intro _)); (try (revert Y'9; intro _)); (try (revert N'9; intro _)))
  k_with_none
  k_with "room" => (first | exact rmS2 (by assumption) (by decide) | exact rmS3 (by assumption) (by decide) | exact rmS4 (by assumption) (by decide) | exact rm2 (by assumption) (by decide) | exact rm0 (by assumption) | exact rm1 (by assumption) (by decide) | (dsimp +zetaDelta only; ktr_room))
  k_with "units" => (first | exact cl3 (by assumption) (by decide) | exact um2 (by assumption) (by decide) | exact um1 (by assumption) (by decide) | (dsimp +zetaDelta only; ktr_units))
  k_with "is_list" => (exact News.isList (by k_asm) (by k_mem))
  k_with "st" => (first | ((fail_if_success (fail_if_success k_unfold)); refine (?_ : wpAny _ _ _ _ _ _)) | (k_unfold; (try dsimp only)) | (k_end; wrow_close) | walk1 | (dsimp only; walk1) | (leave1; walk_say "STEP leave1"; try dsimp only) | fail "no step")
  k_with "om" => (first | assumption | with_reducible rfl | decide | exact Nat.le_trans (by assumption) (by decide) | exact Nat.lt_of_le_of_lt (by assumption) (by decide) | ((repeat (with_reducible rename _ ∧ _ => om9; clear om9)); first | ((repeat (with_reducible rename _ ≠ _ => om9; clear om9)); (repeat (with_reducible rename @Eq Nat _ _ => om9; clear om9)); (repeat (with_reducible rename @Eq Int _ _ => om9; clear om9)); omega +splitNatSub) | omega +splitNatSub))
  k_with "fold" => ((fail_if_success (fail_if_success k_fold)); refine fold_QES ?_; intro _ _ _ _)
  k_with "kne" => (first | ((refine (?_ : @Ne Nat _ _)); first | assumption | exact Ne.symm (by assumption) | k_extra "ne") | (refine neN ?_; (try dsimp only); first | assumption | exact Ne.symm (by assumption) | k_extra "ne" | omega))
  k_with "tb" => (repeat (first | exact List.forall_mem_nil _ | refine List.forall_mem_cons.mpr ⟨rfl, ?_⟩))
  k_with "ne" => with_reducible (first | exact na0 (by assumption) | exact ns0 (by assumption) | exact na1 (by assumption) | exact ns1 (by assumption) | exact na2 (by assumption) | exact ns2 (by assumption) | exact na3 (by assumption) | exact ns3 (by assumption) | exact na4 (by assumption) | exact ns4 (by assumption) | exact na5 (by assumption) | exact ns5 (by assumption) | exact na6 (by assumption) | exact ns6 (by assumption) | exact na7 (by assumption) | exact ns7 (by assumption) | exact na8 (by assumption) | exact ns8 (by assumption) | exact na9 (by assumption) | exact ns9 (by assumption) | exact na10 (by assumption) | exact ns10 (by assumption) | exact na11 (by assumption) | exact ns11 (by assumption) | exact na12 (by assumption) | exact ns12 (by assumption) | exact na13 (by assumption) | exact ns13 (by assumption) | exact na14 (by assumption) | exact ns14 (by assumption) | exact na15 (by assumption) | exact ns15 (by assumption))
  k_with "execs cons" => ((try ((fail_if_success (fail_if_success k_fold)); refine fold_QE ?_; intro _ _)); refine ex_consA ?_; intro _ _ _ _; (try (with_reducible rename News _ _ _ _ => kN'9; dsimp only at kN'9)); (try (with_reducible rename Fr _ _ _ _ => kF'9; refine f_let kF'9 ?_; clear kF'9; intro _ _)))
  k_with "LeaveH" => (refine' leaveH_ ?k1'9 ?k2'9 ?_; (case k1'9 => k_asm); (case k2'9 => k_asm); k_whole; intro _ _ _ _)
  k_with "pyIter ref" => ((with_reducible show wpAny _ _ (pyIter _) (fun it s₂ => LoopAtV _ _ _ _ _ _ _ _ _ it s₂) _ _); refine Stop.mk ?_)
  k_with "pyIter str" => ((with_reducible show wpAny _ _ (pyIter _) (fun it s₂ => LoopAtV _ _ _ _ _ _ _ _ _ it s₂) _ _); refine Stop.mk ?_)
  k_with "call ref" => (k_extra "mine call")
  k_with "call builtin:len" => (k_here; (with_reducible show wpAny _ _ (call (Value.builtin "len") [Value.ref _]) _ _ _); (with_unfolding_all refine' len_listN ?k1'9 ?k2'9 ?_; (case k1'9 => is_list); (case k2'9 => omega); k_whole))
  k_with "subscriptTail" => (k_here; (with_reducible show wpAny _ _ (subscriptTail _ _ (Value.ref _) (Value.int _ _)) _ _ _); (with_unfolding_all refine' sign_item ?k1'9 ?k2'9 ?k3'9 ?k4'9 ?k5'9 ?_; (case k1'9 => is_list); (case k2'9 => assumption); (case k3'9 => assumption); (case k4'9 => (push_cast; omega)); (case k5'9 => omega); k_whole); intro _)
  k_with "subscriptTail" => (k_here; (with_reducible show wpAny _ _ (subscriptTail _ _ (Value.str _ _) (Value.int _ _)) _ _ _); (with_unfolding_all refine' char_item ?k1'9 ?k2'9 ?k3'9 ?_; (case k1'9 => assumption); (case k2'9 => (push_cast; omega)); (case k3'9 => omega); k_whole))
  k_with "TurnL" => (refine TurnL.ret ?_; (try dsimp only))
  k_with "subscriptTail Name Name str int" => (k_here; (with_reducible show wpAny _ _ (subscriptTail _ _ (Value.str _ _) (Value.int _ _)) _ _ _); (with_unfolding_all refine' char_item ?k1'9 ?k2'9 ?k3'9 ?_; (case k1'9 => assumption); (case k2'9 => (push_cast; omega)); (case k3'9 => omega); k_whole))
  k_with "exec For Name Name cons nil" => (k_here; (rename Fr _ _ _ _ => lF'9); (with_unfolding_all refine' For_invVF lF'9 ?k1'9 ?k2'9 ?_; (case k1'9 => exact rfl); (case k2'9 => exact rfl); k_whole))
  k_with "call builtin:list.append" => (k_here; (with_reducible show wpAny _ _ (call (Value.builtin _) [Value.ref _, _]) _ _ _); k_dflt (refine' append_K ?k1'9 ?k2'9 ?k3'9 ?_ ?z'9; (case k1'9 => k_asm); (case k2'9 => k_asm); (case k3'9 => k_upd); (case z'9 => assumption); k_whole); intro _ _ _; (try k_sweep))
  k_with "eval BinOp" => k_extra "fold"
  k_with "eval Call" => k_extra "fold"
  k_with "eval List" => k_extra "fold"
  k_with "eval Tuple" => k_extra "fold"
  k_with "eval Subscript" => k_extra "fold"
  k_with "eval Compare" => k_extra "fold"
  k_with "eval BoolOp" => k_extra "fold"
  k_with "eval ListComp" => (k_here; refine Stop.mk ?_)
  k_steps
  unfold Stop
  k_dflt (refine ListComp_S (F₀ := by k_asm) (by with_unfolding_all rfl) (by decide) (by rfl) (by decide) (by rfl) ?_)
  k_steps
  rename News _ _ _ _ => N9
  rename Fr _ _ _ _ => F9
  (try dsimp +zetaDelta only at F9)
  refine ⟨_, _, _, rfl, rfl, F9, N9, ?_, ?_⟩
  · show tl.toArray.size ≤ sizeLine
    rw [List.size_toArray, sizeLine_eq]; omega
  rintro s₂ ⟨g₂, rfl⟩
  refine comp_rest (fun i ys nw => nw = _ ∧ StrsAre ys (((tl.take i).map lowC).map one)) ⟨rfl, .nil⟩ ?_ ?_
  · rintro i v I oI C oC D m₂ ys nw h9 tk9 E9 hi ⟨cc, tc, hcc, rfl⟩ ⟨rfl, hD⟩ hC hx F' N' off ne
    have hcc' : tl[i]? = some cc := by simpa using hcc
    have fin : ∀ t, StrsAre (ys ++ [Value.str (PySem.Str.mk #[lowC cc]) t]) (((tl.take (i + 1)).map lowC).map one) := fun t => by
      rw [List.take_add_one, hcc', List.map_append, List.map_append]
      exact hD.append' (.cons _ _ .nil)
    have hgr : (Builtin.Str.occurrences greatS ⟨#[cc]⟩ 0 greatS.length 1).isEmpty = !decide (65 ≤ cc ∧ cc ≤ 90) := great_in
    by_cases hup : 65 ≤ cc ∧ cc ≤ 90
    · rw [decide_eq_true hup, Bool.not_true] at hgr
      obtain ⟨j, hj, rfl⟩ : ∃ j, j < 26 ∧ cc = 65 + j := ⟨cc - 65, by omega, by omega⟩
      have hfi := great_at j hj
      have hlow : lowC (65 + j) = 97 + j := by unfold lowC; rw [if_pos hup]; omega
      rw [hlow] at fin
      k_steps
      · exact absurd (hgr.symm.trans (by assumption)) (by decide)
      · k_dflt (refine small_item hfi hj ?_)
        k_steps
        rename News _ _ _ _ => N8
        exact LCg.CompEnd.intro (by assumption) N8 _ (fun _ h => h) off trivial ⟨rfl, fin _⟩
    · rw [decide_eq_false hup, Bool.not_false] at hgr
      have hlow : lowC cc = cc := by unfold lowC; rw [if_neg hup]
      rw [hlow] at fin
      k_steps
      rename News _ _ _ _ => N8
      exact LCg.CompEnd.intro (by assumption) N8 _ (fun _ h => h) off trivial ⟨rfl, fin _⟩
  · rintro ys nw ⟨rfl, hD⟩
    unfold LCg.FinE
    intro D9 h9 tk9 F9 N9 o9
    have hsize : tl.toArray.size = tl.length := by simp
    rw [hsize, List.take_length] at hD
    have hDa : StrsAre ys.toArray.toList ((tl.map lowC).map one) := by simpa using hD
    k_steps
    k_dflt (refine join_listW (ys := (tl.map lowC).map one) (News.isList N9 (.head _)) hDa (by decide +kernel) ?_ ?_)
    · rw [sum_ones]; simp only [List.length_map]; omega
    intro tj kj
    rw [show Txt.join (Str.ofString "") ((tl.map lowC).map one) = ⟨(tl.map lowC).toArray⟩ from by rw [show Str.ofString "" = ⟨#[]⟩ from by decide +kernel]; exact (StrLaws.glued_eq_join _ _).trans (join_one _)]
    k_steps
    exact hret _ [] _ _ (by assumption) (fun _ hp => nomatch hp) (by assumption) (fun _ hp => nomatch hp) ⟨rfl, _, rfl⟩
section
/-- where the law's words lie -/
structure Wd where
  a : Nat
  n : Nat
  t : Nat → Nat
  u : Nat → Tok
noncomputable abbrev wdTup (W : Wd) (ws : Nat → List Nat × Bool) (k : Nat) : Addr × Obj := (W.t k, tupObj [.str ⟨(ws k).1.toArray⟩ (W.u k), .bool (ws k).2])
noncomputable def wdLed (W : Wd) (ws : Nat → List Nat × Bool) : Led :=
  [(W.a, listOf [Value.ref (W.t 0), .ref (W.t 1), .ref (W.t 2), .ref (W.t 3)].toArray W.n), wdTup W ws 0, wdTup W ws 1, wdTup W ws 2, wdTup W ws 3]
theorem wd_mem {W : Wd} {ws : Nat → List Nat × Bool} {k : Nat} (h : k < 4) : wdTup W ws k ∈ wdLed W ws := by
  rcases lt4 h with rfl | rfl | rfl | rfl
  · exact .tail _ (.head _)
  · exact .tail _ (.tail _ (.head _))
  · exact .tail _ (.tail _ (.tail _ (.head _)))
  · exact .tail _ (.tail _ (.tail _ (.tail _ (.head _))))
theorem wd_item {w : World} {A : Around} {E : Value → Shared → Prop} {s : Shared} {h₀ : Heap} {L : Addr} {news : Led} {W : Wd} {ws : Nat → List Nat × Bool} {value slice : PySem.Expr} {k : Int} {u : Tok} {j : Nat} {Q : Value → Shared → Prop} (N : News h₀ L s.heap news) (hsub : ∀ p ∈ wdLed W ws, p ∈ news) (hj : k = (j : Int)) (h4 : j < 4) (h : News h₀ L s.heap (wdTup W ws j :: news) → Q (.ref (W.t j)) s)
    (hs' : subscripted slice false (.ref W.a) (.int k u) = operate [.ref W.a, .int k u] (getItem (.ref W.a) (.int k u)) := by with_unfolding_all rfl) :
    wpAny (model prg w) A (subscriptTail value slice (.ref W.a) (.int k u)) Q E s := by
  subst hj
  have hl : s.heap.IsList W.a [Value.ref (W.t 0), .ref (W.t 1), .ref (W.t 2), .ref (W.t 3)].toArray := News.isList N (hsub _ (.head _))
  have hq : [Value.ref (W.t 0), .ref (W.t 1), .ref (W.t 2), .ref (W.t 3)].toArray[j]? = some (.ref (W.t j)) := by
    rcases lt4 h4 with rfl | rfl | rfl | rfl <;> rfl
  refine tail_any hl.typeIs slot_list_getitem.lookup (wpAny_getItem_list hl (by omega) (by omega) (by simpa using hq) (h fun p hp => ?_)) hs'
  rcases List.mem_cons.mp hp with rfl | hp
  · exact N _ (hsub _ (wd_mem h4))
  · exact N _ hp
/-- what the law's step gives back -/
noncomputable def StepOut (W : Wd) (ws : Nat → List Nat × Bool) (R : RR) (r : Value) (led' : Led) : Prop :=
  ∃ T O Er ov ev t1 t2 n1 n2, r = .ref T ∧ (T, tupObj [.int (R.at' : Nat) t1, .int (R.k : Nat) t2, .ref O, .ref Er, .bool R.waiting]) ∈ led' ∧ (O, listOf ov.toArray n1) ∈ led' ∧ (Er, listOf ev.toArray n2) ∈ led' ∧ (∀ p ∈ wdLed W ws, p ∈ led') ∧ DatAll led' ov R.out ∧ DatAll led' ev R.errs
theorem StepOut.elim {W : Wd} {ws : Nat → List Nat × Bool} {R : RR} {r : Value} {led' : Led} {C : Prop} (h : StepOut W ws R r led')
    (k : ∀ T O Er ov ev t1 t2 n1 n2, r = .ref T → (T, tupObj [.int (R.at' : Nat) t1, .int (R.k : Nat) t2, .ref O, .ref Er, .bool R.waiting]) ∈ led' → (O, listOf ov.toArray n1) ∈ led' → (Er, listOf ev.toArray n2) ∈ led' → (∀ p ∈ wdLed W ws, p ∈ led') → DatAll led' ov R.out → DatAll led' ev R.errs → C) : C := by
  obtain ⟨T, O, Er, ov, ev, t1, t2, n1, n2, h1, h2, h3, h4, h5, h6, h7⟩ := h
  exact k T O Er ov ev t1 t2 n1 n2 h1 h2 h3 h4 h5 h6 h7
theorem so_intro {W : Wd} {ws : Nat → List Nat × Bool} {R : RR} {at' k : Nat} {out errs : List Dat} {wt dn : Bool} {lst : Option (List Nat)} {T O Er : Addr} {ova eva : Array Value} {ov ev : List Value} {t1 t2 : Tok} {n1 n2 : Nat} {led' : Led} {pv kv : Int}
    (hR : R = ⟨at', k, out, errs, wt, dn, lst⟩) (hp : pv = (at' : Int)) (hk : kv = (k : Int)) (ho : ova = ov.toArray) (he : eva = ev.toArray)
    (h1 : (T, tupObj [.int pv t1, .int kv t2, .ref O, .ref Er, .bool wt]) ∈ led') (h2 : (O, listOf ova n1) ∈ led') (h3 : (Er, listOf eva n2) ∈ led') (hs : ∀ p ∈ wdLed W ws, p ∈ led') (hD : DatAll led' ov out) (hE : DatAll led' ev errs) :
    StepOut W ws R (.ref T) led' := by
  subst hR hp hk ho he
  exact ⟨T, O, Er, ov, ev, t1, t2, n1, n2, rfl, h1, h2, h3, hs, hD, hE⟩
section
variable {sl : List Nat} {closed f : Bool} {wl : List Nat} {k pa c : Nat}
theorem stepF_wait (hq : sl[pa]? = some c) (hL : lookF sl closed f wl (pa + 1) = -1) : stepF sl closed wl f k pa = ⟨pa, k, [], [], true, false, none⟩ := by
  unfold stepF ruleF; rw [hq]; simp [hL]
theorem stepF_take (hq : sl[pa]? = some c) (hL : lookF sl closed f wl (pa + 1) = 1) : stepF sl closed wl f k pa = ⟨pa + 1 + wl.length, (k + 1) % 4, (c :: wl).map charD ++ [tokD f wl], [errD "taken" ((pa + wl.length : Nat) : Int)], false, false, if f then some wl else none⟩ := by
  unfold stepF ruleF; rw [hq]; simp [hL]
theorem stepF_again (hq : sl[pa]? = some c) (hL : lookF sl closed f wl (pa + 1) = 0) (hk : k % 2 = 0) : stepF sl closed wl f k pa = ⟨pa, (k + 1) % 4, [], [], false, false, none⟩ := by
  unfold stepF ruleF; rw [hq]; simp [hL, hk]
theorem stepF_pass (hq : sl[pa]? = some c) (hL : lookF sl closed f wl (pa + 1) = 0) (hk : k % 2 = 1) : stepF sl closed wl f k pa = ⟨pa + 1, (k + 1) % 4, [charD c], [errD "passed" ((pa : Nat) : Int)], false, false, none⟩ := by
  unfold stepF ruleF; rw [hq]; simp [hL, hk]
theorem stepF_end (hq : sl[pa]? = none) : stepF sl closed wl f k pa = ⟨pa + 1, k, [eofD], [], false, true, none⟩ := by
  unfold stepF ruleF; rw [hq]; rfl
variable {g : Bool}
theorem stepF_waitG (hg : g = f) (hq : sl[pa]? = some c) (hL : lookF sl closed f wl (pa + 1) = -1) : stepF sl closed wl g k pa = ⟨pa, k, [], [], true, false, none⟩ := by subst hg; exact stepF_wait hq hL
theorem stepF_takeG (hg : g = f) (hq : sl[pa]? = some c) (hL : lookF sl closed f wl (pa + 1) = 1) : stepF sl closed wl g k pa = ⟨pa + 1 + wl.length, (k + 1) % 4, (c :: wl).map charD ++ [tokD f wl], [errD "taken" ((pa + wl.length : Nat) : Int)], false, false, if f then some wl else none⟩ := by subst hg; exact stepF_take hq hL
theorem stepF_againG (hg : g = f) (hq : sl[pa]? = some c) (hL : lookF sl closed f wl (pa + 1) = 0) (hk : k % 2 = 0) : stepF sl closed wl g k pa = ⟨pa, (k + 1) % 4, [], [], false, false, none⟩ := by subst hg; exact stepF_again hq hL hk
theorem stepF_passG (hg : g = f) (hq : sl[pa]? = some c) (hL : lookF sl closed f wl (pa + 1) = 0) (hk : k % 2 = 1) : stepF sl closed wl g k pa = ⟨pa + 1, (k + 1) % 4, [charD c], [errD "passed" ((pa : Nat) : Int)], false, false, none⟩ := by subst hg; exact stepF_pass hq hL hk
end
set_option maxHeartbeats 0 in
theorem lstep_spec (w : World) (W : Wd) (ws : Nat → List Nat × Bool) (sl : List Nat) (t1 t2 : Tok) (closed : Bool) (pa : Nat) (t3 : Tok) (k : Nat) (t4 : Tok) (hk4 : k < 4) (hsl : sl.length ≤ 1000) (hpa : pa ≤ 1000) (hwl : ∀ k < 4, (ws k).1.length ≤ 1000) :
    Spec w 12 355 [.str ⟨sl.toArray⟩ t1, .str ⟨(sl.map lowC).toArray⟩ t2, .bool closed, .ref W.a, .int (pa : Nat) t3, .int (k : Nat) t4] (wdLed W ws)
      (fun r led' => StepOut W ws (stepF sl closed (ws k).1 (ws k).2 k pa) r led') := by
  w_top off
  have hl1 : (⟨sl.toArray⟩ : Str).length ≤ 100000 := by rw [len_tx]; omega
  have hl2 : (⟨(ws k).1.toArray⟩ : Str).length ≤ 100000 := by rw [len_tx]; have := hwl k hk4; omega
  have hlE : ((⟨sl.toArray⟩ : Str).length : Int) = (sl.length : Int) := by rw [len_tx]
  have hwE : ((⟨(ws k).1.toArray⟩ : Str).length : Int) = ((ws k).1.length : Int) := by rw [len_tx]
  unfold Spec
  intro mg mb mean dp un gd cn cs a ccd cl outer A₀ base h₀ L m s Q E B F X N T hk hroom hun hret
  refine wpAny_call ?_
  k_dflt (refine' enterH ?k1'9 ?k2'9 ?k3'9 ?k4'9 ?k5'9 ?kA'9 ?kF'9 ?kK'9 ?k6'9 ?k7'9 ?k8'9 ?k9'9 ?kB'9 ?_ ?c2'9 ?c3'9 ?c4'9 ?c5'9; (case kA'9 => exact rfl); (case kF'9 => exact rfl); (case kK'9 => assumption); (case k1'9 => k_asm); (case k2'9 => k_asm); (case k3'9 => k_asm); (case k4'9 => k_asm); (case k5'9 => k_asm); (case k6'9 => k_is); (case k7'9 => k_is); (case k8'9 => (first | exact rm0 (by assumption) | exact rm1 (by assumption) (by decide) | k_extra "room" | ktr_room)); (case k9'9 => first | exact BindsTo.of_eq rfl | exact binds_K (by k_in) rfl (by k_is) rfl rfl rfl | exact hbind9 _ (by k_in)); (case c5'9 => decide); (case kB'9 => exact locs rfl); (case c2'9 => exact rfl); (case c3'9 => exact rfl); (case c4'9 => exact rfl); k_whole; intro _ _ _ _ _ _ _ _ l1'9; (try k_lt l1'9); (try dsimp only); (with_reducible refine (?_ : wpAny _ _ _ _ _ _)); (try ((fail_if_success (fail_if_success k_fold)); refine fold_QE ?_; intro _ _)); (try (revert l1'9; intro _)))
  rcases hq : sl[pa]? with _ | c
  · have hq2 := List.getElem?_eq_none_iff.mp hq
    k_with_none
    k_with "room" => (first | exact rmS2 (by assumption) (by decide) | exact rmS3 (by assumption) (by decide) | exact rmS4 (by assumption) (by decide) | exact rm2 (by assumption) (by decide) | exact rm0 (by assumption) | exact rm1 (by assumption) (by decide) | (dsimp +zetaDelta only; ktr_room))
    k_with "units" => (first | exact cl3 (by assumption) (by decide) | exact um2 (by assumption) (by decide) | exact um1 (by assumption) (by decide) | (dsimp +zetaDelta only; ktr_units))
    k_with "is_list" => (exact News.isList (by k_asm) (by k_mem))
    k_with "st" => (first | ((fail_if_success (fail_if_success k_unfold)); refine (?_ : wpAny _ _ _ _ _ _)) | (k_unfold; (try dsimp only)) | (k_end; wrow_close) | walk1 | (dsimp only; walk1) | (leave1; walk_say "STEP leave1"; try dsimp only) | fail "no step")
    k_with "om" => (first | assumption | with_reducible rfl | decide | exact Nat.le_trans (by assumption) (by decide) | exact Nat.lt_of_le_of_lt (by assumption) (by decide) | ((repeat (with_reducible rename _ ∧ _ => om9; clear om9)); first | ((repeat (with_reducible rename _ ≠ _ => om9; clear om9)); (repeat (with_reducible rename @Eq Nat _ _ => om9; clear om9)); (repeat (with_reducible rename @Eq Int _ _ => om9; clear om9)); omega +splitNatSub) | omega +splitNatSub))
    k_with "fold" => ((fail_if_success (fail_if_success k_fold)); refine fold_QES ?_; intro _ _ _ _)
    k_with "kne" => (first | ((refine (?_ : @Ne Nat _ _)); first | assumption | exact Ne.symm (by assumption) | k_extra "ne") | (refine neN ?_; (try dsimp only); first | assumption | exact Ne.symm (by assumption) | k_extra "ne" | omega))
    k_with "tb" => (repeat (first | exact List.forall_mem_nil _ | refine List.forall_mem_cons.mpr ⟨rfl, ?_⟩))
    k_with "ne" => with_reducible (first | exact na0 (by assumption) | exact ns0 (by assumption) | exact na1 (by assumption) | exact ns1 (by assumption) | exact na2 (by assumption) | exact ns2 (by assumption) | exact na3 (by assumption) | exact ns3 (by assumption) | exact na4 (by assumption) | exact ns4 (by assumption) | exact na5 (by assumption) | exact ns5 (by assumption) | exact na6 (by assumption) | exact ns6 (by assumption) | exact na7 (by assumption) | exact ns7 (by assumption) | exact na8 (by assumption) | exact ns8 (by assumption) | exact na9 (by assumption) | exact ns9 (by assumption) | exact na10 (by assumption) | exact ns10 (by assumption) | exact na11 (by assumption) | exact ns11 (by assumption) | exact na12 (by assumption) | exact ns12 (by assumption) | exact na13 (by assumption) | exact ns13 (by assumption) | exact na14 (by assumption) | exact ns14 (by assumption) | exact na15 (by assumption) | exact ns15 (by assumption))
    k_with "ne" => with_reducible (first | (show Tz.sts _ ≠ _; first | exact zn01 (by assumption) | exact zn02 (by assumption) | exact zn03 (by assumption) | exact zn04 (by assumption) | exact zn05 (by assumption) | exact zn06 (by assumption) | exact zn07 (by assumption) | exact zn08 (by assumption)) | (show Tz.td _ ≠ _; first | exact zn10 (by assumption) | exact zn12 (by assumption) | exact zn13 (by assumption) | exact zn14 (by assumption) | exact zn15 (by assumption) | exact zn16 (by assumption) | exact zn17 (by assumption) | exact zn18 (by assumption)) | (show Tz.t _ ≠ _; first | exact zn20 (by assumption) | exact zn21 (by assumption) | exact zn23 (by assumption) | exact zn24 (by assumption) | exact zn25 (by assumption) | exact zn26 (by assumption) | exact zn27 (by assumption) | exact zn28 (by assumption)) | (show Tz.sd _ ≠ _; first | exact zn30 (by assumption) | exact zn31 (by assumption) | exact zn32 (by assumption) | exact zn34 (by assumption) | exact zn35 (by assumption) | exact zn36 (by assumption) | exact zn37 (by assumption) | exact zn38 (by assumption)) | (show Tz.st _ ≠ _; first | exact zn40 (by assumption) | exact zn41 (by assumption) | exact zn42 (by assumption) | exact zn43 (by assumption) | exact zn45 (by assumption) | exact zn46 (by assumption) | exact zn47 (by assumption) | exact zn48 (by assumption)) | (show Tz.sg _ ≠ _; first | exact zn50 (by assumption) | exact zn51 (by assumption) | exact zn52 (by assumption) | exact zn53 (by assumption) | exact zn54 (by assumption) | exact zn56 (by assumption) | exact zn57 (by assumption) | exact zn58 (by assumption)) | (show Tz.se _ ≠ _; first | exact zn60 (by assumption) | exact zn61 (by assumption) | exact zn62 (by assumption) | exact zn63 (by assumption) | exact zn64 (by assumption) | exact zn65 (by assumption) | exact zn67 (by assumption) | exact zn68 (by assumption)) | (show Tz.ou _ ≠ _; first | exact zn70 (by assumption) | exact zn71 (by assumption) | exact zn72 (by assumption) | exact zn73 (by assumption) | exact zn74 (by assumption) | exact zn75 (by assumption) | exact zn76 (by assumption) | exact zn78 (by assumption)) | (show Tz.er _ ≠ _; first | exact zn80 (by assumption) | exact zn81 (by assumption) | exact zn82 (by assumption) | exact zn83 (by assumption) | exact zn84 (by assumption) | exact zn85 (by assumption) | exact zn86 (by assumption) | exact zn87 (by assumption)))
    k_with "execs cons" => ((try ((fail_if_success (fail_if_success k_fold)); refine fold_QE ?_; intro _ _)); refine ex_consA ?_; intro _ _ _ _; (try (with_reducible rename News _ _ _ _ => kN'9; dsimp only at kN'9)); (try (with_reducible rename Fr _ _ _ _ => kF'9; refine f_let kF'9 ?_; clear kF'9; intro _ _)))
    k_with "LeaveH" => (refine' leaveH_ ?k1'9 ?k2'9 ?_; (case k1'9 => k_asm); (case k2'9 => k_asm); k_whole; intro _ _ _ _)
    k_with "pyIter ref" => ((with_reducible show wpAny _ _ (pyIter _) (fun it s₂ => LoopAtV _ _ _ _ _ _ _ _ _ it s₂) _ _); refine Stop.mk ?_)
    k_with "pyIter str" => ((with_reducible show wpAny _ _ (pyIter _) (fun it s₂ => LoopAtV _ _ _ _ _ _ _ _ _ it s₂) _ _); refine Stop.mk ?_)
    k_with "call ref" => (k_extra "mine call")
    k_with "call builtin:len" => (k_here; (with_reducible show wpAny _ _ (call (Value.builtin "len") [Value.ref _]) _ _ _); (with_unfolding_all refine' len_listN ?k1'9 ?k2'9 ?_; (case k1'9 => is_list); (case k2'9 => omega); k_whole))
    k_with "subscriptTail" => (k_here; (with_reducible show wpAny _ _ (subscriptTail _ _ (Value.ref _) (Value.int _ _)) _ _ _); (with_unfolding_all refine' sign_item ?k1'9 ?k2'9 ?k3'9 ?k4'9 ?k5'9 ?_; (case k1'9 => is_list); (case k2'9 => assumption); (case k3'9 => assumption); (case k4'9 => (push_cast; omega)); (case k5'9 => omega); k_whole); intro _)
    k_with "subscriptTail" => (k_here; (with_reducible show wpAny _ _ (subscriptTail _ _ (Value.str _ _) (Value.int _ _)) _ _ _); (with_unfolding_all refine' char_item ?k1'9 ?k2'9 ?k3'9 ?_; (case k1'9 => assumption); (case k2'9 => (push_cast; omega)); (case k3'9 => omega); k_whole))
    k_with "TurnL" => (refine TurnL.ret ?_; (try dsimp only))
    k_with "subscriptTail Name Name str int" => (k_here; (with_reducible show wpAny _ _ (subscriptTail _ _ (Value.str _ _) (Value.int _ _)) _ _ _); (with_unfolding_all refine' char_item ?k1'9 ?k2'9 ?k3'9 ?_; (case k1'9 => assumption); (case k2'9 => (push_cast; omega)); (case k3'9 => omega); k_whole))
    k_with "exec For Name Name cons nil" => (k_here; (rename Fr _ _ _ _ => lF'9); (with_unfolding_all refine' For_invVF lF'9 ?k1'9 ?k2'9 ?_; (case k1'9 => exact rfl); (case k2'9 => exact rfl); k_whole))
    k_with "call builtin:list.append" => (k_here; (with_reducible show wpAny _ _ (call (Value.builtin _) [Value.ref _, _]) _ _ _); k_dflt (refine' append_K ?k1'9 ?k2'9 ?k3'9 ?_ ?z'9; (case k1'9 => k_asm); (case k2'9 => k_asm); (case k3'9 => k_upd); (case z'9 => assumption); k_whole); intro _ _ _; (try k_sweep))
    k_with "call builtin:str.split" => (k_here; (with_reducible show wpAny _ _ (call (Value.builtin "str.split") _) _ _ _); (refine KSpl.split1 (by k_asm) (by k_asm) (by decide) ?_ (by assumption)); (intro _ _ _ _ e'9 a'9 _ _ l1'9); (try k_lt l1'9); rw [e'9] at a'9; (try (revert a'9; intro _)); (try (revert l1'9; intro _)); (try (revert e'9; intro _)))
    k_with "subscriptTail" => (k_here; (with_reducible show wpAny _ _ (subscriptTail _ _ (Value.ref _) (Value.int _ _)) _ _ _); (with_unfolding_all refine' strs_item ?k1'9 ?k2'9 ?k3'9 ?k4'9 ?k5'9 ?_; (case k1'9 => is_list); (case k2'9 => assumption); (case k3'9 => assumption); (case k4'9 => rfl); (case k5'9 => omega); k_whole); intro _)
    k_with "subscriptTail Call Attribute cons nil Name ref int" => (k_here; (with_reducible show wpAny _ _ (subscriptTail _ _ (Value.ref _) (Value.int _ _)) _ _ _); (with_unfolding_all refine' strs_item ?k1'9 ?k2'9 ?k3'9 ?k4'9 ?k5'9 ?_; (case k1'9 => is_list); (case k2'9 => assumption); (case k3'9 => assumption); (case k4'9 => rfl); (case k5'9 => omega); k_whole); intro _)
    k_with "getMethod ref" => (k_here; (with_reducible show wpAny _ _ (getMethod (Value.ref _) (PySem.Str.ofString "index") _) _ _ _); k_dflt (refine' names_method ?N'9 ?m'9 ?_; (case N'9 => k_asm); (case m'9 => k_mem)))
    k_with "call builtin:tuple.index" => (k_here; k_dflt (refine' names_index ?k'9 ?N'9 ?m'9 ?_; (case N'9 => k_asm); (case m'9 => k_mem); (case k'9 => omega)))
    k_with "subscriptTail Name BinOp ref int" => (k_here; (with_reducible show wpAny _ _ (subscriptTail _ _ (Value.ref _) (Value.int _ _)) _ _ _); (with_unfolding_all refine' names_item ?N'9 ?m'9 ?hj'9 ?h5'9 ?_; (case N'9 => k_asm); (case m'9 => k_mem); (case hj'9 => assumption); (case h5'9 => omega); k_whole); intro _)
    k_with "subscriptTail Name Slice str ref" => (k_here; ((with_unfolding_all refine' cut_tail ?F'9 ?N'9 ?sz'9 ?_); (case F'9 => k_asm); (case N'9 => k_asm); (case sz'9 => assumption); intro _ _ _ _ _; (try k_sweep)))
    k_with "subscriptTail Name Constant str int" => (k_here; (with_unfolding_all refine' head_item ?sz'9 ?_); (case sz'9 => assumption))
    k_with "setAttr ref" => (k_here; k_dflt (first | (refine' set_tz ?k1'9 ?k2'9 ?k3'9 ?k4'9 ?k5'9 ?k6'9 ?k7'9 ?k8'9 ?k9'9 ?k10'9 ?k11'9 ?k12'9 ?k13'9 ?_; (case k1'9 => k_asm); (case k2'9 => k_asm); (case k3'9 => k_asm); (case k4'9 => k_inst); (case k5'9 => exact rfl); (case k6'9 => k_is); (case k7'9 => k_is); (case k8'9 => k_is); (case k9'9 => k_is); (case k10'9 => k_get); (case k11'9 => k_put); (case k12'9 => k_upd); (case k13'9 => exact Nat.le_of_ble_eq_true rfl); k_whole; intro _ _ _; (try k_sweep)) | (refine' set_st ?k1'9 ?k2'9 ?k3'9 ?k4'9 ?k5'9 ?k6'9 ?k7'9 ?k8'9 ?k9'9 ?k10'9 ?k11'9 ?k12'9 ?k13'9 ?_; (case k1'9 => k_asm); (case k2'9 => k_asm); (case k3'9 => k_asm); (case k4'9 => k_inst); (case k5'9 => exact rfl); (case k6'9 => k_is); (case k7'9 => k_is); (case k8'9 => k_is); (case k9'9 => k_is); (case k10'9 => k_get); (case k11'9 => k_put); (case k12'9 => k_upd); (case k13'9 => exact Nat.le_of_ble_eq_true rfl); k_whole; intro _ _ _; (try k_sweep))))
    k_with "eval BinOp" => k_extra "fold"
    k_with "eval Call" => k_extra "fold"
    k_with "eval List" => k_extra "fold"
    k_with "eval Tuple" => k_extra "fold"
    k_with "eval Subscript" => k_extra "fold"
    k_with "eval Compare" => k_extra "fold"
    k_with "eval BoolOp" => k_extra "fold"
    k_with "subscriptTail Name Name ref int" => (k_here; (refine' wd_item ?N'9 ?m'9 ?k'9 ?hk'9 ?_; (case N'9 => k_asm); (case m'9 => exact fun _ h => h); (case k'9 => rfl); (case hk'9 => assumption); (intro _)))
    k_with "exec Assign cons ListComp" => (k_here; refine Stop.mk ?_)
    k_steps
    rename News _ _ _ _ => N9
    rename Fresh _ _ _ => H9
    refine hret _ _ _ _ (by assumption) N9 (by assumption) H9 (so_intro (stepF_end hq) rfl rfl rfl rfl (by k_mem) (by k_mem) (by k_mem) (by repeat (first | exact subR | refine subH ?_)) ?_ .nil)
    exact .cons (.tuple (by k_mem) (.cons (.str _ _) .nil)) .nil
  · have hq2 := (List.getElem?_eq_some_iff.mp hq).1
    have hlk : llF (if (ws k).2 then sl.map lowC else sl) closed (ws k).1 (pa + 1) = lookF sl closed (ws k).2 (ws k).1 (pa + 1) := by
      cases (ws k).2
      · exact (look_ll sl closed _ (pa + 1)).symm
      · exact ((look_fold sl closed _ (pa + 1)).trans (look_ll _ closed _ (pa + 1))).symm
    have hat : ((pa : Int) + 1) = ((pa + 1 : Nat) : Int) := by push_cast; rfl
    have hwl' : (ws k).1.length ≤ 1000 := hwl k hk4
    k_with_none
    k_with "room" => (first | exact rmS2 (by assumption) (by decide) | exact rmS3 (by assumption) (by decide) | exact rmS4 (by assumption) (by decide) | exact rm2 (by assumption) (by decide) | exact rm0 (by assumption) | exact rm1 (by assumption) (by decide) | (dsimp +zetaDelta only; ktr_room))
    k_with "units" => (first | exact cl3 (by assumption) (by decide) | exact um2 (by assumption) (by decide) | exact um1 (by assumption) (by decide) | (dsimp +zetaDelta only; ktr_units))
    k_with "is_list" => (exact News.isList (by k_asm) (by k_mem))
    k_with "st" => (first | ((fail_if_success (fail_if_success k_unfold)); refine (?_ : wpAny _ _ _ _ _ _)) | (k_unfold; (try dsimp only)) | (k_end; wrow_close) | walk1 | (dsimp only; walk1) | (leave1; walk_say "STEP leave1"; try dsimp only) | fail "no step")
    k_with "om" => (first | assumption | with_reducible rfl | decide | exact Nat.le_trans (by assumption) (by decide) | exact Nat.lt_of_le_of_lt (by assumption) (by decide) | ((repeat (with_reducible rename _ ∧ _ => om9; clear om9)); first | ((repeat (with_reducible rename _ ≠ _ => om9; clear om9)); (repeat (with_reducible rename @Eq Nat _ _ => om9; clear om9)); (repeat (with_reducible rename @Eq Int _ _ => om9; clear om9)); omega +splitNatSub) | omega +splitNatSub))
    k_with "fold" => ((fail_if_success (fail_if_success k_fold)); refine fold_QES ?_; intro _ _ _ _)
    k_with "kne" => (first | ((refine (?_ : @Ne Nat _ _)); first | assumption | exact Ne.symm (by assumption) | k_extra "ne") | (refine neN ?_; (try dsimp only); first | assumption | exact Ne.symm (by assumption) | k_extra "ne" | omega))
    k_with "tb" => (repeat (first | exact List.forall_mem_nil _ | refine List.forall_mem_cons.mpr ⟨rfl, ?_⟩))
    k_with "ne" => with_reducible (first | exact na0 (by assumption) | exact ns0 (by assumption) | exact na1 (by assumption) | exact ns1 (by assumption) | exact na2 (by assumption) | exact ns2 (by assumption) | exact na3 (by assumption) | exact ns3 (by assumption) | exact na4 (by assumption) | exact ns4 (by assumption) | exact na5 (by assumption) | exact ns5 (by assumption) | exact na6 (by assumption) | exact ns6 (by assumption) | exact na7 (by assumption) | exact ns7 (by assumption) | exact na8 (by assumption) | exact ns8 (by assumption) | exact na9 (by assumption) | exact ns9 (by assumption) | exact na10 (by assumption) | exact ns10 (by assumption) | exact na11 (by assumption) | exact ns11 (by assumption) | exact na12 (by assumption) | exact ns12 (by assumption) | exact na13 (by assumption) | exact ns13 (by assumption) | exact na14 (by assumption) | exact ns14 (by assumption) | exact na15 (by assumption) | exact ns15 (by assumption))
    k_with "ne" => with_reducible (first | (show Tz.sts _ ≠ _; first | exact zn01 (by assumption) | exact zn02 (by assumption) | exact zn03 (by assumption) | exact zn04 (by assumption) | exact zn05 (by assumption) | exact zn06 (by assumption) | exact zn07 (by assumption) | exact zn08 (by assumption)) | (show Tz.td _ ≠ _; first | exact zn10 (by assumption) | exact zn12 (by assumption) | exact zn13 (by assumption) | exact zn14 (by assumption) | exact zn15 (by assumption) | exact zn16 (by assumption) | exact zn17 (by assumption) | exact zn18 (by assumption)) | (show Tz.t _ ≠ _; first | exact zn20 (by assumption) | exact zn21 (by assumption) | exact zn23 (by assumption) | exact zn24 (by assumption) | exact zn25 (by assumption) | exact zn26 (by assumption) | exact zn27 (by assumption) | exact zn28 (by assumption)) | (show Tz.sd _ ≠ _; first | exact zn30 (by assumption) | exact zn31 (by assumption) | exact zn32 (by assumption) | exact zn34 (by assumption) | exact zn35 (by assumption) | exact zn36 (by assumption) | exact zn37 (by assumption) | exact zn38 (by assumption)) | (show Tz.st _ ≠ _; first | exact zn40 (by assumption) | exact zn41 (by assumption) | exact zn42 (by assumption) | exact zn43 (by assumption) | exact zn45 (by assumption) | exact zn46 (by assumption) | exact zn47 (by assumption) | exact zn48 (by assumption)) | (show Tz.sg _ ≠ _; first | exact zn50 (by assumption) | exact zn51 (by assumption) | exact zn52 (by assumption) | exact zn53 (by assumption) | exact zn54 (by assumption) | exact zn56 (by assumption) | exact zn57 (by assumption) | exact zn58 (by assumption)) | (show Tz.se _ ≠ _; first | exact zn60 (by assumption) | exact zn61 (by assumption) | exact zn62 (by assumption) | exact zn63 (by assumption) | exact zn64 (by assumption) | exact zn65 (by assumption) | exact zn67 (by assumption) | exact zn68 (by assumption)) | (show Tz.ou _ ≠ _; first | exact zn70 (by assumption) | exact zn71 (by assumption) | exact zn72 (by assumption) | exact zn73 (by assumption) | exact zn74 (by assumption) | exact zn75 (by assumption) | exact zn76 (by assumption) | exact zn78 (by assumption)) | (show Tz.er _ ≠ _; first | exact zn80 (by assumption) | exact zn81 (by assumption) | exact zn82 (by assumption) | exact zn83 (by assumption) | exact zn84 (by assumption) | exact zn85 (by assumption) | exact zn86 (by assumption) | exact zn87 (by assumption)))
    k_with "execs cons" => ((try ((fail_if_success (fail_if_success k_fold)); refine fold_QE ?_; intro _ _)); refine ex_consA ?_; intro _ _ _ _; (try (with_reducible rename News _ _ _ _ => kN'9; dsimp only at kN'9)); (try (with_reducible rename Fr _ _ _ _ => kF'9; refine f_let kF'9 ?_; clear kF'9; intro _ _)))
    k_with "LeaveH" => (refine' leaveH_ ?k1'9 ?k2'9 ?_; (case k1'9 => k_asm); (case k2'9 => k_asm); k_whole; intro _ _ _ _)
    k_with "pyIter ref" => ((with_reducible show wpAny _ _ (pyIter _) (fun it s₂ => LoopAtV _ _ _ _ _ _ _ _ _ it s₂) _ _); refine Stop.mk ?_)
    k_with "pyIter str" => ((with_reducible show wpAny _ _ (pyIter _) (fun it s₂ => LoopAtV _ _ _ _ _ _ _ _ _ it s₂) _ _); refine Stop.mk ?_)
    k_with "call ref" => (k_extra "mine call")
    k_with "call builtin:len" => (k_here; (with_reducible show wpAny _ _ (call (Value.builtin "len") [Value.ref _]) _ _ _); (with_unfolding_all refine' len_listN ?k1'9 ?k2'9 ?_; (case k1'9 => is_list); (case k2'9 => omega); k_whole))
    k_with "subscriptTail" => (k_here; (with_reducible show wpAny _ _ (subscriptTail _ _ (Value.ref _) (Value.int _ _)) _ _ _); (with_unfolding_all refine' sign_item ?k1'9 ?k2'9 ?k3'9 ?k4'9 ?k5'9 ?_; (case k1'9 => is_list); (case k2'9 => assumption); (case k3'9 => assumption); (case k4'9 => (push_cast; omega)); (case k5'9 => omega); k_whole); intro _)
    k_with "subscriptTail" => (k_here; (with_reducible show wpAny _ _ (subscriptTail _ _ (Value.str _ _) (Value.int _ _)) _ _ _); (with_unfolding_all refine' char_item ?k1'9 ?k2'9 ?k3'9 ?_; (case k1'9 => assumption); (case k2'9 => (push_cast; omega)); (case k3'9 => omega); k_whole))
    k_with "TurnL" => (refine TurnL.ret ?_; (try dsimp only))
    k_with "subscriptTail Name Name str int" => (k_here; (with_reducible show wpAny _ _ (subscriptTail _ _ (Value.str _ _) (Value.int _ _)) _ _ _); (with_unfolding_all refine' char_item ?k1'9 ?k2'9 ?k3'9 ?_; (case k1'9 => assumption); (case k2'9 => (push_cast; omega)); (case k3'9 => omega); k_whole))
    k_with "exec For Name Name cons nil" => (k_here; (rename Fr _ _ _ _ => lF'9); (with_unfolding_all refine' For_invVF lF'9 ?k1'9 ?k2'9 ?_; (case k1'9 => exact rfl); (case k2'9 => exact rfl); k_whole))
    k_with "call builtin:list.append" => (k_here; (with_reducible show wpAny _ _ (call (Value.builtin _) [Value.ref _, _]) _ _ _); k_dflt (refine' append_K ?k1'9 ?k2'9 ?k3'9 ?_ ?z'9; (case k1'9 => k_asm); (case k2'9 => k_asm); (case k3'9 => k_upd); (case z'9 => assumption); k_whole); intro _ _ _; (try k_sweep))
    k_with "call builtin:str.split" => (k_here; (with_reducible show wpAny _ _ (call (Value.builtin "str.split") _) _ _ _); (refine KSpl.split1 (by k_asm) (by k_asm) (by decide) ?_ (by assumption)); (intro _ _ _ _ e'9 a'9 _ _ l1'9); (try k_lt l1'9); rw [e'9] at a'9; (try (revert a'9; intro _)); (try (revert l1'9; intro _)); (try (revert e'9; intro _)))
    k_with "subscriptTail" => (k_here; (with_reducible show wpAny _ _ (subscriptTail _ _ (Value.ref _) (Value.int _ _)) _ _ _); (with_unfolding_all refine' strs_item ?k1'9 ?k2'9 ?k3'9 ?k4'9 ?k5'9 ?_; (case k1'9 => is_list); (case k2'9 => assumption); (case k3'9 => assumption); (case k4'9 => rfl); (case k5'9 => omega); k_whole); intro _)
    k_with "subscriptTail Call Attribute cons nil Name ref int" => (k_here; (with_reducible show wpAny _ _ (subscriptTail _ _ (Value.ref _) (Value.int _ _)) _ _ _); (with_unfolding_all refine' strs_item ?k1'9 ?k2'9 ?k3'9 ?k4'9 ?k5'9 ?_; (case k1'9 => is_list); (case k2'9 => assumption); (case k3'9 => assumption); (case k4'9 => rfl); (case k5'9 => omega); k_whole); intro _)
    k_with "getMethod ref" => (k_here; (with_reducible show wpAny _ _ (getMethod (Value.ref _) (PySem.Str.ofString "index") _) _ _ _); k_dflt (refine' names_method ?N'9 ?m'9 ?_; (case N'9 => k_asm); (case m'9 => k_mem)))
    k_with "call builtin:tuple.index" => (k_here; k_dflt (refine' names_index ?k'9 ?N'9 ?m'9 ?_; (case N'9 => k_asm); (case m'9 => k_mem); (case k'9 => omega)))
    k_with "subscriptTail Name BinOp ref int" => (k_here; (with_reducible show wpAny _ _ (subscriptTail _ _ (Value.ref _) (Value.int _ _)) _ _ _); (with_unfolding_all refine' names_item ?N'9 ?m'9 ?hj'9 ?h5'9 ?_; (case N'9 => k_asm); (case m'9 => k_mem); (case hj'9 => assumption); (case h5'9 => omega); k_whole); intro _)
    k_with "subscriptTail Name Slice str ref" => (k_here; ((with_unfolding_all refine' cut_tail ?F'9 ?N'9 ?sz'9 ?_); (case F'9 => k_asm); (case N'9 => k_asm); (case sz'9 => assumption); intro _ _ _ _ _; (try k_sweep)))
    k_with "subscriptTail Name Constant str int" => (k_here; (with_unfolding_all refine' head_item ?sz'9 ?_); (case sz'9 => assumption))
    k_with "setAttr ref" => (k_here; k_dflt (first | (refine' set_tz ?k1'9 ?k2'9 ?k3'9 ?k4'9 ?k5'9 ?k6'9 ?k7'9 ?k8'9 ?k9'9 ?k10'9 ?k11'9 ?k12'9 ?k13'9 ?_; (case k1'9 => k_asm); (case k2'9 => k_asm); (case k3'9 => k_asm); (case k4'9 => k_inst); (case k5'9 => exact rfl); (case k6'9 => k_is); (case k7'9 => k_is); (case k8'9 => k_is); (case k9'9 => k_is); (case k10'9 => k_get); (case k11'9 => k_put); (case k12'9 => k_upd); (case k13'9 => exact Nat.le_of_ble_eq_true rfl); k_whole; intro _ _ _; (try k_sweep)) | (refine' set_st ?k1'9 ?k2'9 ?k3'9 ?k4'9 ?k5'9 ?k6'9 ?k7'9 ?k8'9 ?k9'9 ?k10'9 ?k11'9 ?k12'9 ?k13'9 ?_; (case k1'9 => k_asm); (case k2'9 => k_asm); (case k3'9 => k_asm); (case k4'9 => k_inst); (case k5'9 => exact rfl); (case k6'9 => k_is); (case k7'9 => k_is); (case k8'9 => k_is); (case k9'9 => k_is); (case k10'9 => k_get); (case k11'9 => k_put); (case k12'9 => k_upd); (case k13'9 => exact Nat.le_of_ble_eq_true rfl); k_whole; intro _ _ _; (try k_sweep))))
    k_with "eval BinOp" => k_extra "fold"
    k_with "eval Call" => k_extra "fold"
    k_with "eval List" => k_extra "fold"
    k_with "eval Tuple" => k_extra "fold"
    k_with "eval Subscript" => k_extra "fold"
    k_with "eval Compare" => k_extra "fold"
    k_with "eval BoolOp" => k_extra "fold"
    k_with "subscriptTail Name Name ref int" => (k_here; (refine' wd_item ?N'9 ?m'9 ?k'9 ?hk'9 ?_; (case N'9 => k_asm); (case m'9 => exact fun _ h => h); (case k'9 => rfl); (case hk'9 => assumption); (intro _)))
    k_with "exec Assign cons ListComp" => (k_here; refine Stop.mk ?_)
    k_with "mine call" => ((with_reducible show wpAny _ _ (call (Value.ref 350) _) _ _ _); refine Stop.mk ?_)
    cases hf : (ws k).2
    all_goals (
      rw [hf] at hlk
      simp only [if_true, if_false, Bool.false_eq_true] at hlk
      k_steps
      unfold Stop
      rw [hat]
      k_dflt (refine (llooks_spec w _ _ (pa + 1) _ (ws k).1 _ closed (by first | (rw [List.length_map]; omega) | omega) (by omega) (by omega)).use0 (by k_asm) (by k_asm) (by k_asm) (by k_asm) (by k_asm) rfl (by (first | exact rm0 (by assumption) | exact rm1 (by assumption) (by decide) | k_extra "room" | ktr_room)) (by (first | k_extra "units" | ktr_units)) ?_)
      rintro r led' h' tk' F' N' off ⟨rfl, tkr, rfl⟩
      rw [List.nil_append] at N'
      clear off
      rw [hlk]
      have h3 := look_three sl closed (ws k).2 (ws k).1 (pa + 1)
      rw [hf] at h3
      rcases h3 with hL | hL | hL
      · rw [hL]
        (try dsimp only)
        k_steps
        unfold Stop
        k_dflt (refine Assign_ListComp_S (F₀ := by k_asm) (by rfl) (by with_unfolding_all rfl) (by rfl) (by decide) (by rfl) (by decide) (by rfl) (by rfl) (by rfl) ?_)
        k_steps
        rename News _ _ _ _ => N9
        rename Fr _ _ _ _ => F9
        (try dsimp +zetaDelta only at F9)
        rw [str_cons]
        refine ⟨_, _, _, rfl, rfl, F9, N9, ?_, ?_⟩
        · show (c :: (ws k).1).toArray.size ≤ sizeLine
          rw [List.size_toArray, List.length_cons, sizeLine_eq]; omega
        rintro s₂ ⟨g₂, rfl⟩
        refine comp_rest (fun i ys nw => ∃ nt, nw = nt ++ wdTup W ws k :: wdLed W ws ∧ DatAll nw ys (((c :: (ws k).1).take i).map charD)) ⟨[], rfl, .nil⟩ ?_ ?_
        · rintro i v I oI C oC D m₂ ys nw h9 tk9 E9 hi ⟨cc, tc, hcc, rfl⟩ ⟨nt, rfl, hD⟩ hC hx F' N' off ne
          k_steps
          rename News _ _ _ _ => N8
          rename @LT.lt Nat _ _ _ ∧ _ => l8
          refine LCg.CompEnd.intro (by assumption) N8 (_ :: (nt ++ wdTup W ws k :: wdLed W ws)) comp_perm (off3_new off ⟨l8.1, l8.2.1, l8.2.2.1⟩) trivial ⟨_ :: nt, rfl, ?_⟩
          have hcc' : (c :: (ws k).1)[i]? = some cc := by simpa using hcc
          rw [List.take_add_one, hcc', List.map_append]
          exact (hD.mono fun p hp => .tail _ hp).append (.cons (.tuple (.head _) (.cons (.str _ _) (.cons (.str _ _) .nil))) .nil)
        · rintro ys nw ⟨nt, rfl, hD⟩
          unfold LCg.FinA
          intro D9 h9 tk9 F9 N9 o9
          have hoff := off1_own o9
          have hsub : ∀ p ∈ wdLed W ws, p ∈ nt ++ wdTup W ws k :: wdLed W ws := fun p hp => List.mem_append_right _ (.tail _ hp)
          have hsize : (c :: (ws k).1).toArray.size = (c :: (ws k).1).length := by simp
          have hysl := hD.length
          rw [hsize, List.take_length] at hD hysl
          rw [List.length_map, List.length_cons] at hysl
          have hysz : ys.toArray.size ≤ sizeLine := by rw [List.size_toArray, sizeLine_eq]; omega
          generalize nt ++ wdTup W ws k :: wdLed W ws = tl at *
          have hbeh : Int.fmod ((k : Int) + 1) 4 = (((k + 1) % 4 : Nat) : Int) := by
            rw [Int.fmod_eq_emod_of_nonneg _ (by omega)]; push_cast; rfl
          have e1 : ((pa : Int) + 1 + ((⟨(ws k).1.toArray⟩ : Str).length : Int)) = ((pa + 1 + (ws k).1.length : Nat) : Int) := by rw [hwE]; push_cast; rfl
          have e3 : ((pa : Int) + 1 + ((⟨(ws k).1.toArray⟩ : Str).length : Int) - 1) = ((pa + (ws k).1.length : Nat) : Int) := by rw [e1]; omega
          k_steps
          rename News _ _ _ _ => N9
          rename Fresh _ _ _ => H9
          refine hret _ _ _ _ (by assumption) N9 (by assumption) H9 (so_intro (stepF_takeG hf hq hL) e1 hbeh (List.push_toArray _ _) rfl (by k_mem) (by k_mem) (by k_mem) (by repeat (first | exact hsub | refine subH ?_)) ?_ ?_)
          · refine (hD.mono fun p hp => by repeat (first | exact hp | apply List.Mem.tail)).append (.cons (.tuple (by k_mem) (.cons (.str _ _) (.cons (.str _ _) (.cons (.tuple (by k_mem) .nil) (.cons (.bool _) .nil))))) .nil)
          · rw [← e3]; exact .cons (.tuple (by k_mem) (.cons (.str _ _) (.cons (.int _ _) .nil))) .nil
      · rw [hL]
        (try dsimp only)
        rcases Nat.mod_two_eq_zero_or_one k with hk2 | hk2
        · have hpar : Int.fmod (k : Int) 2 = 0 := by rw [Int.fmod_eq_emod_of_nonneg _ (by omega)]; omega
          have hkk : ((k : Int) + 1) = (((k + 1) % 4 : Nat) : Int) := by omega
          k_steps
          · rename News _ _ _ _ => N9
            rename Fresh _ _ _ => H9
            exact hret _ _ _ _ (by assumption) N9 (by assumption) H9 (so_intro (stepF_againG hf hq hL hk2) rfl hkk rfl rfl (by k_mem) (by k_mem) (by k_mem) (by repeat (first | exact subR | refine subH ?_)) .nil .nil)
          · exact absurd hpar (by assumption)
        · have hpar : Int.fmod (k : Int) 2 = 1 := by rw [Int.fmod_eq_emod_of_nonneg _ (by omega)]; omega
          have hbeh : Int.fmod ((k : Int) + 1) 4 = (((k + 1) % 4 : Nat) : Int) := by
            rw [Int.fmod_eq_emod_of_nonneg _ (by omega)]; push_cast; rfl
          k_steps
          · exact absurd (hpar.symm.trans (by assumption)) (by decide)
          · rename News _ _ _ _ => N9
            rename Fresh _ _ _ => H9
            refine hret _ _ _ _ (by assumption) N9 (by assumption) H9 (so_intro (stepF_passG hf hq hL hk2) hat hbeh rfl rfl (by k_mem) (by k_mem) (by k_mem) (by repeat (first | exact subR | refine subH ?_)) ?_ ?_)
            · exact .cons (.tuple (by k_mem) (.cons (.str _ _) (.cons (.str _ _) .nil))) .nil
            · exact .cons (.tuple (by k_mem) (.cons (.str _ _) (.cons (.int _ _) .nil))) .nil
      · rw [hL]
        (try dsimp only)
        k_steps
        rename News _ _ _ _ => N9
        rename Fresh _ _ _ => H9
        exact hret _ _ _ _ (by assumption) N9 (by assumption) H9 (so_intro (stepF_waitG hf hq hL) rfl rfl rfl rfl (by k_mem) (by k_mem) (by k_mem) (by repeat (first | exact subR | refine subH ?_)) .nil .nil))
end
section
/-- what a look at the whole tokenizer gives -/
noncomputable def seenVals (o e : Addr) (a k l : Value) (wt dn : Bool) : List Value := [.ref o, .ref e, a, k, l, .bool wt, .bool dn]
noncomputable def SeenOut (r : Value) (led' : Led) (led : Led) (out errs : List Value) (at' : Nat) (state last : Str) (wt dn : Bool) : Prop :=
  ∃ q o e n0 n1 n2 t1 t2 t3, r = .ref q ∧ (q, listOf [Value.ref o, .ref e, .int (at' : Nat) t1, .str state t2, .str last t3, .bool wt, .bool dn].toArray n0) ∈ led' ∧ (o, listOf out.toArray n1) ∈ led' ∧ (e, listOf errs.toArray n2) ∈ led' ∧ ∀ p ∈ led, p ∈ led'
section
variable {r : Value} {led' led : Led} {out errs : List Value} {at' : Nat} {state last : Str} {wt dn : Bool}
theorem seen_ro : ∀ r l, SeenOut r l led out errs at' state last wt dn → ∀ p ∈ led, p ∈ l := by
  rintro _ _ ⟨_, _, _, _, _, _, _, _, _, _, _, _, _, h⟩; exact h
theorem SeenOut.elim {C : Prop} (h : SeenOut r led' led out errs at' state last wt dn)
    (k : ∀ q o e n0 n1 n2 t1 t2 t3, r = .ref q → (q, listOf [Value.ref o, .ref e, .int (at' : Nat) t1, .str state t2, .str last t3, .bool wt, .bool dn].toArray n0) ∈ led' → (o, listOf out.toArray n1) ∈ led' → (e, listOf errs.toArray n2) ∈ led' → (∀ p ∈ led, p ∈ led') → C) : C := by
  obtain ⟨q, o, e, n0, n1, n2, t1, t2, t3, h1, h2, h3, h4, h5⟩ := h
  exact k q o e n0 n1 n2 t1 t2 t3 h1 h2 h3 h4 h5
theorem SeenOut.mk' {q o e : Addr} {n0 n1 n2 : Nat} {t1 t2 t3 : Tok} (h2 : (q, listOf [Value.ref o, .ref e, .int (at' : Nat) t1, .str state t2, .str last t3, .bool wt, .bool dn].toArray n0) ∈ led') (h3 : (o, listOf out.toArray n1) ∈ led') (h4 : (e, listOf errs.toArray n2) ∈ led') (h5 : ∀ p ∈ led, p ∈ led') :
    SeenOut (.ref q) led' led out errs at' state last wt dn := ⟨q, o, e, n0, n1, n2, t1, t2, t3, rfl, h2, h3, h4, h5⟩
end
set_option maxHeartbeats 0 in
theorem seen_spec (w : World) (Z : Tz) (S : Ts) (ho1 : S.out.length ≤ 10000) (ho2 : S.errs.length ≤ 10000) :
    Spec w 5 367 [.ref Z.t] (tzLed w Z S) (fun r led' => SeenOut r led' (tzLed w Z S) S.out S.errs S.at' S.state S.last S.waiting S.done) := by
  w_top off
  have hosz : S.out.toArray.size ≤ sizeLine := by rw [List.size_toArray, sizeLine_eq]; omega
  have hesz : S.errs.toArray.size ≤ sizeLine := by rw [List.size_toArray, sizeLine_eq]; omega
  unfold Spec
  intro mg mb mean dp un gd cn cs a ccd cl outer A₀ base h₀ L m s Q E B F X N T hk hroom hun hret
  refine wpAny_call ?_
  k_dflt (refine' enterH ?k1'9 ?k2'9 ?k3'9 ?k4'9 ?k5'9 ?kA'9 ?kF'9 ?kK'9 ?k6'9 ?k7'9 ?k8'9 ?k9'9 ?kB'9 ?_ ?c2'9 ?c3'9 ?c4'9 ?c5'9; (case kA'9 => exact rfl); (case kF'9 => exact rfl); (case kK'9 => assumption); (case k1'9 => k_asm); (case k2'9 => k_asm); (case k3'9 => k_asm); (case k4'9 => k_asm); (case k5'9 => k_asm); (case k6'9 => k_is); (case k7'9 => k_is); (case k8'9 => (first | exact rm0 (by assumption) | exact rm1 (by assumption) (by decide) | k_extra "room" | ktr_room)); (case k9'9 => first | exact BindsTo.of_eq rfl | exact binds_K (by k_in) rfl (by k_is) rfl rfl rfl | exact hbind9 _ (by k_in)); (case c5'9 => decide); (case kB'9 => exact locs rfl); (case c2'9 => exact rfl); (case c3'9 => exact rfl); (case c4'9 => exact rfl); k_whole; intro _ _ _ _ _ _ _ _ l1'9; (try k_lt l1'9); (try dsimp only); (with_reducible refine (?_ : wpAny _ _ _ _ _ _)); (try ((fail_if_success (fail_if_success k_fold)); refine fold_QE ?_; intro _ _)); (try (revert l1'9; intro _)))
  k_with_none
  k_with "room" => (first | exact rmS2 (by assumption) (by decide) | exact rmS3 (by assumption) (by decide) | exact rmS4 (by assumption) (by decide) | exact rm2 (by assumption) (by decide) | exact rm0 (by assumption) | exact rm1 (by assumption) (by decide) | (dsimp +zetaDelta only; ktr_room))
  k_with "units" => (first | exact cl3 (by assumption) (by decide) | exact um2 (by assumption) (by decide) | exact um1 (by assumption) (by decide) | (dsimp +zetaDelta only; ktr_units))
  k_with "is_list" => (exact News.isList (by k_asm) (by k_mem))
  k_with "st" => (first | ((fail_if_success (fail_if_success k_unfold)); refine (?_ : wpAny _ _ _ _ _ _)) | (k_unfold; (try dsimp only)) | (k_end; wrow_close) | walk1 | (dsimp only; walk1) | (leave1; walk_say "STEP leave1"; try dsimp only) | fail "no step")
  k_with "om" => (first | assumption | with_reducible rfl | decide | exact Nat.le_trans (by assumption) (by decide) | exact Nat.lt_of_le_of_lt (by assumption) (by decide) | ((repeat (with_reducible rename _ ∧ _ => om9; clear om9)); first | ((repeat (with_reducible rename _ ≠ _ => om9; clear om9)); (repeat (with_reducible rename @Eq Nat _ _ => om9; clear om9)); (repeat (with_reducible rename @Eq Int _ _ => om9; clear om9)); omega +splitNatSub) | omega +splitNatSub))
  k_with "fold" => ((fail_if_success (fail_if_success k_fold)); refine fold_QES ?_; intro _ _ _ _)
  k_with "kne" => (first | ((refine (?_ : @Ne Nat _ _)); first | assumption | exact Ne.symm (by assumption) | k_extra "ne") | (refine neN ?_; (try dsimp only); first | assumption | exact Ne.symm (by assumption) | k_extra "ne" | omega))
  k_with "tb" => (repeat (first | exact List.forall_mem_nil _ | refine List.forall_mem_cons.mpr ⟨rfl, ?_⟩))
  k_with "ne" => with_reducible (first | exact na0 (by assumption) | exact ns0 (by assumption) | exact na1 (by assumption) | exact ns1 (by assumption) | exact na2 (by assumption) | exact ns2 (by assumption) | exact na3 (by assumption) | exact ns3 (by assumption) | exact na4 (by assumption) | exact ns4 (by assumption) | exact na5 (by assumption) | exact ns5 (by assumption) | exact na6 (by assumption) | exact ns6 (by assumption) | exact na7 (by assumption) | exact ns7 (by assumption) | exact na8 (by assumption) | exact ns8 (by assumption) | exact na9 (by assumption) | exact ns9 (by assumption) | exact na10 (by assumption) | exact ns10 (by assumption) | exact na11 (by assumption) | exact ns11 (by assumption) | exact na12 (by assumption) | exact ns12 (by assumption) | exact na13 (by assumption) | exact ns13 (by assumption) | exact na14 (by assumption) | exact ns14 (by assumption) | exact na15 (by assumption) | exact ns15 (by assumption))
  k_with "ne" => with_reducible (first | (show Tz.sts _ ≠ _; first | exact zn01 (by assumption) | exact zn02 (by assumption) | exact zn03 (by assumption) | exact zn04 (by assumption) | exact zn05 (by assumption) | exact zn06 (by assumption) | exact zn07 (by assumption) | exact zn08 (by assumption)) | (show Tz.td _ ≠ _; first | exact zn10 (by assumption) | exact zn12 (by assumption) | exact zn13 (by assumption) | exact zn14 (by assumption) | exact zn15 (by assumption) | exact zn16 (by assumption) | exact zn17 (by assumption) | exact zn18 (by assumption)) | (show Tz.t _ ≠ _; first | exact zn20 (by assumption) | exact zn21 (by assumption) | exact zn23 (by assumption) | exact zn24 (by assumption) | exact zn25 (by assumption) | exact zn26 (by assumption) | exact zn27 (by assumption) | exact zn28 (by assumption)) | (show Tz.sd _ ≠ _; first | exact zn30 (by assumption) | exact zn31 (by assumption) | exact zn32 (by assumption) | exact zn34 (by assumption) | exact zn35 (by assumption) | exact zn36 (by assumption) | exact zn37 (by assumption) | exact zn38 (by assumption)) | (show Tz.st _ ≠ _; first | exact zn40 (by assumption) | exact zn41 (by assumption) | exact zn42 (by assumption) | exact zn43 (by assumption) | exact zn45 (by assumption) | exact zn46 (by assumption) | exact zn47 (by assumption) | exact zn48 (by assumption)) | (show Tz.sg _ ≠ _; first | exact zn50 (by assumption) | exact zn51 (by assumption) | exact zn52 (by assumption) | exact zn53 (by assumption) | exact zn54 (by assumption) | exact zn56 (by assumption) | exact zn57 (by assumption) | exact zn58 (by assumption)) | (show Tz.se _ ≠ _; first | exact zn60 (by assumption) | exact zn61 (by assumption) | exact zn62 (by assumption) | exact zn63 (by assumption) | exact zn64 (by assumption) | exact zn65 (by assumption) | exact zn67 (by assumption) | exact zn68 (by assumption)) | (show Tz.ou _ ≠ _; first | exact zn70 (by assumption) | exact zn71 (by assumption) | exact zn72 (by assumption) | exact zn73 (by assumption) | exact zn74 (by assumption) | exact zn75 (by assumption) | exact zn76 (by assumption) | exact zn78 (by assumption)) | (show Tz.er _ ≠ _; first | exact zn80 (by assumption) | exact zn81 (by assumption) | exact zn82 (by assumption) | exact zn83 (by assumption) | exact zn84 (by assumption) | exact zn85 (by assumption) | exact zn86 (by assumption) | exact zn87 (by assumption)))
  k_with "execs cons" => ((try ((fail_if_success (fail_if_success k_fold)); refine fold_QE ?_; intro _ _)); refine ex_consA ?_; intro _ _ _ _; (try (with_reducible rename News _ _ _ _ => kN'9; dsimp only at kN'9)); (try (with_reducible rename Fr _ _ _ _ => kF'9; refine f_let kF'9 ?_; clear kF'9; intro _ _)))
  k_with "LeaveH" => (refine' leaveH_ ?k1'9 ?k2'9 ?_; (case k1'9 => k_asm); (case k2'9 => k_asm); k_whole; intro _ _ _ _)
  k_with "pyIter ref" => ((with_reducible show wpAny _ _ (pyIter _) (fun it s₂ => LoopAtV _ _ _ _ _ _ _ _ _ it s₂) _ _); refine Stop.mk ?_)
  k_with "pyIter str" => ((with_reducible show wpAny _ _ (pyIter _) (fun it s₂ => LoopAtV _ _ _ _ _ _ _ _ _ it s₂) _ _); refine Stop.mk ?_)
  k_with "call ref" => (k_extra "mine call")
  k_with "call builtin:len" => (k_here; (with_reducible show wpAny _ _ (call (Value.builtin "len") [Value.ref _]) _ _ _); (with_unfolding_all refine' len_listN ?k1'9 ?k2'9 ?_; (case k1'9 => is_list); (case k2'9 => omega); k_whole))
  k_with "subscriptTail" => (k_here; (with_reducible show wpAny _ _ (subscriptTail _ _ (Value.ref _) (Value.int _ _)) _ _ _); (with_unfolding_all refine' sign_item ?k1'9 ?k2'9 ?k3'9 ?k4'9 ?k5'9 ?_; (case k1'9 => is_list); (case k2'9 => assumption); (case k3'9 => assumption); (case k4'9 => (push_cast; omega)); (case k5'9 => omega); k_whole); intro _)
  k_with "subscriptTail" => (k_here; (with_reducible show wpAny _ _ (subscriptTail _ _ (Value.str _ _) (Value.int _ _)) _ _ _); (with_unfolding_all refine' char_item ?k1'9 ?k2'9 ?k3'9 ?_; (case k1'9 => assumption); (case k2'9 => (push_cast; omega)); (case k3'9 => omega); k_whole))
  k_with "TurnL" => (refine TurnL.ret ?_; (try dsimp only))
  k_with "subscriptTail Name Name str int" => (k_here; (with_reducible show wpAny _ _ (subscriptTail _ _ (Value.str _ _) (Value.int _ _)) _ _ _); (with_unfolding_all refine' char_item ?k1'9 ?k2'9 ?k3'9 ?_; (case k1'9 => assumption); (case k2'9 => (push_cast; omega)); (case k3'9 => omega); k_whole))
  k_with "exec For Name Name cons nil" => (k_here; (rename Fr _ _ _ _ => lF'9); (with_unfolding_all refine' For_invVF lF'9 ?k1'9 ?k2'9 ?_; (case k1'9 => exact rfl); (case k2'9 => exact rfl); k_whole))
  k_with "call builtin:list.append" => (k_here; (with_reducible show wpAny _ _ (call (Value.builtin _) [Value.ref _, _]) _ _ _); k_dflt (refine' append_K ?k1'9 ?k2'9 ?k3'9 ?_ ?z'9; (case k1'9 => k_asm); (case k2'9 => k_asm); (case k3'9 => k_upd); (case z'9 => assumption); k_whole); intro _ _ _; (try k_sweep))
  k_with "setAttr ref" => (k_here; k_dflt (first | (refine' set_tz ?k1'9 ?k2'9 ?k3'9 ?k4'9 ?k5'9 ?k6'9 ?k7'9 ?k8'9 ?k9'9 ?k10'9 ?k11'9 ?k12'9 ?k13'9 ?_; (case k1'9 => k_asm); (case k2'9 => k_asm); (case k3'9 => k_asm); (case k4'9 => k_inst); (case k5'9 => exact rfl); (case k6'9 => k_is); (case k7'9 => k_is); (case k8'9 => k_is); (case k9'9 => k_is); (case k10'9 => k_get); (case k11'9 => k_put); (case k12'9 => k_upd); (case k13'9 => exact Nat.le_of_ble_eq_true rfl); k_whole; intro _ _ _; (try k_sweep)) | (refine' set_st ?k1'9 ?k2'9 ?k3'9 ?k4'9 ?k5'9 ?k6'9 ?k7'9 ?k8'9 ?k9'9 ?k10'9 ?k11'9 ?k12'9 ?k13'9 ?_; (case k1'9 => k_asm); (case k2'9 => k_asm); (case k3'9 => k_asm); (case k4'9 => k_inst); (case k5'9 => exact rfl); (case k6'9 => k_is); (case k7'9 => k_is); (case k8'9 => k_is); (case k9'9 => k_is); (case k10'9 => k_get); (case k11'9 => k_put); (case k12'9 => k_upd); (case k13'9 => exact Nat.le_of_ble_eq_true rfl); k_whole; intro _ _ _; (try k_sweep))))
  k_with "eval BinOp" => k_extra "fold"
  k_with "eval Call" => k_extra "fold"
  k_with "eval List" => k_extra "fold"
  k_with "eval Tuple" => k_extra "fold"
  k_with "eval Subscript" => k_extra "fold"
  k_with "eval Compare" => k_extra "fold"
  k_with "eval BoolOp" => k_extra "fold"
  k_steps
  rename News _ _ _ _ => N9
  rename Fresh _ _ _ => H9
  simp only [List.append_nil] at N9 H9
  exact hret _ _ _ _ (by assumption) N9 (by assumption) H9 (SeenOut.mk' (by k_mem) (by k_mem) (by k_mem) (by repeat (first | exact subR | refine subH ?_)))
end
section
theorem stepF_len {sl : List Nat} {closed f : Bool} {wl : List Nat} {k pa : Nat} : (stepF sl closed wl f k pa).out.length ≤ wl.length + 2 ∧ (stepF sl closed wl f k pa).errs.length ≤ 1 := by
  unfold stepF ruleF
  cases sl[pa]? with
  | none => simp
  | some c =>
    dsimp only
    split
    · simp
    · split
      · simp
      · split <;> simp
theorem strs_last {w : World} {A : Around} {E : Value → Shared → Prop} {s : Shared} {h₀ : Heap} {L l : Addr} {news : Led} {vs : List Value} {ys : List Str} {y : Str} {n : Nat} {u : Tok} {value slice : PySem.Expr} {Q : Value → Shared → Prop} (N : News h₀ L s.heap news) (hm : (l, W.listOf vs.toArray n) ∈ news) (hs : StrsAre vs (ys ++ [y])) (h : ∀ t, Q (.str y t) s)
    (hs' : subscripted slice false (.ref l) (.int (-1) u) = operate [.ref l, .int (-1) u] (getItem (.ref l) (.int (-1) u)) := by with_unfolding_all rfl) :
    wpAny (model prg w) A (subscriptTail value slice (.ref l) (.int (-1) u)) Q E s := by
  have hl : s.heap.IsList l vs.toArray := News.isList N hm
  have hlen := hs.len_eq
  rw [List.length_append, List.length_singleton] at hlen
  obtain ⟨t, ht⟩ := hs.at (j := ys.length) (y := y) (by simp)
  refine tail_any hl.typeIs slot_list_getitem.lookup (wpAny_getItem_list_neg hl (by decide) (by simp; omega) (by decide) ?_ (h t)) hs'
  have e : ((-1 : Int) + (vs.toArray.size : Int)).toNat = ys.length := by rw [List.size_toArray]; omega
  rw [e]; simpa using ht
theorem sub_swap2 {t a b : Addr × Obj} {l : Led} : ∀ p ∈ a :: b :: l, p ∈ t :: b :: a :: l := by
  intro p hp
  simp only [List.mem_cons] at hp ⊢
  rcases hp with h | h | h
  · exact .inr (.inr (.inl h))
  · exact .inr (.inl h)
  · exact .inr (.inr (.inr h))
noncomputable def mc0 : Mc := ⟨0, 0, [], [], [], false, false⟩
/-- the names of the law's own machine -/
noncomputable def stPs (W : Wd) (sl : List Nat) (closed four : Bool) (c : Mc) (x1 x2 x3 x4 x5 : Tok) (O E : Addr) : List (Str × Value) :=
  [("text", .str ⟨sl.toArray⟩ x1), ("is_closed", .bool closed), ("words", .ref W.a), ("many", .int (manyOf four : Nat) x2), ("small", .str ⟨(sl.map lowC).toArray⟩ x3), ("at", .int (c.at' : Nat) x4), ("k", .int (c.k : Nat) x5), ("out", .ref O), ("errors", .ref E), ("is_waiting", .bool c.waiting), ("is_done", .bool c.done)]
section
variable {four closed : Bool} {sl : List Nat} {c : Mc}
theorem rd1 (a : (c.k : Int) < (manyOf four : Nat)) (b : c.waiting = true) : false = ready four sl.length closed c := by simp [ready, b]
theorem rd2 (b : c.done = true) : false = ready four sl.length closed c := by simp [ready, b]
theorem rd3 (a : (c.k : Int) < (manyOf four : Nat)) (b : c.waiting = false) (d : c.done = false) (e : closed = true) : true = ready four sl.length closed c := by
  have := Int.ofNat_lt.mp a
  simp [ready, b, d, e, this]
theorem rd4 (a : (c.k : Int) < (manyOf four : Nat)) (b : c.waiting = false) (d : c.done = false) (e : (c.at' : Int) < ((⟨sl.toArray⟩ : Str).length : Nat)) : true = ready four sl.length closed c := by
  have := Int.ofNat_lt.mp a
  rw [len_tx] at e
  have e := Int.ofNat_lt.mp e
  simp [ready, b, d, e, this]
theorem rd5 (d : closed = false) (e : ¬ (c.at' : Int) < ((⟨sl.toArray⟩ : Str).length : Nat)) : false = ready four sl.length closed c := by
  rw [len_tx, Int.ofNat_lt] at e
  simp [ready, d, e]
theorem rd6 (a : ¬ (c.k : Int) < (manyOf four : Nat)) : false = ready four sl.length closed c := by
  rw [Int.ofNat_lt] at a
  simp [ready, a]
end
/-- a machine as the law tells it -/
noncomputable def seenD (c : Mc) : Dat := .list [.list c.out, .list c.errs, .int (c.at' : Nat), .str (nm c.k), .str ⟨c.last.toArray⟩, .bool c.waiting, .bool c.done]
/-- the word of a start token -/
noncomputable def startOf : Dat → Option (List Nat)
  | .tuple (.str k :: .str x :: _ :: _) => if k == Str.ofString "start" then some x.cps.toList else none
  | _ => none
noncomputable def TokD (d : Dat) : Prop := d = eofD ∨ (∃ c, d = charD c) ∨ ∃ f wl, d = tokD f wl
theorem start_eof : startOf eofD = none := rfl
theorem start_char (c : Nat) : startOf (charD c) = none := rfl
theorem start_tok (f : Bool) (wl : List Nat) : startOf (tokD f wl) = if f then some wl else none := by
  cases f
  · rfl
  · show (if (Str.ofString "start" == Str.ofString "start") = true then some wl else none) = _
    rw [beq_self_eq_true]
noncomputable def lastOf (out : List Dat) : List Nat := ((out.filterMap startOf).getLast?).getD []
theorem stepF_tok {sl : List Nat} {closed f : Bool} {wl : List Nat} {k pa : Nat} : (∀ d ∈ (stepF sl closed wl f k pa).out, TokD d) ∧ ((stepF sl closed wl f k pa).out.filterMap startOf = (stepF sl closed wl f k pa).last.toList) ∧ (stepF sl closed wl f k pa).done = decide (sl.length ≤ pa) := by
  have hch : ∀ l : List Nat, (l.map charD).filterMap startOf = [] := by
    intro l
    induction l with
    | nil => rfl
    | cons c r ih => rw [List.map_cons, List.filterMap_cons, start_char, ih]
  have hct : ∀ l : List Nat, ∀ d ∈ l.map charD, TokD d := fun l d hd => by
    obtain ⟨c, _, rfl⟩ := List.mem_map.mp hd; exact .inr (.inl ⟨c, rfl⟩)
  rcases hq : sl[pa]? with _ | c
  · rw [stepF_end hq]
    have := List.getElem?_eq_none_iff.mp hq
    refine ⟨fun d hd => ?_, rfl, by simp [this]⟩
    rw [List.mem_singleton.mp hd]; exact .inl rfl
  · have hlt := (List.getElem?_eq_some_iff.mp hq).1
    have hd : false = decide (sl.length ≤ pa) := by simp; omega
    rcases look_three sl closed f wl (pa + 1) with hL | hL | hL
    · rw [stepF_take hq hL]
      refine ⟨fun d hd => ?_, ?_, hd⟩
      · rcases List.mem_append.mp hd with hd | hd
        · exact hct _ d hd
        · rw [List.mem_singleton.mp hd]; exact .inr (.inr ⟨f, wl, rfl⟩)
      · dsimp only
        rw [List.filterMap_append, hch, List.nil_append, List.filterMap_cons, start_tok]
        cases f <;> rfl
    · rcases Nat.mod_two_eq_zero_or_one k with hk | hk
      · rw [stepF_again hq hL hk]; exact ⟨fun d hd => (nomatch hd), rfl, hd⟩
      · rw [stepF_pass hq hL hk]; exact ⟨fun d hd => by rw [List.mem_singleton.mp hd]; exact .inr (.inl ⟨c, rfl⟩), rfl, hd⟩
    · rw [stepF_wait hq hL]; exact ⟨fun d hd => (nomatch hd), rfl, hd⟩
theorem runs_tok {four : Bool} {sl : List Nat} {closed : Bool} {ws : Nat → List Nat × Bool} {n : Nat} {c c' : Mc} (h : RunsIn four sl closed ws n c c') : (∀ d ∈ c.out, TokD d) → c.last = lastOf c.out → (∀ d ∈ c'.out, TokD d) ∧ c'.last = lastOf c'.out := by
  induction h with
  | stop _ _ => exact fun a b => ⟨a, b⟩
  | @step c c' n hr h1 h2 h3 rr ih =>
    intro a b
    obtain ⟨k1, k2, _⟩ := @stepF_tok sl closed (ws c.k).2 (ws c.k).1 c.k c.at'
    refine ih (fun d hd => ?_) ?_
    · rcases List.mem_append.mp hd with hd | hd
      · exact a d hd
      · exact k1 d hd
    · show (stepF sl closed (ws c.k).1 (ws c.k).2 c.k c.at').last.getD c.last = lastOf (c.out ++ (stepF sl closed (ws c.k).1 (ws c.k).2 c.k c.at').out)
      unfold lastOf
      rw [List.filterMap_append, k2, b]
      cases (stepF sl closed (ws c.k).1 (ws c.k).2 c.k c.at').last with
      | none => simp [lastOf]
      | some l => simp
theorem dl_nil {l : Led} {vs : List Value} (h : DatAll l vs []) : vs = [] := by cases h; rfl
theorem dl_cons {l : Led} {vs : List Value} {d : Dat} {ds : List Dat} (h : DatAll l vs (d :: ds)) : ∃ v r, vs = v :: r ∧ DatIn l v d ∧ DatAll l r ds := by cases h; exact ⟨_, _, rfl, by assumption, by assumption⟩
theorem di_str {l : Led} {v : Value} {x : Str} (h : DatIn l v (.str x)) : ∃ t, v = .str x t := by cases h; exact ⟨_, rfl⟩
theorem di_bool {l : Led} {v : Value} {b : Bool} (h : DatIn l v (.bool b)) : v = .bool b := by cases h; rfl
theorem di_tup {l : Led} {v : Value} {ds : List Dat} (h : DatIn l v (.tuple ds)) : ∃ a n vs, v = .ref a ∧ (a, ({ cls := .type "tuple", data := .seq vs.toArray n } : Obj)) ∈ l ∧ DatAll l vs ds := by cases h; exact ⟨_, _, _, rfl, by assumption, by assumption⟩
theorem eof_in {l : Led} {v : Value} (h : DatIn l v eofD) : ∃ t, ∃ a, v = .ref a ∧ ∃ n, (a, ({ cls := .type "tuple", data := .seq [Value.str "eof" t].toArray n } : Obj)) ∈ l := by
  obtain ⟨a, n, vs, rfl, hm, q0⟩ := di_tup h
  obtain ⟨v1, r1, rfl, d1, q1⟩ := dl_cons q0
  obtain ⟨t, rfl⟩ := di_str d1
  rw [dl_nil q1] at hm
  exact ⟨t, a, rfl, n, hm⟩
theorem char_in {l : Led} {v : Value} {c : Nat} (h : DatIn l v (charD c)) : ∃ t u, ∃ a n, v = .ref a ∧ (a, ({ cls := .type "tuple", data := .seq [Value.str "char" t, .str ⟨#[c]⟩ u].toArray n } : Obj)) ∈ l := by
  obtain ⟨a, n, vs, rfl, hm, q0⟩ := di_tup h
  obtain ⟨v1, r1, rfl, d1, q1⟩ := dl_cons q0
  obtain ⟨t, rfl⟩ := di_str d1
  obtain ⟨v2, r2, rfl, d2, q2⟩ := dl_cons q1
  obtain ⟨u, rfl⟩ := di_str d2
  rw [dl_nil q2] at hm
  exact ⟨t, u, a, n, rfl, hm⟩
theorem tok_in {l : Led} {v : Value} {f : Bool} {wl : List Nat} (h : DatIn l v (tokD f wl)) : ∃ t u e, ∃ a n, v = .ref a ∧ (a, ({ cls := .type "tuple", data := .seq [Value.str (if f then "start" else "end") t, .str ⟨wl.toArray⟩ u, .ref e, .bool false].toArray n } : Obj)) ∈ l := by
  obtain ⟨a, n, vs, rfl, hm, q0⟩ := di_tup h
  obtain ⟨v1, r1, rfl, d1, q1⟩ := dl_cons q0
  obtain ⟨t, rfl⟩ := di_str d1
  obtain ⟨v2, r2, rfl, d2, q2⟩ := dl_cons q1
  obtain ⟨u, rfl⟩ := di_str d2
  obtain ⟨v3, r3, rfl, d3, q3⟩ := dl_cons q2
  obtain ⟨e, m, us, rfl, _, _⟩ := di_tup d3
  obtain ⟨v4, r4, rfl, d4, q4⟩ := dl_cons q3
  rw [di_bool d4, dl_nil q4] at hm
  exact ⟨t, u, e, a, n, rfl, hm⟩
theorem last_strs {vs : List Value} {t : Tok} {out : List Dat} (h : StrsAre vs ((out.filterMap startOf).map (fun l => (⟨l.toArray⟩ : Str)))) : ∃ pre, StrsAre (Value.str "" t :: vs) (pre ++ [(⟨(lastOf out).toArray⟩ : Str)]) := by
  unfold lastOf
  generalize out.filterMap startOf = l at h ⊢
  rcases List.eq_nil_or_concat l with rfl | ⟨r, z, rfl⟩
  · refine ⟨[], ?_⟩
    have e : (⟨(([] : List (List Nat)).getLast?.getD []).toArray⟩ : Str) = Str.ofString "" := by decide +kernel
    rw [e]
    exact .cons _ _ h
  · refine ⟨Str.ofString "" :: r.map (fun l => (⟨l.toArray⟩ : Str)), ?_⟩
    simp only [List.concat_eq_append, List.map_append, List.map_cons, List.map_nil] at h
    simpa using StrsAre.cons (Str.ofString "") t h
theorem stepOut_ro {W : Wd} {ws : Nat → List Nat × Bool} {R : RR} : ∀ r l, StepOut W ws R r l → ∀ p ∈ wdLed W ws, p ∈ l := by
  rintro _ _ ⟨_, _, _, _, _, _, _, _, _, _, _, _, _, h, _⟩
  exact h
/-- what stands between the turns of the law's own loop -/
noncomputable abbrev StJ (s : Shared) (four closed : Bool) (sl : List Nat) (ws : Nat → List Nat × Bool) (c' : Mc) (W : Wd) (g : Heap) (L : Addr) (n : Nat) (s₁ : Shared) : Prop :=
  ∃ c h₁ tk₁ u₁ O E ov ev n1 n2 nt x1 x2 x3 x4 x5, s₁ = { s with heap := h₁, toks := tk₁ } ∧ RunsIn four sl closed ws n c c' ∧ Fr g L h₁ (kB u₁ (stPs W sl closed four c x1 x2 x3 x4 x5 O E)) ∧ News g L h₁ ((O, listOf ov.toArray n1) :: (E, listOf ev.toArray n2) :: (wdLed W ws ++ nt)) ∧ DatAll nt ov c.out ∧ DatAll nt ev c.errs
set_option maxHeartbeats 0 in
theorem stand_spec (w : World) (W : Wd) (ws : Nat → List Nat × Bool) (sl : List Nat) (t1 : Tok) (closed four : Bool) (t2 : Tok) (hsl : sl.length ≤ 1000) (hc : ∀ c ∈ sl, c < 100000) (hwl : ∀ k < 4, (ws k).1.length ≤ 1000) (n : Nat) (c' : Mc) (H : RunsIn four sl closed ws n mc0 c') (ho : c'.out.length ≤ 20000) :
    Spec w 30 360 [.str ⟨sl.toArray⟩ t1, .bool closed, .ref W.a, .int (manyOf four : Nat) t2] (wdLed W ws)
      (fun r led' => DatIn led' r (seenD c') ∧ ∀ p ∈ wdLed W ws, p ∈ led') := by
  w_top off
  have hl1 : (⟨sl.toArray⟩ : Str).length ≤ 100000 := by rw [len_tx]; omega
  have hlE : ((⟨sl.toArray⟩ : Str).length : Int) = (sl.length : Int) := by rw [len_tx]
  unfold Spec
  intro mg mb mean dp un gd cn cs a ccd cl outer A₀ base h₀ L m s Q E B F X N T hk hroom hun hret
  refine wpAny_call ?_
  k_dflt (refine' enterH ?k1'9 ?k2'9 ?k3'9 ?k4'9 ?k5'9 ?kA'9 ?kF'9 ?kK'9 ?k6'9 ?k7'9 ?k8'9 ?k9'9 ?kB'9 ?_ ?c2'9 ?c3'9 ?c4'9 ?c5'9; (case kA'9 => exact rfl); (case kF'9 => exact rfl); (case kK'9 => assumption); (case k1'9 => k_asm); (case k2'9 => k_asm); (case k3'9 => k_asm); (case k4'9 => k_asm); (case k5'9 => k_asm); (case k6'9 => k_is); (case k7'9 => k_is); (case k8'9 => (first | exact rm0 (by assumption) | exact rm1 (by assumption) (by decide) | k_extra "room" | ktr_room)); (case k9'9 => first | exact BindsTo.of_eq rfl | exact binds_K (by k_in) rfl (by k_is) rfl rfl rfl | exact hbind9 _ (by k_in)); (case c5'9 => decide); (case kB'9 => exact locs rfl); (case c2'9 => exact rfl); (case c3'9 => exact rfl); (case c4'9 => exact rfl); k_whole; intro _ _ _ _ _ _ _ _ l1'9; (try k_lt l1'9); (try dsimp only); (with_reducible refine (?_ : wpAny _ _ _ _ _ _)); (try ((fail_if_success (fail_if_success k_fold)); refine fold_QE ?_; intro _ _)); (try (revert l1'9; intro _)))
  k_with_none
  k_with "room" => (first | exact rmS2 (by assumption) (by decide) | exact rmS3 (by assumption) (by decide) | exact rmS4 (by assumption) (by decide) | exact rm2 (by assumption) (by decide) | exact rm0 (by assumption) | exact rm1 (by assumption) (by decide) | (dsimp +zetaDelta only; ktr_room))
  k_with "units" => (first | exact cl3 (by assumption) (by decide) | exact um2 (by assumption) (by decide) | exact um1 (by assumption) (by decide) | (dsimp +zetaDelta only; ktr_units))
  k_with "is_list" => (exact News.isList (by k_asm) (by k_mem))
  k_with "st" => (first | ((fail_if_success (fail_if_success k_unfold)); refine (?_ : wpAny _ _ _ _ _ _)) | (k_unfold; (try dsimp only)) | (k_end; wrow_close) | walk1 | (dsimp only; walk1) | (leave1; walk_say "STEP leave1"; try dsimp only) | fail "no step")
  k_with "om" => (first | assumption | with_reducible rfl | decide | exact Nat.le_trans (by assumption) (by decide) | exact Nat.lt_of_le_of_lt (by assumption) (by decide) | ((repeat (with_reducible rename _ ∧ _ => om9; clear om9)); first | ((repeat (with_reducible rename _ ≠ _ => om9; clear om9)); (repeat (with_reducible rename @Eq Nat _ _ => om9; clear om9)); (repeat (with_reducible rename @Eq Int _ _ => om9; clear om9)); omega +splitNatSub) | omega +splitNatSub))
  k_with "fold" => ((fail_if_success (fail_if_success k_fold)); refine fold_QES ?_; intro _ _ _ _)
  k_with "kne" => (first | ((refine (?_ : @Ne Nat _ _)); first | assumption | exact Ne.symm (by assumption) | k_extra "ne") | (refine neN ?_; (try dsimp only); first | assumption | exact Ne.symm (by assumption) | k_extra "ne" | omega))
  k_with "tb" => (repeat (first | exact List.forall_mem_nil _ | refine List.forall_mem_cons.mpr ⟨rfl, ?_⟩))
  k_with "ne" => with_reducible (first | exact na0 (by assumption) | exact ns0 (by assumption) | exact na1 (by assumption) | exact ns1 (by assumption) | exact na2 (by assumption) | exact ns2 (by assumption) | exact na3 (by assumption) | exact ns3 (by assumption) | exact na4 (by assumption) | exact ns4 (by assumption) | exact na5 (by assumption) | exact ns5 (by assumption) | exact na6 (by assumption) | exact ns6 (by assumption) | exact na7 (by assumption) | exact ns7 (by assumption) | exact na8 (by assumption) | exact ns8 (by assumption) | exact na9 (by assumption) | exact ns9 (by assumption) | exact na10 (by assumption) | exact ns10 (by assumption) | exact na11 (by assumption) | exact ns11 (by assumption) | exact na12 (by assumption) | exact ns12 (by assumption) | exact na13 (by assumption) | exact ns13 (by assumption) | exact na14 (by assumption) | exact ns14 (by assumption) | exact na15 (by assumption) | exact ns15 (by assumption))
  k_with "ne" => with_reducible (first | (show Tz.sts _ ≠ _; first | exact zn01 (by assumption) | exact zn02 (by assumption) | exact zn03 (by assumption) | exact zn04 (by assumption) | exact zn05 (by assumption) | exact zn06 (by assumption) | exact zn07 (by assumption) | exact zn08 (by assumption)) | (show Tz.td _ ≠ _; first | exact zn10 (by assumption) | exact zn12 (by assumption) | exact zn13 (by assumption) | exact zn14 (by assumption) | exact zn15 (by assumption) | exact zn16 (by assumption) | exact zn17 (by assumption) | exact zn18 (by assumption)) | (show Tz.t _ ≠ _; first | exact zn20 (by assumption) | exact zn21 (by assumption) | exact zn23 (by assumption) | exact zn24 (by assumption) | exact zn25 (by assumption) | exact zn26 (by assumption) | exact zn27 (by assumption) | exact zn28 (by assumption)) | (show Tz.sd _ ≠ _; first | exact zn30 (by assumption) | exact zn31 (by assumption) | exact zn32 (by assumption) | exact zn34 (by assumption) | exact zn35 (by assumption) | exact zn36 (by assumption) | exact zn37 (by assumption) | exact zn38 (by assumption)) | (show Tz.st _ ≠ _; first | exact zn40 (by assumption) | exact zn41 (by assumption) | exact zn42 (by assumption) | exact zn43 (by assumption) | exact zn45 (by assumption) | exact zn46 (by assumption) | exact zn47 (by assumption) | exact zn48 (by assumption)) | (show Tz.sg _ ≠ _; first | exact zn50 (by assumption) | exact zn51 (by assumption) | exact zn52 (by assumption) | exact zn53 (by assumption) | exact zn54 (by assumption) | exact zn56 (by assumption) | exact zn57 (by assumption) | exact zn58 (by assumption)) | (show Tz.se _ ≠ _; first | exact zn60 (by assumption) | exact zn61 (by assumption) | exact zn62 (by assumption) | exact zn63 (by assumption) | exact zn64 (by assumption) | exact zn65 (by assumption) | exact zn67 (by assumption) | exact zn68 (by assumption)) | (show Tz.ou _ ≠ _; first | exact zn70 (by assumption) | exact zn71 (by assumption) | exact zn72 (by assumption) | exact zn73 (by assumption) | exact zn74 (by assumption) | exact zn75 (by assumption) | exact zn76 (by assumption) | exact zn78 (by assumption)) | (show Tz.er _ ≠ _; first | exact zn80 (by assumption) | exact zn81 (by assumption) | exact zn82 (by assumption) | exact zn83 (by assumption) | exact zn84 (by assumption) | exact zn85 (by assumption) | exact zn86 (by assumption) | exact zn87 (by assumption)))
  k_with "execs cons" => ((try ((fail_if_success (fail_if_success k_fold)); refine fold_QE ?_; intro _ _)); refine ex_consA ?_; intro _ _ _ _; (try (with_reducible rename News _ _ _ _ => kN'9; dsimp only at kN'9)); (try (with_reducible rename Fr _ _ _ _ => kF'9; refine f_let kF'9 ?_; clear kF'9; intro _ _)))
  k_with "LeaveH" => (refine' leaveH_ ?k1'9 ?k2'9 ?_; (case k1'9 => k_asm); (case k2'9 => k_asm); k_whole; intro _ _ _ _)
  k_with "pyIter ref" => ((with_reducible show wpAny _ _ (pyIter _) (fun it s₂ => LoopAtV _ _ _ _ _ _ _ _ _ it s₂) _ _); refine Stop.mk ?_)
  k_with "pyIter str" => ((with_reducible show wpAny _ _ (pyIter _) (fun it s₂ => LoopAtV _ _ _ _ _ _ _ _ _ it s₂) _ _); refine Stop.mk ?_)
  k_with "call ref" => (k_extra "mine call")
  k_with "call builtin:len" => (k_here; (with_reducible show wpAny _ _ (call (Value.builtin "len") [Value.ref _]) _ _ _); (with_unfolding_all refine' len_listN ?k1'9 ?k2'9 ?_; (case k1'9 => is_list); (case k2'9 => omega); k_whole))
  k_with "subscriptTail" => (k_here; (with_reducible show wpAny _ _ (subscriptTail _ _ (Value.ref _) (Value.int _ _)) _ _ _); (with_unfolding_all refine' sign_item ?k1'9 ?k2'9 ?k3'9 ?k4'9 ?k5'9 ?_; (case k1'9 => is_list); (case k2'9 => assumption); (case k3'9 => assumption); (case k4'9 => (push_cast; omega)); (case k5'9 => omega); k_whole); intro _)
  k_with "subscriptTail" => (k_here; (with_reducible show wpAny _ _ (subscriptTail _ _ (Value.str _ _) (Value.int _ _)) _ _ _); (with_unfolding_all refine' char_item ?k1'9 ?k2'9 ?k3'9 ?_; (case k1'9 => assumption); (case k2'9 => (push_cast; omega)); (case k3'9 => omega); k_whole))
  k_with "TurnL" => (refine TurnL.ret ?_; (try dsimp only))
  k_with "subscriptTail Name Name str int" => (k_here; (with_reducible show wpAny _ _ (subscriptTail _ _ (Value.str _ _) (Value.int _ _)) _ _ _); (with_unfolding_all refine' char_item ?k1'9 ?k2'9 ?k3'9 ?_; (case k1'9 => assumption); (case k2'9 => (push_cast; omega)); (case k3'9 => omega); k_whole))
  k_with "exec For Name Name cons nil" => (k_here; (rename Fr _ _ _ _ => lF'9); (with_unfolding_all refine' For_invVF lF'9 ?k1'9 ?k2'9 ?_; (case k1'9 => exact rfl); (case k2'9 => exact rfl); k_whole))
  k_with "call builtin:list.append" => (k_here; (with_reducible show wpAny _ _ (call (Value.builtin _) [Value.ref _, _]) _ _ _); k_dflt (refine' append_K ?k1'9 ?k2'9 ?k3'9 ?_ ?z'9; (case k1'9 => k_asm); (case k2'9 => k_asm); (case k3'9 => k_upd); (case z'9 => assumption); k_whole); intro _ _ _; (try k_sweep))
  k_with "call builtin:str.split" => (k_here; (with_reducible show wpAny _ _ (call (Value.builtin "str.split") _) _ _ _); (refine KSpl.split1 (by k_asm) (by k_asm) (by decide) ?_ (by assumption)); (intro _ _ _ _ e'9 a'9 _ _ l1'9); (try k_lt l1'9); rw [e'9] at a'9; (try (revert a'9; intro _)); (try (revert l1'9; intro _)); (try (revert e'9; intro _)))
  k_with "subscriptTail" => (k_here; (with_reducible show wpAny _ _ (subscriptTail _ _ (Value.ref _) (Value.int _ _)) _ _ _); (with_unfolding_all refine' strs_item ?k1'9 ?k2'9 ?k3'9 ?k4'9 ?k5'9 ?_; (case k1'9 => is_list); (case k2'9 => assumption); (case k3'9 => assumption); (case k4'9 => rfl); (case k5'9 => omega); k_whole); intro _)
  k_with "subscriptTail Call Attribute cons nil Name ref int" => (k_here; (with_reducible show wpAny _ _ (subscriptTail _ _ (Value.ref _) (Value.int _ _)) _ _ _); (with_unfolding_all refine' strs_item ?k1'9 ?k2'9 ?k3'9 ?k4'9 ?k5'9 ?_; (case k1'9 => is_list); (case k2'9 => assumption); (case k3'9 => assumption); (case k4'9 => rfl); (case k5'9 => omega); k_whole); intro _)
  k_with "getMethod ref" => (k_here; (with_reducible show wpAny _ _ (getMethod (Value.ref _) (PySem.Str.ofString "index") _) _ _ _); k_dflt (refine' names_method ?N'9 ?m'9 ?_; (case N'9 => k_asm); (case m'9 => k_mem)))
  k_with "call builtin:tuple.index" => (k_here; k_dflt (refine' names_index ?k'9 ?N'9 ?m'9 ?_; (case N'9 => k_asm); (case m'9 => k_mem); (case k'9 => omega)))
  k_with "subscriptTail Name BinOp ref int" => (k_here; (with_reducible show wpAny _ _ (subscriptTail _ _ (Value.ref _) (Value.int _ _)) _ _ _); (with_unfolding_all refine' names_item ?N'9 ?m'9 ?hj'9 ?h5'9 ?_; (case N'9 => k_asm); (case m'9 => k_mem); (case hj'9 => assumption); (case h5'9 => omega); k_whole); intro _)
  k_with "subscriptTail Name Slice str ref" => (k_here; ((with_unfolding_all refine' cut_tail ?F'9 ?N'9 ?sz'9 ?_); (case F'9 => k_asm); (case N'9 => k_asm); (case sz'9 => assumption); intro _ _ _ _ _; (try k_sweep)))
  k_with "subscriptTail Name Constant str int" => (k_here; (with_unfolding_all refine' head_item ?sz'9 ?_); (case sz'9 => assumption))
  k_with "setAttr ref" => (k_here; k_dflt (first | (refine' set_tz ?k1'9 ?k2'9 ?k3'9 ?k4'9 ?k5'9 ?k6'9 ?k7'9 ?k8'9 ?k9'9 ?k10'9 ?k11'9 ?k12'9 ?k13'9 ?_; (case k1'9 => k_asm); (case k2'9 => k_asm); (case k3'9 => k_asm); (case k4'9 => k_inst); (case k5'9 => exact rfl); (case k6'9 => k_is); (case k7'9 => k_is); (case k8'9 => k_is); (case k9'9 => k_is); (case k10'9 => k_get); (case k11'9 => k_put); (case k12'9 => k_upd); (case k13'9 => exact Nat.le_of_ble_eq_true rfl); k_whole; intro _ _ _; (try k_sweep)) | (refine' set_st ?k1'9 ?k2'9 ?k3'9 ?k4'9 ?k5'9 ?k6'9 ?k7'9 ?k8'9 ?k9'9 ?k10'9 ?k11'9 ?k12'9 ?k13'9 ?_; (case k1'9 => k_asm); (case k2'9 => k_asm); (case k3'9 => k_asm); (case k4'9 => k_inst); (case k5'9 => exact rfl); (case k6'9 => k_is); (case k7'9 => k_is); (case k8'9 => k_is); (case k9'9 => k_is); (case k10'9 => k_get); (case k11'9 => k_put); (case k12'9 => k_upd); (case k13'9 => exact Nat.le_of_ble_eq_true rfl); k_whole; intro _ _ _; (try k_sweep))))
  k_with "eval BinOp" => k_extra "fold"
  k_with "eval Call" => k_extra "fold"
  k_with "eval List" => k_extra "fold"
  k_with "eval Tuple" => k_extra "fold"
  k_with "eval Subscript" => k_extra "fold"
  k_with "eval Compare" => k_extra "fold"
  k_with "eval BoolOp" => k_extra "fold"
  k_with "exec While" => (k_here; (with_reducible show wpAny _ _ (exec (Stmt.While _ _ _ _) _) _ _ _); refine Stop.mk ?_)
  k_with "exec Assign cons ListComp" => (k_here; refine Stop.mk ?_)
  k_with "binaryOp Add ref ref" => (k_here; k_dflt (refine' add_new ?F'9 ?N'9 ?a'9 ?b'9 ?z'9 ?_; (case F'9 => k_asm); (case N'9 => k_asm); (case a'9 => k_mem); (case b'9 => k_mem); (case z'9 => first | omega | ((simp only [List.length_cons, List.length_nil]); omega)); (intro _ _ _ _ l1'9; (try k_lt l1'9); (try k_sweep))); (try (revert l1'9; intro _)))
  k_with "subscriptTail" => (k_here; (with_reducible show wpAny _ _ (subscriptTail (PySem.Expr.Call _ _ _ _) _ (Value.ref _) (Value.int _ _)) _ _ _); k_dflt (refine' names_item ?N'9 ?m'9 ?hj'9 ?h5'9 ?_; (case N'9 => k_asm); (case m'9 => k_mem); (case hj'9 => exact rfl); (case h5'9 => assumption)); intro _)
  k_with "subscriptTail" => (k_here; (with_reducible show wpAny _ _ (subscriptTail (PySem.Expr.BinOp _ _ _ _) _ (Value.ref _) (Value.int _ _)) _ _ _); refine Stop.mk ?_)
  k_with "mine call" => ((with_reducible show wpAny _ _ (call (Value.ref 319) _) _ _ _); refine Stop.mk ?_)
  k_with "mine call" => ((with_reducible show wpAny _ _ (call (Value.ref 355) _) _ _ _); refine Stop.mk ?_)
  k_with "mine call" => ((with_reducible show wpAny _ _ (call (Value.ref 314) _) _ _ _); refine Stop.mk ?_)
  k_steps
  unfold Stop
  k_dflt (refine (small_spec w sl _ hsl hc).use0 (by k_asm) (by k_asm) (by k_asm) (by k_asm) (by k_asm) rfl (by (first | exact rm0 (by assumption) | exact rm1 (by assumption) (by decide) | k_extra "room" | ktr_room)) (by (first | k_extra "units" | ktr_units)) ?_)
  rintro r led' h' tk' F' N' off ⟨rfl, tk2, rfl⟩
  rw [List.nil_append] at N'
  clear off
  (try dsimp only)
  k_steps
  unfold Stop
  rename Fr _ _ _ _ => Fx
  (try dsimp +zetaDelta only at Fx)
  rename News _ _ _ _ => Nx
  k_dflt (refine whl_start 0 (while_ind (J := StJ s four closed sl ws c' W _ _) (by passes_own) ?_ n _
    ⟨mc0, _, _, _, _, _, [], [], _, _, [], _, _, _, _, _, rfl, H, told _ Fx (by unfold stPs; tb_start), News.sub Nx (fun p hp => by rw [List.append_nil] at hp; exact sub_swap2 p hp), .nil, .nil⟩))
  rintro n₁ s₁ ⟨c, h₁, tk₁, u₁, O, E, ov, ev, n1, n2, nt, x1, x2, x3, x4, x5, rfl, H₁, F₁, N₁, D₁, D₂⟩
  refine wpAny_mono (Q := TestIs (ready four sl.length closed c) { s with heap := h₁, toks := tk₁ }) ?test (fun b s₂ hb => ?_) (fun _ _ e => e)
  case test =>
    k_steps
    all_goals first
      | exact ⟨rd6 (by assumption), _, rfl⟩
      | exact ⟨rd1 (by assumption) (by assumption), _, rfl⟩
      | exact ⟨rd2 (by assumption), _, rfl⟩
      | exact ⟨rd3 (by assumption) (by assumption) (by assumption) (by assumption), _, rfl⟩
      | exact ⟨rd4 (by assumption) (by assumption) (by assumption) (by assumption), _, rfl⟩
      | exact ⟨rd5 (by assumption) (by assumption), _, rfl⟩
  obtain ⟨rfl, tk₂, rfl⟩ := hb
  cases H₁ with
  | stop hr h5 =>
    rw [hr]
    refine WhlIf.no rfl ?_
    (try dsimp only)
    obtain ⟨hTok, hLast⟩ := runs_tok H (fun _ h => (nomatch h)) rfl
    k_steps
    unfold Stop
    rename News _ _ _ _ => N9
    k_dflt (refine LCt.Assign_ListComp_T (F₀ := by k_asm) (by rfl) (by with_unfolding_all rfl) (by with_unfolding_all rfl) (by decide) (by rfl) (by decide) (by rfl) (by rfl) (by rfl) ?_)
    k_steps
    rename Fr _ _ _ _ => F9
    (try dsimp +zetaDelta only at F9)
    have q1 := D₁.length
    refine LCt.CompSrcT.ledger rfl F9 N9 (.head _) (by rw [List.size_toArray, sizeLine_eq]; omega) ?_
    intro g2
    refine comp_restT (fun i ys nw => nw = (O, listOf ov.toArray n1) :: (E, listOf ev.toArray n2) :: (wdLed W ws ++ nt) ∧ StrsAre ys (((c'.out.take i).filterMap startOf).map (fun l => (⟨l.toArray⟩ : Str)))) ⟨rfl, .nil⟩ ?_ ?_
    · rintro i v I oI C oC D m₂ ys nw h9 tk9 E9 hi hv ⟨rfl, hS⟩ hC hx F' N' off ne
      rw [List.size_toArray] at hi
      have hi' : i < c'.out.length := by omega
      obtain ⟨v', hv', hin⟩ := D₁.get hi'
      have hvv : v = v' := by
        have : ov[i]? = some v := by simpa using hv
        rw [hv'] at this; exact (Option.some.inj this).symm
      subst hvv
      have hqi : c'.out[i]? = some c'.out[i] := by simp [hi']
      have hd := hTok c'.out[i] (List.getElem_mem _)
      generalize c'.out[i] = d at hin hd hqi
      have put : ∀ p ∈ nt, p ∈ (I, oI) :: (C, oC) :: (D, LCg.lst ys) :: (O, listOf ov.toArray n1) :: (E, listOf ev.toArray n2) :: (wdLed W ws ++ nt) := fun p hp => .tail _ (.tail _ (.tail _ (.tail _ (.tail _ (List.mem_append_right _ hp)))))
      rcases hd with rfl | ⟨ch, rfl⟩ | ⟨f, wl, rfl⟩
      · obtain ⟨ta, a9, rfl, na, hm⟩ := eof_in hin
        have N2 := News.cons_mem N' (put _ hm)
        k_steps
        rename News _ _ _ _ => N8
        refine LCg.CompEnd.intro (by assumption) N8 _ (fun p hp => .tail _ hp) off (Or.inr ⟨_, .head _, rfl, _, rfl⟩) ⟨rfl, ?_⟩
        rw [List.take_add_one, hqi, List.filterMap_append, List.map_append]
        simpa [List.filterMap_cons, start_eof] using hS
      · obtain ⟨ta, tb, a9, na, rfl, hm⟩ := char_in hin
        have N2 := News.cons_mem N' (put _ hm)
        k_steps
        rename News _ _ _ _ => N8
        refine LCg.CompEnd.intro (by assumption) N8 _ (fun p hp => .tail _ hp) off (Or.inr ⟨_, .head _, rfl, _, rfl⟩) ⟨rfl, ?_⟩
        rw [List.take_add_one, hqi, List.filterMap_append, List.map_append]
        simpa [List.filterMap_cons, start_char] using hS
      · obtain ⟨ta, tb, e9, a9, na, rfl, hm⟩ := tok_in hin
        have N2 := News.cons_mem N' (put _ hm)
        cases f
        · simp only [Bool.false_eq_true, if_false] at N2
          k_steps
          rename News _ _ _ _ => N8
          refine LCg.CompEnd.intro (by assumption) N8 _ (fun p hp => .tail _ hp) off (Or.inr ⟨_, .head _, rfl, _, rfl⟩) ⟨rfl, ?_⟩
          rw [List.take_add_one, hqi, List.filterMap_append, List.map_append]
          simpa [List.filterMap_cons, start_tok] using hS
        · simp only [if_true] at N2
          k_steps
          rename News _ _ _ _ => N8
          refine LCg.CompEnd.intro (by assumption) N8 _ (fun p hp => .tail _ hp) off (Or.inr ⟨_, .head _, rfl, _, rfl⟩) ⟨rfl, ?_⟩
          rw [List.take_add_one, hqi, List.filterMap_append, List.map_append]
          exact hS.append' (by simp only [Option.toList, List.filterMap_cons, start_tok, if_true, List.filterMap_nil, List.map_cons, List.map_nil]; exact .cons _ _ .nil)
    · rintro ys nw ⟨rfl, hS⟩
      unfold LCg.FinA
      intro D9 h9 tk9 F9' N9' o9
      k_steps
      unfold Stop
      k_dflt (refine (names_spec w).use0 (by k_asm) (by k_asm) (by k_asm) N9' (by k_asm) rfl (by (first | exact rm0 (by assumption) | exact rm1 (by assumption) (by decide) | k_extra "room" | ktr_room)) (by (first | k_extra "units" | ktr_units)) ?_)
      rintro r led' h' tk' F' N' off so9
      refine names_elim so9 ?_
      clear so9
      rintro nt' y0 y1 y2 y3 y4 rfl rfl
      clear off
      have hys := hS.len_eq
      rw [List.length_map] at hys
      have hfl : (((c'.out.take ov.toArray.size).filterMap startOf)).length ≤ 20000 := Nat.le_trans (List.length_filterMap_le _ _) (by rw [List.length_take]; omega)
      have htk : c'.out.take ov.toArray.size = c'.out := by rw [List.size_toArray, q1]; exact List.take_length
      rw [htk] at hS
      replace hS := Stop.mk hS
      (try dsimp only)
      k_steps
      unfold Stop
      rename News _ _ _ _ => N8
      unfold Stop at hS
      k_dflt (refine strs_last N8 (.head _) (last_strs hS).choose_spec ?_)
      intro tl9
      clear hS
      rw [← hLast]
      k_steps
      rename News _ _ _ _ => N7
      rename Fresh _ _ _ => H7
      refine hret _ _ _ _ (by assumption) N7 (by assumption) H7 ⟨?_, ?_⟩
      · exact .list (by k_mem) (.cons (.list (.tail _ (.tail _ (.tail _ (.tail _ (.tail _ (.head _)))))) (D₁.mono fun p hp => .tail _ (.tail _ (.tail _ (.tail _ (.tail _ (.tail _ (.tail _ (List.mem_append_right _ hp))))))))) (.cons (.list (.tail _ (.tail _ (.tail _ (.tail _ (.tail _ (.tail _ (.head _))))))) (D₂.mono fun p hp => .tail _ (.tail _ (.tail _ (.tail _ (.tail _ (.tail _ (.tail _ (List.mem_append_right _ hp))))))))) (.cons (.int _ _) (.cons (.str _ _) (.cons (.str _ _) (.cons (.bool _) (.cons (.bool _) .nil)))))))
      · exact fun p hp => .tail _ (.tail _ (.tail _ (.tail _ (.tail _ (.tail _ (.tail _ (List.mem_append_left _ hp)))))))
  | step hr h1 h2 h3 rr =>
    rw [hr]
    refine WhlIf.yes rfl ?_
    (try dsimp only)
    k_steps
    unfold Stop
    rename News _ _ _ _ => N9
    have hkm : c.k < manyOf four := by simp [ready] at hr; omega
    have hk4' : c.k < 4 := Nat.lt_of_lt_of_le hkm (many_le four)
    k_dflt (refine (lstep_spec w W ws sl _ _ closed c.at' _ c.k _ hk4' hsl (Nat.le_trans h3 hsl) hwl).useR stepOut_ro (by k_asm) (by k_asm) (by k_asm) N9 (by k_asm) rfl (by (first | exact rm0 (by assumption) | exact rm1 (by assumption) (by decide) | k_extra "room" | ktr_room)) (by (first | k_extra "units" | ktr_units)) (fun p hp => .tail _ (.tail _ (List.mem_append_left _ hp))) ?_)
    rintro r led' h' tk' F' N' fresh so9
    refine so9.elim ?_
    clear so9
    rintro T9 Os Es os es y1 y2 y3 y4 rfl mT mO mE mW dO dE
    clear fresh
    replace N' := News.sub (b := (T9, _) :: (Os, _) :: (Es, _) :: (O, listOf ov.toArray n1) :: (E, listOf ev.toArray n2) :: (wdLed W ws ++ (nt ++ led'))) N' (fun p hp => by
      simp only [List.mem_cons, List.mem_append] at hp ⊢
      rcases hp with rfl | rfl | rfl | h | h | h | h | h
      · exact .inl mT
      · exact .inl mO
      · exact .inl mE
      · exact .inr (.inl h)
      · exact .inr (.inr (.inl h))
      · exact .inl (mW _ h)
      · exact .inr (.inr (.inr (.inr h)))
      · exact .inl h)
    (try dsimp only)
    have hR := @stepF_len sl closed (ws c.k).2 (ws c.k).1 c.k c.at'
    have q1 := D₁.length
    have q2 := D₂.length
    have q3 := dO.length
    have q4 := dE.length
    have q5 := hwl c.k hk4'
    k_steps
    rename News _ _ _ _ => N9
    rename Fr _ _ _ _ => F9
    (try dsimp +zetaDelta only at F9)
    have hdone : ((c.at' : Int) == ((⟨sl.toArray⟩ : Str).length : Int)) = (nextM sl closed ws c).done := by
      have h5 := (@stepF_tok sl closed (ws c.k).2 (ws c.k).1 c.k c.at').2.2
      have h6 : c.done = false := by simp [ready] at hr; exact hr.1.1.1
      show _ = ((stepF sl closed (ws c.k).1 (ws c.k).2 c.k c.at').done || c.done)
      rw [h5, h6, Bool.or_false, len_tx]
      by_cases h7 : c.at' = sl.length
      · rw [h7]; simp
      · have h8 : ¬ sl.length ≤ c.at' := by omega
        simp [h8]; omega
    rw [hdone] at F9
    refine TurnW.next ?_
    refine ⟨_, Nat.lt_succ_self _, nextM sl closed ws c, _, _, _, _, _, ov ++ os, ev ++ es, 0, 0, nt ++ led', _, _, _, _, _, rfl, rr, told _ F9 (by unfold stPs; tb_start), News.sub N9 (fun p hp => ?_), (D₁.mono fun p hp => List.mem_append_left _ hp).append (dO.mono fun p hp => List.mem_append_right _ hp), (D₂.mono fun p hp => List.mem_append_left _ hp).append (dE.mono fun p hp => List.mem_append_right _ hp)⟩
    simp only [List.mem_cons] at hp ⊢
    rcases hp with h | h | h
    · exact .inr (.inl h)
    · exact .inl h
    · exact .inr (.inr (.inr (.inr (.inr (.inr (.inr h))))))
end
theorem signs_dat {l : Led} : ∀ {vs : List Value} {ts : List Str}, StrsAre vs ts → DatAll l vs (ts.map Dat.str)
  | _, _, .nil => .nil
  | _, _, .cons y t h => .cons (.str y t) (signs_dat h)
theorem ok_strs : ∀ {ts : List Str}, (∀ t ∈ ts, PyData.strOk t = true) → okDs (ts.map Dat.str) = true := fun h => okDs_of fun d hd => by
  obtain ⟨t, ht, rfl⟩ := List.mem_map.mp hd
  simp [okD, noB, kqdP, PyData.canLay0, PyData.depth, h t ht]
theorem ok_ones {sl : List Nat} (h : ∀ c ∈ sl, c < 100000) : okDs ((sl.map one).map Dat.str) = true := ok_strs fun t ht => by
  obtain ⟨c, hc, rfl⟩ := List.mem_map.mp ht
  have := h c hc
  simp [PyData.strOk, one]; omega
theorem okD_list {ds : List Dat} (h : okDs ds = true) (h2 : PyData.depthAll (kqdPs ds) ≤ 19) : okD (.list ds) = true := by
  simp only [okDs, Bool.and_eq_true, decide_eq_true_eq] at h
  simp only [okD, noB, kqdP, PyData.canLay0, PyData.depth, h.1.1, h.1.2, Bool.true_and, decide_eq_true_eq]
  omega
theorem depth_strs : ∀ ts : List Str, PyData.depthAll (kqdPs (ts.map Dat.str)) = 0
  | [] => rfl
  | t :: r => by rw [List.map_cons, kqdPs, PyData.depthAll, depth_strs r]; rfl
set_option maxHeartbeats 0 in
theorem calm_spec (w : World) (Z Z' : Tz) (S S' : Ts) (hb : S.buf = S'.buf) (hbo : PyData.strOk S.buf = true) (sl : List Nat) (tk : Tok) (G : SgOk S sl) :
    Spec w 10 372 [.ref Z.t, .ref Z'.t, .str ⟨sl.toArray⟩ tk] (tzLed w Z S ++ tzLed w Z' S') (fun r led' => r = .bool true ∧ ∀ p ∈ tzLed w Z S ++ tzLed w Z' S', p ∈ led') := by
  w_top off
  have hsl := G.le
  unfold Spec
  intro mg mb mean dp un gd cn cs a ccd cl outer A₀ base h₀ L m s Q E B F X N T hk hroom hun hret
  refine wpAny_call ?_
  k_dflt (refine' enterH ?k1'9 ?k2'9 ?k3'9 ?k4'9 ?k5'9 ?kA'9 ?kF'9 ?kK'9 ?k6'9 ?k7'9 ?k8'9 ?k9'9 ?kB'9 ?_ ?c2'9 ?c3'9 ?c4'9 ?c5'9; (case kA'9 => exact rfl); (case kF'9 => exact rfl); (case kK'9 => assumption); (case k1'9 => k_asm); (case k2'9 => k_asm); (case k3'9 => k_asm); (case k4'9 => k_asm); (case k5'9 => k_asm); (case k6'9 => k_is); (case k7'9 => k_is); (case k8'9 => (first | exact rm0 (by assumption) | exact rm1 (by assumption) (by decide) | k_extra "room" | ktr_room)); (case k9'9 => first | exact BindsTo.of_eq rfl | exact binds_K (by k_in) rfl (by k_is) rfl rfl rfl | exact hbind9 _ (by k_in)); (case c5'9 => decide); (case kB'9 => exact locs rfl); (case c2'9 => exact rfl); (case c3'9 => exact rfl); (case c4'9 => exact rfl); k_whole; intro _ _ _ _ _ _ _ _ l1'9; (try k_lt l1'9); (try dsimp only); (with_reducible refine (?_ : wpAny _ _ _ _ _ _)); (try ((fail_if_success (fail_if_success k_fold)); refine fold_QE ?_; intro _ _)); (try (revert l1'9; intro _)))
  k_with_none
  k_with "room" => (first | exact rmS2 (by assumption) (by decide) | exact rmS3 (by assumption) (by decide) | exact rmS4 (by assumption) (by decide) | exact rm2 (by assumption) (by decide) | exact rm0 (by assumption) | exact rm1 (by assumption) (by decide) | (dsimp +zetaDelta only; ktr_room))
  k_with "units" => (first | exact cl3 (by assumption) (by decide) | exact um2 (by assumption) (by decide) | exact um1 (by assumption) (by decide) | (dsimp +zetaDelta only; ktr_units))
  k_with "is_list" => (exact News.isList (by k_asm) (by k_mem))
  k_with "st" => (first | ((fail_if_success (fail_if_success k_unfold)); refine (?_ : wpAny _ _ _ _ _ _)) | (k_unfold; (try dsimp only)) | (k_end; wrow_close) | walk1 | (dsimp only; walk1) | (leave1; walk_say "STEP leave1"; try dsimp only) | fail "no step")
  k_with "om" => (first | assumption | with_reducible rfl | decide | exact Nat.le_trans (by assumption) (by decide) | exact Nat.lt_of_le_of_lt (by assumption) (by decide) | ((repeat (with_reducible rename _ ∧ _ => om9; clear om9)); first | ((repeat (with_reducible rename _ ≠ _ => om9; clear om9)); (repeat (with_reducible rename @Eq Nat _ _ => om9; clear om9)); (repeat (with_reducible rename @Eq Int _ _ => om9; clear om9)); omega +splitNatSub) | omega +splitNatSub))
  k_with "fold" => ((fail_if_success (fail_if_success k_fold)); refine fold_QES ?_; intro _ _ _ _)
  k_with "kne" => (first | ((refine (?_ : @Ne Nat _ _)); first | assumption | exact Ne.symm (by assumption) | k_extra "ne") | (refine neN ?_; (try dsimp only); first | assumption | exact Ne.symm (by assumption) | k_extra "ne" | omega))
  k_with "tb" => (repeat (first | exact List.forall_mem_nil _ | refine List.forall_mem_cons.mpr ⟨rfl, ?_⟩))
  k_with "ne" => with_reducible (first | exact na0 (by assumption) | exact ns0 (by assumption) | exact na1 (by assumption) | exact ns1 (by assumption) | exact na2 (by assumption) | exact ns2 (by assumption) | exact na3 (by assumption) | exact ns3 (by assumption) | exact na4 (by assumption) | exact ns4 (by assumption) | exact na5 (by assumption) | exact ns5 (by assumption) | exact na6 (by assumption) | exact ns6 (by assumption) | exact na7 (by assumption) | exact ns7 (by assumption) | exact na8 (by assumption) | exact ns8 (by assumption) | exact na9 (by assumption) | exact ns9 (by assumption) | exact na10 (by assumption) | exact ns10 (by assumption) | exact na11 (by assumption) | exact ns11 (by assumption) | exact na12 (by assumption) | exact ns12 (by assumption) | exact na13 (by assumption) | exact ns13 (by assumption) | exact na14 (by assumption) | exact ns14 (by assumption) | exact na15 (by assumption) | exact ns15 (by assumption))
  k_with "ne" => with_reducible (first | (show Tz.sts _ ≠ _; first | exact zn01 (by assumption) | exact zn02 (by assumption) | exact zn03 (by assumption) | exact zn04 (by assumption) | exact zn05 (by assumption) | exact zn06 (by assumption) | exact zn07 (by assumption) | exact zn08 (by assumption)) | (show Tz.td _ ≠ _; first | exact zn10 (by assumption) | exact zn12 (by assumption) | exact zn13 (by assumption) | exact zn14 (by assumption) | exact zn15 (by assumption) | exact zn16 (by assumption) | exact zn17 (by assumption) | exact zn18 (by assumption)) | (show Tz.t _ ≠ _; first | exact zn20 (by assumption) | exact zn21 (by assumption) | exact zn23 (by assumption) | exact zn24 (by assumption) | exact zn25 (by assumption) | exact zn26 (by assumption) | exact zn27 (by assumption) | exact zn28 (by assumption)) | (show Tz.sd _ ≠ _; first | exact zn30 (by assumption) | exact zn31 (by assumption) | exact zn32 (by assumption) | exact zn34 (by assumption) | exact zn35 (by assumption) | exact zn36 (by assumption) | exact zn37 (by assumption) | exact zn38 (by assumption)) | (show Tz.st _ ≠ _; first | exact zn40 (by assumption) | exact zn41 (by assumption) | exact zn42 (by assumption) | exact zn43 (by assumption) | exact zn45 (by assumption) | exact zn46 (by assumption) | exact zn47 (by assumption) | exact zn48 (by assumption)) | (show Tz.sg _ ≠ _; first | exact zn50 (by assumption) | exact zn51 (by assumption) | exact zn52 (by assumption) | exact zn53 (by assumption) | exact zn54 (by assumption) | exact zn56 (by assumption) | exact zn57 (by assumption) | exact zn58 (by assumption)) | (show Tz.se _ ≠ _; first | exact zn60 (by assumption) | exact zn61 (by assumption) | exact zn62 (by assumption) | exact zn63 (by assumption) | exact zn64 (by assumption) | exact zn65 (by assumption) | exact zn67 (by assumption) | exact zn68 (by assumption)) | (show Tz.ou _ ≠ _; first | exact zn70 (by assumption) | exact zn71 (by assumption) | exact zn72 (by assumption) | exact zn73 (by assumption) | exact zn74 (by assumption) | exact zn75 (by assumption) | exact zn76 (by assumption) | exact zn78 (by assumption)) | (show Tz.er _ ≠ _; first | exact zn80 (by assumption) | exact zn81 (by assumption) | exact zn82 (by assumption) | exact zn83 (by assumption) | exact zn84 (by assumption) | exact zn85 (by assumption) | exact zn86 (by assumption) | exact zn87 (by assumption)))
  k_with "execs cons" => ((try ((fail_if_success (fail_if_success k_fold)); refine fold_QE ?_; intro _ _)); refine ex_consA ?_; intro _ _ _ _; (try (with_reducible rename News _ _ _ _ => kN'9; dsimp only at kN'9)); (try (with_reducible rename Fr _ _ _ _ => kF'9; refine f_let kF'9 ?_; clear kF'9; intro _ _)))
  k_with "LeaveH" => (refine' leaveH_ ?k1'9 ?k2'9 ?_; (case k1'9 => k_asm); (case k2'9 => k_asm); k_whole; intro _ _ _ _)
  k_with "pyIter ref" => ((with_reducible show wpAny _ _ (pyIter _) (fun it s₂ => LoopAtV _ _ _ _ _ _ _ _ _ it s₂) _ _); refine Stop.mk ?_)
  k_with "pyIter str" => ((with_reducible show wpAny _ _ (pyIter _) (fun it s₂ => LoopAtV _ _ _ _ _ _ _ _ _ it s₂) _ _); refine Stop.mk ?_)
  k_with "call ref" => (k_extra "mine call")
  k_with "call builtin:len" => (k_here; (with_reducible show wpAny _ _ (call (Value.builtin "len") [Value.ref _]) _ _ _); (with_unfolding_all refine' len_listN ?k1'9 ?k2'9 ?_; (case k1'9 => is_list); (case k2'9 => omega); k_whole))
  k_with "subscriptTail" => (k_here; (with_reducible show wpAny _ _ (subscriptTail _ _ (Value.ref _) (Value.int _ _)) _ _ _); (with_unfolding_all refine' sign_item ?k1'9 ?k2'9 ?k3'9 ?k4'9 ?k5'9 ?_; (case k1'9 => is_list); (case k2'9 => assumption); (case k3'9 => assumption); (case k4'9 => (push_cast; omega)); (case k5'9 => omega); k_whole); intro _)
  k_with "subscriptTail" => (k_here; (with_reducible show wpAny _ _ (subscriptTail _ _ (Value.str _ _) (Value.int _ _)) _ _ _); (with_unfolding_all refine' char_item ?k1'9 ?k2'9 ?k3'9 ?_; (case k1'9 => assumption); (case k2'9 => (push_cast; omega)); (case k3'9 => omega); k_whole))
  k_with "TurnL" => (refine TurnL.ret ?_; (try dsimp only))
  k_with "subscriptTail Name Name str int" => (k_here; (with_reducible show wpAny _ _ (subscriptTail _ _ (Value.str _ _) (Value.int _ _)) _ _ _); (with_unfolding_all refine' char_item ?k1'9 ?k2'9 ?k3'9 ?_; (case k1'9 => assumption); (case k2'9 => (push_cast; omega)); (case k3'9 => omega); k_whole))
  k_with "exec For Name Name cons nil" => (k_here; (rename Fr _ _ _ _ => lF'9); (with_unfolding_all refine' For_invVF lF'9 ?k1'9 ?k2'9 ?_; (case k1'9 => exact rfl); (case k2'9 => exact rfl); k_whole))
  k_with "call builtin:list.append" => (k_here; (with_reducible show wpAny _ _ (call (Value.builtin _) [Value.ref _, _]) _ _ _); k_dflt (refine' append_K ?k1'9 ?k2'9 ?k3'9 ?_ ?z'9; (case k1'9 => k_asm); (case k2'9 => k_asm); (case k3'9 => k_upd); (case z'9 => assumption); k_whole); intro _ _ _; (try k_sweep))
  k_with "call builtin:str.split" => (k_here; (with_reducible show wpAny _ _ (call (Value.builtin "str.split") _) _ _ _); (refine KSpl.split1 (by k_asm) (by k_asm) (by decide) ?_ (by assumption)); (intro _ _ _ _ e'9 a'9 _ _ l1'9); (try k_lt l1'9); rw [e'9] at a'9; (try (revert a'9; intro _)); (try (revert l1'9; intro _)); (try (revert e'9; intro _)))
  k_with "subscriptTail" => (k_here; (with_reducible show wpAny _ _ (subscriptTail _ _ (Value.ref _) (Value.int _ _)) _ _ _); (with_unfolding_all refine' strs_item ?k1'9 ?k2'9 ?k3'9 ?k4'9 ?k5'9 ?_; (case k1'9 => is_list); (case k2'9 => assumption); (case k3'9 => assumption); (case k4'9 => rfl); (case k5'9 => omega); k_whole); intro _)
  k_with "subscriptTail Call Attribute cons nil Name ref int" => (k_here; (with_reducible show wpAny _ _ (subscriptTail _ _ (Value.ref _) (Value.int _ _)) _ _ _); (with_unfolding_all refine' strs_item ?k1'9 ?k2'9 ?k3'9 ?k4'9 ?k5'9 ?_; (case k1'9 => is_list); (case k2'9 => assumption); (case k3'9 => assumption); (case k4'9 => rfl); (case k5'9 => omega); k_whole); intro _)
  k_with "getMethod ref" => (k_here; (with_reducible show wpAny _ _ (getMethod (Value.ref _) (PySem.Str.ofString "index") _) _ _ _); k_dflt (refine' names_method ?N'9 ?m'9 ?_; (case N'9 => k_asm); (case m'9 => k_mem)))
  k_with "call builtin:tuple.index" => (k_here; k_dflt (refine' names_index ?k'9 ?N'9 ?m'9 ?_; (case N'9 => k_asm); (case m'9 => k_mem); (case k'9 => omega)))
  k_with "subscriptTail Name BinOp ref int" => (k_here; (with_reducible show wpAny _ _ (subscriptTail _ _ (Value.ref _) (Value.int _ _)) _ _ _); (with_unfolding_all refine' names_item ?N'9 ?m'9 ?hj'9 ?h5'9 ?_; (case N'9 => k_asm); (case m'9 => k_mem); (case hj'9 => assumption); (case h5'9 => omega); k_whole); intro _)
  k_with "subscriptTail Name Slice str ref" => (k_here; ((with_unfolding_all refine' cut_tail ?F'9 ?N'9 ?sz'9 ?_); (case F'9 => k_asm); (case N'9 => k_asm); (case sz'9 => assumption); intro _ _ _ _ _; (try k_sweep)))
  k_with "subscriptTail Name Constant str int" => (k_here; (with_unfolding_all refine' head_item ?sz'9 ?_); (case sz'9 => assumption))
  k_with "setAttr ref" => (k_here; k_dflt (first | (refine' set_tz ?k1'9 ?k2'9 ?k3'9 ?k4'9 ?k5'9 ?k6'9 ?k7'9 ?k8'9 ?k9'9 ?k10'9 ?k11'9 ?k12'9 ?k13'9 ?_; (case k1'9 => k_asm); (case k2'9 => k_asm); (case k3'9 => k_asm); (case k4'9 => k_inst); (case k5'9 => exact rfl); (case k6'9 => k_is); (case k7'9 => k_is); (case k8'9 => k_is); (case k9'9 => k_is); (case k10'9 => k_get); (case k11'9 => k_put); (case k12'9 => k_upd); (case k13'9 => exact Nat.le_of_ble_eq_true rfl); k_whole; intro _ _ _; (try k_sweep)) | (refine' set_st ?k1'9 ?k2'9 ?k3'9 ?k4'9 ?k5'9 ?k6'9 ?k7'9 ?k8'9 ?k9'9 ?k10'9 ?k11'9 ?k12'9 ?k13'9 ?_; (case k1'9 => k_asm); (case k2'9 => k_asm); (case k3'9 => k_asm); (case k4'9 => k_inst); (case k5'9 => exact rfl); (case k6'9 => k_is); (case k7'9 => k_is); (case k8'9 => k_is); (case k9'9 => k_is); (case k10'9 => k_get); (case k11'9 => k_put); (case k12'9 => k_upd); (case k13'9 => exact Nat.le_of_ble_eq_true rfl); k_whole; intro _ _ _; (try k_sweep))))
  k_with "eval BinOp" => k_extra "fold"
  k_with "eval Call" => k_extra "fold"
  k_with "eval List" => k_extra "fold"
  k_with "eval Tuple" => k_extra "fold"
  k_with "eval Subscript" => k_extra "fold"
  k_with "eval Compare" => k_extra "fold"
  k_with "eval BoolOp" => k_extra "fold"
  k_with "eval ListComp" => (k_here; refine Stop.mk ?_)
  k_with "compareOp Eq ref ref" => (k_here; (with_reducible show wpAny _ _ (compareOp CmpOp.Eq (Value.ref _) (Value.ref _)) _ _ _); refine Stop.mk ?_)
  k_with "compareOp NotEq ref ref" => (k_here; (with_reducible show wpAny _ _ (compareOp CmpOp.NotEq (Value.ref _) (Value.ref _)) _ _ _); refine Stop.mk ?_)
  k_steps
  unfold Stop
  rename News _ _ _ _ => N9
  k_dflt (refine same_neL (ds := [.str S.buf, .str "data", .int 0, .bool false]) N9 (by k_mem) (by k_mem) (.cons (.str _ _) (.cons (.str _ _) (.cons (.int _ _) (.cons (.bool _) .nil)))) (by rw [hb]; exact .cons (.str _ _) (.cons (.str _ _) (.cons (.int _ _) (.cons (.bool _) .nil)))) ?_ (by (first | k_extra "units" | ktr_units)) ?_)
  · have hd : PyData.strOk (Str.ofString "data") = true := by decide +kernel
    simp [okDs, noBs, noB, kqdPs, kqdP, PyData.canLayAll0, PyData.canLay0, PyData.depthAll, PyData.depth, hbo, hd]
  k_steps
  unfold Stop
  k_dflt (refine ListComp_S (F₀ := by k_asm) (by with_unfolding_all rfl) (by decide) (by rfl) (by decide) (by rfl) ?_)
  k_steps
  rename News _ _ _ _ => N8
  rename Fr _ _ _ _ => F9
  (try dsimp +zetaDelta only at F9)
  refine ⟨_, _, _, rfl, rfl, F9, N8, ?_, ?_⟩
  · show sl.toArray.size ≤ sizeLine
    rw [List.size_toArray, sizeLine_eq]; omega
  rintro s₂ ⟨g₂, rfl⟩
  refine comp_rest (fun i ys nw => nw = _ ∧ StrsAre ys ((sl.take i).map one)) ⟨rfl, .nil⟩ ?_ ?_
  · rintro i v I oI C oC D m₂ ys nw h9 tk9 E9 hi ⟨cc, tc, hcc, rfl⟩ ⟨rfl, hD⟩ hC hx F' N' off ne
    have hcc' : sl[i]? = some cc := by simpa using hcc
    k_steps
    rename News _ _ _ _ => N7
    refine LCg.CompEnd.intro (by assumption) N7 _ (fun _ h => h) off trivial ⟨rfl, ?_⟩
    rw [List.take_add_one, hcc', List.map_append]
    exact hD.append' (.cons _ _ .nil)
  · rintro ys nw ⟨rfl, hD⟩
    unfold LCg.FinE
    intro D9 h9 tk9 F9' N9' o9
    have hsize : sl.toArray.size = sl.length := by simp
    rw [hsize, List.take_length] at hD
    k_steps
    unfold Stop
    rename News _ _ _ _ => N7
    k_dflt (refine same_eqL (ds := [.list ((sl.map one).map Dat.str), .list []]) N7 (by k_mem) (by k_mem) (.cons (.list (by k_mem) (signs_dat G.sg)) (.cons (.list (by k_mem) .nil) .nil)) (.cons (.list (by k_mem) (signs_dat hD)) (.cons (.list (by k_mem) .nil) .nil)) ?_ (by (first | k_extra "units" | ktr_units)) ?_)
    · refine okDs_of fun d hd => ?_
      simp only [List.mem_cons, List.not_mem_nil, or_false] at hd
      rcases hd with rfl | rfl
      · exact okD_list (ok_ones G.sm) (by rw [depth_strs]; omega)
      · rfl
    k_steps
    rename News _ _ _ _ => N6
    rename Fresh _ _ _ => H6
    exact hret _ _ _ _ (by assumption) N6 (by assumption) H6 ⟨rfl, fun p hp => by repeat (first | exact hp | apply List.Mem.tail)⟩
section
section
variable {prog : Program} {w : World} {A : Around} {E : Value → Shared → Prop} {s : Shared} {env : Env} {h₀ : Heap} {target : PySem.Expr} {body : List Stmt} {Q : Flow → Shared → Prop}
/-- a loop over a list of the ledger that no turn changes -/
theorem turns_list {σ : Type} (LedOf : σ → Led) (ps : σ → List (Str × Value)) (Inv : Nat → σ → Prop) (c₀ : σ) {ax : Addr} {vs : List Value} {n : Nat} {m₀ : Str → Option Value}
    (hh : A.handled = none) (F : Fr h₀ env.locals s.heap m₀) (N : News h₀ env.locals s.heap (LedOf c₀)) (hm : ∀ c, (ax, W.listOf vs.toArray n) ∈ LedOf c) (hp : ∀ p ∈ ps c₀, m₀ p.1 = some p.2) (hi : Inv 0 c₀)
    (turn : ∀ i c v I oI u h tk, vs[i]? = some v → Inv i c → oI.cls = .type "list_iterator" → (∀ p ∈ LedOf c₀, p.1 < I) → Fr h₀ env.locals h (kB u (ps c)) → News h₀ env.locals h (LedOf c ++ [(I, oI)]) →
      wpAny (model prog w) A (assign target env v) (fun _ s₃ => wpAny (model prog w) A (execs body env) (TurnL h₀ env.locals LedOf ps (Inv (i + 1)) [(I, oI)] { s with heap := h, toks := tk } Q) E s₃) E { s with heap := h, toks := tk })
    (done : ∀ c u h tk, Inv vs.length c → Fr h₀ env.locals h (kB u (ps c)) → News h₀ env.locals h (LedOf c) → Q .next { s with heap := h, toks := tk }) :
    wpAny (model prog w) A (pyIter (.ref ax)) (fun it s₂ => TurnsAt prog w A h₀ env target body Q E it s₂) E s := by
  refine iter_listTurns hh F N (hm c₀) rfl rfl fun I hI => ?_
  have key : ∀ (j i : Nat) (c : σ) (m : Str → Option Value), i + j = vs.length → (∀ p ∈ ps c, m p.1 = some p.2) → Inv i c →
      ItemsRest prog w A E h₀ env target body Q s [(I, "list_iterator")] [(ax, W.listOf vs.toArray n)] ((vs.drop i).map .val) m (LedOf c) := by
    intro j
    induction j with
    | zero =>
      intro i c m hij hpc hInv
      have e : i = vs.length := by omega
      subst e
      rw [List.drop_length]
      refine ItemsRest.zero fun h tk F' N' => ?_
      rw [← kB_of hpc] at F'
      exact done c m h tk hInv F' N'
    | succ j ih =>
      intro i c m hij hpc hInv
      have hlt : i < vs.length := by omega
      rw [List.drop_eq_getElem_cons hlt, List.map_cons]
      refine ItemsRest.val fun h tk F' => AllObj.cons fun oI hoI => AllObj.nil fun N' => ?_
      rw [← kB_of hpc] at F'
      have N2 : News h₀ env.locals h (LedOf c ++ [(I, oI)]) := fun p hp => N' p ((List.mem_append.mp hp).elim (fun h => List.mem_append.mpr (.inr h)) fun h => List.mem_append.mpr (.inl (by simpa using h)))
      refine wpAny_mono (turn i c _ I oI m h tk (by simp [hlt]) hInv hoI hI F' N2) (fun _ s₂ h₂ => wpAny_mono h₂ (fun f s₃ t => ?_) fun _ _ e => e) fun _ _ e => e
      have fin : TurnL h₀ env.locals LedOf ps (Inv (i + 1)) [(I, oI)] { s with heap := h, toks := tk } Q .next s₃ →
          UnrEndW h₀ env.locals { s with heap := h, toks := tk } [(I, oI)] (fun m' n' => SubL [(ax, W.listOf vs.toArray n)] n' ∧ ItemsRest prog w A E h₀ env target body Q s [(I, "list_iterator")] [(ax, W.listOf vs.toArray n)] ((vs.drop (i + 1)).map .val) m' n') s₃ := by
        rintro ⟨c', h', tk', m', e, F₂, N₂, ho, hpc', hInv'⟩
        refine ⟨h', tk', m', LedOf c', e, F₂, fun p hp => N₂ p ((List.mem_append.mp hp).elim (fun h => List.mem_append.mpr (.inr (by simpa using h))) fun h => List.mem_append.mpr (.inl h)), fun p hp q hq => ?_, ⟨hm c', trivial⟩, ih (i + 1) c' m' (by omega) hpc' hInv'⟩
        exact fun z => ho q hq p.1 (List.mem_map.mpr ⟨p, hp, rfl⟩) z.symm
      cases f with
      | ret v => exact t
      | brk => exact t
      | next => exact fin t
      | cont => exact fin t
  have := key vs.length 0 c₀ m₀ (by omega) hp hi
  rwa [List.drop_zero] at this
end
end
theorem off_td {w : World} {Z : Tz} {S : Ts} {h₀ h : Heap} {L : Addr} {r : Led} (N : News h₀ L h (tzLed w Z S ++ r)) (hr : ∀ p ∈ r, p.2.cls ≠ .type "dict") : OwnOff r [Z.td] := by
  intro p hp b hb e
  rw [List.mem_singleton.mp hb] at e
  have h1 := (N p (List.mem_append_right _ hp)).1
  have h2 := (N (Z.td, _) (List.mem_append_left _ (.tail _ (.head _)))).1
  rw [e] at h1
  have := Option.some.inj (h1.symm.trans h2)
  exact hr p hp (by rw [this])
theorem wd_kind {W : Wd} {ws : Nat → List Nat × Bool} : ∀ p ∈ wdLed W ws, p.2.cls ≠ .type "dict" := by
  intro p hp
  simp only [wdLed, List.mem_cons, List.not_mem_nil, or_false] at hp
  rcases hp with rfl | rfl | rfl | rfl | rfl <;> (dsimp only [PySem.W.listOf]; intro e; simp at e)
theorem tup_kind {l : Led} (h : Tups l) : ∀ p ∈ l, p.2.cls ≠ .type "dict" := fun p hp e => by rw [h p hp] at e; simp at e
theorem okD_str {x : Str} (h : PyData.strOk x = true) : okD (.str x) = true := by simp [okD, noB, kqdP, PyData.canLay0, PyData.depth, h]
theorem strOk_nm (k : Nat) : PyData.strOk (nm k) = true := by
  match k with
  | 0 => decide +kernel
  | 1 => decide +kernel
  | 2 => decide +kernel
  | 3 => decide +kernel
  | _ + 4 => exact (by decide +kernel : PyData.strOk (Str.ofString "five") = true)
theorem ok_seen {at' : Int} {wt dn : Bool} {last : List Nat} {k : Nat} {out errs : List Dat} (h1 : okD (.list out) = true) (h2 : okD (.list errs) = true) (h3 : PyData.strOk ⟨last.toArray⟩ = true) :
    okDs [.list out, .list errs, .int at', .str (nm k), .str ⟨last.toArray⟩, .bool wt, .bool dn] = true := by
  refine okDs_of fun d hd => ?_
  simp only [List.mem_cons, List.not_mem_nil, or_false] at hd
  rcases hd with rfl | rfl | rfl | rfl | rfl | rfl | rfl
  · exact h1
  · exact h2
  · rfl
  · exact okD_str (strOk_nm k)
  · exact okD_str h3
  · rfl
  · rfl
theorem look_kind {W : Wd} {ws : Nat → List Nat × Bool} {nt : Led} (q o e : Addr) {a b c : Array Value} {n0 n1 n2 : Nat} (hT : Tups nt) : ∀ p ∈ ((q, PySem.W.listOf a n0) :: (o, PySem.W.listOf b n1) :: (e, PySem.W.listOf c n2) :: (nt ++ wdLed W ws) : Led), p.2.cls ≠ .type "dict" := by
  intro p hp
  simp only [List.mem_cons, List.mem_append] at hp
  rcases hp with rfl | rfl | rfl | hp | hp
  · dsimp only [PySem.W.listOf]; intro e; simp at e
  · dsimp only [PySem.W.listOf]; intro e; simp at e
  · dsimp only [PySem.W.listOf]; intro e; simp at e
  · exact tup_kind hT p hp
  · exact wd_kind p hp
set_option maxHeartbeats 0 in
theorem looked_spec (w : World) (Z : Tz) (S : Ts) (hZ : Z.Ok) (W : Wd) (ws : Nat → List Nat × Bool) (hwl : ∀ k < 4, (ws k).1.length ≤ 1000) (sl : List Nat) (G : SgOk S sl) (c : Mc) (nt : Led) (R : Rel S nt c) (hd1 : okD (.list c.out) = true) (hd2 : okD (.list c.errs) = true) (hd3 : PyData.strOk ⟨c.last.toArray⟩ = true) (ho1 : c.out.length ≤ 10000) (ho2 : c.errs.length ≤ 10000) (tk1 : Tok) :
    Spec w 40 379 [.ref Z.t, .str ⟨sl.toArray⟩ tk1, .bool S.closed, .ref W.a] (tzLed w Z S ++ (nt ++ wdLed W ws))
      (fun r led' => r = .bool true ∧ ∃ a1, led' = tzLed w Z { S with a1 := a1 } ++ (nt ++ wdLed W ws)) := by
  w_top off
  have hl1 : (⟨sl.toArray⟩ : Str).length ≤ 100000 := by rw [len_tx]; have := G.le; omega
  have q1 := R.out.length
  have q2 := R.errs.length
  have z9 := hZ.2.2.2.2.2.2.2.2
  unfold Spec
  intro mg mb mean dp un gd cn cs a ccd cl outer A₀ base h₀ L m s Q E B F X N T hk hroom hun hret
  refine wpAny_call ?_
  k_dflt (refine' enterH ?k1'9 ?k2'9 ?k3'9 ?k4'9 ?k5'9 ?kA'9 ?kF'9 ?kK'9 ?k6'9 ?k7'9 ?k8'9 ?k9'9 ?kB'9 ?_ ?c2'9 ?c3'9 ?c4'9 ?c5'9; (case kA'9 => exact rfl); (case kF'9 => exact rfl); (case kK'9 => assumption); (case k1'9 => k_asm); (case k2'9 => k_asm); (case k3'9 => k_asm); (case k4'9 => k_asm); (case k5'9 => k_asm); (case k6'9 => k_is); (case k7'9 => k_is); (case k8'9 => (first | exact rm0 (by assumption) | exact rm1 (by assumption) (by decide) | k_extra "room" | ktr_room)); (case k9'9 => first | exact BindsTo.of_eq rfl | exact binds_K (by k_in) rfl (by k_is) rfl rfl rfl | exact hbind9 _ (by k_in)); (case c5'9 => decide); (case kB'9 => exact locs rfl); (case c2'9 => exact rfl); (case c3'9 => exact rfl); (case c4'9 => exact rfl); k_whole; intro _ _ _ _ _ _ _ _ l1'9; (try k_lt l1'9); (try dsimp only); (with_reducible refine (?_ : wpAny _ _ _ _ _ _)); (try ((fail_if_success (fail_if_success k_fold)); refine fold_QE ?_; intro _ _)); (try (revert l1'9; intro _)))
  k_with_none
  k_with "room" => (first | exact rmS2 (by assumption) (by decide) | exact rmS3 (by assumption) (by decide) | exact rmS4 (by assumption) (by decide) | exact rm2 (by assumption) (by decide) | exact rm0 (by assumption) | exact rm1 (by assumption) (by decide) | (dsimp +zetaDelta only; ktr_room))
  k_with "units" => (first | exact cl3 (by assumption) (by decide) | exact um2 (by assumption) (by decide) | exact um1 (by assumption) (by decide) | (dsimp +zetaDelta only; ktr_units))
  k_with "is_list" => (exact News.isList (by k_asm) (by k_mem))
  k_with "st" => (first | ((fail_if_success (fail_if_success k_unfold)); refine (?_ : wpAny _ _ _ _ _ _)) | (k_unfold; (try dsimp only)) | (k_end; wrow_close) | walk1 | (dsimp only; walk1) | (leave1; walk_say "STEP leave1"; try dsimp only) | fail "no step")
  k_with "om" => (first | assumption | with_reducible rfl | decide | exact Nat.le_trans (by assumption) (by decide) | exact Nat.lt_of_le_of_lt (by assumption) (by decide) | ((repeat (with_reducible rename _ ∧ _ => om9; clear om9)); first | ((repeat (with_reducible rename _ ≠ _ => om9; clear om9)); (repeat (with_reducible rename @Eq Nat _ _ => om9; clear om9)); (repeat (with_reducible rename @Eq Int _ _ => om9; clear om9)); omega +splitNatSub) | omega +splitNatSub))
  k_with "fold" => ((fail_if_success (fail_if_success k_fold)); refine fold_QES ?_; intro _ _ _ _)
  k_with "kne" => (first | ((refine (?_ : @Ne Nat _ _)); first | assumption | exact Ne.symm (by assumption) | k_extra "ne") | (refine neN ?_; (try dsimp only); first | assumption | exact Ne.symm (by assumption) | k_extra "ne" | omega))
  k_with "tb" => (repeat (first | exact List.forall_mem_nil _ | refine List.forall_mem_cons.mpr ⟨rfl, ?_⟩))
  k_with "ne" => with_reducible (first | exact na0 (by assumption) | exact ns0 (by assumption) | exact na1 (by assumption) | exact ns1 (by assumption) | exact na2 (by assumption) | exact ns2 (by assumption) | exact na3 (by assumption) | exact ns3 (by assumption) | exact na4 (by assumption) | exact ns4 (by assumption) | exact na5 (by assumption) | exact ns5 (by assumption) | exact na6 (by assumption) | exact ns6 (by assumption) | exact na7 (by assumption) | exact ns7 (by assumption) | exact na8 (by assumption) | exact ns8 (by assumption) | exact na9 (by assumption) | exact ns9 (by assumption) | exact na10 (by assumption) | exact ns10 (by assumption) | exact na11 (by assumption) | exact ns11 (by assumption) | exact na12 (by assumption) | exact ns12 (by assumption) | exact na13 (by assumption) | exact ns13 (by assumption) | exact na14 (by assumption) | exact ns14 (by assumption) | exact na15 (by assumption) | exact ns15 (by assumption))
  k_with "ne" => with_reducible (first | (show Tz.sts _ ≠ _; first | exact zn01 (by assumption) | exact zn02 (by assumption) | exact zn03 (by assumption) | exact zn04 (by assumption) | exact zn05 (by assumption) | exact zn06 (by assumption) | exact zn07 (by assumption) | exact zn08 (by assumption)) | (show Tz.td _ ≠ _; first | exact zn10 (by assumption) | exact zn12 (by assumption) | exact zn13 (by assumption) | exact zn14 (by assumption) | exact zn15 (by assumption) | exact zn16 (by assumption) | exact zn17 (by assumption) | exact zn18 (by assumption)) | (show Tz.t _ ≠ _; first | exact zn20 (by assumption) | exact zn21 (by assumption) | exact zn23 (by assumption) | exact zn24 (by assumption) | exact zn25 (by assumption) | exact zn26 (by assumption) | exact zn27 (by assumption) | exact zn28 (by assumption)) | (show Tz.sd _ ≠ _; first | exact zn30 (by assumption) | exact zn31 (by assumption) | exact zn32 (by assumption) | exact zn34 (by assumption) | exact zn35 (by assumption) | exact zn36 (by assumption) | exact zn37 (by assumption) | exact zn38 (by assumption)) | (show Tz.st _ ≠ _; first | exact zn40 (by assumption) | exact zn41 (by assumption) | exact zn42 (by assumption) | exact zn43 (by assumption) | exact zn45 (by assumption) | exact zn46 (by assumption) | exact zn47 (by assumption) | exact zn48 (by assumption)) | (show Tz.sg _ ≠ _; first | exact zn50 (by assumption) | exact zn51 (by assumption) | exact zn52 (by assumption) | exact zn53 (by assumption) | exact zn54 (by assumption) | exact zn56 (by assumption) | exact zn57 (by assumption) | exact zn58 (by assumption)) | (show Tz.se _ ≠ _; first | exact zn60 (by assumption) | exact zn61 (by assumption) | exact zn62 (by assumption) | exact zn63 (by assumption) | exact zn64 (by assumption) | exact zn65 (by assumption) | exact zn67 (by assumption) | exact zn68 (by assumption)) | (show Tz.ou _ ≠ _; first | exact zn70 (by assumption) | exact zn71 (by assumption) | exact zn72 (by assumption) | exact zn73 (by assumption) | exact zn74 (by assumption) | exact zn75 (by assumption) | exact zn76 (by assumption) | exact zn78 (by assumption)) | (show Tz.er _ ≠ _; first | exact zn80 (by assumption) | exact zn81 (by assumption) | exact zn82 (by assumption) | exact zn83 (by assumption) | exact zn84 (by assumption) | exact zn85 (by assumption) | exact zn86 (by assumption) | exact zn87 (by assumption)))
  k_with "execs cons" => ((try ((fail_if_success (fail_if_success k_fold)); refine fold_QE ?_; intro _ _)); refine ex_consA ?_; intro _ _ _ _; (try (with_reducible rename News _ _ _ _ => kN'9; dsimp only at kN'9)); (try (with_reducible rename Fr _ _ _ _ => kF'9; refine f_let kF'9 ?_; clear kF'9; intro _ _)))
  k_with "LeaveH" => (refine' leaveH_ ?k1'9 ?k2'9 ?_; (case k1'9 => k_asm); (case k2'9 => k_asm); k_whole; intro _ _ _ _)
  k_with "pyIter ref" => ((with_reducible show wpAny _ _ (pyIter _) (fun it s₂ => LoopAtV _ _ _ _ _ _ _ _ _ it s₂) _ _); refine Stop.mk ?_)
  k_with "pyIter str" => ((with_reducible show wpAny _ _ (pyIter _) (fun it s₂ => LoopAtV _ _ _ _ _ _ _ _ _ it s₂) _ _); refine Stop.mk ?_)
  k_with "call ref" => (k_extra "mine call")
  k_with "call builtin:len" => (k_here; (with_reducible show wpAny _ _ (call (Value.builtin "len") [Value.ref _]) _ _ _); (with_unfolding_all refine' len_listN ?k1'9 ?k2'9 ?_; (case k1'9 => is_list); (case k2'9 => omega); k_whole))
  k_with "subscriptTail" => (k_here; (with_reducible show wpAny _ _ (subscriptTail _ _ (Value.ref _) (Value.int _ _)) _ _ _); (with_unfolding_all refine' sign_item ?k1'9 ?k2'9 ?k3'9 ?k4'9 ?k5'9 ?_; (case k1'9 => is_list); (case k2'9 => assumption); (case k3'9 => assumption); (case k4'9 => (push_cast; omega)); (case k5'9 => omega); k_whole); intro _)
  k_with "subscriptTail" => (k_here; (with_reducible show wpAny _ _ (subscriptTail _ _ (Value.str _ _) (Value.int _ _)) _ _ _); (with_unfolding_all refine' char_item ?k1'9 ?k2'9 ?k3'9 ?_; (case k1'9 => assumption); (case k2'9 => (push_cast; omega)); (case k3'9 => omega); k_whole))
  k_with "TurnL" => (refine TurnL.ret ?_; (try dsimp only))
  k_with "subscriptTail Name Name str int" => (k_here; (with_reducible show wpAny _ _ (subscriptTail _ _ (Value.str _ _) (Value.int _ _)) _ _ _); (with_unfolding_all refine' char_item ?k1'9 ?k2'9 ?k3'9 ?_; (case k1'9 => assumption); (case k2'9 => (push_cast; omega)); (case k3'9 => omega); k_whole))
  k_with "exec For Name Name cons nil" => (k_here; (rename Fr _ _ _ _ => lF'9); (with_unfolding_all refine' For_invVF lF'9 ?k1'9 ?k2'9 ?_; (case k1'9 => exact rfl); (case k2'9 => exact rfl); k_whole))
  k_with "call builtin:list.append" => (k_here; (with_reducible show wpAny _ _ (call (Value.builtin _) [Value.ref _, _]) _ _ _); k_dflt (refine' append_K ?k1'9 ?k2'9 ?k3'9 ?_ ?z'9; (case k1'9 => k_asm); (case k2'9 => k_asm); (case k3'9 => k_upd); (case z'9 => assumption); k_whole); intro _ _ _; (try k_sweep))
  k_with "call builtin:str.split" => (k_here; (with_reducible show wpAny _ _ (call (Value.builtin "str.split") _) _ _ _); (refine KSpl.split1 (by k_asm) (by k_asm) (by decide) ?_ (by assumption)); (intro _ _ _ _ e'9 a'9 _ _ l1'9); (try k_lt l1'9); rw [e'9] at a'9; (try (revert a'9; intro _)); (try (revert l1'9; intro _)); (try (revert e'9; intro _)))
  k_with "subscriptTail" => (k_here; (with_reducible show wpAny _ _ (subscriptTail _ _ (Value.ref _) (Value.int _ _)) _ _ _); (with_unfolding_all refine' strs_item ?k1'9 ?k2'9 ?k3'9 ?k4'9 ?k5'9 ?_; (case k1'9 => is_list); (case k2'9 => assumption); (case k3'9 => assumption); (case k4'9 => rfl); (case k5'9 => omega); k_whole); intro _)
  k_with "subscriptTail Call Attribute cons nil Name ref int" => (k_here; (with_reducible show wpAny _ _ (subscriptTail _ _ (Value.ref _) (Value.int _ _)) _ _ _); (with_unfolding_all refine' strs_item ?k1'9 ?k2'9 ?k3'9 ?k4'9 ?k5'9 ?_; (case k1'9 => is_list); (case k2'9 => assumption); (case k3'9 => assumption); (case k4'9 => rfl); (case k5'9 => omega); k_whole); intro _)
  k_with "getMethod ref" => (k_here; (with_reducible show wpAny _ _ (getMethod (Value.ref _) (PySem.Str.ofString "index") _) _ _ _); k_dflt (refine' names_method ?N'9 ?m'9 ?_; (case N'9 => k_asm); (case m'9 => k_mem)))
  k_with "call builtin:tuple.index" => (k_here; k_dflt (refine' names_index ?k'9 ?N'9 ?m'9 ?_; (case N'9 => k_asm); (case m'9 => k_mem); (case k'9 => omega)))
  k_with "subscriptTail Name BinOp ref int" => (k_here; (with_reducible show wpAny _ _ (subscriptTail _ _ (Value.ref _) (Value.int _ _)) _ _ _); (with_unfolding_all refine' names_item ?N'9 ?m'9 ?hj'9 ?h5'9 ?_; (case N'9 => k_asm); (case m'9 => k_mem); (case hj'9 => assumption); (case h5'9 => omega); k_whole); intro _)
  k_with "subscriptTail Name Slice str ref" => (k_here; ((with_unfolding_all refine' cut_tail ?F'9 ?N'9 ?sz'9 ?_); (case F'9 => k_asm); (case N'9 => k_asm); (case sz'9 => assumption); intro _ _ _ _ _; (try k_sweep)))
  k_with "subscriptTail Name Constant str int" => (k_here; (with_unfolding_all refine' head_item ?sz'9 ?_); (case sz'9 => assumption))
  k_with "setAttr ref" => (k_here; k_dflt (first | (refine' set_tz ?k1'9 ?k2'9 ?k3'9 ?k4'9 ?k5'9 ?k6'9 ?k7'9 ?k8'9 ?k9'9 ?k10'9 ?k11'9 ?k12'9 ?k13'9 ?_; (case k1'9 => k_asm); (case k2'9 => k_asm); (case k3'9 => k_asm); (case k4'9 => k_inst); (case k5'9 => exact rfl); (case k6'9 => k_is); (case k7'9 => k_is); (case k8'9 => k_is); (case k9'9 => k_is); (case k10'9 => k_get); (case k11'9 => k_put); (case k12'9 => k_upd); (case k13'9 => exact Nat.le_of_ble_eq_true rfl); k_whole; intro _ _ _; (try k_sweep)) | (refine' set_st ?k1'9 ?k2'9 ?k3'9 ?k4'9 ?k5'9 ?k6'9 ?k7'9 ?k8'9 ?k9'9 ?k10'9 ?k11'9 ?k12'9 ?k13'9 ?_; (case k1'9 => k_asm); (case k2'9 => k_asm); (case k3'9 => k_asm); (case k4'9 => k_inst); (case k5'9 => exact rfl); (case k6'9 => k_is); (case k7'9 => k_is); (case k8'9 => k_is); (case k9'9 => k_is); (case k10'9 => k_get); (case k11'9 => k_put); (case k12'9 => k_upd); (case k13'9 => exact Nat.le_of_ble_eq_true rfl); k_whole; intro _ _ _; (try k_sweep))))
  k_with "eval BinOp" => k_extra "fold"
  k_with "eval Call" => k_extra "fold"
  k_with "eval List" => k_extra "fold"
  k_with "eval Tuple" => k_extra "fold"
  k_with "eval Subscript" => k_extra "fold"
  k_with "eval Compare" => k_extra "fold"
  k_with "eval BoolOp" => k_extra "fold"
  k_with "exec For Tuple Name cons nil" => (k_here; (rename Fr _ _ _ _ => lF'9); (with_unfolding_all refine' For_turns lF'9 ?_; k_whole))
  k_with "pyIter ref" => ((with_reducible show wpAny _ _ (pyIter _) (fun it s₂ => TurnsAt _ _ _ _ _ _ _ _ _ it s₂) _ _); refine Stop.mk ?_)
  k_with "pyIter ref" => ((with_reducible show wpAny _ _ (pyIter _) (fun it s₂ => LoopAtV _ _ _ _ _ _ _ _ _ it s₂) _ _); refine Stop.mk ?_)
  k_with "compareOp Eq ref ref" => (k_here; (with_reducible show wpAny _ _ (compareOp CmpOp.Eq (Value.ref _) (Value.ref _)) _ _ _); refine Stop.mk ?_)
  k_with "mine call" => ((with_reducible show wpAny _ _ (call (Value.ref 319) _) _ _ _); refine Stop.mk ?_)
  k_with "mine call" => ((with_reducible show wpAny _ _ (call (Value.ref 367) _) _ _ _); refine Stop.mk ?_)
  k_with "mine call" => ((with_reducible show wpAny _ _ (call (Value.ref 350) _) _ _ _); refine Stop.mk ?_)
  k_with "mine call" => ((with_reducible show wpAny _ _ (call (Value.ref 244) _) _ _ _); refine Stop.mk ?_)
  k_steps
  unfold Stop
  rename News _ _ _ _ => N9
  k_dflt (refine (seen_spec w Z S (by omega) (by omega)).useR seen_ro (by k_asm) (by k_asm) (by k_asm) N9 (by k_asm) rfl (by (first | exact rm0 (by assumption) | exact rm1 (by assumption) (by decide) | k_extra "room" | ktr_room)) (by (first | k_extra "units" | ktr_units)) (fun p hp => List.mem_append_left _ hp) ?_)
  rintro r led' h' tk' F' N' fresh so9
  refine so9.elim ?_
  clear so9
  rintro q o e n0 n1' n2' t1 t2 t3 rfl mq mo me mT
  clear fresh
  replace N' := News.sub (b := tzLed w Z S ++ ((q, listOf [Value.ref o, .ref e, .int (S.at' : Nat) t1, .str S.state t2, .str S.last t3, .bool S.waiting, .bool S.done].toArray n0) :: (o, listOf S.out.toArray n1') :: (e, listOf S.errs.toArray n2') :: (nt ++ wdLed W ws))) N' (fun p hp => by
    simp only [List.mem_cons, List.mem_append] at hp ⊢
    rcases hp with h | rfl | rfl | rfl | h
    · exact .inr (.inl h)
    · exact .inl mq
    · exact .inl mo
    · exact .inl me
    · exact .inr (.inr h))
  have rk : ∀ p ∈ ((q, listOf [Value.ref o, .ref e, .int (S.at' : Nat) t1, .str S.state t2, .str S.last t3, .bool S.waiting, .bool S.done].toArray n0) :: (o, listOf S.out.toArray n1') :: (e, listOf S.errs.toArray n2') :: (nt ++ wdLed W ws) : Led), p.2.cls ≠ .type "dict" := look_kind q o e R.tups
  obtain ⟨rest, hrest⟩ : ∃ r : Led, r = (q, listOf [Value.ref o, .ref e, .int (S.at' : Nat) t1, .str S.state t2, .str S.last t3, .bool S.waiting, .bool S.done].toArray n0) :: (o, listOf S.out.toArray n1') :: (e, listOf S.errs.toArray n2') :: (nt ++ wdLed W ws) := ⟨_, rfl⟩
  rw [← hrest] at N' rk
  have rq : (q, listOf [Value.ref o, .ref e, .int (S.at' : Nat) t1, .str S.state t2, .str S.last t3, .bool S.waiting, .bool S.done].toArray n0) ∈ rest := by rw [hrest]; exact .head _
  have ro : (o, listOf S.out.toArray n1') ∈ rest := by rw [hrest]; exact .tail _ (.head _)
  have re : (e, listOf S.errs.toArray n2') ∈ rest := by rw [hrest]; exact .tail _ (.tail _ (.head _))
  have rw' : ∀ p ∈ wdLed W ws, p ∈ rest := fun p hp => by rw [hrest]; exact .tail _ (.tail _ (.tail _ (List.mem_append_right _ hp)))
  have rn : ∀ p ∈ nt ++ wdLed W ws, p ∈ rest := fun p hp => by rw [hrest]; exact .tail _ (.tail _ (.tail _ hp))
  clear hrest
  (try dsimp only)
  k_steps
  unfold Stop
  k_dflt (refine (small_spec w sl _ G.le G.sm).use0 (by k_asm) (by k_asm) (by k_asm) (by k_asm) (by k_asm) rfl (by (first | exact rm0 (by assumption) | exact rm1 (by assumption) (by decide) | k_extra "room" | ktr_room)) (by (first | k_extra "units" | ktr_units)) ?_)
  rintro r led' h' tk' F' N' off ⟨rfl, tk2, rfl⟩
  rw [List.nil_append] at N'
  clear off
  (try dsimp only)
  k_steps
  unfold Stop
  rename News _ _ _ _ => N8
  refine iter_range (σ := Nat × Tok) (fun c₁ => tzLed w Z { S with at' := c₁.1, a1 := c₁.2 } ++ rest)
      (fun _ => [("t", .ref Z.t), ("text", .str ⟨sl.toArray⟩ tk1), ("is_closed", .bool S.closed), ("words", .ref W.a), ("seen", .ref q), ("small", .str ⟨(sl.map lowC).toArray⟩ tk2)])
      (fun _ _ => True) (S.at', S.a1) (sl.length + 2) rfl (by assumption) ?hsm ?hn (by assumption) N8 ?hps trivial ?turn ?done
  case hsm =>
    rw [len_tx, show ((sl.length : Int) + 2) = ((sl.length + 2 : Nat) : Int) from by push_cast; rfl]; exact small_nat (by have := G.le; omega)
  case hn =>
    rw [len_tx, show ((sl.length : Int) + 2) = ((sl.length + 2 : Nat) : Int) from by push_cast; rfl]; exact size_nat _
  case hps => tb_start
  case done =>
    rintro ⟨a9, b9⟩ u h tk _ F' N'
    dsimp only at N'
    have hoff : OwnOff rest [Z.td] := off_td N' rk
    have hqd : @Ne Nat q Z.td := hoff _ rq _ (.head _)
    have N2 := News.cons_mem N' (List.mem_append_right _ rq)
    clear N'
    simp only [tzLed, List.cons_append, List.nil_append] at N2
    (try dsimp only)
    k_steps
    unfold Stop
    rename News _ _ _ _ => N8
    have N9 : News _ _ _ ((q, listOf [Value.ref o, .ref e, .int (S.at' : Nat) t1, .str S.state t2, .str S.last t3, .bool S.waiting, .bool S.done].toArray n0) :: (tzLed w Z { S with a1 := t1 } ++ rest)) := N8
    clear N8
    k_dflt (refine (seen_spec w Z { S with a1 := t1 } (by show S.out.length ≤ _; omega) (by show S.errs.length ≤ _; omega)).useR seen_ro (by k_asm) (by k_asm) (by k_asm) N9 (by k_asm) rfl (by (first | exact rm0 (by assumption) | exact rm1 (by assumption) (by decide) | k_extra "room" | ktr_room)) (by (first | k_extra "units" | ktr_units)) (fun p hp => .tail _ (List.mem_append_left _ hp)) ?_)
    rintro r led' h' tk' F' N' fresh so9
    refine so9.elim ?_
    clear so9
    rintro Q2 o2 e2 m0 m1 m2 y1 y2 y3 rfl Mq Mo Me MT
    clear fresh
    (try dsimp only)
    k_steps
    unfold Stop
    rename News _ _ _ _ => N7
    have sub1 : ∀ p ∈ nt, p ∈ led' ++ ((q, listOf [Value.ref o, .ref e, .int (S.at' : Nat) t1, .str S.state t2, .str S.last t3, .bool S.waiting, .bool S.done].toArray n0) :: (tzLed w Z { S with a1 := t1 } ++ rest)) := fun p hp => List.mem_append_right _ (.tail _ (List.mem_append_right _ (rn _ (List.mem_append_left _ hp))))
    have sub2 : ∀ p ∈ rest, p ∈ led' ++ ((q, listOf [Value.ref o, .ref e, .int (S.at' : Nat) t1, .str S.state t2, .str S.last t3, .bool S.waiting, .bool S.done].toArray n0) :: (tzLed w Z { S with a1 := t1 } ++ rest)) := fun p hp => List.mem_append_right _ (.tail _ (List.mem_append_right _ hp))
    k_dflt (refine same_eqL (ds := [.list c.out, .list c.errs, .int (S.at' : Nat), .str S.state, .str S.last, .bool S.waiting, .bool S.done]) N7 (List.mem_append_left _ Mq) (sub2 _ rq) (.cons (.list (List.mem_append_left _ Mo) (R.out.mono sub1)) (.cons (.list (List.mem_append_left _ Me) (R.errs.mono sub1)) (.cons (.int _ _) (.cons (.str _ _) (.cons (.str _ _) (.cons (.bool _) (.cons (.bool _) .nil))))))) (.cons (.list (sub2 _ ro) (R.out.mono sub1)) (.cons (.list (sub2 _ re) (R.errs.mono sub1)) (.cons (.int _ _) (.cons (.str _ _) (.cons (.str _ _) (.cons (.bool _) (.cons (.bool _) .nil))))))) ?_ (by (first | k_extra "units" | ktr_units)) ?_)
    · rw [R.state, R.last]
      exact ok_seen hd1 hd2 hd3
    k_steps
    rename News _ _ _ _ => N6
    rename Fresh _ _ _ => H6
    have sub3 : ∀ p ∈ tzLed w Z { S with a1 := t1 } ++ (nt ++ wdLed W ws), p ∈ led' ++ ((q, listOf [Value.ref o, .ref e, .int (S.at' : Nat) t1, .str S.state t2, .str S.last t3, .bool S.waiting, .bool S.done].toArray n0) :: (tzLed w Z { S with a1 := t1 } ++ rest)) := fun p hp => List.mem_append_right _ (.tail _ ((List.mem_append.mp hp).elim (fun h => List.mem_append_left _ h) fun h => List.mem_append_right _ (rn _ h)))
    exact hret _ (tzLed w Z { S with a1 := t1 } ++ (nt ++ wdLed W ws)) _ _ (by assumption) (News.sub N6 sub3) (by assumption) (Fresh.sub H6 sub3) ⟨rfl, t1, rfl⟩
  case turn =>
    rintro i ⟨a9, b9⟩ ti own u h tk hi _ ho hlt F' N'
    dsimp only at ho N'
    (try dsimp only)
    rw [List.append_assoc] at N'
    have hoff : OwnOff (rest ++ own) [Z.td] := OwnOff.app (off_td (r := rest) (fun p hp => N' p (by rw [← List.append_assoc]; exact List.mem_append_left _ hp)) rk) (OwnOff.sub ho fun b hb => by rw [List.mem_singleton.mp hb]; exact .tail _ (.head _))
    simp only [tzLed, List.cons_append, List.nil_append] at N'
    k_steps
    unfold Stop
    rename News _ _ _ _ => N8
    have N9 : News _ _ _ (tzLed w Z { S with at' := i, a1 := ti } ++ (rest ++ own)) := N8
    clear N8
    have hmem : (W.a, listOf [Value.ref (W.t 0), .ref (W.t 1), .ref (W.t 2), .ref (W.t 3)].toArray W.n) ∈ tzLed w Z { S with at' := i, a1 := ti } ++ (rest ++ own) := List.mem_append_right _ (List.mem_append_left _ (rw' _ (.head _)))
    refine turns_list (σ := Unit) (fun _ => tzLed w Z { S with at' := i, a1 := ti } ++ (rest ++ own)) (fun _ => [("t", .ref Z.t), ("text", .str ⟨sl.toArray⟩ tk1), ("is_closed", .bool S.closed), ("words", .ref W.a), ("seen", .ref q), ("small", .str ⟨(sl.map lowC).toArray⟩ tk2), ("at", .int (i : Nat) ti)]) (fun _ _ => True) () rfl (by assumption) N9 (fun _ => hmem) (by tb_start) trivial ?turn2 ?done2
    case turn2 =>
      rintro k _ v I oI u2 h2 tk2' hv _ hoI hI F2 N2
      have hk4' : k < 4 := by have := (List.getElem?_eq_some_iff.mp hv).1; simpa using this
      have hvk : v = .ref (W.t k) := by
        have hq := lt4 hk4'
        rcases hq with rfl | rfl | rfl | rfl <;> (simp at hv; exact hv.symm)
      subst hvk
      have N3 := News.cons_mem N2 (List.mem_append_left _ (List.mem_append_right _ (List.mem_append_left _ (rw' _ (wd_mem hk4')))))
      have hwlk := hwl k hk4'
      cases hf : (ws k).2
      · k_steps
        unfold Stop
        rename News _ _ _ _ => N4
        k_dflt (refine (looks_spec0 w Z { S with at' := i, a1 := ti } (ws k).1 sl _ hwlk G.sg G.le G.sm).useR (fun r l h p hp => by rw [h.2]; exact hp) (by k_asm) (by k_asm) (by k_asm) N4 (by k_asm) rfl (by (first | exact rm0 (by assumption) | exact rm1 (by assumption) (by decide) | k_extra "room" | ktr_room)) (by (first | k_extra "units" | ktr_units)) (fun p hp => .tail _ (List.mem_append_left _ (List.mem_append_left _ hp))) ?_)
        rintro r led' h' tk' F' N' fresh ⟨⟨tkr, rfl⟩, rfl⟩
        clear fresh
        replace N' := News.sub N' (fun p hp => List.mem_append_right _ hp)
        (try dsimp only)
        k_steps
        unfold Stop
        k_dflt (refine (llooks_spec w _ _ i _ (ws k).1 _ S.closed (by have := G.le; omega) (by omega) (by have := G.le; omega)).use0 (by k_asm) (by k_asm) (by k_asm) (by k_asm) (by k_asm) rfl (by (first | exact rm0 (by assumption) | exact rm1 (by assumption) (by decide) | k_extra "room" | ktr_room)) (by (first | k_extra "units" | ktr_units)) ?_)
        rintro r led' h' tk' F' N' off ⟨rfl, tkr2, rfl⟩
        rw [List.nil_append] at N'
        clear off
        rw [← look_ll]
        (try dsimp only)
        k_steps
        · rename ¬ _ = _ => hne
          exact absurd rfl hne
        · rename News _ _ _ _ => N5
          exact TurnL.next () (by assumption) (News.sub N5 fun p hp => .tail _ hp) (OwnOff.cons (fun b hb => by obtain ⟨p, hp, rfl⟩ := List.mem_map.mp hb; exact Nat.ne_of_gt (hI p hp)) OwnOff.nil) (by tb_start) trivial
      · k_steps
        unfold Stop
        rename News _ _ _ _ => N4
        k_dflt (refine (looks_spec w Z { S with at' := i, a1 := ti } true (ws k).1 sl _ hwlk G.sg G.le G.sm).useR (fun r l h p hp => by rw [h.2]; exact hp) (by k_asm) (by k_asm) (by k_asm) N4 (by k_asm) rfl (by (first | exact rm0 (by assumption) | exact rm1 (by assumption) (by decide) | k_extra "room" | ktr_room)) (by (first | k_extra "units" | ktr_units)) (fun p hp => .tail _ (List.mem_append_left _ (List.mem_append_left _ hp))) ?_)
        rintro r led' h' tk' F' N' fresh ⟨⟨tkr, rfl⟩, rfl⟩
        clear fresh
        replace N' := News.sub N' (fun p hp => List.mem_append_right _ hp)
        (try dsimp only)
        k_steps
        unfold Stop
        k_dflt (refine (llooks_spec w _ _ i _ (ws k).1 _ S.closed (by rw [List.length_map]; have := G.le; omega) (by omega) (by have := G.le; omega)).use0 (by k_asm) (by k_asm) (by k_asm) (by k_asm) (by k_asm) rfl (by (first | exact rm0 (by assumption) | exact rm1 (by assumption) (by decide) | k_extra "room" | ktr_room)) (by (first | k_extra "units" | ktr_units)) ?_)
        rintro r led' h' tk' F' N' off ⟨rfl, tkr2, rfl⟩
        rw [List.nil_append] at N'
        clear off
        rw [← look_ll, ← look_fold]
        (try dsimp only)
        k_steps
        · rename ¬ _ = _ => hne
          exact absurd rfl hne
        · rename News _ _ _ _ => N5
          exact TurnL.next () (by assumption) (News.sub N5 fun p hp => .tail _ hp) (OwnOff.cons (fun b hb => by obtain ⟨p, hp, rfl⟩ := List.mem_map.mp hb; exact Nat.ne_of_gt (hI p hp)) OwnOff.nil) (by tb_start) trivial
    case done2 =>
      rintro _ u2 h2 tk2' _ F2 N2
      k_steps
      · rename ¬ _ = _ => hne
        exact absurd rfl hne
      · rename News _ _ _ _ => N5
        rw [← List.append_assoc] at N5
        exact TurnL.next (i, ti) (by assumption) N5 ho (by tb_start) trivial
theorem IsListAt {h g : Heap} {l : Addr} {v : Array Value} (x : h.IsList l v) (k : ∀ b o, h.get? b = some o → g.get? b = some o) : g.IsList l v := x.at fun o e => k _ _ e
noncomputable def dig (ns : List Int) (k : Nat) : Int := ns.getD k 0
set_option maxHeartbeats 0 in
theorem digit_spec (w : World) (sc : Addr) (sv : List Value) (ns : List Int) (hi : IntsAre sv ns) (hlen : ns.length ≤ 63) (k : Nat) (t : Tok) (hk : k ≤ 100) :
    SpecS w sc sv 3 307 [.ref sc, .int (k : Nat) t] [] (fun r led' => led' = [] ∧ ∃ tk, r = .int (dig ns k) tk) := by
  w_top off
  have hlv := hi.length
  unfold SpecS
  intro mg mb mean dp un gd cn cs a ccd cl outer A₀ base h₀ L m s Q E hsc B F X N T hk hroom hun hret
  refine wpAny_call ?_
  k_dflt (refine' enterHS ?k1'9 ?k2'9 ?k3'9 ?k4'9 ?k5'9 ?kA'9 ?kF'9 ?kK'9 ?k6'9 ?k7'9 ?k8'9 ?k9'9 ?kB'9 ?_ ?c2'9 ?c3'9 ?c4'9 ?c5'9; (case kA'9 => exact rfl); (case kF'9 => exact rfl); (case kK'9 => assumption); (case k1'9 => k_asm); (case k2'9 => k_asm); (case k3'9 => k_asm); (case k4'9 => k_asm); (case k5'9 => k_asm); (case k6'9 => k_is); (case k7'9 => k_is); (case k8'9 => (first | exact rm0 (by assumption) | exact rm1 (by assumption) (by decide) | k_extra "room" | ktr_room)); (case k9'9 => first | exact BindsTo.of_eq rfl | exact binds_K (by k_in) rfl (by k_is) rfl rfl rfl); (case c5'9 => decide); (case kB'9 => exact locs rfl); (case c2'9 => exact rfl); (case c3'9 => exact rfl); (case c4'9 => exact rfl); k_whole; intro _ _ _ _ _ _ _ _ l1'9 kst'9; (have hscg := IsListAt (by assumption) kst'9); clear kst'9; (try k_lt l1'9); (try dsimp only); (with_reducible show wpAny _ _ _ _ _ _); (try k_fold); (try (revert kst'9; intro _)); (try (revert l1'9; intro _)))
  k_with_none
  k_with "room" => (first | exact rmS2 (by assumption) (by decide) | exact rmS3 (by assumption) (by decide) | exact rmS4 (by assumption) (by decide) | exact rm2 (by assumption) (by decide) | exact rm0 (by assumption) | exact rm1 (by assumption) (by decide) | (dsimp +zetaDelta only; ktr_room))
  k_with "units" => (first | exact cl3 (by assumption) (by decide) | exact um2 (by assumption) (by decide) | exact um1 (by assumption) (by decide) | (dsimp +zetaDelta only; ktr_units))
  k_with "is_list" => (exact News.isList (by k_asm) (by k_mem))
  k_with "st" => (first | ((fail_if_success (fail_if_success k_unfold)); refine (?_ : wpAny _ _ _ _ _ _)) | (k_unfold; (try dsimp only)) | (k_end; wrow_close) | walk1 | (dsimp only; walk1) | (leave1; walk_say "STEP leave1"; try dsimp only) | fail "no step")
  k_with "om" => (first | assumption | with_reducible rfl | decide | exact Nat.le_trans (by assumption) (by decide) | exact Nat.lt_of_le_of_lt (by assumption) (by decide) | ((repeat (with_reducible rename _ ∧ _ => om9; clear om9)); first | ((repeat (with_reducible rename _ ≠ _ => om9; clear om9)); (repeat (with_reducible rename @Eq Nat _ _ => om9; clear om9)); (repeat (with_reducible rename @Eq Int _ _ => om9; clear om9)); omega +splitNatSub) | omega +splitNatSub))
  k_with "fold" => ((fail_if_success (fail_if_success k_fold)); refine fold_QES ?_; intro _ _ _ _)
  k_with "kne" => (first | ((refine (?_ : @Ne Nat _ _)); first | assumption | exact Ne.symm (by assumption) | k_extra "ne") | (refine neN ?_; (try dsimp only); first | assumption | exact Ne.symm (by assumption) | k_extra "ne" | omega))
  k_with "tb" => (repeat (first | exact List.forall_mem_nil _ | refine List.forall_mem_cons.mpr ⟨rfl, ?_⟩))
  k_with "ne" => with_reducible (first | exact na0 (by assumption) | exact ns0 (by assumption) | exact na1 (by assumption) | exact ns1 (by assumption) | exact na2 (by assumption) | exact ns2 (by assumption) | exact na3 (by assumption) | exact ns3 (by assumption) | exact na4 (by assumption) | exact ns4 (by assumption) | exact na5 (by assumption) | exact ns5 (by assumption) | exact na6 (by assumption) | exact ns6 (by assumption) | exact na7 (by assumption) | exact ns7 (by assumption) | exact na8 (by assumption) | exact ns8 (by assumption) | exact na9 (by assumption) | exact ns9 (by assumption) | exact na10 (by assumption) | exact ns10 (by assumption) | exact na11 (by assumption) | exact ns11 (by assumption) | exact na12 (by assumption) | exact ns12 (by assumption) | exact na13 (by assumption) | exact ns13 (by assumption) | exact na14 (by assumption) | exact ns14 (by assumption) | exact na15 (by assumption) | exact ns15 (by assumption))
  k_with "ne" => with_reducible (first | (show Tz.sts _ ≠ _; first | exact zn01 (by assumption) | exact zn02 (by assumption) | exact zn03 (by assumption) | exact zn04 (by assumption) | exact zn05 (by assumption) | exact zn06 (by assumption) | exact zn07 (by assumption) | exact zn08 (by assumption)) | (show Tz.td _ ≠ _; first | exact zn10 (by assumption) | exact zn12 (by assumption) | exact zn13 (by assumption) | exact zn14 (by assumption) | exact zn15 (by assumption) | exact zn16 (by assumption) | exact zn17 (by assumption) | exact zn18 (by assumption)) | (show Tz.t _ ≠ _; first | exact zn20 (by assumption) | exact zn21 (by assumption) | exact zn23 (by assumption) | exact zn24 (by assumption) | exact zn25 (by assumption) | exact zn26 (by assumption) | exact zn27 (by assumption) | exact zn28 (by assumption)) | (show Tz.sd _ ≠ _; first | exact zn30 (by assumption) | exact zn31 (by assumption) | exact zn32 (by assumption) | exact zn34 (by assumption) | exact zn35 (by assumption) | exact zn36 (by assumption) | exact zn37 (by assumption) | exact zn38 (by assumption)) | (show Tz.st _ ≠ _; first | exact zn40 (by assumption) | exact zn41 (by assumption) | exact zn42 (by assumption) | exact zn43 (by assumption) | exact zn45 (by assumption) | exact zn46 (by assumption) | exact zn47 (by assumption) | exact zn48 (by assumption)) | (show Tz.sg _ ≠ _; first | exact zn50 (by assumption) | exact zn51 (by assumption) | exact zn52 (by assumption) | exact zn53 (by assumption) | exact zn54 (by assumption) | exact zn56 (by assumption) | exact zn57 (by assumption) | exact zn58 (by assumption)) | (show Tz.se _ ≠ _; first | exact zn60 (by assumption) | exact zn61 (by assumption) | exact zn62 (by assumption) | exact zn63 (by assumption) | exact zn64 (by assumption) | exact zn65 (by assumption) | exact zn67 (by assumption) | exact zn68 (by assumption)) | (show Tz.ou _ ≠ _; first | exact zn70 (by assumption) | exact zn71 (by assumption) | exact zn72 (by assumption) | exact zn73 (by assumption) | exact zn74 (by assumption) | exact zn75 (by assumption) | exact zn76 (by assumption) | exact zn78 (by assumption)) | (show Tz.er _ ≠ _; first | exact zn80 (by assumption) | exact zn81 (by assumption) | exact zn82 (by assumption) | exact zn83 (by assumption) | exact zn84 (by assumption) | exact zn85 (by assumption) | exact zn86 (by assumption) | exact zn87 (by assumption)))
  k_with "execs cons" => ((try ((fail_if_success (fail_if_success k_fold)); refine fold_QE ?_; intro _ _)); refine ex_consA ?_; intro _ _ _ _; (try (with_reducible rename News _ _ _ _ => kN'9; dsimp only at kN'9)); (try (with_reducible rename Fr _ _ _ _ => kF'9; refine f_let kF'9 ?_; clear kF'9; intro _ _)))
  k_with "LeaveH" => (refine' leaveH_ ?k1'9 ?k2'9 ?_; (case k1'9 => k_asm); (case k2'9 => k_asm); k_whole; intro _ _ _ _)
  k_with "pyIter ref" => ((with_reducible show wpAny _ _ (pyIter _) (fun it s₂ => LoopAtV _ _ _ _ _ _ _ _ _ it s₂) _ _); refine Stop.mk ?_)
  k_with "pyIter str" => ((with_reducible show wpAny _ _ (pyIter _) (fun it s₂ => LoopAtV _ _ _ _ _ _ _ _ _ it s₂) _ _); refine Stop.mk ?_)
  k_with "call ref" => (k_extra "mine call")
  k_with "call builtin:len" => (k_here; (with_reducible show wpAny _ _ (call (Value.builtin "len") [Value.ref _]) _ _ _); (with_unfolding_all refine' len_listN ?k1'9 ?k2'9 ?_; (case k1'9 => is_list); (case k2'9 => omega); k_whole))
  k_with "subscriptTail" => (k_here; (with_reducible show wpAny _ _ (subscriptTail _ _ (Value.ref _) (Value.int _ _)) _ _ _); (with_unfolding_all refine' sign_item ?k1'9 ?k2'9 ?k3'9 ?k4'9 ?k5'9 ?_; (case k1'9 => is_list); (case k2'9 => assumption); (case k3'9 => assumption); (case k4'9 => (push_cast; omega)); (case k5'9 => omega); k_whole); intro _)
  k_with "subscriptTail" => (k_here; (with_reducible show wpAny _ _ (subscriptTail _ _ (Value.str _ _) (Value.int _ _)) _ _ _); (with_unfolding_all refine' char_item ?k1'9 ?k2'9 ?k3'9 ?_; (case k1'9 => assumption); (case k2'9 => (push_cast; omega)); (case k3'9 => omega); k_whole))
  k_with "TurnL" => (refine TurnL.ret ?_; (try dsimp only))
  k_with "subscriptTail Name Name str int" => (k_here; (with_reducible show wpAny _ _ (subscriptTail _ _ (Value.str _ _) (Value.int _ _)) _ _ _); (with_unfolding_all refine' char_item ?k1'9 ?k2'9 ?k3'9 ?_; (case k1'9 => assumption); (case k2'9 => (push_cast; omega)); (case k3'9 => omega); k_whole))
  k_with "exec For Name Name cons nil" => (k_here; (rename Fr _ _ _ _ => lF'9); (with_unfolding_all refine' For_invVF lF'9 ?k1'9 ?k2'9 ?_; (case k1'9 => exact rfl); (case k2'9 => exact rfl); k_whole))
  k_with "call builtin:list.append" => (k_here; (with_reducible show wpAny _ _ (call (Value.builtin _) [Value.ref _, _]) _ _ _); k_dflt (refine' append_K ?k1'9 ?k2'9 ?k3'9 ?_ ?z'9; (case k1'9 => k_asm); (case k2'9 => k_asm); (case k3'9 => k_upd); (case z'9 => assumption); k_whole); intro _ _ _; (try k_sweep))
  k_with "call builtin:str.split" => (k_here; (with_reducible show wpAny _ _ (call (Value.builtin "str.split") _) _ _ _); (refine KSpl.split1 (by k_asm) (by k_asm) (by decide) ?_ (by assumption)); (intro _ _ _ _ e'9 a'9 _ _ l1'9); (try k_lt l1'9); rw [e'9] at a'9; (try (revert a'9; intro _)); (try (revert l1'9; intro _)); (try (revert e'9; intro _)))
  k_with "subscriptTail" => (k_here; (with_reducible show wpAny _ _ (subscriptTail _ _ (Value.ref _) (Value.int _ _)) _ _ _); (with_unfolding_all refine' strs_item ?k1'9 ?k2'9 ?k3'9 ?k4'9 ?k5'9 ?_; (case k1'9 => is_list); (case k2'9 => assumption); (case k3'9 => assumption); (case k4'9 => rfl); (case k5'9 => omega); k_whole); intro _)
  k_with "subscriptTail Call Attribute cons nil Name ref int" => (k_here; (with_reducible show wpAny _ _ (subscriptTail _ _ (Value.ref _) (Value.int _ _)) _ _ _); (with_unfolding_all refine' strs_item ?k1'9 ?k2'9 ?k3'9 ?k4'9 ?k5'9 ?_; (case k1'9 => is_list); (case k2'9 => assumption); (case k3'9 => assumption); (case k4'9 => rfl); (case k5'9 => omega); k_whole); intro _)
  k_with "getMethod ref" => (k_here; (with_reducible show wpAny _ _ (getMethod (Value.ref _) (PySem.Str.ofString "index") _) _ _ _); k_dflt (refine' names_method ?N'9 ?m'9 ?_; (case N'9 => k_asm); (case m'9 => k_mem)))
  k_with "call builtin:tuple.index" => (k_here; k_dflt (refine' names_index ?k'9 ?N'9 ?m'9 ?_; (case N'9 => k_asm); (case m'9 => k_mem); (case k'9 => omega)))
  k_with "subscriptTail Name BinOp ref int" => (k_here; (with_reducible show wpAny _ _ (subscriptTail _ _ (Value.ref _) (Value.int _ _)) _ _ _); (with_unfolding_all refine' names_item ?N'9 ?m'9 ?hj'9 ?h5'9 ?_; (case N'9 => k_asm); (case m'9 => k_mem); (case hj'9 => assumption); (case h5'9 => omega); k_whole); intro _)
  k_with "subscriptTail Name Slice str ref" => (k_here; ((with_unfolding_all refine' cut_tail ?F'9 ?N'9 ?sz'9 ?_); (case F'9 => k_asm); (case N'9 => k_asm); (case sz'9 => assumption); intro _ _ _ _ _; (try k_sweep)))
  k_with "subscriptTail Name Constant str int" => (k_here; (with_unfolding_all refine' head_item ?sz'9 ?_); (case sz'9 => assumption))
  k_with "setAttr ref" => (k_here; k_dflt (first | (refine' set_tz ?k1'9 ?k2'9 ?k3'9 ?k4'9 ?k5'9 ?k6'9 ?k7'9 ?k8'9 ?k9'9 ?k10'9 ?k11'9 ?k12'9 ?k13'9 ?_; (case k1'9 => k_asm); (case k2'9 => k_asm); (case k3'9 => k_asm); (case k4'9 => k_inst); (case k5'9 => exact rfl); (case k6'9 => k_is); (case k7'9 => k_is); (case k8'9 => k_is); (case k9'9 => k_is); (case k10'9 => k_get); (case k11'9 => k_put); (case k12'9 => k_upd); (case k13'9 => exact Nat.le_of_ble_eq_true rfl); k_whole; intro _ _ _; (try k_sweep)) | (refine' set_st ?k1'9 ?k2'9 ?k3'9 ?k4'9 ?k5'9 ?k6'9 ?k7'9 ?k8'9 ?k9'9 ?k10'9 ?k11'9 ?k12'9 ?k13'9 ?_; (case k1'9 => k_asm); (case k2'9 => k_asm); (case k3'9 => k_asm); (case k4'9 => k_inst); (case k5'9 => exact rfl); (case k6'9 => k_is); (case k7'9 => k_is); (case k8'9 => k_is); (case k9'9 => k_is); (case k10'9 => k_get); (case k11'9 => k_put); (case k12'9 => k_upd); (case k13'9 => exact Nat.le_of_ble_eq_true rfl); k_whole; intro _ _ _; (try k_sweep))))
  k_with "eval Call" => (k_here; k_dflt (refine Call_ ?_))
  k_steps
  · exact hret _ [] _ _ (by assumption) (fun _ hp => nomatch hp) (by assumption) (fun _ hp => nomatch hp) ⟨rfl, _, by unfold dig; rw [Int.toNat_natCast]⟩
  · rename ¬ _ => hn
    have : ns.length ≤ k := by simp at hn; omega
    exact hret _ [] _ _ (by assumption) (fun _ hp => nomatch hp) (by assumption) (fun _ hp => nomatch hp) ⟨rfl, _, by rw [show dig ns k = 0 from by unfold dig; simp [List.getD, List.getElem?_eq_none this]]⟩
/-- the law's table of words -/
noncomputable def w11 : List (List Nat) := [[45, 45], [100, 111, 99, 116, 121, 112, 101], [65, 91], [97, 97, 98], [97], [], [111, 107], [10, 45], [91, 67, 68, 65, 84, 65, 91], [120], [45]]
noncomputable def wIdx (ns : List Int) (k : Nat) : Nat := (Int.fmod (dig ns k + (k : Int)) 11).toNat
noncomputable def wFold (ns : List Int) (k : Nat) : Bool := decide (Int.fmod (Int.fdiv (dig ns k) 11 + (k : Int)) 2 = 1)
noncomputable def wsOf (ns : List Int) (k : Nat) : List Nat × Bool := (if wFold ns k then (w11.getD (wIdx ns k) []).map lowC else w11.getD (wIdx ns k) [], wFold ns k)
theorem wIdx_lt (ns : List Int) (k : Nat) : wIdx ns k < 11 := by
  unfold wIdx
  have := Int.fmod_lt_of_pos (dig ns k + (k : Int)) (b := 11) (by decide)
  have := Int.fmod_nonneg_of_pos (dig ns k + (k : Int)) (b := 11) (by decide)
  omega
theorem w11_len : ∀ j, j < 11 → (w11.getD j []).length ≤ 7 ∧ ∀ c ∈ w11.getD j [], c < 128 := by decide
/-- the words laid so far -/
noncomputable def WdSo (ns : List Int) (i : Nat) (vs : List Value) (nt : Led) : Prop := ∃ (tf : Nat → Nat) (uf : Nat → Tok), vs = (List.range i).map (fun k => Value.ref (tf k)) ∧ ∀ k < i, wdTup ⟨0, 0, tf, uf⟩ (wsOf ns) k ∈ nt
theorem WdSo.length {ns : List Int} {i : Nat} {vs : List Value} {nt : Led} (h : WdSo ns i vs nt) : vs.length = i := by
  obtain ⟨tf, uf, rfl, _⟩ := h; simp
theorem WdSo.snoc {ns : List Int} {i : Nat} {vs : List Value} {nt : Led} {T : Nat} {o : Obj} {u : Tok} (h : WdSo ns i vs nt) (hm : (T, tupObj [.str ⟨(wsOf ns i).1.toArray⟩ u, .bool (wsOf ns i).2]) ∈ ((T, o) :: nt : Led)) : WdSo ns (i + 1) (vs ++ [.ref T]) ((T, o) :: nt) := by
  obtain ⟨tf, uf, rfl, hk⟩ := h
  refine ⟨fun k => if k = i then T else tf k, fun k => if k = i then u else uf k, ?_, fun k hk' => ?_⟩
  · rw [List.range_succ, List.map_append]
    congr 1
    · refine List.map_congr_left fun k hk' => ?_
      have hlt := List.mem_range.mp hk'
      have hne : k ≠ i := Nat.ne_of_lt hlt
      simp [hne]
    · simp
  · by_cases e : k = i
    · subst e
      simpa [wdTup] using hm
    · have := hk k (by omega)
      refine List.mem_cons_of_mem _ ?_
      simpa [wdTup, e] using this
theorem off_list {h₀ h : Heap} {L D : Addr} {all nt : Led} {v : Array Value} {n : Nat} (N : News h₀ L h all) (hD : (D, PySem.W.listOf v n) ∈ all) (hs : ∀ p ∈ nt, p ∈ all) (hT : Tups nt) : OwnOff nt [D] := by
  intro p hp b hb e
  rw [List.mem_singleton.mp hb] at e
  have h1 := (N p (hs p hp)).1
  have h2 := (N _ hD).1
  dsimp only at h2
  rw [e, h2] at h1
  have h3 := Option.some.inj h1
  have := hT p hp
  rw [← h3] at this
  simp [PySem.W.listOf] at this
theorem words_perm {t d e : Addr × Obj} {nt own : Led} : ∀ p ∈ (d :: e :: (t :: nt)) ++ own, p ∈ t :: d :: e :: (nt ++ own) := by
  intro p hp
  simp only [List.mem_append, List.mem_cons] at hp ⊢
  rcases hp with (h | h | h | h) | h
  · exact .inr (.inl h)
  · exact .inr (.inr (.inl h))
  · exact .inl h
  · exact .inr (.inr (.inr (.inl h)))
  · exact .inr (.inr (.inr (.inr h)))
theorem words_off {own nt : Led} {D E T : Addr} {a b c : Obj} (ho : OwnOff own (((D, a) :: (E, b) :: nt).map (·.1))) (hl : D < T ∧ E < T ∧ AllLt T (nt ++ own)) : OwnOff own (((D, c) :: (E, b) :: ((T, tupObj []) :: nt)).map (·.1)) := by
  intro p hp x hx
  simp only [List.map_cons, List.mem_cons] at hx
  rcases hx with rfl | rfl | rfl | hx
  · exact ho p hp _ (.head _)
  · exact ho p hp _ (.tail _ (.head _))
  · exact Nat.ne_of_lt (allLt_mem hl.2.2 p (List.mem_append_right _ hp))
  · exact ho p hp _ (.tail _ (.tail _ hx))
noncomputable def mkS (l : List Nat) : Str := ⟨l.toArray⟩
noncomputable def wdD (ns : List Int) (k : Nat) : Dat := .tuple [.str ⟨(wsOf ns k).1.toArray⟩, .bool (wsOf ns k).2]
theorem w11_str : [Str.ofString "--", Str.ofString "doctype", Str.ofString "A[", Str.ofString "aab", Str.ofString "a", Str.ofString "", Str.ofString "ok", Str.ofString "\n-", Str.ofString "[CDATA[", Str.ofString "x", Str.ofString "-"] = w11.map mkS := by decide +kernel
theorem w11_are (t0 t1 t2 t3 t4 t5 t6 t7 t8 t9 t10 : Tok) : StrsAre [.str "--" t0, .str "doctype" t1, .str "A[" t2, .str "aab" t3, .str "a" t4, .str "" t5, .str "ok" t6, .str "\n-" t7, .str "[CDATA[" t8, .str "x" t9, .str "-" t10] (w11.map mkS) := by
  rw [← w11_str]
  exact .cons _ _ (.cons _ _ (.cons _ _ (.cons _ _ (.cons _ _ (.cons _ _ (.cons _ _ (.cons _ _ (.cons _ _ (.cons _ _ (.cons _ _ .nil))))))))))
theorem tup_strs {w : World} {A : Around} {E : Value → Shared → Prop} {s : Shared} {h₀ : Heap} {L a : Addr} {news : Led} {vs : List Value} {ys : List Str} {value slice : PySem.Expr} {k : Int} {u : Tok} {j : Nat} {y : Str} {Q : Value → Shared → Prop} (N : News h₀ L s.heap news) (hm : (a, tupObj vs) ∈ news) (hs : StrsAre vs ys) (hj : k = (j : Int)) (hq : ys[j]? = some y) (hfit : j < 2 ^ 62) (h : ∀ t, Q (.str y t) s)
    (hs' : subscripted slice false (.ref a) (.int k u) = operate [.ref a, .int k u] (getItem (.ref a) (.int k u)) := by with_unfolding_all rfl) :
    wpAny (model prg w) A (subscriptTail value slice (.ref a) (.int k u)) Q E s := by
  subst hj
  have hT : IsTup s.heap a vs.toArray := ⟨_, (N _ hm).1, rfl, _, rfl⟩
  obtain ⟨t, ht⟩ := hs.at hq
  have hl := hs.len_eq
  have hlt := (List.getElem?_eq_some_iff.mp hq).1
  exact item_tupleT (j := j) hT (by omega) (by omega) (by unfold seqIndex?; simp; omega) (by simpa using ht) (h t) hs'
theorem w11_at {j : Nat} (h : j < 11) : (w11.map mkS)[j]? = some ⟨(w11.getD j []).toArray⟩ := by
  have hl : w11.length = 11 := rfl
  simp [List.getD, mkS, h, hl]
set_option maxHeartbeats 0 in
theorem words_spec (w : World) (sc : Addr) (sv : List Value) (ns : List Int) (hi : IntsAre sv ns) (hlen : ns.length ≤ 63) :
    SpecS w sc sv 15 326 [.ref sc] [] (fun r led' => ∃ W : Wd, r = .ref W.a ∧ led' = wdLed W (wsOf ns)) := by
  w_top off
  unfold SpecS
  intro mg mb mean dp un gd cn cs a ccd cl outer A₀ base h₀ L m s Q E hsc B F X N T hk hroom hun hret
  refine wpAny_call ?_
  k_dflt (refine' enterHS ?k1'9 ?k2'9 ?k3'9 ?k4'9 ?k5'9 ?kA'9 ?kF'9 ?kK'9 ?k6'9 ?k7'9 ?k8'9 ?k9'9 ?kB'9 ?_ ?c2'9 ?c3'9 ?c4'9 ?c5'9; (case kA'9 => exact rfl); (case kF'9 => exact rfl); (case kK'9 => assumption); (case k1'9 => k_asm); (case k2'9 => k_asm); (case k3'9 => k_asm); (case k4'9 => k_asm); (case k5'9 => k_asm); (case k6'9 => k_is); (case k7'9 => k_is); (case k8'9 => (first | exact rm0 (by assumption) | exact rm1 (by assumption) (by decide) | k_extra "room" | ktr_room)); (case k9'9 => first | exact BindsTo.of_eq rfl | exact binds_K (by k_in) rfl (by k_is) rfl rfl rfl); (case c5'9 => decide); (case kB'9 => exact locs rfl); (case c2'9 => exact rfl); (case c3'9 => exact rfl); (case c4'9 => exact rfl); k_whole; intro _ _ _ _ _ _ _ _ l1'9 kst'9; (have hscg := IsListAt (by assumption) kst'9); clear kst'9; (try k_lt l1'9); (try dsimp only); (with_reducible show wpAny _ _ _ _ _ _); (try k_fold); (try (revert kst'9; intro _)); (try (revert l1'9; intro _)))
  k_with_none
  k_with "room" => (first | exact rmS2 (by assumption) (by decide) | exact rmS3 (by assumption) (by decide) | exact rmS4 (by assumption) (by decide) | exact rm2 (by assumption) (by decide) | exact rm0 (by assumption) | exact rm1 (by assumption) (by decide) | (dsimp +zetaDelta only; ktr_room))
  k_with "units" => (first | exact cl3 (by assumption) (by decide) | exact um2 (by assumption) (by decide) | exact um1 (by assumption) (by decide) | (dsimp +zetaDelta only; ktr_units))
  k_with "is_list" => (exact News.isList (by k_asm) (by k_mem))
  k_with "st" => (first | ((fail_if_success (fail_if_success k_unfold)); refine (?_ : wpAny _ _ _ _ _ _)) | (k_unfold; (try dsimp only)) | (k_end; wrow_close) | walk1 | (dsimp only; walk1) | (leave1; walk_say "STEP leave1"; try dsimp only) | fail "no step")
  k_with "om" => (first | assumption | with_reducible rfl | decide | exact Nat.le_trans (by assumption) (by decide) | exact Nat.lt_of_le_of_lt (by assumption) (by decide) | ((repeat (with_reducible rename _ ∧ _ => om9; clear om9)); first | ((repeat (with_reducible rename _ ≠ _ => om9; clear om9)); (repeat (with_reducible rename @Eq Nat _ _ => om9; clear om9)); (repeat (with_reducible rename @Eq Int _ _ => om9; clear om9)); omega +splitNatSub) | omega +splitNatSub))
  k_with "fold" => ((fail_if_success (fail_if_success k_fold)); refine fold_QES ?_; intro _ _ _ _)
  k_with "kne" => (first | ((refine (?_ : @Ne Nat _ _)); first | assumption | exact Ne.symm (by assumption) | k_extra "ne") | (refine neN ?_; (try dsimp only); first | assumption | exact Ne.symm (by assumption) | k_extra "ne" | omega))
  k_with "tb" => (repeat (first | exact List.forall_mem_nil _ | refine List.forall_mem_cons.mpr ⟨rfl, ?_⟩))
  k_with "ne" => with_reducible (first | exact na0 (by assumption) | exact ns0 (by assumption) | exact na1 (by assumption) | exact ns1 (by assumption) | exact na2 (by assumption) | exact ns2 (by assumption) | exact na3 (by assumption) | exact ns3 (by assumption) | exact na4 (by assumption) | exact ns4 (by assumption) | exact na5 (by assumption) | exact ns5 (by assumption) | exact na6 (by assumption) | exact ns6 (by assumption) | exact na7 (by assumption) | exact ns7 (by assumption) | exact na8 (by assumption) | exact ns8 (by assumption) | exact na9 (by assumption) | exact ns9 (by assumption) | exact na10 (by assumption) | exact ns10 (by assumption) | exact na11 (by assumption) | exact ns11 (by assumption) | exact na12 (by assumption) | exact ns12 (by assumption) | exact na13 (by assumption) | exact ns13 (by assumption) | exact na14 (by assumption) | exact ns14 (by assumption) | exact na15 (by assumption) | exact ns15 (by assumption))
  k_with "ne" => with_reducible (first | (show Tz.sts _ ≠ _; first | exact zn01 (by assumption) | exact zn02 (by assumption) | exact zn03 (by assumption) | exact zn04 (by assumption) | exact zn05 (by assumption) | exact zn06 (by assumption) | exact zn07 (by assumption) | exact zn08 (by assumption)) | (show Tz.td _ ≠ _; first | exact zn10 (by assumption) | exact zn12 (by assumption) | exact zn13 (by assumption) | exact zn14 (by assumption) | exact zn15 (by assumption) | exact zn16 (by assumption) | exact zn17 (by assumption) | exact zn18 (by assumption)) | (show Tz.t _ ≠ _; first | exact zn20 (by assumption) | exact zn21 (by assumption) | exact zn23 (by assumption) | exact zn24 (by assumption) | exact zn25 (by assumption) | exact zn26 (by assumption) | exact zn27 (by assumption) | exact zn28 (by assumption)) | (show Tz.sd _ ≠ _; first | exact zn30 (by assumption) | exact zn31 (by assumption) | exact zn32 (by assumption) | exact zn34 (by assumption) | exact zn35 (by assumption) | exact zn36 (by assumption) | exact zn37 (by assumption) | exact zn38 (by assumption)) | (show Tz.st _ ≠ _; first | exact zn40 (by assumption) | exact zn41 (by assumption) | exact zn42 (by assumption) | exact zn43 (by assumption) | exact zn45 (by assumption) | exact zn46 (by assumption) | exact zn47 (by assumption) | exact zn48 (by assumption)) | (show Tz.sg _ ≠ _; first | exact zn50 (by assumption) | exact zn51 (by assumption) | exact zn52 (by assumption) | exact zn53 (by assumption) | exact zn54 (by assumption) | exact zn56 (by assumption) | exact zn57 (by assumption) | exact zn58 (by assumption)) | (show Tz.se _ ≠ _; first | exact zn60 (by assumption) | exact zn61 (by assumption) | exact zn62 (by assumption) | exact zn63 (by assumption) | exact zn64 (by assumption) | exact zn65 (by assumption) | exact zn67 (by assumption) | exact zn68 (by assumption)) | (show Tz.ou _ ≠ _; first | exact zn70 (by assumption) | exact zn71 (by assumption) | exact zn72 (by assumption) | exact zn73 (by assumption) | exact zn74 (by assumption) | exact zn75 (by assumption) | exact zn76 (by assumption) | exact zn78 (by assumption)) | (show Tz.er _ ≠ _; first | exact zn80 (by assumption) | exact zn81 (by assumption) | exact zn82 (by assumption) | exact zn83 (by assumption) | exact zn84 (by assumption) | exact zn85 (by assumption) | exact zn86 (by assumption) | exact zn87 (by assumption)))
  k_with "execs cons" => ((try ((fail_if_success (fail_if_success k_fold)); refine fold_QE ?_; intro _ _)); refine ex_consA ?_; intro _ _ _ _; (try (with_reducible rename News _ _ _ _ => kN'9; dsimp only at kN'9)); (try (with_reducible rename Fr _ _ _ _ => kF'9; refine f_let kF'9 ?_; clear kF'9; intro _ _)))
  k_with "LeaveH" => (refine' leaveH_ ?k1'9 ?k2'9 ?_; (case k1'9 => k_asm); (case k2'9 => k_asm); k_whole; intro _ _ _ _)
  k_with "pyIter ref" => ((with_reducible show wpAny _ _ (pyIter _) (fun it s₂ => LoopAtV _ _ _ _ _ _ _ _ _ it s₂) _ _); refine Stop.mk ?_)
  k_with "pyIter str" => ((with_reducible show wpAny _ _ (pyIter _) (fun it s₂ => LoopAtV _ _ _ _ _ _ _ _ _ it s₂) _ _); refine Stop.mk ?_)
  k_with "call ref" => (k_extra "mine call")
  k_with "call builtin:len" => (k_here; (with_reducible show wpAny _ _ (call (Value.builtin "len") [Value.ref _]) _ _ _); (with_unfolding_all refine' len_listN ?k1'9 ?k2'9 ?_; (case k1'9 => is_list); (case k2'9 => omega); k_whole))
  k_with "subscriptTail" => (k_here; (with_reducible show wpAny _ _ (subscriptTail _ _ (Value.ref _) (Value.int _ _)) _ _ _); (with_unfolding_all refine' sign_item ?k1'9 ?k2'9 ?k3'9 ?k4'9 ?k5'9 ?_; (case k1'9 => is_list); (case k2'9 => assumption); (case k3'9 => assumption); (case k4'9 => (push_cast; omega)); (case k5'9 => omega); k_whole); intro _)
  k_with "subscriptTail" => (k_here; (with_reducible show wpAny _ _ (subscriptTail _ _ (Value.str _ _) (Value.int _ _)) _ _ _); (with_unfolding_all refine' char_item ?k1'9 ?k2'9 ?k3'9 ?_; (case k1'9 => assumption); (case k2'9 => (push_cast; omega)); (case k3'9 => omega); k_whole))
  k_with "TurnL" => (refine TurnL.ret ?_; (try dsimp only))
  k_with "subscriptTail Name Name str int" => (k_here; (with_reducible show wpAny _ _ (subscriptTail _ _ (Value.str _ _) (Value.int _ _)) _ _ _); (with_unfolding_all refine' char_item ?k1'9 ?k2'9 ?k3'9 ?_; (case k1'9 => assumption); (case k2'9 => (push_cast; omega)); (case k3'9 => omega); k_whole))
  k_with "exec For Name Name cons nil" => (k_here; (rename Fr _ _ _ _ => lF'9); (with_unfolding_all refine' For_invVF lF'9 ?k1'9 ?k2'9 ?_; (case k1'9 => exact rfl); (case k2'9 => exact rfl); k_whole))
  k_with "call builtin:list.append" => (k_here; (with_reducible show wpAny _ _ (call (Value.builtin _) [Value.ref _, _]) _ _ _); k_dflt (refine' append_K ?k1'9 ?k2'9 ?k3'9 ?_ ?z'9; (case k1'9 => k_asm); (case k2'9 => k_asm); (case k3'9 => k_upd); (case z'9 => assumption); k_whole); intro _ _ _; (try k_sweep))
  k_with "call builtin:str.split" => (k_here; (with_reducible show wpAny _ _ (call (Value.builtin "str.split") _) _ _ _); (refine KSpl.split1 (by k_asm) (by k_asm) (by decide) ?_ (by assumption)); (intro _ _ _ _ e'9 a'9 _ _ l1'9); (try k_lt l1'9); rw [e'9] at a'9; (try (revert a'9; intro _)); (try (revert l1'9; intro _)); (try (revert e'9; intro _)))
  k_with "subscriptTail" => (k_here; (with_reducible show wpAny _ _ (subscriptTail _ _ (Value.ref _) (Value.int _ _)) _ _ _); (with_unfolding_all refine' strs_item ?k1'9 ?k2'9 ?k3'9 ?k4'9 ?k5'9 ?_; (case k1'9 => is_list); (case k2'9 => assumption); (case k3'9 => assumption); (case k4'9 => rfl); (case k5'9 => omega); k_whole); intro _)
  k_with "subscriptTail Call Attribute cons nil Name ref int" => (k_here; (with_reducible show wpAny _ _ (subscriptTail _ _ (Value.ref _) (Value.int _ _)) _ _ _); (with_unfolding_all refine' strs_item ?k1'9 ?k2'9 ?k3'9 ?k4'9 ?k5'9 ?_; (case k1'9 => is_list); (case k2'9 => assumption); (case k3'9 => assumption); (case k4'9 => rfl); (case k5'9 => omega); k_whole); intro _)
  k_with "getMethod ref" => (k_here; (with_reducible show wpAny _ _ (getMethod (Value.ref _) (PySem.Str.ofString "index") _) _ _ _); k_dflt (refine' names_method ?N'9 ?m'9 ?_; (case N'9 => k_asm); (case m'9 => k_mem)))
  k_with "call builtin:tuple.index" => (k_here; k_dflt (refine' names_index ?k'9 ?N'9 ?m'9 ?_; (case N'9 => k_asm); (case m'9 => k_mem); (case k'9 => omega)))
  k_with "subscriptTail Name BinOp ref int" => (k_here; (with_reducible show wpAny _ _ (subscriptTail _ _ (Value.ref _) (Value.int _ _)) _ _ _); (with_unfolding_all refine' names_item ?N'9 ?m'9 ?hj'9 ?h5'9 ?_; (case N'9 => k_asm); (case m'9 => k_mem); (case hj'9 => assumption); (case h5'9 => omega); k_whole); intro _)
  k_with "subscriptTail Name Slice str ref" => (k_here; ((with_unfolding_all refine' cut_tail ?F'9 ?N'9 ?sz'9 ?_); (case F'9 => k_asm); (case N'9 => k_asm); (case sz'9 => assumption); intro _ _ _ _ _; (try k_sweep)))
  k_with "subscriptTail Name Constant str int" => (k_here; (with_unfolding_all refine' head_item ?sz'9 ?_); (case sz'9 => assumption))
  k_with "setAttr ref" => (k_here; k_dflt (first | (refine' set_tz ?k1'9 ?k2'9 ?k3'9 ?k4'9 ?k5'9 ?k6'9 ?k7'9 ?k8'9 ?k9'9 ?k10'9 ?k11'9 ?k12'9 ?k13'9 ?_; (case k1'9 => k_asm); (case k2'9 => k_asm); (case k3'9 => k_asm); (case k4'9 => k_inst); (case k5'9 => exact rfl); (case k6'9 => k_is); (case k7'9 => k_is); (case k8'9 => k_is); (case k9'9 => k_is); (case k10'9 => k_get); (case k11'9 => k_put); (case k12'9 => k_upd); (case k13'9 => exact Nat.le_of_ble_eq_true rfl); k_whole; intro _ _ _; (try k_sweep)) | (refine' set_st ?k1'9 ?k2'9 ?k3'9 ?k4'9 ?k5'9 ?k6'9 ?k7'9 ?k8'9 ?k9'9 ?k10'9 ?k11'9 ?k12'9 ?k13'9 ?_; (case k1'9 => k_asm); (case k2'9 => k_asm); (case k3'9 => k_asm); (case k4'9 => k_inst); (case k5'9 => exact rfl); (case k6'9 => k_is); (case k7'9 => k_is); (case k8'9 => k_is); (case k9'9 => k_is); (case k10'9 => k_get); (case k11'9 => k_put); (case k12'9 => k_upd); (case k13'9 => exact Nat.le_of_ble_eq_true rfl); k_whole; intro _ _ _; (try k_sweep))))
  k_with "eval Call" => (k_here; k_dflt (refine Call_ ?_))
  k_with "subscriptTail Name BinOp ref int" => (k_here; (with_reducible show wpAny _ _ (subscriptTail _ _ (Value.ref _) (Value.int _ _)) _ _ _); k_dflt (refine' tup_strs ?N'9 ?m'9 ?s'9 ?j'9 ?q'9 ?f'9 ?_; (case N'9 => k_asm); (case m'9 => k_mem); (case s'9 => assumption); (case j'9 => assumption); (case q'9 => exact w11_at (wIdx_lt _ _)); (case f'9 => exact Nat.lt_trans (wIdx_lt _ _) (by decide))); intro _)
  k_with "pyIter ref" => ((with_reducible show wpAny _ _ (pyIter _) (fun it s₂ => LoopAtV _ _ _ _ _ _ _ _ _ it s₂) _ _); refine Stop.mk ?_)
  k_with "mine call" => ((with_reducible show wpAny _ _ (call (Value.ref 307) _) _ _ _); refine Stop.mk ?_)
  k_with "mine call" => ((with_reducible show wpAny _ _ (call (Value.ref 319) _) _ _ _); refine Stop.mk ?_)
  k_steps
  unfold Stop
  rename News _ _ _ _ => N8
  rename_i D h4 l3 h3 D2 h2 l2 h1 N1 a0 tk0 s0 q0 m0 F1 h0' tk t1 u1 v1 a1 a2 a3
  have hN : ∃ tv, StrsAre tv (w11.map mkS) ∧ News _ _ _ [(D2, listOf ([] : List Value).toArray 0), (D, tupObj tv)] := ⟨_, w11_are _ _ _ _ _ _ _ _ _ _ _, N8⟩
  clear N8
  obtain ⟨tv, htv, N8⟩ := hN
  refine iter_range (σ := List Value × Led × Nat) (fun c => (D2, listOf c.1.toArray c.2.2) :: (D, tupObj tv) :: c.2.1) (fun _ => [("script", .ref sc), ("words", .ref D), ("found", .ref D2)])
    (fun i c => Tups c.2.1 ∧ WdSo ns i c.1 c.2.1) ([], [], 0) 4 rfl (by assumption) (by decide) (by decide) (by assumption) N8 (by tb_start) ⟨fun _ h => (nomatch h), fun _ => 0, fun _ => 0, rfl, fun k hk => absurd hk (Nat.not_lt_zero k)⟩ ?turn ?done
  case done =>
    rintro ⟨vs, nt, n0⟩ u h tk ⟨hT, hD⟩ F' N'
    (try dsimp only)
    k_steps
    rename News _ _ _ _ => N6
    rename Fresh _ _ _ => H6
    obtain ⟨tf, uf, rfl, hk⟩ := hD
    have sub : ∀ p ∈ wdLed ⟨D2, n0, tf, uf⟩ (wsOf ns), p ∈ (D2, listOf ((List.range 4).map (fun k => Value.ref (tf k))).toArray n0) :: (D, tupObj tv) :: nt := by
      intro p hp
      simp only [wdLed, List.mem_cons, List.not_mem_nil, or_false] at hp
      rcases hp with rfl | rfl | rfl | rfl | rfl
      · exact .head _
      · exact .tail _ (.tail _ (hk 0 (by decide)))
      · exact .tail _ (.tail _ (hk 1 (by decide)))
      · exact .tail _ (.tail _ (hk 2 (by decide)))
      · exact .tail _ (.tail _ (hk 3 (by decide)))
    exact hret _ _ _ _ (by assumption) (News.sub N6 sub) (by assumption) (Fresh.sub H6 sub) ⟨⟨D2, n0, tf, uf⟩, rfl, rfl⟩
  case turn =>
    rintro i ⟨vs, nt, n0⟩ ti own u h tk hi4 ⟨hT, hD⟩ ho hlt F' N'
    dsimp only at hT hD ho N'
    have hoff : OwnOff (nt ++ own) [D2] := OwnOff.app (off_list N' (.head _) (fun p hp => List.mem_append_left _ (.tail _ (.tail _ hp))) hT) (OwnOff.sub ho fun b hb => by rw [List.mem_singleton.mp hb]; exact .head _)
    have hsz : vs.toArray.size ≤ sizeLine := by
      have := hD.length
      rw [List.size_toArray, sizeLine_eq]; omega
    have hw7 := w11_len _ (wIdx_lt ns i)
    simp only [List.cons_append] at N'
    have hidx : Int.fmod (dig ns i + (i : Int)) 11 = ((wIdx ns i : Nat) : Int) := by
      unfold wIdx
      rw [Int.toNat_of_nonneg]
      exact Int.fmod_nonneg_of_pos _ (by decide)
    (try dsimp only)
    k_steps
    unfold Stop
    rename News _ _ _ _ => N7
    k_dflt (refine (digit_spec w sc sv ns hi hlen i _ (by omega)).useR (fun _ _ _ p hp => (nomatch hp)) (by assumption) (by k_asm) (by k_asm) (by k_asm) N7 (by k_asm) rfl (by (first | exact rm0 (by assumption) | exact rm1 (by assumption) (by decide) | k_extra "room" | ktr_room)) (by (first | k_extra "units" | ktr_units)) (fun _ hp => (nomatch hp)) ?_)
    rintro r led' h' tk' F' N' fresh ⟨rfl, tk2, rfl⟩
    rw [List.nil_append] at N'
    clear fresh
    (try dsimp only)
    cases hf : wFold ns i
    · have hf' : (Int.fmod (Int.fdiv (dig ns i) 11 + (i : Int)) 2 == 1) = false := hf
      k_steps
      rename News _ _ _ _ => N6
      simp only [List.push_toArray] at N6
      refine TurnL.next (vs ++ [_], (_ :: nt), n0 + 1) (by assumption) (News.sub N6 words_perm) (words_off ho (by assumption)) (by tb_start) ⟨?_, ?_⟩
      · intro p hp
        rcases List.mem_cons.mp hp with rfl | hp
        · rfl
        · exact hT p hp
      · refine' hD.snoc (u := ?uu) ?mm
        case mm =>
          simp only [wsOf, hf, if_true, if_false, Bool.false_eq_true]
          rw [← hf']; exact .head _
    · have hf' : (Int.fmod (Int.fdiv (dig ns i) 11 + (i : Int)) 2 == 1) = true := hf
      k_steps
      unfold Stop
      k_dflt (refine (small_spec w (w11.getD (wIdx ns i) []) _ (by omega) (fun c hc => Nat.lt_trans (hw7.2 c hc) (by decide))).use0 (by k_asm) (by k_asm) (by k_asm) (by k_asm) (by k_asm) rfl (by (first | exact rm0 (by assumption) | exact rm1 (by assumption) (by decide) | k_extra "room" | ktr_room)) (by (first | k_extra "units" | ktr_units)) ?_)
      rintro r led' h' tk' F' N' off ⟨rfl, tk3, rfl⟩
      rw [List.nil_append] at N'
      clear off
      (try dsimp only)
      k_steps
      rename News _ _ _ _ => N6
      simp only [List.push_toArray] at N6
      refine TurnL.next (vs ++ [_], (_ :: nt), n0 + 1) (by assumption) (News.sub N6 words_perm) (words_off ho (by assumption)) (by tb_start) ⟨?_, ?_⟩
      · intro p hp
        rcases List.mem_cons.mp hp with rfl | hp
        · rfl
        · exact hT p hp
      · refine' hD.snoc (u := ?uu2) ?mm2
        case mm2 =>
          simp only [wsOf, hf, if_true, if_false, Bool.false_eq_true]
          rw [← hf']; exact .head _
section
theorem st_dict3 {w : World} (t0 t1 t2 : Tok) (n : Nat) : (dictOf [⟨PyData.keyHash w.params "one", .str "one" t0, .ref 338⟩, ⟨PyData.keyHash w.params "two", .str "two" t1, .ref 338⟩, ⟨PyData.keyHash w.params "three", .str "three" t2, .ref 338⟩] n).IsDictOf (PySem.strKind prg w) (stKvs (manyOf false)) := by
  refine ⟨_, n, ⟨rfl, rfl, rfl⟩, rfl, fun e he => ?_, ?_, ?_⟩
  · simp only [List.mem_toArray, List.mem_cons, List.not_mem_nil, or_false] at he
    rcases he with rfl | rfl | rfl <;> exact ⟨_, strKind_is _ _ _ _, rfl⟩
  · exact Pairs.cons (strKind_is prg w "one" t0) rfl (Pairs.cons (strKind_is prg w "two" t1) rfl (Pairs.cons (strKind_is prg w "three" t2) rfl Pairs.nil))
  · decide +kernel
theorem st_dict4 {w : World} (t0 t1 t2 t3 : Tok) (n : Nat) : (dictOf [⟨PyData.keyHash w.params "one", .str "one" t0, .ref 338⟩, ⟨PyData.keyHash w.params "two", .str "two" t1, .ref 338⟩, ⟨PyData.keyHash w.params "three", .str "three" t2, .ref 338⟩, ⟨PyData.keyHash w.params "four", .str "four" t3, .ref 338⟩] n).IsDictOf (PySem.strKind prg w) (stKvs (manyOf true)) := by
  refine ⟨_, n, ⟨rfl, rfl, rfl⟩, rfl, fun e he => ?_, ?_, ?_⟩
  · simp only [List.mem_toArray, List.mem_cons, List.not_mem_nil, or_false] at he
    rcases he with rfl | rfl | rfl | rfl <;> exact ⟨_, strKind_is _ _ _ _, rfl⟩
  · exact Pairs.cons (strKind_is prg w "one" t0) rfl (Pairs.cons (strKind_is prg w "two" t1) rfl (Pairs.cons (strKind_is prg w "three" t2) rfl (Pairs.cons (strKind_is prg w "four" t3) rfl Pairs.nil)))
  · decide +kernel
section
variable {prog : Program} {w : World} {A : Around} {E : Value → Shared → Prop} {s : Shared}
theorem adjust_to (b n : Nat) (hb : b ≤ n) : Builtin.Slice.sliceAdjust none (some (b : Int)) 1 (n : Int) = (0, (b : Int)) := by
  unfold Builtin.Slice.sliceAdjust
  have h1 : ¬ ((1 : Int) < 0) := by omega
  have h2 : ¬ ((b : Int) < 0) := by omega
  simp only [h1, h2, if_false]
  congr 1
  omega
theorem places_to (b : Nat) : Builtin.Slice.slicePlaces 0 (b : Int) 1 = b := by
  unfold Builtin.Slice.slicePlaces
  have h1 : (1 : Int) > 0 := by omega
  simp only [h1, if_true, Int.ediv_one]
  split <;> omega
theorem sliceApplied_to {sl : Addr} {b n : Nat} {u : Tok} {Q : Int × Int × Nat → Shared → Prop} (hs : s.heap.IsSliceOf sl .none (.int b u) .none) (hb : b ≤ n) (h : Q (0, 1, b) s) :
    wpAny (model prog w) A (Builtin.Slice.sliceApplied (.ref sl) (pure (n : Int))) Q E s := by
  obtain ⟨os, hos, hcs, hds⟩ := id hs
  unfold Builtin.Slice.sliceApplied Builtin.Slice.sliceFields
  refine wpAny_bind (wpAny_bind (wpAny_field hos hds (x := .none) rfl (wpAny_bind (wpAny_field hos hds (x := .int b u) rfl (wpAny_bind (wpAny_field hos hds (x := .none) rfl (wpAny_pure ?_)))))))
  refine wpAny_bind (slicePart_none ?_)
  show wpAny _ _ (if ((1 : Int) == 0) = true then _ else _) _ _ s
  rw [if_neg (by decide)]
  refine wpAny_bind (slicePart_none (wpAny_bind (slicePart_int (wpAny_bind (wpAny_pure ?_)))))
  show wpAny _ _ (match Builtin.Slice.sliceAdjust none (some (b : Int)) 1 (n : Int) with | (lo, hi) => pure (lo, (1 : Int), Builtin.Slice.slicePlaces lo hi 1)) _ _ s
  rw [adjust_to b n hb]
  show wpAny _ _ (pure ((0 : Int), (1 : Int), Builtin.Slice.slicePlaces (0 : Int) (b : Int) 1)) _ _ s
  rw [places_to b]
  exact wpAny_pure h
theorem tuple_to {t sl : Addr} {items : List Value} {b : Nat} {u : Tok} {Q : Value → Shared → Prop} (ht : IsTup s.heap t items.toArray) (hs : s.heap.IsSliceOf sl .none (.int b u) .none) (hb : b < items.length)
    (hpick : ((List.range b).filterMap fun (k : Nat) => items.toArray[((0 : Int) + (k : Int) * 1).toNat]?).toArray = (items.take b).toArray)
    (h : Q (.ref s.heap.objs.size) { s with heap := s.heap.push { cls := .type "tuple", data := .seq (items.take b).toArray } }) (hsz : items.length ≤ 100) :
    wpAny (model prog w) A (getItem (.ref t) (.ref sl)) Q E s := by
  have hok : sizeOk (.seq (items.take b).toArray) := by
    show (items.take b).toArray.size ≤ sizeLine
    rw [List.size_toArray, List.length_take, sizeLine_eq]
    omega
  obtain ⟨os, hos, hcs, hds⟩ := id hs
  have hTs : s.TypeIs (.ref sl) "slice" := ⟨os, hos, hcs⟩
  unfold getItem
  try with_reducible refine wpAny_holding ?_
  first | refine wpAny_bind (wpAny_pure ?_) | skip
  refine wpAny_bind (wpAny_sequenceKey ht.typeIs (by decide) ?_)
  refine wpAny_bind (wpAny_callSpecial?_slot (name := Str.ofString "__getitem__") ht.typeIs slot_tuple_getitem
    (wpAny_call_entry slot_tuple_getitem ht.typeIs entry_tuple_getitem ?_ (args_tuple_getitem _ _)))
  show wpAny _ _ (Builtin.Tuple.tupleItemsOf (.ref t) >>= _) _ _ s
  refine wpAny_bind (tupleItemsOf_ ht ?_)
  refine wpAny_bind (wpAny_typeOf hTs ?_)
  rw [if_pos (by decide)]
  refine wpAny_bind (sliceApplied_to hs (Nat.le_of_lt (by simpa using hb)) ?_)
  have hno : ¬ (((0 : Int) == 0 && (1 : Int) == 1 && b == items.toArray.size) = true) := by
    have : (b == items.toArray.size) = false := by rw [beq_eq_false_iff_ne, List.size_toArray]; omega
    rw [this]; simp
  show wpAny _ _ (if ((0 : Int) == 0 && (1 : Int) == 1 && b == items.toArray.size) = true then _ else _) _ _ s
  rw [if_neg hno, hpick]
  first
    | exact wpAny_bind (m := Builtin.Tuple.tupleExact _) (wpAny_newObj_type (wpAny_pure ⟨_, rfl, wpAny_pure h⟩) hok)
    | exact wpAny_bind (m := Builtin.Tuple.tupleExact _) (wpAny_newObj_type (wpAny_bind (wpAny_pure (wpAny_pure ⟨_, rfl, wpAny_pure h⟩))) hok)
    | exact wpAny_bind (wpAny_bind (m := Builtin.Tuple.tupleExact _) (wpAny_newObj_type (wpAny_pure (wpAny_pure ⟨_, rfl, wpAny_pure h⟩)) hok))
    | exact wpAny_bind (wpAny_bind (m := Builtin.Tuple.tupleExact _) (wpAny_newObj_type (wpAny_pure ⟨_, rfl, wpAny_pure h⟩) hok))
theorem tup_to {h₀ : Heap} {L : Addr} {m : Str → Option Value} {news : Led} {value slice : PySem.Expr} {t : Addr} {items : List Value} {b : Nat} {u : Tok} {Q : Value → Shared → Prop}
    (F : Fr h₀ L s.heap m) (N : News h₀ L s.heap news) (hm : (t, tupObj items) ∈ news) (hb : b < items.length) (hsz : items.length ≤ 100)
    (hpick : ((List.range b).filterMap fun (k : Nat) => items.toArray[((0 : Int) + (k : Int) * 1).toNat]?).toArray = (items.take b).toArray)
    (h : ∀ h' D, Fr h₀ L h' m → News h₀ L h' ((D, tupObj (items.take b)) :: news) → (∀ p ∈ news, p.1 < D) → Q (.ref D) { s with heap := h' })
    (hs : subscripted slice false (.ref t) (.ref s.heap.objs.size) = operate [.ref s.heap.objs.size, .ref t] (getItem (.ref t) (.ref s.heap.objs.size)) := by with_unfolding_all rfl)
    (hg : ∀ r, letTemporaryGo value (.ref t) r = pure () := by intro _; with_unfolding_all rfl) :
    wpAny (model prog w) A (subscriptTail value slice (.ref t) (.ref s.heap.objs.size)) Q E { s with heap := s.heap.push { cls := .type "slice", data := .fields #[.none, .int b u, .none] } } := by
  have ht : IsTup s.heap t items.toArray := ⟨_, (N _ hm).1, rfl, _, rfl⟩
  have ht' : IsTup (s.heap.push { cls := .type "slice", data := .fields #[.none, .int b u, .none] }) t items.toArray := ht.keeps fun _ _ e => Heap.get?_push_of_some _ e
  refine subscriptTail_ops (s := { s with heap := s.heap.push { cls := .type "slice", data := .fields #[.none, .int b u, .none] } }) ht'.typeIs slot_tuple_getitem.lookup
    (tuple_to ht' (Heap.IsSliceOf.new ..) hb hpick ?_ hsz) hs hg
  have N1 := News.push (F.push { cls := .type "slice", data := .fields #[.none, .int b u, .none] }) (N.grown fun _ _ e => Heap.get?_push_of_some _ e) (tupObj (items.take b))
  exact h _ _ ((F.push _).push _) N1 fun p hp => by
    rw [Heap.size_push]
    exact Nat.lt_succ_of_lt (Heap.lt_size (N p hp).1)
end
noncomputable def bufOf (ws : Nat → List Nat × Bool) : Str := Txt.join (Str.ofString "|") ((List.range 4).map fun k => part (ws k))
theorem part_len (p : List Nat × Bool) : (part p).length = p.1.length + 1 := by simp [part, Str.length]
theorem tilde_cat (l : List Nat) : Str.ofString "~" ++ (⟨l.toArray⟩ : Str) = ⟨(126 :: l).toArray⟩ := by
  rw [show Str.ofString "~" = ⟨#[126]⟩ from by decide +kernel, str_cons]
theorem eq_cat (l : List Nat) : Str.ofString "=" ++ (⟨l.toArray⟩ : Str) = ⟨(61 :: l).toArray⟩ := by
  rw [show Str.ofString "=" = ⟨#[61]⟩ from by decide +kernel, str_cons]
structure TokOut (w : World) (four : Bool) (ws : Nat → List Nat × Bool) (Z : Tz) (S : Ts) : Prop where
  ok : Z.Ok
  st : StOk w Z four
  at' : S.at' = 0
  state : S.state = nm 0
  out : S.out = []
  errs : S.errs = []
  sv : S.sv = []
  closed : S.closed = false
  isret : S.isret = false
  last : S.last = Str.ofString ""
  buf : S.buf = bufOf ws
  waiting : S.waiting = false
  done : S.done = false
theorem tok_fin {w : World} {four : Bool} {W : Wd} {ws : Nat → List Nat × Bool} {h₀ h : Heap} {L : Addr} {t td st sd sg se ou er sts e1 e2 e3 e4 : Nat} {so : Obj} {k1 k2 k3 k4 k5 k6 k7 k8 k9 k10 k11 k12 k13 k14 k15 k16 k17 k18 a1 a2 a3 a4 a5 a6 : Tok} {buf : Str} {led : Led}
    (_N : News h₀ L h led) (hl : led = [(er, listOf #[] e1), (ou, listOf #[] e2), (se, listOf #[] e3), (sg, listOf #[] e4), (st, instObj 133 sd), (sd, dictOf [⟨PyData.keyHash w.params "signs", .str "signs" k15, .ref sg⟩, ⟨PyData.keyHash w.params "is_closed", .str "is_closed" k16, .bool false⟩, ⟨PyData.keyHash w.params "is_return", .str "is_return" k17, .bool false⟩, ⟨PyData.keyHash w.params "errors", .str "errors" k18, .ref se⟩] 4), (t, instObj 296 td), (td, dictOf [⟨PyData.keyHash w.params "states", .str "states" k1, .ref sts⟩, ⟨PyData.keyHash w.params "stream", .str "stream" k2, .ref st⟩, ⟨PyData.keyHash w.params "at", .str "at" k3, .int 0 a1⟩, ⟨PyData.keyHash w.params "state", .str "state" k4, .str "one" a2⟩, ⟨PyData.keyHash w.params "back", .str "back" k5, .str "data" a3⟩, ⟨PyData.keyHash w.params "out", .str "out" k6, .ref ou⟩, ⟨PyData.keyHash w.params "errors", .str "errors" k7, .ref er⟩, ⟨PyData.keyHash w.params "draft", .str "draft" k8, .none⟩, ⟨PyData.keyHash w.params "buffer", .str "buffer" k9, .str buf a4⟩, ⟨PyData.keyHash w.params "code", .str "code" k10, .int 0 a5⟩, ⟨PyData.keyHash w.params "last", .str "last" k11, .str "" a6⟩, ⟨PyData.keyHash w.params "is_foreign", .str "is_foreign" k12, .bool false⟩, ⟨PyData.keyHash w.params "is_waiting", .str "is_waiting" k13, .bool false⟩, ⟨PyData.keyHash w.params "is_done", .str "is_done" k14, .bool false⟩] 14), (sts, so), (W.a, listOf #[Value.ref (W.t 0), Value.ref (W.t 1), Value.ref (W.t 2), Value.ref (W.t 3)] W.n), wdTup W ws 0, wdTup W ws 1, wdTup W ws 2, wdTup W ws 3])
    (ho : sts < td ∧ td < t ∧ t < sd ∧ sd < st ∧ st < sg ∧ sg < se ∧ se < ou ∧ ou < er) (hd : so.IsDictOf (PySem.strKind prg w) (stKvs (manyOf four))) (lo : (sts == sysModules) = false) (hb : buf = bufOf ws) :
    ∃ Z S, Z.t = t ∧ (∀ p ∈ tzLed w Z S ++ wdLed W ws, p ∈ led) ∧ TokOut w four ws Z S := by
  refine ⟨⟨t, td, st, sd, sg, se, ou, er, sts, so, k1, k2, k3, k4, k5, k6, k7, k8, k9, k10, k11, k12, k13, k14, k15, k16, k17, k18⟩, ⟨0, "one", [], [], [], false, false, "", buf, false, false, a1, a2, a3, a4, a5, a6, e4, e3, e2, e1⟩, rfl, ?_, ⟨⟨ho.1, ho.2.1, ho.2.2.1, ho.2.2.2.1, ho.2.2.2.2.1, ho.2.2.2.2.2.1, ho.2.2.2.2.2.2.1, ho.2.2.2.2.2.2.2, ?_⟩, ⟨hd, lo⟩, rfl, rfl, rfl, rfl, rfl, rfl, rfl, rfl, hb, rfl, rfl⟩⟩
  · intro p hp
    simp only [tzLed, wdLed, List.cons_append, List.nil_append, List.mem_cons, List.not_mem_nil, or_false] at hp
    subst hl
    rcases hp with rfl | rfl | rfl | rfl | rfl | rfl | rfl | rfl | rfl | rfl | rfl | rfl | rfl | rfl <;> k_mem
  · obtain ⟨_, _, hx, _⟩ := hd
    exact hx.1
/-- a statement done: what it leaves in the frame and the ledger -/
noncomputable def Mid2 (g : Heap) (L : Addr) (P : (Str → Option Value) → Led → Prop) (s : Shared) (f : Flow) (s' : Shared) : Prop :=
  f = .next ∧ ∃ h' tk m' led, s' = { s with heap := h', toks := tk } ∧ Fr g L h' m' ∧ News g L h' led ∧ P m' led
theorem mid2_mono {M : Model} {A : Around} {E : Value → Shared → Prop} {s : Shared} {x : Sem Flow} {Q : Flow → Shared → Prop} {g : Heap} {L : Addr} {m : Str → Option Value} (P : (Str → Option Value) → Led → Prop) (_F : Fr g L s.heap m) (h1 : wpAny M A x (Mid2 g L P s) E s)
    (h2 : ∀ h' tk m' led, Fr g L h' m' → News g L h' led → P m' led → Q .next { s with heap := h', toks := tk }) : wpAny M A x Q E s :=
  wpAny_mono h1 (fun f s' hm => by
    obtain ⟨rfl, h', tk, m', led, rfl, F, N, p⟩ := hm
    exact h2 h' tk m' led F N p) fun _ _ e => e
set_option maxHeartbeats 0 in
theorem tok_spec (w : World) (W : Wd) (ws : Nat → List Nat × Bool) (hwl : ∀ k < 4, (ws k).1.length ≤ 100) (four : Bool) (tk : Tok) :
    Spec w 15 343 [.ref W.a, .int (manyOf four : Nat) tk] (wdLed W ws) (fun r led' => ∃ Z S, r = .ref Z.t ∧ led' = tzLed w Z S ++ wdLed W ws ∧ TokOut w four ws Z S) := by
  w_top off
  unfold Spec
  intro mg mb mean dp un gd cn cs a ccd cl outer A₀ base h₀ L m s Q E B F X N T hk hroom hun hret
  simp only [wdLed] at N
  refine wpAny_call ?_
  k_dflt (refine' enterH ?k1'9 ?k2'9 ?k3'9 ?k4'9 ?k5'9 ?kA'9 ?kF'9 ?kK'9 ?k6'9 ?k7'9 ?k8'9 ?k9'9 ?kB'9 ?_ ?c2'9 ?c3'9 ?c4'9 ?c5'9; (case kA'9 => exact rfl); (case kF'9 => exact rfl); (case kK'9 => assumption); (case k1'9 => k_asm); (case k2'9 => k_asm); (case k3'9 => k_asm); (case k4'9 => k_asm); (case k5'9 => k_asm); (case k6'9 => k_is); (case k7'9 => k_is); (case k8'9 => (first | exact rm0 (by assumption) | exact rm1 (by assumption) (by decide) | k_extra "room" | ktr_room)); (case k9'9 => first | exact BindsTo.of_eq rfl | exact binds_K (by k_in) rfl (by k_is) rfl rfl rfl | exact hbind9 _ (by k_in)); (case c5'9 => decide); (case kB'9 => exact locs rfl); (case c2'9 => exact rfl); (case c3'9 => exact rfl); (case c4'9 => exact rfl); k_whole; intro _ _ _ _ _ _ _ _ l1'9; (try k_lt l1'9); (try dsimp only); (with_reducible refine (?_ : wpAny _ _ _ _ _ _)); (try ((fail_if_success (fail_if_success k_fold)); refine fold_QE ?_; intro _ _)); (try (revert l1'9; intro _)))
  k_with_none
  k_with "room" => (first | exact rmS2 (by assumption) (by decide) | exact rmS3 (by assumption) (by decide) | exact rmS4 (by assumption) (by decide) | exact rm2 (by assumption) (by decide) | exact rm0 (by assumption) | exact rm1 (by assumption) (by decide) | (dsimp +zetaDelta only; ktr_room))
  k_with "units" => (first | exact cl3 (by assumption) (by decide) | exact um2 (by assumption) (by decide) | exact um1 (by assumption) (by decide) | (dsimp +zetaDelta only; ktr_units))
  k_with "is_list" => (exact News.isList (by k_asm) (by k_mem))
  k_with "st" => (first | ((fail_if_success (fail_if_success k_unfold)); refine (?_ : wpAny _ _ _ _ _ _)) | (k_unfold; (try dsimp only)) | (k_end; wrow_close) | walk1 | (dsimp only; walk1) | (leave1; walk_say "STEP leave1"; try dsimp only) | fail "no step")
  k_with "om" => (first | assumption | with_reducible rfl | decide | exact Nat.le_trans (by assumption) (by decide) | exact Nat.lt_of_le_of_lt (by assumption) (by decide) | ((repeat (with_reducible rename _ ∧ _ => om9; clear om9)); first | ((repeat (with_reducible rename _ ≠ _ => om9; clear om9)); (repeat (with_reducible rename @Eq Nat _ _ => om9; clear om9)); (repeat (with_reducible rename @Eq Int _ _ => om9; clear om9)); omega +splitNatSub) | omega +splitNatSub))
  k_with "fold" => ((fail_if_success (fail_if_success k_fold)); refine fold_QES ?_; intro _ _ _ _)
  k_with "kne" => (first | ((refine (?_ : @Ne Nat _ _)); first | assumption | exact Ne.symm (by assumption) | k_extra "ne") | (refine neN ?_; (try dsimp only); first | assumption | exact Ne.symm (by assumption) | k_extra "ne" | omega))
  k_with "tb" => (repeat (first | exact List.forall_mem_nil _ | refine List.forall_mem_cons.mpr ⟨rfl, ?_⟩))
  k_with "ne" => with_reducible (first | exact na0 (by assumption) | exact ns0 (by assumption) | exact na1 (by assumption) | exact ns1 (by assumption) | exact na2 (by assumption) | exact ns2 (by assumption) | exact na3 (by assumption) | exact ns3 (by assumption) | exact na4 (by assumption) | exact ns4 (by assumption) | exact na5 (by assumption) | exact ns5 (by assumption) | exact na6 (by assumption) | exact ns6 (by assumption) | exact na7 (by assumption) | exact ns7 (by assumption) | exact na8 (by assumption) | exact ns8 (by assumption) | exact na9 (by assumption) | exact ns9 (by assumption) | exact na10 (by assumption) | exact ns10 (by assumption) | exact na11 (by assumption) | exact ns11 (by assumption) | exact na12 (by assumption) | exact ns12 (by assumption) | exact na13 (by assumption) | exact ns13 (by assumption) | exact na14 (by assumption) | exact ns14 (by assumption) | exact na15 (by assumption) | exact ns15 (by assumption))
  k_with "ne" => with_reducible (first | (show Tz.sts _ ≠ _; first | exact zn01 (by assumption) | exact zn02 (by assumption) | exact zn03 (by assumption) | exact zn04 (by assumption) | exact zn05 (by assumption) | exact zn06 (by assumption) | exact zn07 (by assumption) | exact zn08 (by assumption)) | (show Tz.td _ ≠ _; first | exact zn10 (by assumption) | exact zn12 (by assumption) | exact zn13 (by assumption) | exact zn14 (by assumption) | exact zn15 (by assumption) | exact zn16 (by assumption) | exact zn17 (by assumption) | exact zn18 (by assumption)) | (show Tz.t _ ≠ _; first | exact zn20 (by assumption) | exact zn21 (by assumption) | exact zn23 (by assumption) | exact zn24 (by assumption) | exact zn25 (by assumption) | exact zn26 (by assumption) | exact zn27 (by assumption) | exact zn28 (by assumption)) | (show Tz.sd _ ≠ _; first | exact zn30 (by assumption) | exact zn31 (by assumption) | exact zn32 (by assumption) | exact zn34 (by assumption) | exact zn35 (by assumption) | exact zn36 (by assumption) | exact zn37 (by assumption) | exact zn38 (by assumption)) | (show Tz.st _ ≠ _; first | exact zn40 (by assumption) | exact zn41 (by assumption) | exact zn42 (by assumption) | exact zn43 (by assumption) | exact zn45 (by assumption) | exact zn46 (by assumption) | exact zn47 (by assumption) | exact zn48 (by assumption)) | (show Tz.sg _ ≠ _; first | exact zn50 (by assumption) | exact zn51 (by assumption) | exact zn52 (by assumption) | exact zn53 (by assumption) | exact zn54 (by assumption) | exact zn56 (by assumption) | exact zn57 (by assumption) | exact zn58 (by assumption)) | (show Tz.se _ ≠ _; first | exact zn60 (by assumption) | exact zn61 (by assumption) | exact zn62 (by assumption) | exact zn63 (by assumption) | exact zn64 (by assumption) | exact zn65 (by assumption) | exact zn67 (by assumption) | exact zn68 (by assumption)) | (show Tz.ou _ ≠ _; first | exact zn70 (by assumption) | exact zn71 (by assumption) | exact zn72 (by assumption) | exact zn73 (by assumption) | exact zn74 (by assumption) | exact zn75 (by assumption) | exact zn76 (by assumption) | exact zn78 (by assumption)) | (show Tz.er _ ≠ _; first | exact zn80 (by assumption) | exact zn81 (by assumption) | exact zn82 (by assumption) | exact zn83 (by assumption) | exact zn84 (by assumption) | exact zn85 (by assumption) | exact zn86 (by assumption) | exact zn87 (by assumption)))
  k_with "execs cons" => ((try ((fail_if_success (fail_if_success k_fold)); refine fold_QE ?_; intro _ _)); refine ex_consA ?_; intro _ _ _ _; (try (with_reducible rename News _ _ _ _ => kN'9; dsimp only at kN'9)); (try (with_reducible rename Fr _ _ _ _ => kF'9; refine f_let kF'9 ?_; clear kF'9; intro _ _)))
  k_with "LeaveH" => (refine' leaveH_ ?k1'9 ?k2'9 ?_; (case k1'9 => k_asm); (case k2'9 => k_asm); k_whole; intro _ _ _ _)
  k_with "pyIter ref" => ((with_reducible show wpAny _ _ (pyIter _) (fun it s₂ => LoopAtV _ _ _ _ _ _ _ _ _ it s₂) _ _); refine Stop.mk ?_)
  k_with "pyIter str" => ((with_reducible show wpAny _ _ (pyIter _) (fun it s₂ => LoopAtV _ _ _ _ _ _ _ _ _ it s₂) _ _); refine Stop.mk ?_)
  k_with "call ref" => (k_extra "mine call")
  k_with "call builtin:len" => (k_here; (with_reducible show wpAny _ _ (call (Value.builtin "len") [Value.ref _]) _ _ _); (with_unfolding_all refine' len_listN ?k1'9 ?k2'9 ?_; (case k1'9 => is_list); (case k2'9 => omega); k_whole))
  k_with "subscriptTail" => (k_here; (with_reducible show wpAny _ _ (subscriptTail _ _ (Value.ref _) (Value.int _ _)) _ _ _); (with_unfolding_all refine' sign_item ?k1'9 ?k2'9 ?k3'9 ?k4'9 ?k5'9 ?_; (case k1'9 => is_list); (case k2'9 => assumption); (case k3'9 => assumption); (case k4'9 => (push_cast; omega)); (case k5'9 => omega); k_whole); intro _)
  k_with "subscriptTail" => (k_here; (with_reducible show wpAny _ _ (subscriptTail _ _ (Value.str _ _) (Value.int _ _)) _ _ _); (with_unfolding_all refine' char_item ?k1'9 ?k2'9 ?k3'9 ?_; (case k1'9 => assumption); (case k2'9 => (push_cast; omega)); (case k3'9 => omega); k_whole))
  k_with "TurnL" => (refine TurnL.ret ?_; (try dsimp only))
  k_with "subscriptTail Name Name str int" => (k_here; (with_reducible show wpAny _ _ (subscriptTail _ _ (Value.str _ _) (Value.int _ _)) _ _ _); (with_unfolding_all refine' char_item ?k1'9 ?k2'9 ?k3'9 ?_; (case k1'9 => assumption); (case k2'9 => (push_cast; omega)); (case k3'9 => omega); k_whole))
  k_with "exec For Name Name cons nil" => (k_here; (rename Fr _ _ _ _ => lF'9); (with_unfolding_all refine' For_invVF lF'9 ?k1'9 ?k2'9 ?_; (case k1'9 => exact rfl); (case k2'9 => exact rfl); k_whole))
  k_with "call builtin:list.append" => (k_here; (with_reducible show wpAny _ _ (call (Value.builtin _) [Value.ref _, _]) _ _ _); k_dflt (refine' append_K ?k1'9 ?k2'9 ?k3'9 ?_ ?z'9; (case k1'9 => k_asm); (case k2'9 => k_asm); (case k3'9 => k_upd); (case z'9 => assumption); k_whole); intro _ _ _; (try k_sweep))
  k_with "call builtin:str.split" => (k_here; (with_reducible show wpAny _ _ (call (Value.builtin "str.split") _) _ _ _); (refine KSpl.split1 (by k_asm) (by k_asm) (by decide) ?_ (by assumption)); (intro _ _ _ _ e'9 a'9 _ _ l1'9); (try k_lt l1'9); rw [e'9] at a'9; (try (revert a'9; intro _)); (try (revert l1'9; intro _)); (try (revert e'9; intro _)))
  k_with "subscriptTail" => (k_here; (with_reducible show wpAny _ _ (subscriptTail _ _ (Value.ref _) (Value.int _ _)) _ _ _); (with_unfolding_all refine' strs_item ?k1'9 ?k2'9 ?k3'9 ?k4'9 ?k5'9 ?_; (case k1'9 => is_list); (case k2'9 => assumption); (case k3'9 => assumption); (case k4'9 => rfl); (case k5'9 => omega); k_whole); intro _)
  k_with "subscriptTail Call Attribute cons nil Name ref int" => (k_here; (with_reducible show wpAny _ _ (subscriptTail _ _ (Value.ref _) (Value.int _ _)) _ _ _); (with_unfolding_all refine' strs_item ?k1'9 ?k2'9 ?k3'9 ?k4'9 ?k5'9 ?_; (case k1'9 => is_list); (case k2'9 => assumption); (case k3'9 => assumption); (case k4'9 => rfl); (case k5'9 => omega); k_whole); intro _)
  k_with "getMethod ref" => (k_here; (with_reducible show wpAny _ _ (getMethod (Value.ref _) (PySem.Str.ofString "index") _) _ _ _); k_dflt (refine' names_method ?N'9 ?m'9 ?_; (case N'9 => k_asm); (case m'9 => k_mem)))
  k_with "call builtin:tuple.index" => (k_here; k_dflt (refine' names_index ?k'9 ?N'9 ?m'9 ?_; (case N'9 => k_asm); (case m'9 => k_mem); (case k'9 => omega)))
  k_with "subscriptTail Name BinOp ref int" => (k_here; (with_reducible show wpAny _ _ (subscriptTail _ _ (Value.ref _) (Value.int _ _)) _ _ _); (with_unfolding_all refine' names_item ?N'9 ?m'9 ?hj'9 ?h5'9 ?_; (case N'9 => k_asm); (case m'9 => k_mem); (case hj'9 => assumption); (case h5'9 => omega); k_whole); intro _)
  k_with "subscriptTail Name Slice str ref" => (k_here; ((with_unfolding_all refine' cut_tail ?F'9 ?N'9 ?sz'9 ?_); (case F'9 => k_asm); (case N'9 => k_asm); (case sz'9 => assumption); intro _ _ _ _ _; (try k_sweep)))
  k_with "subscriptTail Name Constant str int" => (k_here; (with_unfolding_all refine' head_item ?sz'9 ?_); (case sz'9 => assumption))
  k_with "SrcLP" => (k_here; refine Stop.mk ?_)
  k_with "eval ListComp" => (k_here; refine Stop.mk ?_)
  k_with "subscriptTail Name Slice ref ref" => (k_here; k_dflt (refine' tup_to ?kF'9 ?kN'9 ?km'9 ?kb'9 ?kz'9 ?kp'9 ?_; (case kF'9 => k_asm); (case kN'9 => k_asm); (case km'9 => k_mem); (case kb'9 => exact Nat.le_of_ble_eq_true rfl); (case kz'9 => exact Nat.le_of_ble_eq_true rfl); (case kp'9 => exact rfl)); intro _ _ _ N'9 l1'9; (try k_lt l1'9); (simp only [List.take] at N'9); (try k_sweep); (try (revert l1'9; intro _)); (try (revert N'9; intro _)))
  k_with "exec For Name Subscript cons nil" => (k_here; (rename Fr _ _ _ _ => lF'9); (with_unfolding_all refine' For_turns lF'9 ?_; k_whole))
  k_with "exec For Name Subscript cons nil" => (k_here; (fail_if_success (with_reducible show wpAny _ _ _ (Mid2 _ _ _ _) _ _)); refine Stop.mk ?_)
  k_steps
  unfold Stop
  rename News _ _ _ _ => N3
  rename Fr _ _ _ _ => F3
  (try dsimp +zetaDelta only at F3)
  rename_i D3 h3a o3 lo3 hs3 fs3 hi3 fi3 l3 h3b a3 tk3 s3 q3 m3
  refine mid2_mono (fun m' led => ∃ so : Obj, led = (D3, so) :: wdLed W ws ∧ so.IsDictOf (PySem.strKind prg w) (stKvs (manyOf four)) ∧ ∀ p ∈ [(Str.ofString "words", Value.ref W.a), (Str.ofString "states", .ref D3)], m' p.1 = some p.2) F3 ?first ?_
  case first =>
    cases four
    all_goals (
      simp only [manyOf, Bool.false_eq_true, if_false, if_true] at F3 ⊢
      k_steps
      rename News _ _ _ _ => N4
      exact ⟨rfl, _, _, _, _, rfl, by assumption, News.sub N4 (fun p hp => .tail _ (.tail _ hp)), _, rfl, by assumption, by tb_start⟩)
  rintro h5 tk5 m5 led5 F5 N5 ⟨so, rfl, hso, hm5⟩
  replace F5 := told _ F5 hm5
  clear hm5 F3 N3
  obtain ⟨tl, htl⟩ : ∃ tl : Led, tl = wdLed W ws := ⟨_, rfl⟩
  rw [← htl] at N5
  (try dsimp only)
  k_steps
  unfold Stop
  subst htl
  k_dflt (refine LCp.ListComp_P (F₀ := by k_asm) (by with_unfolding_all rfl) (by decide) (by rfl) (by decide) (by rfl) (by rfl) (by decide) ?_)
  k_steps
  unfold Stop
  rename News _ _ _ _ => N8
  simp only [wdLed] at N8
  rename Fr _ _ _ _ => F8
  (try dsimp +zetaDelta only at F8)
  obtain ⟨all, eb, N9⟩ : ∃ b : Led, b = _ ∧ News _ _ _ b := ⟨_, rfl, N8⟩
  have hw : ∀ k < 4, wdTup W ws k ∈ all := by
    intro k hk4
    rw [eb]
    have hq := lt4 (k := k) (by assumption)
    rcases hq with rfl | rfl | rfl | rfl <;> k_mem
  have hwa : (W.a, listOf [Value.ref (W.t 0), .ref (W.t 1), .ref (W.t 2), .ref (W.t 3)].toArray W.n) ∈ all := by rw [eb]; k_mem
  refine LCp.SrcLP.ledger rfl F8 N9 hwa (by show 4 ≤ sizeLine; rw [sizeLine_eq]; decide) ?_
  intro g2
  refine comp_restP (fun i ys nw => nw = all ∧ StrsAre ys ((List.range i).map fun k => part (ws k))) ⟨rfl, .nil⟩ ?_ ?_
  · rintro i v ys nw hi hv ⟨rfl, hS⟩
    have hi4 : i < 4 := hi
    have hvk : v = .ref (W.t i) := by
      have hq := lt4 hi4
      rcases hq with rfl | rfl | rfl | rfl <;> (simp at hv; exact hv.symm)
    refine ⟨W.t i, _, _, _, _, hvk, hw i hi4, rfl, rfl, ?_⟩
    intro I oI C oC D m₂ h9 tk9 E9 hC hx hx2 F' N' off ne
    have hlen : (⟨(ws i).1.toArray⟩ : Str).length ≤ 1000 := by rw [len_tx]; have := hwl i hi4; omega
    clear eb N8
    cases hf : (ws i).2
    · k_steps
      rename News _ _ _ _ => N7
      refine LCg.CompEnd.intro (by assumption) N7 _ (fun _ h => h) off (Or.inr ⟨_, hwa, rfl, _, rfl⟩) ⟨rfl, ?_⟩
      rw [List.range_succ, List.map_append]
      refine hS.append' ?_
      rw [List.map_cons, List.map_nil, show part (ws i) = ⟨(61 :: (ws i).1).toArray⟩ from by simp [part, hf], ← eq_cat]
      exact .cons _ _ .nil
    · k_steps
      rename News _ _ _ _ => N7
      refine LCg.CompEnd.intro (by assumption) N7 _ (fun _ h => h) off (Or.inr ⟨_, hwa, rfl, _, rfl⟩) ⟨rfl, ?_⟩
      rw [List.range_succ, List.map_append]
      refine hS.append' ?_
      rw [List.map_cons, List.map_nil, show part (ws i) = ⟨(126 :: (ws i).1).toArray⟩ from by simp [part, hf], ← tilde_cat]
      exact .cons _ _ .nil
  · rintro ys nw ⟨rfl, hS⟩
    unfold LCg.FinE
    intro D9 h9 tk9 F9' N9' o9
    subst eb
    have hS' : StrsAre ys.toArray.toList ((List.range 4).map fun k => part (ws k)) := by simpa using hS
    k_steps
    k_dflt (refine join_listW (ys := (List.range 4).map fun k => part (ws k)) (News.isList N9' (.head _)) hS' (by decide +kernel) ?_ ?_)
    · have h0 := hwl 0 (by decide)
      have h1 := hwl 1 (by decide)
      have h2 := hwl 2 (by decide)
      have h3 := hwl 3 (by decide)
      rw [show List.range 4 = [0, 1, 2, 3] from rfl]
      simp only [List.map_cons, List.map_nil, List.sum_cons, List.sum_nil, List.length_cons, List.length_nil, part_len]
      omega
    intro tj kj
    have N10 := News.sub N9' (fun p hp => List.mem_cons_of_mem _ hp)
    clear N9' N9 N8
    k_steps
    rename News _ _ _ _ => N11
    rename Fresh _ _ _ => H11
    obtain ⟨Z, S, hZt, hsub, hout⟩ := tok_fin (four := four) N11 rfl (by omega) (by assumption) (by assumption) rfl
    exact hret _ _ _ _ (by assumption) (News.sub N11 hsub) (by assumption) (Fresh.sub H11 hsub) ⟨Z, S, by rw [hZt], rfl, hout⟩
end
theorem fmod_nat (x : Int) (m : Nat) (hm : 0 < m) : ∃ j : Nat, Int.fmod x (m : Int) = (j : Int) ∧ j < m := by
  have h1 := Int.fmod_lt_of_pos x (b := (m : Int)) (by omega)
  have h2 := Int.fmod_nonneg_of_pos x (b := (m : Int)) (by omega)
  exact ⟨(Int.fmod x m).toNat, by omega, by omega⟩
theorem wsOf_len (ns : List Int) (k : Nat) : (wsOf ns k).1.length ≤ 7 := by
  have := (w11_len _ (wIdx_lt ns k)).1
  unfold wsOf
  dsimp only
  split
  · rw [List.length_map]; exact this
  · exact this
noncomputable def odd12 : List (List Nat) := [[], [13], [13, 10], [10], [45], [79, 8490], [97], [75], [0], [305], [120], [65]]
theorem odd_str : [Str.ofString "", Str.ofString "\r", Str.ofString "\r\n", Str.ofString "\n", Str.ofString "-", Str.ofString "OK", Str.ofString "a", Str.ofString "K", Str.ofString "\x00", Str.ofString "ı", Str.ofString "x", Str.ofString "A"] = odd12.map mkS := by decide +kernel
theorem odd_are (t0 t1 t2 t3 t4 t5 t6 t7 t8 t9 t10 t11 : Tok) : StrsAre [.str "" t0, .str "\r" t1, .str "\r\n" t2, .str "\n" t3, .str "-" t4, .str "OK" t5, .str "a" t6, .str "K" t7, .str "\x00" t8, .str "ı" t9, .str "x" t10, .str "A" t11] (odd12.map mkS) := by
  rw [← odd_str]
  exact .cons _ _ (.cons _ _ (.cons _ _ (.cons _ _ (.cons _ _ (.cons _ _ (.cons _ _ (.cons _ _ (.cons _ _ (.cons _ _ (.cons _ _ (.cons _ _ .nil)))))))))))
theorem odd_at {j : Nat} (h : j < 12) : (odd12.map mkS)[j]? = some ⟨(odd12.getD j []).toArray⟩ := by
  have hl : odd12.length = 12 := rfl
  simp [List.getD, mkS, h, hl]
theorem odd_len : ∀ j, j < 12 → (odd12.getD j []).length ≤ 2 ∧ ∀ c ∈ odd12.getD j [], goodC c := by
  unfold goodC; decide
noncomputable def goodL (l : List Nat) : Prop := ∀ c ∈ l, goodC c
noncomputable def goodS (y : Str) (n : Nat) : Prop := goodL y.cps.toList ∧ y.cps.toList.length ≤ n
theorem goodS.mk' {l : List Nat} {n : Nat} (h : goodL l) (hn : l.length ≤ n) : goodS ⟨l.toArray⟩ n := ⟨by simpa using h, by simpa using hn⟩
theorem goodS.app {a b : Str} {n m : Nat} (h1 : goodS a n) (h2 : goodS b m) : goodS (a ++ b) (n + m) := by
  unfold goodS
  rw [PySem.Str.cps_append, Array.toList_append]
  refine ⟨fun c hc => ?_, ?_⟩
  · rcases List.mem_append.mp hc with hc | hc
    · exact h1.1 c hc
    · exact h2.1 c hc
  · rw [List.length_append]; have := h1.2; have := h2.2; omega
theorem good_x : goodS (Str.ofString "x") 1 := by
  rw [show Str.ofString "x" = ⟨[120].toArray⟩ from by decide +kernel]
  exact .mk' (by intro c hc; rw [List.mem_singleton.mp hc]; unfold goodC; decide) (by decide)
theorem good_w : ∀ j, j < 11 → ∀ c ∈ w11.getD j [], goodC c ∧ goodC (lowC c) := by unfold goodC; decide
theorem good_ws (ns : List Int) (k : Nat) : goodL (wsOf ns k).1 := by
  intro c hc
  have h := good_w _ (wIdx_lt ns k)
  unfold wsOf at hc
  dsimp only at hc
  split at hc
  · obtain ⟨x, hx, rfl⟩ := List.mem_map.mp hc
    exact (h x hx).2
  · exact (h c hc).1
theorem good_wsS (ns : List Int) (k : Nat) : goodS ⟨(wsOf ns k).1.toArray⟩ 7 := .mk' (good_ws ns k) (wsOf_len ns k)
theorem good_up : ∀ j, j < 11 → ∀ f : Bool, (∀ c ∈ (Txt.upper ⟨(if f then (w11.getD j []).map lowC else w11.getD j []).toArray⟩).cps.toList, goodC c) ∧ (Txt.upper ⟨(if f then (w11.getD j []).map lowC else w11.getD j []).toArray⟩).cps.toList.length ≤ 7 := by unfold goodC; decide +kernel
theorem good_upS (ns : List Int) (k : Nat) : goodS (Txt.upper ⟨(wsOf ns k).1.toArray⟩) 7 := by
  have h := good_up _ (wIdx_lt ns k) (wFold ns k)
  exact ⟨h.1, h.2⟩
theorem good_take {l : List Nat} {n : Nat} (h : goodS ⟨l.toArray⟩ n) (b : Nat) : goodS ⟨(l.take b).toArray⟩ n := by
  refine .mk' (fun c hc => ?_) ?_
  · exact h.1 c (by simpa using List.mem_of_mem_take hc)
  · have := h.2
    simp at this
    rw [List.length_take]; omega
theorem good_odd {j : Nat} (h : j < 12) : goodS ⟨(odd12.getD j []).toArray⟩ 2 := .mk' (odd_len j h).2 (odd_len j h).1
theorem str_eta (y : Str) : y = mkS y.cps.toList := by unfold mkS; simp
theorem six_are {y0 y1 y2 y3 y4 y5 : Str} (h0 : goodS y0 20) (h1 : goodS y1 20) (h2 : goodS y2 20) (h3 : goodS y3 20) (h4 : goodS y4 20) (h5 : goodS y5 20) (t0 t1 t2 t3 t4 t5 : Tok) :
    ∃ six : List (List Nat), six.length = 6 ∧ StrsAre [.str y0 t0, .str y1 t1, .str y2 t2, .str y3 t3, .str y4 t4, .str y5 t5] (six.map mkS) ∧ ∀ l ∈ six, goodL l ∧ l.length ≤ 20 := by
  refine ⟨[y0.cps.toList, y1.cps.toList, y2.cps.toList, y3.cps.toList, y4.cps.toList, y5.cps.toList], rfl, ?_, ?_⟩
  · simp only [List.map_cons, List.map_nil, ← str_eta]
    exact .cons _ _ (.cons _ _ (.cons _ _ (.cons _ _ (.cons _ _ (.cons _ _ .nil)))))
  · intro l hl
    simp only [List.mem_cons, List.not_mem_nil, or_false] at hl
    rcases hl with rfl | rfl | rfl | rfl | rfl | rfl
    · exact h0
    · exact h1
    · exact h2
    · exact h3
    · exact h4
    · exact h5
theorem goodS.le {y : Str} {n m : Nat} (h : goodS y n) (hm : n ≤ m) : goodS y m := ⟨h.1, Nat.le_trans h.2 hm⟩
theorem six_item {w : World} {A : Around} {E : Value → Shared → Prop} {s : Shared} {h₀ : Heap} {L a : Addr} {news : Led} {y0 y1 y2 y3 y4 y5 : Str} {t0 t1 t2 t3 t4 t5 : Tok} {value slice : PySem.Expr} {k : Int} {u : Tok} {j : Nat} {Q : Value → Shared → Prop} (N : News h₀ L s.heap news) (hm : (a, tupObj [.str y0 t0, .str y1 t1, .str y2 t2, .str y3 t3, .str y4 t4, .str y5 t5]) ∈ news)
    (h0 : goodS y0 20) (h1 : goodS y1 20) (h2 : goodS y2 20) (h3 : goodS y3 20) (h4 : goodS y4 20) (h5 : goodS y5 20) (hj : k = (j : Int)) (hj6 : j < 6) (h : ∀ l t, goodL l → l.length ≤ 20 → Q (.str ⟨l.toArray⟩ t) s)
    (hs' : subscripted slice false (.ref a) (.int k u) = operate [.ref a, .int k u] (getItem (.ref a) (.int k u)) := by with_unfolding_all rfl) :
    wpAny (model prg w) A (subscriptTail value slice (.ref a) (.int k u)) Q E s := by
  obtain ⟨six, e1, e2, e3⟩ := six_are h0 h1 h2 h3 h4 h5 t0 t1 t2 t3 t4 t5
  have hlt : j < six.length := by omega
  have hq : (six.map mkS)[j]? = some (mkS six[j]) := by simp [hlt]
  have hg := e3 six[j] (List.getElem_mem _)
  exact tup_strs N hm e2 hj hq (by omega) (fun t => h _ t hg.1 hg.2) hs'
/-- the pieces laid so far -/
noncomputable def PieSo (i : Nat) (vs : List Value) (room : Nat) : Prop := ∃ ps : List (List Nat), StrsAre vs (ps.map mkS) ∧ (∀ p ∈ ps, ∀ x ∈ p, goodC x) ∧ ps.flatten.length + room ≤ 20 ∧ ps.length = 2 * i
theorem PieSo.snoc {i : Nat} {vs : List Value} {room b : Nat} {pt : List Nat} {t u : Tok} (h : PieSo i vs room) (hg : goodL pt) (hl : pt.length ≤ room) : PieSo (i + 1) (vs ++ [.str ⟨(pt.take b).toArray⟩ t, .str ⟨(pt.drop b).toArray⟩ u]) (room - pt.length) := by
  obtain ⟨ps, e1, e2, e3, e4⟩ := h
  refine ⟨ps ++ [pt.take b, pt.drop b], ?_, ?_, ?_, ?_⟩
  · rw [List.map_append]
    exact e1.append' (.cons _ _ (.cons _ _ .nil))
  · intro p hp
    rcases List.mem_append.mp hp with hp | hp
    · exact e2 p hp
    · simp only [List.mem_cons, List.not_mem_nil, or_false] at hp
      rcases hp with rfl | rfl
      · exact fun x hx => hg x (List.mem_of_mem_take hx)
      · exact fun x hx => hg x (List.mem_of_mem_drop hx)
  · simp only [List.flatten_append, List.flatten_cons, List.flatten_nil, List.append_nil, List.length_append, List.take_append_drop]
    omega
  · rw [List.length_append, e4]; simp; omega
theorem pie_off {own nt : Led} {P P2 D : Addr} {a b c : Obj} (ho : OwnOff own (((P2, a) :: (D, b) :: nt).map (·.1))) (hl : @LT.lt Nat _ P2 P ∧ @LT.lt Nat _ D P ∧ AllLt P (nt ++ own)) : OwnOff own (((P, c) :: (D, b) :: nt).map (·.1)) := by
  intro p hp x hx
  simp only [List.map_cons, List.mem_cons] at hx
  rcases hx with rfl | rfl | hx
  · exact Nat.ne_of_lt (allLt_mem hl.2.2 p (List.mem_append_right _ hp))
  · exact ho p hp _ (.tail _ (.head _))
  · exact ho p hp _ (.tail _ (.tail _ hx))
theorem pie_sub {P l P2 D : Addr × Obj} {nt own : Led} : ∀ p ∈ (P :: D :: nt) ++ own, p ∈ P :: l :: P2 :: D :: (nt ++ own) := by
  intro p hp
  simp only [List.mem_append, List.mem_cons] at hp ⊢
  rcases hp with (h | h | h) | h
  · exact .inl h
  · exact .inr (.inr (.inr (.inl h)))
  · exact .inr (.inr (.inr (.inr (.inl h))))
  · exact .inr (.inr (.inr (.inr (.inr h))))
theorem join_flat : ∀ ps : List (List Nat), Str.join ⟨#[]⟩ (ps.map mkS) = ⟨ps.flatten.toArray⟩
  | [] => rfl
  | p :: r => by
    rw [List.map_cons, join_nil_cons, join_flat r]
    refine PySem.Str.ext' (Array.toList_inj.mp ?_)
    rw [PySem.Str.cps_append, Array.toList_append]
    simp [mkS]
theorem sum_flat : ∀ ps : List (List Nat), ((ps.map mkS).map (·.length)).sum = ps.flatten.length
  | [] => rfl
  | p :: r => by
    rw [List.map_cons, List.map_cons, List.sum_cons, sum_flat r, List.flatten_cons, List.length_append]
    have : (mkS p).length = p.length := by simp [mkS, Str.length]
    omega
/-- what the law's pieces are -/
noncomputable def PieOut (r : Value) (led' : Led) : Prop := ∃ P n pv, ∃ ps : List (List Nat), r = .ref P ∧ (P, PySem.W.listOf (pv : List Value).toArray n) ∈ led' ∧ StrsAre pv (ps.map mkS) ∧ (∀ p ∈ ps, ∀ x ∈ p, goodC x) ∧ ps.flatten.length ≤ 20 ∧ pv.length ≤ 20
theorem ones_flat (l : List Nat) : (l.map fun c => [c]).flatten = l := by induction l with
  | nil => rfl
  | cons c r ih => simp [ih]
theorem b42 {i : Nat} (h : i < 6) : 4 + 2 * i ≤ 100 := by omega
theorem b52 {i : Nat} (h : i < 6) : 5 + 2 * i ≤ 100 := by omega
theorem lt62 {j : Nat} (h : j < 12) : j < 2 ^ 62 := Nat.lt_of_lt_of_le h (by decide)
set_option maxHeartbeats 0 in
theorem pieces_spec (w : World) (sc : Addr) (sv : List Value) (ns : List Int) (hi : IntsAre sv ns) (hlen : ns.length ≤ 63) (W : Wd) :
    SpecS w sc sv 20 331 [.ref sc, .ref W.a] (wdLed W (wsOf ns)) (fun r led' => (∀ p ∈ wdLed W (wsOf ns), p ∈ led') ∧ PieOut r led') := by
  w_top off
  unfold SpecS
  intro mg mb mean dp un gd cn cs a ccd cl outer A₀ base h₀ L m s Q E hsc B F X N T hk hroom hun hret
  refine wpAny_call ?_
  k_dflt (refine' enterHS ?k1'9 ?k2'9 ?k3'9 ?k4'9 ?k5'9 ?kA'9 ?kF'9 ?kK'9 ?k6'9 ?k7'9 ?k8'9 ?k9'9 ?kB'9 ?_ ?c2'9 ?c3'9 ?c4'9 ?c5'9; (case kA'9 => exact rfl); (case kF'9 => exact rfl); (case kK'9 => assumption); (case k1'9 => k_asm); (case k2'9 => k_asm); (case k3'9 => k_asm); (case k4'9 => k_asm); (case k5'9 => k_asm); (case k6'9 => k_is); (case k7'9 => k_is); (case k8'9 => (first | exact rm0 (by assumption) | exact rm1 (by assumption) (by decide) | k_extra "room" | ktr_room)); (case k9'9 => first | exact BindsTo.of_eq rfl | exact binds_K (by k_in) rfl (by k_is) rfl rfl rfl); (case c5'9 => decide); (case kB'9 => exact locs rfl); (case c2'9 => exact rfl); (case c3'9 => exact rfl); (case c4'9 => exact rfl); k_whole; intro _ _ _ _ _ _ _ _ l1'9 kst'9; (have hscg := IsListAt (by assumption) kst'9); clear kst'9; (try k_lt l1'9); (try dsimp only); (with_reducible refine (?_ : wpAny _ _ _ _ _ _)); (try ((fail_if_success (fail_if_success k_fold)); refine fold_QE ?_; intro _ _)); (try (revert kst'9; intro _)); (try (revert l1'9; intro _)))
  k_with_none
  k_with "room" => (first | exact rmS2 (by assumption) (by decide) | exact rmS3 (by assumption) (by decide) | exact rmS4 (by assumption) (by decide) | exact rm2 (by assumption) (by decide) | exact rm0 (by assumption) | exact rm1 (by assumption) (by decide) | (dsimp +zetaDelta only; ktr_room))
  k_with "units" => (first | exact cl3 (by assumption) (by decide) | exact um2 (by assumption) (by decide) | exact um1 (by assumption) (by decide) | (dsimp +zetaDelta only; ktr_units))
  k_with "is_list" => (exact News.isList (by k_asm) (by k_mem))
  k_with "st" => (first | ((fail_if_success (fail_if_success k_unfold)); refine (?_ : wpAny _ _ _ _ _ _)) | (k_unfold; (try dsimp only)) | (k_end; wrow_close) | walk1 | (dsimp only; walk1) | (leave1; walk_say "STEP leave1"; try dsimp only) | fail "no step")
  k_with "om" => (first | assumption | with_reducible rfl | decide | exact Nat.le_trans (by assumption) (by decide) | exact Nat.lt_of_le_of_lt (by assumption) (by decide) | ((repeat (with_reducible rename _ ∧ _ => om9; clear om9)); first | ((repeat (with_reducible rename _ ≠ _ => om9; clear om9)); (repeat (with_reducible rename @Eq Nat _ _ => om9; clear om9)); (repeat (with_reducible rename @Eq Int _ _ => om9; clear om9)); omega +splitNatSub) | omega +splitNatSub))
  k_with "fold" => ((fail_if_success (fail_if_success k_fold)); refine fold_QES ?_; intro _ _ _ _)
  k_with "kne" => (first | ((refine (?_ : @Ne Nat _ _)); first | assumption | exact Ne.symm (by assumption) | k_extra "ne") | (refine neN ?_; (try dsimp only); first | assumption | exact Ne.symm (by assumption) | k_extra "ne" | omega))
  k_with "tb" => (repeat (first | exact List.forall_mem_nil _ | refine List.forall_mem_cons.mpr ⟨rfl, ?_⟩))
  k_with "ne" => with_reducible (first | exact na0 (by assumption) | exact ns0 (by assumption) | exact na1 (by assumption) | exact ns1 (by assumption) | exact na2 (by assumption) | exact ns2 (by assumption) | exact na3 (by assumption) | exact ns3 (by assumption) | exact na4 (by assumption) | exact ns4 (by assumption) | exact na5 (by assumption) | exact ns5 (by assumption) | exact na6 (by assumption) | exact ns6 (by assumption) | exact na7 (by assumption) | exact ns7 (by assumption) | exact na8 (by assumption) | exact ns8 (by assumption) | exact na9 (by assumption) | exact ns9 (by assumption) | exact na10 (by assumption) | exact ns10 (by assumption) | exact na11 (by assumption) | exact ns11 (by assumption) | exact na12 (by assumption) | exact ns12 (by assumption) | exact na13 (by assumption) | exact ns13 (by assumption) | exact na14 (by assumption) | exact ns14 (by assumption) | exact na15 (by assumption) | exact ns15 (by assumption))
  k_with "ne" => with_reducible (first | (show Tz.sts _ ≠ _; first | exact zn01 (by assumption) | exact zn02 (by assumption) | exact zn03 (by assumption) | exact zn04 (by assumption) | exact zn05 (by assumption) | exact zn06 (by assumption) | exact zn07 (by assumption) | exact zn08 (by assumption)) | (show Tz.td _ ≠ _; first | exact zn10 (by assumption) | exact zn12 (by assumption) | exact zn13 (by assumption) | exact zn14 (by assumption) | exact zn15 (by assumption) | exact zn16 (by assumption) | exact zn17 (by assumption) | exact zn18 (by assumption)) | (show Tz.t _ ≠ _; first | exact zn20 (by assumption) | exact zn21 (by assumption) | exact zn23 (by assumption) | exact zn24 (by assumption) | exact zn25 (by assumption) | exact zn26 (by assumption) | exact zn27 (by assumption) | exact zn28 (by assumption)) | (show Tz.sd _ ≠ _; first | exact zn30 (by assumption) | exact zn31 (by assumption) | exact zn32 (by assumption) | exact zn34 (by assumption) | exact zn35 (by assumption) | exact zn36 (by assumption) | exact zn37 (by assumption) | exact zn38 (by assumption)) | (show Tz.st _ ≠ _; first | exact zn40 (by assumption) | exact zn41 (by assumption) | exact zn42 (by assumption) | exact zn43 (by assumption) | exact zn45 (by assumption) | exact zn46 (by assumption) | exact zn47 (by assumption) | exact zn48 (by assumption)) | (show Tz.sg _ ≠ _; first | exact zn50 (by assumption) | exact zn51 (by assumption) | exact zn52 (by assumption) | exact zn53 (by assumption) | exact zn54 (by assumption) | exact zn56 (by assumption) | exact zn57 (by assumption) | exact zn58 (by assumption)) | (show Tz.se _ ≠ _; first | exact zn60 (by assumption) | exact zn61 (by assumption) | exact zn62 (by assumption) | exact zn63 (by assumption) | exact zn64 (by assumption) | exact zn65 (by assumption) | exact zn67 (by assumption) | exact zn68 (by assumption)) | (show Tz.ou _ ≠ _; first | exact zn70 (by assumption) | exact zn71 (by assumption) | exact zn72 (by assumption) | exact zn73 (by assumption) | exact zn74 (by assumption) | exact zn75 (by assumption) | exact zn76 (by assumption) | exact zn78 (by assumption)) | (show Tz.er _ ≠ _; first | exact zn80 (by assumption) | exact zn81 (by assumption) | exact zn82 (by assumption) | exact zn83 (by assumption) | exact zn84 (by assumption) | exact zn85 (by assumption) | exact zn86 (by assumption) | exact zn87 (by assumption)))
  k_with "execs cons" => ((try ((fail_if_success (fail_if_success k_fold)); refine fold_QE ?_; intro _ _)); refine ex_consA ?_; intro _ _ _ _; (try (with_reducible rename News _ _ _ _ => kN'9; dsimp only at kN'9)); (try (with_reducible rename Fr _ _ _ _ => kF'9; refine f_let kF'9 ?_; clear kF'9; intro _ _)))
  k_with "LeaveH" => (refine' leaveH_ ?k1'9 ?k2'9 ?_; (case k1'9 => k_asm); (case k2'9 => k_asm); k_whole; intro _ _ _ _)
  k_with "pyIter ref" => ((with_reducible show wpAny _ _ (pyIter _) (fun it s₂ => LoopAtV _ _ _ _ _ _ _ _ _ it s₂) _ _); refine Stop.mk ?_)
  k_with "pyIter str" => ((with_reducible show wpAny _ _ (pyIter _) (fun it s₂ => LoopAtV _ _ _ _ _ _ _ _ _ it s₂) _ _); refine Stop.mk ?_)
  k_with "call ref" => (k_extra "mine call")
  k_with "call builtin:len" => (k_here; (with_reducible show wpAny _ _ (call (Value.builtin "len") [Value.ref _]) _ _ _); (with_unfolding_all refine' len_listN ?k1'9 ?k2'9 ?_; (case k1'9 => is_list); (case k2'9 => omega); k_whole))
  k_with "subscriptTail" => (k_here; (with_reducible show wpAny _ _ (subscriptTail _ _ (Value.ref _) (Value.int _ _)) _ _ _); (with_unfolding_all refine' sign_item ?k1'9 ?k2'9 ?k3'9 ?k4'9 ?k5'9 ?_; (case k1'9 => is_list); (case k2'9 => assumption); (case k3'9 => assumption); (case k4'9 => (push_cast; omega)); (case k5'9 => omega); k_whole); intro _)
  k_with "subscriptTail" => (k_here; (with_reducible show wpAny _ _ (subscriptTail _ _ (Value.str _ _) (Value.int _ _)) _ _ _); (with_unfolding_all refine' char_item ?k1'9 ?k2'9 ?k3'9 ?_; (case k1'9 => assumption); (case k2'9 => (push_cast; omega)); (case k3'9 => omega); k_whole))
  k_with "TurnL" => (refine TurnL.ret ?_; (try dsimp only))
  k_with "subscriptTail Name Name str int" => (k_here; (with_reducible show wpAny _ _ (subscriptTail _ _ (Value.str _ _) (Value.int _ _)) _ _ _); (with_unfolding_all refine' char_item ?k1'9 ?k2'9 ?k3'9 ?_; (case k1'9 => assumption); (case k2'9 => (push_cast; omega)); (case k3'9 => omega); k_whole))
  k_with "exec For Name Name cons nil" => (k_here; (rename Fr _ _ _ _ => lF'9); (with_unfolding_all refine' For_invVF lF'9 ?k1'9 ?k2'9 ?_; (case k1'9 => exact rfl); (case k2'9 => exact rfl); k_whole))
  k_with "call builtin:list.append" => (k_here; (with_reducible show wpAny _ _ (call (Value.builtin _) [Value.ref _, _]) _ _ _); k_dflt (refine' append_K ?k1'9 ?k2'9 ?k3'9 ?_ ?z'9; (case k1'9 => k_asm); (case k2'9 => k_asm); (case k3'9 => k_upd); (case z'9 => assumption); k_whole); intro _ _ _; (try k_sweep))
  k_with "call builtin:str.split" => (k_here; (with_reducible show wpAny _ _ (call (Value.builtin "str.split") _) _ _ _); (refine KSpl.split1 (by k_asm) (by k_asm) (by decide) ?_ (by assumption)); (intro _ _ _ _ e'9 a'9 _ _ l1'9); (try k_lt l1'9); rw [e'9] at a'9; (try (revert a'9; intro _)); (try (revert l1'9; intro _)); (try (revert e'9; intro _)))
  k_with "subscriptTail" => (k_here; (with_reducible show wpAny _ _ (subscriptTail _ _ (Value.ref _) (Value.int _ _)) _ _ _); (with_unfolding_all refine' strs_item ?k1'9 ?k2'9 ?k3'9 ?k4'9 ?k5'9 ?_; (case k1'9 => is_list); (case k2'9 => assumption); (case k3'9 => assumption); (case k4'9 => rfl); (case k5'9 => omega); k_whole); intro _)
  k_with "subscriptTail Call Attribute cons nil Name ref int" => (k_here; (with_reducible show wpAny _ _ (subscriptTail _ _ (Value.ref _) (Value.int _ _)) _ _ _); (with_unfolding_all refine' strs_item ?k1'9 ?k2'9 ?k3'9 ?k4'9 ?k5'9 ?_; (case k1'9 => is_list); (case k2'9 => assumption); (case k3'9 => assumption); (case k4'9 => rfl); (case k5'9 => omega); k_whole); intro _)
  k_with "getMethod ref" => (k_here; (with_reducible show wpAny _ _ (getMethod (Value.ref _) (PySem.Str.ofString "index") _) _ _ _); k_dflt (refine' names_method ?N'9 ?m'9 ?_; (case N'9 => k_asm); (case m'9 => k_mem)))
  k_with "call builtin:tuple.index" => (k_here; k_dflt (refine' names_index ?k'9 ?N'9 ?m'9 ?_; (case N'9 => k_asm); (case m'9 => k_mem); (case k'9 => omega)))
  k_with "subscriptTail Name BinOp ref int" => (k_here; (with_reducible show wpAny _ _ (subscriptTail _ _ (Value.ref _) (Value.int _ _)) _ _ _); (with_unfolding_all refine' names_item ?N'9 ?m'9 ?hj'9 ?h5'9 ?_; (case N'9 => k_asm); (case m'9 => k_mem); (case hj'9 => assumption); (case h5'9 => omega); k_whole); intro _)
  k_with "setAttr ref" => (k_here; k_dflt (first | (refine' set_tz ?k1'9 ?k2'9 ?k3'9 ?k4'9 ?k5'9 ?k6'9 ?k7'9 ?k8'9 ?k9'9 ?k10'9 ?k11'9 ?k12'9 ?k13'9 ?_; (case k1'9 => k_asm); (case k2'9 => k_asm); (case k3'9 => k_asm); (case k4'9 => k_inst); (case k5'9 => exact rfl); (case k6'9 => k_is); (case k7'9 => k_is); (case k8'9 => k_is); (case k9'9 => k_is); (case k10'9 => k_get); (case k11'9 => k_put); (case k12'9 => k_upd); (case k13'9 => exact Nat.le_of_ble_eq_true rfl); k_whole; intro _ _ _; (try k_sweep)) | (refine' set_st ?k1'9 ?k2'9 ?k3'9 ?k4'9 ?k5'9 ?k6'9 ?k7'9 ?k8'9 ?k9'9 ?k10'9 ?k11'9 ?k12'9 ?k13'9 ?_; (case k1'9 => k_asm); (case k2'9 => k_asm); (case k3'9 => k_asm); (case k4'9 => k_inst); (case k5'9 => exact rfl); (case k6'9 => k_is); (case k7'9 => k_is); (case k8'9 => k_is); (case k9'9 => k_is); (case k10'9 => k_get); (case k11'9 => k_put); (case k12'9 => k_upd); (case k13'9 => exact Nat.le_of_ble_eq_true rfl); k_whole; intro _ _ _; (try k_sweep))))
  k_with "eval Call" => (k_here; k_dflt (refine Call_ ?_))
  k_with "pyIter ref" => ((with_reducible show wpAny _ _ (pyIter _) (fun it s₂ => LoopAtV _ _ _ _ _ _ _ _ _ it s₂) _ _); refine Stop.mk ?_)
  k_with "binaryOp Add ref ref" => (k_here; k_dflt (refine' add_new ?F'9 ?N'9 ?a'9 ?b'9 ?z'9 ?_; (case F'9 => k_asm); (case N'9 => k_asm); (case a'9 => k_mem); (case b'9 => k_mem); (case z'9 => first | omega | ((simp only [List.length_cons, List.length_nil]); omega)); (intro _ _ _ _ l1'9; (try k_lt l1'9); (try k_sweep))); (try (revert l1'9; intro _)))
  k_with "eval ListComp" => (k_here; refine Stop.mk ?_)
  k_with "subscriptTail" => (k_here; (with_reducible show wpAny _ _ (subscriptTail (PySem.Expr.Name _ _) (PySem.Expr.BinOp _ _ _ _) (Value.ref _) (Value.int _ _)) _ _ _); refine Stop.mk ?_)
  k_with "mine call" => ((with_reducible show wpAny _ _ (call (Value.ref 307) _) _ _ _); refine Stop.mk ?_)
  k_steps
  unfold Stop
  rename News _ _ _ _ => N8
  rename_i D h5 l1 h4 b1' tk1' s1' q1' m1' P h3 l2' h2 b2' tk2' s2' q2' m2' h1 N1 b3' tk3' s3' q3' m3' F1 h0' tk t1 u1 v1 a1 a2 a3
  have hN : ∃ tv, StrsAre tv (odd12.map mkS) ∧ News _ _ _ ((P, listOf ([] : List Value).toArray 0) :: (D, tupObj tv) :: wdLed W (wsOf ns)) := ⟨_, odd_are _ _ _ _ _ _ _ _ _ _ _ _, N8⟩
  clear N8
  obtain ⟨tv, htv, N8⟩ := hN
  refine iter_range (σ := Addr × List Value × Nat × Nat × Tok) (fun c => (c.1, listOf c.2.1.toArray c.2.2.1) :: (D, tupObj tv) :: wdLed W (wsOf ns)) (fun c => [("script", .ref sc), ("words", .ref W.a), ("odd", .ref D), ("pieces", .ref c.1), ("room", .int (c.2.2.2.1 : Nat) c.2.2.2.2)])
    (fun i c => PieSo i c.2.1 c.2.2.2.1) (P, [], 0, 20, _) 6 rfl (by assumption) (by decide) (by decide) (by assumption) N8 (by tb_start) ⟨[], .nil, fun _ h => (nomatch h), Nat.le_refl 20, rfl⟩ ?turn ?done
  case done =>
    rintro ⟨P2, vs, n0, room, t0⟩ u h tk hS F' N'
    dsimp only at hS N'
    obtain ⟨ps, e1, e2, e3, e4⟩ := hS
    have hpl : vs.length = 12 := by have := e1.len_eq; rw [List.length_map, e4] at this; exact this
    (try dsimp only)
    k_steps
    unfold Stop
    rename News _ _ _ _ => N7
    k_dflt (refine (digit_spec w sc sv ns hi hlen 16 _ (by decide)).useR (fun _ _ _ p hp => (nomatch hp)) (by assumption) (by k_asm) (by k_asm) (by k_asm) N7 (by k_asm) rfl (by (first | exact rm0 (by assumption) | exact rm1 (by assumption) (by decide) | k_extra "room" | ktr_room)) (by (first | k_extra "units" | ktr_units)) (fun _ hp => (nomatch hp)) ?_)
    rintro r led' h' tk' F' N' fresh ⟨rfl, tk2, rfl⟩
    rw [List.nil_append] at N'
    clear fresh
    (try dsimp only)
    k_steps
    · unfold Stop
      k_dflt (refine ListComp_S (F₀ := by k_asm) (by with_unfolding_all rfl) (by decide) (by rfl) (by decide) (by rfl) ?_)
      k_steps
      rename News _ _ _ _ => N6
      have e1' : StrsAre vs.toArray.toList (ps.map mkS) := by simpa using e1
      k_dflt (refine join_listW (ys := ps.map mkS) (News.isList N6 (.head _)) e1' (by decide +kernel) ?_ ?_)
      · rw [sum_flat, List.length_map]; omega
      intro tj kj
      rw [show Txt.join (Str.ofString "") (ps.map mkS) = ⟨ps.flatten.toArray⟩ from by rw [show Str.ofString "" = ⟨#[]⟩ from by decide +kernel]; exact (StrLaws.glued_eq_join _ _).trans (join_flat _)]
      have hgf : ∀ x ∈ ps.flatten, goodC x := fun x hx => by obtain ⟨p, hp, hx⟩ := List.mem_flatten.mp hx; exact e2 p hp x hx
      have hfl : ps.flatten.length ≤ 20 := by omega
      generalize ps.flatten = fl at *
      rename Fr _ _ _ _ => F9
      (try dsimp +zetaDelta only at F9)
      refine ⟨_, _, _, rfl, rfl, F9, N6, ?_, ?_⟩
      · show fl.toArray.size ≤ sizeLine
        rw [List.size_toArray, sizeLine_eq]; omega
      rintro s₂ ⟨g₂, rfl⟩
      refine comp_rest (fun i ys nw => nw = _ ∧ StrsAre ys ((fl.take i).map one)) ⟨rfl, .nil⟩ ?_ ?_
      · rintro i v I oI C oC D9 m₂ ys nw h9 tk9 E9 hi ⟨cc, tc, hcc, rfl⟩ ⟨rfl, hD⟩ hC hx F' N' off ne
        have hcc' : fl[i]? = some cc := by simpa using hcc
        k_steps
        rename News _ _ _ _ => N5
        refine LCg.CompEnd.intro (by assumption) N5 _ (fun _ h => h) off trivial ⟨rfl, ?_⟩
        rw [List.take_add_one, hcc', List.map_append]
        exact hD.append' (.cons _ _ .nil)
      · rintro ys nw ⟨rfl, hD⟩
        unfold LCg.FinE
        intro D9 h9 tk9 F9' N9' o9
        have hsize : fl.toArray.size = fl.length := by simp
        rw [hsize, List.take_length] at hD
        have hyl : ys.length ≤ 20 := by have := hD.len_eq; rw [List.length_map] at this; omega
        k_steps
        rename News _ _ _ _ => N4
        rename Fresh _ _ _ => H4
        exact hret _ _ _ _ (by assumption) N4 (by assumption) H4 ⟨fun p hp => List.mem_cons_of_mem _ (List.mem_cons_of_mem _ (List.mem_cons_of_mem _ hp)), D9, _, ys, fl.map (fun c => [c]), rfl, .head _, by rw [List.map_map]; exact hD, fun p hp x hx => by obtain ⟨c, hc, rfl⟩ := List.mem_map.mp hp; rw [List.mem_singleton.mp hx]; exact hgf c hc, by rw [ones_flat]; exact hfl, hyl⟩
    · rename News _ _ _ _ => N6
      rename Fresh _ _ _ => H6
      exact hret _ _ _ _ (by assumption) N6 (by assumption) H6 ⟨fun p hp => List.mem_cons_of_mem _ (List.mem_cons_of_mem _ hp), P2, _, vs, ps, rfl, .head _, e1, e2, by omega, by omega⟩
  case turn =>
    rintro i ⟨P2, vs, n0, room, t0⟩ ti own u h tk hi6 hS ho hlt F' N'
    dsimp only at hS ho N'
    have hvl : vs.length ≤ 20 := by obtain ⟨ps, e1, _, _, e4⟩ := hS; have := e1.len_eq; rw [List.length_map] at this; omega
    have hroom20 : room ≤ 20 := by obtain ⟨ps, _, _, e3, _⟩ := hS; omega
    simp only [List.cons_append] at N'
    have hk1 : (4 + 2 * (i : Int)) = ((4 + 2 * i : Nat) : Int) := by push_cast; rfl
    have hk2 : (5 + 2 * (i : Int)) = ((5 + 2 * i : Nat) : Int) := by push_cast; rfl
    (try dsimp only)
    k_steps
    unfold Stop
    rename News _ _ _ _ => N7
    rw [hk1]
    k_dflt (refine (digit_spec w sc sv ns hi hlen (4 + 2 * i) _ (b42 hi6)).useR (fun _ _ _ p hp => (nomatch hp)) (by assumption) (by k_asm) (by k_asm) (by k_asm) N7 (by k_asm) rfl (by (first | exact rm0 (by assumption) | exact rm1 (by assumption) (by decide) | k_extra "room" | ktr_room)) (by (first | k_extra "units" | ktr_units)) (fun _ hp => (nomatch hp)) ?_)
    rintro r led' h' tk' F' N' fresh ⟨rfl, tk2, rfl⟩
    rw [List.nil_append] at N'
    clear fresh
    (try dsimp only)
    generalize dig ns (4 + 2 * i) = d
    obtain ⟨j, hj, hj4⟩ := fmod_nat (d + (i : Int)) 4 (by decide)
    obtain ⟨j6, hj6, hj66⟩ := fmod_nat (Int.fdiv d 4 + (i : Int)) 6 (by decide)
    obtain ⟨j12, hj12, hj122⟩ := fmod_nat (Int.fdiv d 24 + (i : Int)) 12 (by decide)
    have hw7 := wsOf_len ns j
    have hlw : (⟨(wsOf ns j).1.toArray⟩ : Str).length ≤ 7 := by rw [len_tx]; exact hw7
    k_steps
    unfold Stop
    rename News _ _ _ _ => N6
    k_dflt (refine wd_item (W := W) (ws := wsOf ns) N6 (fun p hp => List.mem_cons_of_mem _ (List.mem_cons_of_mem _ (List.mem_append_left _ hp))) hj hj4 ?_)
    intro N5
    have hlo : (⟨(odd12.getD j12 []).toArray⟩ : Str).length ≤ 2 := by rw [len_tx]; exact (odd_len j12 hj122).1
    k_steps
    unfold Stop
    k_dflt (refine tup_strs (by k_asm) (by k_mem) htv hj12 (odd_at hj122) (lt62 hj122) ?_)
    intro to1
    k_steps
    unfold Stop
    k_dflt (refine tup_strs (by k_asm) (by k_mem) htv hj12 (odd_at hj122) (lt62 hj122) ?_)
    intro to2
    k_steps
    unfold Stop
    rename News _ _ _ _ => N4
    rename @LT.lt Nat _ _ _ ∧ _ => l4
    have hmod : ∃ b : Nat, Int.fmod (Int.fdiv d 24 + (i : Int) + 2) (((⟨(wsOf ns j).1.toArray⟩ : Str).length : Int) + 1) = (b : Int) := by
      obtain ⟨b, hb, _⟩ := fmod_nat (Int.fdiv d 24 + (i : Int) + 2) ((⟨(wsOf ns j).1.toArray⟩ : Str).length + 1) (Nat.succ_pos _)
      exact ⟨b, by rw [← hb]; push_cast; rfl⟩
    obtain ⟨b1, hb1⟩ := hmod
    have g1 := (good_x.app (good_wsS ns j)).le (m := 20) (by decide)
    have g2 : goodS (Str.ofString "x" ++ Txt.slice ⟨(wsOf ns j).1.toArray⟩ none (some (Int.fmod (Int.fdiv d 24 + (i : Int) + 2) (((⟨(wsOf ns j).1.toArray⟩ : Str).length : Int) + 1)))) 20 := by
      rw [hb1, slice_to]; exact (good_x.app (good_take (good_wsS ns j) b1)).le (by decide)
    have g3 := (good_x.app (good_upS ns j)).le (m := 20) (by decide)
    have g4 := (good_wsS ns j).le (m := 20) (by decide)
    have g5 := ((good_odd hj122).app (good_wsS ns j)).le (m := 20) (by decide)
    have g6 : goodS (Str.ofString "x" ++ Txt.slice ⟨(wsOf ns j).1.toArray⟩ none (some (-1)) ++ ⟨(odd12.getD j12 []).toArray⟩) 20 := by
      rw [slice_neg1]; exact ((good_x.app (good_take (good_wsS ns j) _)).app (good_odd hj122)).le (by decide)
    k_dflt (refine six_item N4 (.head _) g1 g2 g3 g4 g5 g6 hj6 hj66 ?_)
    intro l tl9 hgl hll
    have N3 := News.sub N4 (fun p hp => List.mem_cons_of_mem _ (List.mem_cons_of_mem _ hp))
    clear N4 g1 g2 g3 g4 g5 g6 hb1
    have hll2 : l.length ≤ 100000 := Nat.le_trans hll (by decide)
    have hls : (⟨l.toArray⟩ : Str).length ≤ 20 := by rw [len_tx]; exact hll
    k_steps
    unfold Stop
    rename News _ _ _ _ => N2
    rename Fr _ _ _ _ => F9
    (try dsimp +zetaDelta only at F9)
    simp only [slice_to] at F9
    have hgp : goodL (l.take room) := fun c hc => hgl c (List.mem_of_mem_take hc)
    have hpl : (l.take room).length ≤ room := by rw [List.length_take]; exact Nat.min_le_left _ _
    have hpl2 : (l.take room).length ≤ 20 := Nat.le_trans hpl hroom20
    clear hgl hll hll2 hls
    generalize l.take room = pt at *
    have hroom2 : (room : Int) - (((⟨pt.toArray⟩ : Str).length : Nat) : Int) = ((room - pt.length : Nat) : Int) := by rw [len_tx]; exact (Int.ofNat_sub hpl).symm
    simp only [hroom2] at F9
    rw [hk2]
    k_dflt (refine (digit_spec w sc sv ns hi hlen (5 + 2 * i) _ (b52 hi6)).useR (fun _ _ _ p hp => (nomatch hp)) (by assumption) (by k_asm) (by k_asm) (by k_asm) N2 (by k_asm) rfl (by (first | exact rm0 (by assumption) | exact rm1 (by assumption) (by decide) | k_extra "room" | ktr_room)) (by (first | k_extra "units" | ktr_units)) (fun _ hp => (nomatch hp)) ?_)
    rintro r led' h' tk' F' N' fresh ⟨rfl, tk3, rfl⟩
    rw [List.nil_append] at N'
    clear fresh
    (try dsimp only)
    generalize dig ns (5 + 2 * i) = d2
    have hls : (⟨pt.toArray⟩ : Str).length ≤ 20 := by rw [len_tx]; exact hpl2
    obtain ⟨b2, hb2, hb2l⟩ : ∃ b : Nat, Int.fmod (d2 + 3 * (i : Int) + 2) (((⟨pt.toArray⟩ : Str).length : Int) + 1) = (b : Int) ∧ b < (⟨pt.toArray⟩ : Str).length + 1 := by
      obtain ⟨b, hb, hl⟩ := fmod_nat (d2 + 3 * (i : Int) + 2) ((⟨pt.toArray⟩ : Str).length + 1) (Nat.succ_pos _)
      exact ⟨b, by rw [← hb]; push_cast; rfl, hl⟩
    k_steps
    rename News _ _ _ _ => N1
    rename @LT.lt Nat _ _ _ ∧ _ => l9
    simp only [hb2, slice_to, slice_from] at N1
    refine TurnL.next (_, vs ++ [_, _], 0, room - pt.length, _) (by assumption) (News.sub N1 pie_sub) (pie_off ho l9.2) (by tb_start) (hS.snoc hgp hpl)
section
noncomputable abbrev excBM : List Value := [.type "Exception", .type "BaseException", .type "object"]
section
variable {prog : Program} {w : World} {A : Around} {E : Value → Shared → Prop} {h : Heap} {g : Array GenState} {d : Drawn} {t : Nat} {os : OsState}
variable {nm q : Str} {C D N : Addr} {bs : List Value} {hdct : Bool} {sn : List Str} {sub : List Value} {ab : Bool} {col : Option Bool} {dd : Option Addr} {k0 k1 k2 k3 k5 : Option Value}
theorem exB (X : String) (hX : excBM.contains (.type X) = b) : (Value.ref C :: Value.ref D :: excBM).contains (.type X) = b := by
  rw [List.contains_cons, List.contains_cons, hX]; rfl
theorem exc_check_new {M : Model} {rest : List Value} {Q : Unit → Shared → Prop} (hC : h.get? C = some (excClassObj nm q C N bs (.ref D :: excBM) hdct sn sub ab col dd k0 k1 k2 k3 k5 "Exception.__new__"))
    (hq : Q () ⟨h, g, d, t, os⟩) : wpAny M A (checkBuiltinCall "Exception.__new__" ⟨.ref C :: rest, []⟩) Q E ⟨h, g, d, t, os⟩ := by
  have F := PySem.F.excBase_Exception
  have hcont : (Value.ref C :: Value.ref D :: excBM).contains (.type "Exception") = true := exB _ (by decide +kernel)
  have hstar := F.noStar
  simp only [checkBuiltinCall, F.newKind, F.newSplit, F.newRow]
  repeat (first | refine wpAny_loadPart_at hC ?_ | (refine wpAny_isSubtype_exc hC ?_; rw [hcont]) | refine wpAny_staticBase_exc hC ?_ | refine wpAny_madeBy_exc hC ?_ | simp only [bne_self_eq_false, Bool.false_eq_true, if_false] | wp_step)
  exact hq
theorem exc_new {R : Result → Shared → Prop} {rest : List Value} (hC : h.get? C = some (excClassObj nm q C N bs (.ref D :: excBM) hdct sn sub ab col dd k0 k1 k2 k3 k5 "Exception.__new__"))
    (hq : R (.ok (.ret (.ref (h.objs.size + 1)))) ⟨(h.push { cls := .type "tuple", data := .seq rest.toArray }).push
      { cls := .ref C, data := .fields #[.ref h.objs.size, .none, .none, .none, .bool false, .none] }, g, d, t, os⟩) (hrest : rest.length ≤ sizeLine) :
    codeAny (model prog w) A (.builtin "Exception.__new__" ⟨.ref C :: rest, []⟩) R ⟨h, g, d, t, os⟩ := by
  have F := PySem.F.excBase_Exception
  have hends := F.ends
  have hcB : (Value.ref C :: Value.ref D :: excBM).contains (.type "Exception") = true := exB _ (by decide +kernel)
  have hcA : (Value.ref C :: Value.ref D :: excBM).contains (.type "AttributeError") = false := exB _ (by decide +kernel)
  have hcN : (Value.ref C :: Value.ref D :: excBM).contains (.type "NameError") = false := exB _ (by decide +kernel)
  refine codeAny_builtinAt F.entry ?_
  unfold Builtin.«BaseException.__new__»
  refine PySem.wpAt_bind ?_
  show PySem.wpAt _ _ _ (stack >>= _) _ _ _
  refine PySem.wpAt_bind (PySem.wpAt_stack fun p below => PySem.wpAt_of_wpAny ?_)
  wp_walk
  refine PySem.wpAt_of_wpAny ?_
  rw [F.owner]
  repeat (first | with_reducible refine wpAny_madeHere_exc F.canon hC ?_ | with_reducible refine wpAny_loadPart_at hC ?_ | (with_reducible refine wpAny_isSubtype_exc hC ?_; first | rw [hcB] | rw [hcA] | rw [hcN]) | wp_step)
  show R _ _
  rw [Heap.size_push]
  exact hq
theorem exc_type_call {rest : List Value} {fI : Addr} {Q : Fin → Shared → Prop}
    (hC : h.get? C = some (excClassObj nm q C N bs (.ref D :: excBM) hdct sn sub ab col dd k0 k1 k2 k3 k5 "Exception.__new__"))
    (hi : Looks (model prog w) h (typeLookup (.ref C) "__init__") (some (.ref fI))) (hb : ∀ self, Looks (model prog w) h (bindSpecial (.ref fI) self) (.ref fI, [self]))
    (hq : ∀ h' e, Heap.MadeExcOf h h' e (.ref C) rest →
      wpAny (model prog w) A (call (.ref fI) (.ref e :: rest)) (fun r s' => r = .none ∧ Q (.done (.ret (.ref e))) s') E ⟨h', g, d, t, os⟩) (hrest : rest.length ≤ sizeLine) :
    wpAny (model prog w) A (Builtin.«type.__call__» ⟨.ref C :: rest, []⟩) Q E ⟨h, g, d, t, os⟩ := by
  have F := PySem.F.excBase_Exception
  repeat (first | with_reducible refine wpAny_loadPart_at hC ?_ | with_reducible refine wpAny_madeBy_exc hC ?_ | wp_step)
  refine codeAny_call_builtin_code (Code.quiet_builtin _ F.quiet) (exc_check_new hC ?_)
  refine exc_new hC ?_ hrest
  show wpAny _ _ _ _ _ _
  have hk : ∀ b o, h.get? b = some o → ((h.push { cls := .type "tuple", data := .seq rest.toArray }).push
    { cls := .ref C, data := .fields #[.ref h.objs.size, .none, .none, .none, .bool false, .none] }).get? b = some o := fun b o e => Heap.get?_push_of_some _ (Heap.get?_push_of_some _ e)
  have hC₁ := hk _ _ hC
  have hi₁ := hi.keeps hk
  have hget : ((h.push { cls := .type "tuple", data := .seq rest.toArray }).push
      { cls := .ref C, data := .fields #[.ref h.objs.size, .none, .none, .none, .bool false, .none] }).get? (h.objs.size + 1) = some
      { cls := .ref C, data := .fields #[.ref h.objs.size, .none, .none, .none, .bool false, .none] } := by heap_get
  have hcC : (Value.ref C :: Value.ref D :: excBM).contains (.ref C) = true := by simp
  have hb₁ := (hb (.ref (h.objs.size + 1))).keeps hk
  unfold isInstance
  repeat (first | with_reducible refine wpAny_loadPart_at hget ?_ | (with_reducible refine wpAny_isSubtype_exc hC₁ ?_; rw [hcC]) | wp_step)
  show wpAny _ _ (typeLookup (.ref C) _) _ _ _
  refine hi₁.here ?_
  refine wpAny_holding (wpAny_bind ?_)
  refine hb₁.here ?_
  refine wpAny_bind (wpAny_mono (hq _ (h.objs.size + 1) ⟨fun b o hb => Heap.get?_push_of_some _ (Heap.get?_push_of_some _ hb), Heap.get?_none_of_le (Nat.le_succ _), h.objs.size, hget, Heap.get?_none_of_le (Nat.le_refl _), ?_⟩) (fun r s' hr => ?_) fun _ _ x => x)
  · exact Heap.get?_push_of_some _ (Heap.get?_push_at rfl rfl)
  · obtain ⟨rfl, hQ⟩ := hr
    wp_walk
    exact hQ
theorem exc_call {rest : List Value} {fI : Addr} {Q : Value → Shared → Prop}
    (hC : h.get? C = some (excClassObj nm q C N bs (.ref D :: excBM) hdct sn sub ab col dd k0 k1 k2 k3 k5 "Exception.__new__"))
    (hi : Looks (model prog w) h (typeLookup (.ref C) "__init__") (some (.ref fI))) (hb : ∀ self, Looks (model prog w) h (bindSpecial (.ref fI) self) (.ref fI, [self]))
    (hq : ∀ h' e, Heap.MadeExcOf h h' e (.ref C) rest →
      wpAny (model prog w) (A.under (.builtin "type.__call__" ⟨.ref C :: rest, []⟩)) (call (.ref fI) (.ref e :: rest)) (fun r s' => r = .none ∧ Q (.ref e) s') E ⟨h', g, d, t, os⟩) (hrest : rest.length ≤ sizeLine) :
    wpAny (model prog w) A (call (.ref C) rest) Q E ⟨h, g, d, t, os⟩ := by
  have f1 := tc_lookup
  have f2 := tc_bind (.ref C)
  have hT : (⟨h, g, d, t, os⟩ : Shared).TypeIs (.ref C) "type" := ⟨_, hC, rfl⟩
  refine wpAny_call (codeAny_of_tree ?_)
  show wpAny _ _ (callAny (.ref C) _) _ _ _
  repeat (any_goals (first | assumption | with_reducible refine wpAny_loadPart_at hC ?_ | wp_step))
  refine ⟨rfl, ?_⟩
  refine codeAny_call_builtin_at (Code.quiet_builtin _ (by decide +kernel)) entry_typeCall (wpAny_check_type_call_sub hC (exc_type_call (hrest := hrest) hC hi hb fun h' e hm => ?_))
  exact hq h' e hm
/-- a base's own __init__, called by hand -/
theorem exc_base_init {e tp : Addr} {rest : List Value} {Q : Value → Shared → Prop}
    (hC : h.get? C = some (excClassObj nm q C N bs (.ref D :: excBM) hdct sn sub ab col dd k0 k1 k2 k3 k5 "Exception.__new__"))
    (he : h.get? e = some { cls := .ref C, data := .fields #[.ref tp, .none, .none, .none, .bool false, .none] })
    (hq : Q .none ⟨(h.push { cls := .type "tuple", data := .seq rest.toArray }).update e (Obj.mapFields (·.setIfInBounds 0 (.ref h.objs.size))), g, d, t, os⟩) (hrest : rest.length ≤ sizeLine) :
    wpAny (model prog w) A (call (.builtin "Exception.__init__") (.ref e :: rest)) Q E ⟨h, g, d, t, os⟩ := by
  have F := PySem.F.excBase_Exception
  have hcB : (Value.ref C :: Value.ref D :: excBM).contains (.type "Exception") = true := exB _ (by decide +kernel)
  have hshort := F.noStar
  refine wpAny_call (codeAny_call_builtin F.init.plain F.initEntry ?_)
  simp only [checkBuiltinCall, F.initKind, F.initSplit, F.initRow]
  repeat (first | (with_reducible refine wpAny_loadPart_at he ?_) | with_reducible refine wpAny_loadPart_at hC ?_ | (with_reducible refine wpAny_isSubtype_exc hC ?_; rw [hcB]) | wp_step)
  refine wpAny_onRaise ?_
  rw [show ∀ (a b : String) (n : Nat), Bind.check ⟨.positional, "*", "Exception", .self, [⟨"args", .varPos, false⟩]⟩ a b n (List.map (fun x => x.fst) ({ pos := Value.ref e :: rest } : Args).kw) = pure () from
    fun a b n => check_star_args _ _ _ _ _ _]
  refine wpAny_pure ?_
  wp_walk
  exact hq
end
/-- a class of exceptions, one own base above it -/
noncomputable def exOk (K : Frag) (C D : Addr) : Bool := match K.lookup C with
  | some o => (match o.data with
    | .cls cd => o.cls == .type "type" && cd.mro == (.ref C :: .ref D :: excBM) && !cd.hasDel && cd.hasDict && o.slots.toList == [o.slots.getD 0 none, o.slots.getD 1 none, o.slots.getD 2 none, o.slots.getD 3 none, some (.builtin "Exception.__new__"), o.slots.getD 5 none]
    | _ => false)
  | none => false
theorem exOk_lk {K : Frag} {C D : Addr} (q : exOk K C D = true) : ∃ nm qn N bs sn sub ab col dd k0 k1 k2 k3 k5,
    K.lookup C = some (excClassObj nm qn C N bs (.ref D :: excBM) true sn sub ab col dd k0 k1 k2 k3 k5 "Exception.__new__") := by
  unfold exOk at q
  cases ho : K.lookup C with
  | none => rw [ho] at q; cases q
  | some o =>
    rw [ho] at q
    obtain ⟨oc, dd, dat, sl⟩ := o
    cases dat with
    | cls cd =>
      simp only [Bool.and_eq_true, beq_iff_eq, Bool.not_eq_true'] at q
      obtain ⟨⟨⟨⟨h1, h2⟩, h3⟩, h4⟩, h5⟩ := q
      obtain ⟨nm, bs, mro, ns, qn, hd, sn, sub, ab, col, del⟩ := cd
      generalize sl.getD 0 none = k0 at h5
      generalize sl.getD 1 none = k1 at h5
      generalize sl.getD 2 none = k2 at h5
      generalize sl.getD 3 none = k3 at h5
      generalize sl.getD 5 none = k5 at h5
      obtain ⟨l⟩ := sl
      dsimp only at h1 h2 h3 h4 h5
      subst h1 h2 h3 h4 h5
      exact ⟨nm, qn, ns, bs, sn, sub, ab, col, dd, k0, k1, k2, k3, k5, rfl⟩
    | _ => cases q
theorem exOk_cls {K : Frag} {h : Heap} {C D : Addr} (X : K.In h) (q : exOk K C D = true) : ∃ nm qn N bs sn sub ab col dd k0 k1 k2 k3 k5,
    h.get? C = some (excClassObj nm qn C N bs (.ref D :: excBM) true sn sub ab col dd k0 k1 k2 k3 k5 "Exception.__new__") := by
  obtain ⟨nm, qn, N, bs, sn, sub, ab, col, dd, k0, k1, k2, k3, k5, e⟩ := exOk_lk q
  exact ⟨nm, qn, N, bs, sn, sub, ab, col, dd, k0, k1, k2, k3, k5, X _ _ e⟩
theorem exOk_mro {K : Frag} {C D : Addr} (q : exOk K C D = true) : ∃ cd, clsIn K C = some cd ∧ cd.mro = .ref C :: .ref D :: excBM ∧ cd.hasDict = true := by
  obtain ⟨nm, qn, N, bs, sn, sub, ab, col, dd, k0, k1, k2, k3, k5, e⟩ := exOk_lk q
  exact ⟨_, by unfold clsIn; rw [e], rfl, rfl⟩
noncomputable abbrev exObj (C t : Addr) (dd : Option Addr) : Obj := { cls := .ref C, dict := dd, data := .fields #[.ref t, .none, .none, .none, .bool false, .none] }
noncomputable def whyObj (w : World) (x : Str) (tx tk : Tok) : Obj := Obj.putName "why" (PyData.keyHash w.params "why") (.str "why" tk) (.str x tx) emptyDict
section
variable {prog : Program} {w : World} {A : Around} {E : Value → Shared → Prop} {s : Shared} {K : Frag} {C D e t0 : Addr} {h₀ : Heap} {L : Addr} {m : Str → Option Value} {news : List (Addr × Obj)}
theorem ex_init {rest : List Value} {Q : Value → Shared → Prop} (F : Fr h₀ L s.heap m) (N : News h₀ L s.heap [(e, exObj C t0 none)]) (X : K.In s.heap) (q : exOk K C D = true) (hrest : rest.length ≤ sizeLine)
    (h : ∀ h' t1, Fr h₀ L h' m → News h₀ L h' [(e, exObj C t1 none), (t1, { cls := .type "tuple", data := .seq rest.toArray })] → (∀ b o, s.heap.get? b = some o → b ≠ e → h'.get? b = some o) → s.heap.get? t1 = none → Q .none { s with heap := h' }) :
    wpAny (model prog w) A (call (.builtin "Exception.__init__") (.ref e :: rest)) Q E s := by
  obtain ⟨nm, qn, N', bs, sn, sub, ab, col, dd, k0, k1, k2, k3, k5, hC⟩ := exOk_cls X q
  obtain ⟨hh, g, d, t, os⟩ := s
  have he := (N _ (.head _)).1
  have hes : hh.objs.size ≠ e := Nat.ne_of_gt (Heap.lt_size he)
  have N1 : News h₀ L (hh.push { cls := .type "tuple", data := .seq rest.toArray }) [(e, exObj C t0 none), (hh.objs.size, { cls := .type "tuple", data := .seq rest.toArray })] :=
    News.sub (N.push F _) (by intro p hp; simp only [List.mem_cons, List.not_mem_nil, or_false] at hp ⊢; exact hp.symm)
  obtain ⟨U1, U2⟩ := news_upd (pre := []) (post := [(hh.objs.size, { cls := .type "tuple", data := .seq rest.toArray })]) (f := Obj.mapFields (·.setIfInBounds 0 (.ref hh.objs.size))) (o' := exObj C hh.objs.size none) (F.push _) N1 (fun _ h => nomatch h)
    (by intro p hp; rw [List.mem_singleton.mp hp]; exact hes) rfl rfl
  refine exc_base_init hC he (h _ _ U1 U2 (fun b o hb hbe => ?_) (Heap.get?_none_of_le (Nat.le_refl _))) hrest
  rw [Heap.get?_update_other _ _ (Ne.symm hbe)]
  exact Heap.get?_push_of_some _ hb
end
end
section
section
variable {prog : Program} {w : World} {A : Around} {E : Value → Shared → Prop} {s : Shared} {K : Frag} {C D e t1 : Addr} {h₀ : Heap} {L : Addr} {m : Str → Option Value} {R : Result → Shared → Prop}
open Builtin Builtin.ObjectAttr in
theorem ex_osa {name : Str} {tk : Tok} {v : Value} {ox : Obj} {od : Option Obj} {cd : ClassData} (X : K.In s.heap) (I : InstAt s.heap e ox C od) (hc : clsIn K C = some cd) (hm : cd.mro = .ref C :: .ref D :: excBM) (ht : takerIn K C name = some none)
    (h : ∀ b, wpAny (model prog w) A.in1 (storeInOwnDict (.ref e) (.ref C) (.str name tk) name v b)
      (fun fin s' => match fin with | .done f => R (.ok f) s' | .again c' => c'.quiet = true ∧ codeAny (model prog w) A c' R s') (fun e s' => R (.error e) s') s) :
    codeAny (model prog w) A (.call (.builtin "object.__setattr__") ⟨[.ref e, .str name tk, v], []⟩) R s := by
  have SF := PySem.F.store_object
  have ne : cd.mro.isEmpty = false := by rw [hm]; rfl
  have sub : Looks (model prog w) s.heap (isInstance (.ref e) (.type "object")) true := I.type.andThen (looks_mroIn X (by unfold mroIn; rw [hc, Option.bind_some, if_neg (by rw [ne]; decide), hm, exB _ (b := true) (by decide +kernel)]))
  refine codeAny_call_builtin SF.slot.plain SF.entry (@check_slot (model prog w) _ _ s "object.__setattr__" "object" "__setattr__" (.ref e) [.str name tk, v] [] _ SF.kind SF.split sub (SF.args (.ref e) (.str name tk) v) ?_)
  obtain ⟨attr, ha, hr⟩ := Option.bind_eq_some_iff.mp ht
  have hmr : Looks (model prog w) s.heap (mroOf (.ref C)) cd.mro := (looks_clsIn X hc).andThen .now
  have L3 : Looks (model prog w) s.heap (storeTaker? attr) none := by
    cases attr with
    | none => exact .now
    | some a =>
      obtain ⟨b, hb, z⟩ := Option.map_eq_some_iff.mp hr
      refine (looks_takesIn X hb).andThen ?_
      cases b
      · exact .now
      · cases z
  rw [osa_eq, refuse_eq]
  refine wpAny_bind (wpAny_bind (I.type.here (wpAny_bind (hmr.here ?_))))
  rw [hm, refuseLoop_ref, refuseLoop_ref, PySem.F.store_Exception.passes]
  refine wpAny_pure (wpAny_bind (I.type.here (wpAny_bind ((looks_findIn X ha).here (wpAny_bind (L3.here ?_))))))
  exact h _
open Builtin Builtin.ObjectAttr in
theorem ex_set {x : Str} {tx : Tok} {post : Led} {Q : Unit → Shared → Prop} (F : Fr h₀ L s.heap m) (N : News h₀ L s.heap ((e, exObj C t1 none) :: post)) (X : K.In s.heap) (q : exOk K C D = true)
    (hs : findIn K (.ref C) "__setattr__" = some (some (.builtin "object.__setattr__"))) (ht : takerIn K C "why" = some none) (h1 : ∀ p ∈ post, p.1 ≠ e)
    (h : ∀ h' d tk tk', Fr h₀ L h' m → News h₀ L h' ((e, exObj C t1 (some d)) :: ((d, whyObj w x tx tk) :: post)) → (∀ b o, s.heap.get? b = some o → b ≠ e → h'.get? b = some o) → s.heap.get? d = none → Q () { s with heap := h', toks := tk' }) :
    wpAny (model prog w) A (setAttr (.ref e) "why" (.str x tx)) Q E s := by
  obtain ⟨nm, qn, N', bs, sn, sub, ab, col, dd, k0, k1, k2, k3, k5, hC⟩ := exOk_cls X q
  obtain ⟨cd, hc, hm, hdc⟩ := exOk_mro q
  obtain ⟨hh, g, dr, t, os⟩ := s
  have he := (N _ (.head _)).1
  have X' : K.In hh := X
  have I : InstAt hh e (exObj C t1 none) C none := ⟨he, rfl, rfl, trivial⟩
  refine set_plain X I hs (ex_osa (s := ⟨hh, g, dr, t + 1, os⟩) X I hc hm ht fun b => ?_)
  have hes : hh.objs.size ≠ e := Nat.ne_of_gt (Heap.lt_size he)
  have N1 : News h₀ L (hh.push emptyDict) ((e, exObj C t1 none) :: ((hh.objs.size, emptyDict) :: post)) :=
    News.sub (N.push F emptyDict) (by intro p hp; simp only [List.mem_cons] at hp ⊢; rcases hp with h | h | h <;> simp [h])
  obtain ⟨U1, U2⟩ := news_upd (pre := []) (post := (hh.objs.size, emptyDict) :: post) (f := fun o => { o with dict := some hh.objs.size }) (o' := exObj C t1 (some hh.objs.size)) (F.push _) N1 (fun _ h => nomatch h)
    (by intro p hp; rcases List.mem_cons.mp hp with rfl | hp; exact hes; exact h1 p hp) rfl rfl
  have hpd : ∀ p ∈ post, p.1 ≠ hh.objs.size := fun p hp => Nat.ne_of_lt (Heap.lt_size (N p (.tail _ hp)).1)
  obtain ⟨V1, V2⟩ := news_upd (pre := [(e, exObj C t1 (some hh.objs.size))]) (post := post) (f := Obj.putName "why" (PyData.keyHash w.params "why") (.str "why" (t + 1)) (.str x tx)) (o' := whyObj w x tx (t + 1)) U1 U2
    (by intro p hp; rw [List.mem_singleton.mp hp]; exact Ne.symm hes) hpd rfl rfl
  have hx1 := (N1 _ (.head _)).1
  have hD := (U2 _ (.tail _ (.head _))).1
  have hD' := (V2 _ (.tail _ (.head _))).1
  refine wpAny_bind (wpAny_pure (wpAny_bind (wpAny_bind (wpAny_loadPart he (wpAny_bind ( (looks_clsIn X' hc).here ?_))))))
  rw [hdc]
  show wpAny _ _ (alloc _ >>= _) _ _ _
  refine wpAny_bind (wpAny_alloc' ?_)
  refine wpAny_bind (wpAny_update' hx1 ?_)
  refine wpAny_pure (wpAny_bind ?_)
  unfold newKeyGuard
  refine wpAny_pure (wpAny_bind ?_)
  unfold nsSet
  refine wpAny_bind (wpAny_bind (wpAny_askSetting (wpAny_pure (wpAny_bind (wpAny_mkText (wpAny_bind (wpAny_loadPart hD ?_)))))))
  dsimp only
  rw [aRefKeyMayBeTheName_at, show ((!(#[] : Array DictEntry).any (·.key.isStr "why") && (#[] : Array DictEntry).any (·.refKey)) = false) from by simp]
  refine wpAny_updatePart hD ?_
  refine wpAny_bind (wpAny_lookBehind hD' (pastItsLine_dict (by rw [sizeLine_eq]; show 1 ≤ _; omega)) ?_)
  refine wpAny_pure (h _ _ _ _ V1 V2 (fun b o hb hbe => ?_) (Heap.get?_none_of_le (Nat.le_refl _)))
  have hbd : hh.objs.size ≠ b := Nat.ne_of_gt (Heap.lt_size hb)
  rw [Heap.get?_update_other _ _ hbd, Heap.get?_update_other _ _ (Ne.symm hbe)]
  exact Heap.get?_push_of_some _ hb
end
end
theorem ex51 (w : World) : exOk (hd.heap_1_39 w.params) 51 38 = true := by kernel_rfl
set_option maxHeartbeats 0 in
theorem einit_spec (w : World) (e t0 : Addr) (x : Str) (tx : Tok) :
    Spec w 2 35 [.ref e, .str x tx] [(e, exObj 51 t0 none)] (fun r led' => r = .none ∧ ∃ t1 D tk, led' = [(e, exObj 51 t1 (some D)), (D, whyObj w x tx tk), (t1, tupObj [.str x tx])]) := by
  w_top off
  k_with_none
  k_with "room" => (first | exact rmS2 (by assumption) (by decide) | exact rmS3 (by assumption) (by decide) | exact rmS4 (by assumption) (by decide) | exact rm2 (by assumption) (by decide) | exact rm0 (by assumption) | exact rm1 (by assumption) (by decide) | (dsimp +zetaDelta only; ktr_room))
  k_with "units" => (first | exact cl3 (by assumption) (by decide) | exact um2 (by assumption) (by decide) | exact um1 (by assumption) (by decide) | (dsimp +zetaDelta only; ktr_units))
  k_with "is_list" => (exact News.isList (by k_asm) (by k_mem))
  k_with "st" => (first | ((fail_if_success (fail_if_success k_unfold)); refine (?_ : wpAny _ _ _ _ _ _)) | (k_unfold; (try dsimp only)) | (k_end; wrow_close) | walk1 | (dsimp only; walk1) | (leave1; walk_say "STEP leave1"; try dsimp only) | fail "no step")
  k_with "om" => (first | assumption | with_reducible rfl | decide | exact Nat.le_trans (by assumption) (by decide) | exact Nat.lt_of_le_of_lt (by assumption) (by decide) | ((repeat (with_reducible rename _ ∧ _ => om9; clear om9)); first | ((repeat (with_reducible rename _ ≠ _ => om9; clear om9)); (repeat (with_reducible rename @Eq Nat _ _ => om9; clear om9)); (repeat (with_reducible rename @Eq Int _ _ => om9; clear om9)); omega +splitNatSub) | omega +splitNatSub))
  k_with "fold" => ((fail_if_success (fail_if_success k_fold)); refine fold_QES ?_; intro _ _ _ _)
  k_with "kne" => (first | ((refine (?_ : @Ne Nat _ _)); first | assumption | exact Ne.symm (by assumption) | k_extra "ne") | (refine neN ?_; (try dsimp only); first | assumption | exact Ne.symm (by assumption) | k_extra "ne" | omega))
  k_with "tb" => (repeat (first | exact List.forall_mem_nil _ | refine List.forall_mem_cons.mpr ⟨rfl, ?_⟩))
  k_with "ne" => with_reducible (first | exact na0 (by assumption) | exact ns0 (by assumption) | exact na1 (by assumption) | exact ns1 (by assumption) | exact na2 (by assumption) | exact ns2 (by assumption) | exact na3 (by assumption) | exact ns3 (by assumption) | exact na4 (by assumption) | exact ns4 (by assumption) | exact na5 (by assumption) | exact ns5 (by assumption) | exact na6 (by assumption) | exact ns6 (by assumption) | exact na7 (by assumption) | exact ns7 (by assumption) | exact na8 (by assumption) | exact ns8 (by assumption) | exact na9 (by assumption) | exact ns9 (by assumption) | exact na10 (by assumption) | exact ns10 (by assumption) | exact na11 (by assumption) | exact ns11 (by assumption) | exact na12 (by assumption) | exact ns12 (by assumption) | exact na13 (by assumption) | exact ns13 (by assumption) | exact na14 (by assumption) | exact ns14 (by assumption) | exact na15 (by assumption) | exact ns15 (by assumption))
  k_with "execs cons" => ((try ((fail_if_success (fail_if_success k_fold)); refine fold_QE ?_; intro _ _)); refine ex_consA ?_; intro _ _ _ _; (try (with_reducible rename News _ _ _ _ => kN'9; dsimp only at kN'9)); (try (with_reducible rename Fr _ _ _ _ => kF'9; refine f_let kF'9 ?_; clear kF'9; intro _ _)))
  k_with "LeaveH" => (refine' leaveH_ ?k1'9 ?k2'9 ?_; (case k1'9 => k_asm); (case k2'9 => k_asm); k_whole; intro _ _ _ _)
  k_with "pyIter ref" => ((with_reducible show wpAny _ _ (pyIter _) (fun it s₂ => LoopAtV _ _ _ _ _ _ _ _ _ it s₂) _ _); refine Stop.mk ?_)
  k_with "pyIter str" => ((with_reducible show wpAny _ _ (pyIter _) (fun it s₂ => LoopAtV _ _ _ _ _ _ _ _ _ it s₂) _ _); refine Stop.mk ?_)
  k_with "call ref" => (k_extra "mine call")
  k_with "call builtin:len" => (k_here; (with_reducible show wpAny _ _ (call (Value.builtin "len") [Value.ref _]) _ _ _); (with_unfolding_all refine' len_listN ?k1'9 ?k2'9 ?_; (case k1'9 => is_list); (case k2'9 => omega); k_whole))
  k_with "subscriptTail" => (k_here; (with_reducible show wpAny _ _ (subscriptTail _ _ (Value.ref _) (Value.int _ _)) _ _ _); (with_unfolding_all refine' sign_item ?k1'9 ?k2'9 ?k3'9 ?k4'9 ?k5'9 ?_; (case k1'9 => is_list); (case k2'9 => assumption); (case k3'9 => assumption); (case k4'9 => (push_cast; omega)); (case k5'9 => omega); k_whole); intro _)
  k_with "subscriptTail" => (k_here; (with_reducible show wpAny _ _ (subscriptTail _ _ (Value.str _ _) (Value.int _ _)) _ _ _); (with_unfolding_all refine' char_item ?k1'9 ?k2'9 ?k3'9 ?_; (case k1'9 => assumption); (case k2'9 => (push_cast; omega)); (case k3'9 => omega); k_whole))
  k_with "TurnL" => (refine TurnL.ret ?_; (try dsimp only))
  k_with "subscriptTail Name Name str int" => (k_here; (with_reducible show wpAny _ _ (subscriptTail _ _ (Value.str _ _) (Value.int _ _)) _ _ _); (with_unfolding_all refine' char_item ?k1'9 ?k2'9 ?k3'9 ?_; (case k1'9 => assumption); (case k2'9 => (push_cast; omega)); (case k3'9 => omega); k_whole))
  k_with "exec For Name Name cons nil" => (k_here; (rename Fr _ _ _ _ => lF'9); (with_unfolding_all refine' For_invVF lF'9 ?k1'9 ?k2'9 ?_; (case k1'9 => exact rfl); (case k2'9 => exact rfl); k_whole))
  k_with "call builtin:list.append" => (k_here; (with_reducible show wpAny _ _ (call (Value.builtin _) [Value.ref _, _]) _ _ _); k_dflt (refine' append_K ?k1'9 ?k2'9 ?k3'9 ?_ ?z'9; (case k1'9 => k_asm); (case k2'9 => k_asm); (case k3'9 => k_upd); (case z'9 => assumption); k_whole); intro _ _ _; (try k_sweep))
  k_with "eval BinOp" => k_extra "fold"
  k_with "eval Call" => k_extra "fold"
  k_with "eval List" => k_extra "fold"
  k_with "eval Tuple" => k_extra "fold"
  k_with "eval Subscript" => k_extra "fold"
  k_with "eval Compare" => k_extra "fold"
  k_with "eval BoolOp" => k_extra "fold"
  k_with "getMethod type:Exception" => (k_here; refine' method_type ?F'9 ?X'9 ?m'9 (by decide +kernel) ?e'9 ?h'9 ?_; (case F'9 => k_asm); (case X'9 => k_asm); (case m'9 => kernel_rfl); (case e'9 => k_dflt k_is); (case h'9 => k_handed))
  unfold Spec
  intro mg mb mean dp un gd cn cs a ccd cl outer A₀ base h₀ L m s Q E B F X N T hk hroom hun hret
  refine wpAny_call ?_
  k_dflt (refine' enterH ?k1'9 ?k2'9 ?k3'9 ?k4'9 ?k5'9 ?kA'9 ?kF'9 ?kK'9 ?k6'9 ?k7'9 ?k8'9 ?k9'9 ?kB'9 ?_ ?c2'9 ?c3'9 ?c4'9 ?c5'9; (case kA'9 => exact rfl); (case kF'9 => exact rfl); (case kK'9 => assumption); (case k1'9 => k_asm); (case k2'9 => k_asm); (case k3'9 => k_asm); (case k4'9 => k_asm); (case k5'9 => k_asm); (case k6'9 => k_is); (case k7'9 => k_is); (case k8'9 => (first | exact rm0 (by assumption) | exact rm1 (by assumption) (by decide) | k_extra "room" | ktr_room)); (case k9'9 => first | exact BindsTo.of_eq rfl | exact binds_K (by k_in) rfl (by k_is) rfl rfl rfl | exact hbind9 _ (by k_in)); (case c5'9 => decide); (case kB'9 => exact locs rfl); (case c2'9 => exact rfl); (case c3'9 => exact rfl); (case c4'9 => exact rfl); k_whole; intro _ _ _ _ _ _ _ _ l1'9; (try k_lt l1'9); (try dsimp only); (with_reducible refine (?_ : wpAny _ _ _ _ _ _)); (try ((fail_if_success (fail_if_success k_fold)); refine fold_QE ?_; intro _ _)); (try (revert l1'9; intro _)))
  k_steps
  rename News _ _ _ _ => NN
  k_dflt (refine ex_init (D := 38) (rest := [.str x tx]) (by k_asm) (by k_asm) (by k_in) (ex51 w) (by size_fits) ?_)
  intro h1 t1 F1 N1 S1 f1
  (try dsimp only)
  k_steps
  k_dflt (refine ex_set (D := 38) (w := w) (by k_asm) (by k_asm) (by k_in) (ex51 w) (by k_is) (by k_is) ?_ ?_)
  · intro p hp
    rw [List.mem_singleton.mp hp]
    intro e1
    have z := (NN _ (.head _)).1
    rw [← e1, f1] at z
    cases z
  intro h2 d2 tk2 tk3 F2 N2 S2 f2
  (try dsimp only)
  k_steps
  exact hret _ _ _ _ (by assumption) (by assumption) (by assumption) (by assumption) ⟨rfl, _, _, _, rfl⟩
section
section
variable {prog : Program} {w : World} {A : Around} {E : Value → Shared → Prop} {s : Shared} {K : Frag} {x C : Addr} {ox : Obj} {od : Option Obj} {name : Str} {expr : Bool} {v : Value}
theorem exga_run {tk : Tok} {Q : Fin → Shared → Prop} (X : K.In s.heap) (I : InstAt s.heap x ox C od) (hf : findObj K C od name = some (.value v)) (h : Q (.done (.ret v)) s) :
    wpAny (model prog w) A (Builtin.«object.__getattribute__» ⟨[.ref x, .str name tk], []⟩) Q E s := by
  obtain ⟨hh', g, d, t, os⟩ := s
  have L0 := I.type (M := model prog w)
  have L1 := looks_find (M := model prog w) X I hf
  unfold Builtin.«object.__getattribute__»
  refine wpAny_bind (wpAny_pure (wpAny_bind (wpAny_pure (wpAny_bind (L0.at (wpAny_bind (L1.at ?_)))))))
  exact wpAny_pure h
/-- what an exception's own dict bears is read -/
theorem ex_get {Q : Value → Shared → Prop} (X : K.In s.heap) (I : InstAt s.heap x ox C od) (hga : findIn K (.ref C) "__getattribute__" = some (some (.builtin "BaseException.__getattribute__"))) (hk : findIn K (.ref C) "__getattr__" = some none)
    (hb : mroIn K C (.type "BaseException") = some true) (hf : findObj K C od name = some (.value v)) (hh : handedIn v = true) (h : Q v { s with toks := s.toks + 1 }) :
    wpAny (model prog w) A (getAttr (.ref x) name expr) Q E s := by
  have ht := I.type (M := model prog w)
  have SL := PySem.F.excAttr_ValueError.ga
  refine wpAny_bind (wpAny_mkText (wpAny_holding (wpAny_bind (ht _ _ _ _ (fun _ _ e => e) (wpAny_bind (looks_findIn X hga _ _ _ _ (fun _ _ e => e) ?_))))))
  dsimp only
  rw [show (onTheHeap (Value.ref C) && Value.builtin "BaseException.__getattribute__" == Value.builtin "object.__getattribute__") = false from by rw [show (Value.builtin "BaseException.__getattribute__" == Value.builtin "object.__getattribute__") = false from by decide +kernel, Bool.and_false], if_neg (by decide)]
  refine wpAny_bind ((looks_findIn X hk) _ _ _ _ (fun _ _ e => e) (wpAny_bind (wpAny_attempt (wpAny_holding ?_))))
  unfold callGetattribute
  rw [show (expr && onTheHeap (Value.builtin "BaseException.__getattribute__")) = false from Bool.and_false _, if_neg (by decide)]
  unfold boundAndCalled
  rw [SL.bind]
  refine wpAny_bind (wpAny_pure ?_)
  show wpAny _ _ (call (.builtin "BaseException.__getattribute__") [.ref x, .str name s.toks]) _ _ _
  refine wpAny_call ?_
  refine codeAny_call_builtin SL.plain PySem.F.entry_bexc_ga ?_
  refine @check_slot (model prog w) _ _ { s with toks := s.toks + 1 } "BaseException.__getattribute__" "BaseException" "__getattribute__" (.ref x) [.str name s.toks] [] _ (by decide +kernel) (by decide +kernel) (ht.andThen (looks_mroIn X hb)) (PySem.F.args_bexc_ga (.ref x) (.str name s.toks)) ?_
  refine exga_run (s := { s with toks := s.toks + 1 }) X I hf ?_
  show wpAny _ _ (handedOut v) _ _ _
  rw [handedOut_of hh]; exact wpAny_pure h
end
theorem ex51_ga (w : World) : findIn (hd.heap_1_39 w.params) (.ref 51) "__getattribute__" = some (some (.builtin "BaseException.__getattribute__")) := by kernel_rfl
theorem ex51_hook (w : World) : findIn (hd.heap_1_39 w.params) (.ref 51) "__getattr__" = some none := by kernel_rfl
theorem ex51_base (w : World) : mroIn (hd.heap_1_39 w.params) 51 (.type "BaseException") = some true := by kernel_rfl
theorem ex51_why (w : World) (x : Str) (tx tk : Tok) : findObj (hd.heap_1_39 w.params) 51 (some (whyObj w x tx tk)) "why" = some (.value (.str x tx)) := by kernel_rfl
end
section
/-- what an exception in flight keeps -/
noncomputable def Kept (P : Obj → Prop) : Prop := ∀ o x, P o → P (Obj.mapFields (·.setIfInBounds 1 x) o)
noncomputable def TrP (P : Obj → Prop) (h base : Heap) (e : Addr) (fl : Value) : Prop :=
  ∃ oe vs T oT ts, h.get? e = some oe ∧ P oe ∧ oe.data = .fields vs ∧ vs[1]? = some (.ref T) ∧ base.get? T = none ∧ T ≠ e ∧ h.get? T = some oT ∧ oT.data = .fields ts ∧ ts[3]? = some fl
noncomputable def FlyP (P : Obj → Prop) (base : Heap) (l : List Env) (e : Addr) (fl : Value) (h : Heap) : Prop :=
  base.StaysIn h ∧ base.get? e = none ∧ h.FunFrames base l ∧ TrP P h base e fl
section
variable {M : Model} {A : Around} {E : Value → Shared → Prop} {s : Shared} {P : Obj → Prop} {base : Heap} {env : Env} {outer l : List Env} {L e : Addr} {Q : Unit → Shared → Prop}
theorem fly_entry {oe : Obj} {vs : Array Value} {head : Value} {hadNext : Bool} (hP : Kept P)
    (hfr : A.frames = some (env :: outer)) (hl : s.heap.FunFrames base (env :: outer)) (hf : env.frame = some L)
    (he : s.heap.get? e = some oe) (hp : P oe) (hkb : base.StaysIn s.heap) (hen : base.get? e = none) (hd : oe.data = .fields vs) (hsz : 1 < vs.size)
    (h : ∀ h', FlyP P base (env :: outer) e (rawInt L) h' → s.heap.UpToSlots h' → Q () { s with heap := h' }) :
    wpAny M A (do let a ← frameOf env; let pl ← entryPlaceOf L hadNext; let b ← EntryCells.newEntry head a .none (rawInt L) .none pl; setField (.ref e) 1 b) Q E s := by
  have hene : e ∉ (env :: outer).filterMap (·.frame) := fun hm => by
    obtain ⟨_, o, ho, hnf⟩ := hl.mem hm
    rw [he] at ho; injection ho with ho; subst ho; exact hnf vs hd
  refine wpAny_bind (wpAny_frameOf_fun hfr hl hf fun h₁ hs₁ => ?_)
  refine wpAny_bind (wpAny_entryPlaceOf fun pl hpl => ?_)
  unfold EntryCells.newEntry newFields
  refine wpAny_bind (wpAny_newObj_type ?_ (hpl.sizeOk5 _ _ _ _ _))
  have he₁ : h₁.get? e = some oe := (hs₁.2.1 e hene).trans he
  have kb₁ : base.StaysIn h₁ := fun b o hbo => (hs₁.2.1 b fun hm => by rw [(hl.mem hm).1] at hbo; cases hbo).trans (hkb b o hbo)
  have he₂ := Heap.get?_push_of_some (h := h₁) { cls := .type "traceback", dict := none, data := .fields ([head, .ref L, .none, rawInt L, .none] ++ (if pl.isEmpty then List.replicate 6 Value.none else pl)).toArray } he₁
  refine wpAny_setField he₂ hd hsz (h _ ?_ ?_)
  all_goals
    have hTe : h₁.objs.size ≠ e := Nat.ne_of_gt (Heap.lt_size he₁)
    have hd₃ := Obj.data_mapFields hd (·.setIfInBounds 1 (Value.ref h₁.objs.size))
    have he₃ := Heap.get?_update_self (Obj.mapFields (·.setIfInBounds 1 (Value.ref h₁.objs.size))) he₂ (Obj.isFreed_of_fields hd₃)
    have hT₃ := (Heap.get?_update_other (h₁.push { cls := .type "traceback", dict := none, data := .fields ([head, .ref L, .none, rawInt L, .none] ++ (if pl.isEmpty then List.replicate 6 Value.none else pl)).toArray })
      (Obj.mapFields (·.setIfInBounds 1 (Value.ref h₁.objs.size))) (Ne.symm hTe)).trans (Heap.get?_push_size h₁ rfl)
    have keep : ∀ b o, b ≠ e → h₁.get? b = some o →
        ((h₁.push { cls := .type "traceback", dict := none, data := .fields ([head, .ref L, .none, rawInt L, .none] ++ (if pl.isEmpty then List.replicate 6 Value.none else pl)).toArray }).update e (Obj.mapFields (·.setIfInBounds 1 (Value.ref h₁.objs.size)))).get? b = some o :=
      fun b o hbe hb => by
        rw [Heap.get?_update_other _ _ (Ne.symm hbe)]
        exact Heap.get?_push_of_some _ hb
    have noRecord : ∀ b o, s.heap.get? b = some o → (∀ vs, o.data ≠ .fields vs) → b ≠ e := fun b o hb hnf q => by
      rw [q, he] at hb; injection hb with hb; subst hb; exact hnf vs hd
  · refine ⟨fun b o hbo => keep b o (fun q => by rw [q, hen] at hbo; cases hbo) (kb₁ b o hbo), hen, hl.of_keeps fun b o hb hnf => ?_, ?_⟩
    · obtain ⟨sl, hs⟩ := hs₁.2.2 b o hb
      exact ⟨_, keep b _ (noRecord b o hb hnf) hs, rfl⟩
    · exact ⟨_, _, h₁.objs.size, _, _, he₃, hP _ _ hp, hd₃, by simp [hsz], kb₁.fresh, hTe, hT₃, rfl, by first | (simp; done) | (rcases hpl with rfl | ⟨_, _, _, _, _, _, _, rfl⟩ <;> simp)⟩
  · intro b o hb hnf
    obtain ⟨sl, hs⟩ := hs₁.2.2 b o hb
    exact ⟨sl, keep b _ (noRecord b o hb hnf) hs⟩
theorem fly_first {oe : Obj} {vs : Array Value} (hP : Kept P)
    (hfr : A.frames = some (env :: outer)) (hl : s.heap.FunFrames base (env :: outer)) (hf : env.frame = some L)
    (he : s.heap.get? e = some oe) (hp : P oe) (hkb : base.StaysIn s.heap) (hen : base.get? e = none) (hd : oe.data = .fields vs) (h1 : vs[1]? = some .none)
    (h : ∀ h', FlyP P base (env :: outer) e (rawInt L) h' → s.heap.UpToSlots h' → Q () { s with heap := h' }) : wpAny M A (noteFrame (.ref e) env) Q E s := by
  unfold noteFrame
  simp only [hf]
  refine wpAny_bind (wpAny_field he hd h1 ?_)
  rw [if_neg (by decide)]
  exact fly_entry hP hfr hl hf he hp hkb hen hd (Array.getElem?_eq_some_iff.mp h1).1 h
theorem fly_note (hP : Kept P) (hfr : A.frames = some (env :: outer)) (hf : env.frame = some L) (hfl : FlyP P base (env :: outer) e .none s.heap)
    (h : ∀ h', FlyP P base (env :: outer) e (rawInt L) h' → s.heap.UpToSlots h' → Q () { s with heap := h' }) : wpAny M A (noteFrame (.ref e) env) Q E s := by
  obtain ⟨hkb, hen, hl, oe, vs, T, oT, ts, he, hp, hd, h1, hnT, hTe, hT, hdT, h3⟩ := hfl
  unfold noteFrame
  simp only [hf]
  refine wpAny_bind (wpAny_field he hd h1 ?_)
  rw [if_pos (show (Value.ref T != Value.none) = true from by simp)]
  refine wpAny_bind (wpAny_field hT hdT h3 ?_)
  rw [if_neg (show ¬ ((Value.none == rawInt L) = true) from by simp [rawInt])]
  refine wpAny_bind (wpAny_setField hT hdT (Array.getElem?_eq_some_iff.mp h3).1 ?_)
  have other : ∀ b, b ≠ T → (s.heap.update T (Obj.mapFields (·.setIfInBounds 3 Value.none))).get? b = s.heap.get? b := fun b hb => Heap.get?_update_other _ _ (Ne.symm hb)
  have noRecord : ∀ b o, s.heap.get? b = some o → (∀ vs, o.data ≠ .fields vs) → b ≠ T := fun b o hb hnf q => by
    rw [q, hT] at hb; injection hb with hb; subst hb; exact hnf ts hdT
  refine fly_entry hP hfr (hl.of_keeps fun b o hb hnf => ⟨o, (other b (noRecord b o hb hnf)).trans hb, rfl⟩) hf ((other e (Ne.symm hTe)).trans he) hp
    (fun b o hbo => (other b fun q => by rw [q, hnT] at hbo; cases hbo).trans (hkb b o hbo)) hen hd (Array.getElem?_eq_some_iff.mp h1).1
    fun h' x y => h h' x fun b o hb hnf => y b o ((other b (noRecord b o hb hnf)).trans hb) hnf
theorem fly_land {fl : Value} (hfl : FlyP P base l e fl s.heap) (h : ∀ h', FlyP P base l e .none h' → s.heap.UpToSlots h' → Q () { s with heap := h' }) : wpAny M A (setFlight (.ref e) none) Q E s := by
  obtain ⟨hkb, hen, hl, oe, vs, T, oT, ts, he, hp, hd, h1, hnT, hTe, hT, hdT, h3⟩ := hfl
  have hsz3 : 3 < ts.size := (Array.getElem?_eq_some_iff.mp h3).1
  have other : ∀ b, b ≠ T → (s.heap.update T (Obj.mapFields (·.setIfInBounds 3 ((none : Option Addr).elim Value.none fun f => rawInt f)))).get? b = s.heap.get? b :=
    fun b hb => Heap.get?_update_other _ _ (Ne.symm hb)
  have noRecord : ∀ b o, s.heap.get? b = some o → (∀ vs, o.data ≠ .fields vs) → b ≠ T := fun b o hb hnf q => by
    rw [q, hT] at hb; injection hb with hb; subst hb; exact hnf ts hdT
  unfold setFlight
  refine wpAny_bind (wpAny_field he hd h1 ?_)
  rw [if_pos (show (Value.ref T != Value.none) = true from by simp)]
  refine wpAny_setField hT hdT hsz3 (h _ ⟨fun b o hbo => (other b fun q => by rw [q, hnT] at hbo; cases hbo).trans (hkb b o hbo), hen,
    hl.of_keeps fun b o hb hnf => ⟨o, (other b (noRecord b o hb hnf)).trans hb, rfl⟩, ?_⟩ fun b o hb hnf => ⟨o.slots, (other b (noRecord b o hb hnf)).trans hb⟩)
  exact ⟨oe, vs, T, _, _, (other e (Ne.symm hTe)).trans he, hp, hd, h1, hnT, hTe, Heap.get?_update_self _ hT (Obj.isFreed_of_fields (Obj.data_mapFields hdT _)), Obj.data_mapFields hdT _, by simp [hsz3]⟩
theorem FlyP.pop {fl : Value} {h : Heap} (x : FlyP P base (env :: outer) e fl h) : FlyP P base outer e fl h := by
  obtain ⟨a, b, ⟨_, _, c⟩, d⟩ := x
  exact ⟨a, b, c, d⟩
/-- a frame is left by an exception just made -/
theorem fly_leave1 {oe : Obj} {vs : Array Value} (hP : Kept P)
    (hfr : A.frames = some (env :: outer)) (hl : s.heap.FunFrames base (env :: outer)) (hf : env.frame = some L)
    (he : s.heap.get? e = some oe) (hp : P oe) (hkb : base.StaysIn s.heap) (hen : base.get? e = none) (hd : oe.data = .fields vs) (h1 : vs[1]? = some .none)
    (h : ∀ h', FlyP P base outer e .none h' → s.heap.UpToSlots h' → Q () { s with heap := h' }) : wpAny M A (leaving env (.ref e)) Q E s := by
  unfold leaving
  refine wpAny_bind (fly_first hP hfr hl hf he hp hkb hen hd h1 fun h' x y => ?_)
  exact fly_land (s := { s with heap := h' }) x fun h'' x' y' => h h'' x'.pop (y.trans y')
/-- .. and by one on its way -/
theorem fly_leave2 (hP : Kept P) (hfr : A.frames = some (env :: outer)) (hf : env.frame = some L) (hfl : FlyP P base (env :: outer) e .none s.heap)
    (h : ∀ h', FlyP P base outer e .none h' → s.heap.UpToSlots h' → Q () { s with heap := h' }) : wpAny M A (leaving env (.ref e)) Q E s := by
  unfold leaving
  refine wpAny_bind (fly_note hP hfr hf hfl fun h' x y => ?_)
  exact fly_land (s := { s with heap := h' }) x fun h'' x' y' => h h'' x'.pop (y.trans y')
end
end
section
noncomputable def RaisedP (P : Obj → Prop) (base G : Heap) (l : List Env) (e : Addr) (news : Led) (h : Heap) : Prop :=
  ∃ B, base.StaysIn B ∧ (∀ b o, G.get? b = some o → b ∉ l.filterMap (·.frame) → B.get? b = some o) ∧ (∀ q ∈ news, B.get? q.1 = some q.2 ∧ G.get? q.1 = none ∧ base.get? q.1 = none) ∧ FlyP P B l e .none h
section
variable {M : Model} {A : Around} {E : Value → Shared → Prop} {s' : Shared} {P : Obj → Prop} {base g g₂ : Heap} {outer : List Env} {L a e : Addr} {m : Str → Option Value} {name : Str} {scope : Scope} {cd : Value} {Q : Unit → Shared → Prop} {news : Led}
theorem leave_raiseP {oe : Obj} {vs : Array Value} (hP : Kept P) (K : Below A base outer g) (F : Fr g L s'.heap m) (N : News g L s'.heap news) (Ne : News g L s'.heap [(e, oe)]) (hp : P oe) (hd : oe.data = .fields vs) (h1 : vs[1]? = some .none) (hne : ∀ q ∈ news, q.1 ≠ e)
    (hQ : ∀ h', RaisedP P base g outer e news h' → g.UpToSlots h' → Q () { s' with heap := h' }) (hk : scope.kind = .function := by rfl) :
    wpAny M (A.deeper (envOf name scope L a cd)) (leaving (envOf name scope L a cd) (.ref e)) Q E s' := by
  have K' := K.push (name := name) (a := a) (cd := cd) F hk
  obtain ⟨he, heL, heg⟩ := Ne _ (.head _)
  have heb : base.get? e = none := fresh_of_stays K.stays heg
  have hin : ∀ env ∈ (envOf name scope L a cd :: outer), ∀ b, env.frame = some b → b ∈ e :: (envOf name scope L a cd :: outer).filterMap (·.frame) := fun env he b hb => .tail _ (List.mem_filterMap.mpr ⟨env, he, hb⟩)
  have st : base.StaysIn (hideAll s'.heap (e :: (envOf name scope L a cd :: outer).filterMap (·.frame))) := fun b o q => hideAll_get _ (K'.stays b o q) fun hm => by
    rcases List.mem_cons.mp hm with z | hm
    · rw [z, heb] at q; cases q
    · rw [(K'.frames.mem hm).1] at q; cases q
  have sg : ∀ b o, g.get? b = some o → b ∉ outer.filterMap (·.frame) → (hideAll s'.heap (e :: (envOf name scope L a cd :: outer).filterMap (·.frame))).get? b = some o := fun b o q nm => hideAll_get _ (F.keep b o q) fun hm => by
    rcases List.mem_cons.mp hm with z | hm
    · rw [z, heg] at q; cases q
    · rcases kts_mem hm with z | z
      · rw [z, kts_self F] at q
        cases q
      · exact nm z
  have hl : ∀ q ∈ news, (hideAll s'.heap (e :: (envOf name scope L a cd :: outer).filterMap (·.frame))).get? q.1 = some q.2 ∧ g.get? q.1 = none ∧ base.get? q.1 = none := fun q hq => by
    refine ⟨hideAll_get _ (N q hq).1 fun hm => ?_, (N q hq).2.2, fresh_of_stays K.stays (N q hq).2.2⟩
    rcases List.mem_cons.mp hm with z | hm
    · exact hne q hq z
    obtain ⟨env, he, hf⟩ := List.mem_filterMap.mp hm
    rcases List.mem_cons.mp he with rfl | he
    · exact (N q hq).2.1 (Option.some.inj hf).symm
    · obtain ⟨o, ho, _⟩ := (K.frames.mem (List.mem_filterMap.mpr ⟨env, he, hf⟩)).2
      rw [(N q hq).2.2] at ho; cases ho
  refine fly_leave1 (base := hideAll s'.heap (e :: (envOf name scope L a cd :: outer).filterMap (·.frame))) hP K'.stack (funFrames_hide K'.frames hin) rfl he hp (fun b o q => of_hideAll _ q) (hideAll_none _ (.head _)) hd h1 fun h' x y => ?_
  exact hQ h' ⟨_, st, sg, hl, x⟩ ((Heap.UpToSlots.of_keeps F.keep).trans y)
theorem leave_onP (hP : Kept P) (K : Below A base outer g) (F : Fr g L g₂ m) (R : RaisedP P base g₂ (envOf name scope L a cd :: outer) e news s'.heap) (hsm : g₂.UpToSlots s'.heap)
    (hQ : ∀ h', RaisedP P base g outer e news h' → g.UpToSlots h' → Q () { s' with heap := h' }) :
    wpAny M (A.deeper (envOf name scope L a cd)) (leaving (envOf name scope L a cd) (.ref e)) Q E s' := by
  obtain ⟨B, hB, hBG, hl, hfl⟩ := R
  refine fly_leave2 hP (Around.frames_deeper K.stack) rfl hfl fun h' x1 x2 => ?_
  refine hQ h' ⟨B, hB, fun b o q nm => hBG b o (F.keep b o q) (fun hm => by
      rcases kts_mem hm with z | z
      · rw [z, kts_self F] at q
        cases q
      · exact nm z), fun q hq => ⟨(hl q hq).1, kts_none F.keep (hl q hq).2.1, (hl q hq).2.2⟩, x1⟩ ((Heap.UpToSlots.of_keeps F.keep).trans (hsm.trans x2))
end
end
section
section
variable {prog : Program} {w : World} {A₀ : Around} {E : Value → Shared → Prop} {s' : Shared} {base g G : Heap} {outer : List Env} {L a e C : Addr} {m : Str → Option Value} {name : Str} {scope : Scope} {cd : Value}
  {n : Str} {b₀ : Stmt} {suite : List Stmt} {pos np : Pos} {rest : List ExceptHandler} {Q : Flow → Shared → Prop} {news : Led} {KF : Frag} {P : Obj → Prop}
  {p : Program} {loose : List Str} {mean : ExcName → Option Value} {mg mb : Str → Option Value} {x : Str}
theorem caughtP (hP : Kept P) (hPc : ∀ o, P o → o.cls = .ref C) (R : RaisedP P base G (envOf name scope L a cd :: outer) e news s'.heap) (F : Fr g L G m) (K : Below A₀ base outer g) (hsm : G.UpToSlots s'.heap) (XB : KF.In base) (TB : Top p loose mean mg mb base)
    (ex : nsIn KF mainGlobals x = some (some (.ref C))) (q : ktsIn KF C "BaseException" = true)
    (k : ∀ h' g' oe tk, KtsTurn (outer.filterMap (·.frame)) g g' → Fr g' L h' (fun y => if y = n then some (.ref e) else m y) → News g' L h' ((e, oe) :: news) → P oe → notCls oe = true → Below A₀ base outer g' → KF.In g' → Top p loose mean mg mb g' →
      wpAny (model prog w) ((A₀.deeper (envOf name scope L a cd)).mark (some (.ref e))) (execs (b₀ :: suite) (envOf name scope L a cd))
        (fun f s₄ => wpAny (model prog w) (A₀.deeper (envOf name scope L a cd)) (do bindName (envOf name scope L a cd) n .none; unbindBehindTheSuite (envOf name scope L a cd) n pos) (fun _ s₅ => Q f s₅) E s₄)
        (AsSuiteRaised (model prog w) ((A₀.deeper (envOf name scope L a cd)).mark (some (.ref e))) (envOf name scope L a cd) n pos (notedBy (model prog w) ((A₀.deeper (envOf name scope L a cd)).mark (some (.ref e))) (envOf name scope L a cd) (cameBackBy (model prog w) (A₀.deeper (envOf name scope L a cd)) (envOf name scope L a cd) E)))
        { s' with heap := h', toks := tk })
    (hk : scope.kind = .function := by rfl) (hlo : (envOf name scope L a cd).kindOf n = some .local := by rfl) (hx : (envOf name scope L a cd).kindOf x = some .globalImplicit := by rfl) (hd : (x == ("__debug__" : Str)) = false := by decide) :
    wpAny (model prog w) (A₀.deeper (envOf name scope L a cd)) (noteFrame (.ref e) (envOf name scope L a cd))
      (fun _ s₂ => wpAny (model prog w) (A₀.deeper (envOf name scope L a cd)) (setFlight (.ref e) none) (fun _ s₃ =>
        wpAny (model prog w) (A₀.deeper (envOf name scope L a cd)) (handleBy (.ref e) (envOf name scope L a cd) (.ExceptHandler (some (.Name x np)) (some n) (b₀ :: suite) pos :: rest)) Q E s₃) E s₂) E s' := by
  obtain ⟨B, hB, hBG, hl, hfl⟩ := R
  have hL : B.get? L = none := by
    obtain ⟨_, ⟨L', _, hf, hn', _⟩, _⟩ := hfl.2.2.1
    obtain rfl : L = L' := Option.some.inj hf
    exact hn'
  refine fly_note hP (Around.frames_deeper K.stack) rfl hfl fun h₄ hheld₄ hsm₄ => ?_
  refine fly_land (s := { s' with heap := h₄ }) hheld₄ fun h₅ hheld hsm₅' => ?_
  have hsm₅ := hsm₄.trans hsm₅'
  obtain ⟨g₅, T₅, F₅, K₅⟩ := kts_ground K F hBG hheld.1 (hsm.trans hsm₅)
  have X₅ : KF.In g₅ := XB.keeps K₅.stays
  have P₅ : TopRead p loose mg mb g₅ := topRead_of (TB.keeps K₅.stays)
  have hheld' := hheld
  obtain ⟨-, -, -, ob, -, -, -, -, hob, hobp, -⟩ := hheld'
  obtain ⟨nm, q', N, bs, bm, hdct, sn, sub, ab, col, dd, k0, k1, k2, k3, k5, newId, hC, hbase, hbT⟩ := kts_cls X₅ q
  have hC₅ := F₅.keep _ _ hC
  refine wpAny_handleBy_cons (codeAny_handlers_test (name_K F₅ X₅ P₅ ex ?_ hk hx hd)) (by intro q; cases q)
  refine wpAny_excMatches_sub_self hC₅ hob (hPc _ hobp) hbase (codeAny_handlers_suite_as ?_)
  refine fly_land (s := { s' with heap := h₅ }) hheld fun h₆ hfl₆ hsm₆ => ?_
  obtain ⟨g₆, T₆, F₆, K₆⟩ := kts_ground K F hBG hfl₆.1 ((hsm.trans hsm₅).trans hsm₆)
  have hfl₆' := hfl₆
  obtain ⟨-, -, -, oe, ws, -, -, -, hoe, hpe, hoed, -⟩ := hfl₆'
  have ne₆ : g₆.get? e = none := T₆.none_ _ (kts_fresh F hBG hfl₆.2.1 fun o ho m => by
    obtain ⟨_, o', ho', hd⟩ := K.frames.mem m
    rw [ho] at ho'
    cases ho'
    obtain ⟨sl, hs⟩ := ((hsm.trans hsm₅).trans hsm₆) _ _ (F.keep _ _ ho) hd
    rw [hoe] at hs
    cases hs
    exact hd _ hoed)
  have N₆ := News.more F₆ News.nil hoe (fun es n q => by rw [hoed] at q; cases q) ne₆
  have Nl : News g₆ L h₆ news := fun q hq => ⟨hfl₆.1 _ _ (hl q hq).1, (fun z => by have := (hl q hq).1; rw [z, hL] at this; cases this), T₆.none_ _ (kts_none F.keep (hl q hq).2.1)⟩
  have X₆ : KF.In g₆ := XB.keeps K₆.stays
  have P₆ : Top p loose mean mg mb g₆ := TB.keeps K₆.stays
  refine stN (s := { s' with heap := h₆ }) F₆ (news := (e, oe) :: news) (fun q hq => (List.mem_cons.mp hq).elim (fun z => by rw [z]; exact N₆ _ (.head _)) (Nl q)) (fun h₇ F₇ N₇ => ?_) hk hlo
  exact k h₇ g₆ oe _ T₆ F₇ N₇ hpe (by unfold notCls; rw [hoed]) K₆ X₆ P₆
end
end
section
/-- a turn's end where the ground may have changed -/
noncomputable def TurnG (L I : Addr) (oI : Obj) (J : Heap → (Str → Option Value) → Led → Prop) (s₁ : Shared) (Q : Flow → Shared → Prop) (f : Flow) (s₂ : Shared) : Prop :=
  match f with
  | .ret v => Q (.ret v) s₂
  | .brk => Q .next s₂
  | _ => ∃ g h' tk m' led', s₂ = { s₁ with heap := h', toks := tk } ∧ Fr g L h' m' ∧ News g L h' ((I, oI) :: led') ∧ (∀ p ∈ led', p.1 ≠ I) ∧ J g m' led'
section
variable {prog : Program} {w : World} {A : Around} {E : Value → Shared → Prop} {s : Shared} {env : Env} {h₀ : Heap} {x : Str} {px : Pos} {body : List Stmt} {Q : Flow → Shared → Prop}
theorem loopG {R : Result → Shared → Prop} {I : Addr} {n : Nat} {P : Nat → Value → Prop} {St : Nat → Heap → Prop} {m : Str → Option Value} {led : Led} (W : Walks prog w A I [I] [I] n P St) (hlive : ∀ i h, St i h → ∃ oI, h.get? I = some oI)
    (hx : env.kindOf x = some .local) (hp : (env.scope.kind == .class || (env.scope.kind == .module && env.locals != env.globals)) = false)
    (hL : env.locals ≠ I) (hI : h₀.get? I = none) (hn : ∀ p ∈ led, p.1 ≠ I) (hst : St 0 s.heap) (F : Fr h₀ env.locals s.heap m) (N : News h₀ env.locals s.heap led)
    (J : Nat → Heap → (Str → Option Value) → Led → Prop) (h0 : J 0 h₀ m led)
    (step : ∀ i g v m₁ led₁ h tk oI, i < n → P i v → J i g m₁ led₁ → (∀ p ∈ led₁, p.1 ≠ I) → Fr g env.locals h (fun y => if y = x then some v else m₁ y) → News g env.locals h ((I, oI) :: led₁) →
      wpAny (model prog w) A (execs body env) (TurnG env.locals I oI (J (i + 1)) { s with heap := h, toks := tk } (fun f s' => R (.ok f) s')) (notedBy (model prog w) A env fun e s' => R (.error e) s') { s with heap := h, toks := tk })
    (hR : ∀ g h' tk m' led', Fr g env.locals h' m' → News g env.locals h' led' → J n g m' led' → R (.ok .next) { s with heap := h', toks := tk }) :
    codeAny (model prog w) A (.forLoop (.Name x px) (.ref I) body [] env) R s := by
  refine codeAny_forLoop
    (fun k s' => ∃ g h' tk m' led' i, s' = { s with heap := h', toks := tk } ∧ St i h' ∧ g.get? I = none ∧ Fr g env.locals h' m' ∧ News g env.locals h' led' ∧ (∀ p ∈ led', p.1 ≠ I) ∧ J i g m' led' ∧ i ≤ n ∧ k = n + 1 - i) ?_ (n + 1)
    ⟨h₀, s.heap, s.toks, m, led, 0, rfl, hst, hI, F, N, hn, h0, Nat.zero_le _, rfl⟩
  rintro k s' ⟨g, h', tk, m', led', i, rfl, hst', hgI, F', N', hn', hJ, hi, rfl⟩
  have next : ∀ h₁ : Heap, (∀ b o, b ∉ [I] → h'.get? b = some o → h₁.get? b = some o) → Fr g env.locals h₁ m' ∧ News g env.locals h₁ led' := fun h₁ hk₁ =>
    ⟨⟨F'.ns.at' fun o e => hk₁ _ o (fun z => hL (List.mem_singleton.mp z)) e, fun b o e => hk₁ b o (fun z => by rw [List.mem_singleton.mp z, hgI] at e; cases e) (F'.keep b o e), F'.above⟩,
      fun p hp => ⟨hk₁ _ _ (fun z => hn' p hp (List.mem_singleton.mp z)) (N' p hp).1, (N' p hp).2⟩⟩
  by_cases hlt : i < n
  · refine W.item i _ _ _ hlt hst' fun v h₁ tk₁ hP hst₁ hk₁ => ?_
    obtain ⟨F₁, N₁⟩ := next h₁ hk₁
    refine wpAny_assign_Name (wpAny_storeName_local hx F₁.ns (fun h₂ hn₂ hs₂ => ?_) hp)
    have F₂ := F₁.set hn₂ hs₂
    have hst₂ : St (i + 1) h₂ := W.frame _ _ _ hst₁ fun b hb o e => (hs₂.2 b fun q => hL ((List.mem_singleton.mp hb) ▸ q.symm)).trans e
    obtain ⟨oI, hoI⟩ := hlive _ _ hst₂
    have N₂ : News g env.locals h₂ ((I, oI) :: led') := fun p hp => by
      rcases List.mem_cons.mp hp with rfl | hp
      · exact ⟨hoI, Ne.symm hL, hgI⟩
      · exact (N₁.set hs₂) p hp
    have fin : ∀ s₃, (∃ g h₃ tk m₃ led₃, s₃ = { { s with heap := h₂, toks := tk₁ + 1 } with heap := h₃, toks := tk } ∧ Fr g env.locals h₃ m₃ ∧ News g env.locals h₃ ((I, oI) :: led₃) ∧ (∀ p ∈ led₃, p.1 ≠ I) ∧ J (i + 1) g m₃ led₃) →
        ∃ k', k' < n + 1 - i ∧ ∃ g h' tk m' led' i, s₃ = { s with heap := h', toks := tk } ∧ St i h' ∧ g.get? I = none ∧ Fr g env.locals h' m' ∧ News g env.locals h' led' ∧ (∀ p ∈ led', p.1 ≠ I) ∧ J i g m' led' ∧ i ≤ n ∧ k' = n + 1 - i := by
      rintro s₃ ⟨g₃, h₃, tk₃, m₃, led₃, rfl, F₃, N₃, ha₃, hJ₃⟩
      refine ⟨n + 1 - (i + 1), by omega, g₃, h₃, tk₃, m₃, led₃, i + 1, rfl, ?_, (N₃ _ (.head _)).2.2, F₃, fun p hp => N₃ p (.tail _ hp), ha₃, hJ₃, hlt, rfl⟩
      refine W.frame _ _ _ hst₂ fun b hb o e => ?_
      rw [List.mem_singleton.mp hb] at e ⊢
      rw [hoI] at e
      cases e
      exact (N₃ _ (.head _)).1
    refine wpAny_mono (step i g v m' led' h₂ (tk₁ + 1) oI hlt hP hJ hn' F₂ N₂) (fun f s₃ h₃ => ?_) fun _ _ e => e
    cases f with
    | ret v => exact h₃
    | brk => exact h₃
    | cont => exact fin _ h₃
    | next => exact fin _ h₃
  · have : i = n := by omega
    subst this
    refine W.done _ _ _ hst' fun h₁ tk₁ hk₁ => ?_
    obtain ⟨F₁, N₁⟩ := next h₁ hk₁
    show wpAny _ _ (execs [] env) _ _ _
    rw [execs_nil]
    exact wpAny_pure (hR g h₁ tk₁ m' led' F₁ N₁ hJ)
end
section
variable {prog : Program} {w : World} {A : Around} {E : Value → Shared → Prop} {s : Shared} {env : Env} {h₀ : Heap} {x : Str} {px : Pos} {body : List Stmt} {Q : Flow → Shared → Prop}
theorem rangeG {r : Addr} {b₀ : Int} {t₀ u₀ v₀ : Tok} (n : Nat) {m : Str → Option Value} {led : Led}
    (hh : A.handled = none) (hr : IsRange s.heap r 0 b₀ 1 t₀ u₀ v₀) (hsmall : Builtin.Range.small 0 b₀ 1 = true) (hn : Builtin.Range.rangeSize 0 b₀ 1 = (n : Int))
    (F : Fr h₀ env.locals s.heap m) (N : News h₀ env.locals s.heap led)
    (J : Nat → Heap → (Str → Option Value) → Led → Prop) (h0 : J 0 h₀ m led)
    (step : ∀ i g t m₁ led₁ h tk I oI, i < n → J i g m₁ led₁ → (∀ p ∈ led₁, p.1 ≠ I) → Fr g env.locals h (fun y => if y = x then some (.int (i : Int) t) else m₁ y) → News g env.locals h ((I, oI) :: led₁) →
      wpAny (model prog w) A (execs body env) (TurnG env.locals I oI (J (i + 1)) { s with heap := h, toks := tk } Q) E { s with heap := h, toks := tk })
    (done : ∀ g h' tk m' led', Fr g env.locals h' m' → News g env.locals h' led' → J n g m' led' → Q .next { s with heap := h', toks := tk })
    (hx : env.kindOf x = some .local) (hp : (env.scope.kind == .class || (env.scope.kind == .module && env.locals != env.globals)) = false)
    (hE : PassesOwn (model prog w) A env E) :
    wpAny (model prog w) A (pyIter (.ref r)) (fun it s₂ => codeAny (model prog w) A (.forLoop (.Name x px) it body [] env) (fun r s' => match r with | .ok f => Q f s' | .error e => cameBackBy (model prog w) A env E e s') s₂) E s := by
  refine wpAny_pyIter_range hr hsmall ?_
  refine loopG (s := { s with heap := s.heap.push _ }) (n := n) (R := fun r s' => match r with | .ok f => Q f s' | .error e => cameBackBy (model prog w) A env E e s')
    (Walks.range hh _ 0 1 n) (fun i h st => ⟨_, st⟩) hx hp ?_ ?_ (fun p hp => Nat.ne_of_lt (Heap.lt_size (N p hp).1)) (by show IsRangeIter _ _ _ _ _; rw [hn]; simpa using Heap.get?_push_size _ rfl) (F.push _) (fun p hp => ⟨Heap.get?_push_of_some _ (N p hp).1, (N p hp).2⟩) J h0 ?_ ?_
  · intro e
    exact absurd F.ns.lt (e ▸ Nat.lt_irrefl _)
  · exact next_is_new F
  · rintro i g v m₁ led₁ h tk oI hin ⟨t, rfl⟩ hJ hne F' N'
    simp only [Int.mul_one, Int.zero_add] at F'
    exact wpAny_passesOwn hE (step i g t m₁ led₁ h tk _ oI hin hJ hne F' N')
  · intro g h' tk m' led' F' N' hJ
    exact done g h' tk m' led' F' N' hJ
end
end
section
section
variable {prog : Program} {w : World} {A : Around} {E : Value → Shared → Prop} {s : Shared} {env : Env}
variable {nm q : Str} {C D N : Addr} {bs : List Value} {hdct : Bool} {sn : List Str} {sub : List Value} {ab : Bool} {col : Option Bool} {dd : Option Addr} {k0 k1 k2 k3 k5 : Option Value}
theorem ex_raiseStmt {x : Sem Value} {Q : Flow → Shared → Prop} (hh : A.handled = none)
    (h : wpAny (model prog w) A x (fun v s₁ => ∃ e t d, v = .ref e ∧ s₁.heap.get? C = some (excClassObj nm q C N bs (.ref D :: excBM) hdct sn sub ab col dd k0 k1 k2 k3 k5 "Exception.__new__") ∧
      s₁.heap.get? e = some (exObj C t d) ∧ E (.ref e) s₁) E s) :
    wpAny (model prog w) A (raiseStmt env (some x) none) Q E s := by
  have hcB : (Value.ref C :: Value.ref D :: excBM).contains (.type "BaseException") = true := exB _ (by decide +kernel)
  unfold raiseStmt
  refine wpAny_bind (wpAny_mono h (fun v s₁ h₁ => ?_) fun _ _ x => x)
  obtain ⟨e, t, d, rfl, hC, he, hE⟩ := h₁
  obtain ⟨hp, g, d', tk, os⟩ := s₁
  repeat (first | with_reducible refine wpAny_loadPart_at he ?_ | with_reducible refine wpAny_loadPart_at hC ?_ | (with_reducible refine wpAny_isSubtype_exc hC ?_; rw [hcB]) | wp_step)
  exact wpAny_raiseNew_none hh hE
theorem ex_Raise {x : Str} {np cpos pos : Pos} {e₀ : Expr} {rest : List Expr} {Q : Flow → Shared → Prop} (hh : A.handled = none)
    (h : wpAny (model prog w) A (eval (.Name x np) env) (fun f s₁ => f = .ref C ∧ wpAny (model prog w) A (spliced (backTo cpos (starEach (e₀ :: rest) env)))
      (fun vs s₂ => s₂.heap.get? C = some (excClassObj nm q C N bs (.ref D :: excBM) hdct sn sub ab col dd k0 k1 k2 k3 k5 "Exception.__new__") ∧
        wpAny (model prog w) A (call (.ref C) vs) (fun v s₃ => ∃ e t d, v = .ref e ∧ s₃.heap.get? C = some (excClassObj nm q C N bs (.ref D :: excBM) hdct sn sub ab col dd k0 k1 k2 k3 k5 "Exception.__new__") ∧
          s₃.heap.get? e = some (exObj C t d) ∧ E (.ref e) s₃) E s₂) E s₁) E s)
    (he : starEach (e₀ :: rest) env = (false, eval e₀ env) :: starEach rest env := by rfl)
    (hplain : (backTo cpos (starEach rest env)).any (·.1) = false := by rfl) :
    wpAny (model prog w) A (exec (.Raise (some (.Call (.Name x np) (e₀ :: rest) [] cpos)) none pos) env) Q E s := by
  have hpl : (backTo cpos (starEach (e₀ :: rest) env)).any (·.1) = false := by
    rw [he]; show (false || (backTo cpos (starEach rest env)).any (·.1)) = false; rw [hplain]; rfl
  rw [arm_exec_Raise]
  first
    | refine wpAny_bind (wpAny_standAt (ex_raiseStmt (C := C) (D := D) (nm := nm) (q := q) (N := N) (bs := bs) (hdct := hdct) (sn := sn) (sub := sub) (ab := ab) (col := col) (dd := dd) (k0 := k0) (k1 := k1) (k2 := k2) (k3 := k3) (k5 := k5) hh (wpAny_bind (wpAny_mono (wpAny_Call_ofName (wpAny_mono h (fun f s₁ h₁ => ?_) fun _ _ x => x)) (fun v s₃ h₃ => wpAny_bind (wpAny_standAt (wpAny_pure h₃))) fun _ _ x => x))))
    | (simp only [evalOpt, Option.map]; refine wpAny_bind (wpAny_standAt (ex_raiseStmt (C := C) (D := D) (nm := nm) (q := q) (N := N) (bs := bs) (hdct := hdct) (sn := sn) (sub := sub) (ab := ab) (col := col) (dd := dd) (k0 := k0) (k1 := k1) (k2 := k2) (k3 := k3) (k5 := k5) hh (wpAny_bind (wpAny_mono (wpAny_Call_ofName (wpAny_mono h (fun f s₁ h₁ => ?_) fun _ _ x => x)) (fun v s₃ h₃ => wpAny_bind (wpAny_standAt (wpAny_pure h₃))) fun _ _ x => x)))))
  obtain ⟨rfl, h₁⟩ := h₁
  have h₂ : wpAny (model prog w) A (evalArgs (.ref C) true (backTo cpos (starEach (e₀ :: rest) env)) []) (fun a s₂ => a.kw = [] ∧ s₂.heap.get? C = some (excClassObj nm q C N bs (.ref D :: excBM) hdct sn sub ab col dd k0 k1 k2 k3 k5 "Exception.__new__") ∧
        wpAny (model prog w) A (call (.ref C) a.pos) (fun v s₃ => ∃ e t d, v = .ref e ∧ s₃.heap.get? C = some (excClassObj nm q C N bs (.ref D :: excBM) hdct sn sub ab col dd k0 k1 k2 k3 k5 "Exception.__new__") ∧
          s₃.heap.get? e = some (exObj C t d) ∧ E (.ref e) s₃) E s₂) E s₁ := by
    rw [he] at h₁ ⊢
    exact Calls.evalArgs_plain (wpAny_mono h₁ (fun vs s₂ z => ⟨rfl, z.1, z.2⟩) fun _ _ y => y)
  unfold callWith
  refine wpAny_bind (wpAny_holding (wpAny_mono h₂ (fun a s₂ h₂ => wpAny_bind (wpAny_standAt ?_)) fun _ _ x => x))
  obtain ⟨apos, akw⟩ := a
  obtain ⟨hkw, hC, h₃⟩ := h₂
  obtain rfl : akw = [] := hkw
  obtain ⟨hp, g, d, tk, os⟩ := s₂
  simp only [hpl]
  refine wpAny_bind (wpAny_keeperOf_exc hC ?_)
  exact wpAny_bind (wpAny_mono h₃ (fun v s₃ z => wpAny_bind (wpAny_holding (wpAny_point (wpAny_pure z)))) fun _ _ y => y)
end
end
section
noncomputable abbrev ExP (D : Addr) (o : Obj) : Prop := o.cls = .ref 51 ∧ o.dict = some D
theorem ExP.kept (D : Addr) : Kept (ExP D) := by
  rintro ⟨c, d, da, sl⟩ x ⟨h1, h2⟩
  cases da <;> exact ⟨h1, h2⟩
/-- a call that raises Misused(text), nothing changed -/
noncomputable def RSpec (w : World) (k : Nat) (f : Addr) (args : List Value) (led : Led) (text : Str) : Prop :=
  ∀ (mg mb : Str → Option Value) (mean : ExcName → Option Value) (dp un : Nat) (gd : Option (List Code)) (cn : Str) (cs : Scope) (a : Addr) (ccd : Value) (cl : List (Str × Addr)) (outer : List Env) (A₀ : Around) (base h₀ : Heap) (L : Addr) (m : Str → Option Value) (s : Shared)
    (Q E : Value → Shared → Prop),
    Below A₀ base outer h₀ → Fr h₀ L s.heap m → (hd.heap_1_39 w.params).In h₀ → News h₀ L s.heap led → Top hd.view_1_40 (looseW hd.view_1_40 []) mean mg mb h₀ → cs.kind = .function →
    dp + k < recursionLimit → un + 10 * k < cLine →
    (∀ e D tx tk G h' tk', Fr h₀ L G m → RaisedP (ExP D) base G (envX cn cs L a ccd cl :: outer) e ((D, whyObj w text tx tk) :: led) h' → G.UpToSlots h' → E (.ref e) { s with heap := h', toks := tk' }) →
    wpAny (model PySem.Challenge.rw_nt0598_01.row.prog w) (ktrTop dp un gd cn cs L a ccd cl outer) (call (.ref f) args) Q E s
section
variable {prog : Program} {w : World} {A A₀ : Around} {s : Shared} {K : Frag} {L : Addr} {h₀ base : Heap} {m mg mb : Str → Option Value} {news : Led} {p : Program} {loose : List Str} {mean : ExcName → Option Value}
theorem enterR {env : Env} {outer : List Env} {R : Result → Shared → Prop} {name qual : Str} {params : Arguments} {body : List Stmt} {scope : Scope} {dV kV doc pm cdv ct oc : Value} {an od : Option Addr} {osl : Array (Option Value)} {f : Addr} {args : Args} {binds : List (Str × Value)}
    (B : Below A₀ base outer h₀) (F : Fr h₀ L s.heap m) (X₀ : K.In h₀) (N : News h₀ L s.heap news) (T : Top p loose mean mg mb h₀) (hA : A.frames = some (env :: outer)) (hf : env.frame = some L) (hke : env.scope.kind = .function)
    (ho : K.lookup f = some ⟨oc, od, .func (fnOf name qual params body scope dV kV doc pm an cdv ct), osl⟩) (hcd : codeIn K cdv qual = true) (hroom : A.depth < recursionLimit)
    (hbind : BindsTo s (fnOf name qual params body scope dV kV doc pm an cdv ct) args binds) (hloc : ∀ y ∈ binds, scope.names.lookup y.1 = some .local)
    (h : ∀ g L' h₁, Fr h₀ L g m → Fr g L' h₁ (fun y => binds.reverse.lookup y) → News g L' h₁ news → Below A base (env :: outer) g → K.In g → Top p loose mean mg mb g → (∀ p ∈ news, p.1 < L') →
      wpAny (model prog w) (A.deeper (envOf qual scope L' f cdv)) (execs body (envOf qual scope L' f cdv))
        (fun fl s' => LeaveH h₀ L m g s.heap (news.map (·.1)) R (match fl with | .ret v => v | _ => .none) s')
        (fun e s' => wpAny (model prog w) (A.deeper (envOf qual scope L' f cdv)) (leaving (envOf qual scope L' f cdv) e) (fun _ s'' => R (.error e) s'') (fun e' s'' => R (.error e') s'') s')
        { s with heap := h₁, toks := s.toks + binds.length })
    (hco : scope.isCoroutine = false) (hgen : scope.isGenerator = false) (hk : scope.kind = .function)
    (hcell : ∀ x ∈ scope.names, x.2 ≠ .cell) : codeAny (model prog w) A (.call (.ref f) args) R s := by
  obtain ⟨FG, BG, st, lv⟩ := groundX (R := R) B F N hA hf hke
  refine codeAny_call_def (fd := fnX name qual params body scope [] dV kV doc pm an cdv ct) (body := body) (binds := binds) hroom ((X₀.keeps F.keep) _ _ ho) rfl (T.nolimit.keeps F.keep) (codeRec_of (X₀.keeps F.keep) hcd) rfl hbind hcell hloc (fun h₁ hns hk₁ => ?_) hco hgen hk
  refine wpAny_mono (h _ s.heap.objs.size h₁ FG ⟨hns, fun b o e => hk₁ b o (of_hideAll _ e), Nat.le_of_eq (hideAll_size _ _)⟩
    (fun p hp => ⟨hk₁ _ _ (N p hp).1, Nat.ne_of_lt (Heap.lt_size (N p hp).1), hideAll_none _ (List.mem_map_of_mem hp)⟩) BG (X₀.keeps st) (T.keeps st) (fun p hp => Heap.lt_size (N p hp).1)) (fun fl s' hl => ?_) fun _ _ y => y
  obtain ⟨L', m', led', F', N', k⟩ := hl
  refine lv _ _ ⟨L', m', led', F', N', fun F₂ N₂ => k F₂ N₂ (fun b o e hb => F'.keep b o (hideAll_get _ e hb)) fun q hq => ?_⟩
  by_cases hm : q.1 ∈ news.map (·.1)
  · exact .inl hm
  · right
    cases e : s.heap.get? q.1 with
    | none => rfl
    | some o => have := (N' q hq).2.2; rw [hideAll_get _ e hm] at this; cases this
end
end
set_option maxHeartbeats 0 in
theorem step_raise (w : World) (Z : Tz) (S : Ts) (four : Bool) (O : StOk w Z four) (k : Nat) (hk4 : manyOf four ≤ k) (hk5 : k < 5) (hst : S.state = nm k) (rest : Led) :
    RSpec w 10 279 [.ref Z.t] (tzLed w Z S ++ rest) (Str.ofString "no such state") := by
  w_top off
  k_with_none
  k_with "room" => (first | exact rmS2 (by assumption) (by decide) | exact rmS3 (by assumption) (by decide) | exact rmS4 (by assumption) (by decide) | exact rm2 (by assumption) (by decide) | exact rm0 (by assumption) | exact rm1 (by assumption) (by decide) | (dsimp +zetaDelta only; ktr_room))
  k_with "units" => (first | exact cl3 (by assumption) (by decide) | exact um2 (by assumption) (by decide) | exact um1 (by assumption) (by decide) | (dsimp +zetaDelta only; ktr_units))
  k_with "is_list" => (exact News.isList (by k_asm) (by k_mem))
  k_with "st" => (first | ((fail_if_success (fail_if_success k_unfold)); refine (?_ : wpAny _ _ _ _ _ _)) | (k_unfold; (try dsimp only)) | (k_end; wrow_close) | walk1 | (dsimp only; walk1) | (leave1; walk_say "STEP leave1"; try dsimp only) | fail "no step")
  k_with "om" => (first | assumption | with_reducible rfl | decide | exact Nat.le_trans (by assumption) (by decide) | exact Nat.lt_of_le_of_lt (by assumption) (by decide) | ((repeat (with_reducible rename _ ∧ _ => om9; clear om9)); first | ((repeat (with_reducible rename _ ≠ _ => om9; clear om9)); (repeat (with_reducible rename @Eq Nat _ _ => om9; clear om9)); (repeat (with_reducible rename @Eq Int _ _ => om9; clear om9)); omega +splitNatSub) | omega +splitNatSub))
  k_with "fold" => ((fail_if_success (fail_if_success k_fold)); refine fold_QES ?_; intro _ _ _ _)
  k_with "kne" => (first | ((refine (?_ : @Ne Nat _ _)); first | assumption | exact Ne.symm (by assumption) | k_extra "ne") | (refine neN ?_; (try dsimp only); first | assumption | exact Ne.symm (by assumption) | k_extra "ne" | omega))
  k_with "tb" => (repeat (first | exact List.forall_mem_nil _ | refine List.forall_mem_cons.mpr ⟨rfl, ?_⟩))
  k_with "ne" => with_reducible (first | exact na0 (by assumption) | exact ns0 (by assumption) | exact na1 (by assumption) | exact ns1 (by assumption) | exact na2 (by assumption) | exact ns2 (by assumption) | exact na3 (by assumption) | exact ns3 (by assumption) | exact na4 (by assumption) | exact ns4 (by assumption) | exact na5 (by assumption) | exact ns5 (by assumption) | exact na6 (by assumption) | exact ns6 (by assumption) | exact na7 (by assumption) | exact ns7 (by assumption) | exact na8 (by assumption) | exact ns8 (by assumption) | exact na9 (by assumption) | exact ns9 (by assumption) | exact na10 (by assumption) | exact ns10 (by assumption) | exact na11 (by assumption) | exact ns11 (by assumption) | exact na12 (by assumption) | exact ns12 (by assumption) | exact na13 (by assumption) | exact ns13 (by assumption) | exact na14 (by assumption) | exact ns14 (by assumption) | exact na15 (by assumption) | exact ns15 (by assumption))
  k_with "ne" => with_reducible (first | (show Tz.sts _ ≠ _; first | exact zn01 (by assumption) | exact zn02 (by assumption) | exact zn03 (by assumption) | exact zn04 (by assumption) | exact zn05 (by assumption) | exact zn06 (by assumption) | exact zn07 (by assumption) | exact zn08 (by assumption)) | (show Tz.td _ ≠ _; first | exact zn10 (by assumption) | exact zn12 (by assumption) | exact zn13 (by assumption) | exact zn14 (by assumption) | exact zn15 (by assumption) | exact zn16 (by assumption) | exact zn17 (by assumption) | exact zn18 (by assumption)) | (show Tz.t _ ≠ _; first | exact zn20 (by assumption) | exact zn21 (by assumption) | exact zn23 (by assumption) | exact zn24 (by assumption) | exact zn25 (by assumption) | exact zn26 (by assumption) | exact zn27 (by assumption) | exact zn28 (by assumption)) | (show Tz.sd _ ≠ _; first | exact zn30 (by assumption) | exact zn31 (by assumption) | exact zn32 (by assumption) | exact zn34 (by assumption) | exact zn35 (by assumption) | exact zn36 (by assumption) | exact zn37 (by assumption) | exact zn38 (by assumption)) | (show Tz.st _ ≠ _; first | exact zn40 (by assumption) | exact zn41 (by assumption) | exact zn42 (by assumption) | exact zn43 (by assumption) | exact zn45 (by assumption) | exact zn46 (by assumption) | exact zn47 (by assumption) | exact zn48 (by assumption)) | (show Tz.sg _ ≠ _; first | exact zn50 (by assumption) | exact zn51 (by assumption) | exact zn52 (by assumption) | exact zn53 (by assumption) | exact zn54 (by assumption) | exact zn56 (by assumption) | exact zn57 (by assumption) | exact zn58 (by assumption)) | (show Tz.se _ ≠ _; first | exact zn60 (by assumption) | exact zn61 (by assumption) | exact zn62 (by assumption) | exact zn63 (by assumption) | exact zn64 (by assumption) | exact zn65 (by assumption) | exact zn67 (by assumption) | exact zn68 (by assumption)) | (show Tz.ou _ ≠ _; first | exact zn70 (by assumption) | exact zn71 (by assumption) | exact zn72 (by assumption) | exact zn73 (by assumption) | exact zn74 (by assumption) | exact zn75 (by assumption) | exact zn76 (by assumption) | exact zn78 (by assumption)) | (show Tz.er _ ≠ _; first | exact zn80 (by assumption) | exact zn81 (by assumption) | exact zn82 (by assumption) | exact zn83 (by assumption) | exact zn84 (by assumption) | exact zn85 (by assumption) | exact zn86 (by assumption) | exact zn87 (by assumption)))
  k_with "execs cons" => ((try ((fail_if_success (fail_if_success k_fold)); refine fold_QE ?_; intro _ _)); refine ex_consA ?_; intro _ _ _ _; (try (with_reducible rename News _ _ _ _ => kN'9; dsimp only at kN'9)); (try (with_reducible rename Fr _ _ _ _ => kF'9; refine f_let kF'9 ?_; clear kF'9; intro _ _)))
  k_with "LeaveH" => (refine' leaveH_ ?k1'9 ?k2'9 ?_; (case k1'9 => k_asm); (case k2'9 => k_asm); k_whole; intro _ _ _ _)
  k_with "pyIter ref" => ((with_reducible show wpAny _ _ (pyIter _) (fun it s₂ => LoopAtV _ _ _ _ _ _ _ _ _ it s₂) _ _); refine Stop.mk ?_)
  k_with "pyIter str" => ((with_reducible show wpAny _ _ (pyIter _) (fun it s₂ => LoopAtV _ _ _ _ _ _ _ _ _ it s₂) _ _); refine Stop.mk ?_)
  k_with "call ref" => (k_extra "mine call")
  k_with "call builtin:len" => (k_here; (with_reducible show wpAny _ _ (call (Value.builtin "len") [Value.ref _]) _ _ _); (with_unfolding_all refine' len_listN ?k1'9 ?k2'9 ?_; (case k1'9 => is_list); (case k2'9 => omega); k_whole))
  k_with "subscriptTail" => (k_here; (with_reducible show wpAny _ _ (subscriptTail _ _ (Value.ref _) (Value.int _ _)) _ _ _); (with_unfolding_all refine' sign_item ?k1'9 ?k2'9 ?k3'9 ?k4'9 ?k5'9 ?_; (case k1'9 => is_list); (case k2'9 => assumption); (case k3'9 => assumption); (case k4'9 => (push_cast; omega)); (case k5'9 => omega); k_whole); intro _)
  k_with "subscriptTail" => (k_here; (with_reducible show wpAny _ _ (subscriptTail _ _ (Value.str _ _) (Value.int _ _)) _ _ _); (with_unfolding_all refine' char_item ?k1'9 ?k2'9 ?k3'9 ?_; (case k1'9 => assumption); (case k2'9 => (push_cast; omega)); (case k3'9 => omega); k_whole))
  k_with "TurnL" => (refine TurnL.ret ?_; (try dsimp only))
  k_with "subscriptTail Name Name str int" => (k_here; (with_reducible show wpAny _ _ (subscriptTail _ _ (Value.str _ _) (Value.int _ _)) _ _ _); (with_unfolding_all refine' char_item ?k1'9 ?k2'9 ?k3'9 ?_; (case k1'9 => assumption); (case k2'9 => (push_cast; omega)); (case k3'9 => omega); k_whole))
  k_with "exec For Name Name cons nil" => (k_here; (rename Fr _ _ _ _ => lF'9); (with_unfolding_all refine' For_invVF lF'9 ?k1'9 ?k2'9 ?_; (case k1'9 => exact rfl); (case k2'9 => exact rfl); k_whole))
  k_with "call builtin:list.append" => (k_here; (with_reducible show wpAny _ _ (call (Value.builtin _) [Value.ref _, _]) _ _ _); k_dflt (refine' append_K ?k1'9 ?k2'9 ?k3'9 ?_ ?z'9; (case k1'9 => k_asm); (case k2'9 => k_asm); (case k3'9 => k_upd); (case z'9 => assumption); k_whole); intro _ _ _; (try k_sweep))
  k_with "call builtin:str.split" => (k_here; (with_reducible show wpAny _ _ (call (Value.builtin "str.split") _) _ _ _); (refine KSpl.split1 (by k_asm) (by k_asm) (by decide) ?_ (by assumption)); (intro _ _ _ _ e'9 a'9 _ _ l1'9); (try k_lt l1'9); rw [e'9] at a'9; (try (revert a'9; intro _)); (try (revert l1'9; intro _)); (try (revert e'9; intro _)))
  k_with "subscriptTail" => (k_here; (with_reducible show wpAny _ _ (subscriptTail _ _ (Value.ref _) (Value.int _ _)) _ _ _); (with_unfolding_all refine' strs_item ?k1'9 ?k2'9 ?k3'9 ?k4'9 ?k5'9 ?_; (case k1'9 => is_list); (case k2'9 => assumption); (case k3'9 => assumption); (case k4'9 => rfl); (case k5'9 => omega); k_whole); intro _)
  k_with "subscriptTail Call Attribute cons nil Name ref int" => (k_here; (with_reducible show wpAny _ _ (subscriptTail _ _ (Value.ref _) (Value.int _ _)) _ _ _); (with_unfolding_all refine' strs_item ?k1'9 ?k2'9 ?k3'9 ?k4'9 ?k5'9 ?_; (case k1'9 => is_list); (case k2'9 => assumption); (case k3'9 => assumption); (case k4'9 => rfl); (case k5'9 => omega); k_whole); intro _)
  k_with "getMethod ref" => (k_here; (with_reducible show wpAny _ _ (getMethod (Value.ref _) (PySem.Str.ofString "index") _) _ _ _); k_dflt (refine' names_method ?N'9 ?m'9 ?_; (case N'9 => k_asm); (case m'9 => k_mem)))
  k_with "call builtin:tuple.index" => (k_here; k_dflt (refine' names_index ?k'9 ?N'9 ?m'9 ?_; (case N'9 => k_asm); (case m'9 => k_mem); (case k'9 => omega)))
  k_with "subscriptTail Name BinOp ref int" => (k_here; (with_reducible show wpAny _ _ (subscriptTail _ _ (Value.ref _) (Value.int _ _)) _ _ _); (with_unfolding_all refine' names_item ?N'9 ?m'9 ?hj'9 ?h5'9 ?_; (case N'9 => k_asm); (case m'9 => k_mem); (case hj'9 => assumption); (case h5'9 => omega); k_whole); intro _)
  k_with "subscriptTail Name Slice str ref" => (k_here; ((with_unfolding_all refine' cut_tail ?F'9 ?N'9 ?sz'9 ?_); (case F'9 => k_asm); (case N'9 => k_asm); (case sz'9 => assumption); intro _ _ _ _ _; (try k_sweep)))
  k_with "subscriptTail Name Constant str int" => (k_here; (with_unfolding_all refine' head_item ?sz'9 ?_); (case sz'9 => assumption))
  k_with "setAttr ref" => (k_here; k_dflt (first | (refine' set_tz ?k1'9 ?k2'9 ?k3'9 ?k4'9 ?k5'9 ?k6'9 ?k7'9 ?k8'9 ?k9'9 ?k10'9 ?k11'9 ?k12'9 ?k13'9 ?_; (case k1'9 => k_asm); (case k2'9 => k_asm); (case k3'9 => k_asm); (case k4'9 => k_inst); (case k5'9 => exact rfl); (case k6'9 => k_is); (case k7'9 => k_is); (case k8'9 => k_is); (case k9'9 => k_is); (case k10'9 => k_get); (case k11'9 => k_put); (case k12'9 => k_upd); (case k13'9 => exact Nat.le_of_ble_eq_true rfl); k_whole; intro _ _ _; (try k_sweep)) | (refine' set_st ?k1'9 ?k2'9 ?k3'9 ?k4'9 ?k5'9 ?k6'9 ?k7'9 ?k8'9 ?k9'9 ?k10'9 ?k11'9 ?k12'9 ?k13'9 ?_; (case k1'9 => k_asm); (case k2'9 => k_asm); (case k3'9 => k_asm); (case k4'9 => k_inst); (case k5'9 => exact rfl); (case k6'9 => k_is); (case k7'9 => k_is); (case k8'9 => k_is); (case k9'9 => k_is); (case k10'9 => k_get); (case k11'9 => k_put); (case k12'9 => k_upd); (case k13'9 => exact Nat.le_of_ble_eq_true rfl); k_whole; intro _ _ _; (try k_sweep))))
  k_with "eval BinOp" => k_extra "fold"
  k_with "eval Call" => k_extra "fold"
  k_with "eval List" => k_extra "fold"
  k_with "eval Tuple" => k_extra "fold"
  k_with "eval Subscript" => k_extra "fold"
  k_with "eval Compare" => k_extra "fold"
  k_with "eval BoolOp" => k_extra "fold"
  k_with "compareOp NotIn str ref" => (k_here; k_dflt (refine' st_notin_no ?N'9 ?m'9 ?O'9 ?k'9 ?k5'9 ?_; (case N'9 => k_asm); (case m'9 => k_mem); (case O'9 => assumption); (case k'9 => assumption); (case k5'9 => assumption)))
  k_with "exec Raise some none" => (k_here; (with_reducible show wpAny _ _ (exec (Stmt.Raise _ _ _) _) _ _ _); refine Stop.mk ?_)
  obtain ⟨at', state, out, errs, sv, closed, isret, last, buf, waiting, done, a1, a2, a3, a4, a5, a6, n1, n2, n3, n4⟩ := S
  dsimp only at *
  subst hst
  unfold RSpec
  intro mg mb mean dp un gd cn cs a ccd cl outer A₀ base h₀ L m s Q E B F X N T hk hroom hun hE
  simp only [tzLed, List.cons_append, List.nil_append] at N
  refine wpAny_call ?_
  k_dflt (refine' enterR ?k1'9 ?k2'9 ?k3'9 ?k4'9 ?k5'9 ?kA'9 ?kF'9 ?kK'9 ?k6'9 ?k7'9 ?k8'9 ?k9'9 ?kB'9 ?_ ?c2'9 ?c3'9 ?c4'9 ?c5'9; (case kA'9 => exact rfl); (case kF'9 => exact rfl); (case kK'9 => assumption); (case k1'9 => k_asm); (case k2'9 => k_asm); (case k3'9 => k_asm); (case k4'9 => k_asm); (case k5'9 => k_asm); (case k6'9 => k_is); (case k7'9 => k_is); (case k8'9 => (first | exact rm0 (by assumption) | exact rm1 (by assumption) (by decide) | k_extra "room" | ktr_room)); (case k9'9 => first | exact BindsTo.of_eq rfl | exact binds_K (by k_in) rfl (by k_is) rfl rfl rfl); (case c5'9 => decide); (case kB'9 => exact locs rfl); (case c2'9 => exact rfl); (case c3'9 => exact rfl); (case c4'9 => exact rfl); k_whole; intro _ _ _ _ _ _ _ _ _ l1'9; (try k_lt l1'9); (try dsimp only); (with_reducible refine (?_ : wpAny _ _ _ _ _ _)); (try ((fail_if_success (fail_if_success k_fold)); refine fold_QE ?_; intro _ _)); (try (revert l1'9; intro _)))
  k_steps
  unfold Stop
  rename Tok => tk
  rename Fr _ _ _ _ => FR
  (try dsimp +zetaDelta only at FR)
  rename Top _ _ _ _ _ _ => TT
  rename News _ _ _ _ => NR
  rename Frag.In _ _ => XR
  rename Below _ _ _ _ => BR
  obtain ⟨cnm, cq, cN, cbs, csn, csub, cab, ccol, cdd, c0, c1, c2, c3, c5, hC⟩ := exOk_cls XR (ex51 w)
  k_dflt (refine ex_Raise (C := 51) (D := 38) (nm := cnm) (q := cq) (N := cN) (bs := cbs) (hdct := true) (sn := csn) (sub := csub) (ab := cab) (col := ccol) (dd := cdd) (k0 := c0) (k1 := c1) (k2 := c2) (k3 := c3) (k5 := c5) rfl (name_K FR XR (topRead_of TT) (by k_is) ⟨rfl, ?_⟩))
  (try dsimp only)
  k_steps
  k_dflt (refine exc_call (FR.keep _ _ hC) (looks_findIn (XR.keeps FR.keep) (r := some (.ref 35)) (by k_is)) (fun self => bind_fn (XR.keeps FR.keep) self (by k_is)) (fun h1 e hm => ?_) (by size_fits))
  obtain ⟨t0, he0, ht0, -⟩ := hm.there
  have F1 := FR.keeps hm.keeps
  have hEe : ∀ {p : Addr × Obj}, p ∈ tzLed w Z ⟨at', nm k, out, errs, sv, closed, isret, last, buf, waiting, done, a1, a2, a3, a4, a5, a6, n1, n2, n3, n4⟩ ++ rest → p.1 ≠ e := fun {p} hp z => by
    have y := (NR p hp).1
    rw [z, hm.new] at y
    cases y
  have NN := News.more F1 (fun p hp => ⟨hm.keeps _ _ (NR p hp).1, (NR p hp).2⟩) he0 (fun es n q => by cases q) (kts_none FR.keep hm.new)
  k_dflt (refine (einit_spec w e t0 (Str.ofString "no such state") tk).useN [] (tzLed w Z ⟨at', nm k, out, errs, sv, closed, isret, last, buf, waiting, done, a1, a2, a3, a4, a5, a6, n1, n2, n3, n4⟩ ++ rest) BR F1 XR NN TT rfl ?room ?units (fun p hp b hb => by rw [List.mem_singleton.mp hb]; exact hEe hp) ?_)
  case room =>
    rw [show (Code.builtin "type.__call__" ⟨[.ref 51, .str (Str.ofString "no such state") tk], []⟩).weight = 1 from by kernel_rfl]
    show dp + 1 + 1 + 2 < _
    (first | exact rm0 (by assumption) | exact rm1 (by assumption) (by decide) | k_extra "room" | ktr_room)
  case units =>
    rw [show (Code.builtin "type.__call__" ⟨[.ref 51, .str (Str.ofString "no such state") tk], []⟩).cUnits = 1 from by kernel_rfl]
    (first | k_extra "units" | ktr_units)
  rintro r led' h2 tk2 F2 N2 St2 Fs2 ⟨rfl, t1, D, tk3, rfl⟩
  refine ⟨rfl, e, t1, some D, rfl, F2.keep _ _ hC, (N2 _ (.head _)).1, ?_⟩
  refine leave_raiseP (s' := { s with heap := h2, toks := tk2 }) (news := (D, whyObj w (Str.ofString "no such state") tk tk3) :: (tzLed w Z ⟨at', nm k, out, errs, sv, closed, isret, last, buf, waiting, done, a1, a2, a3, a4, a5, a6, n1, n2, n3, n4⟩ ++ rest)) (oe := exObj 51 t1 (some D)) (ExP.kept D) BR F2 (News.sub N2 ?_) (News.sub N2 ?_) ⟨rfl, rfl⟩ rfl rfl ?_ (fun h3 R3 up => ?_) rfl
  · intro p hp
    rcases List.mem_cons.mp hp with rfl | hp
    · exact .tail _ (.head _)
    · exact .tail _ (.tail _ (.tail _ hp))
  · intro p hp
    rw [List.mem_singleton.mp hp]
    exact .head _
  · intro p hp
    rcases List.mem_cons.mp hp with rfl | hp
    · intro z
      have y1 := (N2 _ (.tail _ (.head _))).1
      have y2 := (N2 _ (.head _)).1
      dsimp only at y1 y2 z
      rw [z, y2] at y1
      exact absurd (congrArg (fun o : Option Obj => o.map (·.cls)) y1) (by intro q; cases q)
    · exact hEe hp
  · exact hE e D _ tk3 _ h3 tk2 (by assumption) R3 up
set_option maxHeartbeats 0 in
theorem sfeed_raise (w : World) (Z : Tz) (S : Ts) (hcl : S.closed = true) (x : Str) (tx : Tok) (rest : Led) :
    RSpec w 10 116 [.ref Z.st, .str x tx] (tzLed w Z S ++ rest) (Str.ofString "the stream is closed") := by
  w_top off
  k_with_none
  k_with "room" => (first | exact rmS2 (by assumption) (by decide) | exact rmS3 (by assumption) (by decide) | exact rmS4 (by assumption) (by decide) | exact rm2 (by assumption) (by decide) | exact rm0 (by assumption) | exact rm1 (by assumption) (by decide) | (dsimp +zetaDelta only; ktr_room))
  k_with "units" => (first | exact cl3 (by assumption) (by decide) | exact um2 (by assumption) (by decide) | exact um1 (by assumption) (by decide) | (dsimp +zetaDelta only; ktr_units))
  k_with "is_list" => (exact News.isList (by k_asm) (by k_mem))
  k_with "st" => (first | ((fail_if_success (fail_if_success k_unfold)); refine (?_ : wpAny _ _ _ _ _ _)) | (k_unfold; (try dsimp only)) | (k_end; wrow_close) | walk1 | (dsimp only; walk1) | (leave1; walk_say "STEP leave1"; try dsimp only) | fail "no step")
  k_with "om" => (first | assumption | with_reducible rfl | decide | exact Nat.le_trans (by assumption) (by decide) | exact Nat.lt_of_le_of_lt (by assumption) (by decide) | ((repeat (with_reducible rename _ ∧ _ => om9; clear om9)); first | ((repeat (with_reducible rename _ ≠ _ => om9; clear om9)); (repeat (with_reducible rename @Eq Nat _ _ => om9; clear om9)); (repeat (with_reducible rename @Eq Int _ _ => om9; clear om9)); omega +splitNatSub) | omega +splitNatSub))
  k_with "fold" => ((fail_if_success (fail_if_success k_fold)); refine fold_QES ?_; intro _ _ _ _)
  k_with "kne" => (first | ((refine (?_ : @Ne Nat _ _)); first | assumption | exact Ne.symm (by assumption) | k_extra "ne") | (refine neN ?_; (try dsimp only); first | assumption | exact Ne.symm (by assumption) | k_extra "ne" | omega))
  k_with "tb" => (repeat (first | exact List.forall_mem_nil _ | refine List.forall_mem_cons.mpr ⟨rfl, ?_⟩))
  k_with "ne" => with_reducible (first | exact na0 (by assumption) | exact ns0 (by assumption) | exact na1 (by assumption) | exact ns1 (by assumption) | exact na2 (by assumption) | exact ns2 (by assumption) | exact na3 (by assumption) | exact ns3 (by assumption) | exact na4 (by assumption) | exact ns4 (by assumption) | exact na5 (by assumption) | exact ns5 (by assumption) | exact na6 (by assumption) | exact ns6 (by assumption) | exact na7 (by assumption) | exact ns7 (by assumption) | exact na8 (by assumption) | exact ns8 (by assumption) | exact na9 (by assumption) | exact ns9 (by assumption) | exact na10 (by assumption) | exact ns10 (by assumption) | exact na11 (by assumption) | exact ns11 (by assumption) | exact na12 (by assumption) | exact ns12 (by assumption) | exact na13 (by assumption) | exact ns13 (by assumption) | exact na14 (by assumption) | exact ns14 (by assumption) | exact na15 (by assumption) | exact ns15 (by assumption))
  k_with "ne" => with_reducible (first | (show Tz.sts _ ≠ _; first | exact zn01 (by assumption) | exact zn02 (by assumption) | exact zn03 (by assumption) | exact zn04 (by assumption) | exact zn05 (by assumption) | exact zn06 (by assumption) | exact zn07 (by assumption) | exact zn08 (by assumption)) | (show Tz.td _ ≠ _; first | exact zn10 (by assumption) | exact zn12 (by assumption) | exact zn13 (by assumption) | exact zn14 (by assumption) | exact zn15 (by assumption) | exact zn16 (by assumption) | exact zn17 (by assumption) | exact zn18 (by assumption)) | (show Tz.t _ ≠ _; first | exact zn20 (by assumption) | exact zn21 (by assumption) | exact zn23 (by assumption) | exact zn24 (by assumption) | exact zn25 (by assumption) | exact zn26 (by assumption) | exact zn27 (by assumption) | exact zn28 (by assumption)) | (show Tz.sd _ ≠ _; first | exact zn30 (by assumption) | exact zn31 (by assumption) | exact zn32 (by assumption) | exact zn34 (by assumption) | exact zn35 (by assumption) | exact zn36 (by assumption) | exact zn37 (by assumption) | exact zn38 (by assumption)) | (show Tz.st _ ≠ _; first | exact zn40 (by assumption) | exact zn41 (by assumption) | exact zn42 (by assumption) | exact zn43 (by assumption) | exact zn45 (by assumption) | exact zn46 (by assumption) | exact zn47 (by assumption) | exact zn48 (by assumption)) | (show Tz.sg _ ≠ _; first | exact zn50 (by assumption) | exact zn51 (by assumption) | exact zn52 (by assumption) | exact zn53 (by assumption) | exact zn54 (by assumption) | exact zn56 (by assumption) | exact zn57 (by assumption) | exact zn58 (by assumption)) | (show Tz.se _ ≠ _; first | exact zn60 (by assumption) | exact zn61 (by assumption) | exact zn62 (by assumption) | exact zn63 (by assumption) | exact zn64 (by assumption) | exact zn65 (by assumption) | exact zn67 (by assumption) | exact zn68 (by assumption)) | (show Tz.ou _ ≠ _; first | exact zn70 (by assumption) | exact zn71 (by assumption) | exact zn72 (by assumption) | exact zn73 (by assumption) | exact zn74 (by assumption) | exact zn75 (by assumption) | exact zn76 (by assumption) | exact zn78 (by assumption)) | (show Tz.er _ ≠ _; first | exact zn80 (by assumption) | exact zn81 (by assumption) | exact zn82 (by assumption) | exact zn83 (by assumption) | exact zn84 (by assumption) | exact zn85 (by assumption) | exact zn86 (by assumption) | exact zn87 (by assumption)))
  k_with "execs cons" => ((try ((fail_if_success (fail_if_success k_fold)); refine fold_QE ?_; intro _ _)); refine ex_consA ?_; intro _ _ _ _; (try (with_reducible rename News _ _ _ _ => kN'9; dsimp only at kN'9)); (try (with_reducible rename Fr _ _ _ _ => kF'9; refine f_let kF'9 ?_; clear kF'9; intro _ _)))
  k_with "LeaveH" => (refine' leaveH_ ?k1'9 ?k2'9 ?_; (case k1'9 => k_asm); (case k2'9 => k_asm); k_whole; intro _ _ _ _)
  k_with "pyIter ref" => ((with_reducible show wpAny _ _ (pyIter _) (fun it s₂ => LoopAtV _ _ _ _ _ _ _ _ _ it s₂) _ _); refine Stop.mk ?_)
  k_with "pyIter str" => ((with_reducible show wpAny _ _ (pyIter _) (fun it s₂ => LoopAtV _ _ _ _ _ _ _ _ _ it s₂) _ _); refine Stop.mk ?_)
  k_with "call ref" => (k_extra "mine call")
  k_with "call builtin:len" => (k_here; (with_reducible show wpAny _ _ (call (Value.builtin "len") [Value.ref _]) _ _ _); (with_unfolding_all refine' len_listN ?k1'9 ?k2'9 ?_; (case k1'9 => is_list); (case k2'9 => omega); k_whole))
  k_with "subscriptTail" => (k_here; (with_reducible show wpAny _ _ (subscriptTail _ _ (Value.ref _) (Value.int _ _)) _ _ _); (with_unfolding_all refine' sign_item ?k1'9 ?k2'9 ?k3'9 ?k4'9 ?k5'9 ?_; (case k1'9 => is_list); (case k2'9 => assumption); (case k3'9 => assumption); (case k4'9 => (push_cast; omega)); (case k5'9 => omega); k_whole); intro _)
  k_with "subscriptTail" => (k_here; (with_reducible show wpAny _ _ (subscriptTail _ _ (Value.str _ _) (Value.int _ _)) _ _ _); (with_unfolding_all refine' char_item ?k1'9 ?k2'9 ?k3'9 ?_; (case k1'9 => assumption); (case k2'9 => (push_cast; omega)); (case k3'9 => omega); k_whole))
  k_with "TurnL" => (refine TurnL.ret ?_; (try dsimp only))
  k_with "subscriptTail Name Name str int" => (k_here; (with_reducible show wpAny _ _ (subscriptTail _ _ (Value.str _ _) (Value.int _ _)) _ _ _); (with_unfolding_all refine' char_item ?k1'9 ?k2'9 ?k3'9 ?_; (case k1'9 => assumption); (case k2'9 => (push_cast; omega)); (case k3'9 => omega); k_whole))
  k_with "exec For Name Name cons nil" => (k_here; (rename Fr _ _ _ _ => lF'9); (with_unfolding_all refine' For_invVF lF'9 ?k1'9 ?k2'9 ?_; (case k1'9 => exact rfl); (case k2'9 => exact rfl); k_whole))
  k_with "call builtin:list.append" => (k_here; (with_reducible show wpAny _ _ (call (Value.builtin _) [Value.ref _, _]) _ _ _); k_dflt (refine' append_K ?k1'9 ?k2'9 ?k3'9 ?_ ?z'9; (case k1'9 => k_asm); (case k2'9 => k_asm); (case k3'9 => k_upd); (case z'9 => assumption); k_whole); intro _ _ _; (try k_sweep))
  k_with "call builtin:str.split" => (k_here; (with_reducible show wpAny _ _ (call (Value.builtin "str.split") _) _ _ _); (refine KSpl.split1 (by k_asm) (by k_asm) (by decide) ?_ (by assumption)); (intro _ _ _ _ e'9 a'9 _ _ l1'9); (try k_lt l1'9); rw [e'9] at a'9; (try (revert a'9; intro _)); (try (revert l1'9; intro _)); (try (revert e'9; intro _)))
  k_with "subscriptTail" => (k_here; (with_reducible show wpAny _ _ (subscriptTail _ _ (Value.ref _) (Value.int _ _)) _ _ _); (with_unfolding_all refine' strs_item ?k1'9 ?k2'9 ?k3'9 ?k4'9 ?k5'9 ?_; (case k1'9 => is_list); (case k2'9 => assumption); (case k3'9 => assumption); (case k4'9 => rfl); (case k5'9 => omega); k_whole); intro _)
  k_with "subscriptTail Call Attribute cons nil Name ref int" => (k_here; (with_reducible show wpAny _ _ (subscriptTail _ _ (Value.ref _) (Value.int _ _)) _ _ _); (with_unfolding_all refine' strs_item ?k1'9 ?k2'9 ?k3'9 ?k4'9 ?k5'9 ?_; (case k1'9 => is_list); (case k2'9 => assumption); (case k3'9 => assumption); (case k4'9 => rfl); (case k5'9 => omega); k_whole); intro _)
  k_with "getMethod ref" => (k_here; (with_reducible show wpAny _ _ (getMethod (Value.ref _) (PySem.Str.ofString "index") _) _ _ _); k_dflt (refine' names_method ?N'9 ?m'9 ?_; (case N'9 => k_asm); (case m'9 => k_mem)))
  k_with "call builtin:tuple.index" => (k_here; k_dflt (refine' names_index ?k'9 ?N'9 ?m'9 ?_; (case N'9 => k_asm); (case m'9 => k_mem); (case k'9 => omega)))
  k_with "subscriptTail Name BinOp ref int" => (k_here; (with_reducible show wpAny _ _ (subscriptTail _ _ (Value.ref _) (Value.int _ _)) _ _ _); (with_unfolding_all refine' names_item ?N'9 ?m'9 ?hj'9 ?h5'9 ?_; (case N'9 => k_asm); (case m'9 => k_mem); (case hj'9 => assumption); (case h5'9 => omega); k_whole); intro _)
  k_with "subscriptTail Name Slice str ref" => (k_here; ((with_unfolding_all refine' cut_tail ?F'9 ?N'9 ?sz'9 ?_); (case F'9 => k_asm); (case N'9 => k_asm); (case sz'9 => assumption); intro _ _ _ _ _; (try k_sweep)))
  k_with "subscriptTail Name Constant str int" => (k_here; (with_unfolding_all refine' head_item ?sz'9 ?_); (case sz'9 => assumption))
  k_with "setAttr ref" => (k_here; k_dflt (first | (refine' set_tz ?k1'9 ?k2'9 ?k3'9 ?k4'9 ?k5'9 ?k6'9 ?k7'9 ?k8'9 ?k9'9 ?k10'9 ?k11'9 ?k12'9 ?k13'9 ?_; (case k1'9 => k_asm); (case k2'9 => k_asm); (case k3'9 => k_asm); (case k4'9 => k_inst); (case k5'9 => exact rfl); (case k6'9 => k_is); (case k7'9 => k_is); (case k8'9 => k_is); (case k9'9 => k_is); (case k10'9 => k_get); (case k11'9 => k_put); (case k12'9 => k_upd); (case k13'9 => exact Nat.le_of_ble_eq_true rfl); k_whole; intro _ _ _; (try k_sweep)) | (refine' set_st ?k1'9 ?k2'9 ?k3'9 ?k4'9 ?k5'9 ?k6'9 ?k7'9 ?k8'9 ?k9'9 ?k10'9 ?k11'9 ?k12'9 ?k13'9 ?_; (case k1'9 => k_asm); (case k2'9 => k_asm); (case k3'9 => k_asm); (case k4'9 => k_inst); (case k5'9 => exact rfl); (case k6'9 => k_is); (case k7'9 => k_is); (case k8'9 => k_is); (case k9'9 => k_is); (case k10'9 => k_get); (case k11'9 => k_put); (case k12'9 => k_upd); (case k13'9 => exact Nat.le_of_ble_eq_true rfl); k_whole; intro _ _ _; (try k_sweep))))
  k_with "eval BinOp" => k_extra "fold"
  k_with "eval Call" => k_extra "fold"
  k_with "eval List" => k_extra "fold"
  k_with "eval Tuple" => k_extra "fold"
  k_with "eval Subscript" => k_extra "fold"
  k_with "eval Compare" => k_extra "fold"
  k_with "eval BoolOp" => k_extra "fold"
  k_with "exec Raise some none" => (k_here; (with_reducible show wpAny _ _ (exec (Stmt.Raise _ _ _) _) _ _ _); refine Stop.mk ?_)
  obtain ⟨at', state, out, errs, sv, closed, isret, last, buf, waiting, done, a1, a2, a3, a4, a5, a6, n1, n2, n3, n4⟩ := S
  dsimp only at *
  subst hcl
  unfold RSpec
  intro mg mb mean dp un gd cn cs a ccd cl outer A₀ base h₀ L m s Q E B F X N T hk hroom hun hE
  simp only [tzLed, List.cons_append, List.nil_append] at N
  refine wpAny_call ?_
  k_dflt (refine' enterR ?k1'9 ?k2'9 ?k3'9 ?k4'9 ?k5'9 ?kA'9 ?kF'9 ?kK'9 ?k6'9 ?k7'9 ?k8'9 ?k9'9 ?kB'9 ?_ ?c2'9 ?c3'9 ?c4'9 ?c5'9; (case kA'9 => exact rfl); (case kF'9 => exact rfl); (case kK'9 => assumption); (case k1'9 => k_asm); (case k2'9 => k_asm); (case k3'9 => k_asm); (case k4'9 => k_asm); (case k5'9 => k_asm); (case k6'9 => k_is); (case k7'9 => k_is); (case k8'9 => (first | exact rm0 (by assumption) | exact rm1 (by assumption) (by decide) | k_extra "room" | ktr_room)); (case k9'9 => first | exact BindsTo.of_eq rfl | exact binds_K (by k_in) rfl (by k_is) rfl rfl rfl); (case c5'9 => decide); (case kB'9 => exact locs rfl); (case c2'9 => exact rfl); (case c3'9 => exact rfl); (case c4'9 => exact rfl); k_whole; intro _ _ _ _ _ _ _ _ _ l1'9; (try k_lt l1'9); (try dsimp only); (with_reducible refine (?_ : wpAny _ _ _ _ _ _)); (try ((fail_if_success (fail_if_success k_fold)); refine fold_QE ?_; intro _ _)); (try (revert l1'9; intro _)))
  k_steps
  unfold Stop
  rename Tok => tk
  rename Fr _ _ _ _ => FR
  (try dsimp +zetaDelta only at FR)
  rename Top _ _ _ _ _ _ => TT
  rename News _ _ _ _ => NR
  rename Frag.In _ _ => XR
  rename Below _ _ _ _ => BR
  obtain ⟨cnm, cq, cN, cbs, csn, csub, cab, ccol, cdd, c0, c1, c2, c3, c5, hC⟩ := exOk_cls XR (ex51 w)
  k_dflt (refine ex_Raise (C := 51) (D := 38) (nm := cnm) (q := cq) (N := cN) (bs := cbs) (hdct := true) (sn := csn) (sub := csub) (ab := cab) (col := ccol) (dd := cdd) (k0 := c0) (k1 := c1) (k2 := c2) (k3 := c3) (k5 := c5) rfl (name_K FR XR (topRead_of TT) (by k_is) ⟨rfl, ?_⟩))
  (try dsimp only)
  k_steps
  k_dflt (refine exc_call (FR.keep _ _ hC) (looks_findIn (XR.keeps FR.keep) (r := some (.ref 35)) (by k_is)) (fun self => bind_fn (XR.keeps FR.keep) self (by k_is)) (fun h1 e hm => ?_) (by size_fits))
  obtain ⟨t0, he0, ht0, -⟩ := hm.there
  have F1 := FR.keeps hm.keeps
  have hEe : ∀ {p : Addr × Obj}, p ∈ tzLed w Z ⟨at', state, out, errs, sv, true, isret, last, buf, waiting, done, a1, a2, a3, a4, a5, a6, n1, n2, n3, n4⟩ ++ rest → p.1 ≠ e := fun {p} hp z => by
    have y := (NR p hp).1
    rw [z, hm.new] at y
    cases y
  have NN := News.more F1 (fun p hp => ⟨hm.keeps _ _ (NR p hp).1, (NR p hp).2⟩) he0 (fun es n q => by cases q) (kts_none FR.keep hm.new)
  k_dflt (refine (einit_spec w e t0 (Str.ofString "the stream is closed") tk).useN [] (tzLed w Z ⟨at', state, out, errs, sv, true, isret, last, buf, waiting, done, a1, a2, a3, a4, a5, a6, n1, n2, n3, n4⟩ ++ rest) BR F1 XR NN TT rfl ?room ?units (fun p hp b hb => by rw [List.mem_singleton.mp hb]; exact hEe hp) ?_)
  case room =>
    rw [show (Code.builtin "type.__call__" ⟨[.ref 51, .str (Str.ofString "the stream is closed") tk], []⟩).weight = 1 from by kernel_rfl]
    show dp + 1 + 1 + 2 < _
    (first | exact rm0 (by assumption) | exact rm1 (by assumption) (by decide) | k_extra "room" | ktr_room)
  case units =>
    rw [show (Code.builtin "type.__call__" ⟨[.ref 51, .str (Str.ofString "the stream is closed") tk], []⟩).cUnits = 1 from by kernel_rfl]
    (first | k_extra "units" | ktr_units)
  rintro r led' h2 tk2 F2 N2 St2 Fs2 ⟨rfl, t1, D, tk3, rfl⟩
  refine ⟨rfl, e, t1, some D, rfl, F2.keep _ _ hC, (N2 _ (.head _)).1, ?_⟩
  refine leave_raiseP (s' := { s with heap := h2, toks := tk2 }) (news := (D, whyObj w (Str.ofString "the stream is closed") tk tk3) :: (tzLed w Z ⟨at', state, out, errs, sv, true, isret, last, buf, waiting, done, a1, a2, a3, a4, a5, a6, n1, n2, n3, n4⟩ ++ rest)) (oe := exObj 51 t1 (some D)) (ExP.kept D) BR F2 (News.sub N2 ?_) (News.sub N2 ?_) ⟨rfl, rfl⟩ rfl rfl ?_ (fun h3 R3 up => ?_) rfl
  · intro p hp
    rcases List.mem_cons.mp hp with rfl | hp
    · exact .tail _ (.head _)
    · exact .tail _ (.tail _ (.tail _ hp))
  · intro p hp
    rw [List.mem_singleton.mp hp]
    exact .head _
  · intro p hp
    rcases List.mem_cons.mp hp with rfl | hp
    · intro z
      have y1 := (N2 _ (.tail _ (.head _))).1
      have y2 := (N2 _ (.head _)).1
      dsimp only at y1 y2 z
      rw [z, y2] at y1
      exact absurd (congrArg (fun o : Option Obj => o.map (·.cls)) y1) (by intro q; cases q)
    · exact hEe hp
  · exact hE e D _ tk3 _ h3 tk2 (by assumption) R3 up
set_option maxHeartbeats 0 in
theorem tfeed_raise (w : World) (Z : Tz) (S : Ts) (hcl : S.closed = true) (x : Str) (tx : Tok) (rest : Led) :
    RSpec w 20 159 [.ref Z.t, .str x tx] (tzLed w Z S ++ rest) (Str.ofString "the stream is closed") := by
  w_top off
  k_with_none
  k_with "room" => (first | exact rmS2 (by assumption) (by decide) | exact rmS3 (by assumption) (by decide) | exact rmS4 (by assumption) (by decide) | exact rm2 (by assumption) (by decide) | exact rm0 (by assumption) | exact rm1 (by assumption) (by decide) | (dsimp +zetaDelta only; ktr_room))
  k_with "units" => (first | exact cl3 (by assumption) (by decide) | exact um2 (by assumption) (by decide) | exact um1 (by assumption) (by decide) | (dsimp +zetaDelta only; ktr_units))
  k_with "is_list" => (exact News.isList (by k_asm) (by k_mem))
  k_with "st" => (first | ((fail_if_success (fail_if_success k_unfold)); refine (?_ : wpAny _ _ _ _ _ _)) | (k_unfold; (try dsimp only)) | (k_end; wrow_close) | walk1 | (dsimp only; walk1) | (leave1; walk_say "STEP leave1"; try dsimp only) | fail "no step")
  k_with "om" => (first | assumption | with_reducible rfl | decide | exact Nat.le_trans (by assumption) (by decide) | exact Nat.lt_of_le_of_lt (by assumption) (by decide) | ((repeat (with_reducible rename _ ∧ _ => om9; clear om9)); first | ((repeat (with_reducible rename _ ≠ _ => om9; clear om9)); (repeat (with_reducible rename @Eq Nat _ _ => om9; clear om9)); (repeat (with_reducible rename @Eq Int _ _ => om9; clear om9)); omega +splitNatSub) | omega +splitNatSub))
  k_with "fold" => ((fail_if_success (fail_if_success k_fold)); refine fold_QES ?_; intro _ _ _ _)
  k_with "kne" => (first | ((refine (?_ : @Ne Nat _ _)); first | assumption | exact Ne.symm (by assumption) | k_extra "ne") | (refine neN ?_; (try dsimp only); first | assumption | exact Ne.symm (by assumption) | k_extra "ne" | omega))
  k_with "tb" => (repeat (first | exact List.forall_mem_nil _ | refine List.forall_mem_cons.mpr ⟨rfl, ?_⟩))
  k_with "ne" => with_reducible (first | exact na0 (by assumption) | exact ns0 (by assumption) | exact na1 (by assumption) | exact ns1 (by assumption) | exact na2 (by assumption) | exact ns2 (by assumption) | exact na3 (by assumption) | exact ns3 (by assumption) | exact na4 (by assumption) | exact ns4 (by assumption) | exact na5 (by assumption) | exact ns5 (by assumption) | exact na6 (by assumption) | exact ns6 (by assumption) | exact na7 (by assumption) | exact ns7 (by assumption) | exact na8 (by assumption) | exact ns8 (by assumption) | exact na9 (by assumption) | exact ns9 (by assumption) | exact na10 (by assumption) | exact ns10 (by assumption) | exact na11 (by assumption) | exact ns11 (by assumption) | exact na12 (by assumption) | exact ns12 (by assumption) | exact na13 (by assumption) | exact ns13 (by assumption) | exact na14 (by assumption) | exact ns14 (by assumption) | exact na15 (by assumption) | exact ns15 (by assumption))
  k_with "ne" => with_reducible (first | (show Tz.sts _ ≠ _; first | exact zn01 (by assumption) | exact zn02 (by assumption) | exact zn03 (by assumption) | exact zn04 (by assumption) | exact zn05 (by assumption) | exact zn06 (by assumption) | exact zn07 (by assumption) | exact zn08 (by assumption)) | (show Tz.td _ ≠ _; first | exact zn10 (by assumption) | exact zn12 (by assumption) | exact zn13 (by assumption) | exact zn14 (by assumption) | exact zn15 (by assumption) | exact zn16 (by assumption) | exact zn17 (by assumption) | exact zn18 (by assumption)) | (show Tz.t _ ≠ _; first | exact zn20 (by assumption) | exact zn21 (by assumption) | exact zn23 (by assumption) | exact zn24 (by assumption) | exact zn25 (by assumption) | exact zn26 (by assumption) | exact zn27 (by assumption) | exact zn28 (by assumption)) | (show Tz.sd _ ≠ _; first | exact zn30 (by assumption) | exact zn31 (by assumption) | exact zn32 (by assumption) | exact zn34 (by assumption) | exact zn35 (by assumption) | exact zn36 (by assumption) | exact zn37 (by assumption) | exact zn38 (by assumption)) | (show Tz.st _ ≠ _; first | exact zn40 (by assumption) | exact zn41 (by assumption) | exact zn42 (by assumption) | exact zn43 (by assumption) | exact zn45 (by assumption) | exact zn46 (by assumption) | exact zn47 (by assumption) | exact zn48 (by assumption)) | (show Tz.sg _ ≠ _; first | exact zn50 (by assumption) | exact zn51 (by assumption) | exact zn52 (by assumption) | exact zn53 (by assumption) | exact zn54 (by assumption) | exact zn56 (by assumption) | exact zn57 (by assumption) | exact zn58 (by assumption)) | (show Tz.se _ ≠ _; first | exact zn60 (by assumption) | exact zn61 (by assumption) | exact zn62 (by assumption) | exact zn63 (by assumption) | exact zn64 (by assumption) | exact zn65 (by assumption) | exact zn67 (by assumption) | exact zn68 (by assumption)) | (show Tz.ou _ ≠ _; first | exact zn70 (by assumption) | exact zn71 (by assumption) | exact zn72 (by assumption) | exact zn73 (by assumption) | exact zn74 (by assumption) | exact zn75 (by assumption) | exact zn76 (by assumption) | exact zn78 (by assumption)) | (show Tz.er _ ≠ _; first | exact zn80 (by assumption) | exact zn81 (by assumption) | exact zn82 (by assumption) | exact zn83 (by assumption) | exact zn84 (by assumption) | exact zn85 (by assumption) | exact zn86 (by assumption) | exact zn87 (by assumption)))
  k_with "execs cons" => ((try ((fail_if_success (fail_if_success k_fold)); refine fold_QE ?_; intro _ _)); refine ex_consA ?_; intro _ _ _ _; (try (with_reducible rename News _ _ _ _ => kN'9; dsimp only at kN'9)); (try (with_reducible rename Fr _ _ _ _ => kF'9; refine f_let kF'9 ?_; clear kF'9; intro _ _)))
  k_with "LeaveH" => (refine' leaveH_ ?k1'9 ?k2'9 ?_; (case k1'9 => k_asm); (case k2'9 => k_asm); k_whole; intro _ _ _ _)
  k_with "pyIter ref" => ((with_reducible show wpAny _ _ (pyIter _) (fun it s₂ => LoopAtV _ _ _ _ _ _ _ _ _ it s₂) _ _); refine Stop.mk ?_)
  k_with "pyIter str" => ((with_reducible show wpAny _ _ (pyIter _) (fun it s₂ => LoopAtV _ _ _ _ _ _ _ _ _ it s₂) _ _); refine Stop.mk ?_)
  k_with "call ref" => (k_extra "mine call")
  k_with "call builtin:len" => (k_here; (with_reducible show wpAny _ _ (call (Value.builtin "len") [Value.ref _]) _ _ _); (with_unfolding_all refine' len_listN ?k1'9 ?k2'9 ?_; (case k1'9 => is_list); (case k2'9 => omega); k_whole))
  k_with "subscriptTail" => (k_here; (with_reducible show wpAny _ _ (subscriptTail _ _ (Value.ref _) (Value.int _ _)) _ _ _); (with_unfolding_all refine' sign_item ?k1'9 ?k2'9 ?k3'9 ?k4'9 ?k5'9 ?_; (case k1'9 => is_list); (case k2'9 => assumption); (case k3'9 => assumption); (case k4'9 => (push_cast; omega)); (case k5'9 => omega); k_whole); intro _)
  k_with "subscriptTail" => (k_here; (with_reducible show wpAny _ _ (subscriptTail _ _ (Value.str _ _) (Value.int _ _)) _ _ _); (with_unfolding_all refine' char_item ?k1'9 ?k2'9 ?k3'9 ?_; (case k1'9 => assumption); (case k2'9 => (push_cast; omega)); (case k3'9 => omega); k_whole))
  k_with "TurnL" => (refine TurnL.ret ?_; (try dsimp only))
  k_with "subscriptTail Name Name str int" => (k_here; (with_reducible show wpAny _ _ (subscriptTail _ _ (Value.str _ _) (Value.int _ _)) _ _ _); (with_unfolding_all refine' char_item ?k1'9 ?k2'9 ?k3'9 ?_; (case k1'9 => assumption); (case k2'9 => (push_cast; omega)); (case k3'9 => omega); k_whole))
  k_with "exec For Name Name cons nil" => (k_here; (rename Fr _ _ _ _ => lF'9); (with_unfolding_all refine' For_invVF lF'9 ?k1'9 ?k2'9 ?_; (case k1'9 => exact rfl); (case k2'9 => exact rfl); k_whole))
  k_with "call builtin:list.append" => (k_here; (with_reducible show wpAny _ _ (call (Value.builtin _) [Value.ref _, _]) _ _ _); k_dflt (refine' append_K ?k1'9 ?k2'9 ?k3'9 ?_ ?z'9; (case k1'9 => k_asm); (case k2'9 => k_asm); (case k3'9 => k_upd); (case z'9 => assumption); k_whole); intro _ _ _; (try k_sweep))
  k_with "call builtin:str.split" => (k_here; (with_reducible show wpAny _ _ (call (Value.builtin "str.split") _) _ _ _); (refine KSpl.split1 (by k_asm) (by k_asm) (by decide) ?_ (by assumption)); (intro _ _ _ _ e'9 a'9 _ _ l1'9); (try k_lt l1'9); rw [e'9] at a'9; (try (revert a'9; intro _)); (try (revert l1'9; intro _)); (try (revert e'9; intro _)))
  k_with "subscriptTail" => (k_here; (with_reducible show wpAny _ _ (subscriptTail _ _ (Value.ref _) (Value.int _ _)) _ _ _); (with_unfolding_all refine' strs_item ?k1'9 ?k2'9 ?k3'9 ?k4'9 ?k5'9 ?_; (case k1'9 => is_list); (case k2'9 => assumption); (case k3'9 => assumption); (case k4'9 => rfl); (case k5'9 => omega); k_whole); intro _)
  k_with "subscriptTail Call Attribute cons nil Name ref int" => (k_here; (with_reducible show wpAny _ _ (subscriptTail _ _ (Value.ref _) (Value.int _ _)) _ _ _); (with_unfolding_all refine' strs_item ?k1'9 ?k2'9 ?k3'9 ?k4'9 ?k5'9 ?_; (case k1'9 => is_list); (case k2'9 => assumption); (case k3'9 => assumption); (case k4'9 => rfl); (case k5'9 => omega); k_whole); intro _)
  k_with "getMethod ref" => (k_here; (with_reducible show wpAny _ _ (getMethod (Value.ref _) (PySem.Str.ofString "index") _) _ _ _); k_dflt (refine' names_method ?N'9 ?m'9 ?_; (case N'9 => k_asm); (case m'9 => k_mem)))
  k_with "call builtin:tuple.index" => (k_here; k_dflt (refine' names_index ?k'9 ?N'9 ?m'9 ?_; (case N'9 => k_asm); (case m'9 => k_mem); (case k'9 => omega)))
  k_with "subscriptTail Name BinOp ref int" => (k_here; (with_reducible show wpAny _ _ (subscriptTail _ _ (Value.ref _) (Value.int _ _)) _ _ _); (with_unfolding_all refine' names_item ?N'9 ?m'9 ?hj'9 ?h5'9 ?_; (case N'9 => k_asm); (case m'9 => k_mem); (case hj'9 => assumption); (case h5'9 => omega); k_whole); intro _)
  k_with "subscriptTail Name Slice str ref" => (k_here; ((with_unfolding_all refine' cut_tail ?F'9 ?N'9 ?sz'9 ?_); (case F'9 => k_asm); (case N'9 => k_asm); (case sz'9 => assumption); intro _ _ _ _ _; (try k_sweep)))
  k_with "subscriptTail Name Constant str int" => (k_here; (with_unfolding_all refine' head_item ?sz'9 ?_); (case sz'9 => assumption))
  k_with "setAttr ref" => (k_here; k_dflt (first | (refine' set_tz ?k1'9 ?k2'9 ?k3'9 ?k4'9 ?k5'9 ?k6'9 ?k7'9 ?k8'9 ?k9'9 ?k10'9 ?k11'9 ?k12'9 ?k13'9 ?_; (case k1'9 => k_asm); (case k2'9 => k_asm); (case k3'9 => k_asm); (case k4'9 => k_inst); (case k5'9 => exact rfl); (case k6'9 => k_is); (case k7'9 => k_is); (case k8'9 => k_is); (case k9'9 => k_is); (case k10'9 => k_get); (case k11'9 => k_put); (case k12'9 => k_upd); (case k13'9 => exact Nat.le_of_ble_eq_true rfl); k_whole; intro _ _ _; (try k_sweep)) | (refine' set_st ?k1'9 ?k2'9 ?k3'9 ?k4'9 ?k5'9 ?k6'9 ?k7'9 ?k8'9 ?k9'9 ?k10'9 ?k11'9 ?k12'9 ?k13'9 ?_; (case k1'9 => k_asm); (case k2'9 => k_asm); (case k3'9 => k_asm); (case k4'9 => k_inst); (case k5'9 => exact rfl); (case k6'9 => k_is); (case k7'9 => k_is); (case k8'9 => k_is); (case k9'9 => k_is); (case k10'9 => k_get); (case k11'9 => k_put); (case k12'9 => k_upd); (case k13'9 => exact Nat.le_of_ble_eq_true rfl); k_whole; intro _ _ _; (try k_sweep))))
  k_with "eval BinOp" => k_extra "fold"
  k_with "eval Call" => k_extra "fold"
  k_with "eval List" => k_extra "fold"
  k_with "eval Tuple" => k_extra "fold"
  k_with "eval Subscript" => k_extra "fold"
  k_with "eval Compare" => k_extra "fold"
  k_with "eval BoolOp" => k_extra "fold"
  k_with "exec Raise some none" => (k_here; (with_reducible show wpAny _ _ (exec (Stmt.Raise _ _ _) _) _ _ _); refine Stop.mk ?_)
  have SR := sfeed_raise w Z S hcl x tx rest
  obtain ⟨at', state, out, errs, sv, closed, isret, last, buf, waiting, done, a1, a2, a3, a4, a5, a6, n1, n2, n3, n4⟩ := S
  dsimp only at *
  subst hcl
  unfold RSpec
  intro mg mb mean dp un gd cn cs a ccd cl outer A₀ base h₀ L m s Q E B F X N T hk hroom hun hE
  simp only [tzLed, List.cons_append, List.nil_append] at N
  k_with "mine call" => ((with_reducible show wpAny _ _ (call (Value.ref 116) _) _ _ _); refine Stop.mk ?_)
  refine wpAny_call ?_
  k_dflt (refine' enterR ?k1'9 ?k2'9 ?k3'9 ?k4'9 ?k5'9 ?kA'9 ?kF'9 ?kK'9 ?k6'9 ?k7'9 ?k8'9 ?k9'9 ?kB'9 ?_ ?c2'9 ?c3'9 ?c4'9 ?c5'9; (case kA'9 => exact rfl); (case kF'9 => exact rfl); (case kK'9 => assumption); (case k1'9 => k_asm); (case k2'9 => k_asm); (case k3'9 => k_asm); (case k4'9 => k_asm); (case k5'9 => k_asm); (case k6'9 => k_is); (case k7'9 => k_is); (case k8'9 => (first | exact rm0 (by assumption) | exact rm1 (by assumption) (by decide) | k_extra "room" | ktr_room)); (case k9'9 => first | exact BindsTo.of_eq rfl | exact binds_K (by k_in) rfl (by k_is) rfl rfl rfl); (case c5'9 => decide); (case kB'9 => exact locs rfl); (case c2'9 => exact rfl); (case c3'9 => exact rfl); (case c4'9 => exact rfl); k_whole; intro _ _ _ _ _ _ _ _ _ l1'9; (try k_lt l1'9); (try dsimp only); (with_reducible refine (?_ : wpAny _ _ _ _ _ _)); (try ((fail_if_success (fail_if_success k_fold)); refine fold_QE ?_; intro _ _)); (try (revert l1'9; intro _)))
  k_steps
  unfold Stop
  rename Fr _ _ _ _ => FR
  (try dsimp +zetaDelta only at FR)
  rename Top _ _ _ _ _ _ => TT
  rename News _ _ _ _ => NR
  rename Frag.In _ _ => XR
  rename Below _ _ _ _ => BR
  k_dflt (refine SR _ _ _ _ _ _ _ _ _ _ _ _ _ _ _ _ _ _ _ _ BR FR XR NR TT rfl (by (first | exact rm0 (by assumption) | exact rm1 (by assumption) (by decide) | k_extra "room" | ktr_room)) (by (first | k_extra "units" | ktr_units)) ?_)
  intro e D tx' tk G h' tk' FG R up
  exact leave_onP (s' := { s with heap := h', toks := tk' }) (ExP.kept D) BR FG R up (fun h3 R3 up3 => hE e D tx' tk _ h3 tk' (by assumption) R3 up3)
section
open PySem.StrLaws PySem.Builtin.Str in
theorem at_pre {l y : List Nat} {k : Nat} (hy : y ≠ []) : At ⟨l.toArray⟩ ⟨y.toArray⟩ (⟨l.toArray⟩ : Str).length k ↔ y <+: l.drop k := by
  unfold At
  rw [subAt_eq]
  have e1 : (⟨y.toArray⟩ : Str).length = y.length := by simp [Str.length]
  have e2 : (⟨l.toArray⟩ : Str).length = l.length := by simp [Str.length]
  rw [e1, e2]
  simp only [beq_iff_eq]
  rw [List.prefix_iff_eq_take]
  constructor
  · exact fun h => h.2.symm
  · intro h
    refine ⟨?_, h.symm⟩
    have := congrArg List.length h
    rw [List.length_take, List.length_drop] at this
    have hp := List.length_pos_iff.mpr hy
    omega
section
variable {g : List Nat → List Nat} {y z : List Nat}
theorem g_skip (h1 : ∀ c t, ¬ (y <+: c :: t) → g (c :: t) = c :: g t) : ∀ (n : Nat) (l : List Nat), (∀ k, k < n → ¬ y <+: l.drop k) → n ≤ l.length → g l = l.take n ++ g (l.drop n)
  | 0, l, _, _ => by simp
  | n + 1, [], _, h => by simp at h
  | n + 1, c :: t, hk, hn => by
    rw [h1 c t (hk 0 (Nat.zero_lt_succ n)), g_skip h1 n t (fun k hkn => hk (k + 1) (by omega)) (by simpa using hn)]
    rfl
open PySem.StrLaws PySem.Builtin.Str in
theorem g_chain (hy : y ≠ []) (h0 : g [] = []) (h1 : ∀ c t, ¬ (y <+: c :: t) → g (c :: t) = c :: g t) (h2 : ∀ t, g (y ++ t) = z ++ g t) (l : List Nat) :
    ∀ (cuts : List Nat) (a f : Nat), ChainG ⟨l.toArray⟩ ⟨y.toArray⟩ (⟨l.toArray⟩ : Str).length a cuts f → (∀ k, f ≤ k → ¬ At ⟨l.toArray⟩ ⟨y.toArray⟩ (⟨l.toArray⟩ : Str).length k) → a ≤ l.length →
      (Str.join ⟨z.toArray⟩ (partsFrom ⟨l.toArray⟩ (⟨y.toArray⟩ : Str).length a cuts)).cps.toList = g (l.drop a)
  | [], a, f, h, hn, ha => by
    have e : f = a := h
    subst e
    show (strSub ⟨l.toArray⟩ f _).cps.toList = _
    rw [strSub_toList]
    have e2 : (⟨l.toArray⟩ : Str).length = l.length := by simp [Str.length]
    rw [e2]
    have hs := g_skip (g := g) h1 (l.length - f) (l.drop f) (fun k _ hp => hn (f + k) (by omega) ((at_pre hy).mpr (by rwa [List.drop_drop] at hp))) (by simp)
    rw [hs, List.drop_drop, show l.drop (f + (l.length - f)) = [] from List.drop_eq_nil_of_le (by omega), h0, List.append_nil]
  | c :: r, a, f, h, hn, ha => by
    obtain ⟨h3, h4, h5, h6⟩ := h
    have e1 : (⟨y.toArray⟩ : Str).length = y.length := by simp [Str.length]
    have hc := (at_pre hy).mp h4
    have hcl : c + y.length ≤ l.length := by
      have := hc.length_le
      rw [List.length_drop] at this
      have hp := List.length_pos_iff.mpr hy
      omega
    have ih := g_chain hy h0 h1 h2 l r (c + y.length) f (by rw [e1] at h6; exact h6) hn hcl
    have hs := g_skip (g := g) h1 (c - a) (l.drop a) (fun k hk hp => h5 (a + k) (by omega) (by omega) ((at_pre hy).mpr (by rwa [List.drop_drop] at hp))) (by simp; omega)
    obtain ⟨t, ht⟩ := hc
    have e3 : l.drop (c + y.length) = t := by
      rw [← List.drop_drop, ← ht, List.drop_left]
    obtain ⟨p, q, e⟩ := partsFrom_ne ⟨l.toArray⟩ (⟨y.toArray⟩ : Str).length (c + (⟨y.toArray⟩ : Str).length) r
    have key : (Str.join ⟨z.toArray⟩ (strSub ⟨l.toArray⟩ a c :: p :: q)).cps.toList = (strSub ⟨l.toArray⟩ a c).cps.toList ++ z ++ (Str.join ⟨z.toArray⟩ (p :: q)).cps.toList := by
      show (strSub ⟨l.toArray⟩ a c ++ ⟨z.toArray⟩ ++ Str.join ⟨z.toArray⟩ (p :: q)).cps.toList = _
      simp only [Str.cps_append, Array.toList_append]
    show (Str.join ⟨z.toArray⟩ (strSub ⟨l.toArray⟩ a c :: partsFrom ⟨l.toArray⟩ (⟨y.toArray⟩ : Str).length (c + (⟨y.toArray⟩ : Str).length) r)).cps.toList = _
    rw [e, key, ← e, e1]
    rw [e1] at ih
    rw [ih, e3, strSub_toList, hs, List.drop_drop, show a + (c - a) = c from by omega, ← ht, h2, List.append_assoc]
open PySem.StrLaws PySem.Builtin.Str in
theorem replace_g (hy : y ≠ []) (h0 : g [] = []) (h1 : ∀ c t, ¬ (y <+: c :: t) → g (c :: t) = c :: g t) (h2 : ∀ t, g (y ++ t) = z ++ g t) (l : List Nat) :
    Txt.replace ⟨l.toArray⟩ ⟨y.toArray⟩ ⟨z.toArray⟩ = ⟨(g l).toArray⟩ := by
  have e1 : (⟨y.toArray⟩ : Str).length = y.length := by simp [Str.length]
  have hp := List.length_pos_iff.mpr hy
  obtain ⟨f, hc, hn⟩ := occ_tight ⟨l.toArray⟩ ⟨y.toArray⟩ (by rw [e1]; exact hp)
  have key := g_chain hy h0 h1 h2 l _ 0 f hc hn (Nat.zero_le _)
  rw [List.drop_zero] at key
  refine PySem.Str.ext' (Array.toList_inj.mp ?_)
  show _ = g l
  rw [← key]
  unfold Txt.replace
  have hyl : ((⟨y.toArray⟩ : Str).length == 0) = false := by rw [e1]; simp; exact hy
  rw [hyl, Bool.false_and, Bool.or_false]
  split
  · rename_i he
    rw [List.isEmpty_iff.mp he]
    show _ = (strSub ⟨l.toArray⟩ 0 _).cps.toList
    rw [strSub_toList]
    simp [Str.length]
  · rw [glued_eq_join, partsBetween_eq]
end
noncomputable def crlf : List Nat → List Nat
  | [] => []
  | [c] => [c]
  | c :: d :: t => if c = 13 ∧ d = 10 then 10 :: crlf t else c :: crlf (d :: t)
noncomputable def crs (l : List Nat) : List Nat := l.map fun c => if c = 13 then 10 else c
theorem crlf_eq (l : List Nat) : Txt.replace ⟨l.toArray⟩ (Str.ofString "\r\n") (Str.ofString "\n") = ⟨(crlf l).toArray⟩ := by
  rw [show Str.ofString "\r\n" = ⟨([13, 10] : List Nat).toArray⟩ from by decide +kernel, show Str.ofString "\n" = ⟨([10] : List Nat).toArray⟩ from by decide +kernel]
  refine replace_g (by simp) rfl ?_ (fun t => by simp [crlf]) l
  intro c t h
  cases t with
  | nil => rfl
  | cons d t =>
    rw [crlf, if_neg]
    rintro ⟨rfl, rfl⟩
    exact h ⟨t, rfl⟩
theorem crs_eq (l : List Nat) : Txt.replace ⟨l.toArray⟩ (Str.ofString "\r") (Str.ofString "\n") = ⟨(crs l).toArray⟩ := by
  rw [show Str.ofString "\r" = ⟨([13] : List Nat).toArray⟩ from by decide +kernel, show Str.ofString "\n" = ⟨([10] : List Nat).toArray⟩ from by decide +kernel]
  refine replace_g (by simp) rfl ?_ (fun t => by simp [crs]) l
  intro c t h
  show (if c = 13 then 10 else c) :: crs t = _
  rw [if_neg]
  rintro rfl
  exact h ⟨t, rfl⟩
theorem nrm_true {d : Nat} {t : List Nat} (h : d ≠ 10) : nrmL true (d :: t) = nrmL false (d :: t) := by
  unfold nrmL
  simp [h]
theorem nrm_crlf : ∀ l : List Nat, crs (crlf l) = nrmL false l
  | [] => rfl
  | [c] => by
    by_cases h : c = 13
    · subst h; rfl
    · simp [crlf, crs, nrmL, h]
  | c :: d :: t => by
    rw [crlf]
    by_cases h : c = 13
    · subst h
      by_cases h2 : d = 10
      · subst h2
        rw [if_pos ⟨rfl, rfl⟩]
        show (if (10 : Nat) = 13 then 10 else 10) :: crs (crlf t) = _
        rw [nrm_crlf t]
        simp [nrmL]
      · rw [if_neg (by simp [h2])]
        show (if (13 : Nat) = 13 then 10 else 13) :: crs (crlf (d :: t)) = _
        rw [nrm_crlf (d :: t), if_pos rfl]
        show _ = (if (13 : Nat) = 13 then 10 :: nrmL true (d :: t) else _)
        rw [if_pos rfl, nrm_true h2]
    · rw [if_neg (by simp [h])]
      show (if c = 13 then 10 else c) :: crs (crlf (d :: t)) = _
      rw [nrm_crlf (d :: t), if_neg h]
      show _ = (if c = 13 then _ else if c = 10 ∧ false = true then _ else c :: nrmL false (d :: t))
      rw [if_neg h, if_neg (by simp)]
theorem nrm_app : ∀ (a b : List Nat) (r : Bool), nrmL r (a ++ b) = nrmL r a ++ nrmL (nrmR r a) b
  | [], _, _ => rfl
  | c :: t, b, r => by
    by_cases h : c = 13
    · subst h
      show (if (13 : Nat) = 13 then 10 :: nrmL true (t ++ b) else _) = (if (13 : Nat) = 13 then 10 :: nrmL true t else _) ++ nrmL (nrmR (decide ((13 : Nat) = 13)) t) b
      rw [if_pos rfl, if_pos rfl, nrm_app t b true]; rfl
    · show (if c = 13 then _ else if c = 10 ∧ r = true then nrmL false (t ++ b) else c :: nrmL false (t ++ b)) = (if c = 13 then _ else if c = 10 ∧ r = true then nrmL false t else c :: nrmL false t) ++ nrmL (nrmR (decide (c = 13)) t) b
      rw [if_neg h, if_neg h, decide_eq_false h, nrm_app t b false]
      split <;> rfl
theorem nrmR_app : ∀ (a b : List Nat) (r : Bool), nrmR r (a ++ b) = nrmR (nrmR r a) b
  | [], _, _ => rfl
  | _ :: t, b, _ => nrmR_app t b _
theorem nrm_len : ∀ (l : List Nat) (r : Bool), (nrmL r l).length ≤ l.length
  | [], _ => Nat.le_refl _
  | c :: t, r => by
    have h1 := nrm_len t true
    have h2 := nrm_len t false
    unfold nrmL
    split
    · simp; omega
    · split <;> simp <;> omega
theorem nrm_good : ∀ (l : List Nat) (r : Bool), (∀ c ∈ l, goodC c) → ∀ c ∈ nrmL r l, c < 100000
  | [], _, _, _, h => nomatch h
  | d :: t, r, hg, c, hc => by
    have h1 := nrm_good t true (fun x hx => hg x (.tail _ hx)) c
    have h2 := nrm_good t false (fun x hx => hg x (.tail _ hx)) c
    have hd : d < 100000 := by have := hg d (.head _); unfold goodC at this; omega
    unfold nrmL at hc
    split at hc
    · rcases List.mem_cons.mp hc with rfl | hc
      · decide
      · exact h1 hc
    · split at hc
      · exact h2 hc
      · rcases List.mem_cons.mp hc with rfl | hc
        · exact hd
        · exact h2 hc
end
section
noncomputable def chOk (l : List Nat) : Prop := ∀ c ∈ l, c < 100000
theorem strOk_l {l : List Nat} (h : chOk l) : PyData.strOk ⟨l.toArray⟩ = true := by
  simp [PyData.strOk]
  intro c hc
  have := h c hc
  omega
/-- a datum of a machine, comparable -/
noncomputable def cOk (d : Dat) : Prop := noB d = true ∧ (kqdP d).canLay0 = true ∧ (kqdP d).depth ≤ 5
theorem cOk.okD {d : Dat} (h : cOk d) : okD d = true := by
  simp only [Mine.okD, Bool.and_eq_true, decide_eq_true_eq]
  exact ⟨⟨h.1, h.2.1⟩, by have := h.2.2; omega⟩
theorem depth_le {n : Nat} : ∀ ds : List Dat, (∀ d ∈ ds, (kqdP d).depth ≤ n) → PyData.depthAll (kqdPs ds) ≤ n
  | [], _ => Nat.zero_le _
  | d :: r, h => by
    rw [kqdPs, PyData.depthAll]
    exact Nat.max_le.mpr ⟨h d (.head _), depth_le r fun e he => h e (.tail _ he)⟩
theorem okl {ds : List Dat} (h : ∀ d ∈ ds, cOk d) : okD (.list ds) = true :=
  okD_list (okDs_of fun d hd => (h d hd).okD) (Nat.le_trans (depth_le ds fun d hd => (h d hd).2.2) (by decide))
theorem cOk_eof : cOk eofD := by
  have h1 : PyData.strOk (Str.ofString "eof") = true := by decide +kernel
  simp [cOk, eofD, noB, noBs, kqdP, kqdPs, PyData.canLay0, PyData.canLayAll0, PyData.depth, PyData.depthAll, h1]
theorem cOk_char {c : Nat} (h : c < 100000) : cOk (charD c) := by
  have h1 : PyData.strOk (Str.ofString "char") = true := by decide +kernel
  have h2 : PyData.strOk ⟨#[c]⟩ = true := by simp [PyData.strOk]; omega
  simp [cOk, charD, noB, noBs, kqdP, kqdPs, PyData.canLay0, PyData.canLayAll0, PyData.depth, PyData.depthAll, h1, h2]
theorem cOk_tok {f : Bool} {wl : List Nat} (h : chOk wl) : cOk (tokD f wl) := by
  have h1 : PyData.strOk (Str.ofString (if f then "start" else "end")) = true := by cases f <;> decide +kernel
  have h2 := strOk_l h
  cases f
  all_goals simp only [if_true, if_false, Bool.false_eq_true] at h1
  all_goals simp [cOk, tokD, noB, noBs, kqdP, kqdPs, PyData.canLay0, PyData.canLayAll0, PyData.depth, PyData.depthAll, h1, h2]
theorem cOk_err {x : Str} {i : Int} (h : PyData.strOk x = true) : cOk (errD x i) := by
  simp [cOk, errD, noB, noBs, kqdP, kqdPs, PyData.canLay0, PyData.canLayAll0, PyData.depth, PyData.depthAll, h]
structure MOk (c : Mc) : Prop where
  out : ∀ d ∈ c.out, cOk d
  errs : ∀ d ∈ c.errs, cOk d
  last : PyData.strOk ⟨c.last.toArray⟩ = true
section
variable {four closed : Bool} {sl : List Nat} {ws : Nat → List Nat × Bool} {c c' : Mc} {n : Nat}
theorem stepF_ok {f : Bool} {wl : List Nat} {k pa : Nat} (hs : chOk sl) (hw : chOk wl) : (∀ d ∈ (stepF sl closed wl f k pa).out, cOk d) ∧ (∀ d ∈ (stepF sl closed wl f k pa).errs, cOk d) ∧ ∀ l, (stepF sl closed wl f k pa).last = some l → PyData.strOk ⟨l.toArray⟩ = true := by
  have e1 : PyData.strOk (Str.ofString "taken") = true := by decide +kernel
  have e2 : PyData.strOk (Str.ofString "passed") = true := by decide +kernel
  rcases hq : sl[pa]? with _ | c
  · rw [stepF_end hq]
    refine ⟨fun d hd => ?_, fun d hd => (nomatch hd), fun l hl => (nomatch hl)⟩
    rw [List.mem_singleton.mp hd]; exact cOk_eof
  · have hc : c < 100000 := hs c (List.mem_of_getElem? hq)
    rcases look_three sl closed f wl (pa + 1) with hL | hL | hL
    · rw [stepF_take hq hL]
      refine ⟨fun d hd => ?_, fun d hd => ?_, fun l hl => ?_⟩
      · rcases List.mem_append.mp hd with hd | hd
        · obtain ⟨x, hx, rfl⟩ := List.mem_map.mp hd
          refine cOk_char ?_
          rcases List.mem_cons.mp hx with rfl | hx
          · exact hc
          · exact hw x hx
        · rw [List.mem_singleton.mp hd]; exact cOk_tok hw
      · rw [List.mem_singleton.mp hd]; exact cOk_err e1
      · cases f
        · exact nomatch hl
        · cases hl; exact strOk_l hw
    · rcases Nat.mod_two_eq_zero_or_one k with hk | hk
      · rw [stepF_again hq hL hk]; exact ⟨fun d hd => (nomatch hd), fun d hd => (nomatch hd), fun l hl => (nomatch hl)⟩
      · rw [stepF_pass hq hL hk]
        exact ⟨fun d hd => by rw [List.mem_singleton.mp hd]; exact cOk_char hc, fun d hd => by rw [List.mem_singleton.mp hd]; exact cOk_err e2, fun l hl => (nomatch hl)⟩
    · rw [stepF_wait hq hL]; exact ⟨fun d hd => (nomatch hd), fun d hd => (nomatch hd), fun l hl => (nomatch hl)⟩
theorem nextM_ok (hs : chOk sl) (hw : ∀ k < 4, chOk (ws k).1) (hk : c.k < 4) (h : MOk c) : MOk (nextM sl closed ws c) := by
  obtain ⟨s1, s2, s3⟩ := stepF_ok (closed := closed) (f := (ws c.k).2) (k := c.k) (pa := c.at') hs (hw c.k hk)
  refine ⟨fun d hd => ?_, fun d hd => ?_, ?_⟩
  · rcases List.mem_append.mp hd with hd | hd
    · exact h.out d hd
    · exact s1 d hd
  · rcases List.mem_append.mp hd with hd | hd
    · exact h.errs d hd
    · exact s2 d hd
  · show PyData.strOk ⟨((stepF sl closed (ws c.k).1 (ws c.k).2 c.k c.at').last.getD c.last).toArray⟩ = true
    cases hl : (stepF sl closed (ws c.k).1 (ws c.k).2 c.k c.at').last with
    | none => exact h.last
    | some l => exact s3 l hl
theorem ready_k (h : ready four n closed c = true) : c.k < 4 := by
  have := many_le four
  simp [ready] at h; omega
theorem runs_ok (hs : chOk sl) (hw : ∀ k < 4, chOk (ws k).1) (h : RunsIn four sl closed ws n c c') : MOk c → MOk c' := by
  induction h with
  | stop _ _ => exact id
  | step hr _ _ _ _ ih => exact fun m => ih (nextM_ok hs hw (ready_k hr) m)
/-- how far a machine has come -/
noncomputable def far (at' k : Nat) : Nat := 2 * at' + k % 2
theorem look_le : ∀ {wl : List Nat} {a : Nat} {f : Bool}, lookF sl closed f wl a = 1 → a ≤ sl.length → a + wl.length ≤ sl.length
  | [], _, _, _, h => h
  | c :: r, a, f, hL, h => by
    unfold lookF at hL
    rcases hq : sl[a]? with _ | d
    · rw [hq] at hL
      cases closed <;> simp at hL
    · have hlt := (List.getElem?_eq_some_iff.mp hq).1
      rw [hq] at hL
      dsimp only at hL
      split at hL
      · have := look_le hL hlt
        rw [List.length_cons]; omega
      · exact absurd hL (by decide)
theorem look_ext {e : List Nat} {cl : Bool} : ∀ {wl : List Nat} {a : Nat} {f : Bool}, lookF sl false f wl a ≠ -1 → lookF (sl ++ e) cl f wl a = lookF sl false f wl a
  | [], _, _, _ => rfl
  | c :: r, a, f, h => by
    unfold lookF at h ⊢
    rcases hq : sl[a]? with _ | d
    · rw [hq] at h; exact absurd rfl h
    · have hlt := (List.getElem?_eq_some_iff.mp hq).1
      rw [hq] at h
      rw [List.getElem?_append_left hlt, hq]
      dsimp only at h ⊢
      split
      · rename_i hf
        rw [if_pos hf] at h
        exact look_ext h
      · rfl
/-- a step that waits, and one that does not -/
theorem stepF_way {f : Bool} {wl : List Nat} {k pa : Nat} (hp : pa < sl.length) (hk : k < 4) :
    stepF sl closed wl f k pa = ⟨pa, k, [], [], true, false, none⟩ ∨
    ((stepF sl closed wl f k pa).waiting = false ∧ (stepF sl closed wl f k pa).done = false ∧ (stepF sl closed wl f k pa).k < 4 ∧ (stepF sl closed wl f k pa).at' ≤ sl.length ∧ far pa k < far (stepF sl closed wl f k pa).at' (stepF sl closed wl f k pa).k ∧
      (stepF sl closed wl f k pa).out.length + 2 * far pa k ≤ 2 * far (stepF sl closed wl f k pa).at' (stepF sl closed wl f k pa).k ∧ (stepF sl closed wl f k pa).errs.length + far pa k ≤ far (stepF sl closed wl f k pa).at' (stepF sl closed wl f k pa).k ∧
      (closed = false → ∀ e cl, stepF (sl ++ e) cl wl f k pa = stepF sl closed wl f k pa)) := by
  have hq : sl[pa]? = some sl[pa] := by simp [hp]
  generalize sl[pa] = c at hq
  have hq2 : ∀ e : List Nat, (sl ++ e)[pa]? = some c := fun e => by rw [List.getElem?_append_left hp]; exact hq
  rcases look_three sl closed f wl (pa + 1) with hL | hL | hL
  · right
    have h1 := look_le hL hp
    rw [stepF_take hq hL]
    refine ⟨rfl, rfl, Nat.mod_lt _ (by decide), h1, ?_, ?_, ?_, ?_⟩
    · unfold far; dsimp only; omega
    · unfold far; simp only [List.length_append, List.length_map, List.length_cons, List.length_nil]; omega
    · unfold far; simp only [List.length_cons, List.length_nil]; omega
    · rintro rfl e cl
      exact stepF_take (hq2 e) (by rw [look_ext (by rw [hL]; decide)]; exact hL)
  · right
    rcases Nat.mod_two_eq_zero_or_one k with hk2 | hk2
    · rw [stepF_again hq hL hk2]
      refine ⟨rfl, rfl, Nat.mod_lt _ (by decide), Nat.le_of_lt hp, ?_, ?_, ?_, ?_⟩
      · unfold far; dsimp only; omega
      · unfold far; simp only [List.length_nil]; omega
      · unfold far; simp only [List.length_nil]; omega
      · rintro rfl e cl
        exact stepF_again (hq2 e) (by rw [look_ext (by rw [hL]; decide)]; exact hL) hk2
    · rw [stepF_pass hq hL hk2]
      refine ⟨rfl, rfl, Nat.mod_lt _ (by decide), hp, ?_, ?_, ?_, ?_⟩
      · unfold far; dsimp only; omega
      · unfold far; simp only [List.length_cons, List.length_nil]; omega
      · unfold far; simp only [List.length_cons, List.length_nil]; omega
      · rintro rfl e cl
        exact stepF_pass (hq2 e) (by rw [look_ext (by rw [hL]; decide)]; exact hL) hk2
  · left
    exact stepF_wait hq hL
/-- a machine that is not done, within its bounds -/
structure Bnd (sl : List Nat) (c : Mc) : Prop where
  at' : c.at' ≤ sl.length
  k : c.k < 4
  done : c.done = false
  out : c.out.length ≤ 2 * far c.at' c.k
  errs : c.errs.length ≤ far c.at' c.k
theorem Bnd.lens (b : Bnd sl c) : c.out.length ≤ 4 * sl.length + 2 ∧ c.errs.length ≤ 2 * sl.length + 1 := by
  obtain ⟨h1, h2, h3, h4, h5⟩ := b
  unfold far at h4 h5
  omega
theorem Bnd.wait (b : Bnd sl c) (wt : Bool) : Bnd sl { c with waiting := wt } := ⟨b.1, b.2, b.3, b.4, b.5⟩
theorem Bnd.more (b : Bnd sl c) (e : List Nat) : Bnd (sl ++ e) c := ⟨by rw [List.length_append]; have := b.1; omega, b.2, b.3, b.4, b.5⟩
theorem Bnd.zero : Bnd sl mc0 := ⟨Nat.zero_le _, by decide, rfl, Nat.zero_le _, Nat.zero_le _⟩
theorem Bnd.next (b : Bnd sl c) (hp : c.at' < sl.length) :
    ((nextM sl closed ws c).waiting = true ∧ nextM sl closed ws c = { c with waiting := true }) ∨
    ((nextM sl closed ws c).waiting = false ∧ Bnd sl (nextM sl closed ws c) ∧ far c.at' c.k < far (nextM sl closed ws c).at' (nextM sl closed ws c).k ∧ (closed = false → ∀ e cl, nextM (sl ++ e) cl ws c = nextM sl closed ws c)) := by
  obtain ⟨b1, b2, b3, b4, b5⟩ := b
  rcases @stepF_way closed sl (ws c.k).2 (ws c.k).1 c.k c.at' hp b2 with h | ⟨h1, h2, h3, h4, h5, h6, h7, h8⟩
  · left
    unfold nextM
    rw [h]
    exact ⟨rfl, by simp⟩
  · right
    refine ⟨h1, ⟨h4, h3, ?_, ?_, ?_⟩, h5, ?_⟩
    · show ((stepF sl closed (ws c.k).1 (ws c.k).2 c.k c.at').done || c.done) = false
      rw [h2, b3]; rfl
    · show (c.out ++ (stepF sl closed (ws c.k).1 (ws c.k).2 c.k c.at').out).length ≤ 2 * far (stepF sl closed (ws c.k).1 (ws c.k).2 c.k c.at').at' (stepF sl closed (ws c.k).1 (ws c.k).2 c.k c.at').k
      rw [List.length_append]; omega
    · show (c.errs ++ (stepF sl closed (ws c.k).1 (ws c.k).2 c.k c.at').errs).length ≤ far (stepF sl closed (ws c.k).1 (ws c.k).2 c.k c.at').at' (stepF sl closed (ws c.k).1 (ws c.k).2 c.k c.at').k
      rw [List.length_append]; omega
    · intro hc e cl
      unfold nextM
      rw [h8 hc e cl]
theorem ready_at (h : ready four sl.length closed c = true) : closed = true ∨ c.at' < sl.length := by
  simp [ready] at h
  exact h.2
theorem not_ready_wait (h : c.waiting = true) : ready four n closed c = false := by simp [ready, h]
theorem not_ready_done (h : c.done = true) : ready four n closed c = false := by simp [ready, h]
theorem RunsIn.stopped (h : RunsIn four sl closed ws n c c') (hr : ready four sl.length closed c = false) : c' = c := by
  cases h with
  | stop _ _ => rfl
  | step h _ _ _ _ => rw [hr] at h; cases h
theorem next_end (hp : c.at' = sl.length) (hk : c.k < 4) : (nextM sl closed ws c).done = true ∧ (nextM sl closed ws c).k = c.k ∧ (nextM sl closed ws c).out = c.out ++ [eofD] ∧ (nextM sl closed ws c).errs = c.errs := by
  have hq : sl[c.at']? = none := List.getElem?_eq_none_iff.mpr (by omega)
  unfold nextM
  rw [stepF_end hq]
  exact ⟨rfl, rfl, rfl, List.append_nil _⟩
theorem runs_exist (hn : sl.length ≤ 1000) : ∀ (f : Nat) (c : Mc), Bnd sl c → 2 * sl.length + 2 ≤ f + far c.at' c.k → ∃ n c', RunsIn four sl closed ws n c c'
  | 0, c, b, h => by
    have := b.1
    unfold far at h
    omega
  | f + 1, c, b, h => by
    by_cases hr : ready four sl.length closed c = true
    · have hl := b.lens
      have l1 : c.out.length ≤ 10000 := by omega
      have l2 : c.errs.length ≤ 10000 := by omega
      rcases Nat.lt_or_ge c.at' sl.length with hp | hp
      · rcases b.next (closed := closed) (ws := ws) hp with ⟨hw, e⟩ | ⟨hw, b2, hf, _⟩
        · exact ⟨_, _, .step hr l1 l2 b.1 (.stop (not_ready_wait hw) (by rw [e]; have := b.2; show c.k < 5; omega))⟩
        · obtain ⟨n, c', rr⟩ := runs_exist hn f _ b2 (by omega)
          exact ⟨_, _, .step hr l1 l2 b.1 rr⟩
      · obtain ⟨q1, q2, _, _⟩ := next_end (closed := closed) (ws := ws) (c := c) (sl := sl) (by have := b.1; omega) b.2
        exact ⟨_, _, .step hr l1 l2 b.1 (.stop (not_ready_done q1) (by rw [q2]; have := b.2; omega))⟩
    · exact ⟨_, _, .stop (by simpa using hr) (by have := b.2; omega)⟩
theorem runs_end (h : RunsIn four sl closed ws n c c') : Bnd sl c → Bnd sl c' ∨ (closed = true ∧ c'.out.length ≤ 4 * sl.length + 3 ∧ c'.errs.length ≤ 2 * sl.length + 1) := by
  induction h with
  | stop _ _ => exact .inl
  | @step c c' n hr _ _ _ rr ih =>
    intro b
    rcases Nat.lt_or_ge c.at' sl.length with hp | hp
    · rcases b.next (closed := closed) (ws := ws) hp with ⟨hw, e⟩ | ⟨hw, b2, hf, _⟩
      · rw [rr.stopped (not_ready_wait hw), e]
        exact .inl (b.wait true)
      · exact ih b2
    · obtain ⟨q1, q2, q3, q4⟩ := next_end (closed := closed) (ws := ws) (c := c) (sl := sl) (by have := b.1; omega) b.2
      have hl := b.lens
      right
      rw [rr.stopped (not_ready_done q1), q3, q4, List.length_append, List.length_singleton]
      refine ⟨?_, by omega, by omega⟩
      rcases ready_at hr with h | h
      · exact h
      · omega
theorem ready_more {e : List Nat} {cl : Bool} (h : ready four sl.length false c = true) : ready four (sl ++ e).length cl c = true := by
  simp [ready] at h ⊢
  refine ⟨h.1, ?_⟩
  have := h.2
  right; omega
/-- a machine that is fed on is the machine of the whole text -/
theorem runs_inc {e : List Nat} {cl : Bool} {m : Nat} {c2 : Mc} (h : RunsIn four sl false ws n c c') : Bnd sl c → c.waiting = false → RunsIn four (sl ++ e) cl ws m { c' with waiting := false } c2 → ∃ n', RunsIn four (sl ++ e) cl ws n' c c2 := by
  induction h with
  | @stop c hr _ =>
    intro _ hw r
    refine ⟨m, ?_⟩
    have e : c = { c with waiting := false } := by rw [← hw]
    rw [e]; exact r
  | @step c c' n hr h1 h2 h3 rr ih =>
    intro b hw r
    have hp : c.at' < sl.length := by
      rcases ready_at hr with h | h
      · cases h
      · exact h
    rcases b.next (closed := false) (ws := ws) hp with ⟨hw2, e2⟩ | ⟨hw2, b2, hf, hx⟩
    · rw [rr.stopped (not_ready_wait hw2), e2] at r
      refine ⟨m, ?_⟩
      have e : c = { c with waiting := false } := by rw [← hw]
      rw [e]; exact r
    · obtain ⟨n', r'⟩ := ih b2 hw2 r
      refine ⟨n' + 1, .step (ready_more hr) h1 h2 (by rw [List.length_append]; omega) ?_⟩
      rw [hx rfl e cl]
      exact r'
end
end
/-- one step of the machine, its tuples' ledger left out -/
theorem step_mc1 (w : World) (Z : Tz) (S : Ts) (hZ : Z.Ok) (four : Bool) (O : StOk w Z four) (ws : Nat → List Nat × Bool) (W : WsOk S.buf ws) (sl : List Nat) (G : SgOk S sl) (c : Mc) (nt : Led) (R : Rel S nt c) (hk : c.k < manyOf four) (ho1 : c.out.length ≤ 10000) (ho2 : c.errs.length ≤ 10000) :
    Spec w 40 279 [.ref Z.t] (tzLed w Z S)
      (fun r led' => r = .none ∧ ∃ S' new, led' = tzLed w Z S' ++ new ∧ Tups new ∧ Same S S' ∧ Rel S' (new ++ nt) (nextM sl S.closed ws c)) := by
  have hk4 : c.k < 4 := Nat.lt_of_lt_of_le hk (many_le four)
  refine (step_spec w Z S hZ four O c.k hk R.state (ws c.k).1 (if (ws c.k).2 then 126 else 61) (ws c.k).2 (by cases (ws c.k).2 <;> decide +kernel) (W.word _ hk4) (W.len _ hk4) W.buf (by rw [R.out.length]; exact ho1) (by rw [R.errs.length]; exact ho2) sl G.sg G.le G.sm).mono ?_
  rintro r led' ⟨rfl, vs, es, nt', a1, a2, a6, n3, n4, rfl, hT, hD, hE⟩
  have hs1 : ∀ p ∈ nt, p ∈ nt' ++ nt := fun p hp => List.mem_append_right _ hp
  have hs2 : ∀ p ∈ nt', p ∈ nt' ++ nt := fun p hp => List.mem_append_left _ hp
  refine ⟨rfl, _, nt', rfl, hT, ⟨rfl, rfl, rfl, rfl, rfl, rfl⟩, ?_⟩
  constructor
  · show _ = (nextM sl S.closed ws c).at'
    rw [nextM, ← R.at']; rfl
  · show _ = nm (nextM sl S.closed ws c).k
    rw [nextM, ← R.at']; rfl
  · show _ = (⟨(nextM sl S.closed ws c).last.toArray⟩ : Str)
    rw [nextM, ← R.at']
    dsimp only [after]
    cases (stepF sl S.closed (ws c.k).1 (ws c.k).2 c.k S.at').last with
    | none => exact R.last
    | some l => rfl
  · show _ = (nextM sl S.closed ws c).waiting
    rw [nextM, ← R.at']; simp [after]
  · show _ = (nextM sl S.closed ws c).done
    rw [nextM, ← R.at', ← R.done]; rfl
  · show DatAll _ _ (nextM sl S.closed ws c).out
    rw [nextM, ← R.at']
    exact DatAll.append (R.out.mono hs1) (hD.mono hs2)
  · show DatAll _ _ (nextM sl S.closed ws c).errs
    rw [nextM, ← R.at']
    exact DatAll.append (R.errs.mono hs1) (hE.mono hs2)
  · intro p hp
    rcases List.mem_append.mp hp with hp | hp
    · exact hT p hp
    · exact R.tups p hp
theorem regroup {g h : Heap} {L : Addr} {T O E : Addr × Obj} {led' pre tl : Led} (N : News g L h (led' ++ (pre ++ tl))) (mT : T ∈ led') (mO : O ∈ led') (mE : E ∈ led') : News g L h (T :: O :: E :: (pre ++ (tl ++ led'))) := News.sub N fun p hp => by
  simp only [List.mem_cons, List.mem_append] at hp ⊢
  rcases hp with rfl | rfl | rfl | h | h | h
  · exact .inl mT
  · exact .inl mO
  · exact .inl mE
  · exact .inr (.inl h)
  · exact .inr (.inr h)
  · exact .inl h
/-- the last start word behind a step -/
theorem last_strs2 {vs : List Value} {t : Tok} {l : List Nat} {o : Option (List Nat)} (h : StrsAre vs (o.toList.map (fun l => (⟨l.toArray⟩ : Str)))) : ∃ pre, StrsAre (Value.str ⟨l.toArray⟩ t :: vs) (pre ++ [(⟨(o.getD l).toArray⟩ : Str)]) := by
  cases o with
  | none => exact ⟨[], .cons _ _ h⟩
  | some z => exact ⟨[⟨l.toArray⟩], .cons _ _ h⟩
theorem fmod_natG (x : Int) (m : Nat) (hm : 0 < m) : ∃ j : Nat, Int.fmod x (m : Int) = (j : Int) ∧ j < m := by
  have h1 := Int.fmod_lt_of_pos x (b := (m : Int)) (by omega)
  have h2 := Int.fmod_nonneg_of_pos x (b := (m : Int)) (by omega)
  exact ⟨(Int.fmod x m).toNat, by omega, by omega⟩
noncomputable def jn (c : Nat) : List (List Nat) → List Nat
  | [] => []
  | [p] => p
  | p :: q :: r => p ++ c :: jn c (q :: r)
theorem cut_eq {c : Nat} : ∀ {p q a b : List Nat}, c ∉ p → c ∉ q → p ++ c :: a = q ++ c :: b → p = q ∧ a = b
  | [], [], _, _, _, _, h => ⟨rfl, (List.cons.inj h).2⟩
  | [], y :: t, _, _, _, hq, h => absurd (List.mem_cons.mpr (.inl (List.cons.inj h).1)) hq
  | x :: s, [], _, _, hp, _, h => absurd (List.mem_cons.mpr (.inl (List.cons.inj h).1.symm)) hp
  | x :: s, y :: t, a, b, hp, hq, h => by
    obtain ⟨h1, h2⟩ := List.cons.inj h
    obtain ⟨e1, e2⟩ := cut_eq (fun m => hp (.tail _ m)) (fun m => hq (.tail _ m)) h2
    exact ⟨by rw [h1, e1], e2⟩
theorem jn_inj {c : Nat} : ∀ {P Q : List (List Nat)}, P ≠ [] → Q ≠ [] → (∀ p ∈ P, c ∉ p) → (∀ q ∈ Q, c ∉ q) → jn c P = jn c Q → P = Q
  | [], _, h, _, _, _, _ => absurd rfl h
  | _, [], _, h, _, _, _ => absurd rfl h
  | [p], [q], _, _, _, _, h => by rw [show p = q from h]
  | [p], q :: q2 :: r, _, _, hp, _, h => absurd (by rw [show p = q ++ c :: jn c (q2 :: r) from h]; simp) (hp p (.head _))
  | p :: p2 :: r, [q], _, _, _, hq, h => absurd (by rw [show q = p ++ c :: jn c (p2 :: r) from h.symm]; simp) (hq q (.head _))
  | p :: p2 :: r, q :: q2 :: s, _, _, hp, hq, h => by
    obtain ⟨e1, e2⟩ := cut_eq (hp p (.head _)) (hq q (.head _)) h
    rw [e1, jn_inj (by simp) (by simp) (fun x hx => hp x (.tail _ hx)) (fun x hx => hq x (.tail _ hx)) e2]
theorem jn_join (c : Nat) : ∀ ps : List Str, (Str.join ⟨#[c]⟩ ps).cps.toList = jn c (ps.map (·.cps.toList))
  | [] => rfl
  | [p] => rfl
  | p :: q :: r => by
    show (p ++ ⟨#[c]⟩ ++ Str.join ⟨#[c]⟩ (q :: r)).cps.toList = p.cps.toList ++ c :: jn c ((q :: r).map (·.cps.toList))
    rw [← jn_join c (q :: r)]
    simp [Str.cps_append]
open PySem.StrLaws PySem.Builtin.Str in
theorem split_ne (x y : Str) : Txt.split x y ≠ [] := by
  unfold Txt.split
  split
  · simp
  · split
    · simp
    · rw [partsBetween_eq]
      obtain ⟨p, r, e⟩ := partsFrom_ne x y.length 0 (occurrences x y 0 x.length (x.length + 1))
      first | (rw [e]; simp; done) | (intro h; simp at h)
theorem cps_inj {a b : List Str} (h : a.map (·.cps.toList) = b.map (·.cps.toList)) : a = b := by
  refine (List.map_inj_right (f := fun s : Str => s.cps.toList) ?_).mp h
  intro x y e
  exact PySem.Str.ext' (Array.toList_inj.mp e)
/-- the split of a join -/
theorem split_of_join (c : Nat) (ps : List Str) (hne : ps ≠ []) (hf : ∀ p ∈ ps, c ∉ p.cps.toList) : Txt.split (Str.join ⟨#[c]⟩ ps) ⟨#[c]⟩ = ps := by
  refine cps_inj (jn_inj (c := c) ?_ ?_ ?_ ?_ ?_)
  · intro h; exact split_ne _ _ (List.map_eq_nil_iff.mp h)
  · intro h; exact hne (List.map_eq_nil_iff.mp h)
  · intro p hp
    obtain ⟨q, hq, rfl⟩ := List.mem_map.mp hp
    exact StrLaws.split_free _ c q hq
  · intro p hp
    obtain ⟨q, hq, rfl⟩ := List.mem_map.mp hp
    exact hf q hq
  · rw [← jn_join, ← jn_join, StrLaws.join_split]
theorem ws_code (ns : List Int) (k : Nat) : ∀ c ∈ (wsOf ns k).1, c < 124 := by
  have h := w11_len (wIdx ns k) (wIdx_lt ns k)
  have h2 : ∀ j, j < 11 → ∀ c ∈ w11.getD j [], c < 124 ∧ lowC c < 124 := by decide
  intro c hc
  unfold wsOf at hc
  split at hc
  · obtain ⟨d, hd, rfl⟩ := List.mem_map.mp hc
    exact (h2 _ (wIdx_lt ns k) d hd).2
  · exact (h2 _ (wIdx_lt ns k) c hc).1
theorem ws_ch (ns : List Int) (k : Nat) : chOk (wsOf ns k).1 := fun c hc => by have := ws_code ns k c hc; omega
theorem buf_join (ws : Nat → List Nat × Bool) : bufOf ws = Str.join ⟨#[124]⟩ ((List.range 4).map fun k => part (ws k)) := by
  unfold bufOf
  rw [show Str.ofString "|" = ⟨#[124]⟩ from by decide +kernel]
  exact StrLaws.glued_eq_join _ _
theorem buf_len (ns : List Int) : (bufOf (wsOf ns)).length ≤ 35 := by
  rw [buf_join]
  have h0 := wsOf_len ns 0
  have h1 := wsOf_len ns 1
  have h2 := wsOf_len ns 2
  have h3 := wsOf_len ns 3
  show (part (wsOf ns 0) ++ ⟨#[124]⟩ ++ (part (wsOf ns 1) ++ ⟨#[124]⟩ ++ (part (wsOf ns 2) ++ ⟨#[124]⟩ ++ part (wsOf ns 3)))).length ≤ 35
  simp only [Str.length_append, part_len]
  have : (⟨#[124]⟩ : Str).length = 1 := rfl
  omega
theorem ws_ok (ns : List Int) : WsOk (bufOf (wsOf ns)) (wsOf ns) := by
  have hs : Txt.split (bufOf (wsOf ns)) (Str.ofString "|") = (List.range 4).map fun k => part (wsOf ns k) := by
    rw [buf_join, show Str.ofString "|" = ⟨#[124]⟩ from by decide +kernel]
    refine split_of_join 124 _ (by simp) ?_
    intro p hp hm
    obtain ⟨k, hk, rfl⟩ := List.mem_map.mp hp
    simp only [part] at hm
    rcases List.mem_cons.mp hm with h | h
    · split at h <;> omega
    · have := ws_code ns k _ h; omega
  refine ⟨fun k hk => ?_, fun k _ => by have := wsOf_len ns k; omega, by have := buf_len ns; rw [sizeLine_eq]; omega⟩
  rw [hs]
  simp [hk, part]
theorem str_of_ok {x : Str} (h : ∀ c ∈ x.cps.toList, c < 100000) : PyData.strOk x = true := by
  simp only [PyData.strOk]
  rw [← Array.all_toList]
  exact List.all_eq_true.mpr fun c hc => decide_eq_true (by have := h c hc; omega)
theorem jn_mem {c x : Nat} : ∀ {P : List (List Nat)}, x ∈ jn c P → x = c ∨ ∃ p ∈ P, x ∈ p
  | [], h => nomatch h
  | [p], h => .inr ⟨p, .head _, h⟩
  | p :: q :: r, h => by
    rcases List.mem_append.mp (show x ∈ p ++ c :: jn c (q :: r) from h) with h | h
    · exact .inr ⟨p, .head _, h⟩
    rcases List.mem_cons.mp h with h | h
    · exact .inl h
    rcases jn_mem h with h | ⟨p', hp, hx⟩
    · exact .inl h
    · exact .inr ⟨p', .tail _ hp, hx⟩
theorem buf_ok (ns : List Int) : PyData.strOk (bufOf (wsOf ns)) = true := by
  refine str_of_ok fun c hc => ?_
  rw [buf_join, jn_join] at hc
  rcases jn_mem hc with rfl | ⟨p, hp, hx⟩
  · decide
  · obtain ⟨q, hq, rfl⟩ := List.mem_map.mp hp
    obtain ⟨k, _, rfl⟩ := List.mem_map.mp hq
    rcases List.mem_cons.mp hx with h | h
    · split at h <;> omega
    · have := ws_code ns k c h; omega
/-- what a call that catches does: called from the lowest frame, whose slots may change -/
noncomputable def SpecG (w : World) (k : Nat) (f : Addr) (args : List Value) (led : Led) (Post : Value → Led → Prop) : Prop :=
  ∀ (mg mb : Str → Option Value) (mean : ExcName → Option Value) (dp un : Nat) (gd : Option (List Code)) (cn : Str) (cs : Scope) (a : Addr) (ccd : Value) (A₀ : Around) (h₀ : Heap) (L : Addr) (m : Str → Option Value) (s : Shared)
    (Q E : Value → Shared → Prop),
    Below A₀ h₀ [] h₀ → Fr h₀ L s.heap m → (hd.heap_1_39 w.params).In h₀ → News h₀ L s.heap led → Top hd.view_1_40 (looseW hd.view_1_40 []) mean mg mb h₀ → cs.kind = .function →
    dp + k < recursionLimit → un + 10 * k < cLine →
    (∀ r led' h' tk', Fr h₀ L h' m → News h₀ L h' led' → Post r led' → Q r { s with heap := h', toks := tk' }) →
    wpAny (model PySem.Challenge.rw_nt0598_01.row.prog w) (ktrTop dp un gd cn cs L a ccd [] []) (call (.ref f) args) Q E s
theorem lit_item {w : World} {A : Around} {E : Value → Shared → Prop} {s : Shared} {h₀ : Heap} {L l : Addr} {news : Led} {vs : List Value} {n : Nat} {k : Int} {u : Tok} {v : Value} {value slice : PySem.Expr} {Q : Value → Shared → Prop} (N : News h₀ L s.heap news) (hm : (l, W.listOf vs.toArray n) ∈ news) (h0 : 0 ≤ k) (hk : k < 2 ^ 63) (hq : vs[k.toNat]? = some v) (h : Q v s)
    (hs' : subscripted slice false (.ref l) (.int k u) = operate [.ref l, .int k u] (getItem (.ref l) (.int k u)) := by with_unfolding_all rfl) :
    wpAny (model prg w) A (subscriptTail value slice (.ref l) (.int k u)) Q E s :=
  have hl : s.heap.IsList l vs.toArray := News.isList N hm
  tail_any hl.typeIs slot_list_getitem.lookup (wpAny_getItem_list hl h0 hk (by simpa using hq) h) hs'
theorem front6 {g h : Heap} {L : Addr} {x1 x2 x3 x4 x5 x6 : Addr × Obj} {A tl : Led} (N : News g L h (x1 :: x2 :: x3 :: x4 :: x5 :: x6 :: (A ++ tl))) : News g L h (A ++ (x1 :: x2 :: x3 :: x4 :: x5 :: x6 :: tl)) := News.sub N fun p hp => by
  simp only [List.mem_append, List.mem_cons] at hp ⊢
  rcases hp with h | h | h | h | h | h | h | h <;> simp [h]
theorem gname {A : Around} {base g : Heap} {l : List Env} (_ : Below A base l g) : ∃ g₂, g₂ = g := ⟨g, rfl⟩
theorem tz_ne {w : World} {Z : Tz} {S S' : Ts} {X : Led} {I : Addr} (h : ∀ p ∈ tzLed w Z S ++ X, p.1 ≠ I) : ∀ p ∈ tzLed w Z S' ++ X, p.1 ≠ I := by
  intro p hp
  rcases List.mem_append.mp hp with hp | hp
  · have : p.1 ∈ (tzLed w Z S').map (·.1) := List.mem_map_of_mem hp
    rw [tz_addr, ← tz_addr w Z S] at this
    obtain ⟨q, hq, e⟩ := List.mem_map.mp this
    rw [← e]
    exact h q (List.mem_append_left _ hq)
  · exact h p (List.mem_append_right _ hp)
theorem tz_own {w : World} {Z : Tz} {S S' : Ts} {X : Led} (h : OwnOff X ((tzLed w Z S).map (·.1))) : OwnOff X ((tzLed w Z S').map (·.1)) := by
  rw [tz_addr] at h ⊢
  exact h
theorem turnG_next {L I : Addr} {oI : Obj} {J : Heap → (Str → Option Value) → Led → Prop} {s₁ : Shared} {Q : Flow → Shared → Prop} {g h' : Heap} {tk : Nat} {m' : Str → Option Value} {led' : Led} (F : Fr g L h' m') (N : News g L h' ((I, oI) :: led')) (hne : ∀ p ∈ led', p.1 ≠ I) (hJ : J g m' led') :
    TurnG L I oI J s₁ Q .next { s₁ with heap := h', toks := tk } := ⟨g, h', tk, m', led', rfl, F, N, hne, hJ⟩
theorem why_at {g h : Heap} {L e D : Addr} {oe o : Obj} {led : Led} (N : News g L h ((e, oe) :: (D, o) :: led)) (P : ExP D oe) (nc : notCls oe = true) : InstAt h e oe 51 (some o) := by
  refine ⟨(N _ (.head _)).1, P.1, nc, ?_⟩
  rw [P.2]
  exact (N _ (.tail _ (.head _))).1
theorem ne9r {D c1 c2 c3 c4 c5 c6 c7 c8 c9 : Nat} {P : Prop} (h : c1 < D ∧ c2 < D ∧ c3 < D ∧ c4 < D ∧ c5 < D ∧ c6 < D ∧ c7 < D ∧ c8 < D ∧ c9 < D ∧ P) : ∀ b ∈ [c1, c2, c3, c4, c5, c6, c7, c8, c9], D ≠ b := ne9 h
theorem pickG {a b c n d e x1 x2 x3 x4 x5 x6 x7 x8 x9 x10 : Addr × Obj} {A tl : Led} : ∀ p ∈ [a, d, e] ++ (A ++ tl), p ∈ a :: b :: c :: n :: d :: e :: x1 :: x2 :: x3 :: x4 :: x5 :: x6 :: x7 :: x8 :: x9 :: x10 :: (A ++ tl) := by
  intro p hp
  simp only [List.mem_append, List.mem_cons, List.not_mem_nil, or_false] at hp ⊢
  rcases hp with (h | h | h) | h | h <;> simp [h]
/-- what stands between the turns -/
theorem g_top {a n0 : Nat} (h : a ≤ n0 + 1002 * 5) (hn : n0 ≤ 4000) : a ≤ 9999 := by omega
theorem g_now {a b n0 i : Nat} (q : a = b) (h : b ≤ n0 + 1002 * i) (hi : i < 5) (hn : n0 ≤ 4000) : a ≤ 8008 := by omega
theorem g_nxt {a b n0 i : Nat} (h : a ≤ n0 + 1002 * i) (hb : b ≤ 1002) : a + b ≤ n0 + 1002 * (i + 1) := by omega
theorem g_keep {a n0 i : Nat} (h : a ≤ n0 + 1002 * i) : a ≤ n0 + 1002 * (i + 1) := Nat.le_trans h (Nat.add_le_add_left (Nat.mul_le_mul_left _ (Nat.le_succ i)) _)
theorem g_two {a b x N M : Nat} (h : a ≤ x) (hb : b ≤ M) (hn : x + M ≤ N) : a + b ≤ N := Nat.le_trans (Nat.add_le_add h hb) hn
structure StepJ (w : World) (Z : Tz) (S : Ts) (W : Wd) (ws : Nat → List Nat × Bool) (four : Bool) (sl : List Nat) (rest : Led) (mg mb : Str → Option Value) (mean : ExcName → Option Value) (A : Around) (base g₀ : Heap) (env : Env) (L : Addr) (ps : List (Str × Value)) (n0 : Nat) (i : Nat) (g : Heap) (m : Str → Option Value) (led : Led) : Prop where
  turn : KtsTurn [L] g₀ g
  below : Below A base [env] g
  in_ : (hd.heap_1_39 w.params).In g
  top : Top hd.view_1_40 (looseW hd.view_1_40 []) mean mg mb g
  names : ∀ p ∈ ps, m p.1 = some p.2
  state : ∃ S' nt c, led = tzLed w Z S' ++ (nt ++ (wdLed W ws ++ rest)) ∧ Same S S' ∧ Rel S' nt c ∧ MOk c ∧ c.done = false ∧ c.out.length ≤ n0 + 1002 * i ∧ c.errs.length ≤ n0 + 1002 * i ∧ (i = 5 → manyOf four ≤ c.k) ∧ OwnOff (nt ++ (wdLed W ws ++ rest)) ((tzLed w Z S').map (·.1))
set_option maxHeartbeats 0 in
theorem stepped_spec (w : World) (Z : Tz) (S : Ts) (hZ : Z.Ok) (W : Wd) (ws : Nat → List Nat × Bool) (four : Bool) (O : StOk w Z four) (sl : List Nat) (hne : sl ≠ []) (WO : WsOk S.buf ws) (G : SgOk S sl) (hcl : S.closed = false) (nt : Led) (c : Mc) (R : Rel S nt c) (hM : MOk c) (hwc : ∀ k < 4, chOk (ws k).1) (hdn : c.done = false)
    (n0 : Nat) (hn0 : n0 ≤ 4000) (ho1 : c.out.length ≤ n0) (ho2 : c.errs.length ≤ n0) (t1 t2 t3 : Tok) (begun : Int) (rest : Led) (hof : OwnOff (nt ++ (wdLed W ws ++ rest)) ((tzLed w Z S).map (·.1))) :
    SpecG w 60 384 [.ref Z.t, .str ⟨sl.toArray⟩ t1, .ref W.a, .int (manyOf four : Nat) t2, .int begun t3] (tzLed w Z S ++ (nt ++ (wdLed W ws ++ rest)))
      (fun r led' => r = .bool true ∧ ∃ S' nt' c', led' = tzLed w Z S' ++ (nt' ++ (wdLed W ws ++ rest)) ∧ Same S S' ∧ Rel S' nt' c' ∧ MOk c' ∧ c'.done = false ∧ c'.out.length ≤ 9999 ∧ c'.errs.length ≤ 9999) := by
  w_top off
  unfold SpecG
  intro mg mb mean dp un gd cn cs a ccd A₀ h₀ L m s Q E B F X N T hk hroom hun hret
  k_with_none
  k_with "room" => (first | exact rmS2 (by assumption) (by decide) | exact rmS3 (by assumption) (by decide) | exact rmS4 (by assumption) (by decide) | exact rm2 (by assumption) (by decide) | exact rm0 (by assumption) | exact rm1 (by assumption) (by decide) | (dsimp +zetaDelta only; ktr_room))
  k_with "units" => (first | exact cl3 (by assumption) (by decide) | exact um2 (by assumption) (by decide) | exact um1 (by assumption) (by decide) | (dsimp +zetaDelta only; ktr_units))
  k_with "is_list" => (exact News.isList (by k_asm) (by k_mem))
  k_with "st" => (first | ((fail_if_success (fail_if_success k_unfold)); refine (?_ : wpAny _ _ _ _ _ _)) | (k_unfold; (try dsimp only)) | (k_end; wrow_close) | walk1 | (dsimp only; walk1) | (leave1; walk_say "STEP leave1"; try dsimp only) | fail "no step")
  k_with "om" => (first | assumption | with_reducible rfl | decide | exact Nat.le_trans (by assumption) (by decide) | exact Nat.lt_of_le_of_lt (by assumption) (by decide) | ((repeat (with_reducible rename _ ∧ _ => om9; clear om9)); first | ((repeat (with_reducible rename _ ≠ _ => om9; clear om9)); (repeat (with_reducible rename @Eq Nat _ _ => om9; clear om9)); (repeat (with_reducible rename @Eq Int _ _ => om9; clear om9)); omega +splitNatSub) | omega +splitNatSub))
  k_with "fold" => ((fail_if_success (fail_if_success k_fold)); refine fold_QES ?_; intro _ _ _ _)
  k_with "kne" => (first | ((refine (?_ : @Ne Nat _ _)); first | assumption | exact Ne.symm (by assumption) | k_extra "ne") | (refine neN ?_; (try dsimp only); first | assumption | exact Ne.symm (by assumption) | k_extra "ne" | omega))
  k_with "tb" => (repeat (first | exact List.forall_mem_nil _ | refine List.forall_mem_cons.mpr ⟨rfl, ?_⟩))
  k_with "ne" => with_reducible (first | exact na0 (by assumption) | exact ns0 (by assumption) | exact na1 (by assumption) | exact ns1 (by assumption) | exact na2 (by assumption) | exact ns2 (by assumption) | exact na3 (by assumption) | exact ns3 (by assumption) | exact na4 (by assumption) | exact ns4 (by assumption) | exact na5 (by assumption) | exact ns5 (by assumption) | exact na6 (by assumption) | exact ns6 (by assumption) | exact na7 (by assumption) | exact ns7 (by assumption) | exact na8 (by assumption) | exact ns8 (by assumption) | exact na9 (by assumption) | exact ns9 (by assumption) | exact na10 (by assumption) | exact ns10 (by assumption) | exact na11 (by assumption) | exact ns11 (by assumption) | exact na12 (by assumption) | exact ns12 (by assumption) | exact na13 (by assumption) | exact ns13 (by assumption) | exact na14 (by assumption) | exact ns14 (by assumption) | exact na15 (by assumption) | exact ns15 (by assumption))
  k_with "ne" => with_reducible (first | (show Tz.sts _ ≠ _; first | exact zn01 (by assumption) | exact zn02 (by assumption) | exact zn03 (by assumption) | exact zn04 (by assumption) | exact zn05 (by assumption) | exact zn06 (by assumption) | exact zn07 (by assumption) | exact zn08 (by assumption)) | (show Tz.td _ ≠ _; first | exact zn10 (by assumption) | exact zn12 (by assumption) | exact zn13 (by assumption) | exact zn14 (by assumption) | exact zn15 (by assumption) | exact zn16 (by assumption) | exact zn17 (by assumption) | exact zn18 (by assumption)) | (show Tz.t _ ≠ _; first | exact zn20 (by assumption) | exact zn21 (by assumption) | exact zn23 (by assumption) | exact zn24 (by assumption) | exact zn25 (by assumption) | exact zn26 (by assumption) | exact zn27 (by assumption) | exact zn28 (by assumption)) | (show Tz.sd _ ≠ _; first | exact zn30 (by assumption) | exact zn31 (by assumption) | exact zn32 (by assumption) | exact zn34 (by assumption) | exact zn35 (by assumption) | exact zn36 (by assumption) | exact zn37 (by assumption) | exact zn38 (by assumption)) | (show Tz.st _ ≠ _; first | exact zn40 (by assumption) | exact zn41 (by assumption) | exact zn42 (by assumption) | exact zn43 (by assumption) | exact zn45 (by assumption) | exact zn46 (by assumption) | exact zn47 (by assumption) | exact zn48 (by assumption)) | (show Tz.sg _ ≠ _; first | exact zn50 (by assumption) | exact zn51 (by assumption) | exact zn52 (by assumption) | exact zn53 (by assumption) | exact zn54 (by assumption) | exact zn56 (by assumption) | exact zn57 (by assumption) | exact zn58 (by assumption)) | (show Tz.se _ ≠ _; first | exact zn60 (by assumption) | exact zn61 (by assumption) | exact zn62 (by assumption) | exact zn63 (by assumption) | exact zn64 (by assumption) | exact zn65 (by assumption) | exact zn67 (by assumption) | exact zn68 (by assumption)) | (show Tz.ou _ ≠ _; first | exact zn70 (by assumption) | exact zn71 (by assumption) | exact zn72 (by assumption) | exact zn73 (by assumption) | exact zn74 (by assumption) | exact zn75 (by assumption) | exact zn76 (by assumption) | exact zn78 (by assumption)) | (show Tz.er _ ≠ _; first | exact zn80 (by assumption) | exact zn81 (by assumption) | exact zn82 (by assumption) | exact zn83 (by assumption) | exact zn84 (by assumption) | exact zn85 (by assumption) | exact zn86 (by assumption) | exact zn87 (by assumption)))
  k_with "execs cons" => ((try ((fail_if_success (fail_if_success k_fold)); refine fold_QE ?_; intro _ _)); refine ex_consA ?_; intro _ _ _ _; (try (with_reducible rename News _ _ _ _ => kN'9; dsimp only at kN'9)); (try (with_reducible rename Fr _ _ _ _ => kF'9; refine f_let kF'9 ?_; clear kF'9; intro _ _)))
  k_with "LeaveH" => (refine' leaveH_ ?k1'9 ?k2'9 ?_; (case k1'9 => k_asm); (case k2'9 => k_asm); k_whole; intro _ _ _ _)
  k_with "pyIter ref" => ((with_reducible show wpAny _ _ (pyIter _) (fun it s₂ => LoopAtV _ _ _ _ _ _ _ _ _ it s₂) _ _); refine Stop.mk ?_)
  k_with "pyIter str" => ((with_reducible show wpAny _ _ (pyIter _) (fun it s₂ => LoopAtV _ _ _ _ _ _ _ _ _ it s₂) _ _); refine Stop.mk ?_)
  k_with "call ref" => (k_extra "mine call")
  k_with "call builtin:len" => (k_here; (with_reducible show wpAny _ _ (call (Value.builtin "len") [Value.ref _]) _ _ _); (with_unfolding_all refine' len_listN ?k1'9 ?k2'9 ?_; (case k1'9 => is_list); (case k2'9 => omega); k_whole))
  k_with "subscriptTail" => (k_here; (with_reducible show wpAny _ _ (subscriptTail _ _ (Value.ref _) (Value.int _ _)) _ _ _); (with_unfolding_all refine' sign_item ?k1'9 ?k2'9 ?k3'9 ?k4'9 ?k5'9 ?_; (case k1'9 => is_list); (case k2'9 => assumption); (case k3'9 => assumption); (case k4'9 => (push_cast; omega)); (case k5'9 => omega); k_whole); intro _)
  k_with "subscriptTail" => (k_here; (with_reducible show wpAny _ _ (subscriptTail _ _ (Value.str _ _) (Value.int _ _)) _ _ _); (with_unfolding_all refine' char_item ?k1'9 ?k2'9 ?k3'9 ?_; (case k1'9 => assumption); (case k2'9 => (push_cast; omega)); (case k3'9 => omega); k_whole))
  k_with "TurnL" => (refine TurnL.ret ?_; (try dsimp only))
  k_with "subscriptTail Name Name str int" => (k_here; (with_reducible show wpAny _ _ (subscriptTail _ _ (Value.str _ _) (Value.int _ _)) _ _ _); (with_unfolding_all refine' char_item ?k1'9 ?k2'9 ?k3'9 ?_; (case k1'9 => assumption); (case k2'9 => (push_cast; omega)); (case k3'9 => omega); k_whole))
  k_with "exec For Name Name cons nil" => (k_here; (rename Fr _ _ _ _ => lF'9); (with_unfolding_all refine' For_invVF lF'9 ?k1'9 ?k2'9 ?_; (case k1'9 => exact rfl); (case k2'9 => exact rfl); k_whole))
  k_with "call builtin:list.append" => (k_here; (with_reducible show wpAny _ _ (call (Value.builtin _) [Value.ref _, _]) _ _ _); k_dflt (refine' append_K ?k1'9 ?k2'9 ?k3'9 ?_ ?z'9; (case k1'9 => k_asm); (case k2'9 => k_asm); (case k3'9 => k_upd); (case z'9 => assumption); k_whole); intro _ _ _; (try k_sweep))
  k_with "call builtin:str.split" => (k_here; (with_reducible show wpAny _ _ (call (Value.builtin "str.split") _) _ _ _); (refine KSpl.split1 (by k_asm) (by k_asm) (by decide) ?_ (by assumption)); (intro _ _ _ _ e'9 a'9 _ _ l1'9); (try k_lt l1'9); rw [e'9] at a'9; (try (revert a'9; intro _)); (try (revert l1'9; intro _)); (try (revert e'9; intro _)))
  k_with "subscriptTail" => (k_here; (with_reducible show wpAny _ _ (subscriptTail _ _ (Value.ref _) (Value.int _ _)) _ _ _); (with_unfolding_all refine' strs_item ?k1'9 ?k2'9 ?k3'9 ?k4'9 ?k5'9 ?_; (case k1'9 => is_list); (case k2'9 => assumption); (case k3'9 => assumption); (case k4'9 => rfl); (case k5'9 => omega); k_whole); intro _)
  k_with "subscriptTail Call Attribute cons nil Name ref int" => (k_here; (with_reducible show wpAny _ _ (subscriptTail _ _ (Value.ref _) (Value.int _ _)) _ _ _); (with_unfolding_all refine' strs_item ?k1'9 ?k2'9 ?k3'9 ?k4'9 ?k5'9 ?_; (case k1'9 => is_list); (case k2'9 => assumption); (case k3'9 => assumption); (case k4'9 => rfl); (case k5'9 => omega); k_whole); intro _)
  k_with "getMethod ref" => (k_here; (with_reducible show wpAny _ _ (getMethod (Value.ref _) (PySem.Str.ofString "index") _) _ _ _); k_dflt (refine' names_method ?N'9 ?m'9 ?_; (case N'9 => k_asm); (case m'9 => k_mem)))
  k_with "call builtin:tuple.index" => (k_here; k_dflt (refine' names_index ?k'9 ?N'9 ?m'9 ?_; (case N'9 => k_asm); (case m'9 => k_mem); (case k'9 => omega)))
  k_with "subscriptTail Name BinOp ref int" => (k_here; (with_reducible show wpAny _ _ (subscriptTail _ _ (Value.ref _) (Value.int _ _)) _ _ _); (with_unfolding_all refine' names_item ?N'9 ?m'9 ?hj'9 ?h5'9 ?_; (case N'9 => k_asm); (case m'9 => k_mem); (case hj'9 => assumption); (case h5'9 => omega); k_whole); intro _)
  k_with "subscriptTail Name Slice str ref" => (k_here; ((with_unfolding_all refine' cut_tail ?F'9 ?N'9 ?sz'9 ?_); (case F'9 => k_asm); (case N'9 => k_asm); (case sz'9 => assumption); intro _ _ _ _ _; (try k_sweep)))
  k_with "subscriptTail Name Constant str int" => (k_here; (with_unfolding_all refine' head_item ?sz'9 ?_); (case sz'9 => assumption))
  k_with "setAttr ref" => (k_here; k_dflt (first | (refine' set_tz ?k1'9 ?k2'9 ?k3'9 ?k4'9 ?k5'9 ?k6'9 ?k7'9 ?k8'9 ?k9'9 ?k10'9 ?k11'9 ?k12'9 ?k13'9 ?_; (case k1'9 => k_asm); (case k2'9 => k_asm); (case k3'9 => k_asm); (case k4'9 => k_inst); (case k5'9 => exact rfl); (case k6'9 => k_is); (case k7'9 => k_is); (case k8'9 => k_is); (case k9'9 => k_is); (case k10'9 => k_get); (case k11'9 => k_put); (case k12'9 => k_upd); (case k13'9 => exact Nat.le_of_ble_eq_true rfl); k_whole; intro _ _ _; (try k_sweep)) | (refine' set_st ?k1'9 ?k2'9 ?k3'9 ?k4'9 ?k5'9 ?k6'9 ?k7'9 ?k8'9 ?k9'9 ?k10'9 ?k11'9 ?k12'9 ?k13'9 ?_; (case k1'9 => k_asm); (case k2'9 => k_asm); (case k3'9 => k_asm); (case k4'9 => k_inst); (case k5'9 => exact rfl); (case k6'9 => k_is); (case k7'9 => k_is); (case k8'9 => k_is); (case k9'9 => k_is); (case k10'9 => k_get); (case k11'9 => k_put); (case k12'9 => k_upd); (case k13'9 => exact Nat.le_of_ble_eq_true rfl); k_whole; intro _ _ _; (try k_sweep))))
  k_with "eval BinOp" => k_extra "fold"
  k_with "eval Call" => k_extra "fold"
  k_with "eval List" => k_extra "fold"
  k_with "eval Tuple" => k_extra "fold"
  k_with "eval Subscript" => k_extra "fold"
  k_with "eval Compare" => k_extra "fold"
  k_with "eval BoolOp" => k_extra "fold"
  k_with "exec For Name Call cons nil" => (k_here; (with_reducible show wpAny _ _ (exec (Stmt.For _ _ _ _ _) _) _ _ _); refine Stop.mk ?_)
  k_with "exec Assign cons ListComp" => (k_here; refine Stop.mk ?_)
  k_with "binaryOp Add ref ref" => (k_here; k_dflt (refine' add_new ?F'9 ?N'9 ?a'9 ?b'9 ?z'9 ?_; (case F'9 => k_asm); (case N'9 => k_asm); (case a'9 => k_mem); (case b'9 => k_mem); (case z'9 => first | omega | ((simp only [List.length_cons, List.length_nil]); omega)); k_whole); intro _ _ _ _ l1'9; (try dsimp only); (try k_lt l1'9); (try k_sweep); (try (revert l1'9; intro _)))
  k_with "subscriptTail Name Name ref int" => (k_here; (with_reducible show wpAny _ _ (subscriptTail _ _ (Value.ref _) (Value.int _ _)) _ _ _); (refine' names_item ?N'9 ?m'9 ?hj'9 ?h5'9 ?_; (case N'9 => k_asm); (case m'9 => k_mem); (case hj'9 => rfl); (case h5'9 => assumption)); intro _)
  k_with "compareOp NotEq ref ref" => (k_here; (with_reducible show wpAny _ _ (compareOp CmpOp.NotEq (Value.ref _) (Value.ref _)) _ _ _); refine Stop.mk ?_)
  k_with "subscriptTail Name UnaryOp ref int" => (k_here; refine Stop.mk ?_)
  k_with "subscriptTail Name Constant ref int" => (k_here; (with_reducible show wpAny _ _ (subscriptTail _ _ (Value.ref _) (Value.int _ _)) _ _ _); k_dflt (refine' lit_item ?N'9 ?m'9 ?h0'9 ?hk'9 ?hq'9 ?_; (case N'9 => k_asm); (case m'9 => k_mem); (case h0'9 => decide); (case hk'9 => decide); (case hq'9 => exact rfl)))
  k_with "subscriptTail" => (k_here; (with_reducible show wpAny _ _ (subscriptTail (PySem.Expr.Call _ _ _ _) _ (Value.ref _) (Value.int _ _)) _ _ _); k_dflt (refine' names_item ?N'9 ?m'9 ?hj'9 ?h5'9 ?_; (case N'9 => k_asm); (case m'9 => k_mem); (case hj'9 => exact rfl); (case h5'9 => assumption)); intro _)
  k_with "subscriptTail" => (k_here; (with_reducible show wpAny _ _ (subscriptTail (PySem.Expr.BinOp _ _ _ _) _ (Value.ref _) (Value.int _ _)) _ _ _); refine Stop.mk ?_)
  k_with "callWith ref" => (k_here; k_dflt (refine' callWith_K0 ?k1'9 ?k2'9 ?_; (case k1'9 => exact Frag.In.keeps (show (hd.heap_1_39 _).In _ from by with_reducible assumption) (Fr.keep (by with_reducible assumption))); (case k2'9 => k_is); k_whole))
  k_with "mine call" => ((first | with_reducible show wpAny _ _ (call (Value.ref 319) _) _ _ _ | with_reducible show wpAny _ _ (call (Value.ref 314) _) _ _ _ | with_reducible show wpAny _ _ (call (Value.ref 355) _) _ _ _ | with_reducible show wpAny _ _ (call (Value.ref 367) _) _ _ _ | with_reducible show wpAny _ _ (call (Value.ref 279) _) _ _ _); refine Stop.mk ?_)
  refine wpAny_call ?_
  k_dflt (refine' code_defS0 ?k1'9 ?k2'9 ?k3'9 ?k4'9 ?k5'9 ?kA'9 ?k6'9 ?k7'9 ?k8'9 ?k9'9 ?kB'9 ?_ ?c1'9 ?c2'9 ?c3'9 ?c4'9 ?c5'9; (case kA'9 => exact rfl); (case k1'9 => k_asm); (case k2'9 => k_asm); (case k3'9 => k_asm); (case k4'9 => k_asm); (case k5'9 => k_asm); (case k6'9 => k_is); (case k7'9 => k_is); (case k8'9 => (first | exact rm0 (by assumption) | exact rm1 (by assumption) (by decide) | k_extra "room" | ktr_room)); (case k9'9 => first | exact BindsTo.of_eq rfl | exact binds_K (by k_in) rfl (by k_is) rfl rfl rfl); (case c1'9 => assumption); (case c5'9 => decide); (case kB'9 => exact locs rfl); (case c2'9 => exact rfl); (case c3'9 => exact rfl); (case c4'9 => exact rfl); k_whole; intro _ _ _ _ _ _ _ _ _ _; (try dsimp only); (with_reducible refine (?_ : wpAny _ _ _ _ _ _)); (try ((fail_if_success (fail_if_success k_fold)); refine fold_QE ?_; intro _ _)))
  k_steps
  unfold Stop
  rename Fr _ _ _ _ => FR
  (try dsimp +zetaDelta only at FR)
  rename Top _ _ _ _ _ _ => TT
  rename News _ _ _ _ => NR
  rename Frag.In _ _ => XR
  rename Below _ _ _ _ => BR
  obtain ⟨g₂, hg₂⟩ := gname BR
  subst hg₂
  k_dflt (refine (small_spec w sl _ G.le G.sm).use0 BR FR XR NR TT rfl (by (first | exact rm0 (by assumption) | exact rm1 (by assumption) (by decide) | k_extra "room" | ktr_room)) (by (first | k_extra "units" | ktr_units)) ?_)
  rintro r led1 h1 tk1 F1 N1 off1 ⟨rfl, tk2, rfl⟩
  (try dsimp only)
  k_steps
  unfold Stop
  refine wpAny_For ?_ (by intro _; rfl)
  k_steps
  rename IsRange _ _ _ _ _ _ _ _ => IR
  rename Fr _ _ _ _ => F2
  (try dsimp +zetaDelta only at F2)
  rename News _ _ _ _ => N2
  have Tt : KtsTurn [L] g₂ g₂ := KtsTurn.refl
  k_dflt (refine rangeG 5 rfl IR ?hs ?hn F2 N2 (StepJ w Z S W ws four sl rest mg mb mean (ktrTop dp un gd cn cs L a ccd [] []) h₀ g₂ (envOf cn cs L a ccd) L [("t", .ref Z.t), ("text", .str ⟨sl.toArray⟩ t1), ("words", .ref W.a), ("many", .int (manyOf four : Nat) t2), ("begun", .int begun t3), ("small", .str ⟨(sl.map lowC).toArray⟩ tk2)] n0) ?J0 ?step ?done rfl rfl (by passes_own))
  case hs => decide +kernel
  case hn => decide +kernel
  case J0 => exact ⟨Tt, BR, XR, TT, (by intro p hp; simp only [List.mem_cons, List.not_mem_nil, or_false] at hp; rcases hp with rfl | rfl | rfl | rfl | rfl | rfl <;> rfl), S, nt, c, rfl, Same.refl S, R, hM, hdn, by omega, by omega, by omega, hof⟩
  case done =>
    intro g h tk m led FD ND J
    obtain ⟨jt, jb, jx, jT, jn, S', nt', c', rfl, js, jr, jm, jd, jo1, jo2, -, jf⟩ := J
    (try dsimp only)
    k_steps
    exact hret _ _ _ _ (by assumption) (by assumption) ⟨rfl, S', nt', c', rfl, js, jr, jm, jd, g_top jo1 hn0, g_top jo2 hn0⟩
  case step =>
    intro i g t m₁ led₁ h tk I oI hi J hne' FT NT
    obtain ⟨jt, jb, jx, jT, jn, S', nt', c', rfl, js, jr, jm, jd, jo1, jo2, -, jf⟩ := J
    rw [← kB_of jn] at FT
    obtain ⟨tl, htl⟩ : ∃ tl, tl = nt' ++ (wdLed W ws ++ rest) ++ [(I, oI)] := ⟨_, rfl⟩
    have NT2 : News g (envOf (Str.ofString "_law_is_stepped") _ _ _ _).locals h (tzLed w Z S' ++ tl) := News.sub NT fun p hp => by
      rw [htl] at hp
      rcases List.mem_append.mp hp with hp | hp
      · exact .tail _ (List.mem_append_left _ hp)
      · rcases List.mem_append.mp hp with hp | hp
        · exact .tail _ (List.mem_append_right _ hp)
        · rw [List.mem_singleton.mp hp]; exact .head _
    have hoff : OwnOff tl ((tzLed w Z S').map (·.1)) := by
      rw [htl]
      refine OwnOff.app jf ?_
      intro p hp b hb e
      rw [List.mem_singleton.mp hp] at e
      obtain ⟨q, hq, rfl⟩ := List.mem_map.mp hb
      exact hne' q (List.mem_append_left _ hq) e.symm
    have hoff1 : OwnOff tl [Z.td] := OwnOff.sub hoff fun b hb => by rw [List.mem_singleton.mp hb]; exact .tail _ (.head _)
    clear NT
    obtain ⟨at', state, out, errs, sv, closed, isret, last, buf, waiting, done, a1, a2, a3, a4, a5, a6, n1, n2, n3, n4⟩ := S'
    have jl : last = ⟨c'.last.toArray⟩ := jr.last
    have jdn : done = false := jr.done.trans jd
    have jcl : closed = false := js.closed.trans hcl
    subst jl jdn jcl
    simp only [tzLed, List.cons_append, List.nil_append] at NT2
    have hlE : ((⟨sl.toArray⟩ : Str).length : Int) = (sl.length : Int) := by rw [len_tx]
    have hlp : 0 < sl.length := List.length_pos_iff.mpr hne
    have hll := G.le
    obtain ⟨pa, hfm, hpa⟩ : ∃ pa : Nat, (begun + 3 * (i : Int)).fmod ((⟨sl.toArray⟩ : Str).length : Int) = (pa : Int) ∧ pa < sl.length := by
      rw [len_tx]
      exact fmod_natG _ _ hlp
    have z9 := hZ.2.2.2.2.2.2.2.2
    have q1 : out.length = c'.out.length := jr.out.length
    have q2 : errs.length = c'.errs.length := jr.errs.length
    have q3 : out.length ≤ 8008 := g_now q1 jo1 hi hn0
    have q4 : errs.length ≤ 8008 := g_now q2 jo2 hi hn0
    have q3' : c'.out.length ≤ 8008 := q1 ▸ q3
    have q4' : c'.errs.length ≤ 8008 := q2 ▸ q4
    k_steps
    unfold Stop
    rename News _ _ _ _ => N3
    rename Fr _ _ _ _ => F3a
    (try dsimp +zetaDelta only at F3a)
    rw [hfm] at N3 F3a
    k_dflt (refine (names_spec w).use0 (by k_asm) (by k_asm) (by k_asm) N3 (by k_asm) rfl (by (first | exact rm0 (by assumption) | exact rm1 (by assumption) (by decide) | k_extra "room" | ktr_room)) (by (first | k_extra "units" | ktr_units)) ?_)
    rintro r led2 h2 tk3 F3 N4 off2 so9
    refine names_elim so9 ?_
    clear so9
    rintro nt2 y0 y1 y2 y3 y4 rfl rfl
    have hna : nt2 ≠ Z.td := off2 _ (.head _) (Z.td, _) (.tail _ (.head _))
    clear off2
    (try dsimp only)
    k_steps
    · unfold Stop
      rename News _ _ _ _ => N5
      have hk4 : i < manyOf four := by omega
      have hi4 : i < 4 := Nat.lt_of_lt_of_le hk4 (many_le four)
      have hwi := WO.len i hi4
      have hwt : ∀ p ∈ wdLed W ws, p ∈ tl := fun p hp => by rw [htl]; exact List.mem_append_left _ (List.mem_append_right _ (List.mem_append_left _ hp))
      simp only [List.append_nil] at N5
      k_dflt (refine (lstep_spec w W ws sl _ _ false pa _ i _ hi4 G.le (Nat.le_of_lt (Nat.lt_of_lt_of_le hpa G.le)) WO.len).useR stepOut_ro (by k_asm) (by k_asm) (by k_asm) N5 (by k_asm) rfl (by (first | exact rm0 (by assumption) | exact rm1 (by assumption) (by decide) | k_extra "room" | ktr_room)) (by (first | k_extra "units" | ktr_units)) (fun p hp => by have := hwt p hp; repeat (first | exact this | apply List.Mem.tail)) ?_)
      rintro r led6 h6 tk6 F6 N6 fresh so9
      refine so9.elim ?_
      clear so9
      rintro T9 Os Es os es y1 y2 y3 y4 rfl mT mO mE mW dO dE
      have hoL : OwnOff led6 [Z.t, Z.td, Z.st, Z.sd, Z.sg, Z.se, Z.ou, Z.er, Z.sts] := by
        intro p hp b hb
        rcases fresh p hp with hw | hq
        · exact hoff p (hwt p hw) b (by rw [tz_addr]; exact hb)
        · simp only [List.mem_cons, List.not_mem_nil, or_false] at hb
          rcases hb with rfl | rfl | rfl | rfl | rfl | rfl | rfl | rfl | rfl <;> exact hq (_, _) (by k_mem)
      clear fresh
      have N7 := regroup (pre := [_, _, _, _, _, _, _, _, _, _, _, _, _, _, _]) N6 mT mO mE
      clear N6
      simp only [List.cons_append, List.nil_append] at N7
      obtain ⟨tl2, htl2⟩ : ∃ x : Led, x = tl ++ led6 := ⟨_, rfl⟩
      rw [← htl2] at N7
      have hoT2 : OwnOff tl2 [Z.t, Z.td, Z.st, Z.sd, Z.sg, Z.se, Z.ou, Z.er, Z.sts] := by
        rw [htl2]
        exact OwnOff.app (by rw [tz_addr] at hoff; exact hoff) hoL
      (try dsimp only)
      have hR := @stepF_len sl false (ws i).2 (ws i).1 i pa
      have hTk := @stepF_tok sl false (ws i).2 (ws i).1 i pa
      have q5 := dO.length
      have q6 := dE.length
      have so1 : (stepF sl false (ws i).1 (ws i).2 i pa).out.length ≤ 1002 := Nat.le_trans hR.1 (Nat.add_le_add_right hwi 2)
      have so2 : (stepF sl false (ws i).1 (ws i).2 i pa).errs.length ≤ 1002 := Nat.le_trans hR.2 (by decide)
      have so3 : os.length ≤ 1002 := q5 ▸ so1
      have so4 : es.length ≤ 1002 := q6 ▸ so2
      have so5 : out.length + os.length ≤ 100000 := g_two q3 so3 (by decide)
      have so6 : errs.length + es.length ≤ 100000 := g_two q4 so4 (by decide)
      k_steps
      unfold Stop
      rename News _ _ _ _ => N8
      k_dflt (refine LCt.Assign_ListComp_T (F₀ := by k_asm) (by rfl) (by with_unfolding_all rfl) (by with_unfolding_all rfl) (by decide) (by rfl) (by decide) (by rfl) (by rfl) (by rfl) ?_)
      k_steps
      rename Fr _ _ _ _ => F9
      (try dsimp +zetaDelta only at F9)
      rename News _ _ _ _ => N9
      obtain ⟨all, eall, N9b⟩ : ∃ b : Led, b = _ ∧ News _ _ _ b := ⟨_, rfl, N9⟩
      have hl6 : ∀ p ∈ led6, p ∈ all := fun p hp => by
        rw [eall]
        have : p ∈ tl2 := by rw [htl2]; exact List.mem_append_right _ hp
        repeat (first | exact this | apply List.Mem.tail)
      have hOs : (Os, PySem.W.listOf os.toArray y3) ∈ all := by rw [eall]; exact .tail _ (.head _)
      refine LCt.CompSrcT.ledger rfl F9 N9b hOs (by rw [List.size_toArray, sizeLine_eq]; exact Nat.le_trans so3 (by decide)) ?_
      intro g2
      refine comp_restT (fun j ys nw => nw = all ∧ StrsAre ys ((((stepF sl false (ws i).1 (ws i).2 i pa).out.take j).filterMap startOf).map (fun l => (⟨l.toArray⟩ : Str)))) ⟨rfl, .nil⟩ ?_ ?_
      · rintro j v I2 oI2 C oC D m₂ ys nw h9 tk9 E9 hj hv ⟨rfl, hS⟩ hC hx F' N' off ne
        clear N9
        rw [List.size_toArray] at hj
        have hj' : j < (stepF sl false (ws i).1 (ws i).2 i pa).out.length := by rw [← q5]; exact hj
        obtain ⟨v', hv', hin⟩ := dO.get hj'
        have hvv : v = v' := by
          have : os[j]? = some v := by simpa using hv
          rw [hv'] at this; exact (Option.some.inj this).symm
        subst hvv
        have hqj : (stepF sl false (ws i).1 (ws i).2 i pa).out[j]? = some (stepF sl false (ws i).1 (ws i).2 i pa).out[j] := by simp [hj']
        have hd := hTk.1 (stepF sl false (ws i).1 (ws i).2 i pa).out[j] (List.getElem_mem _)
        generalize (stepF sl false (ws i).1 (ws i).2 i pa).out[j] = d at hin hd hqj
        have put : ∀ p ∈ led6, p ∈ (I2, oI2) :: (C, oC) :: (D, LCg.lst ys) :: nw := fun p hp => .tail _ (.tail _ (.tail _ (hl6 p hp)))
        clear eall
        rcases hd with rfl | ⟨ch, rfl⟩ | ⟨f, wl, rfl⟩
        · obtain ⟨ta, a9, rfl, na, hm⟩ := eof_in hin
          have N2 := News.cons_mem N' (put _ hm)
          k_steps
          rename News _ _ _ _ => N8
          refine LCg.CompEnd.intro (by assumption) N8 _ (fun p hp => .tail _ hp) off (Or.inr ⟨_, hOs, rfl, _, rfl⟩) ⟨rfl, ?_⟩
          rw [List.take_add_one, hqj, List.filterMap_append, List.map_append]
          simpa [List.filterMap_cons, start_eof] using hS
        · obtain ⟨ta, tb, a9, na, rfl, hm⟩ := char_in hin
          have N2 := News.cons_mem N' (put _ hm)
          k_steps
          rename News _ _ _ _ => N8
          refine LCg.CompEnd.intro (by assumption) N8 _ (fun p hp => .tail _ hp) off (Or.inr ⟨_, hOs, rfl, _, rfl⟩) ⟨rfl, ?_⟩
          rw [List.take_add_one, hqj, List.filterMap_append, List.map_append]
          simpa [List.filterMap_cons, start_char] using hS
        · obtain ⟨ta, tb, e9, a9, na, rfl, hm⟩ := tok_in hin
          have N2 := News.cons_mem N' (put _ hm)
          cases f
          · simp only [Bool.false_eq_true, if_false] at N2
            k_steps
            rename News _ _ _ _ => N8
            refine LCg.CompEnd.intro (by assumption) N8 _ (fun p hp => .tail _ hp) off (Or.inr ⟨_, hOs, rfl, _, rfl⟩) ⟨rfl, ?_⟩
            rw [List.take_add_one, hqj, List.filterMap_append, List.map_append]
            simpa [List.filterMap_cons, start_tok] using hS
          · simp only [if_true] at N2
            k_steps
            rename News _ _ _ _ => N8
            refine LCg.CompEnd.intro (by assumption) N8 _ (fun p hp => .tail _ hp) off (Or.inr ⟨_, hOs, rfl, _, rfl⟩) ⟨rfl, ?_⟩
            rw [List.take_add_one, hqj, List.filterMap_append, List.map_append]
            exact hS.append' (by simp only [Option.toList, List.filterMap_cons, start_tok, if_true, List.filterMap_nil, List.map_cons, List.map_nil]; exact .cons _ _ .nil)
      · rintro ys nw ⟨rfl, hS⟩
        have hoT : OwnOff tl2 [Z.td] := OwnOff.sub hoT2 fun b hb => by rw [List.mem_singleton.mp hb]; exact .tail _ (.head _)
        subst eall
        unfold LCg.FinA
        intro D9 h9 tk9 F9' N9' o9
        have htk : (stepF sl false (ws i).1 (ws i).2 i pa).out.take os.toArray.size = (stepF sl false (ws i).1 (ws i).2 i pa).out := by rw [List.size_toArray, q5]; exact List.take_length
        rw [htk, hTk.2.1] at hS
        have hys := hS.len_eq
        rw [List.length_map] at hys
        have hfl : ys.length ≤ 1 := by rw [hys]; cases (stepF sl false (ws i).1 (ws i).2 i pa).last <;> simp
        clear N9 N9b
        replace hS := Stop.mk hS
        k_steps
        unfold Stop
        have hk5 : (stepF sl false (ws i).1 (ws i).2 i pa).k < 5 := by
          rcases @stepF_way false sl (ws i).2 (ws i).1 i pa hpa hi4 with h | h
          · rw [h]; exact Nat.lt_succ_of_lt hi4
          · exact Nat.lt_succ_of_lt h.2.2.1
        rename News _ _ _ _ => N10
        k_dflt (refine (names_spec w).use0 (by k_asm) (by k_asm) (by k_asm) N10 (by k_asm) rfl (by (first | exact rm0 (by assumption) | exact rm1 (by assumption) (by decide) | k_extra "room" | ktr_room)) (by (first | k_extra "units" | ktr_units)) ?_)
        rintro r led3 h11 tk11 F11 N11 off2 so9
        refine names_elim so9 ?_
        clear so9
        rintro nt3 y0' y1' y2' y3' y4' rfl rfl
        clear off2 N10
        (try dsimp only)
        simp only [List.cons_append, List.nil_append] at N11
        k_steps
        unfold Stop
        rename News _ _ _ _ => N12
        unfold Stop at hS
        k_dflt (refine strs_last N12 (.head _) (last_strs2 hS).choose_spec ?_)
        intro tl9
        replace hS := Stop.mk hS
        (try dsimp only)
        k_steps
        unfold Stop
        rename News _ _ _ _ => N13
        rename Fr _ _ _ _ => F13
        (try dsimp +zetaDelta only at F13)
        rw [tz_cons] at N13
        rename @LT.lt Nat _ _ _ ∧ _ => lA
        have oA := ne9r lA.2.2.2.2.2.2.2.2.2.2.2.2.2.2.2
        clear lA
        rename @LT.lt Nat _ _ _ ∧ _ => lA
        clear lA
        rename @LT.lt Nat _ _ _ ∧ _ => lA
        clear lA
        rename @LT.lt Nat _ _ _ ∧ _ => lA
        have oE := ne9r lA.2.2.2.2.2.2.2.2.2.2.2
        clear lA
        rename @LT.lt Nat _ _ _ ∧ _ => lA
        have oO := ne9r lA.2.2.2.2.2.2.2.2.2.2
        clear lA
        have hex : ∃ S9 : Ts, News g _ _ ([_, _, _] ++ (tzLed w Z S9 ++ tl2)) ∧ S9.at' = pa ∧ S9.state = nm i ∧ S9.out = out ∧ S9.errs = errs ∧ S9.sv = sv ∧ S9.closed = false ∧ S9.isret = isret ∧ S9.last = ⟨c'.last.toArray⟩ ∧ S9.buf = buf ∧ S9.waiting = true ∧ S9.done = false ∧ S9.n1 = n1 ∧ S9.n2 = n2 := ⟨_, News.sub N13 pickG, rfl, rfl, rfl, rfl, rfl, rfl, rfl, rfl, rfl, rfl, rfl, rfl, rfl⟩
        obtain ⟨S9, N14, u1, u2, u3, u4, u5, u6, u7, u8, u9, u10, u11, u12, u13⟩ := hex
        clear N13
        have hIh := (N14 (I, oI) (List.mem_append_right _ (List.mem_append_right _ (by rw [htl2, htl]; exact List.mem_append_left _ (List.mem_append_right _ (.head _)))))).1
        k_dflt (refine (step_mc1 w Z S9 hZ four O ws (by rw [u9]; have := js.buf; dsimp only at this; rw [this]; exact WO) sl ⟨by rw [u5]; have := js.sv; dsimp only at this; rw [this]; exact G.sg, G.le, G.sm⟩ ⟨pa, i, c'.out, c'.errs, c'.last, true, false⟩ nt' ⟨u1, u2, u8, u10, u11, by rw [u3]; exact jr.out, by rw [u4]; exact jr.errs, jr.tups⟩ hk4 (Nat.le_trans q3' (by decide)) (Nat.le_trans q4' (by decide))).useN [_, _, _] tl2 jb F13 jx N14 jT rfl (by (first | exact rm0 (by assumption) | exact rm1 (by assumption) (by decide) | k_extra "room" | ktr_room)) (by (first | k_extra "units" | ktr_units)) ?_ ?_)
        · rw [tz_addr]
          exact OwnOff.cons oA (OwnOff.cons oE (OwnOff.cons oO hoT2))
        rintro r led7 h14 tk14 F14 N15 St15 Fs15 ⟨rfl, S2, new, rfl, hTn, hSm, R2⟩
        clear St15
        rw [u6] at R2
        (try dsimp only)
        k_steps
        unfold Stop
        rename News _ _ _ _ => N16
        rename Fr _ _ _ _ => F16
        (try dsimp +zetaDelta only at F16)
        unfold Stop at hS
        have mk2 := nextM_ok (c := ⟨pa, i, c'.out, c'.errs, c'.last, true, false⟩) (closed := false) G.sm hwc hi4 ⟨jm.out, jm.errs, jm.last⟩
        have hdn2 : (nextM sl false ws ⟨pa, i, c'.out, c'.errs, c'.last, true, false⟩).done = false := by
          show ((stepF sl false (ws i).1 (ws i).2 i pa).done || false) = false
          rw [hTk.2.2, Bool.or_false]
          exact decide_eq_false (by omega)
        have w1 : S2.at' = (stepF sl false (ws i).1 (ws i).2 i pa).at' := R2.at'
        have w2 : S2.state = nm (stepF sl false (ws i).1 (ws i).2 i pa).k := R2.state
        have w3 : S2.last = ⟨((stepF sl false (ws i).1 (ws i).2 i pa).last.getD c'.last).toArray⟩ := R2.last
        have w4 : S2.waiting = (stepF sl false (ws i).1 (ws i).2 i pa).waiting := R2.waiting
        have w5 : S2.done = false := R2.done.trans hdn2
        have w6 : DatAll (new ++ nt') S2.out (c'.out ++ (stepF sl false (ws i).1 (ws i).2 i pa).out) := R2.out
        have w7 : DatAll (new ++ nt') S2.errs (c'.errs ++ (stepF sl false (ws i).1 (ws i).2 i pa).errs) := R2.errs
        have w8 := w6.length
        have w9 := w7.length
        rw [List.length_append] at w8 w9
        k_dflt (refine (seen_spec w Z S2 (by rw [w8]; exact g_two q3' so1 (by decide)) (by rw [w9]; exact g_two q4' so2 (by decide))).useR seen_ro (by k_asm) (by k_asm) (by k_asm) N16 (by k_asm) rfl (by (first | exact rm0 (by assumption) | exact rm1 (by assumption) (by decide) | k_extra "room" | ktr_room)) (by (first | k_extra "units" | ktr_units)) (fun p hp => List.mem_append_left _ (List.mem_append_left _ hp)) ?_)
        rintro r led8 h17 tk17 F17 N17 fresh so9
        refine so9.elim ?_
        clear so9
        rintro Q2 o2 e2 m0 m1 m2 v1 v2 v3 rfl Mq Mo Me MT
        clear fresh
        (try dsimp only)
        k_steps
        unfold Stop
        rename News _ _ _ _ => N18
        obtain ⟨all, eall, N18b⟩ : ∃ b : Led, b = _ ∧ News _ _ _ b := ⟨_, rfl, N18⟩
        have hin2 : ∀ p ∈ tl2, p ∈ all := fun p hp => by rw [eall]; exact List.mem_append_right _ (List.mem_append_right _ (List.mem_append_right _ hp))
        have hnew : ∀ p ∈ new, p ∈ all := fun p hp => by rw [eall]; exact List.mem_append_right _ (List.mem_append_left _ (List.mem_append_right _ hp))
        subst eall
        clear N18b
        have hin : ∀ p ∈ tl, p ∈ _ := fun p hp => hin2 p (by rw [htl2]; exact List.mem_append_left _ hp)
        have hin6 : ∀ p ∈ led6, p ∈ _ := fun p hp => hin2 p (by rw [htl2]; exact List.mem_append_right _ hp)
        have hnt : ∀ p ∈ nt', p ∈ tl := fun p hp => by rw [htl]; exact List.mem_append_left _ (List.mem_append_left _ hp)
        have hnn : ∀ p ∈ new ++ nt', p ∈ _ := fun p hp => (List.mem_append.mp hp).elim (hnew p) fun h => hin p (hnt p h)
        rw [w1, w2, w3, w4, w5] at Mq
        k_dflt (refine same_neL (ds := [.list (c'.out ++ (stepF sl false (ws i).1 (ws i).2 i pa).out), .list (c'.errs ++ (stepF sl false (ws i).1 (ws i).2 i pa).errs), .int ((stepF sl false (ws i).1 (ws i).2 i pa).at' : Nat), .str (nm (stepF sl false (ws i).1 (ws i).2 i pa).k), .str ⟨((stepF sl false (ws i).1 (ws i).2 i pa).last.getD c'.last).toArray⟩, .bool (stepF sl false (ws i).1 (ws i).2 i pa).waiting, .bool false]) N18 (List.mem_append_left _ Mq) (List.mem_append_right _ (List.mem_append_right _ (.head _))) (.cons (.list (List.mem_append_left _ Mo) (w6.mono hnn)) (.cons (.list (List.mem_append_left _ Me) (w7.mono hnn)) (.cons (.int _ _) (.cons (.str _ _) (.cons (.str _ _) (.cons (.bool _) (.cons (.bool _) .nil))))))) (.cons (.list (List.mem_append_right _ (List.mem_append_right _ (.tail _ (.tail _ (.head _))))) ((jr.out.mono fun p hp => hin p (hnt p hp)).append (dO.mono hin6))) (.cons (.list (List.mem_append_right _ (List.mem_append_right _ (.tail _ (.head _)))) ((jr.errs.mono fun p hp => hin p (hnt p hp)).append (dE.mono hin6))) (.cons (.int _ _) (.cons (.str _ _) (.cons (.str _ _) (.cons (.bool _) (.cons (.bool _) .nil))))))) (ok_seen (okl mk2.out) (okl mk2.errs) mk2.last) (by (first | k_extra "units" | ktr_units)) ?_)
        k_steps
        rename News _ _ _ _ => N19
        rename Fr _ _ _ _ => F19
        (try dsimp +zetaDelta only at F19)
        have hne2 := tz_ne (S' := S2) hne'
        have hoff2 : OwnOff new ((tzLed w Z S2).map (·.1)) := tz_off z9 hTn (News.sub N16 fun p hp => List.mem_append_left _ hp)
        refine turnG_next F19 (led' := tzLed w Z S2 ++ ((new ++ nt') ++ (wdLed W ws ++ rest))) (News.sub N19 ?sub) ?hne ⟨jt, jb, jx, jT, by tb_start, S2, new ++ nt', _, rfl, ⟨hSm.sv.trans (u5.trans js.sv), hSm.closed.trans (u6.trans js.closed), hSm.isret.trans (u7.trans js.isret), hSm.buf.trans (u9.trans js.buf), hSm.n1.trans (u12.trans js.n1), hSm.n2.trans (u13.trans js.n2)⟩, R2, mk2, hdn2, ?b1, ?b2, fun h => by omega, ?ow⟩
        case sub =>
          intro p hp
          rcases List.mem_cons.mp hp with rfl | hp
          · exact hin _ (by rw [htl]; exact List.mem_append_right _ (.head _))
          rcases List.mem_append.mp hp with hp | hp
          · exact List.mem_append_left _ (MT p hp)
          rcases List.mem_append.mp hp with hp | hp
          · exact hnn p hp
          · exact hin p (by rw [htl]; exact List.mem_append_left _ (List.mem_append_right _ hp))
        case hne =>
          intro p hp
          rcases List.mem_append.mp hp with hp | hp
          · exact hne2 p (List.mem_append_left _ hp)
          rcases List.mem_append.mp hp with hp | hp
          · rcases List.mem_append.mp hp with hp | hp
            · rcases Fs15 p (List.mem_append_right _ hp) with h | h
              · rw [tz_addr, ← tz_addr w Z S2] at h
                obtain ⟨q, hq, e⟩ := List.mem_map.mp h
                rw [← e]
                exact hne2 q (List.mem_append_left _ hq)
              · intro e
                rw [e, hIh] at h
                cases h
            · exact hne2 p (List.mem_append_right _ (List.mem_append_left _ hp))
          · exact hne2 p (List.mem_append_right _ (List.mem_append_right _ hp))
        case b1 =>
          show (c'.out ++ (stepF sl false (ws i).1 (ws i).2 i pa).out).length ≤ _
          rw [List.length_append]; exact g_nxt jo1 so1
        case b2 =>
          show (c'.errs ++ (stepF sl false (ws i).1 (ws i).2 i pa).errs).length ≤ _
          rw [List.length_append]; exact g_nxt jo2 so2
        case ow =>
          rw [List.append_assoc]
          exact OwnOff.app hoff2 (tz_own jf)
    · unfold Stop
      rename News _ _ _ _ => N5
      rename Fr _ _ _ _ => F5
      (try dsimp +zetaDelta only at F5)
      rw [tz_cons] at N5
      have hk4 : manyOf four ≤ i := by omega
      have N6 := front6 N5
      k_dflt (refine step_raise w Z _ four O i hk4 hi (by exact rfl) _ _ _ _ _ _ _ _ _ _ _ _ _ _ _ _ _ _ _ _ _ jb F5 jx N6 jT rfl (by (first | exact rm0 (by assumption) | exact rm1 (by assumption) (by decide) | k_extra "room" | ktr_room)) (by (first | k_extra "units" | ktr_units)) ?_)
      intro e D tx tk9 G9 h9 tk8 FG R9 up
      k_dflt (refine caughtP (ExP.kept D) (fun o z => z.1) R9 FG jb up X T (by k_is) (by kernel_rfl) ?_)
      intro h10 g10 oe10 tk10 T10 F10 N10 P10 nc10 B10 X10 TT10
      (try dsimp only)
      have hex : ∃ S9 : Ts, News g10 _ h10 ((e, oe10) :: (D, whyObj w (Str.ofString "no such state") tx tk9) :: (tzLed w Z S9 ++ _)) ∧ S9.at' = pa ∧ S9.state = nm i ∧ S9.out = out ∧ S9.errs = errs ∧ S9.sv = sv ∧ S9.closed = false ∧ S9.isret = isret ∧ S9.last = ⟨c'.last.toArray⟩ ∧ S9.buf = buf ∧ S9.waiting = true ∧ S9.done = false ∧ S9.n1 = n1 ∧ S9.n2 = n2 := ⟨_, N10, rfl, rfl, rfl, rfl, rfl, rfl, rfl, rfl, rfl, rfl, rfl, rfl, rfl⟩
      obtain ⟨S9, N11, u1, u2, u3, u4, u5, u6, u7, u8, u9, u10, u11, u12, u13⟩ := hex
      clear N10
      (try dsimp only)
      k_steps
      have X11 := X10.keeps (Fr.keep (by assumption : Fr g10 _ _ _))
      have I11 := why_at N11 P10 nc10
      k_dflt (refine' ex_get (C := 51) ?xX ?xI (ex51_ga w) (ex51_hook w) (ex51_base w) (ex51_why w _ _ _) rfl ?_; (case xX => exact X11); (case xI => exact I11))
      (try dsimp only)
      k_steps
      unfold Stop
      rename News _ _ _ _ => N12
      simp only [List.append_nil] at N12
      k_dflt (refine (seen_spec w Z S9 (by rw [u3]; exact Nat.le_trans q3 (by decide)) (by rw [u4]; exact Nat.le_trans q4 (by decide))).useR seen_ro (by k_asm) (by k_asm) (by k_asm) N12 (by k_asm) rfl (by (first | exact rm0 (by assumption) | exact rm1 (by assumption) (by decide) | k_extra "room" | ktr_room)) (by (first | k_extra "units" | ktr_units)) (fun p hp => .tail _ (.tail _ (List.mem_append_left _ hp))) ?_)
      rintro r led' h13 tk13 F13 N13 fresh so9
      refine so9.elim ?_
      clear so9
      rintro Q2 o2 e2 m0 m1 m2 v1 v2 v3 rfl Mq Mo Me MT
      clear fresh
      (try dsimp only)
      k_steps
      unfold Stop
      rename News _ _ _ _ => N14
      obtain ⟨all, eall, N14b⟩ : ∃ b : Led, b = _ ∧ News _ _ _ b := ⟨_, rfl, N14⟩
      have hin : ∀ p ∈ tl, p ∈ all := fun p hp => by rw [eall]; exact List.mem_append_right _ (.tail _ (.tail _ (List.mem_append_right _ (.tail _ (.tail _ (.tail _ (.tail _ (.tail _ (.tail _ hp)))))))))
      subst eall
      clear N14b
      have hnt : ∀ p ∈ nt', p ∈ tl := fun p hp => by rw [htl]; exact List.mem_append_left _ (List.mem_append_left _ hp)
      rw [u1, u2, u8, u10, u11] at Mq
      rw [u3] at Mo
      rw [u4] at Me
      k_dflt (refine same_neL (ds := [.list c'.out, .list c'.errs, .int (pa : Nat), .str (nm i), .str ⟨c'.last.toArray⟩, .bool true, .bool false]) N14 (List.mem_append_left _ Mq) (List.mem_append_right _ (.tail _ (.tail _ (List.mem_append_right _ (.head _))))) (.cons (.list (List.mem_append_left _ Mo) (jr.out.mono fun p hp => hin p (hnt p hp))) (.cons (.list (List.mem_append_left _ Me) (jr.errs.mono fun p hp => hin p (hnt p hp))) (.cons (.int _ _) (.cons (.str _ _) (.cons (.str _ _) (.cons (.bool _) (.cons (.bool _) .nil))))))) (.cons (.list (List.mem_append_right _ (.tail _ (.tail _ (List.mem_append_right _ (.tail _ (.tail _ (.tail _ (.head _)))))))) (jr.out.mono fun p hp => hin p (hnt p hp))) (.cons (.list (List.mem_append_right _ (.tail _ (.tail _ (List.mem_append_right _ (.tail _ (.head _)))))) (jr.errs.mono fun p hp => hin p (hnt p hp))) (.cons (.int _ _) (.cons (.str _ _) (.cons (.str _ _) (.cons (.bool _) (.cons (.bool _) .nil))))))) (ok_seen (okl jm.out) (okl jm.errs) jm.last) (by (first | k_extra "units" | ktr_units)) ?_)
      k_steps
      rename News _ _ _ _ => N15
      rename Fr _ _ _ _ => F15
      (try dsimp +zetaDelta only at F15)
      refine turnG_next F15 (led' := tzLed w Z S9 ++ (nt' ++ (wdLed W ws ++ rest))) (News.sub N15 ?sub) (tz_ne hne') ⟨jt.trans T10, B10, X10, TT10, by tb_start, S9, nt', ⟨pa, i, c'.out, c'.errs, c'.last, true, false⟩, rfl, ⟨u5.trans js.sv, u6.trans js.closed, u7.trans js.isret, u9.trans js.buf, u12.trans js.n1, u13.trans js.n2⟩, ⟨u1, u2, u8, u10, u11, by rw [u3]; exact jr.out, by rw [u4]; exact jr.errs, jr.tups⟩, ⟨jm.out, jm.errs, jm.last⟩, rfl, g_keep jo1, g_keep jo2, fun _ => hk4, tz_own jf⟩
      intro p hp
      rcases List.mem_cons.mp hp with rfl | hp
      · exact hin _ (by rw [htl]; exact List.mem_append_right _ (.head _))
      rcases List.mem_append.mp hp with hp | hp
      · exact List.mem_append_left _ (MT p hp)
      · exact hin p (by rw [htl]; exact List.mem_append_left _ hp)
/-- a list has four items: no tokenizer's list, fresh made -/
theorem tz_not_wd {w : World} {four : Bool} {W : Wd} {ws : Nat → List Nat × Bool} {Z : Tz} {S : Ts} (TO : TokOut w four ws Z S) : ∀ p ∈ tzLed w Z S, p ∉ wdLed W ws := by
  intro p hp hw
  have hk := tz_kind TO.ok.2.2.2.2.2.2.2.2 p hp
  simp only [wdLed, List.mem_cons, List.not_mem_nil, or_false] at hw
  rcases hw with rfl | rfl | rfl | rfl | rfl
  · simp only [tzLed, TO.out, TO.errs, TO.sv, List.mem_cons, List.not_mem_nil, or_false, Prod.mk.injEq] at hp
    have hso := TO.ok.2.2.2.2.2.2.2.2
    rcases hp with ⟨_, h⟩ | ⟨_, h⟩ | ⟨_, h⟩ | ⟨_, h⟩ | ⟨_, h⟩ | ⟨_, h⟩ | ⟨_, h⟩ | ⟨_, h⟩ | ⟨_, h⟩
    · exact absurd (congrArg (·.cls) h) (by simp [PySem.W.listOf, instObj])
    · exact absurd (congrArg (·.cls) h) (by simp [PySem.W.listOf, dictOf])
    · exact absurd (congrArg (·.cls) h) (by simp [PySem.W.listOf, instObj])
    · exact absurd (congrArg (·.cls) h) (by simp [PySem.W.listOf, dictOf])
    · exact absurd (congrArg (·.data) h) (by simp [PySem.W.listOf])
    · exact absurd (congrArg (·.data) h) (by simp [PySem.W.listOf])
    · exact absurd (congrArg (·.data) h) (by simp [PySem.W.listOf])
    · exact absurd (congrArg (·.data) h) (by simp [PySem.W.listOf])
    · have := congrArg (·.cls) h
      dsimp only at this
      rw [hso] at this
      exact absurd this (by simp [PySem.W.listOf])
  all_goals exact hk rfl
theorem off_sym {A B : Led} (h : ∀ p ∈ A, ∀ q ∈ B, p.1 ≠ q.1) : OwnOff B (A.map (·.1)) := by
  intro q hq b hb e
  obtain ⟨p, hp, rfl⟩ := List.mem_map.mp hb
  exact h p hp q hq e.symm
theorem off_swap {w : World} {Z Z' : Tz} {S S' S₁ S₁' : Ts} (h : OwnOff (tzLed w Z S) ((tzLed w Z' S').map (·.1))) : OwnOff (tzLed w Z' S₁') ((tzLed w Z S₁).map (·.1)) := by
  intro p hp b hb e
  have h1 : p.1 ∈ (tzLed w Z' S').map (·.1) := by rw [tz_addr, ← tz_addr w Z' S₁']; exact List.mem_map_of_mem hp
  rw [tz_addr, ← tz_addr w Z S] at hb
  obtain ⟨q, hq, rfl⟩ := List.mem_map.mp hb
  exact h q hq _ h1 e.symm
theorem off_self {w : World} {Z Z' : Tz} {S S' S₁ S₁' : Ts} (h : OwnOff (tzLed w Z S) ((tzLed w Z' S').map (·.1))) : OwnOff (tzLed w Z S₁) ((tzLed w Z' S₁').map (·.1)) := off_swap (off_swap h (S₁ := S) (S₁' := S'))
/-- what lies apart from a ledger lies apart from what a call makes of it -/
theorem off_step {g h : Heap} {L : Addr} {all led led' X : Led} (N : News g L h all) (hX : ∀ p ∈ X, p ∈ all) (ho : OwnOff X (led.map (·.1))) (Fs : Fresh h (led.map (·.1)) led') : OwnOff X (led'.map (·.1)) := by
  intro p hp b hb e
  obtain ⟨q, hq, rfl⟩ := List.mem_map.mp hb
  rcases Fs q hq with h1 | h1
  · exact ho p hp _ h1 e
  · rw [← e, (N p (hX p hp)).1] at h1
    cases h1
theorem off_map {X A B : Led} (h1 : OwnOff X (A.map (·.1))) (h2 : OwnOff X (B.map (·.1))) : OwnOff X ((A ++ B).map (·.1)) := by
  intro p hp b hb
  rw [List.map_append] at hb
  rcases List.mem_append.mp hb with hb | hb
  · exact h1 p hp b hb
  · exact h2 p hp b hb
theorem off_left {X A B : Led} (h : OwnOff X ((A ++ B).map (·.1))) : OwnOff X (A.map (·.1)) := OwnOff.sub h fun b hb => by rw [List.map_append]; exact List.mem_append_left _ hb
theorem off_right {X A B : Led} (h : OwnOff X ((A ++ B).map (·.1))) : OwnOff X (B.map (·.1)) := OwnOff.sub h fun b hb => by rw [List.map_append]; exact List.mem_append_right _ hb
/-- an iterator lies apart from tuples -/
theorem it_off {g h : Heap} {L I : Addr} {oI : Obj} {nt : Led} (hc : oI.cls = .type "list_iterator") (hT : Tups nt) (N : News g L h ((I, oI) :: nt)) : OwnOff [(I, oI)] (nt.map (·.1)) := by
  intro p hp b hb e
  obtain ⟨q, hq, rfl⟩ := List.mem_map.mp hb
  rw [List.mem_singleton.mp hp] at e
  have h1 := (N _ (.head _)).1
  have h2 := (N q (.tail _ hq)).1
  rw [← e, h1] at h2
  have := hT q hq
  rw [← Option.some.inj h2, hc] at this
  exact absurd this (by decide)
/-- between the pieces -/
structure LInv (four : Bool) (ns : List Int) (w : World) (Z : Tz) (K : Led) (ps : List (List Nat)) (i : Nat) (S : Ts) (nt : Led) (c : Mc) (rawl : List Nat) : Prop where
  raw : rawl = (ps.take i).flatten
  closed : S.closed = false
  isret : S.isret = nrmR false rawl
  buf : S.buf = bufOf (wsOf ns)
  sv : StrsAre S.sv ((nrmL false rawl).map one)
  rel : Rel S nt c
  run : ∃ n, RunsIn four (nrmL false rawl) false (wsOf ns) n mc0 c
  bnd : Bnd (nrmL false rawl) c
  mok : MOk c
  off : OwnOff K ((tzLed w Z S ++ nt).map (·.1))
theorem mok0 : MOk mc0 := ⟨fun _ h => (nomatch h), fun _ h => (nomatch h), by decide +kernel⟩
theorem TokOut.rel {w : World} {four : Bool} {ws : Nat → List Nat × Bool} {Z : Tz} {S : Ts} (TO : TokOut w four ws Z S) : Rel S [] mc0 :=
  ⟨TO.at', TO.state, TO.last.trans (by decide +kernel), TO.waiting, TO.done, by rw [TO.out]; exact .nil, by rw [TO.errs]; exact .nil, fun _ h => nomatch h⟩
theorem TokOut.linv {w : World} {four : Bool} {ns : List Int} {Z : Tz} {S : Ts} (TO : TokOut w four (wsOf ns) Z S) {K : Led} (ps : List (List Nat)) (ho : OwnOff K ((tzLed w Z S).map (·.1))) : LInv four ns w Z K ps 0 S [] mc0 [] :=
  ⟨rfl, TO.closed, TO.isret, TO.buf, by rw [TO.sv]; exact .nil, TO.rel, ⟨0, .stop (by simp [ready, nrmL]) (by decide)⟩, Bnd.zero, mok0, by rw [List.append_nil]; exact ho⟩
theorem flat_take {ps : List (List Nat)} {i : Nat} (h : i < ps.length) : (ps.take (i + 1)).flatten = (ps.take i).flatten ++ ps[i] := by
  rw [List.take_succ_eq_append_getElem h, List.flatten_append]
  simp
theorem flat_le (ps : List (List Nat)) (i : Nat) : (ps.take i).flatten.length ≤ ps.flatten.length := by
  have h : ps.flatten = (ps.take i).flatten ++ (ps.drop i).flatten := by rw [← List.flatten_append, List.take_append_drop]
  rw [h, List.length_append]
  omega
theorem flat_mem {ps : List (List Nat)} {i : Nat} (hg : ∀ p ∈ ps, ∀ x ∈ p, goodC x) : ∀ x ∈ (ps.take i).flatten, goodC x := fun x hx => by
  obtain ⟨p, hp, hx⟩ := List.mem_flatten.mp hx
  exact hg p (List.mem_of_mem_take hp) x hx
theorem tz_lt {w : World} {Z : Tz} {S S' : Ts} {X : Led} {I : Nat} (h : ∀ p ∈ tzLed w Z S ++ X, @LT.lt Nat _ p.1 I) (oI : Obj) : OwnOff [(I, oI)] ((tzLed w Z S').map (·.1)) := by
  intro p hp b hb e
  rw [List.mem_singleton.mp hp] at e
  rw [tz_addr, ← tz_addr w Z S] at hb
  obtain ⟨q, hq, rfl⟩ := List.mem_map.mp hb
  have := h q (List.mem_append_left _ hq)
  dsimp only at e
  rw [e] at this
  exact absurd this (Nat.lt_irrefl _)
theorem SgOk.nrm {S : Ts} {l : List Nat} (hs : StrsAre S.sv ((nrmL false l).map one)) (hl : l.length ≤ 20) (hg : ∀ x ∈ l, goodC x) : SgOk S (nrmL false l) :=
  ⟨hs, by have := nrm_len l false; omega, nrm_good l false hg⟩
theorem str_app (a b : List Nat) : (⟨a.toArray⟩ : Str) ++ (⟨b.toArray⟩ : Str) = ⟨(a ++ b).toArray⟩ := by
  refine PySem.Str.ext' (Array.toList_inj.mp ?_)
  rw [PySem.Str.cps_append, Array.toList_append]
theorem crlf_len : ∀ l : List Nat, (crlf l).length ≤ l.length
  | [] => Nat.le_refl _
  | [_] => Nat.le_refl _
  | c :: d :: t => by
    have h1 := crlf_len t
    have h2 := crlf_len (d :: t)
    rw [crlf]
    split
    · simp only [List.length_cons]; omega
    · simp only [List.length_cons] at h2 ⊢; omega
theorem text_eq (l : List Nat) : Txt.replace (Txt.replace ⟨l.toArray⟩ (Str.ofString "\r\n") (Str.ofString "\n")) (Str.ofString "\r") (Str.ofString "\n") = ⟨(nrmL false l).toArray⟩ := by
  rw [crlf_eq, crs_eq, nrm_crlf]
theorem text_len (l : List Nat) : (Txt.replace ⟨l.toArray⟩ (Str.ofString "\r\n") (Str.ofString "\n")).length ≤ l.length := by
  rw [crlf_eq, len_tx]
  exact crlf_len l
open Builtin Builtin.Str in
/-- str.replace, the count of tokens not lowered -/
theorem replaceT {prog : Program} {w : World} {A : Around} {E : Value → Shared → Prop} {s : Shared} {x y z : Str} {t u v : Tok} {Q : Value → Shared → Prop} (hu' : @Ne Nat u 0) (hv' : @Ne Nat v 0) (huv' : @Ne Nat u v) (hyz : (y == z) = false) (hx : x.length ≤ 1000) (hz : z.length ≤ 14)
    (hq : ∀ t' k, @LE.le Nat _ s.toks k → Q (.str (Txt.replace x y z) t') { s with toks := k }) : wpAny (model prog w) A (call (.builtin "str.replace") [.str x t, .str y u, .str z v]) Q E s := by
  have hu : u ≠ 0 := hu'
  have hv : v ≠ 0 := hv'
  have huv : u ≠ v := huv'
  have hb : x.length + (x.length + 1) * z.length ≤ 16777216 := by
    have h1 : (x.length + 1) * z.length ≤ (x.length + 1) * 14 := Nat.mul_le_mul_left _ hz
    omega
  have e : (2 : Nat) ^ 24 = 16777216 := by decide
  have hl : tooLong (x.length + (occurrences x y 0 x.length (x.length + 1)).length * z.length) = false := by
    have h1 := StrLaws.occ_length_le x y 0 x.length (x.length + 1)
    have h2 : (occurrences x y 0 x.length (x.length + 1)).length * z.length ≤ (x.length + 1) * z.length := Nat.mul_le_mul_right _ h1
    unfold tooLong sizeLine
    exact decide_eq_false (by omega)
  refine call_gives F.slot_str_replace (typeIs_str _ _ _) F.entry_str_replace (F.args_str_replace_3 _ _ _)
    (gives_str_replace x y z t u v fun _ => ⟨by simp [hu, hv], by simp [huv], hyz, hl⟩) ?_
  have hq' := hq
  unfold Txt.replace at hq'
  cases hc : ((occurrences x y 0 x.length (x.length + 1)).isEmpty || (y.length == 0 && z.length == 0))
  · rw [hc] at hq'
    simp only [Bool.false_eq_true, if_false] at hq' ⊢
    exact ⟨fits_replaced y hb, hq' _ _ (by first | omega | exact Nat.le_succ _ | (show s.toks ≤ s.toks + _; omega))⟩
  · rw [hc] at hq'
    simp only [if_true] at hq' ⊢
    exact hq' t s.toks (Nat.le_refl _)
theorem dat_list {l : Led} {v : Value} {ds : List Dat} (h : DatIn l v (.list ds)) : ∃ a n, ∃ vs : List Value, v = .ref a ∧ (a, PySem.W.listOf vs.toArray n) ∈ l ∧ DatAll l vs ds := by
  cases h with
  | list hm r => exact ⟨_, _, _, rfl, hm, r⟩
theorem lt_off {X : Led} {I : Nat} (h : ∀ p ∈ X, @LT.lt Nat _ p.1 I) (oI : Obj) : OwnOff [(I, oI)] (X.map (·.1)) := by
  intro p hp b hb e
  rw [List.mem_singleton.mp hp] at e
  obtain ⟨q, hq, rfl⟩ := List.mem_map.mp hb
  have := h q hq
  dsimp only at e
  rw [e] at this
  exact absurd this (Nat.lt_irrefl _)
theorem ok_mc {c : Mc} (m : MOk c) : okDs [.list c.out, .list c.errs, .int (c.at' : Nat), .str (nm c.k), .str ⟨c.last.toArray⟩, .bool c.waiting, .bool c.done] = true := ok_seen (okl m.out) (okl m.errs) m.last
theorem off_fresh {led led' all X : Led} (fr : ∀ p ∈ led', p ∈ led ∨ ∀ q ∈ all, p.1 ≠ q.1) (hl : OwnOff led (X.map (·.1))) (hX : ∀ p ∈ X, p ∈ all) : OwnOff led' (X.map (·.1)) := by
  intro p hp b hb e
  rcases fr p hp with h | h
  · exact hl p h b hb e
  · obtain ⟨q, hq, rfl⟩ := List.mem_map.mp hb
    exact h q (hX q hq) e
theorem off_sym2 {A B : Led} (h : OwnOff A (B.map (·.1))) : OwnOff B (A.map (·.1)) := by
  intro p hp b hb e
  obtain ⟨q, hq, rfl⟩ := List.mem_map.mp hb
  exact h q hq _ (List.mem_map_of_mem hp) e.symm
theorem runs_lens {four closed : Bool} {sl : List Nat} {ws : Nat → List Nat × Bool} {n : Nat} {c c' : Mc} (h : RunsIn four sl closed ws n c c') (b : Bnd sl c) : c'.out.length ≤ 4 * sl.length + 3 ∧ c'.errs.length ≤ 2 * sl.length + 1 := by
  rcases runs_end h b with h | h
  · have := h.lens; omega
  · exact h.2
theorem dat_bool {l : Led} {v : Value} {b : Bool} (h : DatIn l v (.bool b)) : v = .bool b := by
  cases h; rfl
theorem due6 {l : Led} {vs : List Value} {c : Mc} (h : DatAll l vs [.list c.out, .list c.errs, .int (c.at' : Nat), .str (nm c.k), .str ⟨c.last.toArray⟩, .bool c.waiting, .bool c.done]) : vs[(6 : Int).toNat]? = some (.bool c.done) := by
  obtain ⟨v, hv, hd⟩ := h.get (k := 6) (by simp)
  rw [show (6 : Int).toNat = 6 from rfl, hv, dat_bool hd]
/-- the count of tokens never falls -/
theorem runs_toks {M : Model} {Γ : PySem.Ctx} {p : Pos} {t : Sem Fin} {fs : List Frame} {s s' : Shared} {e : End} (h : Runs M Γ p t fs s e s') : @LE.le Nat _ s.toks s'.toks := by
  induction h
  all_goals first
    | exact Nat.le_refl _
    | assumption
    | (rename_i h1; exact Nat.le_of_succ_le h1)
    | (rename_i h1 h2; exact Nat.le_trans h1 h2)
    | (rename_i h1 _ h2; exact Nat.le_trans h1 h2)
    | (simp only [Shared.setGen] at *; omega)
theorem wakes_toks {M : Model} {Γ : PySem.Ctx} {p : Pos} {g : Nat} {r : Resume} {s s' : Shared} {res : GenResult} (h : Wakes M Γ p g r s res s') : @LE.le Nat _ s.toks s'.toks := by
  unfold Wakes at h
  split at h
  · exact h.elim
  · split at h
    · obtain ⟨e₁, s₁, hr, _, _, rfl⟩ := h
      (have z := runs_toks hr; exact z)
    · rw [h.2]; exact Nat.le_refl _
    · rw [h.2]; exact Nat.le_refl _
  · obtain ⟨e₁, s₁, hr, _, _, rfl⟩ := h
    (have z := runs_toks hr; exact z)
  · rw [h.2]; exact Nat.le_refl _
  · rw [h.2]; exact Nat.le_refl _
theorem wp_toks {M : Model} {Γ : PySem.Ctx} {α : Type} (n : Nat) : ∀ (t : Sem α) (Q : α → Pos → Shared → Prop) (E : Value → Pos → Shared → Prop) (p : Pos) (s : Shared), @LE.le Nat _ n s.toks → Sem.wp M Γ t Q E p s →
    Sem.wp M Γ t (fun a p' s' => Q a p' s' ∧ @LE.le Nat _ n s'.toks) (fun e p' s' => E e p' s' ∧ @LE.le Nat _ n s'.toks) p s := by
  intro t
  induction t with
  | pure a => intro Q E p s h0 h; rw [Sem.wp] at h ⊢; exact ⟨h, h0⟩
  | raise e => intro Q E p s h0 h; rw [Sem.wp] at h ⊢; exact ⟨h, h0⟩
  | unsupported _ => intro Q E p s h0 h; rw [Sem.wp] at h; exact h.elim
  | finish _ => intro Q E p s h0 h; rw [Sem.wp] at h; exact h.elim
  | rule _ k ih => intro Q E p s h0 h; rw [Sem.wp] at h ⊢; exact ih _ _ _ _ _ h0 h
  | «at» p' k ih => intro Q E p s h0 h; rw [Sem.wp] at h ⊢; exact ih _ _ _ _ _ h0 h
  | load a _ k ih => intro Q E p s h0 h; rw [Sem.wp] at h ⊢; obtain ⟨o, ho, h⟩ := h; exact ⟨o, ho, ih _ _ _ _ _ h0 h⟩
  | update a _ f k ih => intro Q E p s h0 h; rw [Sem.wp] at h ⊢; exact ⟨h.1, ih _ _ _ _ _ h0 h.2⟩
  | loadIfAlive a k ih => intro Q E p s h0 h; rw [Sem.wp] at h ⊢; exact ih _ _ _ _ _ h0 h
  | point _ k ih => intro Q E p s h0 h; rw [Sem.wp] at h ⊢; exact ih _ _ _ _ _ h0 h
  | register _ _ => intro Q E p s h0 h; rw [Sem.wp] at h; exact h.elim
  | alloc o k ih => intro Q E p s h0 h; rw [Sem.wp] at h ⊢; exact ih _ _ _ _ _ h0 h
  | fresh k ih => intro Q E p s h0 h; rw [Sem.wp] at h ⊢; exact ih _ _ _ _ _ (Nat.le_succ_of_le h0) h
  | ask k ih => intro Q E p s h0 h; rw [Sem.wp] at h ⊢; exact ih _ _ _ _ _ h0 h
  | choose src n k ih => intro Q E p s h0 h; rw [Sem.wp] at h ⊢; exact ⟨h.1, ih _ _ _ _ _ h0 h.2⟩
  | os q _ k ih => intro Q E p s h0 h; rw [Sem.wp] at h ⊢; exact ih _ _ _ _ _ h0 h
  | call c hh g l k ih =>
    intro Q E p s h0 h
    rw [Sem.wp] at h ⊢
    obtain ⟨r, s₁, hr, h⟩ := h
    exact ⟨r, s₁, hr, ih _ _ _ _ _ (Nat.le_trans h0 (runs_toks hr)) h⟩
  | handled own k ih => intro Q E p s h0 h; rw [Sem.wp] at h ⊢; exact ih _ _ _ _ _ h0 h
  | genState g k ih => intro Q E p s h0 h; rw [Sem.wp] at h ⊢; obtain ⟨o, ho, h⟩ := h; exact ⟨o, ho, ih _ _ _ _ _ h0 h⟩
  | newGen c k ih => intro Q E p s h0 h; rw [Sem.wp] at h ⊢; exact ih _ _ _ _ _ h0 h
  | resume g r l k ih =>
    intro Q E p s h0 h
    rw [Sem.wp] at h ⊢
    obtain ⟨res, s₁, hw, h⟩ := h
    exact ⟨res, s₁, hw, ih _ _ _ _ _ (Nat.le_trans h0 (wakes_toks hw)) h⟩
  | stack k ih => intro Q E p s h0 h; rw [Sem.wp] at h ⊢; exact ih _ _ _ _ _ h0 h
  | thread k ih => intro Q E p s h0 h; rw [Sem.wp] at h ⊢; exact ih _ _ _ _ _ h0 h
  | _ => intro Q E p s h0 h; rw [Sem.wp] at h; exact h.elim
theorem wpAny_pos {M : Model} {A : Around} {α : Type} {t : Sem α} {Q : α → Shared → Prop} {E : Value → Shared → Prop} {s : Shared} (h0 : @LT.lt Nat _ 0 s.toks) (h : wpAny M A t (fun a s' => @LT.lt Nat _ 0 s'.toks → Q a s') E s) : wpAny M A t Q E s :=
  fun Γ p hΓ => Sem.wp_mono (post := fun a _ s' => (@LT.lt Nat _ 0 s'.toks → Q a s') ∧ @LE.le Nat _ s.toks s'.toks) (exc := fun e _ s' => E e s' ∧ @LE.le Nat _ s.toks s'.toks) M Γ t (fun _ _ _ h => h.1 (Nat.lt_of_lt_of_le h0 h.2)) (fun _ _ _ h => h.1) p s (wp_toks s.toks t _ _ p s (Nat.le_refl _) (h Γ p hΓ))
theorem str_emp (l : List Nat) : ((⟨l.toArray⟩ : Str) != Str.ofString "") = !decide (l = []) := by
  rw [show Str.ofString "" = ⟨([] : List Nat).toArray⟩ from by decide +kernel, str_neL]
theorem law_end {cl : Str → Option Addr} {mean : ExcName → Option Value} {ns : List Int} {s₁ s' : Shared} {L : Addr} {m : Str → Option Value} (F : Fr s₁.heap L s'.heap m) (hg : s'.gens = #[]) (hos : s'.os = s₁.os) :
    GoodW PySem.Challenge.rw_nt0598_01.row.claim cl mean [ofPy (PyData.list (List.map PyData.int ns))] s₁ (Except.ok (Flow.ret (Value.bool true))) s' := by
  refine goodW_bool F hg (raisesW_false ?_) ?_ hos
  · wrow_none_raised
  · wrow_post
/-- a statement done: the frame's told names, the ledger -/
noncomputable def Mid (g : Heap) (L : Addr) (led : Led) (P : (Str → Option Value) → Prop) (s : Shared) (f : Flow) (s' : Shared) : Prop :=
  f = .next ∧ ∃ h' tk m', s' = { s with heap := h', toks := tk } ∧ Fr g L h' m' ∧ News g L h' led ∧ P m'
theorem mid_mono {M : Model} {A : Around} {E : Value → Shared → Prop} {s : Shared} {x : Sem Flow} {Q : Flow → Shared → Prop} {g : Heap} {L : Addr} {m : Str → Option Value} (led : Led) (P : (Str → Option Value) → Prop) (_F : Fr g L s.heap m) (h1 : wpAny M A x (Mid g L led P s) E s)
    (h2 : ∀ h' tk m', Fr g L h' m' → News g L h' led → P m' → Q .next { s with heap := h', toks := tk }) : wpAny M A x Q E s :=
  wpAny_mono h1 (fun f s' hm => by
    obtain ⟨rfl, h', tk, m', rfl, F, N, p⟩ := hm
    exact h2 h' tk m' F N p) fun _ _ e => e
theorem law_walk.tw16655610470186158400 : True := trivial
theorem law_walk.tw9446009449886439872 : True := trivial
theorem law_walk.tw114068836442368448 : True := trivial
theorem law_walk.tw15608699163130600928 : True := trivial
theorem law_walk.tw2683228806543164896 : True := trivial
theorem law_walk.tw13141938791855318528 : True := trivial
theorem law_walk.tw7100947392080961120 : True := trivial
theorem law_walk.tw17449492887640561248 : True := trivial
theorem law_walk.tw14974011525358233248 : True := trivial
theorem law_walk.tw7152392621079018176 : True := trivial
theorem law_walk.tw18132122536221473472 : True := trivial
theorem law_walk.tw6400172762246600512 : True := trivial
theorem law_walk.tw1324468810271576928 : True := trivial
theorem law_walk.tw13422099721287017408 : True := trivial
theorem law_walk.tw511266971563236320 : True := trivial
theorem law_walk.tw5123171411619025921 : True := trivial
theorem law_walk.tw12798696055825269889 : True := trivial
theorem law_walk.tw16322055377411215521 : True := trivial
theorem law_walk.tw15800454764057550145 : True := trivial
theorem law_walk.tw9186056918976138657 : True := trivial
theorem law_walk.tw15036561009911040737 : True := trivial
theorem law_walk.tw17798860381818213281 : True := trivial
theorem law_walk.tw5589076387769521186 : True := trivial
theorem law_walk.tw1107684660248113442 : True := trivial
theorem law_walk.tw652925120267005250 : True := trivial
theorem law_walk.tw16430022226258692450 : True := trivial
theorem law_walk.tw1291188863830293922 : True := trivial
theorem law_walk.tw18105684149968559586 : True := trivial
theorem law_walk.tw1506947507783032290 : True := trivial
theorem law_walk.tw11592501116013859330 : True := trivial
theorem law_walk.tw5849464907602556482 : True := trivial
theorem law_walk.tw18259787569207076514 : True := trivial
theorem law_walk.tw2290006836762255042 : True := trivial
theorem law_walk.tw5779170204127675202 : True := trivial
theorem law_walk.tw3617187102980411362 : True := trivial
theorem law_walk.tw1472925903206734883 : True := trivial
theorem law_walk.tw1786772253146571011 : True := trivial
theorem law_walk.tw3645142685593176355 : True := trivial
theorem law_walk.tw15730742052892828963 : True := trivial
theorem law_walk.tw15637905503817521475 : True := trivial
theorem law_walk.tw10197584988195932483 : True := trivial
theorem law_walk.tw16239419225424659875 : True := trivial
theorem law_walk.tw4386345922209527203 : True := trivial
theorem law_walk.tw1407156338458783363 : True := trivial
theorem law_walk.tw12709367179632773795 : True := trivial
theorem law_walk.tw8761125589383238307 : True := trivial
theorem law_walk.tw7783959777113460643 : True := trivial
theorem law_walk.tw9046220672855999427 : True := trivial
theorem law_walk.tw12155212933862730691 : True := trivial
theorem law_walk.tw1334883727047341027 : True := trivial
theorem law_walk.tw9774065109101459460 : True := trivial
theorem law_walk.tw296180040996304996 : True := trivial
theorem law_walk.tw15502360365264503172 : True := trivial
theorem law_walk.tw8911797091718074820 : True := trivial
theorem law_walk.tw10349880028629904836 : True := trivial
theorem law_walk.tw17532403902413084164 : True := trivial
theorem law_walk.tw8830698684499257924 : True := trivial
theorem law_walk.tw9988921452368062052 : True := trivial
theorem law_walk.tw9623560617126554500 : True := trivial
theorem law_walk.tw12709167099813424004 : True := trivial
theorem law_walk.tw11474566579329802148 : True := trivial
theorem law_walk.tw9629949465616303012 : True := trivial
theorem law_walk.tw1962610487425886148 : True := trivial
theorem law_walk.tw3775679006543032292 : True := trivial
theorem law_walk.tw8393762817145251909 : True := trivial
theorem law_walk.tw6315668286158482565 : True := trivial
theorem law_walk.tw17213830025686893733 : True := trivial
theorem law_walk.tw7009013107003880677 : True := trivial
theorem law_walk.tw18202080616877959397 : True := trivial
theorem law_walk.tw9135258683330350373 : True := trivial
theorem law_walk.tw3072583708981276997 : True := trivial
theorem law_walk.tw3397640014722814597 : True := trivial
theorem law_walk.tw13374230587393269381 : True := trivial
theorem law_walk.tw5285187710974808773 : True := trivial
theorem law_walk.tw6876844073889826661 : True := trivial
theorem law_walk.tw16177133813778340837 : True := trivial
theorem law_walk.tw1488954502652529894 : True := trivial
theorem law_walk.tw13131166574269975942 : True := trivial
theorem law_walk.tw804102523834244518 : True := trivial
theorem law_walk.tw5111013765409397190 : True := trivial
theorem law_walk.tw3328707826287525414 : True := trivial
theorem law_walk.tw17503048201020566150 : True := trivial
theorem law_walk.tw2881633161984637734 : True := trivial
theorem law_walk.tw4785864527425131527 : True := trivial
theorem law_walk.tw4650864048630087687 : True := trivial
theorem law_walk.tw7640126465536901159 : True := trivial
theorem law_walk.tw7967881594753178663 : True := trivial
theorem law_walk.tw14767876607977615399 : True := trivial
theorem law_walk.tw7487980891283516487 : True := trivial
theorem law_walk.tw11543882884557045927 : True := trivial
theorem law_walk.tw10639959928510409895 : True := trivial
theorem law_walk.tw15505191111615268071 : True := trivial
theorem law_walk.tw1913036947019820295 : True := trivial
theorem law_walk.tw9452348037586664839 : True := trivial
theorem law_walk.tw6814169468445859271 : True := trivial
theorem law_walk.tw649375490138095207 : True := trivial
theorem law_walk.tw8585720189463720551 : True := trivial
theorem law_walk.tw12066832245886349031 : True := trivial
theorem law_walk.tw10351194298694868871 : True := trivial
theorem law_walk.tw5902568441231491975 : True := trivial
theorem law_walk.tw6542317772984906631 : True := trivial
theorem law_walk.tw9614167044172017575 : True := trivial
theorem law_walk.tw16335246994957245351 : True := trivial
theorem law_walk.tw3004964013433161768 : True := trivial
theorem law_walk.tw16660429752967501896 : True := trivial
theorem law_walk.tw8234097925263858792 : True := trivial
theorem law_walk.tw6509880215270199464 : True := trivial
theorem law_walk.tw16894674626988043528 : True := trivial
theorem law_walk.tw12339468898658440648 : True := trivial
theorem law_walk.tw12810192943273396808 : True := trivial
theorem law_walk.tw9534256043926966856 : True := trivial
theorem law_walk.tw744953451102037001 : True := trivial
theorem law_walk.tw3482016092978867209 : True := trivial
theorem law_walk.tw1680266527557545993 : True := trivial
theorem law_walk.tw10383870825954768009 : True := trivial
theorem law_walk.tw10410218519925115209 : True := trivial
theorem law_walk.tw10371699851381802313 : True := trivial
theorem law_walk.tw8162407469431441865 : True := trivial
theorem law_walk.tw5508588685556369961 : True := trivial
theorem law_walk.tw11923195694410398313 : True := trivial
theorem law_walk.tw9483369658182257289 : True := trivial
theorem law_walk.tw5711866699771652809 : True := trivial
theorem law_walk.tw3859728766915173161 : True := trivial
theorem law_walk.tw18083422011985357641 : True := trivial
theorem law_walk.tw15166187191399147401 : True := trivial
theorem law_walk.tw5763417355346935721 : True := trivial
theorem law_walk.tw14553445138279101417 : True := trivial
theorem law_walk.tw18349341294619126761 : True := trivial
theorem law_walk.tw18318343192310439050 : True := trivial
theorem law_walk.tw10507231385081393450 : True := trivial
theorem law_walk.tw12960922864970901034 : True := trivial
theorem law_walk.tw5473956158163234346 : True := trivial
theorem law_walk.tw9095732442746558090 : True := trivial
theorem law_walk.tw11695968945485325002 : True := trivial
theorem law_walk.tw17994628964845550410 : True := trivial
theorem law_walk.tw5203751740958989323 : True := trivial
theorem law_walk.tw6817066608918758411 : True := trivial
theorem law_walk.tw9165773640544737355 : True := trivial
theorem law_walk.tw16896177677555761227 : True := trivial
theorem law_walk.tw4929543586258360427 : True := trivial
theorem law_walk.tw2855530394995187819 : True := trivial
theorem law_walk.tw12627331199131324555 : True := trivial
theorem law_walk.tw2982868256983569547 : True := trivial
theorem law_walk.tw5489435162092308715 : True := trivial
theorem law_walk.tw3832610391939881195 : True := trivial
theorem law_walk.tw7554009859242410475 : True := trivial
theorem law_walk.tw10428339308654853771 : True := trivial
theorem law_walk.tw5132826270825761451 : True := trivial
theorem law_walk.tw3789574390143640299 : True := trivial
theorem law_walk.tw9763698464105133803 : True := trivial
theorem law_walk.tw2672495830845699883 : True := trivial
theorem law_walk.tw6893076860397145995 : True := trivial
theorem law_walk.tw1807287435005278155 : True := trivial
theorem law_walk.tw13190985142017696747 : True := trivial
theorem law_walk.tw4657591597472639979 : True := trivial
theorem law_walk.tw10145663917544633356 : True := trivial
theorem law_walk.tw9559486571768005804 : True := trivial
theorem law_walk.tw5267109075004283180 : True := trivial
theorem law_walk.tw13573928544673780044 : True := trivial
theorem law_walk.tw18335874846033304908 : True := trivial
theorem law_walk.tw8480634766571863564 : True := trivial
theorem law_walk.tw6442823786168487660 : True := trivial
theorem law_walk.tw11355295328708566764 : True := trivial
theorem law_walk.tw15582506271344279308 : True := trivial
theorem law_walk.tw4742891490094723884 : True := trivial
theorem law_walk.tw9033031517808640844 : True := trivial
theorem law_walk.tw15612027222607308620 : True := trivial
theorem law_walk.tw224434131489418092 : True := trivial
theorem law_walk.tw17554292419583383468 : True := trivial
theorem law_walk.tw11043068461460382700 : True := trivial
theorem law_walk.tw3385936075775627244 : True := trivial
theorem law_walk.tw17238711329945602061 : True := trivial
theorem law_walk.tw14925120335623570509 : True := trivial
theorem law_walk.tw12216838664848171149 : True := trivial
theorem law_walk.tw13781007032354609357 : True := trivial
theorem law_walk.tw17427764343826140397 : True := trivial
theorem law_walk.tw8192776089968869677 : True := trivial
theorem law_walk.tw1651486830227260749 : True := trivial
theorem law_walk.tw11982992778822352237 : True := trivial
theorem law_walk.tw13012963976651126157 : True := trivial
theorem law_walk.tw5384549298661720461 : True := trivial
theorem law_walk.tw8378071691432599981 : True := trivial
theorem law_walk.tw5726713333530599853 : True := trivial
theorem law_walk.tw12101466091422677741 : True := trivial
theorem law_walk.tw16555205638712268653 : True := trivial
theorem law_walk.tw13726853253858281453 : True := trivial
theorem law_walk.tw2495001387537848334 : True := trivial
theorem law_walk.tw15105356252194471118 : True := trivial
theorem law_walk.tw546888889209027854 : True := trivial
theorem law_walk.tw17138217388074998094 : True := trivial
theorem law_walk.tw9499157157656621582 : True := trivial
theorem law_walk.tw12580990067054571118 : True := trivial
theorem law_walk.tw8664003847685610222 : True := trivial
theorem law_walk.tw1420760975202630414 : True := trivial
theorem law_walk.tw13714257558657638190 : True := trivial
theorem law_walk.tw4825969915279202094 : True := trivial
theorem law_walk.tw17151797450817616718 : True := trivial
theorem law_walk.tw17535905661147732878 : True := trivial
theorem law_walk.tw9562887384487274575 : True := trivial
theorem law_walk.tw15150796270177616047 : True := trivial
theorem law_walk.tw11003515547874723151 : True := trivial
theorem law_walk.tw4117861724953224559 : True := trivial
theorem law_walk.tw10575778595181894031 : True := trivial
theorem law_walk.tw9669262220790407631 : True := trivial
theorem law_walk.tw17127123404884082191 : True := trivial
theorem law_walk.tw2552621430300128815 : True := trivial
theorem law_walk.tw6451171169170823791 : True := trivial
theorem law_walk.tw15887692210645656175 : True := trivial
theorem law_walk.tw3463853701724268143 : True := trivial
theorem law_walk.tw11889892436880215759 : True := trivial
theorem law_walk.tw10628030151618537167 : True := trivial
theorem law_walk.tw18015715687542667119 : True := trivial
theorem law_walk.tw14179282942653684752 : True := trivial
theorem law_walk.tw10041176132709441552 : True := trivial
theorem law_walk.tw408965671246964816 : True := trivial
theorem law_walk.tw13657194089009009776 : True := trivial
theorem law_walk.tw14940420482638819504 : True := trivial
theorem law_walk.tw2956760582631884976 : True := trivial
theorem law_walk.tw5005366158714953936 : True := trivial
theorem law_walk.tw13766059861071819024 : True := trivial
theorem law_walk.tw14933636063808288048 : True := trivial
theorem law_walk.tw9424878556501752112 : True := trivial
theorem law_walk.tw5945251890368040592 : True := trivial
theorem law_walk.tw17038179071774957488 : True := trivial
theorem law_walk.tw9166629151429394481 : True := trivial
theorem law_walk.tw309411868979763249 : True := trivial
theorem law_walk.tw1391093639713574961 : True := trivial
theorem law_walk.tw3981640346128581809 : True := trivial
theorem law_walk.tw6493771711663227121 : True := trivial
theorem law_walk.tw16314443678151020817 : True := trivial
theorem law_walk.tw13928359114818421041 : True := trivial
theorem law_walk.tw3212577764242795953 : True := trivial
theorem law_walk.tw13732427437597736401 : True := trivial
theorem law_walk.tw11948163389541680817 : True := trivial
theorem law_walk.tw351393988171304625 : True := trivial
theorem law_walk.tw6049634886937883345 : True := trivial
theorem law_walk.tw4725632481083999985 : True := trivial
theorem law_walk.tw13448336187242820401 : True := trivial
theorem law_walk.tw6395076724380272433 : True := trivial
theorem law_walk.tw2610553823429803857 : True := trivial
theorem law_walk.tw14469600623860062065 : True := trivial
theorem law_walk.tw16544933085067678609 : True := trivial
theorem law_walk.tw10089813817477584785 : True := trivial
theorem law_walk.tw14413383872799207634 : True := trivial
theorem law_walk.tw9437996820781617458 : True := trivial
theorem law_walk.tw6400728029846161746 : True := trivial
theorem law_walk.tw9421641426863037778 : True := trivial
theorem law_walk.tw5768517256161041778 : True := trivial
theorem law_walk.tw2992045281244225938 : True := trivial
theorem law_walk.tw14479362093608570418 : True := trivial
theorem law_walk.tw7370938304984870482 : True := trivial
theorem law_walk.tw3661333082589093490 : True := trivial
theorem law_walk.tw10690968490827705138 : True := trivial
theorem law_walk.tw2883566381717434194 : True := trivial
theorem law_walk.tw8860917272210807666 : True := trivial
theorem law_walk.tw3540575760605503442 : True := trivial
theorem law_walk.tw16328373283691547731 : True := trivial
theorem law_walk.tw17459064837378575475 : True := trivial
theorem law_walk.tw5098927338580152435 : True := trivial
theorem law_walk.tw15481486496463984755 : True := trivial
theorem law_walk.tw16188769599606678643 : True := trivial
theorem law_walk.tw14099747912869244307 : True := trivial
theorem law_walk.tw16621082731844528563 : True := trivial
theorem law_walk.tw5774354148439448019 : True := trivial
theorem law_walk.tw16588903437976998387 : True := trivial
theorem law_walk.tw118772489925084819 : True := trivial
theorem law_walk.tw14245692378676067059 : True := trivial
theorem law_walk.tw6061379783212365651 : True := trivial
theorem law_walk.tw77035021383099251 : True := trivial
theorem law_walk.tw7583747637197625299 : True := trivial
theorem law_walk.tw16688278742314830932 : True := trivial
theorem law_walk.tw7620564344729246804 : True := trivial
theorem law_walk.tw14971813819131637940 : True := trivial
theorem law_walk.tw13641380642171206868 : True := trivial
theorem law_walk.tw2306348491205089524 : True := trivial
theorem law_walk.tw8817104002524506356 : True := trivial
theorem law_walk.tw15734438454389992756 : True := trivial
theorem law_walk.tw5678853151643781460 : True := trivial
theorem law_walk.tw14594578202750778740 : True := trivial
theorem law_walk.tw17700758138987353556 : True := trivial
theorem law_walk.tw9523152087340033652 : True := trivial
theorem law_walk.tw8222505814931346132 : True := trivial
theorem law_walk.tw3756160188692538100 : True := trivial
theorem law_walk.tw15702739590981716756 : True := trivial
theorem law_walk.tw4715142628854536148 : True := trivial
theorem law_walk.tw7102155933189859701 : True := trivial
theorem law_walk.tw12822963340627263861 : True := trivial
theorem law_walk.tw9075580402529209749 : True := trivial
theorem law_walk.tw18280739221102298645 : True := trivial
theorem law_walk.tw3515985582248649365 : True := trivial
theorem law_walk.tw10086159654209356469 : True := trivial
theorem law_walk.tw15629570529578067637 : True := trivial
theorem law_walk.tw17118425190982333173 : True := trivial
theorem law_walk.tw18419849500374968085 : True := trivial
theorem law_walk.tw17516156735435868949 : True := trivial
theorem law_walk.tw17577931810382400309 : True := trivial
theorem law_walk.tw14284208715777796981 : True := trivial
theorem law_walk.tw6261611128554671061 : True := trivial
theorem law_walk.tw15068387895767642262 : True := trivial
theorem law_walk.tw15571837854873285814 : True := trivial
theorem law_walk.tw4562229481737148886 : True := trivial
theorem law_walk.tw8125532106854212182 : True := trivial
theorem law_walk.tw11142810084088212214 : True := trivial
theorem law_walk.tw15955792830637053814 : True := trivial
theorem law_walk.tw13870901821450722198 : True := trivial
theorem law_walk.tw10644555465049499542 : True := trivial
theorem law_walk.tw13259404155784925174 : True := trivial
theorem law_walk.tw7935032364589072374 : True := trivial
theorem law_walk.tw9885818699757977590 : True := trivial
theorem law_walk.tw10927720493975237751 : True := trivial
theorem law_walk.tw9175309087135656087 : True := trivial
theorem law_walk.tw4280611388464062807 : True := trivial
theorem law_walk.tw10753188223293893975 : True := trivial
theorem law_walk.tw5874701251743951223 : True := trivial
theorem law_walk.tw11107084788130492855 : True := trivial
theorem law_walk.tw2571282474401314295 : True := trivial
theorem law_walk.tw18274630477781228279 : True := trivial
theorem law_walk.tw14058109858162537207 : True := trivial
theorem law_walk.tw13239012831020974903 : True := trivial
theorem law_walk.tw6224058564654440311 : True := trivial
theorem law_walk.tw18388200785778454552 : True := trivial
theorem law_walk.tw13814768429321957464 : True := trivial
theorem law_walk.tw3503918262955619448 : True := trivial
theorem law_walk.tw15532297569418392 : True := trivial
theorem law_walk.tw11647040384031862968 : True := trivial
theorem law_walk.tw13815495218294476984 : True := trivial
theorem law_walk.tw2817620334512229656 : True := trivial
theorem law_walk.tw15417956146314419576 : True := trivial
theorem law_walk.tw8010708191331470744 : True := trivial
theorem law_walk.tw4370083229036569240 : True := trivial
theorem law_walk.tw583991755219690200 : True := trivial
theorem law_walk.tw14055614312144957176 : True := trivial
theorem law_walk.tw15736856550780382072 : True := trivial
theorem law_walk.tw5737706109592288152 : True := trivial
theorem law_walk.tw1349618128346378168 : True := trivial
theorem law_walk.tw2062801440693558232 : True := trivial
theorem law_walk.tw4182832439252594905 : True := trivial
theorem law_walk.tw17635426524294582585 : True := trivial
theorem law_walk.tw13669227089607836025 : True := trivial
theorem law_walk.tw5593611450203143609 : True := trivial
theorem law_walk.tw9961506034972829209 : True := trivial
theorem law_walk.tw6308444445224335033 : True := trivial
theorem law_walk.tw17330576422823195353 : True := trivial
theorem law_walk.tw14072875309468543705 : True := trivial
theorem law_walk.tw6407279749112937241 : True := trivial
theorem law_walk.tw8501291642466889497 : True := trivial
theorem law_walk.tw5617465109909234681 : True := trivial
theorem law_walk.tw10839780863608013882 : True := trivial
theorem law_walk.tw5202491880151908442 : True := trivial
theorem law_walk.tw8693389997180322906 : True := trivial
theorem law_walk.tw14327785045594728570 : True := trivial
theorem law_walk.tw17467095279790736570 : True := trivial
theorem law_walk.tw12642425473201346906 : True := trivial
theorem law_walk.tw10089657269976703354 : True := trivial
theorem law_walk.tw14248864630821999066 : True := trivial
theorem law_walk.tw7166111205189570138 : True := trivial
theorem law_walk.tw14771489958863429370 : True := trivial
theorem law_walk.tw17997697558288854778 : True := trivial
theorem law_walk.tw6647347934556014683 : True := trivial
theorem law_walk.tw5959770353029448891 : True := trivial
theorem law_walk.tw14240879651608825115 : True := trivial
theorem law_walk.tw16448158653895429499 : True := trivial
theorem law_walk.tw16123713770116111771 : True := trivial
theorem law_walk.tw10400226477473686971 : True := trivial
theorem law_walk.tw1960160720123716315 : True := trivial
theorem law_walk.tw8219332338532164347 : True := trivial
theorem law_walk.tw15647844531929859867 : True := trivial
theorem law_walk.tw8147751706641535803 : True := trivial
theorem law_walk.tw949296245633726331 : True := trivial
theorem law_walk.tw12494027469739420667 : True := trivial
theorem law_walk.tw6221563783624007708 : True := trivial
theorem law_walk.tw17568217026667295836 : True := trivial
theorem law_walk.tw2191982584930282844 : True := trivial
theorem law_walk.tw6630695436224603516 : True := trivial
theorem law_walk.tw2100464597564373404 : True := trivial
theorem law_walk.tw8209524980812014044 : True := trivial
theorem law_walk.tw10113607793478928892 : True := trivial
theorem law_walk.tw3229189241546203836 : True := trivial
theorem law_walk.tw16061422359507528412 : True := trivial
theorem law_walk.tw14924230639997583100 : True := trivial
theorem law_walk.tw5894727858872634204 : True := trivial
theorem law_walk.tw5501580622627630012 : True := trivial
theorem law_walk.tw9512795527785568220 : True := trivial
theorem law_walk.tw2565113396638683165 : True := trivial
theorem law_walk.tw17540475224168508509 : True := trivial
theorem law_walk.tw860345242450283677 : True := trivial
theorem law_walk.tw14886465165815767197 : True := trivial
theorem law_walk.tw17626359151768868061 : True := trivial
theorem law_walk.tw13825845421747106077 : True := trivial
theorem law_walk.tw2891813122276395325 : True := trivial
theorem law_walk.tw8950740782337231261 : True := trivial
theorem law_walk.tw17260160985915537885 : True := trivial
theorem law_walk.tw12653346408800153213 : True := trivial
theorem law_walk.tw16717036865386704701 : True := trivial
theorem law_walk.tw16452647876230661981 : True := trivial
theorem law_walk.tw3391366295069061981 : True := trivial
theorem law_walk.tw13648519344018371485 : True := trivial
theorem law_walk.tw11867803497363361693 : True := trivial
theorem law_walk.tw5796563073557437437 : True := trivial
theorem law_walk.tw13907529463265113118 : True := trivial
theorem law_walk.tw2697316533896268862 : True := trivial
theorem law_walk.tw6560039948443137118 : True := trivial
theorem law_walk.tw3033935616987808958 : True := trivial
theorem law_walk.tw13303729710185988318 : True := trivial
theorem law_walk.tw15808102522801343710 : True := trivial
theorem law_walk.tw12701836608600397022 : True := trivial
theorem law_walk.tw18224671212723825918 : True := trivial
theorem law_walk.tw3248996168741035358 : True := trivial
theorem law_walk.tw408718155922227582 : True := trivial
theorem law_walk.tw5714461824207165854 : True := trivial
theorem law_walk.tw17151475802405297598 : True := trivial
theorem law_walk.tw16893689774605216254 : True := trivial
theorem law_walk.tw5990301609794445982 : True := trivial
theorem law_walk.tw18894516972011198 : True := trivial
theorem law_walk.tw9984620941133940510 : True := trivial
theorem law_walk.tw15665304800849761054 : True := trivial
theorem law_walk.tw13596305874736225407 : True := trivial
theorem law_walk.tw5734418796060860671 : True := trivial
theorem law_walk.tw11164060815314383135 : True := trivial
theorem law_walk.tw5239839407906811263 : True := trivial
theorem law_walk.tw3986448653420497375 : True := trivial
theorem law_walk.tw7761158318386415103 : True := trivial
theorem law_walk.tw13924465335331175935 : True := trivial
theorem law_walk.tw12404348545022869119 : True := trivial
theorem law_walk.tw14892913809579572863 : True := trivial
theorem law_walk.tw1697928338377447199 : True := trivial
theorem law_walk.tw5242600149850454015 : True := trivial
theorem law_walk.tw1652202564076735487 : True := trivial
theorem law_walk.tw1651893491104343300 : True := trivial
theorem law_walk.tw7625024334918886175 : True := trivial
theorem law_walk.tw26425463804135960 : True := trivial
set_option Elab.async true
set_option maxHeartbeats 0 in
theorem law_walk : PySem.Challenge.rw_nt0598_01.Holds := by
  w_on
  o_law
  k_head
  (case hw => w_witness2)
  change WalkO hd.view_1_40 [] (XL hd.view_1_40 []) (kHook hd.heap_1_39 _ _).says _ _ [] _
  k_with_none
  k_with "room" => (first | exact rmS2 (by assumption) (by decide) | exact rmS3 (by assumption) (by decide) | exact rmS4 (by assumption) (by decide) | exact rm2 (by assumption) (by decide) | exact rm0 (by assumption) | exact rm1 (by assumption) (by decide) | (dsimp +zetaDelta only; ktr_room))
  k_with "units" => (first | exact cl3 (by assumption) (by decide) | exact um2 (by assumption) (by decide) | exact um1 (by assumption) (by decide) | (dsimp +zetaDelta only; ktr_units))
  k_with "is_list" => (exact News.isList (by k_asm) (by k_mem))
  k_with "st" => (first | ((fail_if_success (fail_if_success k_unfold)); refine (?_ : wpAny _ _ _ _ _ _)) | (k_unfold; (try dsimp only)) | (k_end; wrow_close) | walk1 | (dsimp only; walk1) | (leave1; walk_say "STEP leave1"; try dsimp only) | fail "no step")
  k_with "om" => (first | assumption | with_reducible rfl | decide | exact Nat.le_trans (by assumption) (by decide) | exact Nat.lt_of_le_of_lt (by assumption) (by decide) | ((repeat (with_reducible rename _ ∧ _ => om9; clear om9)); first | ((repeat (with_reducible rename _ ≠ _ => om9; clear om9)); (repeat (with_reducible rename @Eq Nat _ _ => om9; clear om9)); (repeat (with_reducible rename @Eq Int _ _ => om9; clear om9)); omega +splitNatSub) | omega +splitNatSub))
  k_with "fold" => ((fail_if_success (fail_if_success k_fold)); refine fold_QES0 ?_; intro _ _ _)
  k_with "kne" => (first | ((refine (?_ : @Ne Nat _ _)); first | assumption | exact Ne.symm (by assumption) | k_extra "ne") | (refine neN ?_; (try dsimp only); first | assumption | exact Ne.symm (by assumption) | k_extra "ne" | omega))
  k_with "tb" => (repeat (first | exact List.forall_mem_nil _ | refine List.forall_mem_cons.mpr ⟨rfl, ?_⟩))
  k_with "ne" => with_reducible (first | exact na0 (by assumption) | exact ns0 (by assumption) | exact na1 (by assumption) | exact ns1 (by assumption) | exact na2 (by assumption) | exact ns2 (by assumption) | exact na3 (by assumption) | exact ns3 (by assumption) | exact na4 (by assumption) | exact ns4 (by assumption) | exact na5 (by assumption) | exact ns5 (by assumption) | exact na6 (by assumption) | exact ns6 (by assumption) | exact na7 (by assumption) | exact ns7 (by assumption) | exact na8 (by assumption) | exact ns8 (by assumption) | exact na9 (by assumption) | exact ns9 (by assumption) | exact na10 (by assumption) | exact ns10 (by assumption) | exact na11 (by assumption) | exact ns11 (by assumption) | exact na12 (by assumption) | exact ns12 (by assumption) | exact na13 (by assumption) | exact ns13 (by assumption) | exact na14 (by assumption) | exact ns14 (by assumption) | exact na15 (by assumption) | exact ns15 (by assumption))
  k_with "ne" => with_reducible (first | (show Tz.sts _ ≠ _; first | exact zn01 (by assumption) | exact zn02 (by assumption) | exact zn03 (by assumption) | exact zn04 (by assumption) | exact zn05 (by assumption) | exact zn06 (by assumption) | exact zn07 (by assumption) | exact zn08 (by assumption)) | (show Tz.td _ ≠ _; first | exact zn10 (by assumption) | exact zn12 (by assumption) | exact zn13 (by assumption) | exact zn14 (by assumption) | exact zn15 (by assumption) | exact zn16 (by assumption) | exact zn17 (by assumption) | exact zn18 (by assumption)) | (show Tz.t _ ≠ _; first | exact zn20 (by assumption) | exact zn21 (by assumption) | exact zn23 (by assumption) | exact zn24 (by assumption) | exact zn25 (by assumption) | exact zn26 (by assumption) | exact zn27 (by assumption) | exact zn28 (by assumption)) | (show Tz.sd _ ≠ _; first | exact zn30 (by assumption) | exact zn31 (by assumption) | exact zn32 (by assumption) | exact zn34 (by assumption) | exact zn35 (by assumption) | exact zn36 (by assumption) | exact zn37 (by assumption) | exact zn38 (by assumption)) | (show Tz.st _ ≠ _; first | exact zn40 (by assumption) | exact zn41 (by assumption) | exact zn42 (by assumption) | exact zn43 (by assumption) | exact zn45 (by assumption) | exact zn46 (by assumption) | exact zn47 (by assumption) | exact zn48 (by assumption)) | (show Tz.sg _ ≠ _; first | exact zn50 (by assumption) | exact zn51 (by assumption) | exact zn52 (by assumption) | exact zn53 (by assumption) | exact zn54 (by assumption) | exact zn56 (by assumption) | exact zn57 (by assumption) | exact zn58 (by assumption)) | (show Tz.se _ ≠ _; first | exact zn60 (by assumption) | exact zn61 (by assumption) | exact zn62 (by assumption) | exact zn63 (by assumption) | exact zn64 (by assumption) | exact zn65 (by assumption) | exact zn67 (by assumption) | exact zn68 (by assumption)) | (show Tz.ou _ ≠ _; first | exact zn70 (by assumption) | exact zn71 (by assumption) | exact zn72 (by assumption) | exact zn73 (by assumption) | exact zn74 (by assumption) | exact zn75 (by assumption) | exact zn76 (by assumption) | exact zn78 (by assumption)) | (show Tz.er _ ≠ _; first | exact zn80 (by assumption) | exact zn81 (by assumption) | exact zn82 (by assumption) | exact zn83 (by assumption) | exact zn84 (by assumption) | exact zn85 (by assumption) | exact zn86 (by assumption) | exact zn87 (by assumption)))
  k_with "execs cons" => ((try ((fail_if_success (fail_if_success k_fold)); refine fold_QE ?_; intro _ _)); refine ex_consA0 ?_; intro _ _ _; (try (with_reducible rename News _ _ _ _ => kN'9; dsimp only at kN'9)); (try (with_reducible rename Fr _ _ _ _ => kF'9; refine f_let kF'9 ?_; clear kF'9; intro _ _)))
  k_with "LeaveH" => (refine' leaveH_ ?k1'9 ?k2'9 ?_; (case k1'9 => k_asm); (case k2'9 => k_asm); k_whole; intro _ _ _ _)
  k_with "pyIter ref" => ((with_reducible show wpAny _ _ (pyIter _) (fun it s₂ => LoopAtV _ _ _ _ _ _ _ _ _ it s₂) _ _); refine Stop.mk ?_)
  k_with "pyIter str" => ((with_reducible show wpAny _ _ (pyIter _) (fun it s₂ => LoopAtV _ _ _ _ _ _ _ _ _ it s₂) _ _); refine Stop.mk ?_)
  k_with "call ref" => (k_extra "mine call")
  k_with "call builtin:len" => (k_here; (with_reducible show wpAny _ _ (call (Value.builtin "len") [Value.ref _]) _ _ _); (with_unfolding_all refine' len_listN ?k1'9 ?k2'9 ?_; (case k1'9 => is_list); (case k2'9 => omega); k_whole))
  k_with "subscriptTail" => (k_here; (with_reducible show wpAny _ _ (subscriptTail _ _ (Value.ref _) (Value.int _ _)) _ _ _); (with_unfolding_all refine' sign_item ?k1'9 ?k2'9 ?k3'9 ?k4'9 ?k5'9 ?_; (case k1'9 => is_list); (case k2'9 => assumption); (case k3'9 => assumption); (case k4'9 => (push_cast; omega)); (case k5'9 => omega); k_whole); intro _)
  k_with "subscriptTail" => (k_here; (with_reducible show wpAny _ _ (subscriptTail _ _ (Value.str _ _) (Value.int _ _)) _ _ _); (with_unfolding_all refine' char_item ?k1'9 ?k2'9 ?k3'9 ?_; (case k1'9 => assumption); (case k2'9 => (push_cast; omega)); (case k3'9 => omega); k_whole))
  k_with "TurnL" => (refine TurnL.ret ?_; (try dsimp only))
  k_with "subscriptTail Name Name str int" => (k_here; (with_reducible show wpAny _ _ (subscriptTail _ _ (Value.str _ _) (Value.int _ _)) _ _ _); (with_unfolding_all refine' char_item ?k1'9 ?k2'9 ?k3'9 ?_; (case k1'9 => assumption); (case k2'9 => (push_cast; omega)); (case k3'9 => omega); k_whole))
  k_with "exec For Name Name cons nil" => (k_here; (rename Fr _ _ _ _ => lF'9); (with_unfolding_all refine' For_invVF lF'9 ?k1'9 ?k2'9 ?_; (case k1'9 => exact rfl); (case k2'9 => exact rfl); k_whole))
  k_with "call builtin:list.append" => (k_here; (with_reducible show wpAny _ _ (call (Value.builtin _) [Value.ref _, _]) _ _ _); k_dflt (refine' append_K ?k1'9 ?k2'9 ?k3'9 ?_ ?z'9; (case k1'9 => k_asm); (case k2'9 => k_asm); (case k3'9 => k_upd); (case z'9 => assumption); k_whole); intro _ _ _; (try k_sweep))
  k_with "call builtin:str.split" => (k_here; (with_reducible show wpAny _ _ (call (Value.builtin "str.split") _) _ _ _); (refine KSpl.split1 (by k_asm) (by k_asm) (by decide) ?_ (by assumption)); (intro _ _ _ _ e'9 a'9 _ _ l1'9); (try k_lt l1'9); rw [e'9] at a'9; (try (revert a'9; intro _)); (try (revert l1'9; intro _)); (try (revert e'9; intro _)))
  k_with "subscriptTail" => (k_here; (with_reducible show wpAny _ _ (subscriptTail _ _ (Value.ref _) (Value.int _ _)) _ _ _); (with_unfolding_all refine' strs_item ?k1'9 ?k2'9 ?k3'9 ?k4'9 ?k5'9 ?_; (case k1'9 => is_list); (case k2'9 => assumption); (case k3'9 => assumption); (case k4'9 => rfl); (case k5'9 => omega); k_whole); intro _)
  k_with "subscriptTail Call Attribute cons nil Name ref int" => (k_here; (with_reducible show wpAny _ _ (subscriptTail _ _ (Value.ref _) (Value.int _ _)) _ _ _); (with_unfolding_all refine' strs_item ?k1'9 ?k2'9 ?k3'9 ?k4'9 ?k5'9 ?_; (case k1'9 => is_list); (case k2'9 => assumption); (case k3'9 => assumption); (case k4'9 => rfl); (case k5'9 => omega); k_whole); intro _)
  k_with "getMethod ref" => (k_here; (with_reducible show wpAny _ _ (getMethod (Value.ref _) (PySem.Str.ofString "index") _) _ _ _); k_dflt (refine' names_method ?N'9 ?m'9 ?_; (case N'9 => k_asm); (case m'9 => k_mem)))
  k_with "call builtin:tuple.index" => (k_here; k_dflt (refine' names_index ?k'9 ?N'9 ?m'9 ?_; (case N'9 => k_asm); (case m'9 => k_mem); (case k'9 => omega)))
  k_with "subscriptTail Name BinOp ref int" => (k_here; (with_reducible show wpAny _ _ (subscriptTail _ _ (Value.ref _) (Value.int _ _)) _ _ _); (with_unfolding_all refine' names_item ?N'9 ?m'9 ?hj'9 ?h5'9 ?_; (case N'9 => k_asm); (case m'9 => k_mem); (case hj'9 => assumption); (case h5'9 => omega); k_whole); intro _)
  k_with "subscriptTail Name Slice str ref" => (k_here; ((with_unfolding_all refine' cut_tail ?F'9 ?N'9 ?sz'9 ?_); (case F'9 => k_asm); (case N'9 => k_asm); (case sz'9 => assumption); intro _ _ _ _ _; (try k_sweep)))
  k_with "subscriptTail Name Constant str int" => (k_here; (with_unfolding_all refine' head_item ?sz'9 ?_); (case sz'9 => assumption))
  k_with "setAttr ref" => (k_here; k_dflt (first | (refine' set_tz ?k1'9 ?k2'9 ?k3'9 ?k4'9 ?k5'9 ?k6'9 ?k7'9 ?k8'9 ?k9'9 ?k10'9 ?k11'9 ?k12'9 ?k13'9 ?_; (case k1'9 => k_asm); (case k2'9 => k_asm); (case k3'9 => k_asm); (case k4'9 => k_inst); (case k5'9 => exact rfl); (case k6'9 => k_is); (case k7'9 => k_is); (case k8'9 => k_is); (case k9'9 => k_is); (case k10'9 => k_get); (case k11'9 => k_put); (case k12'9 => k_upd); (case k13'9 => exact Nat.le_of_ble_eq_true rfl); k_whole; intro _ _ _; (try k_sweep)) | (refine' set_st ?k1'9 ?k2'9 ?k3'9 ?k4'9 ?k5'9 ?k6'9 ?k7'9 ?k8'9 ?k9'9 ?k10'9 ?k11'9 ?k12'9 ?k13'9 ?_; (case k1'9 => k_asm); (case k2'9 => k_asm); (case k3'9 => k_asm); (case k4'9 => k_inst); (case k5'9 => exact rfl); (case k6'9 => k_is); (case k7'9 => k_is); (case k8'9 => k_is); (case k9'9 => k_is); (case k10'9 => k_get); (case k11'9 => k_put); (case k12'9 => k_upd); (case k13'9 => exact Nat.le_of_ble_eq_true rfl); k_whole; intro _ _ _; (try k_sweep))))
  k_with "eval BinOp" => k_extra "fold"
  k_with "eval Call" => k_extra "fold"
  k_with "eval List" => k_extra "fold"
  k_with "eval Tuple" => k_extra "fold"
  k_with "eval Subscript" => k_extra "fold"
  k_with "eval Compare" => k_extra "fold"
  k_with "eval BoolOp" => k_extra "fold"
  k_with "call builtin:str.replace" => (k_here; (k_dflt (refine' replaceT ?hu'9 ?hv'9 ?huv'9 ?hyz'9 ?hx'9 ?hz'9 ?_; (case hu'9 => ((try dsimp +zetaDelta only); omega)); (case hv'9 => ((try dsimp +zetaDelta only); omega)); (case huv'9 => ((try dsimp +zetaDelta only); omega)); (case hyz'9 => decide +kernel); (case hx'9 => omega); (case hz'9 => decide +kernel))); intro _ _ hk'9; (try dsimp +zetaDelta only at hk'9); (try dsimp only); (try (revert hk'9; intro _)))
  k_with "compareOp NotEq ref ref" => (k_here; (with_reducible show wpAny _ _ (compareOp CmpOp.NotEq (Value.ref _) (Value.ref _)) _ _ _); refine Stop.mk ?_)
  k_with "subscriptTail Name Constant ref int" => (k_here; refine Stop.mk ?_)
  k_with "callWith ref" => (k_here; k_dflt (refine' callWith_K0 ?k1'9 ?k2'9 ?_; (case k1'9 => exact Frag.In.keeps (show (hd.heap_1_39 _).In _ from by with_reducible assumption) (Fr.keep (by with_reducible assumption))); (case k2'9 => k_is); k_whole))
  k_with "eval Call" => (k_here; k_dflt (refine Call_ ?_))
  k_with "exec Assign cons IfExp" => (k_here; (fail_if_success (with_reducible show wpAny _ _ _ (Mid _ _ _ _ _) _ _)); refine Stop.mk ?_)
  k_with "exec If" => (k_here; (with_reducible show wpAny _ _ (exec (Stmt.If (PySem.Expr.BoolOp PySem.BoolOp.And _ _) _ _ _) _) _ _ _); (fail_if_success (with_reducible show wpAny _ _ _ (Mid2 _ _ _ _) _ _)); refine Stop.mk ?_)
  k_with "exec For Name Call cons nil" => (k_here; refine Stop.mk ?_)
  k_with "pyIter ref" => ((with_reducible show wpAny _ _ (pyIter _) (fun it s₂ => TurnsAt _ _ _ _ _ _ _ _ _ it s₂) _ _); refine Stop.mk ?_)
  k_with "mine call" => ((first | with_reducible show wpAny _ _ (call (Value.ref 326) _) _ _ _ | with_reducible show wpAny _ _ (call (Value.ref 307) _) _ _ _ | with_reducible show wpAny _ _ (call (Value.ref 343) _) _ _ _ | with_reducible show wpAny _ _ (call (Value.ref 331) _) _ _ _ | with_reducible show wpAny _ _ (call (Value.ref 159) _) _ _ _ | with_reducible show wpAny _ _ (call (Value.ref 166) _) _ _ _ | with_reducible show wpAny _ _ (call (Value.ref 293) _) _ _ _ | with_reducible show wpAny _ _ (call (Value.ref 360) _) _ _ _ | with_reducible show wpAny _ _ (call (Value.ref 367) _) _ _ _ | with_reducible show wpAny _ _ (call (Value.ref 372) _) _ _ _ | with_reducible show wpAny _ _ (call (Value.ref 379) _) _ _ _ | with_reducible show wpAny _ _ (call (Value.ref 384) _) _ _ _); refine Stop.mk ?_)
  k_go0
  all_goals (try ((fail_if_success (fail_if_success k_fold)); refine fold_QE ?_; intro _ _))
  rename_i sc sv wl hLs ra w1' r0' hi hrr hlen0 hc2 K0 hDd h₁ F0 N0
  rename World => w
  rename List Int => ns
  have hlen : ns.length ≤ 63 := by omega
  rename Top _ _ _ _ _ _ => TT
  rename Frag.In _ _ => KX
  k_steps
  unfold Stop
  rename Fr _ _ _ _ => F1
  (try dsimp +zetaDelta only at F1)
  rename News _ _ _ _ => N1
  have FA := F1.above
  k_dflt (refine (words_spec w _ _ ns hi hlen).useR (fun _ _ _ p hp => (nomatch hp)) hLs K0 F1 KX N1 TT rfl (by (first | exact rm0 (by assumption) | exact rm1 (by assumption) (by decide) | k_extra "room" | ktr_room)) (by (first | k_extra "units" | ktr_units)) (fun _ hp => (nomatch hp)) ?_)
  rintro r led' h2 tk2 F2 N2 fresh ⟨W, rfl, rfl⟩
  clear fresh
  rw [List.append_nil] at N2
  (try dsimp only)
  k_steps
  unfold Stop
  obtain ⟨four, hfour⟩ : ∃ b : Bool, (Int.fmod (dig ns 17) 3 == 1) = !b := ⟨!(Int.fmod (dig ns 17) 3 == 1), (Bool.not_not _).symm⟩
  rename Fr _ _ _ _ => F3
  (try dsimp +zetaDelta only at F3)
  rename News _ _ _ _ => N3
  refine mid_mono (wdLed W (wsOf ns)) (fun m' => ∃ t, ∀ p ∈ [((Str.ofString "script"), Value.ref sc), (Str.ofString "words", .ref W.a), (Str.ofString "many", .int (manyOf four : Nat) t)], m' p.1 = some p.2) F3 ?first ?_
  case first =>
    k_steps
    unfold Stop
    k_dflt (refine (digit_spec w _ _ ns hi hlen 17 _ (by omega)).useR (fun _ _ _ p hp => (nomatch hp)) hLs K0 (by k_asm) KX (by k_asm) TT rfl (by (first | exact rm0 (by assumption) | exact rm1 (by assumption) (by decide) | k_extra "room" | ktr_room)) (by (first | k_extra "units" | ktr_units)) (fun _ hp => (nomatch hp)) ?_)
    rintro r led' h' tk' F' N' fresh ⟨rfl, tk2, rfl⟩
    rw [List.nil_append] at N'
    clear fresh
    (try dsimp only)
    k_steps
    · rename Int.fmod _ _ = _ => hq
      have e : four = false := by
        cases four with
        | false => rfl
        | true => rw [hq] at hfour; exact absurd hfour (by decide)
      subst e
      (try dsimp only)
      exact ⟨rfl, _, _, _, rfl, by assumption, by assumption, _, by tb_start⟩
    · rename Int.fmod _ _ ≠ _ => hq
      have e : four = true := by
        cases four with
        | true => rfl
        | false => exact absurd (eq_of_beq hfour) hq
      subst e
      (try dsimp only)
      exact ⟨rfl, _, _, _, rfl, by assumption, by assumption, _, by tb_start⟩
  rintro h4 tk4 m4 F4 N4 ⟨t4, hm4⟩
  clear F3 N3
  replace F4 := told _ F4 hm4
  clear hm4
  (try dsimp only)
  k_steps
  unfold Stop
  rename Fr _ _ _ _ => F5
  (try dsimp +zetaDelta only at F5)
  rename News _ _ _ _ => N5
  have hwl4 : ∀ k < 4, (wsOf ns k).1.length ≤ 100 := fun k _ => by have := wsOf_len ns k; omega
  k_dflt (refine (tok_spec w W (wsOf ns) hwl4 four _).useR (by rintro _ _ ⟨_, _, _, h, _⟩ p hp; rw [h]; exact List.mem_append_right _ hp) K0 F5 KX N5 TT rfl (by (first | exact rm0 (by assumption) | exact rm1 (by assumption) (by decide) | k_extra "room" | ktr_room)) (by (first | k_extra "units" | ktr_units)) (fun _ hp => hp) ?_)
  rintro r led6 h6 tk6 F6 N6 fresh6 ⟨Zf, Sf, rfl, rfl, TOf⟩
  (try dsimp only)
  k_steps
  unfold Stop
  rename Fr _ _ _ _ => F7
  (try dsimp +zetaDelta only at F7)
  rename News _ _ _ _ => N7
  k_dflt (refine (tok_spec w W (wsOf ns) hwl4 four _).useR (by rintro _ _ ⟨_, _, _, h, _⟩ p hp; rw [h]; exact List.mem_append_right _ hp) K0 F7 KX N7 TT rfl (by (first | exact rm0 (by assumption) | exact rm1 (by assumption) (by decide) | k_extra "room" | ktr_room)) (by (first | k_extra "units" | ktr_units)) (fun _ hp => List.mem_append_right _ hp) ?_)
  rintro r led8 h8 tk8 F8 N8 fresh8 ⟨Z, S, rfl, rfl, TO⟩
  (try dsimp only)
  k_steps
  unfold Stop
  refine wpAny_pos (Nat.succ_pos _) ?_
  (rename Fr _ _ _ _ => lF'); (with_unfolding_all refine' For_turns lF' ?_)
  k_steps
  unfold Stop
  rename Fr _ _ _ _ => F9a
  (try dsimp +zetaDelta only at F9a)
  rename News _ _ _ _ => N9a
  have qZf : ∀ p ∈ tzLed w Zf Sf, ∀ q ∈ wdLed W (wsOf ns), p.1 ≠ q.1 := fun p hp q hq => (fresh6 p (List.mem_append_left _ hp)).elim (fun h => absurd h (tz_not_wd TOf p hp)) fun h => h q hq
  have qZ : ∀ p ∈ tzLed w Z S, ∀ q ∈ (tzLed w Zf Sf ++ wdLed W (wsOf ns)) ++ wdLed W (wsOf ns), p.1 ≠ q.1 := fun p hp q hq => (fresh8 p (List.mem_append_left _ hp)).elim (fun h => absurd h (tz_not_wd TO p hp)) fun h => h q hq
  clear fresh6 fresh8
  k_dflt (refine (pieces_spec w _ _ ns hi hlen W).useR (fun _ _ h p hp => h.1 p hp) hLs K0 F9a KX N9a TT rfl (by (first | exact rm0 (by assumption) | exact rm1 (by assumption) (by decide) | k_extra "room" | ktr_room)) (by (first | k_extra "units" | ktr_units)) (fun p hp => List.mem_append_left _ (List.mem_append_right _ hp)) ?_)
  rintro r led9 h9 tk9 F9 N9 fresh9 ⟨mW9, P, pn, pv, ps, rfl, mP, hpv, hgood, hfl, hpl⟩
  clear N9a F9a
  obtain ⟨K, hK⟩ : ∃ K : Led, K = tzLed w Zf Sf ++ (wdLed W (wsOf ns) ++ led9) := ⟨_, rfl⟩
  have oZfK : OwnOff (wdLed W (wsOf ns) ++ led9) ((tzLed w Zf Sf).map (·.1)) := by
    refine OwnOff.app (off_sym qZf) ?_
    intro p hp b hb e
    obtain ⟨q, hq, rfl⟩ := List.mem_map.mp hb
    rcases fresh9 p hp with h | h
    · exact qZf q hq p h e.symm
    · exact h q (List.mem_append_right _ (List.mem_append_left _ (List.mem_append_left _ hq))) e
  have oK : OwnOff K ((tzLed w Z S).map (·.1)) := by
    rw [hK]
    refine OwnOff.app (off_sym fun p hp q hq => qZ p hp q (List.mem_append_left _ (List.mem_append_left _ hq))) (OwnOff.app (off_sym fun p hp q hq => qZ p hp q (List.mem_append_right _ hq)) ?_)
    intro p hp b hb e
    obtain ⟨q, hq, rfl⟩ := List.mem_map.mp hb
    rcases fresh9 p hp with h | h
    · exact qZ q hq p (List.mem_append_right _ h) e.symm
    · exact h q (List.mem_append_left _ (List.mem_append_left _ hq)) e
  have NK := News.sub (b := tzLed w Z S ++ ([] ++ K)) N9 (fun p hp => by
    rw [hK] at hp
    simp only [List.mem_append, List.not_mem_nil, false_or] at hp ⊢
    rcases hp with h | h | h | h
    · exact .inr (.inl (.inl h))
    · exact .inr (.inr (.inl (.inl h)))
    · exact .inr (.inl (.inr h))
    · exact .inl h)
  clear N9 fresh9 qZf
  have mPK : (P, listOf pv.toArray pn) ∈ K := by rw [hK]; exact List.mem_append_right _ (List.mem_append_right _ mP)
  have hpl2 := hpv.len_eq
  rw [List.length_map] at hpl2
  rw [show Str.ofString "" = mkS [] from by decide +kernel] at F9
  (try dsimp only)
  replace hpv := Stop.mk hpv
  k_steps
  unfold Stop
  rename News _ _ _ _ => N10
  rename Fr _ _ _ _ => F10
  (try dsimp +zetaDelta only at F10)
  refine turns_list (σ := Ts × Led × Mc × List Nat × Tok) (fun c => tzLed w Z c.1 ++ (c.2.1 ++ K)) (fun c => [(Str.ofString "script", .ref sc), (Str.ofString "words", .ref W.a), (Str.ofString "many", .int (manyOf four : Nat) t4), (Str.ofString "fresh", .ref Zf.t), (Str.ofString "t", .ref Z.t), (Str.ofString "raw", .str ⟨c.2.2.2.1.toArray⟩ c.2.2.2.2)]) (fun i c => LInv four ns w Z K ps i c.1 c.2.1 c.2.2.1 c.2.2.2.1) (S, [], mc0, [], _) rfl F10 N10 (fun c => List.mem_append_right _ (List.mem_append_right _ mPK)) (by tb_start) (TO.linv ps oK) ?turn ?done
  case done =>
    rintro ⟨S1, nt, c1, rawl, tkr⟩ u h tk J F N htk0
    dsimp only at J F N htk0
    have z9 := TO.ok.2.2.2.2.2.2.2.2
    have hraw : rawl = ps.flatten := by rw [J.raw, hpl2, List.take_length]
    have hlr : rawl.length ≤ 20 := by rw [hraw]; exact hfl
    have hgr : ∀ x ∈ rawl, goodC x := by rw [J.raw]; exact flat_mem hgood
    have hq1 : (⟨rawl.toArray⟩ : Str).length ≤ 20 := by rw [len_tx]; omega
    have hq3 := Nat.le_trans (text_len rawl) hlr
    have htext := text_eq rawl
    have oN1 : OwnOff nt ((tzLed w Z S1).map (·.1)) := tz_off z9 J.rel.tups (News.sub N fun q hq => by rw [← List.append_assoc]; exact List.mem_append_left _ hq)
    have G1 : SgOk S1 (nrmL false rawl) := SgOk.nrm J.sv hlr hgr
    (try dsimp only)
    simp only [tzLed, List.cons_append, List.nil_append, List.append_assoc] at N
    k_steps
    unfold Stop
    rename News _ _ _ _ => N1
    rename Fr _ _ _ _ => F1
    (try dsimp +zetaDelta only at F1)
    simp only [htext] at F1
    have N1' : News _ _ _ ([] ++ (tzLed w Z S1 ++ (nt ++ K))) := N1
    clear N1
    k_dflt (refine (tend_spec w Z S1 TO.ok).useN [] (nt ++ K) K0 F1 KX N1' TT rfl (by (first | exact rm0 (by assumption) | exact rm1 (by assumption) (by decide) | k_extra "room" | ktr_room)) (by (first | k_extra "units" | ktr_units)) (OwnOff.app OwnOff.nil (OwnOff.app oN1 (off_left J.off))) ?_)
    rintro r led' h11 tk11 F11 N11 St11 Fs11 ⟨rfl, rfl⟩
    clear St11 Fs11 N1'
    have hex : ∃ S2 : Ts, News _ _ _ (tzLed w Z S2 ++ (nt ++ K)) ∧ S2.sv = S1.sv ∧ S2.closed = true ∧ S2.buf = S1.buf ∧ Rel S2 nt { c1 with waiting := false } := ⟨_, N11, rfl, rfl, rfl, ⟨J.rel.at', J.rel.state, J.rel.last, rfl, J.rel.done, J.rel.out, J.rel.errs, J.rel.tups⟩⟩
    clear N11
    obtain ⟨S2, N12, b1, hcl2, b4, R2⟩ := hex
    have hsv2 : StrsAre S2.sv ((nrmL false rawl).map one) := by rw [b1]; exact J.sv
    have G2 : SgOk S2 (nrmL false rawl) := ⟨hsv2, G1.le, G1.sm⟩
    have hbn2 : Bnd (nrmL false rawl) { c1 with waiting := false } := J.bnd.wait false
    obtain ⟨rn, c2, H2⟩ := runs_exist (four := four) (closed := true) (ws := wsOf ns) (sl := nrmL false rawl) G1.le _ _ hbn2 (Nat.le_add_right _ _)
    have hlens := runs_lens H2 hbn2
    have hM2 : MOk c2 := runs_ok G2.sm (fun k _ => ws_ch ns k) H2 ⟨J.mok.out, J.mok.errs, J.mok.last⟩
    obtain ⟨rn2, H3⟩ : ∃ n, RunsIn four (nrmL false rawl) true (wsOf ns) n mc0 c2 := by
      obtain ⟨n, hr⟩ := J.run
      have := runs_inc (e := []) (cl := true) hr Bnd.zero rfl (by rw [List.append_nil]; exact H2)
      rwa [List.append_nil] at this
    have hsl2 := G2.le
    (try dsimp only)
    k_steps
    unfold Stop
    rename News _ _ _ _ => N13
    rename Fr _ _ _ _ => F13
    (try dsimp +zetaDelta only at F13)
    have hWK : ∀ q ∈ wdLed W (wsOf ns), q ∈ K := fun q hq => by rw [hK]; exact List.mem_append_right _ (List.mem_append_left _ hq)
    k_dflt (refine (stand_spec w W (wsOf ns) (nrmL false rawl) _ true four _ hsl2 G2.sm (fun k _ => by have := wsOf_len ns k; omega) rn2 c2 H3 (by omega)).useR (fun _ _ h => h.2) K0 F13 KX N13 TT rfl (by (first | exact rm0 (by assumption) | exact rm1 (by assumption) (by decide) | k_extra "room" | ktr_room)) (by (first | k_extra "units" | ktr_units)) (fun q hq => List.mem_append_right _ (List.mem_append_right _ (hWK q hq))) ?_)
    rintro r led14 h14 tk14 F14 N14 fr ⟨hD, hW14⟩
    obtain ⟨a14, n14, vs14, rfl, m14, D14⟩ := dat_list hD
    have o14 : OwnOff led14 ((tzLed w Z S2 ++ nt).map (·.1)) := off_fresh fr (off_map (tz_own (off_left fun q hq => J.off q (hWK q hq))) (off_right fun q hq => J.off q (hWK q hq))) (fun q hq => (List.mem_append.mp hq).elim (fun h => List.mem_append_left _ h) fun h => List.mem_append_right _ (List.mem_append_left _ h))
    clear fr
    have N15 : News _ _ _ (tzLed w Z S2 ++ (nt ++ (K ++ led14))) := News.sub N14 (fun q hq => by
      simp only [List.mem_append] at hq ⊢
      rcases hq with h | h | h | h
      · exact .inr (.inl h)
      · exact .inr (.inr (.inl h))
      · exact .inr (.inr (.inr h))
      · exact .inl h)
    clear N14 N13
    simp only [tzLed, List.cons_append, List.nil_append, List.append_assoc] at N15
    (try dsimp only)
    k_steps
    unfold Stop
    rename News _ _ _ _ => N16
    rename Fr _ _ _ _ => F16
    (try dsimp +zetaDelta only at F16)
    have N16' : News _ _ _ ([] ++ ((tzLed w Z S2 ++ nt) ++ (K ++ led14))) := N16
    clear N16
    have oX : OwnOff (K ++ led14) ((tzLed w Z S2 ++ nt).map (·.1)) := OwnOff.app (off_map (tz_own (off_left J.off)) (off_right J.off)) o14
    k_dflt (refine (run_spec w Z S2 TO.ok four TO.st (wsOf ns) (by rw [b4, J.buf]; exact ws_ok ns) _ G2 _ c2 nt R2 rn (by rw [hcl2]; exact H2)).useN [] (K ++ led14) K0 F16 KX N16' TT rfl (by (first | exact rm0 (by assumption) | exact rm1 (by assumption) (by decide) | k_extra "room" | ktr_room)) (by (first | k_extra "units" | ktr_units)) (OwnOff.app OwnOff.nil oX) ?_)
    rintro r led' h17 tk17 F17 N17 St17 Fs17 ⟨rfl, S3, nt3, rfl, hS3, R3⟩
    clear St17
    have oX3 := off_step N16' (fun q hq => List.mem_append_right _ (List.mem_append_right _ hq)) oX Fs17
    clear Fs17 N16'
    have hq14 : ∀ q ∈ led14, q ∈ tzLed w Z S3 ++ nt3 ++ ([] ++ (K ++ led14)) := fun q hq => List.mem_append_right _ (List.mem_append_right _ (List.mem_append_right _ hq))
    (try dsimp only)
    k_steps
    unfold Stop
    rename News _ _ _ _ => N18
    k_dflt (refine lit_item (vs := vs14) (n := n14) N18 (hq14 _ m14) (by decide) (by decide) (due6 D14) ?_)
    (try dsimp only)
    k_steps
    unfold Stop
    rename News _ _ _ _ => N19
    rename Fr _ _ _ _ => F19
    (try dsimp +zetaDelta only at F19)
    have hr1 := R3.out.length
    have hr2 := R3.errs.length
    k_dflt (refine (seen_spec w Z S3 (by omega) (by omega)).useR seen_ro K0 F19 KX N19 TT rfl (by (first | exact rm0 (by assumption) | exact rm1 (by assumption) (by decide) | k_extra "room" | ktr_room)) (by (first | k_extra "units" | ktr_units)) (fun p hp => List.mem_append_left _ (List.mem_append_left _ hp)) ?_)
    rintro r led20 h20 tk20 F20 N20 fr so9
    refine so9.elim ?_
    clear so9
    rintro Q2 o2 e2 m0 m1 m2 v1 v2 v3 rfl Mq Mo Me MT
    clear fr
    (try dsimp only)
    k_steps
    unfold Stop
    rename News _ _ _ _ => N21
    have hnt : ∀ q ∈ nt3, q ∈ led20 ++ (tzLed w Z S3 ++ nt3 ++ ([] ++ (K ++ led14))) := fun q hq => List.mem_append_right _ (List.mem_append_left _ (List.mem_append_right _ hq))
    rw [R3.at', R3.state, R3.last, R3.waiting, R3.done] at Mq
    k_dflt (refine same_neL (ds := [.list c2.out, .list c2.errs, .int (c2.at' : Nat), .str (nm c2.k), .str ⟨c2.last.toArray⟩, .bool c2.waiting, .bool c2.done]) N21 (List.mem_append_left _ Mq) (List.mem_append_right _ (hq14 _ m14)) (.cons (.list (List.mem_append_left _ Mo) (R3.out.mono hnt)) (.cons (.list (List.mem_append_left _ Me) (R3.errs.mono hnt)) (.cons (.int _ _) (.cons (.str _ _) (.cons (.str _ _) (.cons (.bool _) (.cons (.bool _) .nil))))))) (D14.mono fun q hq => List.mem_append_right _ (hq14 q hq)) (ok_mc hM2) (by (first | k_extra "units" | ktr_units)) ?_)
    k_steps
    unfold Stop
    rename News _ _ _ _ => N22
    rename Fr _ _ _ _ => F22
    (try dsimp +zetaDelta only at F22)
    have G3 : SgOk S3 (nrmL false rawl) := G2.same hS3
    have hb3 : S3.buf = bufOf (wsOf ns) := hS3.buf.trans (b4.trans J.buf)
    have hZfK : ∀ q ∈ tzLed w Zf Sf, q ∈ K := fun q hq => by rw [hK]; exact List.mem_append_left _ hq
    k_dflt (refine (calm_spec w Z Zf S3 Sf (by rw [hb3, TOf.buf]) (by rw [hb3]; exact buf_ok ns) _ _ G3).useR (fun _ _ h => h.2) K0 F22 KX N22 TT rfl (by (first | exact rm0 (by assumption) | exact rm1 (by assumption) (by decide) | k_extra "room" | ktr_room)) (by (first | k_extra "units" | ktr_units)) (fun q hq => List.mem_append_right _ ((List.mem_append.mp hq).elim (fun h => List.mem_append_left _ (List.mem_append_left _ h)) fun h => List.mem_append_right _ (List.mem_append_right _ (List.mem_append_left _ (hZfK q h))))) ?_)
    rintro r led23 h23 tk23 F23 N23 fr ⟨rfl, hC23⟩
    clear fr
    obtain ⟨R, hR⟩ : ∃ R : Led, R = tzLed w Z S3 := ⟨_, rfl⟩
    have N24 : News _ _ _ (tzLed w Zf Sf ++ (wdLed W (wsOf ns) ++ R)) := News.sub N23 (fun q hq => by
      rw [hR] at hq
      refine List.mem_append_right _ (List.mem_append_right _ ?_)
      simp only [List.mem_append, List.not_mem_nil, false_or] at hq ⊢
      rcases hq with h | h | h
      · exact .inr (.inl (hZfK q h))
      · exact .inr (.inl (hWK q h))
      · exact .inl (.inl h))
    clear N23
    have oZ : OwnOff R ((tzLed w Zf Sf).map (·.1)) := by rw [hR]; exact off_swap (Z := Zf) (Z' := Z) (S := Sf) (S' := S) (fun q hq => oK q (hZfK q hq))
    have oW : OwnOff (wdLed W (wsOf ns)) ((tzLed w Zf Sf).map (·.1)) := fun q hq => oZfK q (List.mem_append_left _ hq)
    have oZW : OwnOff R ((wdLed W (wsOf ns)).map (·.1)) := by rw [hR]; exact off_sym2 (tz_own (fun q hq => oK q (hWK q hq)))
    clear mPK
    (try dsimp only)
    simp only [tzLed, List.cons_append, List.nil_append, List.append_assoc] at N24
    k_steps
    unfold Stop
    rename News _ _ _ _ => N25
    rename Fr _ _ _ _ => F25
    (try dsimp +zetaDelta only at F25)
    have N25' : News _ _ _ ([] ++ (tzLed w Zf Sf ++ (wdLed W (wsOf ns) ++ R))) := N25
    clear N25
    k_dflt (refine (tfeed_spec w Zf Sf TOf.ok rawl tkr TOf.closed hgr (by rw [TOf.sv]; exact Nat.zero_le _) (by omega)).useN [] (wdLed W (wsOf ns) ++ R) K0 F25 KX N25' TT rfl (by (first | exact rm0 (by assumption) | exact rm1 (by assumption) (by decide) | k_extra "room" | ktr_room)) (by (first | k_extra "units" | ktr_units)) (OwnOff.app OwnOff.nil (OwnOff.app oW oZ)) ?_)
    rintro r led' h26 tk26 F26 N26 St26 Fs26 ⟨rfl, vsf, n1f, rfl, hvsf⟩
    clear St26 Fs26 N25'
    have hex2 : ∃ S2 : Ts, News _ _ _ (tzLed w Zf S2 ++ (wdLed W (wsOf ns) ++ R)) ∧ S2.sv = Sf.sv ++ vsf ∧ S2.closed = Sf.closed ∧ S2.buf = Sf.buf ∧ Rel S2 [] mc0 := ⟨_, N26, rfl, rfl, rfl, ⟨TOf.rel.at', TOf.rel.state, TOf.rel.last, rfl, TOf.rel.done, TOf.rel.out, TOf.rel.errs, TOf.rel.tups⟩⟩
    clear N26
    obtain ⟨Sf2, N27, e1, e2, e3, Rf2⟩ := hex2
    have hclf : Sf2.closed = false := e2.trans TOf.closed
    have Gf2 : SgOk Sf2 (nrmL false rawl) := ⟨by rw [e1, TOf.sv, List.nil_append]; rw [TOf.isret] at hvsf; exact hvsf, G1.le, G1.sm⟩
    (try dsimp only)
    k_steps
    unfold Stop
    rename News _ _ _ _ => N28
    rename Fr _ _ _ _ => F28
    (try dsimp +zetaDelta only at F28)
    have hwl5 : ∀ k < 4, (wsOf ns k).1.length ≤ 1000 := fun k _ => by have := wsOf_len ns k; omega
    have LS := looked_spec w Zf Sf2 TOf.ok W (wsOf ns) hwl5 (nrmL false rawl) Gf2 mc0 [] Rf2 (okl mok0.out) (okl mok0.errs) mok0.last (Nat.zero_le _) (Nat.zero_le _)
    rw [hclf] at LS
    have N28' := News.sub (b := [] ++ ((tzLed w Zf Sf2 ++ ([] ++ wdLed W (wsOf ns))) ++ R)) N28 (fun q hq => by
      simp only [List.mem_append, List.not_mem_nil, false_or] at hq ⊢
      rcases hq with (h | h) | h
      · exact .inl h
      · exact .inr (.inl h)
      · exact .inr (.inr h))
    clear N28
    k_dflt (refine (LS _).useN [] R K0 F28 KX N28' TT rfl (by (first | exact rm0 (by assumption) | exact rm1 (by assumption) (by decide) | k_extra "room" | ktr_room)) (by (first | k_extra "units" | ktr_units)) (OwnOff.app OwnOff.nil (off_map (tz_own oZ) oZW)) ?_)
    rintro r led' h29 tk29 F29 N29 St29 Fs29 ⟨rfl, a1f, rfl⟩
    clear St29 Fs29 N28' LS
    have hex3 : ∃ S3 : Ts, News _ _ _ ((tzLed w Zf S3 ++ ([] ++ wdLed W (wsOf ns))) ++ R) ∧ S3.sv = Sf2.sv ∧ S3.closed = Sf2.closed ∧ S3.buf = Sf2.buf ∧ Rel S3 [] mc0 := ⟨_, N29, rfl, hclf.symm, rfl, ⟨Rf2.at', Rf2.state, Rf2.last, Rf2.waiting, Rf2.done, Rf2.out, Rf2.errs, Rf2.tups⟩⟩
    clear N29
    obtain ⟨Sf3, N30, g1, g2, g3, Rf3⟩ := hex3
    have Gf3 : SgOk Sf3 (nrmL false rawl) := ⟨by rw [g1]; exact Gf2.sg, G1.le, G1.sm⟩
    have N31 := News.sub (b := tzLed w Zf Sf3 ++ ([] ++ (wdLed W (wsOf ns) ++ R))) N30 (fun q hq => by
      simp only [List.mem_append, List.not_mem_nil, false_or] at hq ⊢
      rcases hq with h | h | h
      · exact .inl (.inl h)
      · exact .inl (.inr h)
      · exact .inr h)
    clear N30
    (try dsimp only)
    k_steps
    unfold Stop
    rename News _ _ _ _ => N32
    rename Fr _ _ _ _ => F32
    (try dsimp +zetaDelta only at F32)
    refine mid2_mono (fun m' led => ∃ Sf4 ntf cf tt, led = tzLed w Zf Sf4 ++ (ntf ++ (wdLed W (wsOf ns) ++ R)) ∧ Same Sf3 Sf4 ∧ Rel Sf4 ntf cf ∧ MOk cf ∧ cf.out.length ≤ 9999 ∧ cf.errs.length ≤ 9999 ∧ ∀ p ∈ [(Str.ofString "words", Value.ref W.a), (Str.ofString "fresh", .ref Zf.t), (Str.ofString "t", .ref Z.t), (Str.ofString "text", .str ⟨(nrmL false rawl).toArray⟩ tt)], m' p.1 = some p.2) F32 ?ifd ?_
    case ifd =>
      by_cases hnl : nrmL false rawl = []
      · have hem : ((⟨(nrmL false rawl).toArray⟩ : Str) != Str.ofString "") = false := by rw [str_emp, decide_eq_true hnl]; rfl
        k_steps
        exact ⟨rfl, _, _, _, _, rfl, by assumption, by assumption, Sf3, [], mc0, _, rfl, Same.refl _, Rf3, mok0, Nat.zero_le _, Nat.zero_le _, by tb_start⟩
      · have hem : ((⟨(nrmL false rawl).toArray⟩ : Str) != Str.ofString "") = true := by rw [str_emp, decide_eq_false hnl]; rfl
        k_steps
        unfold Stop
        rename News _ _ _ _ => N33
        rename Fr _ _ _ _ => F33
        (try dsimp +zetaDelta only at F33)
        k_dflt (refine (digit_spec w _ _ ns hi hlen 18 _ (by omega)).useR (fun _ _ _ p hp => (nomatch hp)) hLs K0 F33 KX N33 TT rfl (by (first | exact rm0 (by assumption) | exact rm1 (by assumption) (by decide) | k_extra "room" | ktr_room)) (by (first | k_extra "units" | ktr_units)) (fun _ hp => (nomatch hp)) ?_)
        rintro r led' h34 tk34 F34 N34 fresh ⟨rfl, tk2, rfl⟩
        rw [List.nil_append] at N34
        clear fresh
        (try dsimp only)
        k_steps
        unfold Stop
        rename News _ _ _ _ => N35
        rename Fr _ _ _ _ => F35
        (try dsimp +zetaDelta only at F35)
        k_dflt (refine (stepped_spec w Zf Sf3 TOf.ok W (wsOf ns) four TOf.st (nrmL false rawl) hnl (by rw [g3, e3, TOf.buf]; exact ws_ok ns) Gf3 (g2.trans hclf) [] mc0 Rf3 mok0 (fun k _ => ws_ch ns k) rfl 0 (Nat.zero_le _) (Nat.le_refl _) (Nat.le_refl _) _ _ _ _ R (OwnOff.app OwnOff.nil (OwnOff.app (tz_own oW) (tz_own oZ)))) _ _ _ _ _ _ _ _ _ _ _ _ _ _ _ _ _ K0 F35 KX N35 TT rfl (by (first | exact rm0 (by assumption) | exact rm1 (by assumption) (by decide) | k_extra "room" | ktr_room)) (by (first | k_extra "units" | ktr_units)) ?_)
        rintro r led' h36 tk36 F36 N36 ⟨rfl, Sf4, ntf, cf, rfl, hSm, hRf, hMf, hdf, hl1, hl2⟩
        (try dsimp only)
        k_steps
        exact ⟨rfl, _, _, _, _, rfl, by assumption, by assumption, Sf4, ntf, cf, _, rfl, hSm, hRf, hMf, hl1, hl2, by tb_start⟩
    rintro h37 tk37 m37 led37 F37 N37 ⟨Sf4, ntf, cf, tt, rfl, hSm, hRf, hMf, hl1, hl2, hm37⟩
    replace F37 := told _ F37 hm37
    clear hm37 F32 N32
    have oT : OwnOff ntf ((tzLed w Zf Sf4).map (·.1)) := tz_off TOf.ok.2.2.2.2.2.2.2.2 hRf.tups (News.sub N37 fun q hq => by rw [← List.append_assoc]; exact List.mem_append_left _ hq)
    (try dsimp only)
    simp only [tzLed, List.cons_append, List.nil_append, List.append_assoc] at N37
    k_steps
    unfold Stop
    rename News _ _ _ _ => N38
    rename Fr _ _ _ _ => F38
    (try dsimp +zetaDelta only at F38)
    have N38' : News _ _ _ ([] ++ (tzLed w Zf Sf4 ++ (ntf ++ (wdLed W (wsOf ns) ++ R)))) := N38
    clear N38
    k_dflt (refine (tend_spec w Zf Sf4 TOf.ok).useN [] (ntf ++ (wdLed W (wsOf ns) ++ R)) K0 F38 KX N38' TT rfl (by (first | exact rm0 (by assumption) | exact rm1 (by assumption) (by decide) | k_extra "room" | ktr_room)) (by (first | k_extra "units" | ktr_units)) (OwnOff.app OwnOff.nil (OwnOff.app oT (OwnOff.app (tz_own oW) (tz_own oZ)))) ?_)
    rintro r led' h39 tk39 F39 N39 St39 Fs39 ⟨rfl, rfl⟩
    clear St39 Fs39 N38'
    have hex4 : ∃ S5 : Ts, News _ _ _ (tzLed w Zf S5 ++ (ntf ++ (wdLed W (wsOf ns) ++ R))) ∧ S5.sv = Sf4.sv ∧ S5.closed = true ∧ S5.buf = Sf4.buf ∧ Rel S5 ntf { cf with waiting := false } := ⟨_, N39, rfl, rfl, rfl, ⟨hRf.at', hRf.state, hRf.last, rfl, hRf.done, hRf.out, hRf.errs, hRf.tups⟩⟩
    clear N39
    obtain ⟨Sf5, N40, i1, hcl5, i3, Rf5⟩ := hex4
    have Gf5 : SgOk Sf5 (nrmL false rawl) := ⟨by rw [i1, hSm.sv]; exact Gf3.sg, G1.le, G1.sm⟩
    (try dsimp only)
    simp only [tzLed, List.cons_append, List.nil_append, List.append_assoc] at N40
    k_steps
    unfold Stop
    rename News _ _ _ _ => N41
    rename Fr _ _ _ _ => F41
    (try dsimp +zetaDelta only at F41)
    have N41' : News _ _ _ (tzLed w Zf Sf5 ++ (ntf ++ (wdLed W (wsOf ns) ++ R))) := N41
    clear N41
    k_dflt (refine tfeed_raise w Zf Sf5 hcl5 (Str.ofString "x") _ (ntf ++ (wdLed W (wsOf ns) ++ R)) _ _ _ _ _ _ _ _ _ _ _ _ _ _ _ _ _ _ _ _ K0 F41 KX N41' TT rfl (by (first | exact rm0 (by assumption) | exact rm1 (by assumption) (by decide) | k_extra "room" | ktr_room)) (by (first | k_extra "units" | ktr_units)) ?_)
    intro e D tx tk42 G42 h42 tk43 FG R42 up
    k_dflt (refine caughtP (ExP.kept D) (fun o z => z.1) R42 FG K0 up KX TT (by k_is) (by kernel_rfl) ?_)
    intro h44 g44 oe tk44 T44 F44 N44 P44 nc44 B44 X44 TT44
    clear N41'
    (try dsimp only)
    k_steps
    have X45 := X44.keeps (Fr.keep (by assumption : Fr g44 _ _ _))
    have I45 := why_at N44 P44 nc44
    k_dflt (refine' ex_get (C := 51) ?xX ?xI (ex51_ga w) (ex51_hook w) (ex51_base w) (ex51_why w _ _ _) rfl ?_; (case xX => exact X45); (case xI => exact I45))
    (try dsimp only)
    k_steps
    unfold Stop
    rename News _ _ _ _ => N46
    rename Fr _ _ _ _ => F46
    (try dsimp +zetaDelta only at F46)
    have N47 := News.sub (b := [] ++ ((tzLed w Zf Sf5 ++ (ntf ++ wdLed W (wsOf ns))) ++ R)) N46 (fun q hq => by
      refine List.mem_cons_of_mem _ (List.mem_cons_of_mem _ ?_)
      simp only [List.mem_append, List.not_mem_nil, false_or] at hq ⊢
      rcases hq with (h | h | h) | h
      · exact .inl h
      · exact .inr (.inl h)
      · exact .inr (.inr (.inl h))
      · exact .inr (.inr (.inr h)))
    clear N46
    have oRn : OwnOff R (ntf.map (·.1)) := off_sym2 (off_kind N47 (A := R) (B := ntf) (fun q hq => List.mem_append_right _ (List.mem_append_right _ hq)) (fun q hq => List.mem_append_right _ (List.mem_append_left _ (List.mem_append_right _ (List.mem_append_left _ hq)))) (by rw [hR]; exact tz_kind z9) hRf.tups)
    have LS := looked_spec w Zf Sf5 TOf.ok W (wsOf ns) hwl5 (nrmL false rawl) Gf5 { cf with waiting := false } ntf Rf5 (okl hMf.out) (okl hMf.errs) hMf.last (Nat.le_succ_of_le hl1) (Nat.le_succ_of_le hl2)
    rw [hcl5] at LS
    k_dflt (refine (LS _).useN [] R B44 F46 X44 N47 TT44 rfl (by (first | exact rm0 (by assumption) | exact rm1 (by assumption) (by decide) | k_extra "room" | ktr_room)) (by (first | k_extra "units" | ktr_units)) (OwnOff.app OwnOff.nil (off_map (tz_own oZ) (off_map oRn oZW))) ?_)
    rintro r led' h48 tk48 F48 N48 St48 Fs48 ⟨rfl, a1g, rfl⟩
    clear St48 Fs48 N47 LS
    have hex5 : ∃ S6 : Ts, News _ _ _ ((tzLed w Zf S6 ++ (ntf ++ wdLed W (wsOf ns))) ++ R) ∧ S6.sv = Sf5.sv ∧ S6.buf = Sf5.buf := ⟨_, N48, rfl, rfl⟩
    clear N48
    obtain ⟨Sf6, N49, j1, j2⟩ := hex5
    (try dsimp only)
    k_steps
    unfold Stop
    rename News _ _ _ _ => N50
    rename Fr _ _ _ _ => F50
    (try dsimp +zetaDelta only at F50)
    have hb6 : Sf6.buf = bufOf (wsOf ns) := j2.trans (i3.trans (hSm.buf.trans (g3.trans (e3.trans TOf.buf))))
    k_dflt (refine (calm_spec w Zf Z Sf6 S3 (by rw [hb6, hb3]) (by rw [hb6]; exact buf_ok ns) _ _ ⟨by rw [j1]; exact Gf5.sg, G1.le, G1.sm⟩).useR (fun _ _ h => h.2) B44 F50 X44 N50 TT44 rfl (by (first | exact rm0 (by assumption) | exact rm1 (by assumption) (by decide) | k_extra "room" | ktr_room)) (by (first | k_extra "units" | ktr_units)) (fun q hq => (List.mem_append.mp hq).elim (fun h => List.mem_append_left _ (List.mem_append_left _ h)) fun h => List.mem_append_right _ (by rw [hR]; exact h)) ?_)
    rintro r led51 h51 tk51 F51 N51 fr ⟨rfl, hC51⟩
    clear fr
    (try dsimp only)
    k_steps
    have FE := Fr.mk F51.ns (fun b o q => F51.keep b o (B44.stays b o q)) FA
    exact law_end FE (by assumption) rfl
  case turn =>
    rintro i ⟨S1, nt, c1, rawl, tkr⟩ v I oI u h tk hv J hoI hI F N
    dsimp only at J F N hI
    have hiv := (List.getElem?_eq_some_iff.mp hv).1
    have hpsl : i < ps.length := by omega
    obtain ⟨tp, htp⟩ := (show StrsAre pv (ps.map mkS) from hpv).at (j := i) (y := mkS ps[i]) (by simp [hpsl])
    obtain rfl : v = .str ⟨(ps[i]).toArray⟩ tp := Option.some.inj (hv.symm.trans htp)
    have hraw2 : (ps.take (i + 1)).flatten = rawl ++ ps[i] := by rw [J.raw]; exact flat_take hpsl
    have hlen2 : (rawl ++ ps[i]).length ≤ 20 := by rw [← hraw2]; exact Nat.le_trans (flat_le ps (i + 1)) hfl
    have hgood2 : ∀ x ∈ rawl ++ ps[i], goodC x := by rw [← hraw2]; exact flat_mem hgood
    clear htp hv
    generalize ps[i] = p at *
    have hlen3 : rawl.length + p.length ≤ 20 := by rw [← List.length_append]; exact hlen2
    have z9 := TO.ok.2.2.2.2.2.2.2.2
    have oI1 : OwnOff [(I, oI)] ((tzLed w Z S1).map (·.1)) := tz_lt hI oI
    have oN1 : OwnOff nt ((tzLed w Z S1).map (·.1)) := tz_off z9 J.rel.tups (News.sub N fun q hq => List.mem_append_left _ (by rw [← List.append_assoc]; exact List.mem_append_left _ hq))
    have oI2 : OwnOff [(I, oI)] (nt.map (·.1)) := it_off hoI J.rel.tups (News.sub N fun q hq => (List.mem_cons.mp hq).elim (fun h => List.mem_append_right _ (by rw [h]; exact .head _)) fun h => List.mem_append_left _ (List.mem_append_right _ (List.mem_append_left _ h)))
    have svl : S1.sv.length ≤ 1000 := by
      have h1 := J.sv.len_eq
      have h2 := nrm_len rawl false
      rw [List.length_map] at h1
      omega
    (try dsimp only)
    simp only [tzLed, List.cons_append, List.nil_append, List.append_assoc] at N
    k_steps
    unfold Stop
    rename News _ _ _ _ => N1
    rename Fr _ _ _ _ => F1
    (try dsimp +zetaDelta only at F1)
    have N1' : News _ _ _ ([] ++ (tzLed w Z S1 ++ (nt ++ (K ++ [(I, oI)])))) := N1
    clear N1
    k_dflt (refine (tfeed_spec w Z S1 TO.ok p tp J.closed (fun x hx => hgood2 x (List.mem_append_right _ hx)) svl (by omega)).useN [] (nt ++ (K ++ [(I, oI)])) K0 F1 KX N1' TT rfl (by (first | exact rm0 (by assumption) | exact rm1 (by assumption) (by decide) | k_extra "room" | ktr_room)) (by (first | k_extra "units" | ktr_units)) (OwnOff.app OwnOff.nil (OwnOff.app oN1 (OwnOff.app (off_left J.off) oI1))) ?_)
    rintro r led' h11 tk11 F11 N11 St11 Fs11 ⟨rfl, vs, n1', rfl, hvs⟩
    clear St11 Fs11 N1'
    have hex : ∃ S2 : Ts, News _ _ _ (tzLed w Z S2 ++ (nt ++ (K ++ [(I, oI)]))) ∧ S2.sv = S1.sv ++ vs ∧ S2.isret = nrmR S1.isret p ∧ S2.closed = S1.closed ∧ S2.buf = S1.buf ∧ Rel S2 nt { c1 with waiting := false } := ⟨_, N11, rfl, rfl, rfl, rfl, ⟨J.rel.at', J.rel.state, J.rel.last, rfl, J.rel.done, J.rel.out, J.rel.errs, J.rel.tups⟩⟩
    clear N11
    obtain ⟨S2, N12, b1, b2, b3, b4, R2⟩ := hex
    have hcl2 : S2.closed = false := b3.trans J.closed
    have hnr : nrmL false (rawl ++ p) = nrmL false rawl ++ nrmL (nrmR false rawl) p := nrm_app rawl p false
    have hsv2 : StrsAre S2.sv ((nrmL false (rawl ++ p)).map one) := by
      rw [b1, hnr, List.map_append]
      exact J.sv.append' (by rw [J.isret] at hvs; exact hvs)
    have G2 : SgOk S2 (nrmL false (rawl ++ p)) := SgOk.nrm hsv2 hlen2 hgood2
    have hbn2 : Bnd (nrmL false (rawl ++ p)) { c1 with waiting := false } := by rw [hnr]; exact (J.bnd.wait false).more _
    obtain ⟨rn, c2, H2⟩ := runs_exist (four := four) (closed := false) (ws := wsOf ns) (sl := nrmL false (rawl ++ p)) (by have := G2.le; omega) _ _ hbn2 (Nat.le_add_right _ _)
    have hB2 : Bnd (nrmL false (rawl ++ p)) c2 := (runs_end H2 hbn2).elim id fun h => absurd h.1 (by decide)
    have hM2 : MOk c2 := runs_ok G2.sm (fun k _ => ws_ch ns k) H2 ⟨J.mok.out, J.mok.errs, J.mok.last⟩
    obtain ⟨rn2, H3⟩ : ∃ n, RunsIn four (nrmL false (rawl ++ p)) false (wsOf ns) n mc0 c2 := by
      obtain ⟨n, hr⟩ := J.run
      rw [hnr] at H2 ⊢
      exact runs_inc hr Bnd.zero rfl H2
    (try dsimp only)
    simp only [tzLed, List.cons_append, List.nil_append, List.append_assoc] at N12
    k_steps
    unfold Stop
    rename News _ _ _ _ => N13
    rename Fr _ _ _ _ => F13
    (try dsimp +zetaDelta only at F13)
    have N13' : News _ _ _ ([] ++ ((tzLed w Z S2 ++ nt) ++ (K ++ [(I, oI)]))) := N13
    clear N13
    have oX : OwnOff (K ++ [(I, oI)]) ((tzLed w Z S2 ++ nt).map (·.1)) := OwnOff.app (off_map (tz_own (off_left J.off)) (off_right J.off)) (off_map (tz_own oI1) oI2)
    k_dflt (refine (run_spec w Z S2 TO.ok four TO.st (wsOf ns) (by rw [b4, J.buf]; exact ws_ok ns) _ G2 _ c2 nt R2 rn (by rw [hcl2]; exact H2)).useN [] (K ++ [(I, oI)]) K0 F13 KX N13' TT rfl (by (first | exact rm0 (by assumption) | exact rm1 (by assumption) (by decide) | k_extra "room" | ktr_room)) (by (first | k_extra "units" | ktr_units)) (OwnOff.app OwnOff.nil oX) ?_)
    rintro r led' h14 tk14 F14 N14 St14 Fs14 ⟨rfl, S3, nt3, rfl, hS3, R3⟩
    clear St14
    have oX3 := off_step N13' (fun q hq => List.mem_append_right _ (List.mem_append_right _ hq)) oX Fs14
    clear Fs14 N13'
    rw [hB2.done]
    have hq1 : (⟨rawl.toArray⟩ : Str).length ≤ 20 := by rw [len_tx]; omega
    have hq2 : (⟨p.toArray⟩ : Str).length ≤ 20 := by rw [len_tx]; omega
    have happ := str_app rawl p
    have hq0 : (⟨(rawl ++ p).toArray⟩ : Str).length ≤ 20 := by rw [len_tx]; exact hlen2
    have hq3 := Nat.le_trans (text_len (rawl ++ p)) hlen2
    rw [← happ] at hq3 hq0
    have htext := text_eq (rawl ++ p)
    (try dsimp only)
    k_steps
    unfold Stop
    rename News _ _ _ _ => N15
    rename Fr _ _ _ _ => F15
    (try dsimp +zetaDelta only at F15)
    simp only [happ, htext] at F15
    have hlo := hB2.lens
    have hsl2 := G2.le
    have hr1 := R3.out.length
    have hr2 := R3.errs.length
    k_dflt (refine (seen_spec w Z S3 (by omega) (by omega)).useR seen_ro K0 F15 KX N15 TT rfl (by (first | exact rm0 (by assumption) | exact rm1 (by assumption) (by decide) | k_extra "room" | ktr_room)) (by (first | k_extra "units" | ktr_units)) (fun p hp => List.mem_append_left _ (List.mem_append_left _ hp)) ?_)
    rintro r led16 h16 tk16 F16 N16 fr so9
    refine so9.elim ?_
    clear so9
    rintro Q2 o2 e2 m0 m1 m2 v1 v2 v3 rfl Mq Mo Me MT
    clear fr
    (try dsimp only)
    k_steps
    unfold Stop
    rename News _ _ _ _ => N17
    rename Fr _ _ _ _ => F17
    (try dsimp +zetaDelta only at F17)
    k_dflt (refine (stand_spec w W (wsOf ns) (nrmL false (rawl ++ p)) _ false four _ hsl2 G2.sm (fun k _ => by have := wsOf_len ns k; omega) rn2 c2 H3 (by omega)).useR (fun _ _ h => h.2) K0 F17 KX N17 TT rfl (by (first | exact rm0 (by assumption) | exact rm1 (by assumption) (by decide) | k_extra "room" | ktr_room)) (by (first | k_extra "units" | ktr_units)) (fun q hq => List.mem_append_right _ (List.mem_append_right _ (List.mem_append_right _ (List.mem_append_left _ (by rw [hK]; exact List.mem_append_right _ (List.mem_append_left _ hq)))))) ?_)
    rintro r led18 h18 tk18 F18 N18 fr ⟨hD, hW18⟩
    clear fr
    obtain ⟨a18, n18, vs18, rfl, m18, D18⟩ := dat_list hD
    (try dsimp only)
    k_steps
    unfold Stop
    rename News _ _ _ _ => N19
    have hnt : ∀ q ∈ nt3, q ∈ led18 ++ (led16 ++ (tzLed w Z S3 ++ nt3 ++ ([] ++ (K ++ [(I, oI)])))) := fun q hq => List.mem_append_right _ (List.mem_append_right _ (List.mem_append_left _ (List.mem_append_right _ hq)))
    rw [R3.at', R3.state, R3.last, R3.waiting, R3.done] at Mq
    k_dflt (refine same_neL (ds := [.list c2.out, .list c2.errs, .int (c2.at' : Nat), .str (nm c2.k), .str ⟨c2.last.toArray⟩, .bool c2.waiting, .bool c2.done]) N19 (List.mem_append_right _ (List.mem_append_left _ Mq)) (List.mem_append_left _ m18) (.cons (.list (List.mem_append_right _ (List.mem_append_left _ Mo)) (R3.out.mono hnt)) (.cons (.list (List.mem_append_right _ (List.mem_append_left _ Me)) (R3.errs.mono hnt)) (.cons (.int _ _) (.cons (.str _ _) (.cons (.str _ _) (.cons (.bool _) (.cons (.bool _) .nil))))))) (D18.mono fun q hq => List.mem_append_left _ hq) (ok_mc hM2) (by (first | k_extra "units" | ktr_units)) ?_)
    k_steps
    unfold Stop
    rename News _ _ _ _ => N20
    rename Fr _ _ _ _ => F20
    (try dsimp +zetaDelta only at F20)
    have G3 : SgOk S3 (nrmL false (rawl ++ p)) := G2.same hS3
    have hb3 : S3.buf = bufOf (wsOf ns) := hS3.buf.trans (b4.trans J.buf)
    k_dflt (refine (calm_spec w Z Zf S3 Sf (by rw [hb3, TOf.buf]) (by rw [hb3]; exact buf_ok ns) _ _ G3).useR (fun _ _ h => h.2) K0 F20 KX N20 TT rfl (by (first | exact rm0 (by assumption) | exact rm1 (by assumption) (by decide) | k_extra "room" | ktr_room)) (by (first | k_extra "units" | ktr_units)) (fun q hq => List.mem_append_right _ (List.mem_append_right _ ((List.mem_append.mp hq).elim (fun h => List.mem_append_left _ (List.mem_append_left _ h)) fun h => List.mem_append_right _ (List.mem_append_right _ (List.mem_append_left _ (by rw [hK]; exact List.mem_append_left _ h)))))) ?_)
    rintro r led21 h21 tk21 F21 N21 fr ⟨rfl, hC21⟩
    clear fr
    (try dsimp only)
    k_steps
    rename News _ _ _ _ => N22
    rename Fr _ _ _ _ => F22
    (try dsimp +zetaDelta only at F22)
    refine TurnL.next (S3, nt3, c2, rawl ++ p, _) F22 (News.sub N22 ?sub) ?own (by tb_start) ⟨hraw2.symm, hS3.closed.trans hcl2, hS3.isret.trans (b2.trans (by rw [J.isret, nrmR_app])), hb3, by rw [hS3.sv]; exact hsv2, R3, ⟨rn2, H3⟩, hB2, hM2, fun q hq => oX3 q (List.mem_append_left _ hq)⟩
    case sub =>
      intro q hq
      refine List.mem_append_right _ (List.mem_append_right _ (List.mem_append_right _ ?_))
      simp only [List.mem_append, List.not_mem_nil, false_or] at hq ⊢
      rcases hq with (h | h | h) | h
      · exact .inl (.inl h)
      · exact .inl (.inr h)
      · exact .inr (.inl h)
      · exact .inr (.inr h)
    case own =>
      refine off_map (tz_lt hI oI) (off_map (it_off hoI R3.tups (News.sub N20 ?_)) (lt_off (fun q hq => hI q (List.mem_append_right _ (List.mem_append_right _ hq))) oI))
      intro q hq
      rcases List.mem_cons.mp hq with rfl | hq
      · exact List.mem_append_right _ (List.mem_append_right _ (List.mem_append_right _ (List.mem_append_right _ (List.mem_append_right _ (.head _)))))
      · exact hnt q hq
end Mine
theorem PySem.Challenge.cw_nt0598_01_holds : PySem.Challenge.rw_nt0598_01.Holds := by
  exact Mine.law_walk
