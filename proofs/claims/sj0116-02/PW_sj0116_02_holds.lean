import PyProof.Rows.All
import Wide.All
import OpenK.AllK
import Wide.FinOn
import Lean
import PySem.Challenge.RW_sj0116_02
open PySem PySem.W PyProof.Rows
set_option Elab.async false
set_option maxRecDepth 100000
set_option maxHeartbeats 4000000
set_option linter.unusedVariables false
namespace Mine

/-- What is asked of a caller: its frame, the written part, the ledger, the top, room for frames. -/
abbrev Ready (prog : Program) (w : World) (K : Frag) (p : Program) (loose : List Str) (mean : ExcName → Option Value) (mg mb : Str → Option Value)
    (r : Nat) (f : Addr) (vs : List Value) (news : List (Addr × Obj)) (Ret : Heap → Addr → Shared → (Heap → Prop) → (Value → Shared → Prop) → Prop) : Prop :=
  ∀ (dp un : Nat) (gd : Option (List Code)) (cn : Str) (cs : Scope) (a : Addr) (ccd : Value) (cl : List (Str × Addr)) (outer : List Env)
    (A₀ : Around) (base h₀ : Heap) (L : Addr) (m : Str → Option Value) (s : Shared) (Q E : Value → Shared → Prop),
    Below A₀ base outer h₀ → Fr h₀ L s.heap m → K.In h₀ → News h₀ L s.heap news → Top p loose mean mg mb h₀ → cs.kind = .function →
    dp + r < recursionLimit → un + 10 * r < cLine →
    Ret h₀ L s (fun h' => Fr h₀ L h' m) Q →
    wpAny (model prog w) (ktrTop dp un gd cn cs L a ccd cl outer) (call (.ref f) vs) Q E s

/-- A call that turns the ledger `news` into one of which `Post` is said. -/
def Spec (prog : Program) (w : World) (K : Frag) (p : Program) (loose : List Str) (mean : ExcName → Option Value) (mg mb : Str → Option Value)
    (r : Nat) (f : Addr) (vs : List Value) (news : List (Addr × Obj)) (Post : (Value → List (Addr × Obj) → Prop) → Prop) : Prop :=
  Ready prog w K p loose mean mg mb r f vs news fun h₀ L s FrAt Q =>
    Post fun v news' => ∀ h' tk', FrAt h' → News h₀ L h' news' → Q v { s with heap := h', toks := tk' }

theorem Spec.use {prog : Program} {w : World} {K : Frag} {p : Program} {loose : List Str} {mean : ExcName → Option Value} {mg mb : Str → Option Value}
    {r : Nat} {f : Addr} {vs : List Value} {news : List (Addr × Obj)} {Post : (Value → List (Addr × Obj) → Prop) → Prop} 
    {dp un : Nat} {gd : Option (List Code)} {cn : Str} {cs : Scope} {a : Addr} {ccd : Value} {cl : List (Str × Addr)} {outer : List Env}
    {A₀ : Around} {base h₀ : Heap} {L : Addr} {m : Str → Option Value} {s : Shared} {Q E : Value → Shared → Prop}
    (C : Spec prog w K p loose mean mg mb r f vs news Post)
    (B : Below A₀ base outer h₀) (F : Fr h₀ L s.heap m) (X : K.In h₀) (N : News h₀ L s.heap news) (T : Top p loose mean mg mb h₀) (hk : cs.kind = .function)
    (hd : dp + r < recursionLimit) (hu : un + 10 * r < cLine)
    (ret : Post fun v news' => ∀ h' tk', Fr h₀ L h' m → News h₀ L h' news' → Q v { s with heap := h', toks := tk' }) :
    wpAny (model prog w) (ktrTop dp un gd cn cs L a ccd cl outer) (call (.ref f) vs) Q E s :=
  C dp un gd cn cs a ccd cl outer A₀ base h₀ L m s Q E B F X N T hk hd hu ret

/-- A call that leaves every ledger as it is. -/
def Pure (prog : Program) (w : World) (K : Frag) (p : Program) (loose : List Str) (mean : ExcName → Option Value) (mg mb : Str → Option Value)
    (r : Nat) (f : Addr) (vs : List Value) (Post : (Value → Prop) → Prop) : Prop :=
  ∀ news, Ready prog w K p loose mean mg mb r f vs news fun h₀ L s FrAt Q =>
    Post fun v => ∀ h' tk', FrAt h' → News h₀ L h' news → Q v { s with heap := h', toks := tk' }

theorem Pure.use {prog : Program} {w : World} {K : Frag} {p : Program} {loose : List Str} {mean : ExcName → Option Value} {mg mb : Str → Option Value}
    {r : Nat} {f : Addr} {vs : List Value} {news : List (Addr × Obj)} {Post : (Value → Prop) → Prop} 
    {dp un : Nat} {gd : Option (List Code)} {cn : Str} {cs : Scope} {a : Addr} {ccd : Value} {cl : List (Str × Addr)} {outer : List Env}
    {A₀ : Around} {base h₀ : Heap} {L : Addr} {m : Str → Option Value} {s : Shared} {Q E : Value → Shared → Prop}
    (C : Pure prog w K p loose mean mg mb r f vs Post)
    (B : Below A₀ base outer h₀) (F : Fr h₀ L s.heap m) (X : K.In h₀) (N : News h₀ L s.heap news) (T : Top p loose mean mg mb h₀) (hk : cs.kind = .function)
    (hd : dp + r < recursionLimit) (hu : un + 10 * r < cLine)
    (ret : Post fun v => ∀ h' tk', Fr h₀ L h' m → News h₀ L h' news → Q v { s with heap := h', toks := tk' }) :
    wpAny (model prog w) (ktrTop dp un gd cn cs L a ccd cl outer) (call (.ref f) vs) Q E s :=
  C news dp un gd cn cs a ccd cl outer A₀ base h₀ L m s Q E B F X N T hk hd hu ret

/-- of what is said behind a call: it may be made weaker -/
abbrev Mono {α : Type} (Post : (Value → α → Prop) → Prop) : Prop := ∀ C C' : Value → α → Prop, (∀ v x, C v x → C' v x) → Post C → Post C'
/-- A call that turns one object of the ledger, `d`, alone; `ro` is what it reads. -/
def Turns (prog : Program) (w : World) (K : Frag) (p : Program) (loose : List Str) (mean : ExcName → Option Value) (mg mb : Str → Option Value)
    (r : Nat) (f : Addr) (vs : List Value) (d : Addr) (o : Obj) (ro : List (Addr × Obj)) (Post : (Value → Obj → Prop) → Prop) : Prop :=
  Mono Post ∧ ∀ rest, (∀ q ∈ rest, q.1 ≠ d) → (∀ q ∈ ro, q ∈ rest) → Ready prog w K p loose mean mg mb r f vs ((d, o) :: rest) fun h₀ L s FrAt Q =>
    Post fun v o' => ∀ h' tk', FrAt h' → News h₀ L h' ((d, o') :: rest) → Q v { s with heap := h', toks := tk' }

theorem Turns.use {prog : Program} {w : World} {K : Frag} {p : Program} {loose : List Str} {mean : ExcName → Option Value} {mg mb : Str → Option Value}
    {r : Nat} {f : Addr} {vs : List Value} {news : List (Addr × Obj)} {d : Addr} {o : Obj} {ro : List (Addr × Obj)} {Post : (Value → Obj → Prop) → Prop} {g : Obj → List (Addr × Obj)}
    {dp un : Nat} {gd : Option (List Code)} {cn : Str} {cs : Scope} {a : Addr} {ccd : Value} {cl : List (Str × Addr)} {outer : List Env}
    {A₀ : Around} {base h₀ : Heap} {L : Addr} {m : Str → Option Value} {s : Shared} {Q E : Value → Shared → Prop}
    (C : Turns prog w K p loose mean mg mb r f vs d o ro Post)
    (U : UpdF d o news g) (hro : ∀ q ∈ ro, q ∈ news ∧ q.1 ≠ d)
    (B : Below A₀ base outer h₀) (F : Fr h₀ L s.heap m) (X : K.In h₀) (N : News h₀ L s.heap news) (T : Top p loose mean mg mb h₀) (hk : cs.kind = .function)
    (hd : dp + r < recursionLimit) (hu : un + 10 * r < cLine)
    (ret : Post fun v o' => ∀ h' tk', Fr h₀ L h' m → News h₀ L h' (g o') → Q v { s with heap := h', toks := tk' }) :
    wpAny (model prog w) (ktrTop dp un gd cn cs L a ccd cl outer) (call (.ref f) vs) Q E s := by
  obtain ⟨pre, post, e1, e2, e3, e4⟩ := U.split
  unfold Turns at C
  obtain ⟨hmono, C⟩ := C
  have k1 : ∀ q ∈ pre ++ post, q.1 ≠ d := fun q hq => (List.mem_append.mp hq).elim (e3 q) (e4 q)
  have k2 : ∀ q ∈ ro, q ∈ pre ++ post := by
    intro q hq
    have h1 := (hro q hq).1
    have h2 := (hro q hq).2
    rw [e1] at h1
    rcases List.mem_append.mp h1 with h | h
    · exact List.mem_append_left _ h
    · rcases List.mem_cons.mp h with h | h
      · exact absurd (by rw [h]) h2
      · exact List.mem_append_right _ h
  have k3 : News h₀ L s.heap ((d, o) :: (pre ++ post)) := by
    intro q hq
    refine N q ?_
    rw [e1]
    rcases List.mem_cons.mp hq with h | h
    · rw [h]; exact List.mem_append_right _ (.head _)
    · rcases List.mem_append.mp h with h | h
      · exact List.mem_append_left _ h
      · exact List.mem_append_right _ (.tail _ h)
  refine C (pre ++ post) k1 k2 dp un gd cn cs a ccd cl outer A₀ base h₀ L m s Q E B F X k3 T hk hd hu (hmono _ _ ?_ ret)
  intro v o' ret h' tk' hF hN
  refine ret h' tk' hF ?_
  rw [e2 o']
  intro q hq
  rcases List.mem_append.mp hq with h | h
  · exact hN q (.tail _ (List.mem_append_left _ h))
  · rcases List.mem_cons.mp h with h | h
    · rw [h]; exact hN _ (.head _)
    · exact hN q (.tail _ (List.mem_append_right _ h))

theorem allLt_all {d : Addr} {l : List (Addr × Obj)} : AllLt d l → ∀ q ∈ l, q.1 < d := by
  induction l with
  | nil => intro _ q hq; exact absurd hq (List.not_mem_nil)
  | cons p r ih =>
    intro h q hq
    have h1 : @LT.lt Nat _ p.1 d := by unfold AllLt at h; exact h.1
    have h2 : AllLt d r := by unfold AllLt at h; exact h.2
    rcases List.mem_cons.mp hq with e | e
    · rw [e]; exact h1
    · exact ih h2 q e
theorem allLt_ne {d : Addr} {l : List (Addr × Obj)} (h : AllLt d l) : ∀ q ∈ l, q.1 ≠ d := fun q hq => Nat.ne_of_lt (allLt_all h q hq)
theorem lt_ne {d : Addr} {l : List (Addr × Obj)} (h : ∀ q ∈ l, q.1 < d) : ∀ q ∈ l, q.1 ≠ d := fun q hq => Nat.ne_of_lt (h q hq)
theorem lt_ne2 {d e : Addr} {l : List (Addr × Obj)} (h : ∀ q ∈ l, q.1 < d) (hde : d ≤ e) : ∀ q ∈ l, q.1 ≠ e := fun q hq => Nat.ne_of_lt (Nat.lt_of_lt_of_le (h q hq) hde)
section
variable {prog : Program} {w : World} {A : Around} {E : Value → Shared → Prop} {s : Shared} {h₀ : Heap} {L : Addr} {m : Str → Option Value} {news : List (Addr × Obj)} {a b : Int} {t u : Tok} {Q : Value → Shared → Prop}
theorem max_l (hab : b ≤ a) (hh : A.handled = none) (F : Fr h₀ L s.heap m) (N : News h₀ L s.heap news) (h : ∀ h' tk t', Fr h₀ L h' m → News h₀ L h' news → Q (.int a t') { s with heap := h', toks := tk }) :
    wpAny (model prog w) A (call (.builtin "max") [.int a t, .int b u]) Q E s := max_two_N hh F N fun h' tk F' N' => by
  have e : (if b > a then b else a) = a := if_neg (by omega)
  rw [e]; exact h h' tk _ F' N'
theorem max_r (hab : a ≤ b) (hh : A.handled = none) (F : Fr h₀ L s.heap m) (N : News h₀ L s.heap news) (h : ∀ h' tk t', Fr h₀ L h' m → News h₀ L h' news → Q (.int b t') { s with heap := h', toks := tk }) :
    wpAny (model prog w) A (call (.builtin "max") [.int a t, .int b u]) Q E s := max_two_N hh F N fun h' tk F' N' => by
  have e : (if b > a then b else a) = b := by split <;> omega
  rw [e]; exact h h' tk _ F' N'
theorem min_l (hab : a ≤ b) (hh : A.handled = none) (F : Fr h₀ L s.heap m) (N : News h₀ L s.heap news) (h : ∀ h' tk t', Fr h₀ L h' m → News h₀ L h' news → Q (.int a t') { s with heap := h', toks := tk }) :
    wpAny (model prog w) A (call (.builtin "min") [.int a t, .int b u]) Q E s := min_two_N hh F N fun h' tk F' N' => by
  have e : (if b < a then b else a) = a := if_neg (by omega)
  rw [e]; exact h h' tk _ F' N'
theorem min_r (hab : b ≤ a) (hh : A.handled = none) (F : Fr h₀ L s.heap m) (N : News h₀ L s.heap news) (h : ∀ h' tk t', Fr h₀ L h' m → News h₀ L h' news → Q (.int b t') { s with heap := h', toks := tk }) :
    wpAny (model prog w) A (call (.builtin "min") [.int a t, .int b u]) Q E s := min_two_N hh F N fun h' tk F' N' => by
  have e : (if b < a then b else a) = b := by split <;> omega
  rw [e]; exact h h' tk _ F' N'
end
/-- A def's call, its ledger cut in two: `news` is what it may turn; `rest` stands in the heap that it finds, unturned. -/
theorem code_part {prog : Program} {w : World} {A₀ A : Around} {s : Shared} {base h₀ : Heap} {outer : List Env} {L : Addr} {m mg mb : Str → Option Value} {env : Env} {news rest : List (Addr × Obj)} {K : Frag} {p : Program} {loose : List Str} {mean : ExcName → Option Value}
    {R : Result → Shared → Prop} {name qual : Str} {params : Arguments} {body : List Stmt} {scope : Scope} {dV kV doc pm cdv ct oc : Value} {an od : Option Addr} {osl : Array (Option Value)} {f : Addr} {args : Args} {binds : List (Str × Value)}
    (B : Below A₀ base outer h₀) (F : Fr h₀ L s.heap m) (X : K.In h₀) (N : News h₀ L s.heap (news ++ rest)) (hdis : ∀ q ∈ rest, q.1 ∉ news.map (·.1)) (T : Top p loose mean mg mb h₀)
    (hA : A.frames = some (env :: outer)) (hf : env.frame = some L) (hke : env.scope.kind = .function)
    (ho : K.lookup f = some ⟨oc, od, .func (fnOf name qual params body scope dV kV doc pm an cdv ct), osl⟩) (hcd : codeIn K cdv qual = true) (hroom : A.depth < recursionLimit)
    (hbind : BindsTo s (fnOf name qual params body scope dV kV doc pm an cdv ct) args binds) (hloc : ∀ y ∈ binds, scope.names.lookup y.1 = some .local)
    (h : ∀ g L' h₁, Fr h₀ L g m → Fr g L' h₁ (fun y => binds.reverse.lookup y) → News g L' h₁ news → Below A base (env :: outer) g → K.In g → Top p loose mean mg mb g → (∀ q ∈ rest, g.get? q.1 = some q.2) →
      wpAny (model prog w) (A.deeper (envOf qual scope L' f cdv)) (execs body (envOf qual scope L' f cdv))
        (fun fl s' => LeaveK h₀ L m g R (match fl with | .ret v => v | _ => .none) s')
        (fun e s' => wpAny (model prog w) (A.deeper (envOf qual scope L' f cdv)) (leaving (envOf qual scope L' f cdv) e) (fun _ s'' => R (.error e) s'') (fun e' s'' => R (.error e') s'') s')
        { s with heap := h₁, toks := s.toks + binds.length })
    (hco : scope.isCoroutine = false) (hgen : scope.isGenerator = false) (hk : scope.kind = .function)
    (hcell : ∀ x ∈ scope.names, x.2 ≠ .cell) : codeAny (model prog w) A (.call (.ref f) args) R s := by
  have N1 : News h₀ L s.heap news := fun q hq => N q (List.mem_append_left _ hq)
  have gx := groundX (R := R) B F N1 hA hf hke
  have st := gx.2.2.1
  have Xs := X.keeps F.keep
  refine codeAny_call_def (fd := fnX name qual params body scope [] dV kV doc pm an cdv ct) (body := body) (binds := binds) hroom (Xs _ _ ho) rfl (T.nolimit.keeps F.keep) (codeRec_of Xs hcd) rfl hbind hcell hloc (fun h₁ hns hk₁ => ?_) hco hgen hk
  refine wpAny_mono (h _ s.heap.objs.size h₁ gx.1 ⟨hns, fun b o e => hk₁ b o (of_hideAll _ e), Nat.le_of_eq (hideAll_size _ _)⟩ ?_ gx.2.1 (X.keeps st) (T.keeps st) ?_) (fun fl s' hl => gx.2.2.2 _ _ hl) fun _ _ y => y
  · exact fun q hq => ⟨hk₁ _ _ (N1 q hq).1, Nat.ne_of_lt (Heap.lt_size (N1 q hq).1), hideAll_none _ (List.mem_map_of_mem hq)⟩
  · exact fun q hq => hideAll_get _ (N q (List.mem_append_right _ hq)).1 (hdis q hq)
/-- The same for a def some of whose names are cells. -/
theorem code_partC {prog : Program} {w : World} {A₀ A : Around} {s : Shared} {base h₀ : Heap} {outer : List Env} {L : Addr} {m mg mb : Str → Option Value} {env : Env} {news rest : List (Addr × Obj)} {K : Frag} {p : Program} {loose : List Str} {mean : ExcName → Option Value}
    {R : Result → Shared → Prop} {name qual : Str} {params : Arguments} {body : List Stmt} {scope : Scope} {dV kV doc pm cdv ct oc : Value} {an od : Option Addr} {osl : Array (Option Value)} {f : Addr} {args : Args} {binds : List (Str × Value)}
    (B : Below A₀ base outer h₀) (F : Fr h₀ L s.heap m) (X : K.In h₀) (N : News h₀ L s.heap (news ++ rest)) (hdis : ∀ q ∈ rest, q.1 ∉ news.map (·.1)) (T : Top p loose mean mg mb h₀)
    (hA : A.frames = some (env :: outer)) (hf : env.frame = some L) (hke : env.scope.kind = .function)
    (ho : K.lookup f = some ⟨oc, od, .func (fnOf name qual params body scope dV kV doc pm an cdv ct), osl⟩) (hcd : codeIn K cdv qual = true) (hroom : A.depth < recursionLimit)
    (hbind : BindsTo s (fnOf name qual params body scope dV kV doc pm an cdv ct) args binds) (hkind : (binds.all fun y => scope.names.lookup y.1 == some .local || scope.names.lookup y.1 == some .cell) = true)
    (hnd : ((cellsFrom 0 scope.names []).map (·.1)).Nodup)
    (h : ∀ g L' h₁ tk cells, Fr h₀ L g m → Fr g L' h₁ (bindL (envOfC qual scope L' f cdv).kindOf binds fun _ => none) → News g L' h₁ (cells ++ news) →
      CellsAre (bindC (envOfC qual scope L' f cdv).kindOf binds fun _ => none) (cellsFrom (L' + 1) scope.names []) cells → Below A base (env :: outer) g → K.In g → Top p loose mean mg mb g → (∀ q ∈ news, q.1 < L') → (∀ q ∈ rest, g.get? q.1 = some q.2) →
      wpAny (model prog w) (A.deeper (envOfC qual scope L' f cdv)) (execs body (envOfC qual scope L' f cdv))
        (fun fl s' => LeaveK h₀ L m g R (match fl with | .ret v => v | _ => .none) s')
        (fun e s' => wpAny (model prog w) (A.deeper (envOfC qual scope L' f cdv)) (leaving (envOfC qual scope L' f cdv) e) (fun _ s'' => R (.error e) s'') (fun e' s'' => R (.error e') s'') s')
        { s with heap := h₁, toks := tk })
    (hco : scope.isCoroutine = false) (hgen : scope.isGenerator = false) (hk : scope.kind = .function) : codeAny (model prog w) A (.call (.ref f) args) R s := by
  have N1 : News h₀ L s.heap news := fun q hq => N q (List.mem_append_left _ hq)
  have gx := groundX (R := R) B F N1 hA hf hke
  have st := gx.2.2.1
  have Xs := X.keeps F.keep
  refine codeAny_call_function hroom (Xs _ _ ho) rfl hco hgen rfl (codeRec_of Xs hcd) (hbind _ _ _ _ ?_)
  refine wpAny_newFunctionEnv_cells hk (kindsX hkind _) fun env' he s' x => ?_
  subst he
  refine ⟨((T.nolimit).keeps F.keep).keeps x.toInCall.keep, codeAny_func ?_⟩
  obtain ⟨h₁, tk, es, _⟩ := x.done
  subst es
  have hk₁ := x.toInCall.keep
  obtain ⟨cells, NC, Y⟩ := Cl.news (h₀ := s.heap) (Nat.le_refl _) fun n c hm => ⟨x.cell n c (lookup_of_mem_nodup (cellsFrom_names scope.names 0 (s.heap.objs.size + 1) [] [] rfl ▸ hnd) hm), x.above n c hm⟩
  refine wpAny_mono (h _ s.heap.objs.size h₁ tk cells gx.1 ⟨x.toInCall.ns, fun b o e => hk₁ b o (of_hideAll _ e), Nat.le_of_eq (hideAll_size _ _)⟩ ?_ Y gx.2.1 (X.keeps st) (T.keeps st) (fun q hq => Heap.lt_size (N1 q hq).1) ?_) (fun fl s' hl => gx.2.2.2 _ _ hl) fun _ _ y => y
  · intro q hq
    rcases List.mem_append.mp hq with hq | hq
    · refine ⟨(NC q hq).1, (NC q hq).2.1, ?_⟩
      cases e : (hideAll s.heap (news.map (·.1))).get? q.1 with
      | none => rfl
      | some o => have := of_hideAll _ e; rw [(NC q hq).2.2] at this; cases this
    · exact ⟨hk₁ _ _ (N1 q hq).1, Nat.ne_of_lt (Heap.lt_size (N1 q hq).1), hideAll_none _ (List.mem_map_of_mem hq)⟩
  · exact fun q hq => hideAll_get _ (N q (List.mem_append_right _ hq)).1 (hdis q hq)
theorem part_back {h₀ g h : Heap} {L L' : Addr} {m' : Str → Option Value} {a b : List (Addr × Obj)} {h' : Heap} (N₀ : News h₀ L h' (a ++ b)) (hG : ∀ q ∈ b, g.get? q.1 = some q.2) (F : Fr g L' h m') : News h₀ L h b :=
  fun q hq => ⟨F.keep _ _ (hG q hq), (N₀ q (List.mem_append_right _ hq)).2⟩
theorem news_app {h₀ h : Heap} {L : Addr} {a b : List (Addr × Obj)} (N : News h₀ L h a) (N' : News h₀ L h b) : News h₀ L h (a ++ b) :=
  fun q hq => (List.mem_append.mp hq).elim (N q) (N' q)
/-- A call that reads one object of the ledger, `d`, and makes things. -/
def Adds (prog : Program) (w : World) (K : Frag) (p : Program) (loose : List Str) (mean : ExcName → Option Value) (mg mb : Str → Option Value)
    (r : Nat) (f : Addr) (vs : List Value) (d : Addr) (o : Obj) (Post : (Value → List (Addr × Obj) → Prop) → Prop) : Prop :=
  Mono Post ∧ ∀ rest, (∀ q ∈ rest, q.1 ≠ d) → Ready prog w K p loose mean mg mb r f vs ((d, o) :: rest) fun h₀ L s FrAt Q =>
    Post fun v add => ∀ h' tk', (∀ a ∈ add, ∀ q ∈ (d, o) :: rest, q.1 ≠ a.1) → FrAt h' → News h₀ L h' (add ++ (d, o) :: rest) → Q v { s with heap := h', toks := tk' }

theorem Adds.use {prog : Program} {w : World} {K : Frag} {p : Program} {loose : List Str} {mean : ExcName → Option Value} {mg mb : Str → Option Value}
    {r : Nat} {f : Addr} {vs : List Value} {news : List (Addr × Obj)} {d : Addr} {o : Obj} {Post : (Value → List (Addr × Obj) → Prop) → Prop}
    {dp un : Nat} {gd : Option (List Code)} {cn : Str} {cs : Scope} {a : Addr} {ccd : Value} {cl : List (Str × Addr)} {outer : List Env}
    {A₀ : Around} {base h₀ : Heap} {L : Addr} {m : Str → Option Value} {s : Shared} {Q E : Value → Shared → Prop}
    (C : Adds prog w K p loose mean mg mb r f vs d o Post) (hm : (d, o) ∈ news)
    (B : Below A₀ base outer h₀) (F : Fr h₀ L s.heap m) (X : K.In h₀) (N : News h₀ L s.heap news) (T : Top p loose mean mg mb h₀) (hk : cs.kind = .function)
    (hd : dp + r < recursionLimit) (hu : un + 10 * r < cLine)
    (ret : Post fun v add => ∀ h' tk', (∀ a ∈ add, ∀ q ∈ news, q.1 ≠ a.1) → Fr h₀ L h' m → News h₀ L h' (add ++ news) → Q v { s with heap := h', toks := tk' }) :
    wpAny (model prog w) (ktrTop dp un gd cn cs L a ccd cl outer) (call (.ref f) vs) Q E s := by
  unfold Adds at C
  obtain ⟨hmono, C⟩ := C
  have key : ∀ q ∈ news, q ∈ (d, o) :: news.filter (fun q => decide (q.1 ≠ d)) := by
    intro q hq
    by_cases e : q.1 = d
    · have h1 := (N q hq).1
      have h2 := (N _ hm).1
      rw [e] at h1
      have h3 : q.2 = o := Option.some.inj (h1.symm.trans h2)
      exact List.mem_cons.mpr (.inl (Prod.ext e h3))
    · exact List.mem_cons.mpr (.inr (List.mem_filter.mpr ⟨hq, by simpa using e⟩))
  refine C (news.filter fun q => decide (q.1 ≠ d)) (fun q hq => by simpa using (List.mem_filter.mp hq).2) dp un gd cn cs a ccd cl outer A₀ base h₀ L m s Q E B F X ?_ T hk hd hu (hmono _ _ ?_ ret)
  · intro q hq
    rcases List.mem_cons.mp hq with h | h
    · rw [h]; exact N _ hm
    · exact N q (List.mem_filter.mp h).1
  · intro v add ret h' tk' hf hF hN
    refine ret h' tk' (fun a ha q hq => hf a ha q (key q hq)) hF ?_
    intro q hq
    rcases List.mem_append.mp hq with h | h
    · exact hN q (List.mem_append_left _ h)
    · exact hN q (List.mem_append_right _ (key q h))

theorem adds_end {h₀ g h h₁ : Heap} {L L' d l : Addr} {m' : Str → Option Value} {o ol : Obj} {rest led : List (Addr × Obj)}
    (N₀ : News h₀ L h₁ ([(d, o)] ++ rest)) (hG : ∀ q ∈ rest, g.get? q.1 = some q.2) (F : Fr g L' h m') (N : News g L' h led) (k : News h₀ L h led)
    (hl : (l, ol) ∈ led) (hd : (d, o) ∈ led) (hne : d ≠ l) : (∀ a ∈ [(l, ol)], ∀ q ∈ (d, o) :: rest, q.1 ≠ a.1) ∧ News h₀ L h ([(l, ol)] ++ (d, o) :: rest) := by
  refine ⟨fun a ha q hq => ?_, fun q hq => ?_⟩
  · rw [List.mem_singleton.mp ha]
    rcases List.mem_cons.mp hq with e | e
    · rw [e]; exact hne
    · intro e'
      have h1 := hG q e
      have h2 := (N _ hl).2.2
      have e'' : q.1 = l := e'
      have h2' : g.get? l = none := h2
      rw [e'', h2'] at h1
      cases h1
  · rcases List.mem_append.mp hq with e | e
    · rw [List.mem_singleton.mp e]; exact k _ hl
    · rcases List.mem_cons.mp e with e | e
      · rw [e]; exact k _ hd
      · exact part_back N₀ hG F q e

theorem kro_one {q : Addr × Obj} {d : Addr} {news : List (Addr × Obj)} (h : q ∈ news) (hn : q.1 ≠ d) : ∀ p ∈ [q], p ∈ news ∧ p.1 ≠ d := by
  intro p hp
  rw [List.mem_singleton.mp hp]
  exact ⟨h, hn⟩
theorem news_drop4 {h₀ h : Heap} {L : Addr} {a b c d : Addr × Obj} {l : List (Addr × Obj)} (N : News h₀ L h (a :: b :: c :: d :: l)) : News h₀ L h l := fun q hq => N q (.tail _ (.tail _ (.tail _ (.tail _ hq))))
theorem bool_ret {Q : Value → Shared → Prop} {b : Bool} {s : Shared} (e : b = true) (h : Q (.bool true) s) : Q (.bool b) s := by rw [e]; exact h
theorem units_under_make (A : Around) (C : Addr) (vals : List Value) : (A.under (.builtin "type.__call__" ⟨.ref C :: vals, []⟩)).units = A.units + 1 := rfl
def R : RowW := PySem.Challenge.rw_sj0116_02.row.toRowW
def view : Program := { R.prog with main := { R.prog.main with body := ((R.prog.main.body.eraseIdx 22).eraseIdx 10).eraseIdx 1 } }
local macro_rules | `(tactic| o_head $H) => `(tactic| (refine holds_open (q := view) (loose := []) (Xt := fun s => xlAt view [] s && recOk (RowW.records R) s) (XP := XL view []) (Yf := Hook.obs $H) (Ya := Hook.val $H) (YP := Hook.says $H) (N := 3546) ?hl (Hook.of $H) (Hook.keeps $H) (fun s e => xl_of s (Bool.and_eq_true_iff.mp e).1) XL.keeps (by rfl) (by rfl) (by rfl) (fun s e => recFacts_of (Bool.and_eq_true_iff.mp e).2) (by rfl) (by first | assumption | decide +kernel) (by decide +kernel) ⟨rfl, rfl, rfl, rfl, rfl, by decide +kernel⟩ ?hw ?hc; (case hl => (intro w; kernel_rfl))))
open_top hd for PySem.Challenge.rw_sj0116_02
local macro_rules | `(tactic| k_room) => `(tactic| ((try simp only [depth_under_make, depth_under_kw, depth_in1, depth_deeper, depth_caller]); (try dsimp only [ktrTop]); omega))
local macro_rules | `(tactic| ktr_room) => `(tactic| k_room)
local macro_rules | `(tactic| k_units) => `(tactic| ((try simp only [units_in1, units_deeper, units_under_make, Around.mark_units, units_caller]); (try dsimp only [ktrTop]); (have hcL9 := cLine_is); omega))
local macro_rules | `(tactic| ktr_units) => `(tactic| k_units)
local macro_rules | `(tactic| k_all) => `(tactic| first | exact allLt_ne (by assumption) | exact lt_ne (by assumption) | exact lt_ne2 (by assumption) (by omega) | assumption)
local macro_rules | `(tactic| k_mem) => `(tactic| assumption)
local macro_rules | `(tactic| walk_at "ite") => `(tactic| (k_here; (with_reducible show ite (_ = true) _ _); first | (refine ite_neg (by simp only [decide_eq_true_eq, beq_iff_eq, bne_iff_ne, ne_eq, Decidable.not_not, gt_iff_lt, ge_iff_le] <;> omega) ?_) | (refine ite_pos (by simp only [decide_eq_true_eq, beq_iff_eq, bne_iff_ne, ne_eq, gt_iff_lt, ge_iff_le] <;> omega) ?_) | (refine' ite_neg ?hx ?_; (case hx => k_extra "iteno"))))
local macro_rules | `(tactic| walk_at "call builtin:max") => `(tactic| (k_here; (with_reducible show wpAny _ _ (call (Value.builtin _) [Value.int _ _, Value.int _ _]) _ _ _); k_dflt (first | (refine' max_l ?hab ?hh ?kF ?kN ?_; (case hab => omega); (case hh => with_unfolding_all rfl); (case kF => k_asm); (case kN => k_asm)) | (refine' max_r ?hab ?hh ?kF ?kN ?_; (case hab => omega); (case hh => with_unfolding_all rfl); (case kF => k_asm); (case kN => k_asm))); intro h' tk' t' F' N'; (try dsimp only); (try k_sweep)))
local macro_rules | `(tactic| walk_at "call builtin:min") => `(tactic| (k_here; (with_reducible show wpAny _ _ (call (Value.builtin _) [Value.int _ _, Value.int _ _]) _ _ _); k_dflt (first | (refine' min_l ?hab ?hh ?kF ?kN ?_; (case hab => omega); (case hh => with_unfolding_all rfl); (case kF => k_asm); (case kN => k_asm)) | (refine' min_r ?hab ?hh ?kF ?kN ?_; (case hab => omega); (case hh => with_unfolding_all rfl); (case kF => k_asm); (case kN => k_asm))); intro h' tk' t' F' N'; (try dsimp only); (try k_sweep)))
local macro_rules | `(tactic| k_steps) => `(tactic| repeat' (first | (k_unfold; (try dsimp only)) | (k_end; wrow_close) | ((with_reducible show wpAny _ _ (exec _ _) _ _ _); k_fold) | walk1 | (dsimp only; walk1) | (leave1; walk_say "STEP leave1"; try dsimp only) | fail "no step"))
/-! Defs -/
theorem walk_off_Defs : True := by (w_top off); trivial
abbrev P := PySem.Challenge.rw_sj0116_02.row.prog
abbrev Pure2 (w : World) (mean : ExcName → Option Value) (mg mb : Str → Option Value) (r : Nat) (f : Addr) (vs : List Value) (Post : (Value → Prop) → Prop) : Prop :=
  Pure P w (hd.heap_39 w.params) view (looseW view []) mean mg mb r f vs Post
abbrev Spec2 (w : World) (mean : ExcName → Option Value) (mg mb : Str → Option Value) (r : Nat) (f : Addr) (vs : List Value) (news : List (Addr × Obj)) (Post : (Value → List (Addr × Obj) → Prop) → Prop) : Prop :=
  Spec P w (hd.heap_39 w.params) view (looseW view []) mean mg mb r f vs news Post
abbrev Turns2 (w : World) (mean : ExcName → Option Value) (mg mb : Str → Option Value) (r : Nat) (f : Addr) (vs : List Value) (d : Addr) (o : Obj) (ro : List (Addr × Obj)) (Post : (Value → Obj → Prop) → Prop) : Prop :=
  Turns P w (hd.heap_39 w.params) view (looseW view []) mean mg mb r f vs d o ro Post
abbrev Adds2 (w : World) (mean : ExcName → Option Value) (mg mb : Str → Option Value) (r : Nat) (f : Addr) (vs : List Value) (d : Addr) (o : Obj) (Post : (Value → List (Addr × Obj) → Prop) → Prop) : Prop :=
  Adds P w (hd.heap_39 w.params) view (looseW view []) mean mg mb r f vs d o Post
/-! Drawn -/
theorem walk_off_Drawn : True := by (w_top off); trivial
theorem drawn {w : World} {mean : ExcName → Option Value} {mg mb : Str → Option Value} {box l : Addr} {nb nl : Nat} {vs : List Value} {ns : List Int} {k many : Int} {tk tm : Tok}
    (h0 : 0 < many) (h1 : 0 ≤ k) (h2 : k < 1000) (hv : IntsAre vs ns) (hlen : ns.length < 1000) :
    Turns2 w mean mg mb 3 257 [.ref box, .int many tm] box (listOf #[.ref l, .int k tk] nb) [(l, listOf vs.toArray nl)]
      (fun C => ∀ (x : Int) (t t' : Tok), 0 ≤ x → x < many → C (.int x t) (listOf #[.ref l, .int (k + 1) t'] nb)) := by
  unfold Turns2 Turns P
  refine ⟨fun C C' h p => by (dsimp only at p ⊢); intros; apply h; apply p <;> assumption, ?_⟩
  k_fill
  intro rest hr hro dp un gd cn cs a ccd cl outer A₀ base h₀ L m s Q E B F X N T hk hd hu hret
  have hx : (l, listOf vs.toArray nl) ∈ rest := hro _ (.head _)
  refine wpAny_call ?_
  k_dflt (refine' code_part (news := [(box, _)]) (rest := rest) ?k1 ?k2 ?k3 ?k4 ?kd ?k5 ?kA ?kF ?kK ?k6 ?k7 ?k8 ?k9 ?kB ?_ ?c2 ?c3 ?c4 ?c5; (case kA => exact rfl); (case kF => exact rfl); (case kK => assumption); (case k1 => k_asm); (case k2 => k_asm); (case k3 => k_asm); (case k4 => exact N); (case kd => exact (fun q hq hm => hr q hq (List.mem_singleton.mp hm))); (case k5 => k_asm); (case k6 => k_is); (case k7 => k_is); (case k8 => ktr_room); (case k9 => exact BindsTo.of_eq rfl); (case c5 => decide); (case kB => exact locs rfl); (case c2 => exact rfl); (case c3 => exact rfl); (case c4 => exact rfl); k_whole; intro g' L' h' FG' F' N' B' X' T' hG'; (try dsimp only); (try k_lift B'); (try k_fold))
  have hLs : g'.IsList l vs.toArray := ⟨_, hG' _ hx, rfl, _, rfl⟩
  k_steps
  all_goals (
    rename News _ _ _ _ => nE
    rename Fr g' _ _ _ => fG
    exact hret _ _ _ (Int.fmod_nonneg_of_pos _ h0) (Int.fmod_lt_of_pos _ h0) _ _ (by assumption) (news_app (a := [_]) nE (part_back (a := [_]) N hG' fG)))
local macro_rules | `(tactic| walk_at "call ref") => `(tactic| (k_here; (with_reducible show wpAny _ _ (call (Value.ref 257) _) _ _ _); k_dflt (refine' Turns.use (drawn ?h0 ?h1 ?h2 ?h3 ?h4) ?kU (kro_one ?km ?kn) ?kB ?kF ?kX ?kN ?kT ?kk ?kd ?ku ?_; (case kB => k_asm); (case kF => k_asm); (case kX => k_asm); (case kN => k_asm); (case kT => k_asm); (case kU => k_updF); (case km => k_mem); (case kn => k_ne); (case h0 => first | omega | decide); (case h1 => first | decide | omega); (case h2 => first | decide | omega); (case h3 => assumption); (case h4 => l_fit); (case kk => first | exact rfl | assumption); (case kd => k_room); (case ku => k_units); k_whole); intro x' t' t2' hx1' hx2' h' tk' F' N'; skip; (try dsimp only); (try k_fold); (try k_sweep)))
/-! Window -/
theorem walk_off_Window : True := by (w_top off); trivial
/-- what `cubic_window` gives back, x behind the curve's middle -/
def cw (d top x : Int) : Int := top + Int.fdiv (2 * d * x * x * x) 5000000000000000000
theorem cubicWin {w : World} {mean : ExcName → Option Value} {mg mb : Str → Option Value} {e k top d : Int} {te tk tt td : Tok}
    (h1 : -1000000000000 < e - k) (h2 : e - k < 1000000000000) (h3 : 0 < d) (h4 : d < 1000) :
    Pure2 w mean mg mb 2 147 [.int e te, .int k tk, .int top tt, .int d td] (fun C => ∀ t, C (.int (cw d top (e - k)) t)) := by
  unfold Pure2 Pure P
  k_fill
  intro news dp un gd cn cs a ccd cl outer A₀ base h₀ L m s Q E B F X N T hk hd hu hret
  refine wpAny_call ?_
  k_dflt cell_enter
  k_steps
  exact hret _ _ _ (by assumption) (by assumption)
local macro_rules | `(tactic| walk_at "call ref") => `(tactic| (k_here; (with_reducible show wpAny _ _ (call (Value.ref 147) _) _ _ _); k_dflt (refine' Pure.use (cubicWin ?h0 ?h1 ?h2 ?h3) ?kB ?kF ?kX ?kN ?kT ?kk ?kd ?ku ?_; (case kB => k_asm); (case kF => k_asm); (case kX => k_asm); (case kN => k_asm); (case kT => k_asm); (case h0 => first | omega | k_extra "cwLo"); (case h1 => first | omega | k_extra "cwHi"); (case h2 => omega); (case h3 => omega); (case kk => first | exact rfl | assumption); (case kd => k_room); (case ku => k_units); k_whole); intro t' h' tk' F' N'; skip; (try dsimp only); (try k_fold); (try k_sweep)))
/-! InitWin -/
theorem walk_off_InitWin : True := by (w_top off); trivial
theorem initWin {w : World} {mean : ExcName → Option Value} {mg mb : Str → Option Value} {d : Int} {td : Tok} (h0 : 0 < d) (h1 : d < 1000) :
    Pure2 w mean mg mb 2 28 [.int d td] (fun C => ∀ t, C (.int (10 * d) t)) := by
  unfold Pure2 Pure P
  k_fill
  intro news dp un gd cn cs a ccd cl outer A₀ base h₀ L m s Q E B F X N T hk hd hu hret
  refine wpAny_call ?_
  k_dflt cell_enter
  k_steps
  exact hret _ _ _ (by assumption) (by assumption)
local macro_rules | `(tactic| walk_at "call ref") => `(tactic| (k_here; (with_reducible show wpAny _ _ (call (Value.ref 28) _) _ _ _); k_dflt (refine' Pure.use (initWin ?h1 ?h2) ?kB ?kF ?kX ?kN ?kT ?kk ?kd ?ku ?_; (case h1 => omega); (case h2 => omega); (case kB => k_asm); (case kF => k_asm); (case kX => k_asm); (case kN => k_asm); (case kT => k_asm); (case kk => first | exact rfl | assumption); (case kd => k_room); (case ku => k_units); k_whole); intro t' h' tk' F' N'; (try dsimp only); (try k_fold); (try k_sweep)))
/-! Make -/
theorem walk_off_Make : True := by (w_top off); trivial
theorem makeCubic {w : World} {mean : ExcName → Option Value} {mg mb : Str → Option Value} {d : Int} {td : Tok} {news : List (Addr × Obj)} (h0 : 0 < d) (h1 : d < 1000) :
    Spec2 w mean mg mb 6 248 [.int d td] news (fun C => ∀ (x dx : Addr) (k0 k1 k2 k3 k4 k5 k6 k7 k8 k9 k10 k11 k12 k13 k14 t1 t4 t5 t6 t7 t12 t13 t14 : Tok), dx < x → (∀ p ∈ news, p.1 < dx) →
      C (.ref x) ((x, instObj 248 dx) :: (dx, (dictOf [{ hash := PyData.keyHash w.params (Str.ofString "datagram"), key := Value.str (Str.ofString "datagram") k0, val := .int d td }, { hash := PyData.keyHash w.params (Str.ofString "window"), key := Value.str (Str.ofString "window") k1, val := .int (10 * d) t1 }, { hash := PyData.keyHash w.params (Str.ofString "threshold"), key := Value.str (Str.ofString "threshold") k2, val := .none }, { hash := PyData.keyHash w.params (Str.ofString "recovery_at"), key := Value.str (Str.ofString "recovery_at") k3, val := .none }, { hash := PyData.keyHash w.params (Str.ofString "in_flight"), key := Value.str (Str.ofString "in_flight") k4, val := .int 0 t4 }, { hash := PyData.keyHash w.params (Str.ofString "credit"), key := Value.str (Str.ofString "credit") k5, val := .int 0 t5 }, { hash := PyData.keyHash w.params (Str.ofString "top_window"), key := Value.str (Str.ofString "top_window") k6, val := .int 0 t6 }, { hash := PyData.keyHash w.params (Str.ofString "prior_window"), key := Value.str (Str.ofString "prior_window") k7, val := .int 0 t7 }, { hash := PyData.keyHash w.params (Str.ofString "begun_at"), key := Value.str (Str.ofString "begun_at") k8, val := .none }, { hash := PyData.keyHash w.params (Str.ofString "idle_since"), key := Value.str (Str.ofString "idle_since") k9, val := .none }, { hash := PyData.keyHash w.params (Str.ofString "empty_since"), key := Value.str (Str.ofString "empty_since") k10, val := .none }, { hash := PyData.keyHash w.params (Str.ofString "seen_at"), key := Value.str (Str.ofString "seen_at") k11, val := .none }, { hash := PyData.keyHash w.params (Str.ofString "meets_after"), key := Value.str (Str.ofString "meets_after") k12, val := .int 0 t12 }, { hash := PyData.keyHash w.params (Str.ofString "friendly"), key := Value.str (Str.ofString "friendly") k13, val := .int 0 t13 }, { hash := PyData.keyHash w.params (Str.ofString "friendly_credit"), key := Value.str (Str.ofString "friendly_credit") k14, val := .int 0 t14 }] 15)) :: news)) := by
  unfold Spec2 Spec P
  k_fill
  intro dp un gd cn cs a ccd cl outer A₀ base h₀ L m s Q E B F X N T hk hd hu hret
  k_dflt (refine' call_cls ?k1 ?k2 ?k3 ?k4 ?k5 ?k6 ?_; (case k1 => k_asm); (case k2 => k_asm); (case k3 => k_asm); (case k4 => k_is); (case k5 => k_is); (case k6 => k_is); intro x' d' h' F' N' l1 l2; (try k_lt l1); (try k_lt2 l2); (try k_sweep))
  k_dflt cell_enter
  k_steps
  exact hret _ _ _ _ _ _ _ _ _ _ _ _ _ _ _ _ _ _ _ _ _ _ _ _ _ (by assumption) (by assumption) _ _ (by assumption) (by assumption)
local macro_rules | `(tactic| walk_at "call ref") => `(tactic| (k_here; (with_reducible show wpAny _ _ (call (Value.ref 248) _) _ _ _); k_dflt (refine' Spec.use (makeCubic ?h0 ?h1) ?kB ?kF ?kX ?kN ?kT ?kk ?kd ?ku ?_; (case kB => k_asm); (case kF => k_asm); (case kX => k_asm); (case kN => k_asm); (case kT => k_asm); (case h0 => omega); (case h1 => omega); (case kk => first | exact rfl | assumption); (case kd => k_room); (case ku => k_units); k_whole); intro x' d' k0 k1 k2 k3 k4 k5 k6 k7 k8 k9 k10 k11 k12 k13 k14 t1 t4 t5 t6 t7 t12 t13 t14 l2' l1' h' tk' F' N'; (try k_lt l1'); (try k_lt2 l2'); (try dsimp only); (try k_fold); (try k_sweep)))
/-! OnCong -/
theorem walk_off_OnCong : True := by (w_top off); trivial
theorem fdiv_is {x y q : Int} (hy : 0 < y) (h1 : q * y ≤ x) (h2 : x < q * y + y) : x.fdiv y = q := by
  rw [Int.fdiv_eq_ediv_of_nonneg _ (Int.le_of_lt hy)]
  have h3 := Int.mul_ediv_add_emod x y
  have h4 := Int.emod_nonneg x (Int.ne_of_gt hy)
  have h5 := Int.emod_lt_of_pos x hy
  generalize hq : x / y = z at *
  rcases Int.lt_trichotomy z q with h | h | h
  · have : y * (z + 1) ≤ y * q := Int.mul_le_mul_of_nonneg_left (by omega) (by omega)
    rw [Int.mul_add, Int.mul_one, Int.mul_comm y q] at this
    omega
  · exact h
  · have : y * (q + 1) ≤ y * z := Int.mul_le_mul_of_nonneg_left (by omega) (by omega)
    rw [Int.mul_add, Int.mul_one, Int.mul_comm y q] at this
    omega
/-- the window that a sender of window `top` is left -/
def lowOf (top : Int) : Int := 7 * top / 10
theorem lowOf_facts (top : Int) : 10 * lowOf top ≤ 7 * top ∧ 7 * top < 10 * lowOf top + 10 := by unfold lowOf; omega
theorem onCong {w : World} {mean : ExcName → Option Value} {mg mb : Str → Option Value} {d top fl : Int} {x dx : Addr} {k0 k1 k2 k3 k4 k5 k6 k7 k8 k9 k10 k11 k12 k13 k14 v0 v1 v4 v5 v6 v7 v11 v12 v13 v14 ts tn : Tok}
    (h0 : 0 < d) (h1 : d < 1000) (h2 : 40 * d ≤ top) (h3 : top < 1000000) (hne : dx < x) :
    Turns2 w mean mg mb 6 238 [.ref x, .int 3 ts, .int 4 tn] dx (dictOf [{ hash := PyData.keyHash w.params (Str.ofString "datagram"), key := Value.str (Str.ofString "datagram") k0, val := .int d v0 }, { hash := PyData.keyHash w.params (Str.ofString "window"), key := Value.str (Str.ofString "window") k1, val := .int top v1 }, { hash := PyData.keyHash w.params (Str.ofString "threshold"), key := Value.str (Str.ofString "threshold") k2, val := .none }, { hash := PyData.keyHash w.params (Str.ofString "recovery_at"), key := Value.str (Str.ofString "recovery_at") k3, val := .none }, { hash := PyData.keyHash w.params (Str.ofString "in_flight"), key := Value.str (Str.ofString "in_flight") k4, val := .int fl v4 }, { hash := PyData.keyHash w.params (Str.ofString "credit"), key := Value.str (Str.ofString "credit") k5, val := .int 0 v5 }, { hash := PyData.keyHash w.params (Str.ofString "top_window"), key := Value.str (Str.ofString "top_window") k6, val := .int 0 v6 }, { hash := PyData.keyHash w.params (Str.ofString "prior_window"), key := Value.str (Str.ofString "prior_window") k7, val := .int 0 v7 }, { hash := PyData.keyHash w.params (Str.ofString "begun_at"), key := Value.str (Str.ofString "begun_at") k8, val := .none }, { hash := PyData.keyHash w.params (Str.ofString "idle_since"), key := Value.str (Str.ofString "idle_since") k9, val := .none }, { hash := PyData.keyHash w.params (Str.ofString "empty_since"), key := Value.str (Str.ofString "empty_since") k10, val := .none }, { hash := PyData.keyHash w.params (Str.ofString "seen_at"), key := Value.str (Str.ofString "seen_at") k11, val := .int 2 v11 }, { hash := PyData.keyHash w.params (Str.ofString "meets_after"), key := Value.str (Str.ofString "meets_after") k12, val := .int 0 v12 }, { hash := PyData.keyHash w.params (Str.ofString "friendly"), key := Value.str (Str.ofString "friendly") k13, val := .int 0 v13 }, { hash := PyData.keyHash w.params (Str.ofString "friendly_credit"), key := Value.str (Str.ofString "friendly_credit") k14, val := .int 0 v14 }] 15) [(x, instObj 248 dx)]
      (fun C => ∀ (u1 u2 u5 : Tok),
        C .none ((dictOf [{ hash := PyData.keyHash w.params (Str.ofString "datagram"), key := Value.str (Str.ofString "datagram") k0, val := .int d v0 }, { hash := PyData.keyHash w.params (Str.ofString "window"), key := Value.str (Str.ofString "window") k1, val := .int (lowOf top) u1 }, { hash := PyData.keyHash w.params (Str.ofString "threshold"), key := Value.str (Str.ofString "threshold") k2, val := .int (lowOf top) u2 }, { hash := PyData.keyHash w.params (Str.ofString "recovery_at"), key := Value.str (Str.ofString "recovery_at") k3, val := .int 4 tn }, { hash := PyData.keyHash w.params (Str.ofString "in_flight"), key := Value.str (Str.ofString "in_flight") k4, val := .int fl v4 }, { hash := PyData.keyHash w.params (Str.ofString "credit"), key := Value.str (Str.ofString "credit") k5, val := .int 0 u5 }, { hash := PyData.keyHash w.params (Str.ofString "top_window"), key := Value.str (Str.ofString "top_window") k6, val := .int top v1 }, { hash := PyData.keyHash w.params (Str.ofString "prior_window"), key := Value.str (Str.ofString "prior_window") k7, val := .int top v1 }, { hash := PyData.keyHash w.params (Str.ofString "begun_at"), key := Value.str (Str.ofString "begun_at") k8, val := .none }, { hash := PyData.keyHash w.params (Str.ofString "idle_since"), key := Value.str (Str.ofString "idle_since") k9, val := .none }, { hash := PyData.keyHash w.params (Str.ofString "empty_since"), key := Value.str (Str.ofString "empty_since") k10, val := .none }, { hash := PyData.keyHash w.params (Str.ofString "seen_at"), key := Value.str (Str.ofString "seen_at") k11, val := .int 2 v11 }, { hash := PyData.keyHash w.params (Str.ofString "meets_after"), key := Value.str (Str.ofString "meets_after") k12, val := .int 0 v12 }, { hash := PyData.keyHash w.params (Str.ofString "friendly"), key := Value.str (Str.ofString "friendly") k13, val := .int 0 v13 }, { hash := PyData.keyHash w.params (Str.ofString "friendly_credit"), key := Value.str (Str.ofString "friendly_credit") k14, val := .int 0 v14 }] 15))) := by
  have hl := lowOf_facts top
  have e1 : (top * 7).fdiv 10 = lowOf top := fdiv_is (by omega) (by omega) (by omega)
  unfold Turns2 Turns P
  refine ⟨fun C C' h p => by (dsimp only at p ⊢); intros; apply h; apply p <;> assumption, ?_⟩
  k_fill
  intro rest hr hro dp un gd cn cs a ccd cl outer A₀ base h₀ L m s Q E B F X N T hk hd hu hret
  have hx : (x, instObj 248 dx) ∈ rest := hro _ (.head _)
  refine wpAny_call ?_
  k_dflt cell_enter
  k_steps
  rename News _ _ _ _ => nE
  simp only [e1] at nE
  exact hret _ _ _ _ _ (by assumption) nE
local macro_rules | `(tactic| walk_at "call ref") => `(tactic| (k_here; (with_reducible show wpAny _ _ (call (Value.ref 238) _) _ _ _); k_dflt (refine' Turns.use (onCong ?h0 ?h1 ?h2 ?h3 ?h4) ?kU (kro_one ?km ?kn) ?kB ?kF ?kX ?kN ?kT ?kk ?kd ?ku ?_; (case kB => k_asm); (case kF => k_asm); (case kX => k_asm); (case kN => k_asm); (case kT => k_asm); (case km => k_mem); (case kU => k_updF); (case kn => k_ne); (case h0 => omega); (case h1 => omega); (case h2 => omega); (case h3 => omega); (case h4 => omega); (case kk => first | exact rfl | assumption); (case kd => k_room); (case ku => k_units); k_whole); intro u1 u2 u5 h' tk' F' N'; skip; (try dsimp only); (try k_fold); (try k_sweep)))
/-! Root -/
theorem walk_off_Root : True := by (w_top off); trivial
theorem cube_le_of {a b : Int} (h0 : 0 ≤ a) (h : a ≤ b) : a * a * a ≤ b * b * b := by
  have hb : 0 ≤ b := Int.le_trans h0 h
  have h1 : a * a ≤ b * b := Int.mul_le_mul h h h0 hb
  exact Int.mul_le_mul h1 h h0 (Int.mul_nonneg hb hb)
theorem lt_of_cube {a b : Int} (h0 : 0 ≤ b) (h : a * a * a < b * b * b) : a < b := by
  rcases Int.lt_or_le a b with q | q
  · exact q
  · exact absurd (cube_le_of h0 q) (Int.not_le.mpr h)
theorem le_cube {a : Int} (h : 1 ≤ a) : a ≤ a * a * a := by
  have h1 : 1 * 1 ≤ a * a := Int.mul_le_mul h h (by decide) (by omega)
  have h2 : 1 * a ≤ a * a * a := Int.mul_le_mul_of_nonneg_right (by omega) (by omega)
  omega
theorem cr1 {h n : Int} (h1 : 1 ≤ h) (hn : n < 1267650600228229401496703205376) (h2 : h * h * h ≤ n) : 1 ≤ 2 * h ∧ 2 * h ≤ 68719476736 := by
  have : h < 34359738368 := lt_of_cube (by decide) (Int.lt_of_le_of_lt h2 (by omega))
  omega
theorem cm1 {h n : Int} (h1 : 1 ≤ h) (h2 : h * h * h ≤ n) : (n + 1 - 2 * h).toNat < (n + 1 - h).toNat := by
  have := le_cube h1
  omega
theorem mid_facts {l h : Int} (h0 : 0 ≤ l) (h1 : 1 < h - l) : l < (l + h).fdiv 2 ∧ (l + h).fdiv 2 < h := by
  rw [Int.fdiv_eq_ediv_of_nonneg _ (by decide)]
  omega
theorem cr2 {l h n B : Int} (h0 : 0 ≤ l) (h1 : l < h) (h2 : h ≤ B) (h4 : n < h * h * h) (h5 : 1 < h - l) (h6 : (l + h).fdiv 2 * (l + h).fdiv 2 * (l + h).fdiv 2 ≤ n) :
    0 ≤ (l + h).fdiv 2 ∧ (l + h).fdiv 2 < h ∧ h ≤ B ∧ (l + h).fdiv 2 * (l + h).fdiv 2 * (l + h).fdiv 2 ≤ n ∧ n < h * h * h := by
  have := mid_facts h0 h5
  exact ⟨by omega, by omega, h2, h6, h4⟩
theorem cr3 {l h n B : Int} (h0 : 0 ≤ l) (h1 : l < h) (h2 : h ≤ B) (h3 : l * l * l ≤ n) (h5 : 1 < h - l) (h6 : ¬ (l + h).fdiv 2 * (l + h).fdiv 2 * (l + h).fdiv 2 ≤ n) :
    0 ≤ l ∧ l < (l + h).fdiv 2 ∧ (l + h).fdiv 2 ≤ B ∧ l * l * l ≤ n ∧ n < (l + h).fdiv 2 * (l + h).fdiv 2 * (l + h).fdiv 2 := by
  have := mid_facts h0 h5
  exact ⟨h0, by omega, by omega, h3, by omega⟩
theorem cm2 {l h : Int} (h0 : 0 ≤ l) (h5 : 1 < h - l) : (h - (l + h).fdiv 2).toNat < (h - l).toNat := by
  have := mid_facts h0 h5
  omega
theorem cm3 {l h : Int} (h0 : 0 ≤ l) (h5 : 1 < h - l) : ((l + h).fdiv 2 - l).toNat < (h - l).toNat := by
  have := mid_facts h0 h5
  omega
theorem cr_end {l h n : Int} (h1 : l < h) (h4 : n < h * h * h) (h5 : ¬ 1 < h - l) : n < (l + 1) * (l + 1) * (l + 1) := by
  have : h = l + 1 := by omega
  rw [← this]; exact h4
/-- r is the whole part of n's cube root -/
def IsRoot (n r : Int) : Prop := 0 ≤ r ∧ r * r * r ≤ n ∧ n < (r + 1) * (r + 1) * (r + 1)
theorem root_unique {n r q : Int} (h : IsRoot n r) (k : IsRoot n q) : r = q := by
  have h1 : r < q + 1 := lt_of_cube (by have := k.1; omega) (Int.lt_of_le_of_lt h.2.1 k.2.2)
  have h2 : q < r + 1 := lt_of_cube (by have := h.1; omega) (Int.lt_of_le_of_lt k.2.1 h.2.2)
  omega
open Classical in
/-- the whole part of n's cube root -/
noncomputable def croot (n : Int) : Int := if h : ∃ r, IsRoot n r then h.choose else 0
theorem croot_of {n r : Int} (h : IsRoot n r) : croot n = r := by
  have hx : ∃ r, IsRoot n r := ⟨r, h⟩
  unfold croot
  rw [dif_pos hx]
  exact root_unique hx.choose_spec h
theorem cubeRoot {w : World} {mean : ExcName → Option Value} {mg mb : Str → Option Value} {n : Int} {tn : Tok} (h0 : 0 ≤ n) (h1 : n < 1267650600228229401496703205376) :
    Pure2 w mean mg mb 2 133 [.int n tn] (fun C => ∀ t, IsRoot n (croot n) → C (.int (croot n) t)) := by
  unfold Pure2 Pure P
  k_fill
  intro news dp un gd cn cs a ccd cl outer A₀ base h₀ L m s Q E B F X N T hk hd hu hret
  refine wpAny_call ?_
  k_dflt cell_enter
  k_with "exec While Compare cons nil" => k_while (fun _ high => 1 ≤ high ∧ high ≤ 68719476736) (fun _ high => (n + 1 - high).toNat) "high"
  k_with "exec While Compare cons nil" => k_while (fun _ low high => 0 ≤ low ∧ low < high ∧ high ≤ 68719476736 ∧ low * low * low ≤ n ∧ n < high * high * high) (fun _ low high => (high - low).toNat) "low" "high"
  k_with "state" => first | exact cr1 (by assumption) (by assumption) (by assumption) | exact cr2 (by assumption) (by assumption) (by assumption) (by assumption) (by assumption) (by assumption) | exact cr3 (by assumption) (by assumption) (by assumption) (by assumption) (by assumption) (by assumption)
  k_with "measure" => first | exact cm1 (by assumption) (by assumption) | exact cm2 (by assumption) (by assumption) | exact cm3 (by assumption) (by assumption)
  k_steps
  k_with_none
  rename News _ _ _ _ => nE
  have hroot := croot_of ⟨by assumption, by assumption, cr_end (by assumption) (by assumption) (by assumption)⟩
  rw [← hroot]
  exact hret _ (hroot ▸ ⟨by assumption, by assumption, cr_end (by assumption) (by assumption) (by assumption)⟩) _ _ (by assumption) (fun p hp => nE p (.tail _ hp))
local macro_rules | `(tactic| walk_at "call ref") => `(tactic| (k_here; (with_reducible show wpAny _ _ (call (Value.ref 133) _) _ _ _); k_dflt (refine' Pure.use (cubeRoot ?h1 ?h2) ?kB ?kF ?kX ?kN ?kT ?kk ?kd ?ku ?_; (case h1 => first | assumption | omega); (case h2 => first | assumption | omega); (case kB => k_asm); (case kF => k_asm); (case kX => k_asm); (case kN => k_asm); (case kT => k_asm); (case kk => first | exact rfl | assumption); (case kd => k_room); (case ku => k_units); k_whole); intro t' hr' h' tk' F' N'; (try dsimp only); (try k_fold); (try k_sweep)))
/-! Time -/
theorem walk_off_Time : True := by (w_top off); trivial
theorem fdiv_pos_bound {x y : Int} (h0 : 0 ≤ x) (hy : 0 < y) : 0 ≤ x.fdiv y ∧ x.fdiv y ≤ x := by
  rw [Int.fdiv_eq_ediv_of_nonneg _ (by omega)]
  exact ⟨Int.ediv_nonneg h0 (by omega), Int.ediv_le_self _ h0⟩
/-- what `cubic_time` takes the cube root of -/
def timeOf (gap d : Int) : Int := (gap * 5 * 1000000 * 1000000 * 1000000).fdiv (2 * d)
theorem timeOf_bound {gap d : Int} (h0 : 0 ≤ gap) (h1 : gap < 10000000) (hd : 0 < d) : 0 ≤ timeOf gap d ∧ timeOf gap d < 1267650600228229401496703205376 := by
  have := fdiv_pos_bound (x := gap * 5 * 1000000 * 1000000 * 1000000) (y := 2 * d) (by omega) (by omega)
  unfold timeOf
  omega
theorem cubicTime {w : World} {mean : ExcName → Option Value} {mg mb : Str → Option Value} {top win d : Int} {tt tw td : Tok}
    (h0 : win < top) (h1 : top - win < 10000000) (h2 : 0 < d) (h3 : d < 1000) :
    Pure2 w mean mg mb 4 140 [.int top tt, .int win tw, .int d td] (fun C => ∀ t, IsRoot (timeOf (top - win) d) (croot (timeOf (top - win) d)) → C (.int (croot (timeOf (top - win) d)) t)) := by
  have hb := timeOf_bound (gap := top - win) (d := d) (by omega) h1 h2
  have hb1 : 0 ≤ ((top - win) * 5 * 1000000 * 1000000 * 1000000).fdiv (2 * d) := hb.1
  have hb2 : ((top - win) * 5 * 1000000 * 1000000 * 1000000).fdiv (2 * d) < 1267650600228229401496703205376 := hb.2
  clear hb
  unfold Pure2 Pure P
  k_fill
  intro news dp un gd cn cs a ccd cl outer A₀ base h₀ L m s Q E B F X N T hk hd hu hret
  refine wpAny_call ?_
  k_dflt cell_enter
  k_steps
  exact hret _ (by assumption) _ _ (by assumption) (by assumption)
local macro_rules | `(tactic| walk_at "call ref") => `(tactic| (k_here; (with_reducible show wpAny _ _ (call (Value.ref 140) _) _ _ _); k_dflt (refine' Pure.use (cubicTime ?h1 ?h2 ?h3 ?h4) ?kB ?kF ?kX ?kN ?kT ?kk ?kd ?ku ?_; (case h1 => omega); (case h2 => omega); (case h3 => omega); (case h4 => omega); (case kB => k_asm); (case kF => k_asm); (case kX => k_asm); (case kN => k_asm); (case kT => k_asm); (case kk => first | exact rfl | assumption); (case kd => k_room); (case ku => k_units); k_whole); intro t' hr' h' tk' F' N'; (try dsimp only); (try k_fold); (try k_sweep)))
/-! Sender -/
theorem walk_off_Sender : True := by (w_top off); trivial
/-- the time at which the curve comes to its middle -/
noncomputable def meetsOf (d top : Int) : Int := croot (timeOf (top - lowOf top) d)
theorem lawSender {w : World} {mean : ExcName → Option Value} {mg mb : Str → Option Value} {d g : Int} {td tg : Tok} {news : List (Addr × Obj)} (h0 : 10 ≤ d) (h1 : d < 50) (h2 : d * 30 ≤ g) (h3 : g < d * 90) :
    Spec2 w mean mg mb 12 264 [.int d td, .int g tg] news (fun C => ∀ (x dx : Addr) (k0 k1 k2 k3 k4 k5 k6 k7 k8 k9 k10 k11 k12 k13 k14 t0 t1 t2 t3 t4 t5 t6 t7 t8 t11 t12 t13 t14 : Tok), dx < x → (∀ p ∈ news, p.1 < dx) → 10 * lowOf (10 * d + g) ≤ 7 * (10 * d + g) → 7 * (10 * d + g) < 10 * lowOf (10 * d + g) + 10 →
      C (.ref x) ((x, instObj 248 dx) :: (dx, (dictOf [{ hash := PyData.keyHash w.params (Str.ofString "datagram"), key := Value.str (Str.ofString "datagram") k0, val := .int d t0 }, { hash := PyData.keyHash w.params (Str.ofString "window"), key := Value.str (Str.ofString "window") k1, val := .int (lowOf (10 * d + g)) t1 }, { hash := PyData.keyHash w.params (Str.ofString "threshold"), key := Value.str (Str.ofString "threshold") k2, val := .int (lowOf (10 * d + g)) t2 }, { hash := PyData.keyHash w.params (Str.ofString "recovery_at"), key := Value.str (Str.ofString "recovery_at") k3, val := .int 4 t3 }, { hash := PyData.keyHash w.params (Str.ofString "in_flight"), key := Value.str (Str.ofString "in_flight") k4, val := .int (0 + 9 * (10 * d + g) - g) t4 }, { hash := PyData.keyHash w.params (Str.ofString "credit"), key := Value.str (Str.ofString "credit") k5, val := .int 0 t5 }, { hash := PyData.keyHash w.params (Str.ofString "top_window"), key := Value.str (Str.ofString "top_window") k6, val := .int (10 * d + g) t6 }, { hash := PyData.keyHash w.params (Str.ofString "prior_window"), key := Value.str (Str.ofString "prior_window") k7, val := .int (10 * d + g) t7 }, { hash := PyData.keyHash w.params (Str.ofString "begun_at"), key := Value.str (Str.ofString "begun_at") k8, val := .int 1000 t8 }, { hash := PyData.keyHash w.params (Str.ofString "idle_since"), key := Value.str (Str.ofString "idle_since") k9, val := .none }, { hash := PyData.keyHash w.params (Str.ofString "empty_since"), key := Value.str (Str.ofString "empty_since") k10, val := .none }, { hash := PyData.keyHash w.params (Str.ofString "seen_at"), key := Value.str (Str.ofString "seen_at") k11, val := .int 2 t11 }, { hash := PyData.keyHash w.params (Str.ofString "meets_after"), key := Value.str (Str.ofString "meets_after") k12, val := .int (meetsOf d (10 * d + g)) t12 }, { hash := PyData.keyHash w.params (Str.ofString "friendly"), key := Value.str (Str.ofString "friendly") k13, val := .int (lowOf (10 * d + g)) t13 }, { hash := PyData.keyHash w.params (Str.ofString "friendly_credit"), key := Value.str (Str.ofString "friendly_credit") k14, val := .int 0 t14 }] 15)) :: news)) := by
  have hl := lowOf_facts (10 * d + g)
  unfold Spec2 Spec P
  k_fill
  intro dp un gd cn cs a ccd cl outer A₀ base h₀ L m s Q E B F X N T hk hd hu hret
  refine wpAny_call ?_
  k_dflt cell_enter
  k_steps
  exact hret _ _ _ _ _ _ _ _ _ _ _ _ _ _ _ _ _ _ _ _ _ _ _ _ _ _ _ _ _ _ (by assumption) (by assumption) hl.1 hl.2 _ _ (by assumption) (by assumption)
local macro_rules | `(tactic| walk_at "call ref") => `(tactic| (k_here; (with_reducible show wpAny _ _ (call (Value.ref 264) _) _ _ _); k_dflt (refine' Spec.use (lawSender ?h0 ?h1 ?h2 ?h3) ?kB ?kF ?kX ?kN ?kT ?kk ?kd ?ku ?_; (case kB => k_asm); (case kF => k_asm); (case kX => k_asm); (case kN => k_asm); (case kT => k_asm); (case h0 => omega); (case h1 => omega); (case h2 => omega); (case h3 => omega); (case kk => first | exact rfl | assumption); (case kd => k_room); (case ku => k_units); k_whole); intro x' d' k0 k1 k2 k3 k4 k5 k6 k7 k8 k9 k10 k11 k12 k13 k14 t0 t1 t2 t3 t4 t5 t6 t7 t8 t11 t12 t13 t14 l2' l1' hlow1' hlow2' h' tk' F' N'; (try k_lt l1'); (try k_lt2 l2'); (try dsimp only); (try k_fold); (try k_sweep)))
/-! Scales -/
theorem walk_off_Scales : True := by (w_top off); trivial
theorem timeOf_many {many gap d : Int} (hm : 0 < many) (hd : 0 < d) : timeOf (many * gap) (many * d) = timeOf gap d := by
  have hp : 0 < many * d := Int.mul_pos hm hd
  unfold timeOf
  rw [Int.fdiv_eq_ediv_of_nonneg _ (by omega), Int.fdiv_eq_ediv_of_nonneg _ (by omega)]
  have e1 : many * gap * 5 * 1000000 * 1000000 * 1000000 = many * (gap * 5 * 1000000 * 1000000 * 1000000) := by grind
  have e2 : 2 * (many * d) = many * (2 * d) := by grind
  rw [e1, e2, Int.mul_ediv_mul_of_pos _ _ hm]
theorem timeOf_eight {gap d : Int} (hd : 0 < d) : 8 * timeOf gap d ≤ timeOf (8 * gap) d ∧ timeOf (8 * gap) d < 8 * timeOf gap d + 8 := by
  unfold timeOf
  rw [Int.fdiv_eq_ediv_of_nonneg _ (by omega), Int.fdiv_eq_ediv_of_nonneg _ (by omega)]
  have e1 : 8 * gap * 5 * 1000000 * 1000000 * 1000000 = 8 * (gap * 5 * 1000000 * 1000000 * 1000000) := by grind
  rw [e1]
  generalize gap * 5 * 1000000 * 1000000 * 1000000 = z
  have hy : 0 < 2 * d := by omega
  generalize 2 * d = y at *
  have a := Int.mul_ediv_add_emod z y
  have b := Int.emod_nonneg z (show y ≠ 0 by omega)
  have c := Int.emod_lt_of_pos z hy
  have a8 := Int.mul_ediv_add_emod (8 * z) y
  have b8 := Int.emod_nonneg (8 * z) (show y ≠ 0 by omega)
  have c8 := Int.emod_lt_of_pos (8 * z) hy
  generalize z / y = p at *
  generalize (8 * z) / y = q at *
  constructor
  · rcases Int.lt_or_le q (8 * p) with h | h
    · have h1 : y * (q + 1) ≤ y * (8 * p) := Int.mul_le_mul_of_nonneg_left (by omega) (by omega)
      have e2 : y * (8 * p) = 8 * (y * p) := by grind
      rw [Int.mul_add, Int.mul_one, e2] at h1
      omega
    · exact h
  · rcases Int.lt_or_le q (8 * p + 8) with h | h
    · exact h
    · have h1 : y * (8 * p + 8) ≤ y * q := Int.mul_le_mul_of_nonneg_left (by omega) (by omega)
      have e2 : y * (8 * p + 8) = 8 * (y * p) + 8 * y := by grind
      rw [e2] at h1
      omega
theorem root_eight {n m r q : Int} (h1 : 8 * n ≤ m) (h2 : m < 8 * n + 8) (hr : IsRoot n r) (hq : IsRoot m q) : q - 2 * r = 0 ∨ q - 2 * r = 1 := by
  obtain ⟨a1, a2, a3⟩ := hr
  obtain ⟨b1, b2, b3⟩ := hq
  have e1 : (2 * r) * (2 * r) * (2 * r) = 8 * (r * r * r) := by grind
  have e2 : (2 * r + 2) * (2 * r + 2) * (2 * r + 2) = 8 * ((r + 1) * (r + 1) * (r + 1)) := by grind
  have k1 : 2 * r < q + 1 := lt_of_cube (by omega) (by rw [e1]; omega)
  have k2 : q < 2 * r + 2 := lt_of_cube (by omega) (by rw [e2]; omega)
  omega
theorem cw_many {many d top x : Int} (hm : 0 < many) : many * cw d top x ≤ cw (many * d) (many * top) x ∧ cw (many * d) (many * top) x < many * cw d top x + many := by
  have e1 : 2 * (many * d) * x * x * x = many * (2 * d * x * x * x) := by grind
  unfold cw
  rw [e1, Int.fdiv_eq_ediv_of_nonneg _ (by decide), Int.fdiv_eq_ediv_of_nonneg _ (by decide), Int.mul_add]
  generalize 2 * d * x * x * x = z
  have a := Int.mul_ediv_add_emod z 5000000000000000000
  have b := Int.emod_nonneg z (show (5000000000000000000 : Int) ≠ 0 by decide)
  have c := Int.emod_lt_of_pos z (show (0 : Int) < 5000000000000000000 by decide)
  have a8 := Int.mul_ediv_add_emod (many * z) 5000000000000000000
  have b8 := Int.emod_nonneg (many * z) (show (5000000000000000000 : Int) ≠ 0 by decide)
  have c8 := Int.emod_lt_of_pos (many * z) (show (0 : Int) < 5000000000000000000 by decide)
  have e3 : many * z = 5000000000000000000 * (many * (z / 5000000000000000000)) + many * (z % 5000000000000000000) := by
    rw [← a]
    generalize hq : (5000000000000000000 * (z / 5000000000000000000) + z % 5000000000000000000) / 5000000000000000000 = q'
    have : q' = z / 5000000000000000000 := by rw [← hq, a]
    generalize hr : (5000000000000000000 * (z / 5000000000000000000) + z % 5000000000000000000) % 5000000000000000000 = r'
    have : r' = z % 5000000000000000000 := by rw [← hr, a]
    grind
  have k1 : 0 ≤ many * (z % 5000000000000000000) := Int.mul_nonneg (by omega) b
  have k2 : many * (z % 5000000000000000000) ≤ many * 4999999999999999999 := Int.mul_le_mul_of_nonneg_left (by omega) (by omega)
  generalize many * (z / 5000000000000000000) = p at *
  generalize (many * z) / 5000000000000000000 = q at *
  generalize many * (z % 5000000000000000000) = r at *
  omega
theorem croot_spec {n : Int} (h : ∃ r, IsRoot n r) : IsRoot n (croot n) := by
  obtain ⟨r, hr⟩ := h
  rw [croot_of hr]; exact hr
theorem lawScales {w : World} {mean : ExcName → Option Value} {mg mb : Str → Option Value} {top d att many : Int} {u0 u1 u2 u3 u4 u5 : Tok}
    (hr : IsRoot (timeOf (top - lowOf top) d) (meetsOf d top)) (h1 : 10 ≤ d) (h2 : d < 50) (h3 : 40 * d ≤ top) (h4 : top < 5000) (h5 : -2000000 ≤ att) (h6 : att ≤ 2000000) (h7 : 2 ≤ many) (h8 : many ≤ 6) :
    Pure2 w mean mg mb 8 283 [.int (meetsOf d top) u0, .int top u1, .int (lowOf top) u2, .int d u3, .int att u4, .int many u5] (fun C => C (.bool true)) := by
  have hl := lowOf_facts top
  have f0 : many * top - many * lowOf top = many * (top - lowOf top) := by grind
  have f1 : 0 < many * (top - lowOf top) := Int.mul_pos (by omega) (by omega)
  have f2 : many * (top - lowOf top) ≤ 6 * 5000 := Int.mul_le_mul h8 (by omega) (by omega) (by omega)
  have f3 : 0 < many * d := Int.mul_pos (by omega) (by omega)
  have f4 : many * d ≤ 6 * 50 := Int.mul_le_mul h8 (by omega) (by omega) (by omega)
  have f5 : croot (timeOf (many * top - many * lowOf top) (many * d)) = meetsOf d top := by
    rw [f0, timeOf_many (by omega) (by omega)]; rfl
  have f6 := cw_many (many := many) (d := d) (top := top) (x := meetsOf d top + att - meetsOf d top) (by omega)
  have f7 : timeOf (lowOf top + 8 * (top - lowOf top) - lowOf top) d = timeOf (8 * (top - lowOf top)) d := congrArg (fun z => timeOf z d) (by omega)
  have f8 := timeOf_eight (gap := top - lowOf top) (d := d) (by omega)
  unfold Pure2 Pure P
  k_fill
  intro news dp un gd cn cs a ccd cl outer A₀ base h₀ L m s Q E B F X N T hk hd hu hret
  refine wpAny_call ?_
  k_dflt cell_enter
  k_steps
  have hroot8 : IsRoot (timeOf (8 * (top - lowOf top)) d) (croot (timeOf (lowOf top + 8 * (top - lowOf top) - lowOf top) d)) := by
    rw [← f7]; assumption
  have hz := root_eight f8.1 f8.2 hr hroot8
  rename News _ _ _ _ => nE
  refine bool_ret ?_ (hret _ _ (by assumption) (fun p hp => nE p (.tail _ hp)))
  rcases hz with e | e <;> rw [e] <;> decide
/-! IsCubic -/
theorem walk_off_IsCubic : True := by (w_top off); trivial
theorem cw_rem (d top x : Int) : ∃ r, 0 ≤ r ∧ r < 5000000000000000000 ∧ 5000000000000000000 * (cw d top x - top) = 2 * d * x * x * x - r := by
  refine ⟨(2 * d * x * x * x) % 5000000000000000000, Int.emod_nonneg _ (by decide), Int.emod_lt_of_pos _ (by decide), ?_⟩
  have h := Int.mul_ediv_add_emod (2 * d * x * x * x) 5000000000000000000
  unfold cw
  rw [Int.fdiv_eq_ediv_of_nonneg _ (by decide)]
  omega
theorem third_law (d top m a s t : Int) (ht : t = 5 * 10 ^ Int.toNat 18 * (cw d top (m + a + (0 + 3) * s - m) - 3 * cw d top (m + a + (0 + 2) * s - m) + 3 * cw d top (m + a + (0 + 1) * s - m) - cw d top (m + a + (0 + 0) * s - m)) - 12 * d * s ^ Int.toNat 3) :
    -(20 * 10 ^ Int.toNat 18) < t ∧ t < 20 * 10 ^ Int.toNat 18 := by
  subst ht
  obtain ⟨r3, a3, b3, e3⟩ := cw_rem d top (m + a + (0 + 3) * s - m)
  obtain ⟨r2, a2, b2, e2⟩ := cw_rem d top (m + a + (0 + 2) * s - m)
  obtain ⟨r1, a1, b1, e1⟩ := cw_rem d top (m + a + (0 + 1) * s - m)
  obtain ⟨r0, a0, b0, e0⟩ := cw_rem d top (m + a + (0 + 0) * s - m)
  have key : 2 * d * (m + a + (0 + 3) * s - m) * (m + a + (0 + 3) * s - m) * (m + a + (0 + 3) * s - m) - 3 * (2 * d * (m + a + (0 + 2) * s - m) * (m + a + (0 + 2) * s - m) * (m + a + (0 + 2) * s - m))
      + 3 * (2 * d * (m + a + (0 + 1) * s - m) * (m + a + (0 + 1) * s - m) * (m + a + (0 + 1) * s - m)) - 2 * d * (m + a + (0 + 0) * s - m) * (m + a + (0 + 0) * s - m) * (m + a + (0 + 0) * s - m) = 12 * d * s ^ 3 := by grind
  have e18 : (5 : Int) * 10 ^ Int.toNat 18 = 5000000000000000000 := by decide
  have e20 : (20 : Int) * 10 ^ Int.toNat 18 = 20000000000000000000 := by decide
  have es : s ^ Int.toNat 3 = s ^ 3 := rfl
  rw [e18, e20, es]
  generalize cw d top (m + a + (0 + 3) * s - m) = c3 at *
  generalize cw d top (m + a + (0 + 2) * s - m) = c2 at *
  generalize cw d top (m + a + (0 + 1) * s - m) = c1 at *
  generalize cw d top (m + a + (0 + 0) * s - m) = c0 at *
  generalize 2 * d * (m + a + (0 + 3) * s - m) * (m + a + (0 + 3) * s - m) * (m + a + (0 + 3) * s - m) = f3 at *
  generalize 2 * d * (m + a + (0 + 2) * s - m) * (m + a + (0 + 2) * s - m) * (m + a + (0 + 2) * s - m) = f2 at *
  generalize 2 * d * (m + a + (0 + 1) * s - m) * (m + a + (0 + 1) * s - m) * (m + a + (0 + 1) * s - m) = f1 at *
  generalize 2 * d * (m + a + (0 + 0) * s - m) * (m + a + (0 + 0) * s - m) * (m + a + (0 + 0) * s - m) = f0 at *
  generalize 12 * d * s ^ 3 = z at *
  omega
theorem abs_lt_of {x y : Int} (h1 : -y < x) (h2 : x < y) : (if x < 0 then -x else x) < y := by split <;> omega
theorem turn_bound {m a k s : Int} (h0 : 0 ≤ k) (h1 : k < 4) (hs : 0 < s) (hs2 : s ≤ 2000000) (ha : -2000000 ≤ a) (ha2 : a ≤ 2000000) :
    -1000000000000 < m + a + k * s - m ∧ m + a + k * s - m < 1000000000000 := by
  have h2 : 0 ≤ k * s := Int.mul_nonneg h0 (by omega)
  have h3 : k * s ≤ 4 * 2000000 := Int.mul_le_mul (by omega) hs2 (by omega) (by omega)
  omega
theorem isCubic {w : World} {mean : ExcName → Option Value} {mg mb : Str → Option Value} {meets top d att step : Int} {u0 u1 u2 u3 u4 : Tok}
    (h1 : 0 < d) (h2 : d < 50) (h3 : -2000000 ≤ att) (h4 : att ≤ 2000000) (h5 : 0 < step) (h6 : step ≤ 2000000) :
    Pure2 w mean mg mb 8 276 [.int meets u0, .int top u1, .int d u2, .int att u3, .int step u4] (fun C => C (.bool true)) := by
  unfold Pure2 Pure P
  k_fill
  intro news dp un gd cn cs a ccd cl outer A₀ base h₀ L m s Q E B F X N Tp hk hd hu hret
  k_with "cwLo" => exact (turn_bound (by omega) (by omega) h5 h6 h3 h4).1
  k_with "cwHi" => exact (turn_bound (by omega) (by omega) h5 h6 h3 h4).2
  refine wpAny_call ?_
  k_dflt (refine' code_partC (news := []) (rest := news) ?k1 ?k2 ?k3 ?k4 ?kd ?k5 ?kA ?kF ?kK ?k6 ?k7 ?k8 ?k9 ?kB ?kD ?_ ?c2 ?c3 ?c4; (case kA => exact rfl); (case kF => exact rfl); (case kK => assumption); (case k1 => k_asm); (case k2 => k_asm); (case k3 => k_asm); (case k4 => exact N); (case kd => exact (fun _ _ hm => List.not_mem_nil hm)); (case k5 => k_asm); (case k6 => k_is); (case k7 => k_is); (case k8 => ktr_room); (case k9 => exact BindsTo.of_eq rfl); (case kB => exact rfl); (case kD => decide +kernel); (case c2 => exact rfl); (case c3 => exact rfl); (case c4 => exact rfl); k_whole; intro g' L' h' tk' cells' FG' F' N' Y' B' X' T' l1 hG'; (try k_lt l1); k_cells Y'; (try simp only [List.cons_append, List.nil_append] at N'); (try dsimp only); (try k_lift B'); (try k_fold))
  k_steps
  k_with_none
  rename Fr g' _ _ _ => fG
  have hz := third_law d top meets att step _ rfl
  exact bool_ret (decide_eq_true (abs_lt_of hz.1 hz.2)) (hret _ _ (by assumption) (part_back (a := []) N hG' fG))
local macro_rules | `(tactic| walk_at "call ref") => `(tactic| (k_here; (with_reducible show wpAny _ _ (call (Value.ref 276) _) _ _ _); k_dflt (refine' Pure.use (isCubic ?h0 ?h1 ?h2 ?h3 ?h4 ?h5) ?kB ?kF ?kX ?kN ?kT ?kk ?kd ?ku ?_; (case kB => k_asm); (case kF => k_asm); (case kX => k_asm); (case kN => k_asm); (case kT => k_asm); (case h0 => omega); (case h1 => omega); (case h2 => omega); (case h3 => omega); (case h4 => omega); (case h5 => omega); (case kk => first | exact rfl | assumption); (case kd => k_room); (case ku => k_units); k_whole); intro h' tk' F' N'; (have N0' := news_drop4 N'); clear N'; (try dsimp only); (try k_fold); (try k_sweep)))
/-! Ack -/
theorem walk_off_Ack : True := by (w_top off); trivial
theorem cw_at {d top x y G : Int} (h : cw d top y = G) (e : x = y) : cw d top x = G := by rw [e]; exact h
theorem friendly_facts {frc d win : Int} (h1 : 0 ≤ d) (h2 : 0 < win) (h3 : 0 ≤ frc) (h4 : frc < 17 * win) :
    0 ≤ (frc + 9 * d * win).fdiv (17 * win) ∧ (frc + 9 * d * win).fdiv (17 * win) ≤ d + 1 ∧
    0 ≤ frc + 9 * d * win - (frc + 9 * d * win).fdiv (17 * win) * 17 * win ∧ frc + 9 * d * win - (frc + 9 * d * win).fdiv (17 * win) * 17 * win < 17 * win := by
  rw [Int.fdiv_eq_ediv_of_nonneg _ (by omega)]
  have hp : 0 ≤ d * win := Int.mul_nonneg h1 (by omega)
  have e9 : 9 * d * win = 9 * (d * win) := Int.mul_assoc _ _ _
  rw [e9]
  have a := Int.mul_ediv_add_emod (frc + 9 * (d * win)) (17 * win)
  have b := Int.emod_nonneg (frc + 9 * (d * win)) (show 17 * win ≠ 0 by omega)
  have c := Int.emod_lt_of_pos (frc + 9 * (d * win)) (show 0 < 17 * win by omega)
  generalize (frc + 9 * (d * win)) / (17 * win) = q at *
  have e1 : q * 17 * win = 17 * win * q := by rw [Int.mul_comm q 17, Int.mul_assoc, Int.mul_comm q win, ← Int.mul_assoc]
  rw [e1]
  have hq : 0 ≤ q := by
    rcases Int.lt_or_le q 0 with h | h
    · have : 17 * win * q ≤ 17 * win * (-1) := Int.mul_le_mul_of_nonneg_left (by omega) (by omega)
      omega
    · exact h
  refine ⟨hq, ?_, by omega, by omega⟩
  rcases Int.lt_or_le (d + 1) q with h | h
  · have h5 : 17 * win * (d + 2) ≤ 17 * win * q := Int.mul_le_mul_of_nonneg_left (by omega) (by omega)
    have e2 : 17 * win * (d + 2) = 17 * (d * win) + 34 * win := by
      rw [Int.mul_add, Int.mul_assoc, Int.mul_comm win d]; omega
    omega
  · exact h
theorem credit_back {G win : Int} (h : 0 < win) : (0 + (G - win) * win).fdiv win = G - win := by
  rw [Int.zero_add]
  exact fdiv_is h (by omega) (by omega)
theorem ackOne {w : World} {mean : ExcName → Option Value} {mg mb : Str → Option Value} {d top win fl beg now way meets fri frc see cG cA : Int} {x dx : Addr} {k0 k1 k2 k3 k4 k5 k6 k7 k8 k9 k10 k11 k12 k13 k14 v0 v1 v2 v3 v4 v5 v6 v7 v8 v11 v12 v13 v14 ts t5 tn tw : Tok}
    (hG : cw d top (now - beg + way - meets) = cG) (hA : cw d top (now - beg - meets) = cA) (h1 : 10 ≤ d) (h2 : d < 50) (h3 : 40 * d ≤ top) (h4 : top < 5000) (h5 : lowOf top ≤ win) (h6 : win < 10000) (h7 : win < fl)
    (h8 : 0 ≤ frc) (h9 : frc < 17 * win) (h10 : fri < top) (h11 : fri + d + 1 ≤ cA)
    (h12 : win ≤ cG) (h13 : 2 * cG ≤ 3 * win)
    (h14 : -900000000000 < now - beg - meets) (h15 : now - beg - meets < 900000000000) (h16 : 0 ≤ way) (h17 : way < 1000000) :
    Turns2 w mean mg mb 8 168 [.ref x, .int win ts, .int 5 t5, .bool true, .int now tn, .int way tw] dx (dictOf [{ hash := PyData.keyHash w.params (Str.ofString "datagram"), key := Value.str (Str.ofString "datagram") k0, val := .int d v0 }, { hash := PyData.keyHash w.params (Str.ofString "window"), key := Value.str (Str.ofString "window") k1, val := .int win v1 }, { hash := PyData.keyHash w.params (Str.ofString "threshold"), key := Value.str (Str.ofString "threshold") k2, val := .int (lowOf top) v2 }, { hash := PyData.keyHash w.params (Str.ofString "recovery_at"), key := Value.str (Str.ofString "recovery_at") k3, val := .int 4 v3 }, { hash := PyData.keyHash w.params (Str.ofString "in_flight"), key := Value.str (Str.ofString "in_flight") k4, val := .int fl v4 }, { hash := PyData.keyHash w.params (Str.ofString "credit"), key := Value.str (Str.ofString "credit") k5, val := .int 0 v5 }, { hash := PyData.keyHash w.params (Str.ofString "top_window"), key := Value.str (Str.ofString "top_window") k6, val := .int top v6 }, { hash := PyData.keyHash w.params (Str.ofString "prior_window"), key := Value.str (Str.ofString "prior_window") k7, val := .int top v7 }, { hash := PyData.keyHash w.params (Str.ofString "begun_at"), key := Value.str (Str.ofString "begun_at") k8, val := .int beg v8 }, { hash := PyData.keyHash w.params (Str.ofString "idle_since"), key := Value.str (Str.ofString "idle_since") k9, val := .none }, { hash := PyData.keyHash w.params (Str.ofString "empty_since"), key := Value.str (Str.ofString "empty_since") k10, val := .none }, { hash := PyData.keyHash w.params (Str.ofString "seen_at"), key := Value.str (Str.ofString "seen_at") k11, val := .int see v11 }, { hash := PyData.keyHash w.params (Str.ofString "meets_after"), key := Value.str (Str.ofString "meets_after") k12, val := .int meets v12 }, { hash := PyData.keyHash w.params (Str.ofString "friendly"), key := Value.str (Str.ofString "friendly") k13, val := .int fri v13 }, { hash := PyData.keyHash w.params (Str.ofString "friendly_credit"), key := Value.str (Str.ofString "friendly_credit") k14, val := .int frc v14 }] 15) [(x, instObj 248 dx)]
      (fun C => ∀ (fri' frc' : Int) (u1 u4 u5 u13 u14 : Tok), fri ≤ fri' → fri' ≤ fri + d + 1 → 0 ≤ frc' → frc' < 17 * win →
        C .none ((dictOf [{ hash := PyData.keyHash w.params (Str.ofString "datagram"), key := Value.str (Str.ofString "datagram") k0, val := .int d v0 }, { hash := PyData.keyHash w.params (Str.ofString "window"), key := Value.str (Str.ofString "window") k1, val := .int (cG) u1 }, { hash := PyData.keyHash w.params (Str.ofString "threshold"), key := Value.str (Str.ofString "threshold") k2, val := .int (lowOf top) v2 }, { hash := PyData.keyHash w.params (Str.ofString "recovery_at"), key := Value.str (Str.ofString "recovery_at") k3, val := .int 4 v3 }, { hash := PyData.keyHash w.params (Str.ofString "in_flight"), key := Value.str (Str.ofString "in_flight") k4, val := .int (fl - win) u4 }, { hash := PyData.keyHash w.params (Str.ofString "credit"), key := Value.str (Str.ofString "credit") k5, val := .int 0 u5 }, { hash := PyData.keyHash w.params (Str.ofString "top_window"), key := Value.str (Str.ofString "top_window") k6, val := .int top v6 }, { hash := PyData.keyHash w.params (Str.ofString "prior_window"), key := Value.str (Str.ofString "prior_window") k7, val := .int top v7 }, { hash := PyData.keyHash w.params (Str.ofString "begun_at"), key := Value.str (Str.ofString "begun_at") k8, val := .int beg v8 }, { hash := PyData.keyHash w.params (Str.ofString "idle_since"), key := Value.str (Str.ofString "idle_since") k9, val := .none }, { hash := PyData.keyHash w.params (Str.ofString "empty_since"), key := Value.str (Str.ofString "empty_since") k10, val := .none }, { hash := PyData.keyHash w.params (Str.ofString "seen_at"), key := Value.str (Str.ofString "seen_at") k11, val := .int now tn }, { hash := PyData.keyHash w.params (Str.ofString "meets_after"), key := Value.str (Str.ofString "meets_after") k12, val := .int meets v12 }, { hash := PyData.keyHash w.params (Str.ofString "friendly"), key := Value.str (Str.ofString "friendly") k13, val := .int fri' u13 }, { hash := PyData.keyHash w.params (Str.ofString "friendly_credit"), key := Value.str (Str.ofString "friendly_credit") k14, val := .int frc' u14 }] 15))) := by
  subst hG
  subst hA
  have h13' : cw d top (now - beg + way - meets) ≤ win + win.fdiv 2 := by
    rw [Int.fdiv_eq_ediv_of_nonneg _ (by decide)]
    omega
  have hl := lowOf_facts top
  have hw : 0 < win := by omega
  have hm := friendly_facts (show 0 ≤ d by omega) hw h8 h9
  have e1 := credit_back (G := cw d top (now - beg + way - meets)) hw
  have e2 : win + (cw d top (now - beg + way - meets) - win) = cw d top (now - beg + way - meets) := by omega
  have e3 : ∀ y : Int, 0 + y - y = 0 := fun y => by omega
  unfold Turns2 Turns P
  refine ⟨fun C C' h p => by (dsimp only at p ⊢); intros; apply h; apply p <;> assumption, ?_⟩
  k_fill
  intro rest hr hro dp un gd cn cs a ccd cl outer A₀ base h₀ L m s Q E B F X N T hk hd hu hret
  have hx : (x, instObj 248 dx) ∈ rest := hro _ (.head _)
  refine wpAny_call ?_
  k_dflt cell_enter
  k_steps
  rename News _ _ _ _ => nE
  simp only [e1, e2, e3] at nE
  exact hret _ _ _ _ _ _ _ (by omega) (by omega) hm.2.2.1 hm.2.2.2 _ _ (by assumption) nE
local macro_rules | `(tactic| walk_at "call ref") => `(tactic| (k_here; (with_reducible show wpAny _ _ (call (Value.ref 168) (Value.ref _ :: Value.int _ _ :: Value.int _ _ :: Value.bool true :: _)) _ _ _); k_dflt (refine' Turns.use (ackOne ?h0 ?h1 ?h2 ?h3 ?h4 ?h5 ?h6 ?h7 ?h8 ?h9 ?h10 ?h11 ?h12 ?h13 ?h14 ?h15 ?h16 ?h17 ?h18) ?kU (kro_one ?km ?kn) ?kB ?kF ?kX ?kN ?kT ?kk ?kd ?ku ?_; (case kB => k_asm); (case kF => k_asm); (case kX => k_asm); (case kN => k_asm); (case kT => k_asm); (case km => k_mem); (case kU => k_updF); (case kn => k_ne); (case h0 => (k_extra "ackG")); (case h1 => (k_extra "ackA")); (case h2 => omega); (case h3 => omega); (case h4 => omega); (case h5 => omega); (case h6 => omega); (case h7 => omega); (case h8 => omega); (case h9 => omega); (case h10 => omega); (case h11 => omega); (case h12 => omega); (case h13 => omega); (case h14 => omega); (case h15 => omega); (case h16 => omega); (case h17 => omega); (case h18 => omega); (case kk => first | exact rfl | assumption); (case kd => k_room); (case ku => k_units); k_whole); intro fri' frc' u1 u4 u5 u13 u14 hf1' hf2' hf3' hf4' h' tk' F' N'; skip; (try dsimp only); (try k_fold); (try k_sweep)))
/-! AckBack -/
theorem walk_off_AckBack : True := by (w_top off); trivial
theorem ackBack {w : World} {mean : ExcName → Option Value} {mg mb : Str → Option Value} {d top win fl beg now way meets fri frc see cG cA idl : Int} {x dx : Addr} {k0 k1 k2 k3 k4 k5 k6 k7 k8 k9 k10 k11 k12 k13 k14 v0 v1 v2 v3 v4 v5 v6 v7 v8 v9 v11 v12 v13 v14 ts t5 tn tw : Tok}
    (hG : cw d top (now - (beg + (now - idl)) + way - meets) = cG) (hA : cw d top (now - (beg + (now - idl)) - meets) = cA) (h1 : 10 ≤ d) (h2 : d < 50) (h3 : 40 * d ≤ top) (h4 : top < 5000) (h5 : lowOf top ≤ win) (h6 : win < 10000) (h7 : win < fl)
    (h8 : 0 ≤ frc) (h9 : frc < 17 * win) (h10 : fri < top) (h11 : fri + d + 1 ≤ cA)
    (h12 : win ≤ cG) (h13 : 2 * cG ≤ 3 * win)
    (h14 : -900000000000 < now - (beg + (now - idl)) - meets) (h15 : now - (beg + (now - idl)) - meets < 900000000000) (h16 : 0 ≤ way) (h17 : way < 1000000) :
    Turns2 w mean mg mb 8 168 [.ref x, .int win ts, .int 5 t5, .bool true, .int now tn, .int way tw] dx (dictOf [{ hash := PyData.keyHash w.params (Str.ofString "datagram"), key := Value.str (Str.ofString "datagram") k0, val := .int d v0 }, { hash := PyData.keyHash w.params (Str.ofString "window"), key := Value.str (Str.ofString "window") k1, val := .int win v1 }, { hash := PyData.keyHash w.params (Str.ofString "threshold"), key := Value.str (Str.ofString "threshold") k2, val := .int (lowOf top) v2 }, { hash := PyData.keyHash w.params (Str.ofString "recovery_at"), key := Value.str (Str.ofString "recovery_at") k3, val := .int 4 v3 }, { hash := PyData.keyHash w.params (Str.ofString "in_flight"), key := Value.str (Str.ofString "in_flight") k4, val := .int fl v4 }, { hash := PyData.keyHash w.params (Str.ofString "credit"), key := Value.str (Str.ofString "credit") k5, val := .int 0 v5 }, { hash := PyData.keyHash w.params (Str.ofString "top_window"), key := Value.str (Str.ofString "top_window") k6, val := .int top v6 }, { hash := PyData.keyHash w.params (Str.ofString "prior_window"), key := Value.str (Str.ofString "prior_window") k7, val := .int top v7 }, { hash := PyData.keyHash w.params (Str.ofString "begun_at"), key := Value.str (Str.ofString "begun_at") k8, val := .int beg v8 }, { hash := PyData.keyHash w.params (Str.ofString "idle_since"), key := Value.str (Str.ofString "idle_since") k9, val := .int idl v9 }, { hash := PyData.keyHash w.params (Str.ofString "empty_since"), key := Value.str (Str.ofString "empty_since") k10, val := .none }, { hash := PyData.keyHash w.params (Str.ofString "seen_at"), key := Value.str (Str.ofString "seen_at") k11, val := .int see v11 }, { hash := PyData.keyHash w.params (Str.ofString "meets_after"), key := Value.str (Str.ofString "meets_after") k12, val := .int meets v12 }, { hash := PyData.keyHash w.params (Str.ofString "friendly"), key := Value.str (Str.ofString "friendly") k13, val := .int fri v13 }, { hash := PyData.keyHash w.params (Str.ofString "friendly_credit"), key := Value.str (Str.ofString "friendly_credit") k14, val := .int frc v14 }] 15) [(x, instObj 248 dx)]
      (fun C => ∀ (fri' frc' : Int) (u1 u4 u5 u8 u13 u14 : Tok), fri ≤ fri' → fri' ≤ fri + d + 1 → 0 ≤ frc' → frc' < 17 * win →
        C .none ((dictOf [{ hash := PyData.keyHash w.params (Str.ofString "datagram"), key := Value.str (Str.ofString "datagram") k0, val := .int d v0 }, { hash := PyData.keyHash w.params (Str.ofString "window"), key := Value.str (Str.ofString "window") k1, val := .int (cG) u1 }, { hash := PyData.keyHash w.params (Str.ofString "threshold"), key := Value.str (Str.ofString "threshold") k2, val := .int (lowOf top) v2 }, { hash := PyData.keyHash w.params (Str.ofString "recovery_at"), key := Value.str (Str.ofString "recovery_at") k3, val := .int 4 v3 }, { hash := PyData.keyHash w.params (Str.ofString "in_flight"), key := Value.str (Str.ofString "in_flight") k4, val := .int (fl - win) u4 }, { hash := PyData.keyHash w.params (Str.ofString "credit"), key := Value.str (Str.ofString "credit") k5, val := .int 0 u5 }, { hash := PyData.keyHash w.params (Str.ofString "top_window"), key := Value.str (Str.ofString "top_window") k6, val := .int top v6 }, { hash := PyData.keyHash w.params (Str.ofString "prior_window"), key := Value.str (Str.ofString "prior_window") k7, val := .int top v7 }, { hash := PyData.keyHash w.params (Str.ofString "begun_at"), key := Value.str (Str.ofString "begun_at") k8, val := .int (beg + (now - idl)) u8 }, { hash := PyData.keyHash w.params (Str.ofString "idle_since"), key := Value.str (Str.ofString "idle_since") k9, val := .none }, { hash := PyData.keyHash w.params (Str.ofString "empty_since"), key := Value.str (Str.ofString "empty_since") k10, val := .none }, { hash := PyData.keyHash w.params (Str.ofString "seen_at"), key := Value.str (Str.ofString "seen_at") k11, val := .int now tn }, { hash := PyData.keyHash w.params (Str.ofString "meets_after"), key := Value.str (Str.ofString "meets_after") k12, val := .int meets v12 }, { hash := PyData.keyHash w.params (Str.ofString "friendly"), key := Value.str (Str.ofString "friendly") k13, val := .int fri' u13 }, { hash := PyData.keyHash w.params (Str.ofString "friendly_credit"), key := Value.str (Str.ofString "friendly_credit") k14, val := .int frc' u14 }] 15))) := by
  subst hG
  subst hA
  have h13' : cw d top (now - (beg + (now - idl)) + way - meets) ≤ win + win.fdiv 2 := by
    rw [Int.fdiv_eq_ediv_of_nonneg _ (by decide)]
    omega
  have hl := lowOf_facts top
  have hw : 0 < win := by omega
  have hm := friendly_facts (show 0 ≤ d by omega) hw h8 h9
  have e1 := credit_back (G := cw d top (now - (beg + (now - idl)) + way - meets)) hw
  have e2 : win + (cw d top (now - (beg + (now - idl)) + way - meets) - win) = cw d top (now - (beg + (now - idl)) + way - meets) := by omega
  have e3 : ∀ y : Int, 0 + y - y = 0 := fun y => by omega
  unfold Turns2 Turns P
  refine ⟨fun C C' h p => by (dsimp only at p ⊢); intros; apply h; apply p <;> assumption, ?_⟩
  k_fill
  intro rest hr hro dp un gd cn cs a ccd cl outer A₀ base h₀ L m s Q E B F X N T hk hd hu hret
  have hx : (x, instObj 248 dx) ∈ rest := hro _ (.head _)
  refine wpAny_call ?_
  k_dflt cell_enter
  k_steps
  rename News _ _ _ _ => nE
  simp only [e1, e2, e3] at nE
  exact hret _ _ _ _ _ _ _ _ (by omega) (by omega) hm.2.2.1 hm.2.2.2 _ _ (by assumption) nE
local macro_rules | `(tactic| walk_at "call ref") => `(tactic| (k_here; (with_reducible show wpAny _ _ (call (Value.ref 168) (Value.ref _ :: Value.int _ _ :: Value.int _ _ :: Value.bool true :: _)) _ _ _); k_dflt (refine' Turns.use (ackBack ?h0 ?h1 ?h2 ?h3 ?h4 ?h5 ?h6 ?h7 ?h8 ?h9 ?h10 ?h11 ?h12 ?h13 ?h14 ?h15 ?h16 ?h17 ?h18) ?kU (kro_one ?km ?kn) ?kB ?kF ?kX ?kN ?kT ?kk ?kd ?ku ?_; (case kB => k_asm); (case kF => k_asm); (case kX => k_asm); (case kN => k_asm); (case kT => k_asm); (case km => k_mem); (case kU => k_updF); (case kn => k_ne); (case h0 => (k_extra "ackG")); (case h1 => (k_extra "ackA")); (case h2 => omega); (case h3 => omega); (case h4 => omega); (case h5 => omega); (case h6 => omega); (case h7 => omega); (case h8 => omega); (case h9 => omega); (case h10 => omega); (case h11 => omega); (case h12 => omega); (case h13 => omega); (case h14 => omega); (case h15 => omega); (case h16 => omega); (case h17 => omega); (case h18 => omega); (case kk => first | exact rfl | assumption); (case kd => k_room); (case ku => k_units); k_whole); intro fri' frc' u1 u4 u5 u8 u13 u14 hf1' hf2' hf3' hf4' h' tk' F' N'; skip; (try dsimp only); (try k_fold); (try k_sweep)))
/-! AckPause -/
theorem walk_off_AckPause : True := by (w_top off); trivial
theorem ackPause {w : World} {mean : ExcName → Option Value} {mg mb : Str → Option Value} {d top win fl beg now way meets fri frc see : Int} {x dx : Addr} {k0 k1 k2 k3 k4 k5 k6 k7 k8 k9 k10 k11 k12 k13 k14 v0 v1 v2 v3 v4 v5 v6 v7 v8 v11 v12 v13 v14 ts t5 tn tw : Tok}
    (h7 : 1 < fl) :
    Turns2 w mean mg mb 8 168 [.ref x, .int 1 ts, .int 5 t5, .bool false, .int now tn, .int way tw] dx (dictOf [{ hash := PyData.keyHash w.params (Str.ofString "datagram"), key := Value.str (Str.ofString "datagram") k0, val := .int d v0 }, { hash := PyData.keyHash w.params (Str.ofString "window"), key := Value.str (Str.ofString "window") k1, val := .int win v1 }, { hash := PyData.keyHash w.params (Str.ofString "threshold"), key := Value.str (Str.ofString "threshold") k2, val := .int (lowOf top) v2 }, { hash := PyData.keyHash w.params (Str.ofString "recovery_at"), key := Value.str (Str.ofString "recovery_at") k3, val := .int 4 v3 }, { hash := PyData.keyHash w.params (Str.ofString "in_flight"), key := Value.str (Str.ofString "in_flight") k4, val := .int fl v4 }, { hash := PyData.keyHash w.params (Str.ofString "credit"), key := Value.str (Str.ofString "credit") k5, val := .int 0 v5 }, { hash := PyData.keyHash w.params (Str.ofString "top_window"), key := Value.str (Str.ofString "top_window") k6, val := .int top v6 }, { hash := PyData.keyHash w.params (Str.ofString "prior_window"), key := Value.str (Str.ofString "prior_window") k7, val := .int top v7 }, { hash := PyData.keyHash w.params (Str.ofString "begun_at"), key := Value.str (Str.ofString "begun_at") k8, val := .int beg v8 }, { hash := PyData.keyHash w.params (Str.ofString "idle_since"), key := Value.str (Str.ofString "idle_since") k9, val := .none }, { hash := PyData.keyHash w.params (Str.ofString "empty_since"), key := Value.str (Str.ofString "empty_since") k10, val := .none }, { hash := PyData.keyHash w.params (Str.ofString "seen_at"), key := Value.str (Str.ofString "seen_at") k11, val := .int see v11 }, { hash := PyData.keyHash w.params (Str.ofString "meets_after"), key := Value.str (Str.ofString "meets_after") k12, val := .int meets v12 }, { hash := PyData.keyHash w.params (Str.ofString "friendly"), key := Value.str (Str.ofString "friendly") k13, val := .int fri v13 }, { hash := PyData.keyHash w.params (Str.ofString "friendly_credit"), key := Value.str (Str.ofString "friendly_credit") k14, val := .int frc v14 }] 15) [(x, instObj 248 dx)]
      (fun C => ∀ (u4 : Tok),
        C .none ((dictOf [{ hash := PyData.keyHash w.params (Str.ofString "datagram"), key := Value.str (Str.ofString "datagram") k0, val := .int d v0 }, { hash := PyData.keyHash w.params (Str.ofString "window"), key := Value.str (Str.ofString "window") k1, val := .int win v1 }, { hash := PyData.keyHash w.params (Str.ofString "threshold"), key := Value.str (Str.ofString "threshold") k2, val := .int (lowOf top) v2 }, { hash := PyData.keyHash w.params (Str.ofString "recovery_at"), key := Value.str (Str.ofString "recovery_at") k3, val := .int 4 v3 }, { hash := PyData.keyHash w.params (Str.ofString "in_flight"), key := Value.str (Str.ofString "in_flight") k4, val := .int (fl - 1) u4 }, { hash := PyData.keyHash w.params (Str.ofString "credit"), key := Value.str (Str.ofString "credit") k5, val := .int 0 v5 }, { hash := PyData.keyHash w.params (Str.ofString "top_window"), key := Value.str (Str.ofString "top_window") k6, val := .int top v6 }, { hash := PyData.keyHash w.params (Str.ofString "prior_window"), key := Value.str (Str.ofString "prior_window") k7, val := .int top v7 }, { hash := PyData.keyHash w.params (Str.ofString "begun_at"), key := Value.str (Str.ofString "begun_at") k8, val := .int beg v8 }, { hash := PyData.keyHash w.params (Str.ofString "idle_since"), key := Value.str (Str.ofString "idle_since") k9, val := .int now tn }, { hash := PyData.keyHash w.params (Str.ofString "empty_since"), key := Value.str (Str.ofString "empty_since") k10, val := .none }, { hash := PyData.keyHash w.params (Str.ofString "seen_at"), key := Value.str (Str.ofString "seen_at") k11, val := .int now tn }, { hash := PyData.keyHash w.params (Str.ofString "meets_after"), key := Value.str (Str.ofString "meets_after") k12, val := .int meets v12 }, { hash := PyData.keyHash w.params (Str.ofString "friendly"), key := Value.str (Str.ofString "friendly") k13, val := .int fri v13 }, { hash := PyData.keyHash w.params (Str.ofString "friendly_credit"), key := Value.str (Str.ofString "friendly_credit") k14, val := .int frc v14 }] 15))) := by
  unfold Turns2 Turns P
  refine ⟨fun C C' h p => by (dsimp only at p ⊢); intros; apply h; apply p <;> assumption, ?_⟩
  k_fill
  intro rest hr hro dp un gd cn cs a ccd cl outer A₀ base h₀ L m s Q E B F X N T hk hd hu hret
  have hx : (x, instObj 248 dx) ∈ rest := hro _ (.head _)
  refine wpAny_call ?_
  k_dflt cell_enter
  k_steps
  exact hret _ _ _ (by assumption) (by assumption)
local macro_rules | `(tactic| walk_at "call ref") => `(tactic| (k_here; (with_reducible show wpAny _ _ (call (Value.ref 168) (Value.ref _ :: Value.int _ _ :: Value.int _ _ :: Value.bool false :: _)) _ _ _); k_dflt (refine' Turns.use (ackPause ?h0) ?kU (kro_one ?km ?kn) ?kB ?kF ?kX ?kN ?kT ?kk ?kd ?ku ?_; (case kB => k_asm); (case kF => k_asm); (case kX => k_asm); (case kN => k_asm); (case kT => k_asm); (case km => k_mem); (case kU => k_updF); (case kn => k_ne); (case h0 => omega); (case kk => first | exact rfl | assumption); (case kd => k_room); (case ku => k_units); k_whole); intro u4 h' tk' F' N'; skip; (try dsimp only); (try k_fold); (try k_sweep)))
/-! Facts -/
theorem walk_off_Facts : True := by (w_top off); trivial
theorem root_ex_nat (n : Nat) : ∃ r : Int, IsRoot (n : Int) r := by
  induction n with
  | zero => exact ⟨0, by decide, by decide, by decide⟩
  | succ n ih =>
    obtain ⟨r, h1, h2, h3⟩ := ih
    rcases Int.lt_or_le ((n : Int) + 1) ((r + 1) * (r + 1) * (r + 1)) with h | h
    · exact ⟨r, h1, by push_cast; omega, by push_cast; exact h⟩
    · refine ⟨r + 1, by omega, by push_cast; exact h, ?_⟩
      have h4 : (r + 1) * (r + 1) * (r + 1) < (r + 1 + 1) * (r + 1 + 1) * (r + 1 + 1) := by
        have a := Int.mul_nonneg h1 h1
        have e : (r + 1 + 1) * (r + 1 + 1) * (r + 1 + 1) = (r + 1) * (r + 1) * (r + 1) + (3 * (r * r) + 9 * r + 7) := by grind
        omega
      push_cast
      omega
theorem root_ex {n : Int} (h : 0 ≤ n) : ∃ r, IsRoot n r := by
  have := root_ex_nat n.toNat
  rwa [Int.toNat_of_nonneg h] at this
theorem meets_root {d top : Int} (h1 : 0 < d) (h2 : 0 ≤ top) : IsRoot (timeOf (top - lowOf top) d) (meetsOf d top) := by
  have hl := lowOf_facts top
  have h : 0 ≤ timeOf (top - lowOf top) d := by
    unfold timeOf
    exact (fdiv_pos_bound (by omega) (by omega)).1
  exact croot_spec (root_ex h)
theorem cube_mono {x y : Int} (h : x ≤ y) : x * x * x ≤ y * y * y := by
  rcases Int.lt_or_le x 0 with hx | hx
  · rcases Int.lt_or_le y 0 with hy | hy
    · have := cube_le_of (a := -y) (b := -x) (by omega) (by omega)
      have e1 : -y * -y * -y = -(y * y * y) := by grind
      have e2 : -x * -x * -x = -(x * x * x) := by grind
      omega
    · have a : 0 ≤ y * y * y := Int.mul_nonneg (Int.mul_nonneg hy hy) hy
      have b := cube_le_of (a := 0) (b := -x) (by omega) (by omega)
      have e2 : -x * -x * -x = -(x * x * x) := by grind
      omega
  · exact cube_le_of hx h
theorem cw_is (d top x : Int) : ∃ r, 0 ≤ r ∧ r < 5000000000000000000 ∧ 5000000000000000000 * (cw d top x - top) = 2 * d * (x * x * x) - r := by
  refine ⟨(2 * d * x * x * x) % 5000000000000000000, Int.emod_nonneg _ (by decide), Int.emod_lt_of_pos _ (by decide), ?_⟩
  have h := Int.mul_ediv_add_emod (2 * d * x * x * x) 5000000000000000000
  have e : 2 * d * (x * x * x) = 2 * d * x * x * x := by grind
  unfold cw
  rw [e, Int.fdiv_eq_ediv_of_nonneg _ (by decide)]
  omega
theorem cw_mono {d top x y : Int} (hd : 0 ≤ d) (h : x ≤ y) : cw d top x ≤ cw d top y := by
  obtain ⟨r, a, b, e⟩ := cw_is d top x
  obtain ⟨q, a', b', e'⟩ := cw_is d top y
  have hm : 2 * d * (x * x * x) ≤ 2 * d * (y * y * y) := Int.mul_le_mul_of_nonneg_left (cube_mono h) (by omega)
  omega
theorem cw_zero {d top x : Int} (h : x = 0) : cw d top x = top := by
  subst h
  unfold cw
  simp
theorem cw_le0 {d top x : Int} (hd : 0 ≤ d) (h : x ≤ 0) : cw d top x ≤ top := by
  have := cw_mono (top := top) hd h
  rwa [cw_zero rfl] at this
theorem cw_ge0 {d top x : Int} (hd : 0 ≤ d) (h : 0 ≤ x) : top ≤ cw d top x := by
  have := cw_mono (top := top) hd h
  rwa [cw_zero rfl] at this
theorem cw_lo {d top x : Int} (hd : 0 ≤ d) (h : -1800000 ≤ x) : top - 3 * d ≤ cw d top x := by
  obtain ⟨r, a, b, e⟩ := cw_is d top x
  have h1 := cube_mono h
  have h2 : 2 * d * (-1800000 * -1800000 * -1800000) ≤ 2 * d * (x * x * x) := Int.mul_le_mul_of_nonneg_left h1 (by omega)
  omega
theorem cw_hi {d top x : Int} (hd : 0 ≤ d) (h : x ≤ 1500000) : 20 * (cw d top x - top) ≤ 27 * d := by
  obtain ⟨r, a, b, e⟩ := cw_is d top x
  have h1 := cube_mono h
  have h2 : 2 * d * (x * x * x) ≤ 2 * d * (1500000 * 1500000 * 1500000) := Int.mul_le_mul_of_nonneg_left h1 (by omega)
  omega
theorem cw_start {d top x : Int} (h1 : 0 < d) (h2 : d < 50) (h3 : 40 * d ≤ top) (h4 : top < 100 * d) (hx : x = 0 - meetsOf d top) : cw d top x = lowOf top := by
  have hl := lowOf_facts top
  obtain ⟨k0, k1, k2⟩ := meets_root h1 (show 0 ≤ top by omega)
  obtain ⟨r, a, b, e⟩ := cw_is d top x
  have e3 : x * x * x = -(meetsOf d top * meetsOf d top * meetsOf d top) := by rw [hx]; grind
  generalize meetsOf d top = k at *
  rw [e3] at e
  clear e3 hx
  -- n is the whole part of gap * 5e18 / (2d)
  have hn : 2 * d * timeOf (top - lowOf top) d ≤ (top - lowOf top) * 5000000000000000000 ∧ (top - lowOf top) * 5000000000000000000 < 2 * d * timeOf (top - lowOf top) d + 2 * d := by
    unfold timeOf
    rw [Int.fdiv_eq_ediv_of_nonneg _ (by omega)]
    have e1 : (top - lowOf top) * 5 * 1000000 * 1000000 * 1000000 = (top - lowOf top) * 5000000000000000000 := by omega
    rw [e1]
    have a := Int.mul_ediv_add_emod ((top - lowOf top) * 5000000000000000000) (2 * d)
    have b := Int.emod_nonneg ((top - lowOf top) * 5000000000000000000) (show 2 * d ≠ 0 by omega)
    have c := Int.emod_lt_of_pos ((top - lowOf top) * 5000000000000000000) (show 0 < 2 * d by omega)
    omega
  generalize timeOf (top - lowOf top) d = n at *
  have hk : k < 5000000 := by
    rcases Int.lt_or_le k 5000000 with h | h
    · exact h
    · have h5 := cube_le_of (a := 5000000) (b := k) (by decide) h
      have h6 : 2 * d * (5000000 * 5000000 * 5000000) ≤ 2 * d * n := Int.mul_le_mul_of_nonneg_left (by omega) (by omega)
      omega
  have m1 : 2 * d * (k * k * k) ≤ 2 * d * n := Int.mul_le_mul_of_nonneg_left k1 (by omega)
  have m2 : 2 * d * (n + 1) ≤ 2 * d * ((k + 1) * (k + 1) * (k + 1)) := Int.mul_le_mul_of_nonneg_left (by omega) (by omega)
  have e4 : 2 * d * ((k + 1) * (k + 1) * (k + 1)) = 2 * d * (k * k * k) + 2 * d * (3 * (k * k) + 3 * k + 1) := by grind
  have m3 : k * k ≤ 5000000 * 5000000 := Int.mul_le_mul (by omega) (by omega) k0 (by decide)
  have m4 : 2 * d * (3 * (k * k) + 3 * k + 1) ≤ 98 * (3 * (5000000 * 5000000) + 3 * 5000000 + 1) := Int.mul_le_mul (by omega) (by omega) (by have := Int.mul_nonneg k0 k0; omega) (by decide)
  rw [Int.mul_add, Int.mul_one, e4] at m2
  have e5 : 2 * d * -(k * k * k) = -(2 * d * (k * k * k)) := Int.mul_neg _ _
  rw [e5] at e
  generalize 2 * d * (k * k * k) = z at *
  generalize 2 * d * (3 * (k * k) + 3 * k + 1) = y at *
  generalize 2 * d * n = u at *
  omega
theorem side_e {d g x : Int} (h1 : 10 ≤ d) (h3 : d * 30 ≤ g) (hx : -1800000 ≤ x) : lowOf (10 * d + g) + 3 * (d + 1) ≤ cw d (10 * d + g) x := by
  have := cw_lo (d := d) (top := 10 * d + g) (show 0 ≤ d by omega) hx
  have := lowOf_facts (10 * d + g)
  omega
theorem side_f {d g x : Int} (h1 : 10 ≤ d) (h3 : d * 30 ≤ g) (hx : -1800000 ≤ x) : lowOf (10 * d + g) ≤ cw d (10 * d + g) x := by
  have := side_e h1 h3 hx
  omega
theorem side_i0 {d g x : Int} (h1 : 10 ≤ d) (h3 : d * 30 ≤ g) (hx : x ≤ 1500000) : 2 * cw d (10 * d + g) x ≤ 3 * lowOf (10 * d + g) := by
  have := cw_hi (d := d) (top := 10 * d + g) (show 0 ≤ d by omega) hx
  have := lowOf_facts (10 * d + g)
  omega
theorem side_i {d g x y : Int} (h1 : 10 ≤ d) (h3 : d * 30 ≤ g) (hx : -1800000 ≤ x) (hy : y ≤ 1500000) : 2 * cw d (10 * d + g) y ≤ 3 * cw d (10 * d + g) x := by
  have := cw_hi (d := d) (top := 10 * d + g) (show 0 ≤ d by omega) hy
  have := cw_lo (d := d) (top := 10 * d + g) (show 0 ≤ d by omega) hx
  omega
theorem side_i3 {d g x : Int} (h1 : 10 ≤ d) (h3 : d * 30 ≤ g) (hx : x ≤ 1500000) : cw d (10 * d + g) x ≤ 2 * (10 * d + g) := by
  have := cw_hi (d := d) (top := 10 * d + g) (show 0 ≤ d by omega) hx
  omega
theorem low_fdiv (top : Int) : (7 * top).fdiv 10 = lowOf top := by
  have := lowOf_facts top
  exact fdiv_is (by decide) (by omega) (by omega)
theorem cw_pair {d top x y f : Int} (hx : x = -f) (hy : y = f) :
    cw d top x + cw d top y = 2 * top - (if (2 * d * (f * f * f)) % 5000000000000000000 = 0 then 0 else 1) := by
  subst hx
  subst hy
  obtain ⟨r, a, b, e⟩ := cw_is d top (-y)
  obtain ⟨q, a', b', e'⟩ := cw_is d top y
  have e1 : 2 * d * (-y * -y * -y) = -(2 * d * (y * y * y)) := by grind
  rw [e1] at e
  generalize 2 * d * (y * y * y) = z at *
  split <;> omega
theorem meets_bound {d top : Int} (h1 : 0 < d) (h3 : 40 * d ≤ top) (h4 : top < 100 * d) : 0 ≤ meetsOf d top ∧ meetsOf d top < 5000000 := by
  have hl := lowOf_facts top
  obtain ⟨k0, k1, k2⟩ := meets_root h1 (show 0 ≤ top by omega)
  refine ⟨k0, ?_⟩
  generalize meetsOf d top = k at *
  have hn : 2 * d * timeOf (top - lowOf top) d ≤ (top - lowOf top) * 5000000000000000000 := by
    unfold timeOf
    rw [Int.fdiv_eq_ediv_of_nonneg _ (by omega)]
    have e1 : (top - lowOf top) * 5 * 1000000 * 1000000 * 1000000 = (top - lowOf top) * 5000000000000000000 := by omega
    rw [e1]
    have a := Int.mul_ediv_add_emod ((top - lowOf top) * 5000000000000000000) (2 * d)
    have b := Int.emod_nonneg ((top - lowOf top) * 5000000000000000000) (show 2 * d ≠ 0 by omega)
    omega
  rcases Int.lt_or_le k 5000000 with h | h
  · exact h
  · have h5 := cube_le_of (a := 5000000) (b := k) (by decide) h
    have h6 : 2 * d * (5000000 * 5000000 * 5000000) ≤ 2 * d * timeOf (top - lowOf top) d := Int.mul_le_mul_of_nonneg_left (by omega) (by omega)
    omega
theorem meets_lo {d top : Int} (h1 : 0 < d) (h3 : 40 * d ≤ top) (h4 : top < 100 * d) : -1000000000000 < 0 - meetsOf d top := by
  have := meets_bound h1 h3 h4
  omega
theorem meets_hi {d top : Int} (h1 : 0 < d) (h3 : 40 * d ≤ top) (h4 : top < 100 * d) : 0 - meetsOf d top < 1000000000000 := by
  have := meets_bound h1 h3 h4
  omega
local macro_rules | `(tactic| walk_at "call ref") => `(tactic| (k_here; (with_reducible show wpAny _ _ (call (Value.ref 283) _) _ _ _); k_dflt (refine' Pure.use (lawScales ?h0 ?h1 ?h2 ?h3 ?h4 ?h5 ?h6 ?h7 ?h8) ?kB ?kF ?kX ?kN ?kT ?kk ?kd ?ku ?_; (case kB => k_asm); (case kF => k_asm); (case kX => k_asm); (case kN => k_asm); (case kT => k_asm); (case h0 => exact meets_root (by omega) (by omega)); (case h1 => omega); (case h2 => omega); (case h3 => omega); (case h4 => omega); (case h5 => omega); (case h6 => omega); (case h7 => omega); (case h8 => omega); (case kk => first | exact rfl | assumption); (case kd => k_room); (case ku => k_units); k_whole); intro h' tk' F' N'; skip; (try dsimp only); (try k_fold); (try k_sweep)))
/-! Win1 -/
theorem walk_off_Win1 : True := by (w_top off); trivial
section
local macro_rules | `(tactic| walk_at "pyIter ref") => `(tactic| ((with_reducible show wpAny _ _ (pyIter (Value.ref _)) (fun it s₂ => LoopAtV _ _ _ _ _ _ _ _ _ it s₂) _ _); k_listUnr))
theorem win1 {w : World} {mean : ExcName → Option Value} {mg mb : Str → Option Value} {d g way t0 g0 a0 : Int} {td tg tw tp u0 : Tok} {T : Addr} {nT : Nat}
    (hg0 : cw d (10 * d + g) (t0 + way - meetsOf d (10 * d + g)) = g0)
    (ha0 : cw d (10 * d + g) (t0 - meetsOf d (10 * d + g)) = a0)
    (h1 : 10 ≤ d) (h2 : d < 50) (h3 : d * 30 ≤ g) (h4 : g < d * 90) (h5 : 0 ≤ way) (h6 : way < 1000000)
    (b0 : -100000000 < t0 - meetsOf d (10 * d + g)) (c0 : t0 - meetsOf d (10 * d + g) < 100000000) 
    
    (e0 : lowOf (10 * d + g) + 3 * (d + 1) ≤ a0)
    (f0 : lowOf (10 * d + g) ≤ g0) (i0 : 2 * g0 ≤ 3 * lowOf (10 * d + g)) :
    Adds2 w mean mg mb 14 271 [.int d td, .int g tg, .ref T, .int way tw, .int 0 tp] T (listOf [.int t0 u0].toArray nT)
      (fun C => ∀ (l : Addr) (n : Nat) (v0 : Tok), C (.ref l) [(l, listOf [.int g0 v0].toArray n)]) := by
  have hl := lowOf_facts (10 * d + g)
  unfold Adds2 Adds P
  refine ⟨fun C C' h p => by (dsimp only at p ⊢); intros; apply h; apply p <;> assumption, ?_⟩
  k_fill
  intro rest hr dp un gd cn cs a ccd cl outer A₀ base h₀ L m s Q E B F X N Tp hk hd hu hret
  k_with "ackG" => first | exact cw_at hg0 (by omega)
  k_with "ackA" => first | exact cw_at ha0 (by omega)
  refine wpAny_call ?_
  k_dflt (refine' code_part (news := [(T, _)]) (rest := rest) ?k1 ?k2 ?k3 ?k4 ?kd ?k5 ?kA ?kF ?kK ?k6 ?k7 ?k8 ?k9 ?kB ?_ ?c2 ?c3 ?c4 ?c5; (case kA => exact rfl); (case kF => exact rfl); (case kK => assumption); (case k1 => k_asm); (case k2 => k_asm); (case k3 => k_asm); (case k4 => exact N); (case kd => exact (fun q hq hm => hr q hq (List.mem_singleton.mp hm))); (case k5 => k_asm); (case k6 => k_is); (case k7 => k_is); (case k8 => ktr_room); (case k9 => exact BindsTo.of_eq rfl); (case c5 => decide); (case kB => exact locs rfl); (case c2 => exact rfl); (case c3 => exact rfl); (case c4 => exact rfl); k_whole; intro g' L' h' FG' F' N' B' X' T' hG'; (try dsimp only); (try k_lift B'); (try k_fold))
  k_steps
  k_with_none
  rename News _ _ _ _ => nE
  rename News g' _ _ _ => nG
  rename Fr g' _ _ _ => fG
  exact hret _ _ _ _ _ (adds_end N hG' fG nG nE (by k_mem) (by k_mem) (by k_ne)).1 (by assumption) (adds_end N hG' fG nG nE (by k_mem) (by k_mem) (by k_ne)).2
end
local macro_rules | `(tactic| walk_at "call ref") => `(tactic| (k_here; (with_reducible show wpAny _ _ (call (Value.ref 271) (Value.int _ _ :: Value.int _ _ :: Value.ref _ :: Value.int _ _ :: Value.int 0 _ :: List.nil)) _ _ _); k_dflt (refine' Adds.use (win1 ?h0 ?h1 ?h2 ?h3 ?h4 ?h5 ?h6 ?h7 ?h8 ?h9 ?h10 ?h11 ?h12) ?km ?kB ?kF ?kX ?kN ?kT ?kk ?kd ?ku ?_; (case kB => k_asm); (case kF => k_asm); (case kX => k_asm); (case kN => k_asm); (case kT => k_asm); (case km => k_mem); (case h0 => exact rfl); (case h1 => exact rfl); (case h2 => omega); (case h3 => omega); (case h4 => omega); (case h5 => omega); (case h6 => omega); (case h7 => omega); (case h8 => omega); (case h9 => omega); (case h10 => exact side_e (by omega) (by omega) (by omega)); (case h11 => exact side_f (by omega) (by omega) (by omega)); (case h12 => exact side_i0 (by omega) (by omega) (by omega)); (case kk => first | exact rfl | assumption); (case kd => k_room); (case ku => k_units); k_whole); intro l' n' v0 h' tk' hn' F' N'; (try simp only [List.cons_append, List.nil_append] at N'); (try dsimp only); (try k_fold); (try k_sweep)))
/-! Win3p -/
theorem walk_off_Win3p : True := by (w_top off); trivial
section
local macro_rules | `(tactic| walk_at "pyIter ref") => `(tactic| ((with_reducible show wpAny _ _ (pyIter (Value.ref _)) (fun it s₂ => LoopAtV _ _ _ _ _ _ _ _ _ it s₂) _ _); k_listUnr))
theorem win3p {w : World} {mean : ExcName → Option Value} {mg mb : Str → Option Value} {d g way pause t0 t1 t2 g0 g1 g2 a0 a1 a2 : Int} {td tg tw tp u0 u1 u2 : Tok} {T : Addr} {nT : Nat}
    (hg0 : cw d (10 * d + g) (t0 + way - meetsOf d (10 * d + g)) = g0) (hg1 : cw d (10 * d + g) (t1 + way - meetsOf d (10 * d + g)) = g1) (hg2 : cw d (10 * d + g) (t2 + way - meetsOf d (10 * d + g)) = g2)
    (ha0 : cw d (10 * d + g) (t0 - meetsOf d (10 * d + g)) = a0) (ha1 : cw d (10 * d + g) (t1 - meetsOf d (10 * d + g)) = a1) (ha2 : cw d (10 * d + g) (t2 - meetsOf d (10 * d + g)) = a2)
    (hp : 0 < pause) (h1 : 10 ≤ d) (h2 : d < 50) (h3 : d * 30 ≤ g) (h4 : g < d * 90) (h5 : 0 ≤ way) (h6 : way < 1000000)
    (b0 : -100000000 < t0 - meetsOf d (10 * d + g)) (c0 : t0 - meetsOf d (10 * d + g) < 100000000) (b1 : -100000000 < t1 - meetsOf d (10 * d + g)) (c1 : t1 - meetsOf d (10 * d + g) < 100000000)
    (b2 : -100000000 < t2 - meetsOf d (10 * d + g)) (c2 : t2 - meetsOf d (10 * d + g) < 100000000)
    (e0 : lowOf (10 * d + g) + 3 * (d + 1) ≤ a0) (e1 : lowOf (10 * d + g) + 3 * (d + 1) ≤ a1) (e2 : lowOf (10 * d + g) + 3 * (d + 1) ≤ a2)
    (f0 : lowOf (10 * d + g) ≤ g0) (f1 : g0 ≤ g1) (f2 : g1 ≤ g2) (i0 : 2 * g0 ≤ 3 * lowOf (10 * d + g)) (i1 : 2 * g1 ≤ 3 * g0) (i2 : 2 * g2 ≤ 3 * g1) (i3 : g2 ≤ 2 * (10 * d + g)) :
    Adds2 w mean mg mb 14 271 [.int d td, .int g tg, .ref T, .int way tw, .int pause tp] T (listOf [.int t0 u0, .int t1 u1, .int t2 u2].toArray nT)
      (fun C => ∀ (l : Addr) (n : Nat) (v0 v1 v2 : Tok), C (.ref l) [(l, listOf [.int g0 v0, .int g1 v1, .int g2 v2].toArray n)]) := by
  have hl := lowOf_facts (10 * d + g)
  unfold Adds2 Adds P
  refine ⟨fun C C' h p => by (dsimp only at p ⊢); intros; apply h; apply p <;> assumption, ?_⟩
  k_fill
  intro rest hr dp un gd cn cs a ccd cl outer A₀ base h₀ L m s Q E B F X N Tp hk hd hu hret
  k_with "ackG" => first | exact cw_at hg0 (by omega) | exact cw_at hg1 (by omega) | exact cw_at hg2 (by omega)
  k_with "ackA" => first | exact cw_at ha0 (by omega) | exact cw_at ha1 (by omega) | exact cw_at ha2 (by omega)
  refine wpAny_call ?_
  k_dflt (refine' code_part (news := [(T, _)]) (rest := rest) ?k1 ?k2 ?k3 ?k4 ?kd ?k5 ?kA ?kF ?kK ?k6 ?k7 ?k8 ?k9 ?kB ?_ ?c2 ?c3 ?c4 ?c5; (case kA => exact rfl); (case kF => exact rfl); (case kK => assumption); (case k1 => k_asm); (case k2 => k_asm); (case k3 => k_asm); (case k4 => exact N); (case kd => exact (fun q hq hm => hr q hq (List.mem_singleton.mp hm))); (case k5 => k_asm); (case k6 => k_is); (case k7 => k_is); (case k8 => ktr_room); (case k9 => exact BindsTo.of_eq rfl); (case c5 => decide); (case kB => exact locs rfl); (case c2 => exact rfl); (case c3 => exact rfl); (case c4 => exact rfl); k_whole; intro g' L' h' FG' F' N' B' X' T' hG'; (try dsimp only); (try k_lift B'); (try k_fold))
  k_steps
  k_with_none
  rename News _ _ _ _ => nE
  rename News g' _ _ _ => nG
  rename Fr g' _ _ _ => fG
  exact hret _ _ _ _ _ _ _ (adds_end N hG' fG nG nE (by k_mem) (by k_mem) (by k_ne)).1 (by assumption) (adds_end N hG' fG nG nE (by k_mem) (by k_mem) (by k_ne)).2
end
local macro_rules | `(tactic| walk_at "call ref") => `(tactic| (k_here; (with_reducible show wpAny _ _ (call (Value.ref 271) (Value.int _ _ :: Value.int _ _ :: Value.ref _ :: Value.int _ _ :: Value.int _ _ :: List.nil)) _ _ _); k_dflt (refine' Adds.use (win3p ?h0 ?h1 ?h2 ?h3 ?h4 ?h5 ?h6 ?h7 ?h8 ?h9 ?h10 ?h11 ?h12 ?h13 ?h14 ?h15 ?h16 ?h17 ?h18 ?h19 ?h20 ?h21 ?h22 ?h23 ?h24 ?h25 ?h26 ?h27 ?h28) ?km ?kB ?kF ?kX ?kN ?kT ?kk ?kd ?ku ?_; (case kB => k_asm); (case kF => k_asm); (case kX => k_asm); (case kN => k_asm); (case kT => k_asm); (case km => k_mem); (case h0 => exact rfl); (case h1 => exact rfl); (case h2 => exact rfl); (case h3 => exact rfl); (case h4 => exact rfl); (case h5 => exact rfl); (case h6 => omega); (case h7 => omega); (case h8 => omega); (case h9 => omega); (case h10 => omega); (case h11 => omega); (case h12 => omega); (case h13 => omega); (case h14 => omega); (case h15 => omega); (case h16 => omega); (case h17 => omega); (case h18 => omega); (case h19 => exact side_e (by omega) (by omega) (by omega)); (case h20 => exact side_e (by omega) (by omega) (by omega)); (case h21 => exact side_e (by omega) (by omega) (by omega)); (case h22 => exact side_f (by omega) (by omega) (by omega)); (case h23 => exact cw_mono (by omega) (by omega)); (case h24 => exact cw_mono (by omega) (by omega)); (case h25 => exact side_i0 (by omega) (by omega) (by omega)); (case h26 => exact side_i (by omega) (by omega) (by omega) (by omega)); (case h27 => exact side_i (by omega) (by omega) (by omega) (by omega)); (case h28 => exact side_i3 (by omega) (by omega) (by omega)); (case kk => first | exact rfl | assumption); (case kd => k_room); (case ku => k_units); k_whole); intro l' n' v0 v1 v2 h' tk' hn' F' N'; (try simp only [List.cons_append, List.nil_append] at N'); (try dsimp only); (try k_fold); (try k_sweep)))
/-! Win3 -/
theorem walk_off_Win3 : True := by (w_top off); trivial
section
local macro_rules | `(tactic| walk_at "pyIter ref") => `(tactic| ((with_reducible show wpAny _ _ (pyIter (Value.ref _)) (fun it s₂ => LoopAtV _ _ _ _ _ _ _ _ _ it s₂) _ _); k_listUnr))
theorem win3 {w : World} {mean : ExcName → Option Value} {mg mb : Str → Option Value} {d g way t0 t1 t2 g0 g1 g2 a0 a1 a2 : Int} {td tg tw tp u0 u1 u2 : Tok} {T : Addr} {nT : Nat}
    (hg0 : cw d (10 * d + g) (t0 + way - meetsOf d (10 * d + g)) = g0) (hg1 : cw d (10 * d + g) (t1 + way - meetsOf d (10 * d + g)) = g1) (hg2 : cw d (10 * d + g) (t2 + way - meetsOf d (10 * d + g)) = g2)
    (ha0 : cw d (10 * d + g) (t0 - meetsOf d (10 * d + g)) = a0) (ha1 : cw d (10 * d + g) (t1 - meetsOf d (10 * d + g)) = a1) (ha2 : cw d (10 * d + g) (t2 - meetsOf d (10 * d + g)) = a2)
    (h1 : 10 ≤ d) (h2 : d < 50) (h3 : d * 30 ≤ g) (h4 : g < d * 90) (h5 : 0 ≤ way) (h6 : way < 1000000)
    (b0 : -100000000 < t0 - meetsOf d (10 * d + g)) (c0 : t0 - meetsOf d (10 * d + g) < 100000000) (b1 : -100000000 < t1 - meetsOf d (10 * d + g)) (c1 : t1 - meetsOf d (10 * d + g) < 100000000)
    (b2 : -100000000 < t2 - meetsOf d (10 * d + g)) (c2 : t2 - meetsOf d (10 * d + g) < 100000000)
    (e0 : lowOf (10 * d + g) + 3 * (d + 1) ≤ a0) (e1 : lowOf (10 * d + g) + 3 * (d + 1) ≤ a1) (e2 : lowOf (10 * d + g) + 3 * (d + 1) ≤ a2)
    (f0 : lowOf (10 * d + g) ≤ g0) (f1 : g0 ≤ g1) (f2 : g1 ≤ g2) (i0 : 2 * g0 ≤ 3 * lowOf (10 * d + g)) (i1 : 2 * g1 ≤ 3 * g0) (i2 : 2 * g2 ≤ 3 * g1) (i3 : g2 ≤ 2 * (10 * d + g)) :
    Adds2 w mean mg mb 14 271 [.int d td, .int g tg, .ref T, .int way tw, .int 0 tp] T (listOf [.int t0 u0, .int t1 u1, .int t2 u2].toArray nT)
      (fun C => ∀ (l : Addr) (n : Nat) (v0 v1 v2 : Tok), C (.ref l) [(l, listOf [.int g0 v0, .int g1 v1, .int g2 v2].toArray n)]) := by
  have hl := lowOf_facts (10 * d + g)
  unfold Adds2 Adds P
  refine ⟨fun C C' h p => by (dsimp only at p ⊢); intros; apply h; apply p <;> assumption, ?_⟩
  k_fill
  intro rest hr dp un gd cn cs a ccd cl outer A₀ base h₀ L m s Q E B F X N Tp hk hd hu hret
  k_with "ackG" => first | exact cw_at hg0 (by omega) | exact cw_at hg1 (by omega) | exact cw_at hg2 (by omega)
  k_with "ackA" => first | exact cw_at ha0 (by omega) | exact cw_at ha1 (by omega) | exact cw_at ha2 (by omega)
  refine wpAny_call ?_
  k_dflt (refine' code_part (news := [(T, _)]) (rest := rest) ?k1 ?k2 ?k3 ?k4 ?kd ?k5 ?kA ?kF ?kK ?k6 ?k7 ?k8 ?k9 ?kB ?_ ?c2 ?c3 ?c4 ?c5; (case kA => exact rfl); (case kF => exact rfl); (case kK => assumption); (case k1 => k_asm); (case k2 => k_asm); (case k3 => k_asm); (case k4 => exact N); (case kd => exact (fun q hq hm => hr q hq (List.mem_singleton.mp hm))); (case k5 => k_asm); (case k6 => k_is); (case k7 => k_is); (case k8 => ktr_room); (case k9 => exact BindsTo.of_eq rfl); (case c5 => decide); (case kB => exact locs rfl); (case c2 => exact rfl); (case c3 => exact rfl); (case c4 => exact rfl); k_whole; intro g' L' h' FG' F' N' B' X' T' hG'; (try dsimp only); (try k_lift B'); (try k_fold))
  k_steps
  k_with_none
  rename News _ _ _ _ => nE
  rename News g' _ _ _ => nG
  rename Fr g' _ _ _ => fG
  exact hret _ _ _ _ _ _ _ (adds_end N hG' fG nG nE (by k_mem) (by k_mem) (by k_ne)).1 (by assumption) (adds_end N hG' fG nG nE (by k_mem) (by k_mem) (by k_ne)).2
end
local macro_rules | `(tactic| walk_at "call ref") => `(tactic| (k_here; (with_reducible show wpAny _ _ (call (Value.ref 271) (Value.int _ _ :: Value.int _ _ :: Value.ref _ :: Value.int _ _ :: Value.int 0 _ :: List.nil)) _ _ _); k_dflt (refine' Adds.use (win3 ?h0 ?h1 ?h2 ?h3 ?h4 ?h5 ?h6 ?h7 ?h8 ?h9 ?h10 ?h11 ?h12 ?h13 ?h14 ?h15 ?h16 ?h17 ?h18 ?h19 ?h20 ?h21 ?h22 ?h23 ?h24 ?h25 ?h26 ?h27) ?km ?kB ?kF ?kX ?kN ?kT ?kk ?kd ?ku ?_; (case kB => k_asm); (case kF => k_asm); (case kX => k_asm); (case kN => k_asm); (case kT => k_asm); (case km => k_mem); (case h0 => exact rfl); (case h1 => exact rfl); (case h2 => exact rfl); (case h3 => exact rfl); (case h4 => exact rfl); (case h5 => exact rfl); (case h6 => omega); (case h7 => omega); (case h8 => omega); (case h9 => omega); (case h10 => omega); (case h11 => omega); (case h12 => omega); (case h13 => omega); (case h14 => omega); (case h15 => omega); (case h16 => omega); (case h17 => omega); (case h18 => exact side_e (by omega) (by omega) (by omega)); (case h19 => exact side_e (by omega) (by omega) (by omega)); (case h20 => exact side_e (by omega) (by omega) (by omega)); (case h21 => exact side_f (by omega) (by omega) (by omega)); (case h22 => exact cw_mono (by omega) (by omega)); (case h23 => exact cw_mono (by omega) (by omega)); (case h24 => exact side_i0 (by omega) (by omega) (by omega)); (case h25 => exact side_i (by omega) (by omega) (by omega) (by omega)); (case h26 => exact side_i (by omega) (by omega) (by omega) (by omega)); (case h27 => exact side_i3 (by omega) (by omega) (by omega)); (case kk => first | exact rfl | assumption); (case kd => k_room); (case ku => k_units); k_whole); intro l' n' v0 v1 v2 h' tk' hn' F' N'; (try simp only [List.cons_append, List.nil_append] at N'); (try dsimp only); (try k_fold); (try k_sweep)))
/-! Law -/
theorem walk_off_Law : True := by (w_top off); trivial
section
variable {prog : Program} {w : World} {A : Around} {E : Value → Shared → Prop} {s : Shared} {a b : Int} {t u : Tok} {Q : Value → Shared → Prop}
theorem cw_pair_z {d top x y f z : Int} (hz : z = (if ((2 * d * f ^ Int.toNat 3).fmod (5 * 10 ^ Int.toNat 18) == 0) = true then 0 else 1)) (hx : x = -f) (hy : y = f) :
    cw d top x + cw d top y = 2 * top - z := by
  rw [cw_pair hx hy, hz]
  have e18 : (5 : Int) * 10 ^ Int.toNat 18 = 5000000000000000000 := by decide
  have e3 : f ^ Int.toNat 3 = f * f * f := by show f ^ 3 = _; grind
  rw [e18, e3, Int.fmod_eq_emod_of_nonneg _ (by decide)]
  simp only [beq_iff_eq]
theorem getd_1 {a b c r : Int} (h : b = r) : [a, b, c].getD (Int.toNat 1) 0 = r := h
theorem getd_02 {a b c r : Int} (h : a + c = r) : [a, b, c].getD (Int.toNat 0) 0 + [a, b, c].getD (Int.toNat 2) 0 = r := h
theorem end0 {h₀ : Heap} {L I C D : Addr} {m : Str → Option Value} {s₁ : Shared} {oI oC oD : Obj} {S : List (Addr × Obj) → Prop} {rest : Value → List (Addr × Obj) → Prop} {y : Value} {h' : Heap} {tk : Nat} {news : List (Addr × Obj)}
    (F : Fr h₀ L h' m) (N : News h₀ L h' ((I, oI) :: (C, oC) :: (D, oD) :: news)) (off : LCg.Off3 I C D news) (hS : S news) (r : rest y news) :
    LCg.CompEnd h₀ L m s₁ I oI C oC D oD S rest y { s₁ with heap := h', toks := tk } :=
  LCg.CompEnd.intro F N news (fun _ hp => hp) off hS r
theorem end1 {h₀ : Heap} {L I C D l : Addr} {m : Str → Option Value} {s₁ : Shared} {o oI oC oD : Obj} {S : List (Addr × Obj) → Prop} {rest : Value → List (Addr × Obj) → Prop} {y : Value} {h' : Heap} {tk : Nat} {news : List (Addr × Obj)}
    (F : Fr h₀ L h' m) (N : News h₀ L h' ((l, o) :: (I, oI) :: (C, oC) :: (D, oD) :: news)) (off : LCg.Off3 I C D news) (h1 : @LT.lt Nat _ I l) (h2 : @LT.lt Nat _ C l) (h3 : @LT.lt Nat _ D l) (hS : S ((l, o) :: news)) (r : rest y ((l, o) :: news)) :
    LCg.CompEnd h₀ L m s₁ I oI C oC D oD S rest y { s₁ with heap := h', toks := tk } :=
  LCg.CompEnd.intro F N ((l, o) :: news) (fun p hp => by simp only [List.mem_cons] at hp ⊢; rcases hp with h | h | h | h | h <;> simp [h]) ⟨⟨Nat.ne_of_gt h1, Nat.ne_of_gt h2, Nat.ne_of_gt h3⟩, off⟩ hS r
theorem end2 {h₀ : Heap} {L I C D l k : Addr} {m : Str → Option Value} {s₁ : Shared} {o ok oI oC oD : Obj} {S : List (Addr × Obj) → Prop} {rest : Value → List (Addr × Obj) → Prop} {y : Value} {h' : Heap} {tk : Nat} {news : List (Addr × Obj)}
    (F : Fr h₀ L h' m) (N : News h₀ L h' ((k, ok) :: (l, o) :: (I, oI) :: (C, oC) :: (D, oD) :: news)) (off : LCg.Off3 I C D news) (h1 : @LT.lt Nat _ I l) (h2 : @LT.lt Nat _ C l) (h3 : @LT.lt Nat _ D l)
    (hn : ∀ a ∈ [(k, ok)], ∀ q ∈ (l, o) :: (I, oI) :: (C, oC) :: (D, oD) :: news, q.1 ≠ a.1) (hS : S ((k, ok) :: (l, o) :: news)) (r : rest y ((k, ok) :: (l, o) :: news)) :
    LCg.CompEnd h₀ L m s₁ I oI C oC D oD S rest y { s₁ with heap := h', toks := tk } :=
  LCg.CompEnd.intro F N ((k, ok) :: (l, o) :: news) (fun p hp => by simp only [List.mem_cons] at hp ⊢; rcases hp with h | h | h | h | h | h <;> simp [h])
    ⟨⟨fun e => hn _ (.head _) _ (.tail _ (.head _)) e.symm, fun e => hn _ (.head _) _ (.tail _ (.tail _ (.head _))) e.symm, fun e => hn _ (.head _) _ (.tail _ (.tail _ (.tail _ (.head _)))) e.symm⟩,
      ⟨Nat.ne_of_gt h1, Nat.ne_of_gt h2, Nat.ne_of_gt h3⟩, off⟩ hS r
theorem menu_b (i : Nat) : 0 ≤ ([1000, 50000, 300000] : List Int).getD i 0 ∧ ([1000, 50000, 300000] : List Int).getD i 0 ≤ 300000 := by
  match i with
  | 0 => decide
  | 1 => decide
  | 2 => decide
  | n + 3 => exact ⟨by simp, by simp⟩
theorem menu_letter {M : Model} {env : Env} {x : Str} {i : Nat} {QQ : Unit → Shared → Prop} {EV : Value → Shared → Prop} (h : ∀ z : Int, 0 ≤ z → z ≤ 300000 → wpAny M A (storeName env x (.int z t)) QQ EV s) :
    wpAny M A (storeName env x (.int (([1000, 50000, 300000] : List Int).getD i 0) t)) QQ EV s := h _ (menu_b i).1 (menu_b i).2
theorem mul_letter (lo hi : Int) (ha : 0 < a) (ha2 : a < 1000) (hlo : lo ≤ b) (hhi : b < hi) (h : ∀ p t, a * lo ≤ p → p < a * hi → Q (.int p t) { s with toks := s.toks + 1 }) :
    wpAny (model prog w) A (binaryOp .Mult (.int a t) (.int b u)) Q E s :=
  mul_int (h (a * b) _ (Int.mul_le_mul_of_nonneg_left hlo (by omega)) (Int.mul_lt_mul_of_pos_left hhi ha)) (PySem.IntMulOk.of_left (PySem.intBits_le_64 (by omega) (by omega)))
theorem ite_bne_no {p q : Prop} (h : a = b) (hq : q) : if (a != b) = true then p else q := by
  rw [if_neg (by rw [h]; simp)]
  exact hq
theorem cut_letter {M : Model} {env : Env} {p q : Pos} {n₁ n₂ : Nat} {c : Bool} (h : ∀ z : Int, z = (if c = true then 0 else 1) → Q (.int z s.toks) { s with toks := s.toks + 1 }) :
    ite (c = true) (wpAny M A (eval (.Constant (.int 0) n₁ p) env) Q E s) (wpAny M A (eval (.Constant (.int 1) n₂ q) env) Q E s) := by
  split
  · exact wpAny_Constant_int (h 0 (by rw [if_pos (by assumption)]))
  · exact wpAny_Constant_int (h 1 (by rw [if_neg (by assumption)]))
theorem law_end {s₀ s₁ : Shared} {h' : Heap} {tk : Nat} {L : Addr} {m : Str → Option Value} {ws : List Int} (F : Fr s₁.heap L h' m) (hg : s₁.gens = #[]) :
    GoodW PySem.Challenge.rw_sj0116_02.row.claim (classAt s₀.heap) (ExcName.means s₀.heap) [ofPy (PyData.list (ws.map PyData.int))] s₁ (.ok (.ret (.bool true))) { heap := h', gens := s₁.gens, drawn := s₁.drawn, toks := tk, os := s₁.os } := by
  refine goodW_bool (s' := { heap := h', gens := s₁.gens, drawn := s₁.drawn, toks := tk, os := s₁.os }) F hg (raisesW_false ?_) ?_
  · wrow_none_raised
  · wrow_post
end
section
local macro_rules | `(tactic| walk_at "binaryOp Mult int int") => `(tactic| (k_here; (with_reducible show wpAny _ _ (binaryOp Operator.Mult (Value.int (10 + _) _) (Value.int (30 + _) _)) _ _ _); k_dflt (refine' mul_letter 30 90 ?h1 ?h2 ?h3 ?h4 ?_; (case h1 => omega); (case h2 => omega); (case h3 => omega); (case h4 => omega)); intro p' t' hp1' hp2'))
local macro_rules | `(tactic| walk_at "ite") => `(tactic| first | (k_here; (with_reducible show ite (_ = true) (wpAny _ _ (eval (Expr.Constant _ _ _) _) _ _ _) (wpAny _ _ (eval (Expr.Constant _ _ _) _) _ _ _)); (try dsimp only); (refine cut_letter ?_); intro z' hz') | (k_here; (with_reducible show ite ((_ != _) = true) _ _); k_dflt (refine' ite_bne_no ?hx ?_; (case hx => k_extra "iteno"); (try dsimp only))) | (k_here; (with_reducible show ite (_ = true) _ _); (try dsimp only); first | (refine ite_neg (by simp only [decide_eq_true_eq, beq_iff_eq, bne_iff_ne, ne_eq, Decidable.not_not, gt_iff_lt, ge_iff_le] <;> omega) ?_) | (refine ite_pos (by simp only [decide_eq_true_eq, beq_iff_eq, bne_iff_ne, ne_eq, gt_iff_lt, ge_iff_le] <;> omega) ?_) | fail "ite"))
local macro_rules | `(tactic| walk_at "CompRest") => `(tactic| (with_unfolding_all first | (refine LCg.CompRest.succ ?_; intro v' I' oI' C' oC' D' m' h' tk' E' hv' hC' hx' F' N' off' ne'; lcg_open hv') | refine LCg.CompRest.zero ?_))
local macro_rules | `(tactic| walk_at "CompEnd") => `(tactic| (k_dflt (first | (refine' end0 ?kF ?kN ?kO ?kS ?_; (case kF => assumption); (case kN => assumption); (case kO => assumption); (case kS => lcg_src)) | (refine' end2 ?kF ?kN ?kO ?h1 ?h2 ?h3 ?hn ?kS ?_; (case kF => assumption); (case kN => assumption); (case kO => assumption); (case h1 => omega); (case h2 => omega); (case h3 => omega); (case hn => assumption); (case kS => lcg_src)) | (refine' end1 ?kF ?kN ?kO ?h1 ?h2 ?h3 ?kS ?_; (case kF => assumption); (case kN => assumption); (case kO => assumption); (case h1 => omega); (case h2 => omega); (case h3 => omega); (case kS => lcg_src)) | fail "no turn's end"); (try dsimp only)))
local macro_rules | `(tactic| walk_at "FinE") => `(tactic| ((unfold LCg.FinE); intro D' h' tk' F' N' o1'; (try simp only [List.nil_append, List.cons_append] at N'); (try dsimp only)))
local macro_rules | `(tactic| walk_at "CompSrc") => `(tactic| (k_here; k_dflt (refine LCg.CompSrc.ledger (by rfl) (by k_asm) (by k_asm) (by k_mem) (by first | size_fits | exact Nat.le_of_ble_eq_true rfl) ?_; intro g'; lcg_lit)))
local macro_rules | `(tactic| walk_at "storeName") => `(tactic| (k_here; (with_reducible show wpAny _ _ (storeName _ _ (Value.int (List.getD _ _ _) _)) _ _ _); refine menu_letter ?_; intro z' hz1' hz2'))
set_option maxHeartbeats 40000000 in
theorem lawHolds : PySem.Challenge.rw_sj0116_02.Holds := hd (by
  k_go0
  all_goals (try k_fold)
  k_with "cwLo" => exact meets_lo (by omega) (by omega) (by omega)
  k_with "cwHi" => exact meets_hi (by omega) (by omega) (by omega)
  k_with "iteno" => first | exact (low_fdiv _).symm | exact cw_start (by omega) (by omega) (by omega) (by omega) (by omega) | exact getd_1 (cw_zero (by omega)) | exact getd_02 (cw_pair_z (by assumption) (by omega) (by omega)) | fail "iteno"
  repeat (first | ((with_reducible show GoodW _ _ _ _ _ _ _); exact law_end (by assumption) (by assumption)) | (k_unfold; (try dsimp only)) | ((with_reducible show wpAny _ _ (exec _ _) _ _ _); k_fold) | walk1 | (dsimp only; walk1) | (leave1; (try dsimp only))))
end
end Mine
set_option maxRecDepth 100000 in
theorem PySem.Challenge.cw_sj0116_02_holds : PySem.Challenge.rw_sj0116_02.Holds :=
  Mine.lawHolds
