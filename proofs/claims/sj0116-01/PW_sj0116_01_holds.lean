import PyProof.Rows.All
import Wide.All
import OpenK.AllK
import Wide.FinOn
import Lean
import PySem.Challenge.RW_sj0116_01
open PySem PySem.W PyProof.Rows
set_option Elab.async false
set_option maxRecDepth 100000
set_option maxHeartbeats 4000000
set_option linter.unusedVariables false
namespace Mine

/-- What is asked of a caller: its frame, the written part, the ledger, the top, room for frames. -/
abbrev Ready (prog : Program) (w : World) (K : Frag) (p : Program) (loose : List Str) (mean : ExcName → Option Value) (mg mb : Str → Option Value)
    (r : Nat) (f : Addr) (vs : List Value) (news : List (Addr × Obj)) (Ret : Heap → Addr → Shared → (Heap → Prop) → (Value → Shared → Prop) → Prop) : Prop :=
  ∀ (dp un : Nat) (gd : Option (List Code)) (cn : Str) (cs : Scope) (a : Addr) (ccd : Value) (cl : List (Str × Addr)) (outer : List Env)
    (A₀ : Around) (base h₀ : Heap) (L : Addr) (m : Str → Option Value) (s : Shared) (Q E : Value → Shared → Prop),
    Below A₀ base outer h₀ → Fr h₀ L s.heap m → K.In h₀ → News h₀ L s.heap news → Top p loose mean mg mb h₀ → cs.kind = .function →
    dp + r < recursionLimit → un + 10 * r < cLine →
    Ret h₀ L s (fun h' => Fr h₀ L h' m) Q →
    wpAny (model prog w) (ktrTop dp un gd cn cs L a ccd cl outer) (call (.ref f) vs) Q E s

/-- A call that turns the ledger `news` into one of which `Post` is said. -/
def Spec (prog : Program) (w : World) (K : Frag) (p : Program) (loose : List Str) (mean : ExcName → Option Value) (mg mb : Str → Option Value)
    (r : Nat) (f : Addr) (vs : List Value) (news : List (Addr × Obj)) (Post : (Value → List (Addr × Obj) → Prop) → Prop) : Prop :=
  Ready prog w K p loose mean mg mb r f vs news fun h₀ L s FrAt Q =>
    Post fun v news' => ∀ h' tk', FrAt h' → News h₀ L h' news' → Q v { s with heap := h', toks := tk' }

theorem Spec.use {prog : Program} {w : World} {K : Frag} {p : Program} {loose : List Str} {mean : ExcName → Option Value} {mg mb : Str → Option Value}
    {r : Nat} {f : Addr} {vs : List Value} {news : List (Addr × Obj)} {Post : (Value → List (Addr × Obj) → Prop) → Prop} 
    {dp un : Nat} {gd : Option (List Code)} {cn : Str} {cs : Scope} {a : Addr} {ccd : Value} {cl : List (Str × Addr)} {outer : List Env}
    {A₀ : Around} {base h₀ : Heap} {L : Addr} {m : Str → Option Value} {s : Shared} {Q E : Value → Shared → Prop}
    (C : Spec prog w K p loose mean mg mb r f vs news Post)
    (B : Below A₀ base outer h₀) (F : Fr h₀ L s.heap m) (X : K.In h₀) (N : News h₀ L s.heap news) (T : Top p loose mean mg mb h₀) (hk : cs.kind = .function)
    (hd : dp + r < recursionLimit) (hu : un + 10 * r < cLine)
    (ret : Post fun v news' => ∀ h' tk', Fr h₀ L h' m → News h₀ L h' news' → Q v { s with heap := h', toks := tk' }) :
    wpAny (model prog w) (ktrTop dp un gd cn cs L a ccd cl outer) (call (.ref f) vs) Q E s :=
  C dp un gd cn cs a ccd cl outer A₀ base h₀ L m s Q E B F X N T hk hd hu ret

/-- A call that leaves every ledger as it is. -/
def Pure (prog : Program) (w : World) (K : Frag) (p : Program) (loose : List Str) (mean : ExcName → Option Value) (mg mb : Str → Option Value)
    (r : Nat) (f : Addr) (vs : List Value) (Post : (Value → Prop) → Prop) : Prop :=
  ∀ news, Ready prog w K p loose mean mg mb r f vs news fun h₀ L s FrAt Q =>
    Post fun v => ∀ h' tk', FrAt h' → News h₀ L h' news → Q v { s with heap := h', toks := tk' }

theorem Pure.use {prog : Program} {w : World} {K : Frag} {p : Program} {loose : List Str} {mean : ExcName → Option Value} {mg mb : Str → Option Value}
    {r : Nat} {f : Addr} {vs : List Value} {news : List (Addr × Obj)} {Post : (Value → Prop) → Prop} 
    {dp un : Nat} {gd : Option (List Code)} {cn : Str} {cs : Scope} {a : Addr} {ccd : Value} {cl : List (Str × Addr)} {outer : List Env}
    {A₀ : Around} {base h₀ : Heap} {L : Addr} {m : Str → Option Value} {s : Shared} {Q E : Value → Shared → Prop}
    (C : Pure prog w K p loose mean mg mb r f vs Post)
    (B : Below A₀ base outer h₀) (F : Fr h₀ L s.heap m) (X : K.In h₀) (N : News h₀ L s.heap news) (T : Top p loose mean mg mb h₀) (hk : cs.kind = .function)
    (hd : dp + r < recursionLimit) (hu : un + 10 * r < cLine)
    (ret : Post fun v => ∀ h' tk', Fr h₀ L h' m → News h₀ L h' news → Q v { s with heap := h', toks := tk' }) :
    wpAny (model prog w) (ktrTop dp un gd cn cs L a ccd cl outer) (call (.ref f) vs) Q E s :=
  C news dp un gd cn cs a ccd cl outer A₀ base h₀ L m s Q E B F X N T hk hd hu ret

/-- of what is said behind a call: it may be made weaker -/
abbrev Mono {α : Type} (Post : (Value → α → Prop) → Prop) : Prop := ∀ C C' : Value → α → Prop, (∀ v x, C v x → C' v x) → Post C → Post C'
/-- A call that turns one object of the ledger, `d`, alone; `ro` is what it reads. -/
def Turns (prog : Program) (w : World) (K : Frag) (p : Program) (loose : List Str) (mean : ExcName → Option Value) (mg mb : Str → Option Value)
    (r : Nat) (f : Addr) (vs : List Value) (d : Addr) (o : Obj) (ro : List (Addr × Obj)) (Post : (Value → Obj → Prop) → Prop) : Prop :=
  Mono Post ∧ ∀ rest, (∀ q ∈ rest, q.1 ≠ d) → (∀ q ∈ ro, q ∈ rest) → Ready prog w K p loose mean mg mb r f vs ((d, o) :: rest) fun h₀ L s FrAt Q =>
    Post fun v o' => ∀ h' tk', FrAt h' → News h₀ L h' ((d, o') :: rest) → Q v { s with heap := h', toks := tk' }

theorem Turns.use {prog : Program} {w : World} {K : Frag} {p : Program} {loose : List Str} {mean : ExcName → Option Value} {mg mb : Str → Option Value}
    {r : Nat} {f : Addr} {vs : List Value} {news : List (Addr × Obj)} {d : Addr} {o : Obj} {ro : List (Addr × Obj)} {Post : (Value → Obj → Prop) → Prop} {g : Obj → List (Addr × Obj)}
    {dp un : Nat} {gd : Option (List Code)} {cn : Str} {cs : Scope} {a : Addr} {ccd : Value} {cl : List (Str × Addr)} {outer : List Env}
    {A₀ : Around} {base h₀ : Heap} {L : Addr} {m : Str → Option Value} {s : Shared} {Q E : Value → Shared → Prop}
    (C : Turns prog w K p loose mean mg mb r f vs d o ro Post)
    (U : UpdF d o news g) (hro : ∀ q ∈ ro, q ∈ news ∧ q.1 ≠ d)
    (B : Below A₀ base outer h₀) (F : Fr h₀ L s.heap m) (X : K.In h₀) (N : News h₀ L s.heap news) (T : Top p loose mean mg mb h₀) (hk : cs.kind = .function)
    (hd : dp + r < recursionLimit) (hu : un + 10 * r < cLine)
    (ret : Post fun v o' => ∀ h' tk', Fr h₀ L h' m → News h₀ L h' (g o') → Q v { s with heap := h', toks := tk' }) :
    wpAny (model prog w) (ktrTop dp un gd cn cs L a ccd cl outer) (call (.ref f) vs) Q E s := by
  obtain ⟨pre, post, e1, e2, e3, e4⟩ := U.split
  unfold Turns at C
  obtain ⟨hmono, C⟩ := C
  have k1 : ∀ q ∈ pre ++ post, q.1 ≠ d := fun q hq => (List.mem_append.mp hq).elim (e3 q) (e4 q)
  have k2 : ∀ q ∈ ro, q ∈ pre ++ post := by
    intro q hq
    have h1 := (hro q hq).1
    have h2 := (hro q hq).2
    rw [e1] at h1
    rcases List.mem_append.mp h1 with h | h
    · exact List.mem_append_left _ h
    · rcases List.mem_cons.mp h with h | h
      · exact absurd (by rw [h]) h2
      · exact List.mem_append_right _ h
  have k3 : News h₀ L s.heap ((d, o) :: (pre ++ post)) := by
    intro q hq
    refine N q ?_
    rw [e1]
    rcases List.mem_cons.mp hq with h | h
    · rw [h]; exact List.mem_append_right _ (.head _)
    · rcases List.mem_append.mp h with h | h
      · exact List.mem_append_left _ h
      · exact List.mem_append_right _ (.tail _ h)
  refine C (pre ++ post) k1 k2 dp un gd cn cs a ccd cl outer A₀ base h₀ L m s Q E B F X k3 T hk hd hu (hmono _ _ ?_ ret)
  intro v o' ret h' tk' hF hN
  refine ret h' tk' hF ?_
  rw [e2 o']
  intro q hq
  rcases List.mem_append.mp hq with h | h
  · exact hN q (.tail _ (List.mem_append_left _ h))
  · rcases List.mem_cons.mp h with h | h
    · rw [h]; exact hN _ (.head _)
    · exact hN q (.tail _ (List.mem_append_right _ h))

theorem allLt_all {d : Addr} {l : List (Addr × Obj)} : AllLt d l → ∀ q ∈ l, q.1 < d := by
  induction l with
  | nil => intro _ q hq; exact absurd hq (List.not_mem_nil)
  | cons p r ih =>
    intro h q hq
    have h1 : @LT.lt Nat _ p.1 d := by unfold AllLt at h; exact h.1
    have h2 : AllLt d r := by unfold AllLt at h; exact h.2
    rcases List.mem_cons.mp hq with e | e
    · rw [e]; exact h1
    · exact ih h2 q e
theorem allLt_ne {d : Addr} {l : List (Addr × Obj)} (h : AllLt d l) : ∀ q ∈ l, q.1 ≠ d := fun q hq => Nat.ne_of_lt (allLt_all h q hq)
theorem lt_ne {d : Addr} {l : List (Addr × Obj)} (h : ∀ q ∈ l, q.1 < d) : ∀ q ∈ l, q.1 ≠ d := fun q hq => Nat.ne_of_lt (h q hq)
theorem lt_ne2 {d e : Addr} {l : List (Addr × Obj)} (h : ∀ q ∈ l, q.1 < d) (hde : d ≤ e) : ∀ q ∈ l, q.1 ≠ e := fun q hq => Nat.ne_of_lt (Nat.lt_of_lt_of_le (h q hq) hde)
section
variable {prog : Program} {w : World} {A : Around} {E : Value → Shared → Prop} {s : Shared} {h₀ : Heap} {L : Addr} {m : Str → Option Value} {news : List (Addr × Obj)} {a b : Int} {t u : Tok} {Q : Value → Shared → Prop}
theorem max_l (hab : b ≤ a) (hh : A.handled = none) (F : Fr h₀ L s.heap m) (N : News h₀ L s.heap news) (h : ∀ h' tk t', Fr h₀ L h' m → News h₀ L h' news → Q (.int a t') { s with heap := h', toks := tk }) :
    wpAny (model prog w) A (call (.builtin "max") [.int a t, .int b u]) Q E s := max_two_N hh F N fun h' tk F' N' => by
  have e : (if b > a then b else a) = a := if_neg (by omega)
  rw [e]; exact h h' tk _ F' N'
theorem max_r (hab : a ≤ b) (hh : A.handled = none) (F : Fr h₀ L s.heap m) (N : News h₀ L s.heap news) (h : ∀ h' tk t', Fr h₀ L h' m → News h₀ L h' news → Q (.int b t') { s with heap := h', toks := tk }) :
    wpAny (model prog w) A (call (.builtin "max") [.int a t, .int b u]) Q E s := max_two_N hh F N fun h' tk F' N' => by
  have e : (if b > a then b else a) = b := by split <;> omega
  rw [e]; exact h h' tk _ F' N'
theorem min_l (hab : a ≤ b) (hh : A.handled = none) (F : Fr h₀ L s.heap m) (N : News h₀ L s.heap news) (h : ∀ h' tk t', Fr h₀ L h' m → News h₀ L h' news → Q (.int a t') { s with heap := h', toks := tk }) :
    wpAny (model prog w) A (call (.builtin "min") [.int a t, .int b u]) Q E s := min_two_N hh F N fun h' tk F' N' => by
  have e : (if b < a then b else a) = a := if_neg (by omega)
  rw [e]; exact h h' tk _ F' N'
theorem min_r (hab : b ≤ a) (hh : A.handled = none) (F : Fr h₀ L s.heap m) (N : News h₀ L s.heap news) (h : ∀ h' tk t', Fr h₀ L h' m → News h₀ L h' news → Q (.int b t') { s with heap := h', toks := tk }) :
    wpAny (model prog w) A (call (.builtin "min") [.int a t, .int b u]) Q E s := min_two_N hh F N fun h' tk F' N' => by
  have e : (if b < a then b else a) = b := by split <;> omega
  rw [e]; exact h h' tk _ F' N'
end
/-- A def's call, its ledger cut in two: `news` is what it may turn; `rest` stands in the heap that it finds, unturned. -/
theorem code_part {prog : Program} {w : World} {A₀ A : Around} {s : Shared} {base h₀ : Heap} {outer : List Env} {L : Addr} {m mg mb : Str → Option Value} {env : Env} {news rest : List (Addr × Obj)} {K : Frag} {p : Program} {loose : List Str} {mean : ExcName → Option Value}
    {R : Result → Shared → Prop} {name qual : Str} {params : Arguments} {body : List Stmt} {scope : Scope} {dV kV doc pm cdv ct oc : Value} {an od : Option Addr} {osl : Array (Option Value)} {f : Addr} {args : Args} {binds : List (Str × Value)}
    (B : Below A₀ base outer h₀) (F : Fr h₀ L s.heap m) (X : K.In h₀) (N : News h₀ L s.heap (news ++ rest)) (hdis : ∀ q ∈ rest, q.1 ∉ news.map (·.1)) (T : Top p loose mean mg mb h₀)
    (hA : A.frames = some (env :: outer)) (hf : env.frame = some L) (hke : env.scope.kind = .function)
    (ho : K.lookup f = some ⟨oc, od, .func (fnOf name qual params body scope dV kV doc pm an cdv ct), osl⟩) (hcd : codeIn K cdv qual = true) (hroom : A.depth < recursionLimit)
    (hbind : BindsTo s (fnOf name qual params body scope dV kV doc pm an cdv ct) args binds) (hloc : ∀ y ∈ binds, scope.names.lookup y.1 = some .local)
    (h : ∀ g L' h₁, Fr h₀ L g m → Fr g L' h₁ (fun y => binds.reverse.lookup y) → News g L' h₁ news → Below A base (env :: outer) g → K.In g → Top p loose mean mg mb g → (∀ q ∈ rest, g.get? q.1 = some q.2) →
      wpAny (model prog w) (A.deeper (envOf qual scope L' f cdv)) (execs body (envOf qual scope L' f cdv))
        (fun fl s' => LeaveK h₀ L m g R (match fl with | .ret v => v | _ => .none) s')
        (fun e s' => wpAny (model prog w) (A.deeper (envOf qual scope L' f cdv)) (leaving (envOf qual scope L' f cdv) e) (fun _ s'' => R (.error e) s'') (fun e' s'' => R (.error e') s'') s')
        { s with heap := h₁, toks := s.toks + binds.length })
    (hco : scope.isCoroutine = false) (hgen : scope.isGenerator = false) (hk : scope.kind = .function)
    (hcell : ∀ x ∈ scope.names, x.2 ≠ .cell) : codeAny (model prog w) A (.call (.ref f) args) R s := by
  have N1 : News h₀ L s.heap news := fun q hq => N q (List.mem_append_left _ hq)
  have gx := groundX (R := R) B F N1 hA hf hke
  have st := gx.2.2.1
  have Xs := X.keeps F.keep
  refine codeAny_call_def (fd := fnX name qual params body scope [] dV kV doc pm an cdv ct) (body := body) (binds := binds) hroom (Xs _ _ ho) rfl (T.nolimit.keeps F.keep) (codeRec_of Xs hcd) rfl hbind hcell hloc (fun h₁ hns hk₁ => ?_) hco hgen hk
  refine wpAny_mono (h _ s.heap.objs.size h₁ gx.1 ⟨hns, fun b o e => hk₁ b o (of_hideAll _ e), Nat.le_of_eq (hideAll_size _ _)⟩ ?_ gx.2.1 (X.keeps st) (T.keeps st) ?_) (fun fl s' hl => gx.2.2.2 _ _ hl) fun _ _ y => y
  · exact fun q hq => ⟨hk₁ _ _ (N1 q hq).1, Nat.ne_of_lt (Heap.lt_size (N1 q hq).1), hideAll_none _ (List.mem_map_of_mem hq)⟩
  · exact fun q hq => hideAll_get _ (N q (List.mem_append_right _ hq)).1 (hdis q hq)
/-- The same for a def some of whose names are cells. -/
theorem code_partC {prog : Program} {w : World} {A₀ A : Around} {s : Shared} {base h₀ : Heap} {outer : List Env} {L : Addr} {m mg mb : Str → Option Value} {env : Env} {news rest : List (Addr × Obj)} {K : Frag} {p : Program} {loose : List Str} {mean : ExcName → Option Value}
    {R : Result → Shared → Prop} {name qual : Str} {params : Arguments} {body : List Stmt} {scope : Scope} {dV kV doc pm cdv ct oc : Value} {an od : Option Addr} {osl : Array (Option Value)} {f : Addr} {args : Args} {binds : List (Str × Value)}
    (B : Below A₀ base outer h₀) (F : Fr h₀ L s.heap m) (X : K.In h₀) (N : News h₀ L s.heap (news ++ rest)) (hdis : ∀ q ∈ rest, q.1 ∉ news.map (·.1)) (T : Top p loose mean mg mb h₀)
    (hA : A.frames = some (env :: outer)) (hf : env.frame = some L) (hke : env.scope.kind = .function)
    (ho : K.lookup f = some ⟨oc, od, .func (fnOf name qual params body scope dV kV doc pm an cdv ct), osl⟩) (hcd : codeIn K cdv qual = true) (hroom : A.depth < recursionLimit)
    (hbind : BindsTo s (fnOf name qual params body scope dV kV doc pm an cdv ct) args binds) (hkind : (binds.all fun y => scope.names.lookup y.1 == some .local || scope.names.lookup y.1 == some .cell) = true)
    (hnd : ((cellsFrom 0 scope.names []).map (·.1)).Nodup)
    (h : ∀ g L' h₁ tk cells, Fr h₀ L g m → Fr g L' h₁ (bindL (envOfC qual scope L' f cdv).kindOf binds fun _ => none) → News g L' h₁ (cells ++ news) →
      CellsAre (bindC (envOfC qual scope L' f cdv).kindOf binds fun _ => none) (cellsFrom (L' + 1) scope.names []) cells → Below A base (env :: outer) g → K.In g → Top p loose mean mg mb g → (∀ q ∈ news, q.1 < L') → (∀ q ∈ rest, g.get? q.1 = some q.2) →
      wpAny (model prog w) (A.deeper (envOfC qual scope L' f cdv)) (execs body (envOfC qual scope L' f cdv))
        (fun fl s' => LeaveK h₀ L m g R (match fl with | .ret v => v | _ => .none) s')
        (fun e s' => wpAny (model prog w) (A.deeper (envOfC qual scope L' f cdv)) (leaving (envOfC qual scope L' f cdv) e) (fun _ s'' => R (.error e) s'') (fun e' s'' => R (.error e') s'') s')
        { s with heap := h₁, toks := tk })
    (hco : scope.isCoroutine = false) (hgen : scope.isGenerator = false) (hk : scope.kind = .function) : codeAny (model prog w) A (.call (.ref f) args) R s := by
  have N1 : News h₀ L s.heap news := fun q hq => N q (List.mem_append_left _ hq)
  have gx := groundX (R := R) B F N1 hA hf hke
  have st := gx.2.2.1
  have Xs := X.keeps F.keep
  refine codeAny_call_function hroom (Xs _ _ ho) rfl hco hgen rfl (codeRec_of Xs hcd) (hbind _ _ _ _ ?_)
  refine wpAny_newFunctionEnv_cells hk (kindsX hkind _) fun env' he s' x => ?_
  subst he
  refine ⟨((T.nolimit).keeps F.keep).keeps x.toInCall.keep, codeAny_func ?_⟩
  obtain ⟨h₁, tk, es, _⟩ := x.done
  subst es
  have hk₁ := x.toInCall.keep
  obtain ⟨cells, NC, Y⟩ := Cl.news (h₀ := s.heap) (Nat.le_refl _) fun n c hm => ⟨x.cell n c (lookup_of_mem_nodup (cellsFrom_names scope.names 0 (s.heap.objs.size + 1) [] [] rfl ▸ hnd) hm), x.above n c hm⟩
  refine wpAny_mono (h _ s.heap.objs.size h₁ tk cells gx.1 ⟨x.toInCall.ns, fun b o e => hk₁ b o (of_hideAll _ e), Nat.le_of_eq (hideAll_size _ _)⟩ ?_ Y gx.2.1 (X.keeps st) (T.keeps st) (fun q hq => Heap.lt_size (N1 q hq).1) ?_) (fun fl s' hl => gx.2.2.2 _ _ hl) fun _ _ y => y
  · intro q hq
    rcases List.mem_append.mp hq with hq | hq
    · refine ⟨(NC q hq).1, (NC q hq).2.1, ?_⟩
      cases e : (hideAll s.heap (news.map (·.1))).get? q.1 with
      | none => rfl
      | some o => have := of_hideAll _ e; rw [(NC q hq).2.2] at this; cases this
    · exact ⟨hk₁ _ _ (N1 q hq).1, Nat.ne_of_lt (Heap.lt_size (N1 q hq).1), hideAll_none _ (List.mem_map_of_mem hq)⟩
  · exact fun q hq => hideAll_get _ (N q (List.mem_append_right _ hq)).1 (hdis q hq)
theorem part_back {h₀ g h : Heap} {L L' : Addr} {m' : Str → Option Value} {a b : List (Addr × Obj)} {h' : Heap} (N₀ : News h₀ L h' (a ++ b)) (hG : ∀ q ∈ b, g.get? q.1 = some q.2) (F : Fr g L' h m') : News h₀ L h b :=
  fun q hq => ⟨F.keep _ _ (hG q hq), (N₀ q (List.mem_append_right _ hq)).2⟩
theorem news_app {h₀ h : Heap} {L : Addr} {a b : List (Addr × Obj)} (N : News h₀ L h a) (N' : News h₀ L h b) : News h₀ L h (a ++ b) :=
  fun q hq => (List.mem_append.mp hq).elim (N q) (N' q)
/-- A call that reads one object of the ledger, `d`, and makes things. -/
def Adds (prog : Program) (w : World) (K : Frag) (p : Program) (loose : List Str) (mean : ExcName → Option Value) (mg mb : Str → Option Value)
    (r : Nat) (f : Addr) (vs : List Value) (d : Addr) (o : Obj) (Post : (Value → List (Addr × Obj) → Prop) → Prop) : Prop :=
  Mono Post ∧ ∀ rest, (∀ q ∈ rest, q.1 ≠ d) → Ready prog w K p loose mean mg mb r f vs ((d, o) :: rest) fun h₀ L s FrAt Q =>
    Post fun v add => ∀ h' tk', (∀ a ∈ add, ∀ q ∈ (d, o) :: rest, q.1 ≠ a.1) → FrAt h' → News h₀ L h' (add ++ (d, o) :: rest) → Q v { s with heap := h', toks := tk' }

theorem Adds.use {prog : Program} {w : World} {K : Frag} {p : Program} {loose : List Str} {mean : ExcName → Option Value} {mg mb : Str → Option Value}
    {r : Nat} {f : Addr} {vs : List Value} {news : List (Addr × Obj)} {d : Addr} {o : Obj} {Post : (Value → List (Addr × Obj) → Prop) → Prop}
    {dp un : Nat} {gd : Option (List Code)} {cn : Str} {cs : Scope} {a : Addr} {ccd : Value} {cl : List (Str × Addr)} {outer : List Env}
    {A₀ : Around} {base h₀ : Heap} {L : Addr} {m : Str → Option Value} {s : Shared} {Q E : Value → Shared → Prop}
    (C : Adds prog w K p loose mean mg mb r f vs d o Post) (hm : (d, o) ∈ news)
    (B : Below A₀ base outer h₀) (F : Fr h₀ L s.heap m) (X : K.In h₀) (N : News h₀ L s.heap news) (T : Top p loose mean mg mb h₀) (hk : cs.kind = .function)
    (hd : dp + r < recursionLimit) (hu : un + 10 * r < cLine)
    (ret : Post fun v add => ∀ h' tk', (∀ a ∈ add, ∀ q ∈ news, q.1 ≠ a.1) → Fr h₀ L h' m → News h₀ L h' (add ++ news) → Q v { s with heap := h', toks := tk' }) :
    wpAny (model prog w) (ktrTop dp un gd cn cs L a ccd cl outer) (call (.ref f) vs) Q E s := by
  unfold Adds at C
  obtain ⟨hmono, C⟩ := C
  have key : ∀ q ∈ news, q ∈ (d, o) :: news.filter (fun q => decide (q.1 ≠ d)) := by
    intro q hq
    by_cases e : q.1 = d
    · have h1 := (N q hq).1
      have h2 := (N _ hm).1
      rw [e] at h1
      have h3 : q.2 = o := Option.some.inj (h1.symm.trans h2)
      exact List.mem_cons.mpr (.inl (Prod.ext e h3))
    · exact List.mem_cons.mpr (.inr (List.mem_filter.mpr ⟨hq, by simpa using e⟩))
  refine C (news.filter fun q => decide (q.1 ≠ d)) (fun q hq => by simpa using (List.mem_filter.mp hq).2) dp un gd cn cs a ccd cl outer A₀ base h₀ L m s Q E B F X ?_ T hk hd hu (hmono _ _ ?_ ret)
  · intro q hq
    rcases List.mem_cons.mp hq with h | h
    · rw [h]; exact N _ hm
    · exact N q (List.mem_filter.mp h).1
  · intro v add ret h' tk' hf hF hN
    refine ret h' tk' (fun a ha q hq => hf a ha q (key q hq)) hF ?_
    intro q hq
    rcases List.mem_append.mp hq with h | h
    · exact hN q (List.mem_append_left _ h)
    · exact hN q (List.mem_append_right _ (key q h))

theorem adds_end {h₀ g h h₁ : Heap} {L L' d l : Addr} {m' : Str → Option Value} {o ol : Obj} {rest led : List (Addr × Obj)}
    (N₀ : News h₀ L h₁ ([(d, o)] ++ rest)) (hG : ∀ q ∈ rest, g.get? q.1 = some q.2) (F : Fr g L' h m') (N : News g L' h led) (k : News h₀ L h led)
    (hl : (l, ol) ∈ led) (hd : (d, o) ∈ led) (hne : d ≠ l) : (∀ a ∈ [(l, ol)], ∀ q ∈ (d, o) :: rest, q.1 ≠ a.1) ∧ News h₀ L h ([(l, ol)] ++ (d, o) :: rest) := by
  refine ⟨fun a ha q hq => ?_, fun q hq => ?_⟩
  · rw [List.mem_singleton.mp ha]
    rcases List.mem_cons.mp hq with e | e
    · rw [e]; exact hne
    · intro e'
      have h1 := hG q e
      have h2 := (N _ hl).2.2
      have e'' : q.1 = l := e'
      have h2' : g.get? l = none := h2
      rw [e'', h2'] at h1
      cases h1
  · rcases List.mem_append.mp hq with e | e
    · rw [List.mem_singleton.mp e]; exact k _ hl
    · rcases List.mem_cons.mp e with e | e
      · rw [e]; exact k _ hd
      · exact part_back N₀ hG F q e

theorem kro_one {q : Addr × Obj} {d : Addr} {news : List (Addr × Obj)} (h : q ∈ news) (hn : q.1 ≠ d) : ∀ p ∈ [q], p ∈ news ∧ p.1 ≠ d := by
  intro p hp
  rw [List.mem_singleton.mp hp]
  exact ⟨h, hn⟩
theorem news_drop4 {h₀ h : Heap} {L : Addr} {a b c d : Addr × Obj} {l : List (Addr × Obj)} (N : News h₀ L h (a :: b :: c :: d :: l)) : News h₀ L h l := fun q hq => N q (.tail _ (.tail _ (.tail _ (.tail _ hq))))
theorem bool_ret {Q : Value → Shared → Prop} {b : Bool} {s : Shared} (e : b = true) (h : Q (.bool true) s) : Q (.bool b) s := by rw [e]; exact h
theorem kro_two {p q : Addr × Obj} {d : Addr} {news : List (Addr × Obj)} (h : p ∈ news) (hn : p.1 ≠ d) (h2 : q ∈ news) (hn2 : q.1 ≠ d) : ∀ r ∈ [p, q], r ∈ news ∧ r.1 ≠ d := by
  intro r hr
  rcases List.mem_cons.mp hr with e | e
  · rw [e]; exact ⟨h, hn⟩
  · rw [List.mem_singleton.mp e]; exact ⟨h2, hn2⟩
theorem units_under_make (A : Around) (C : Addr) (vals : List Value) : (A.under (.builtin "type.__call__" ⟨.ref C :: vals, []⟩)).units = A.units + 1 := rfl
def R : RowW := PySem.Challenge.rw_sj0116_01.row.toRowW
def view : Program := { R.prog with main := { R.prog.main with body := ((R.prog.main.body.eraseIdx 22).eraseIdx 10).eraseIdx 1 } }
local macro_rules | `(tactic| o_head $H) => `(tactic| (refine holds_open (q := view) (loose := []) (Xt := fun s => xlAt view [] s && recOk (RowW.records R) s) (XP := XL view []) (Yf := Hook.obs $H) (Ya := Hook.val $H) (YP := Hook.says $H) (N := 3514) ?hl (Hook.of $H) (Hook.keeps $H) (fun s e => xl_of s (Bool.and_eq_true_iff.mp e).1) XL.keeps (by rfl) (by rfl) (by rfl) (fun s e => recFacts_of (Bool.and_eq_true_iff.mp e).2) (by rfl) (by first | assumption | decide +kernel) (by decide +kernel) ⟨rfl, rfl, rfl, rfl, rfl, by decide +kernel⟩ ?hw ?hc; (case hl => (intro w; kernel_rfl))))
open_top hd for PySem.Challenge.rw_sj0116_01
local macro_rules | `(tactic| k_room) => `(tactic| ((try simp only [depth_under_make, depth_under_kw, depth_in1, depth_deeper, depth_caller]); (try dsimp only [ktrTop]); omega))
local macro_rules | `(tactic| ktr_room) => `(tactic| k_room)
local macro_rules | `(tactic| k_units) => `(tactic| ((try simp only [units_in1, units_deeper, units_under_make, Around.mark_units, units_caller]); (try dsimp only [ktrTop]); (have hcL9 := cLine_is); omega))
local macro_rules | `(tactic| ktr_units) => `(tactic| k_units)
local macro_rules | `(tactic| k_all) => `(tactic| first | exact allLt_ne (by assumption) | exact lt_ne (by assumption) | exact lt_ne2 (by assumption) (by omega) | assumption)
local macro_rules | `(tactic| k_mem) => `(tactic| assumption)
local macro_rules | `(tactic| walk_at "ite") => `(tactic| (k_here; (with_reducible show ite (_ = true) _ _); first | (refine ite_neg (by simp only [decide_eq_true_eq, beq_iff_eq, bne_iff_ne, ne_eq, Decidable.not_not, gt_iff_lt, ge_iff_le] <;> omega) ?_) | (refine ite_pos (by simp only [decide_eq_true_eq, beq_iff_eq, bne_iff_ne, ne_eq, gt_iff_lt, ge_iff_le] <;> omega) ?_) | (refine' ite_neg ?hx ?_; (case hx => k_extra "iteno"))))
local macro_rules | `(tactic| walk_at "call builtin:max") => `(tactic| (k_here; (with_reducible show wpAny _ _ (call (Value.builtin _) [Value.int _ _, Value.int _ _]) _ _ _); k_dflt (first | (refine' max_l ?hab ?hh ?kF ?kN ?_; (case hab => omega); (case hh => with_unfolding_all rfl); (case kF => k_asm); (case kN => k_asm)) | (refine' max_r ?hab ?hh ?kF ?kN ?_; (case hab => omega); (case hh => with_unfolding_all rfl); (case kF => k_asm); (case kN => k_asm))); intro h' tk' t' F' N'; (try dsimp only); (try k_sweep)))
local macro_rules | `(tactic| walk_at "call builtin:min") => `(tactic| (k_here; (with_reducible show wpAny _ _ (call (Value.builtin _) [Value.int _ _, Value.int _ _]) _ _ _); k_dflt (first | (refine' min_l ?hab ?hh ?kF ?kN ?_; (case hab => omega); (case hh => with_unfolding_all rfl); (case kF => k_asm); (case kN => k_asm)) | (refine' min_r ?hab ?hh ?kF ?kN ?_; (case hab => omega); (case hh => with_unfolding_all rfl); (case kF => k_asm); (case kN => k_asm))); intro h' tk' t' F' N'; (try dsimp only); (try k_sweep)))
local macro_rules | `(tactic| k_steps) => `(tactic| repeat' (first | (k_unfold; (try dsimp only)) | (k_end; wrow_close) | ((with_reducible show wpAny _ _ (exec _ _) _ _ _); k_fold) | walk1 | (dsimp only; walk1) | (leave1; walk_say "STEP leave1"; try dsimp only) | fail "no step"))
local macro_rules | `(tactic| walk_at "execs cons") => `(tactic| (k_here; (with_reducible show wpAny _ _ (execs (Stmt.For _ _ _ _ _ :: _) _) _ _ _); (with_reducible refine wpAny_execs_cons ?_); (try dsimp only)))
/-! Defs -/
theorem walk_off_Defs : True := by (w_top off); k_with_none; trivial
abbrev P := PySem.Challenge.rw_sj0116_01.row.prog
abbrev Pure2 (w : World) (mean : ExcName → Option Value) (mg mb : Str → Option Value) (r : Nat) (f : Addr) (vs : List Value) (Post : (Value → Prop) → Prop) : Prop :=
  Pure P w (hd.heap_39 w.params) view (looseW view []) mean mg mb r f vs Post
abbrev Spec2 (w : World) (mean : ExcName → Option Value) (mg mb : Str → Option Value) (r : Nat) (f : Addr) (vs : List Value) (news : List (Addr × Obj)) (Post : (Value → List (Addr × Obj) → Prop) → Prop) : Prop :=
  Spec P w (hd.heap_39 w.params) view (looseW view []) mean mg mb r f vs news Post
abbrev Turns2 (w : World) (mean : ExcName → Option Value) (mg mb : Str → Option Value) (r : Nat) (f : Addr) (vs : List Value) (d : Addr) (o : Obj) (ro : List (Addr × Obj)) (Post : (Value → Obj → Prop) → Prop) : Prop :=
  Turns P w (hd.heap_39 w.params) view (looseW view []) mean mg mb r f vs d o ro Post
abbrev Adds2 (w : World) (mean : ExcName → Option Value) (mg mb : Str → Option Value) (r : Nat) (f : Addr) (vs : List Value) (d : Addr) (o : Obj) (Post : (Value → List (Addr × Obj) → Prop) → Prop) : Prop :=
  Adds P w (hd.heap_39 w.params) view (looseW view []) mean mg mb r f vs d o Post
/-! First -/
theorem walk_off_First : True := by (w_top off); k_with_none; trivial
theorem ackR0 {w : World} {mean : ExcName → Option Value} {mg mb : Str → Option Value} {d W g F : Int} {x dx : Addr} {k0 k1 k2 k3 k4 k5 v0 v1 v4 v5 tg t1 t2 t9 : Tok} (hne : dx < x) :
    Turns2 w mean mg mb 4 91 [.ref x, .int g tg, .int 1 t1, .bool true, .int 2 t2, .int 9 t9] dx (dictOf [{ hash := PyData.keyHash w.params (Str.ofString "datagram"), key := Value.str (Str.ofString "datagram") k0, val := .int d v0 }, { hash := PyData.keyHash w.params (Str.ofString "window"), key := Value.str (Str.ofString "window") k1, val := .int W v1 }, { hash := PyData.keyHash w.params (Str.ofString "threshold"), key := Value.str (Str.ofString "threshold") k2, val := .none }, { hash := PyData.keyHash w.params (Str.ofString "recovery_at"), key := Value.str (Str.ofString "recovery_at") k3, val := .none }, { hash := PyData.keyHash w.params (Str.ofString "in_flight"), key := Value.str (Str.ofString "in_flight") k4, val := .int F v4 }, { hash := PyData.keyHash w.params (Str.ofString "credit"), key := Value.str (Str.ofString "credit") k5, val := .int 0 v5 }] 6) [(x, instObj 122 dx)]
      (fun C => ∀ (u1 u4 : Tok), C .none ((dictOf [{ hash := PyData.keyHash w.params (Str.ofString "datagram"), key := Value.str (Str.ofString "datagram") k0, val := .int d v0 }, { hash := PyData.keyHash w.params (Str.ofString "window"), key := Value.str (Str.ofString "window") k1, val := .int (W + g) u1 }, { hash := PyData.keyHash w.params (Str.ofString "threshold"), key := Value.str (Str.ofString "threshold") k2, val := .none }, { hash := PyData.keyHash w.params (Str.ofString "recovery_at"), key := Value.str (Str.ofString "recovery_at") k3, val := .none }, { hash := PyData.keyHash w.params (Str.ofString "in_flight"), key := Value.str (Str.ofString "in_flight") k4, val := .int (F - g) u4 }, { hash := PyData.keyHash w.params (Str.ofString "credit"), key := Value.str (Str.ofString "credit") k5, val := .int 0 v5 }] 6))) := by
  unfold Turns2 Turns P
  refine ⟨fun C C' h p => by (dsimp only at p ⊢); intros; apply h; apply p <;> assumption, ?_⟩
  k_fill
  intro rest hr hro dp un gd cn cs a ccd cl outer A₀ base h₀ L m s Q E B F0 X N Tp hk hd hu hret
  have hx : (x, instObj 122 dx) ∈ rest := hro _ (.head _)
  refine wpAny_call ?_
  k_dflt cell_enter
  k_steps
  exact hret _ _ _ _ (by assumption) (by assumption)
theorem ackC0 {w : World} {mean : ExcName → Option Value} {mg mb : Str → Option Value} {d W g F : Int} {x dx : Addr} {k0 k1 k2 k3 k4 k5 k6 k7 k8 k9 k10 k11 k12 k13 k14 v0 v1 v4 v5 v6 v7 v12 v13 v14 tg t1 t2 t9 : Tok} (h0 : g < F) (hne : dx < x) :
    Turns2 w mean mg mb 6 168 [.ref x, .int g tg, .int 1 t1, .bool true, .int 2 t2, .int 9 t9] dx (dictOf [{ hash := PyData.keyHash w.params (Str.ofString "datagram"), key := Value.str (Str.ofString "datagram") k0, val := .int d v0 }, { hash := PyData.keyHash w.params (Str.ofString "window"), key := Value.str (Str.ofString "window") k1, val := .int W v1 }, { hash := PyData.keyHash w.params (Str.ofString "threshold"), key := Value.str (Str.ofString "threshold") k2, val := .none }, { hash := PyData.keyHash w.params (Str.ofString "recovery_at"), key := Value.str (Str.ofString "recovery_at") k3, val := .none }, { hash := PyData.keyHash w.params (Str.ofString "in_flight"), key := Value.str (Str.ofString "in_flight") k4, val := .int F v4 }, { hash := PyData.keyHash w.params (Str.ofString "credit"), key := Value.str (Str.ofString "credit") k5, val := .int 0 v5 }, { hash := PyData.keyHash w.params (Str.ofString "top_window"), key := Value.str (Str.ofString "top_window") k6, val := .int 0 v6 }, { hash := PyData.keyHash w.params (Str.ofString "prior_window"), key := Value.str (Str.ofString "prior_window") k7, val := .int 0 v7 }, { hash := PyData.keyHash w.params (Str.ofString "begun_at"), key := Value.str (Str.ofString "begun_at") k8, val := .none }, { hash := PyData.keyHash w.params (Str.ofString "idle_since"), key := Value.str (Str.ofString "idle_since") k9, val := .none }, { hash := PyData.keyHash w.params (Str.ofString "empty_since"), key := Value.str (Str.ofString "empty_since") k10, val := .none }, { hash := PyData.keyHash w.params (Str.ofString "seen_at"), key := Value.str (Str.ofString "seen_at") k11, val := .none }, { hash := PyData.keyHash w.params (Str.ofString "meets_after"), key := Value.str (Str.ofString "meets_after") k12, val := .int 0 v12 }, { hash := PyData.keyHash w.params (Str.ofString "friendly"), key := Value.str (Str.ofString "friendly") k13, val := .int 0 v13 }, { hash := PyData.keyHash w.params (Str.ofString "friendly_credit"), key := Value.str (Str.ofString "friendly_credit") k14, val := .int 0 v14 }] 15) [(x, instObj 248 dx)]
      (fun C => ∀ (u1 u4 : Tok), C .none ((dictOf [{ hash := PyData.keyHash w.params (Str.ofString "datagram"), key := Value.str (Str.ofString "datagram") k0, val := .int d v0 }, { hash := PyData.keyHash w.params (Str.ofString "window"), key := Value.str (Str.ofString "window") k1, val := .int (W + g) u1 }, { hash := PyData.keyHash w.params (Str.ofString "threshold"), key := Value.str (Str.ofString "threshold") k2, val := .none }, { hash := PyData.keyHash w.params (Str.ofString "recovery_at"), key := Value.str (Str.ofString "recovery_at") k3, val := .none }, { hash := PyData.keyHash w.params (Str.ofString "in_flight"), key := Value.str (Str.ofString "in_flight") k4, val := .int (F - g) u4 }, { hash := PyData.keyHash w.params (Str.ofString "credit"), key := Value.str (Str.ofString "credit") k5, val := .int 0 v5 }, { hash := PyData.keyHash w.params (Str.ofString "top_window"), key := Value.str (Str.ofString "top_window") k6, val := .int 0 v6 }, { hash := PyData.keyHash w.params (Str.ofString "prior_window"), key := Value.str (Str.ofString "prior_window") k7, val := .int 0 v7 }, { hash := PyData.keyHash w.params (Str.ofString "begun_at"), key := Value.str (Str.ofString "begun_at") k8, val := .none }, { hash := PyData.keyHash w.params (Str.ofString "idle_since"), key := Value.str (Str.ofString "idle_since") k9, val := .none }, { hash := PyData.keyHash w.params (Str.ofString "empty_since"), key := Value.str (Str.ofString "empty_since") k10, val := .none }, { hash := PyData.keyHash w.params (Str.ofString "seen_at"), key := Value.str (Str.ofString "seen_at") k11, val := .int 2 t2 }, { hash := PyData.keyHash w.params (Str.ofString "meets_after"), key := Value.str (Str.ofString "meets_after") k12, val := .int 0 v12 }, { hash := PyData.keyHash w.params (Str.ofString "friendly"), key := Value.str (Str.ofString "friendly") k13, val := .int 0 v13 }, { hash := PyData.keyHash w.params (Str.ofString "friendly_credit"), key := Value.str (Str.ofString "friendly_credit") k14, val := .int 0 v14 }] 15))) := by
  unfold Turns2 Turns P
  refine ⟨fun C C' h p => by (dsimp only at p ⊢); intros; apply h; apply p <;> assumption, ?_⟩
  k_fill
  intro rest hr hro dp un gd cn cs a ccd cl outer A₀ base h₀ L m s Q E B F0 X N Tp hk hd hu hret
  have hx : (x, instObj 248 dx) ∈ rest := hro _ (.head _)
  refine wpAny_call ?_
  k_dflt cell_enter
  k_steps
  exact hret _ _ _ _ (by assumption) (by assumption)
local macro_rules | `(tactic| walk_at "call ref") => `(tactic| (k_here; (with_reducible show wpAny _ _ (call (Value.ref 91) [_, _, Value.int 1 _, Value.bool true, _, _]) _ _ _); k_dflt (refine' Turns.use (ackR0 ?h0) ?kU (kro_one ?km ?kn) ?kB ?kF ?kX ?kN ?kT ?kk ?kd ?ku ?_; (case kB => k_asm); (case kF => k_asm); (case kX => k_asm); (case kN => k_asm); (case kT => k_asm); (case km => k_mem); (case kU => k_updF); (case kn => k_ne); (case h0 => omega); (case kk => first | exact rfl | assumption); (case kd => k_room); (case ku => k_units); k_whole); intro u1 u4 h' tk' F' N'; skip; (try dsimp only); (try k_fold); (try k_sweep)))
local macro_rules | `(tactic| walk_at "call ref") => `(tactic| (k_here; (with_reducible show wpAny _ _ (call (Value.ref 168) [_, _, Value.int 1 _, Value.bool true, _, _]) _ _ _); k_dflt (refine' Turns.use (ackC0 ?h0 ?h1) ?kU (kro_one ?km ?kn) ?kB ?kF ?kX ?kN ?kT ?kk ?kd ?ku ?_; (case kB => k_asm); (case kF => k_asm); (case kX => k_asm); (case kN => k_asm); (case kT => k_asm); (case km => k_mem); (case kU => k_updF); (case kn => k_ne); (case h0 => omega); (case h1 => omega); (case kk => first | exact rfl | assumption); (case kd => k_room); (case ku => k_units); k_whole); intro u1 u4 h' tk' F' N'; skip; (try dsimp only); (try k_fold); (try k_sweep)))
/-! Drawn -/
theorem walk_off_Drawn : True := by (w_top off); k_with_none; trivial
theorem drawn {w : World} {mean : ExcName → Option Value} {mg mb : Str → Option Value} {box l : Addr} {nb nl : Nat} {vs : List Value} {ns : List Int} {k many : Int} {tk tm : Tok}
    (h0 : 0 < many) (h1 : 0 ≤ k) (h2 : k < 1000) (hv : IntsAre vs ns) (hlen : ns.length < 1000) :
    Turns2 w mean mg mb 3 257 [.ref box, .int many tm] box (listOf #[.ref l, .int k tk] nb) [(l, listOf vs.toArray nl)]
      (fun C => ∀ (x : Int) (t t' : Tok), 0 ≤ x → x < many → C (.int x t) (listOf #[.ref l, .int (k + 1) t'] nb)) := by
  unfold Turns2 Turns P
  refine ⟨fun C C' h p => by (dsimp only at p ⊢); intros; apply h; apply p <;> assumption, ?_⟩
  k_fill
  intro rest hr hro dp un gd cn cs a ccd cl outer A₀ base h₀ L m s Q E B F X N T hk hd hu hret
  have hx : (l, listOf vs.toArray nl) ∈ rest := hro _ (.head _)
  refine wpAny_call ?_
  k_dflt (refine' code_part (news := [(box, _)]) (rest := rest) ?k1 ?k2 ?k3 ?k4 ?kd ?k5 ?kA ?kF ?kK ?k6 ?k7 ?k8 ?k9 ?kB ?_ ?c2 ?c3 ?c4 ?c5; (case kA => exact rfl); (case kF => exact rfl); (case kK => assumption); (case k1 => k_asm); (case k2 => k_asm); (case k3 => k_asm); (case k4 => exact N); (case kd => exact (fun q hq hm => hr q hq (List.mem_singleton.mp hm))); (case k5 => k_asm); (case k6 => k_is); (case k7 => k_is); (case k8 => ktr_room); (case k9 => exact BindsTo.of_eq rfl); (case c5 => decide); (case kB => exact locs rfl); (case c2 => exact rfl); (case c3 => exact rfl); (case c4 => exact rfl); k_whole; intro g' L' h' FG' F' N' B' X' T' hG'; (try dsimp only); (try k_lift B'); (try k_fold))
  have hLs : g'.IsList l vs.toArray := ⟨_, hG' _ hx, rfl, _, rfl⟩
  k_steps
  all_goals (
    rename News _ _ _ _ => nE
    rename Fr g' _ _ _ => fG
    exact hret _ _ _ (Int.fmod_nonneg_of_pos _ h0) (Int.fmod_lt_of_pos _ h0) _ _ (by assumption) (news_app (a := [_]) nE (part_back (a := [_]) N hG' fG)))
local macro_rules | `(tactic| walk_at "call ref") => `(tactic| (k_here; (with_reducible show wpAny _ _ (call (Value.ref 257) _) _ _ _); k_dflt (refine' Turns.use (drawn ?h0 ?h1 ?h2 ?h3 ?h4) ?kU (kro_one ?km ?kn) ?kB ?kF ?kX ?kN ?kT ?kk ?kd ?ku ?_; (case kB => k_asm); (case kF => k_asm); (case kX => k_asm); (case kN => k_asm); (case kT => k_asm); (case kU => k_updF); (case km => k_mem); (case kn => k_ne); (case h0 => first | omega | decide); (case h1 => first | decide | omega); (case h2 => first | decide | omega); (case h3 => assumption); (case h4 => l_fit); (case kk => first | exact rfl | assumption); (case kd => k_room); (case ku => k_units); k_whole); intro x' t' t2' hx1' hx2' h' tk' F' N'; skip; (try dsimp only); (try k_fold); (try k_sweep)))
/-! InitWin -/
theorem walk_off_InitWin : True := by (w_top off); k_with_none; trivial
theorem initWin {w : World} {mean : ExcName → Option Value} {mg mb : Str → Option Value} {d : Int} {td : Tok} (h0 : 0 < d) (h1 : d < 1000) :
    Pure2 w mean mg mb 2 28 [.int d td] (fun C => ∀ t, C (.int (10 * d) t)) := by
  unfold Pure2 Pure P
  k_fill
  intro news dp un gd cn cs a ccd cl outer A₀ base h₀ L m s Q E B F X N T hk hd hu hret
  refine wpAny_call ?_
  k_dflt cell_enter
  k_steps
  exact hret _ _ _ (by assumption) (by assumption)
local macro_rules | `(tactic| walk_at "call ref") => `(tactic| (k_here; (with_reducible show wpAny _ _ (call (Value.ref 28) _) _ _ _); k_dflt (refine' Pure.use (initWin ?h1 ?h2) ?kB ?kF ?kX ?kN ?kT ?kk ?kd ?ku ?_; (case h1 => omega); (case h2 => omega); (case kB => k_asm); (case kF => k_asm); (case kX => k_asm); (case kN => k_asm); (case kT => k_asm); (case kk => first | exact rfl | assumption); (case kd => k_room); (case ku => k_units); k_whole); intro t' h' tk' F' N'; (try dsimp only); (try k_fold); (try k_sweep)))
/-! Make -/
theorem walk_off_Make : True := by (w_top off); k_with_none; trivial
theorem makeReno {w : World} {mean : ExcName → Option Value} {mg mb : Str → Option Value} {d : Int} {td : Tok} {news : List (Addr × Obj)} (h0 : 0 < d) (h1 : d < 1000) :
    Spec2 w mean mg mb 4 122 [.int d td] news (fun C => ∀ (x dx : Addr) (k0 k1 k2 k3 k4 k5 t1 t4 t5 : Tok), dx < x → (∀ p ∈ news, p.1 < dx) →
      C (.ref x) ((x, instObj 122 dx) :: (dx, (dictOf [{ hash := PyData.keyHash w.params (Str.ofString "datagram"), key := Value.str (Str.ofString "datagram") k0, val := .int d td }, { hash := PyData.keyHash w.params (Str.ofString "window"), key := Value.str (Str.ofString "window") k1, val := .int (10 * d) t1 }, { hash := PyData.keyHash w.params (Str.ofString "threshold"), key := Value.str (Str.ofString "threshold") k2, val := .none }, { hash := PyData.keyHash w.params (Str.ofString "recovery_at"), key := Value.str (Str.ofString "recovery_at") k3, val := .none }, { hash := PyData.keyHash w.params (Str.ofString "in_flight"), key := Value.str (Str.ofString "in_flight") k4, val := .int 0 t4 }, { hash := PyData.keyHash w.params (Str.ofString "credit"), key := Value.str (Str.ofString "credit") k5, val := .int 0 t5 }] 6)) :: news)) := by
  unfold Spec2 Spec P
  k_fill
  intro dp un gd cn cs a ccd cl outer A₀ base h₀ L m s Q E B F X N T hk hd hu hret
  k_dflt (refine' call_cls ?k1 ?k2 ?k3 ?k4 ?k5 ?k6 ?_; (case k1 => k_asm); (case k2 => k_asm); (case k3 => k_asm); (case k4 => k_is); (case k5 => k_is); (case k6 => k_is); intro x' d' h' F' N' l1 l2; (try k_lt l1); (try k_lt2 l2); (try k_sweep))
  k_dflt cell_enter
  k_steps
  exact hret _ _ _ _ _ _ _ _ _ _ _ (by assumption) (by assumption) _ _ (by assumption) (by assumption)
local macro_rules | `(tactic| walk_at "call ref") => `(tactic| (k_here; (with_reducible show wpAny _ _ (call (Value.ref 122) _) _ _ _); k_dflt (refine' Spec.use (makeReno ?h0 ?h1) ?kB ?kF ?kX ?kN ?kT ?kk ?kd ?ku ?_; (case kB => k_asm); (case kF => k_asm); (case kX => k_asm); (case kN => k_asm); (case kT => k_asm); (case h0 => omega); (case h1 => omega); (case kk => first | exact rfl | assumption); (case kd => k_room); (case ku => k_units); k_whole); intro x' d' k0 k1 k2 k3 k4 k5 t1 t4 t5 l2' l1' h' tk' F' N'; (try k_lt l1'); (try k_lt2 l2'); (try dsimp only); (try k_fold); (try k_sweep)))
/-! MakeC -/
theorem walk_off_MakeC : True := by (w_top off); k_with_none; trivial
theorem makeCubic {w : World} {mean : ExcName → Option Value} {mg mb : Str → Option Value} {d : Int} {td : Tok} {news : List (Addr × Obj)} (h0 : 0 < d) (h1 : d < 1000) :
    Spec2 w mean mg mb 6 248 [.int d td] news (fun C => ∀ (x dx : Addr) (k0 k1 k2 k3 k4 k5 k6 k7 k8 k9 k10 k11 k12 k13 k14 t1 t4 t5 t6 t7 t12 t13 t14 : Tok), dx < x → (∀ p ∈ news, p.1 < dx) →
      C (.ref x) ((x, instObj 248 dx) :: (dx, (dictOf [{ hash := PyData.keyHash w.params (Str.ofString "datagram"), key := Value.str (Str.ofString "datagram") k0, val := .int d td }, { hash := PyData.keyHash w.params (Str.ofString "window"), key := Value.str (Str.ofString "window") k1, val := .int (10 * d) t1 }, { hash := PyData.keyHash w.params (Str.ofString "threshold"), key := Value.str (Str.ofString "threshold") k2, val := .none }, { hash := PyData.keyHash w.params (Str.ofString "recovery_at"), key := Value.str (Str.ofString "recovery_at") k3, val := .none }, { hash := PyData.keyHash w.params (Str.ofString "in_flight"), key := Value.str (Str.ofString "in_flight") k4, val := .int 0 t4 }, { hash := PyData.keyHash w.params (Str.ofString "credit"), key := Value.str (Str.ofString "credit") k5, val := .int 0 t5 }, { hash := PyData.keyHash w.params (Str.ofString "top_window"), key := Value.str (Str.ofString "top_window") k6, val := .int 0 t6 }, { hash := PyData.keyHash w.params (Str.ofString "prior_window"), key := Value.str (Str.ofString "prior_window") k7, val := .int 0 t7 }, { hash := PyData.keyHash w.params (Str.ofString "begun_at"), key := Value.str (Str.ofString "begun_at") k8, val := .none }, { hash := PyData.keyHash w.params (Str.ofString "idle_since"), key := Value.str (Str.ofString "idle_since") k9, val := .none }, { hash := PyData.keyHash w.params (Str.ofString "empty_since"), key := Value.str (Str.ofString "empty_since") k10, val := .none }, { hash := PyData.keyHash w.params (Str.ofString "seen_at"), key := Value.str (Str.ofString "seen_at") k11, val := .none }, { hash := PyData.keyHash w.params (Str.ofString "meets_after"), key := Value.str (Str.ofString "meets_after") k12, val := .int 0 t12 }, { hash := PyData.keyHash w.params (Str.ofString "friendly"), key := Value.str (Str.ofString "friendly") k13, val := .int 0 t13 }, { hash := PyData.keyHash w.params (Str.ofString "friendly_credit"), key := Value.str (Str.ofString "friendly_credit") k14, val := .int 0 t14 }] 15)) :: news)) := by
  unfold Spec2 Spec P
  k_fill
  intro dp un gd cn cs a ccd cl outer A₀ base h₀ L m s Q E B F X N T hk hd hu hret
  k_dflt (refine' call_cls ?k1 ?k2 ?k3 ?k4 ?k5 ?k6 ?_; (case k1 => k_asm); (case k2 => k_asm); (case k3 => k_asm); (case k4 => k_is); (case k5 => k_is); (case k6 => k_is); intro x' d' h' F' N' l1 l2; (try k_lt l1); (try k_lt2 l2); (try k_sweep))
  k_dflt cell_enter
  k_steps
  exact hret _ _ _ _ _ _ _ _ _ _ _ _ _ _ _ _ _ _ _ _ _ _ _ _ _ (by assumption) (by assumption) _ _ (by assumption) (by assumption)
local macro_rules | `(tactic| walk_at "call ref") => `(tactic| (k_here; (with_reducible show wpAny _ _ (call (Value.ref 248) _) _ _ _); k_dflt (refine' Spec.use (makeCubic ?h0 ?h1) ?kB ?kF ?kX ?kN ?kT ?kk ?kd ?ku ?_; (case kB => k_asm); (case kF => k_asm); (case kX => k_asm); (case kN => k_asm); (case kT => k_asm); (case h0 => omega); (case h1 => omega); (case kk => first | exact rfl | assumption); (case kd => k_room); (case ku => k_units); k_whole); intro x' d' k0 k1 k2 k3 k4 k5 k6 k7 k8 k9 k10 k11 k12 k13 k14 t1 t4 t5 t6 t7 t12 t13 t14 l2' l1' h' tk' F' N'; (try k_lt l1'); (try k_lt2 l2'); (try dsimp only); (try k_fold); (try k_sweep)))
/-! OnCongR -/
theorem walk_off_OnCongR : True := by (w_top off); k_with_none; trivial
def cutR (W d : Int) : Int := if 2 * d > (W * 1).fdiv 2 then 2 * d else (W * 1).fdiv 2
theorem onCongR {w : World} {mean : ExcName → Option Value} {mg mb : Str → Option Value} {d W last now st F : Int} {T R : Value} {x dx : Addr} {k0 k1 k2 k3 k4 k5 v0 v1 v4 v5 ts tn : Tok}
    (hR : (R = Value.none ∧ last < st) ∨ ∃ t, R = Value.int last t) (h0 : 0 < d) (h1 : d < 1000) (h2 : 0 ≤ W) (h3 : W < 10000) (hne : dx < x) :
    Turns2 w mean mg mb 4 105 [.ref x, .int st ts, .int now tn] dx (dictOf [{ hash := PyData.keyHash w.params (Str.ofString "datagram"), key := Value.str (Str.ofString "datagram") k0, val := .int d v0 }, { hash := PyData.keyHash w.params (Str.ofString "window"), key := Value.str (Str.ofString "window") k1, val := .int W v1 }, { hash := PyData.keyHash w.params (Str.ofString "threshold"), key := Value.str (Str.ofString "threshold") k2, val := T }, { hash := PyData.keyHash w.params (Str.ofString "recovery_at"), key := Value.str (Str.ofString "recovery_at") k3, val := R }, { hash := PyData.keyHash w.params (Str.ofString "in_flight"), key := Value.str (Str.ofString "in_flight") k4, val := .int F v4 }, { hash := PyData.keyHash w.params (Str.ofString "credit"), key := Value.str (Str.ofString "credit") k5, val := .int 0 v5 }] 6) [(x, instObj 122 dx)]
      (fun C => ∀ (W' : Int) (T' R' : Value) (u1 u5 : Tok), (last < st → W' = cutR W d ∧ (∃ t, T' = Value.int W' t) ∧ ∃ t, R' = Value.int now t) → (¬ last < st → W' = W ∧ T' = T ∧ R' = R) →
        C .none ((dictOf [{ hash := PyData.keyHash w.params (Str.ofString "datagram"), key := Value.str (Str.ofString "datagram") k0, val := .int d v0 }, { hash := PyData.keyHash w.params (Str.ofString "window"), key := Value.str (Str.ofString "window") k1, val := .int W' u1 }, { hash := PyData.keyHash w.params (Str.ofString "threshold"), key := Value.str (Str.ofString "threshold") k2, val := T' }, { hash := PyData.keyHash w.params (Str.ofString "recovery_at"), key := Value.str (Str.ofString "recovery_at") k3, val := R' }, { hash := PyData.keyHash w.params (Str.ofString "in_flight"), key := Value.str (Str.ofString "in_flight") k4, val := .int F v4 }, { hash := PyData.keyHash w.params (Str.ofString "credit"), key := Value.str (Str.ofString "credit") k5, val := .int 0 u5 }] 6))) := by
  unfold Turns2 Turns P
  refine ⟨fun C C' h p => by (dsimp only at p ⊢); intros; apply h; apply p <;> assumption, ?_⟩
  k_fill
  intro rest hr hro dp un gd cn cs a ccd cl outer A₀ base h₀ L m s Q E B F X N Tp hk hd hu hret
  have hx : (x, instObj 122 dx) ∈ rest := hro _ (.head _)
  rcases hR with ⟨rfl, hs⟩ | ⟨t, rfl⟩
  · refine wpAny_call ?_
    k_dflt cell_enter
    k_steps
    exact hret (cutR W d) _ _ _ _ (fun _ => ⟨rfl, ⟨_, rfl⟩, ⟨_, rfl⟩⟩) (fun h => absurd hs h) _ _ (by assumption) (by assumption)
  · rcases Int.lt_or_le last st with hs | hs
    · refine wpAny_call ?_
      k_dflt cell_enter
      k_steps
      exact hret (cutR W d) _ _ _ _ (fun _ => ⟨rfl, ⟨_, rfl⟩, ⟨_, rfl⟩⟩) (fun h => absurd hs h) _ _ (by assumption) (by assumption)
    · refine wpAny_call ?_
      k_dflt cell_enter
      k_steps
      exact hret W T _ _ _ (fun h => absurd h (by omega)) (fun _ => ⟨rfl, rfl, rfl⟩) _ _ (by assumption) (by assumption)
local macro_rules | `(tactic| walk_at "call ref") => `(tactic| (k_here; (with_reducible show wpAny _ _ (call (Value.ref 105) _) _ _ _); k_dflt (refine' Turns.use (onCongR ?h0 ?h1 ?h2 ?h3 ?h4 ?h5) ?kU (kro_one ?km ?kn) ?kB ?kF ?kX ?kN ?kT ?kk ?kd ?ku ?_; (case kB => k_asm); (case kF => k_asm); (case kX => k_asm); (case kN => k_asm); (case kT => k_asm); (case km => k_mem); (case kU => k_updF); (case kn => k_ne); (case h0 => (k_extra "mark")); (case h1 => omega); (case h2 => omega); (case h3 => omega); (case h4 => omega); (case h5 => omega); (case kk => first | exact rfl | assumption); (case kd => k_room); (case ku => k_units); k_whole); intro W' T' R' u1 u5 hc1' hc2' h' tk' F' N'; skip; (try dsimp only); (try k_fold); (try k_sweep)))
/-! Loop -/
theorem walk_off_Loop : True := by (w_top off); k_with_none; trivial
section
variable {prog : Program} {w : World} {A : Around} {E : Value → Shared → Prop} {s : Shared} {env : Env} {h₀ : Heap} {target : Expr} {body : List Stmt} {Q : Flow → Shared → Prop}
/-- the end of a turn -/
def TurnEnd (h₀ : Heap) (L : Addr) (J : (Str → Option Value) → List (Addr × Obj) → Prop) (own : List (Addr × Obj)) (s₁ : Shared) (f : Flow) (s₂ : Shared) : Prop :=
  f = .next ∧ InvEndG h₀ L J own s₁ s₂
/-- A loop over a list that stands below, with any target. -/
theorem iter_listT {l : Addr} {vs : List Value} {m₀ : Str → Option Value} {news : List (Addr × Obj)} (J : Nat → (Str → Option Value) → List (Addr × Obj) → Prop)
    (hh : A.handled = none) (hl : h₀.IsList l vs.toArray) (F : Fr h₀ env.locals s.heap m₀) (N : News h₀ env.locals s.heap news) (hj : J 0 m₀ news)
    (turn : ∀ i v m₁ nx s₁ own, vs[i]? = some v → OwnOff own (nx.map (·.1)) → J i m₁ nx → Fr h₀ env.locals s₁.heap m₁ → News h₀ env.locals s₁.heap (nx ++ own) →
      wpAny (model prog w) A (assign target env v) (fun _ s₃ => wpAny (model prog w) A (execs body env) (TurnEnd h₀ env.locals (J (i + 1)) own s₁) E s₃) E s₁)
    (done : ∀ m₁ nx h tk, J vs.length m₁ nx → Fr h₀ env.locals h m₁ → News h₀ env.locals h nx → Q .next { s with heap := h, toks := tk }) :
    wpAny (model prog w) A (pyIter (.ref l)) (fun it s₂ => LoopAtT prog w A h₀ env target body Q E it s₂) E s := by
  have hls : s.heap.IsList l vs.toArray := hl.at fun o e => F.keep _ _ e
  have hlt : l < s.heap.objs.size := by obtain ⟨_, e, _⟩ := hls; exact Heap.lt_size e
  have hne : l ≠ s.heap.objs.size := Nat.ne_of_lt hlt
  have hl0 : h₀.get? l ≠ none := by obtain ⟨_, e, _⟩ := hl; rw [e]; exact fun h => nomatch h
  refine wpAny_pyIter_list hls ?_
  have W := Walks.list (prog := prog) (w := w) hh s.heap.objs.size l hne vs.toArray
  have hlen : vs.toArray.size = vs.length := by simp
  rw [hlen] at W
  refine ⟨_, _, _, vs.length, _, _, m₀, news, J, rfl, W, ?_, ?_, ?_, ⟨⟨_, Heap.get?_push_size _ rfl, rfl, rfl⟩, hls.at fun o e => Heap.get?_push_of_some _ e⟩, F.push _, (fun p hp => ⟨Heap.get?_push_of_some _ (N p hp).1, (N p hp).2⟩), (fun i s' v Q' a b => letGo_listiter a.1 b), hj, ?_, ?_⟩
  · intro hm
    rcases List.mem_cons.mp hm with e | hm
    · exact absurd F.ns.lt (e ▸ Nat.lt_irrefl _)
    · exact hl0 (List.mem_singleton.mp hm ▸ Heap.get?_none_of_le F.above)
  · intro b hb
    rw [List.mem_singleton.mp hb]
    exact next_is_new F
  · intro p hp hI
    exact absurd (Heap.lt_size (N p hp).1) ((List.mem_singleton.mp hI) ▸ Nat.lt_irrefl _)
  · rintro i v m₁ news₁ s₁ own hin hP hJ hoff hown hget hfp hst F₁ N₁
    have hP' : vs[i]? = some v := by simpa using hP
    have hsep : OwnOff own (news₁.map (·.1)) := by
      intro p hp b hb e
      obtain ⟨q, hq, rfl⟩ := List.mem_map.mp hb
      rcases List.mem_cons.mp (hown p hp) with h1 | h1
      · exact hoff q hq (List.mem_singleton.mpr (e ▸ h1))
      · exact hl0 (List.mem_singleton.mp h1 ▸ (N₁ p (List.mem_append.mpr (.inl hp))).2.2)
    have hI0 : h₀.get? s.heap.objs.size = none := next_is_new F
    obtain ⟨⟨oI, hoI, _⟩, _⟩ := id hst
    have hIown : (s.heap.objs.size, oI) ∈ own := hfp _ (List.mem_cons.mpr (.inl rfl)) hI0 _ hoI
    refine wpAny_mono (turn i v m₁ news₁ s₁ own hP' hsep hJ F₁ (fun p hp => N₁ p ((List.mem_append.mp hp).elim (fun h => List.mem_append.mpr (.inr h)) fun h => List.mem_append.mpr (.inl h)))) (fun _ s₃ h₃ => wpAny_mono h₃ (fun f s₂ p => ?_) fun _ _ e => e) fun _ _ e => e
    obtain ⟨rfl, h', tk, m', news', nx, e, F', N', hn, ho, ha, hm⟩ := p
    refine ⟨rfl, h', tk, m', nx, e, F', fun p hp => N' p ((List.mem_append.mp hp).elim (ho p) (hn p)), fun p hp hq => ?_, hm⟩
    exact ha _ hIown p.1 (List.mem_map.mpr ⟨p, hp, rfl⟩) (List.mem_singleton.mp hq).symm
  · rintro h' tk m' news' F' N' _ hJ
    exact done m' news' h' tk hJ F' N'
end
/-- the object of a pair of ints -/
abbrev pairObj (s c : Int) (t t' : Tok) (n : Nat) : Obj := { cls := .type "tuple", data := .seq [Value.int s t, Value.int c t'].toArray n }
/-- a list's items are refs of pairs of the ledger -/
def RowsAre (news : List (Addr × Obj)) (us : List Value) (rs : List (Int × Int)) : Prop :=
  us.length = rs.length ∧ ∀ (i : Nat) (v : Value), us[i]? = some v → ∃ (a : Addr) (s c : Int) (t t' : Tok) (n : Nat), v = Value.ref a ∧ rs[i]? = some (s, c) ∧ (a, pairObj s c t t' n) ∈ news
/-! WordR -/
theorem walk_off_WordR : True := by (w_top off); k_with_none; trivial
theorem wordR {w : World} {mean : ExcName → Option Value} {mg mb : Str → Option Value} {d W last now st F f size : Int} {lim : Bool} {T R : Value} {x dx row : Addr} {nr : Nat} {k0 k1 k2 k3 k4 k5 v0 v1 v4 v5 ts tn tf tz : Tok}
    (hR : (R = Value.none ∧ last < st) ∨ ∃ t, R = Value.int last t) (hl1 : lim = true → f = 4 ∧ st ≤ last) (h0 : 0 < d) (h1 : d < 1000) (h2 : 0 ≤ W) (h3 : W < 10000) (h4 : 0 ≤ f) (h5 : f < 5) (hne : dx < x) :
    Turns2 w mean mg mb 8 269 [.ref x, .int f tf, .int size tz, .ref row, .bool lim] dx (dictOf [{ hash := PyData.keyHash w.params (Str.ofString "datagram"), key := Value.str (Str.ofString "datagram") k0, val := .int d v0 }, { hash := PyData.keyHash w.params (Str.ofString "window"), key := Value.str (Str.ofString "window") k1, val := .int W v1 }, { hash := PyData.keyHash w.params (Str.ofString "threshold"), key := Value.str (Str.ofString "threshold") k2, val := T }, { hash := PyData.keyHash w.params (Str.ofString "recovery_at"), key := Value.str (Str.ofString "recovery_at") k3, val := R }, { hash := PyData.keyHash w.params (Str.ofString "in_flight"), key := Value.str (Str.ofString "in_flight") k4, val := .int F v4 }, { hash := PyData.keyHash w.params (Str.ofString "credit"), key := Value.str (Str.ofString "credit") k5, val := .int 0 v5 }] 6) [(x, instObj 122 dx), (row, pairObj st now ts tn nr)]
      (fun C => ∀ (W' F' : Int) (T' R' : Value) (u1 u4 u5 : Tok), (f < 2 ∧ last < st → W' = cutR W d ∧ (∃ t, T' = Value.int W' t) ∧ ∃ t, R' = Value.int now t) → (¬ (f < 2 ∧ last < st) → W' = W ∧ T' = T ∧ R' = R) →
        (f = 0 → F' = F) → (f ≠ 0 → F' = F - size) → C .none ((dictOf [{ hash := PyData.keyHash w.params (Str.ofString "datagram"), key := Value.str (Str.ofString "datagram") k0, val := .int d v0 }, { hash := PyData.keyHash w.params (Str.ofString "window"), key := Value.str (Str.ofString "window") k1, val := .int W' u1 }, { hash := PyData.keyHash w.params (Str.ofString "threshold"), key := Value.str (Str.ofString "threshold") k2, val := T' }, { hash := PyData.keyHash w.params (Str.ofString "recovery_at"), key := Value.str (Str.ofString "recovery_at") k3, val := R' }, { hash := PyData.keyHash w.params (Str.ofString "in_flight"), key := Value.str (Str.ofString "in_flight") k4, val := .int F' u4 }, { hash := PyData.keyHash w.params (Str.ofString "credit"), key := Value.str (Str.ofString "credit") k5, val := .int 0 u5 }] 6))) := by
  unfold Turns2 Turns P
  refine ⟨fun C C' h p => by (dsimp only at p ⊢); intros; apply h; apply p <;> assumption, ?_⟩
  k_fill
  intro rest hr hro dp un gd cn cs a ccd cl outer A₀ base h₀ L m s Q E B F0 X N Tp hk hd hu hret
  have hx : (x, instObj 122 dx) ∈ rest := hro _ (.head _)
  have hrow : (row, pairObj st now ts tn nr) ∈ rest := hro _ (.tail _ (.head _))
  have hne' : @LT.lt Nat _ dx x := hne
  k_with "mark" => exact hR
  rcases (by omega : f = 0 ∨ f = 1 ∨ f = 2 ∨ 3 ≤ f) with rfl | rfl | rfl | h6
  · refine wpAny_call ?_
    k_dflt cell_enter
    k_steps
    rename (last < st → _) => hc1
    rename (¬ last < st → _) => hc2
    (rename News h₀ L _ _ => kN9); (rename Fr h₀ L _ _ => kF9); exact hret _ _ _ _ _ _ _ (fun h => hc1 h.2) (fun h => hc2 fun k => h ⟨by decide, k⟩) (fun _ => rfl) (fun h => absurd rfl h) _ _ kF9 kN9
  · refine wpAny_call ?_
    k_dflt cell_enter
    k_steps
    rename (last < st → _) => hc1
    rename (¬ last < st → _) => hc2
    (rename News h₀ L _ _ => kN9); (rename Fr h₀ L _ _ => kF9); exact hret _ _ _ _ _ _ _ (fun h => hc1 h.2) (fun h => hc2 fun k => h ⟨by decide, k⟩) (fun h => absurd h (by decide)) (fun _ => rfl) _ _ kF9 kN9
  · refine wpAny_call ?_
    k_dflt cell_enter
    k_steps
    all_goals (
      (rename News h₀ L _ _ => kN9); (rename Fr h₀ L _ _ => kF9); exact hret W _ T _ _ _ _ (fun h => absurd h.1 (by decide)) (fun _ => ⟨rfl, rfl, rfl⟩) (fun h => absurd h (by decide)) (fun _ => rfl) _ _ kF9 kN9)
  · rcases hR with ⟨rfl, hs⟩ | ⟨t, rfl⟩
    · have hlf : lim = false := by cases lim with | false => rfl | true => have := (hl1 rfl).2; omega
      subst hlf
      refine wpAny_call ?_
      k_dflt cell_enter
      k_steps
      all_goals (
        (rename News h₀ L _ _ => kN9); (rename Fr h₀ L _ _ => kF9); exact hret W _ T _ _ _ _ (fun h => absurd h.1 (by omega)) (fun _ => ⟨rfl, rfl, rfl⟩) (fun h => absurd h (by omega)) (fun _ => rfl) _ _ kF9 kN9)
    · cases lim with
      | false =>
        refine wpAny_call ?_
        k_dflt cell_enter
        k_steps
        all_goals (
          (rename News h₀ L _ _ => kN9); (rename Fr h₀ L _ _ => kF9); exact hret W _ T _ _ _ _ (fun h => absurd h.1 (by omega)) (fun _ => ⟨rfl, rfl, rfl⟩) (fun h => absurd h (by omega)) (fun _ => rfl) _ _ kF9 kN9)
      | true =>
        have hs := (hl1 rfl).2
        refine wpAny_call ?_
        k_dflt cell_enter
        k_steps
        all_goals (
          (rename News h₀ L _ _ => kN9); (rename Fr h₀ L _ _ => kF9); exact hret W _ T _ _ _ _ (fun h => absurd h.1 (by omega)) (fun _ => ⟨rfl, rfl, rfl⟩) (fun h => absurd h (by omega)) (fun _ => rfl) _ _ kF9 kN9)
local macro_rules | `(tactic| walk_at "call ref") => `(tactic| (k_here; (with_reducible show wpAny _ _ (call (Value.ref 269) (Value.ref _ :: _)) _ _ _); k_dflt (refine' Turns.use (wordR ?h0 ?h1 ?h2 ?h3 ?h4 ?h5 ?h6 ?h7 ?h8) ?kU (kro_two ?km ?kn ?km2 ?kn2) ?kB ?kF ?kX ?kN ?kT ?kk ?kd ?ku ?_; (case kB => k_asm); (case kF => k_asm); (case kX => k_asm); (case kN => k_asm); (case kT => k_asm); (case km => k_mem); (case kU => k_updF); (case kn => k_ne); (case km2 => k_mem); (case kn2 => k_ne); (case h0 => (k_extra "mark")); (case h1 => (k_extra "lim")); (case h2 => omega); (case h3 => omega); (case h4 => omega); (case h5 => omega); (case h6 => omega); (case h7 => omega); (case h8 => omega); (case kk => first | exact rfl | assumption); (case kd => k_room); (case ku => k_units); k_whole); intro W' F1' T' R' u1 u4 u5 hc1' hc2' hF1' hF2' h' tk' F' N'; skip; (try dsimp only); (try k_fold); (try k_sweep)))
/-! OnCongC -/
theorem walk_off_OnCongC : True := by (w_top off); k_with_none; trivial
def cutC (W d : Int) : Int := if 2 * d > (W * 7).fdiv 10 then 2 * d else (W * 7).fdiv 10
theorem onCongC {w : World} {mean : ExcName → Option Value} {mg mb : Str → Option Value} {d W last now st F top pri : Int} {T R SE : Value} {x dx : Addr} {k0 k1 k2 k3 k4 k5 k6 k7 k8 k9 k10 k11 k12 k13 k14 v0 v1 v4 v5 v6 v7 v12 v13 v14 ts tn : Tok}
    (hR : (R = Value.none ∧ last < st) ∨ ∃ t, R = Value.int last t) (h0 : 0 < d) (h1 : d < 1000) (h2 : 0 ≤ W) (h3 : W < 10000) (hne : dx < x) :
    Turns2 w mean mg mb 4 238 [.ref x, .int st ts, .int now tn] dx (dictOf [{ hash := PyData.keyHash w.params (Str.ofString "datagram"), key := Value.str (Str.ofString "datagram") k0, val := .int d v0 }, { hash := PyData.keyHash w.params (Str.ofString "window"), key := Value.str (Str.ofString "window") k1, val := .int W v1 }, { hash := PyData.keyHash w.params (Str.ofString "threshold"), key := Value.str (Str.ofString "threshold") k2, val := T }, { hash := PyData.keyHash w.params (Str.ofString "recovery_at"), key := Value.str (Str.ofString "recovery_at") k3, val := R }, { hash := PyData.keyHash w.params (Str.ofString "in_flight"), key := Value.str (Str.ofString "in_flight") k4, val := .int F v4 }, { hash := PyData.keyHash w.params (Str.ofString "credit"), key := Value.str (Str.ofString "credit") k5, val := .int 0 v5 }, { hash := PyData.keyHash w.params (Str.ofString "top_window"), key := Value.str (Str.ofString "top_window") k6, val := .int top v6 }, { hash := PyData.keyHash w.params (Str.ofString "prior_window"), key := Value.str (Str.ofString "prior_window") k7, val := .int pri v7 }, { hash := PyData.keyHash w.params (Str.ofString "begun_at"), key := Value.str (Str.ofString "begun_at") k8, val := .none }, { hash := PyData.keyHash w.params (Str.ofString "idle_since"), key := Value.str (Str.ofString "idle_since") k9, val := .none }, { hash := PyData.keyHash w.params (Str.ofString "empty_since"), key := Value.str (Str.ofString "empty_since") k10, val := .none }, { hash := PyData.keyHash w.params (Str.ofString "seen_at"), key := Value.str (Str.ofString "seen_at") k11, val := SE }, { hash := PyData.keyHash w.params (Str.ofString "meets_after"), key := Value.str (Str.ofString "meets_after") k12, val := .int 0 v12 }, { hash := PyData.keyHash w.params (Str.ofString "friendly"), key := Value.str (Str.ofString "friendly") k13, val := .int 0 v13 }, { hash := PyData.keyHash w.params (Str.ofString "friendly_credit"), key := Value.str (Str.ofString "friendly_credit") k14, val := .int 0 v14 }] 15) [(x, instObj 248 dx)]
      (fun C => ∀ (W' top' pri' : Int) (T' R' : Value) (u1 u5 u6 u7 : Tok), (last < st → W' = cutC W d ∧ (∃ t, T' = Value.int W' t) ∧ ∃ t, R' = Value.int now t) → (¬ last < st → W' = W ∧ T' = T ∧ R' = R) →
        C .none ((dictOf [{ hash := PyData.keyHash w.params (Str.ofString "datagram"), key := Value.str (Str.ofString "datagram") k0, val := .int d v0 }, { hash := PyData.keyHash w.params (Str.ofString "window"), key := Value.str (Str.ofString "window") k1, val := .int W' u1 }, { hash := PyData.keyHash w.params (Str.ofString "threshold"), key := Value.str (Str.ofString "threshold") k2, val := T' }, { hash := PyData.keyHash w.params (Str.ofString "recovery_at"), key := Value.str (Str.ofString "recovery_at") k3, val := R' }, { hash := PyData.keyHash w.params (Str.ofString "in_flight"), key := Value.str (Str.ofString "in_flight") k4, val := .int F v4 }, { hash := PyData.keyHash w.params (Str.ofString "credit"), key := Value.str (Str.ofString "credit") k5, val := .int 0 u5 }, { hash := PyData.keyHash w.params (Str.ofString "top_window"), key := Value.str (Str.ofString "top_window") k6, val := .int top' u6 }, { hash := PyData.keyHash w.params (Str.ofString "prior_window"), key := Value.str (Str.ofString "prior_window") k7, val := .int pri' u7 }, { hash := PyData.keyHash w.params (Str.ofString "begun_at"), key := Value.str (Str.ofString "begun_at") k8, val := .none }, { hash := PyData.keyHash w.params (Str.ofString "idle_since"), key := Value.str (Str.ofString "idle_since") k9, val := .none }, { hash := PyData.keyHash w.params (Str.ofString "empty_since"), key := Value.str (Str.ofString "empty_since") k10, val := .none }, { hash := PyData.keyHash w.params (Str.ofString "seen_at"), key := Value.str (Str.ofString "seen_at") k11, val := SE }, { hash := PyData.keyHash w.params (Str.ofString "meets_after"), key := Value.str (Str.ofString "meets_after") k12, val := .int 0 v12 }, { hash := PyData.keyHash w.params (Str.ofString "friendly"), key := Value.str (Str.ofString "friendly") k13, val := .int 0 v13 }, { hash := PyData.keyHash w.params (Str.ofString "friendly_credit"), key := Value.str (Str.ofString "friendly_credit") k14, val := .int 0 v14 }] 15))) := by
  unfold Turns2 Turns P
  refine ⟨fun C C' h p => by (dsimp only at p ⊢); intros; apply h; apply p <;> assumption, ?_⟩
  k_fill
  intro rest hr hro dp un gd cn cs a ccd cl outer A₀ base h₀ L m s Q E B F X N Tp hk hd hu hret
  have hx : (x, instObj 248 dx) ∈ rest := hro _ (.head _)
  rcases hR with ⟨rfl, hs⟩ | ⟨t, rfl⟩
  · refine wpAny_call ?_
    k_dflt cell_enter
    k_steps
    all_goals exact hret (cutC W d) _ _ _ _ _ _ _ _ (fun _ => ⟨rfl, ⟨_, rfl⟩, ⟨_, rfl⟩⟩) (fun h => absurd hs h) _ _ (by assumption) (by assumption)
  · rcases Int.lt_or_le last st with hs | hs
    · refine wpAny_call ?_
      k_dflt cell_enter
      k_steps
      all_goals exact hret (cutC W d) _ _ _ _ _ _ _ _ (fun _ => ⟨rfl, ⟨_, rfl⟩, ⟨_, rfl⟩⟩) (fun h => absurd hs h) _ _ (by assumption) (by assumption)
    · refine wpAny_call ?_
      k_dflt cell_enter
      k_steps
      all_goals exact hret W _ _ T _ _ _ _ _ (fun h => absurd h (by omega)) (fun _ => ⟨rfl, rfl, rfl⟩) _ _ (by assumption) (by assumption)
local macro_rules | `(tactic| walk_at "call ref") => `(tactic| (k_here; (with_reducible show wpAny _ _ (call (Value.ref 238) _) _ _ _); k_dflt (refine' Turns.use (onCongC ?h0 ?h1 ?h2 ?h3 ?h4 ?h5) ?kU (kro_one ?km ?kn) ?kB ?kF ?kX ?kN ?kT ?kk ?kd ?ku ?_; (case kB => k_asm); (case kF => k_asm); (case kX => k_asm); (case kN => k_asm); (case kT => k_asm); (case km => k_mem); (case kU => k_updF); (case kn => k_ne); (case h0 => (k_extra "mark")); (case h1 => omega); (case h2 => omega); (case h3 => omega); (case h4 => omega); (case h5 => omega); (case kk => first | exact rfl | assumption); (case kd => k_room); (case ku => k_units); k_whole); intro W' top' pri' T' R' u1 u5 u6 u7 hc1' hc2' h' tk' F' N'; skip; (try dsimp only); (try k_fold); (try k_sweep)))
/-! WordC -/
theorem walk_off_WordC : True := by (w_top off); k_with_none; trivial
theorem wordC {w : World} {mean : ExcName → Option Value} {mg mb : Str → Option Value} {d W last now st F f size top pri : Int} {lim : Bool} {T R SE : Value} {x dx row : Addr} {nr : Nat} {k0 k1 k2 k3 k4 k5 k6 k7 k8 k9 k10 k11 k12 k13 k14 v0 v1 v4 v5 v6 v7 v12 v13 v14 ts tn tf tz : Tok}
    (hR : (R = Value.none ∧ last < st) ∨ ∃ t, R = Value.int last t) (hl1 : lim = true → f = 4 ∧ st ≤ last) (h0 : 0 < d) (h1 : d < 1000) (h2 : 0 ≤ W) (h3 : W < 10000) (h4 : 0 ≤ f) (h5 : f < 5) (h6 : size < F) (h7 : 0 < size) (hne : dx < x) :
    Turns2 w mean mg mb 10 269 [.ref x, .int f tf, .int size tz, .ref row, .bool lim] dx (dictOf [{ hash := PyData.keyHash w.params (Str.ofString "datagram"), key := Value.str (Str.ofString "datagram") k0, val := .int d v0 }, { hash := PyData.keyHash w.params (Str.ofString "window"), key := Value.str (Str.ofString "window") k1, val := .int W v1 }, { hash := PyData.keyHash w.params (Str.ofString "threshold"), key := Value.str (Str.ofString "threshold") k2, val := T }, { hash := PyData.keyHash w.params (Str.ofString "recovery_at"), key := Value.str (Str.ofString "recovery_at") k3, val := R }, { hash := PyData.keyHash w.params (Str.ofString "in_flight"), key := Value.str (Str.ofString "in_flight") k4, val := .int F v4 }, { hash := PyData.keyHash w.params (Str.ofString "credit"), key := Value.str (Str.ofString "credit") k5, val := .int 0 v5 }, { hash := PyData.keyHash w.params (Str.ofString "top_window"), key := Value.str (Str.ofString "top_window") k6, val := .int top v6 }, { hash := PyData.keyHash w.params (Str.ofString "prior_window"), key := Value.str (Str.ofString "prior_window") k7, val := .int pri v7 }, { hash := PyData.keyHash w.params (Str.ofString "begun_at"), key := Value.str (Str.ofString "begun_at") k8, val := .none }, { hash := PyData.keyHash w.params (Str.ofString "idle_since"), key := Value.str (Str.ofString "idle_since") k9, val := .none }, { hash := PyData.keyHash w.params (Str.ofString "empty_since"), key := Value.str (Str.ofString "empty_since") k10, val := .none }, { hash := PyData.keyHash w.params (Str.ofString "seen_at"), key := Value.str (Str.ofString "seen_at") k11, val := SE }, { hash := PyData.keyHash w.params (Str.ofString "meets_after"), key := Value.str (Str.ofString "meets_after") k12, val := .int 0 v12 }, { hash := PyData.keyHash w.params (Str.ofString "friendly"), key := Value.str (Str.ofString "friendly") k13, val := .int 0 v13 }, { hash := PyData.keyHash w.params (Str.ofString "friendly_credit"), key := Value.str (Str.ofString "friendly_credit") k14, val := .int 0 v14 }] 15) [(x, instObj 248 dx), (row, pairObj st now ts tn nr)]
      (fun C => ∀ (W' F' top' pri' : Int) (T' R' SE' : Value) (u1 u4 u5 u6 u7 : Tok), (f < 2 ∧ last < st → W' = cutC W d ∧ (∃ t, T' = Value.int W' t) ∧ ∃ t, R' = Value.int now t) → (¬ (f < 2 ∧ last < st) → W' = W ∧ T' = T ∧ R' = R) →
        (f = 0 → F' = F) → (f ≠ 0 → F' = F - size) → C .none ((dictOf [{ hash := PyData.keyHash w.params (Str.ofString "datagram"), key := Value.str (Str.ofString "datagram") k0, val := .int d v0 }, { hash := PyData.keyHash w.params (Str.ofString "window"), key := Value.str (Str.ofString "window") k1, val := .int W' u1 }, { hash := PyData.keyHash w.params (Str.ofString "threshold"), key := Value.str (Str.ofString "threshold") k2, val := T' }, { hash := PyData.keyHash w.params (Str.ofString "recovery_at"), key := Value.str (Str.ofString "recovery_at") k3, val := R' }, { hash := PyData.keyHash w.params (Str.ofString "in_flight"), key := Value.str (Str.ofString "in_flight") k4, val := .int F' u4 }, { hash := PyData.keyHash w.params (Str.ofString "credit"), key := Value.str (Str.ofString "credit") k5, val := .int 0 u5 }, { hash := PyData.keyHash w.params (Str.ofString "top_window"), key := Value.str (Str.ofString "top_window") k6, val := .int top' u6 }, { hash := PyData.keyHash w.params (Str.ofString "prior_window"), key := Value.str (Str.ofString "prior_window") k7, val := .int pri' u7 }, { hash := PyData.keyHash w.params (Str.ofString "begun_at"), key := Value.str (Str.ofString "begun_at") k8, val := .none }, { hash := PyData.keyHash w.params (Str.ofString "idle_since"), key := Value.str (Str.ofString "idle_since") k9, val := .none }, { hash := PyData.keyHash w.params (Str.ofString "empty_since"), key := Value.str (Str.ofString "empty_since") k10, val := .none }, { hash := PyData.keyHash w.params (Str.ofString "seen_at"), key := Value.str (Str.ofString "seen_at") k11, val := SE' }, { hash := PyData.keyHash w.params (Str.ofString "meets_after"), key := Value.str (Str.ofString "meets_after") k12, val := .int 0 v12 }, { hash := PyData.keyHash w.params (Str.ofString "friendly"), key := Value.str (Str.ofString "friendly") k13, val := .int 0 v13 }, { hash := PyData.keyHash w.params (Str.ofString "friendly_credit"), key := Value.str (Str.ofString "friendly_credit") k14, val := .int 0 v14 }] 15))) := by
  unfold Turns2 Turns P
  refine ⟨fun C C' h p => by (dsimp only at p ⊢); intros; apply h; apply p <;> assumption, ?_⟩
  k_fill
  intro rest hr hro dp un gd cn cs a ccd cl outer A₀ base h₀ L m s Q E B F0 X N Tp hk hd hu hret
  have hx : (x, instObj 248 dx) ∈ rest := hro _ (.head _)
  have hrow : (row, pairObj st now ts tn nr) ∈ rest := hro _ (.tail _ (.head _))
  have hne' : @LT.lt Nat _ dx x := hne
  k_with "mark" => exact hR
  rcases (by omega : f = 0 ∨ f = 1 ∨ f = 2 ∨ 3 ≤ f) with rfl | rfl | rfl | h9
  · refine wpAny_call ?_
    k_dflt cell_enter
    k_steps
    rename (last < st → _) => hc1
    rename (¬ last < st → _) => hc2
    (rename News h₀ L _ _ => kN9); (rename Fr h₀ L _ _ => kF9); exact hret _ _ _ _ _ _ _ _ _ _ _ _ (fun h => hc1 h.2) (fun h => hc2 fun k => h ⟨by decide, k⟩) (fun _ => rfl) (fun h => absurd rfl h) _ _ kF9 kN9
  · refine wpAny_call ?_
    k_dflt cell_enter
    k_steps
    rename (last < st → _) => hc1
    rename (¬ last < st → _) => hc2
    (rename News h₀ L _ _ => kN9); (rename Fr h₀ L _ _ => kF9); exact hret _ _ _ _ _ _ _ _ _ _ _ _ (fun h => hc1 h.2) (fun h => hc2 fun k => h ⟨by decide, k⟩) (fun h => absurd h (by decide)) (fun _ => rfl) _ _ kF9 kN9
  · refine wpAny_call ?_
    k_dflt cell_enter
    k_steps
    all_goals (
      (rename News h₀ L _ _ => kN9); (rename Fr h₀ L _ _ => kF9); exact hret W _ _ _ T _ _ _ _ _ _ _ (fun h => absurd h.1 (by decide)) (fun _ => ⟨rfl, rfl, rfl⟩) (fun h => absurd h (by decide)) (fun _ => rfl) _ _ kF9 kN9)
  · rcases hR with ⟨rfl, hs⟩ | ⟨t, rfl⟩
    · have hlf : lim = false := by cases lim with | false => rfl | true => have := (hl1 rfl).2; omega
      subst hlf
      refine wpAny_call ?_
      k_dflt cell_enter
      k_steps
      all_goals (
        (rename News h₀ L _ _ => kN9); (rename Fr h₀ L _ _ => kF9); exact hret W _ _ _ T _ _ _ _ _ _ _ (fun h => absurd h.1 (by omega)) (fun _ => ⟨rfl, rfl, rfl⟩) (fun h => absurd h (by omega)) (fun _ => rfl) _ _ kF9 kN9)
    · cases lim with
      | false =>
        refine wpAny_call ?_
        k_dflt cell_enter
        k_steps
        all_goals (
          (rename News h₀ L _ _ => kN9); (rename Fr h₀ L _ _ => kF9); exact hret W _ _ _ T _ _ _ _ _ _ _ (fun h => absurd h.1 (by omega)) (fun _ => ⟨rfl, rfl, rfl⟩) (fun h => absurd h (by omega)) (fun _ => rfl) _ _ kF9 kN9)
      | true =>
        have hs := (hl1 rfl).2
        refine wpAny_call ?_
        k_dflt cell_enter
        k_steps
        all_goals (
          (rename News h₀ L _ _ => kN9); (rename Fr h₀ L _ _ => kF9); exact hret W _ _ _ T _ _ _ _ _ _ _ (fun h => absurd h.1 (by omega)) (fun _ => ⟨rfl, rfl, rfl⟩) (fun h => absurd h (by omega)) (fun _ => rfl) _ _ kF9 kN9)
local macro_rules | `(tactic| walk_at "call ref") => `(tactic| (k_here; (with_reducible show wpAny _ _ (call (Value.ref 269) (Value.ref _ :: _)) _ _ _); k_dflt (refine' Turns.use (wordC ?h0 ?h1 ?h2 ?h3 ?h4 ?h5 ?h6 ?h7 ?h8 ?h9 ?h10) ?kU (kro_two ?km ?kn ?km2 ?kn2) ?kB ?kF ?kX ?kN ?kT ?kk ?kd ?ku ?_; (case kB => k_asm); (case kF => k_asm); (case kX => k_asm); (case kN => k_asm); (case kT => k_asm); (case km => k_mem); (case kU => k_updF); (case kn => k_ne); (case km2 => k_mem); (case kn2 => k_ne); (case h0 => (k_extra "mark")); (case h1 => (k_extra "lim")); (case h2 => omega); (case h3 => omega); (case h4 => omega); (case h5 => omega); (case h6 => omega); (case h7 => omega); (case h8 => omega); (case h9 => omega); (case h10 => omega); (case kk => first | exact rfl | assumption); (case kd => k_room); (case ku => k_units); k_whole); intro W' F1' top' pri' T' R' SE' u1 u4 u5 u6 u7 hc1' hc2' hF1' hF2' h' tk' F' N'; skip; (try dsimp only); (try k_fold); (try k_sweep)))
/-! Apart -/
theorem walk_off_Apart : True := by (w_top off); k_with_none; trivial
section
variable {prog : Program} {w : World} {A : Around} {E : Value → Shared → Prop} {s : Shared} {h₀ : Heap} {L l : Addr}
theorem len_made {news : List (Addr × Obj)} {us : List Value} {n k : Nat} {Q : Value → Shared → Prop} (N : News h₀ L s.heap news) (hm : (l, listOf us.toArray n) ∈ news) (hk : us.length = k) (hfit : (k : Int) < 2 ^ 63)
    (h : ∀ t tk, Q (.int (k : Int) t) { s with toks := tk }) : wpAny (model prog w) A (call (.builtin "len") [.ref l]) Q E s := by
  have hl : s.heap.IsList l us.toArray := ⟨_, (N _ hm).1, rfl, n, rfl⟩
  have e : us.toArray.size = k := by rw [List.size_toArray, hk]
  exact len_list hl (by rw [e]; exact hfit) (by rw [e]; exact h _ _)
theorem item_base {value slice : PySem.Expr} {m : Str → Option Value} {us : List Value} {k : Int} {u : Tok} {v : Value} {Q : Value → Shared → Prop} (hl : h₀.IsList l us.toArray) (F : Fr h₀ L s.heap m) (hv : us[k.toNat]? = some v) (h0 : 0 ≤ k) (hfit : k < 2 ^ 63) (h : Q v s)
    (hs : subscripted slice false (.ref l) (.int k u) = operate [.ref l, .int k u] (getItem (.ref l) (.int k u)) := by with_unfolding_all rfl) :
    wpAny (model prog w) A (subscriptTail value slice (.ref l) (.int k u)) Q E s := by
  have hl' : s.heap.IsList l us.toArray := hl.at fun o e => F.keep _ _ e
  exact tail_any hl'.typeIs slot_list_getitem.lookup (wpAny_getItem_list hl' h0 hfit (by simpa using hv) h) hs
theorem item_made {value slice : PySem.Expr} {news : List (Addr × Obj)} {n : Nat} {us : List Value} {k : Int} {u : Tok} {v : Value} {Q : Value → Shared → Prop} (N : News h₀ L s.heap news) (hm : (l, listOf us.toArray n) ∈ news) (hv : us[k.toNat]? = some v) (h0 : 0 ≤ k) (hfit : k < 2 ^ 63) (h : Q v s)
    (hs : subscripted slice false (.ref l) (.int k u) = operate [.ref l, .int k u] (getItem (.ref l) (.int k u)) := by with_unfolding_all rfl) :
    wpAny (model prog w) A (subscriptTail value slice (.ref l) (.int k u)) Q E s := by
  have hl' : s.heap.IsList l us.toArray := ⟨_, (N _ hm).1, rfl, n, rfl⟩
  exact tail_any hl'.typeIs slot_list_getitem.lookup (wpAny_getItem_list hl' h0 hfit (by simpa using hv) h) hs
theorem tup_up {m : Str → Option Value} {h : Heap} {t : Addr} {items : Array Value} (ht : IsTup h₀ t items) (F : Fr h₀ L h m) : IsTup h t items := by
  obtain ⟨o, e, r⟩ := ht
  exact ⟨o, F.keep _ _ e, r⟩
theorem compT_ind {m : Str → Option Value} {env : Env} {ct elt : PySem.Expr} {x : Str} {scope : Scope} {cl : List (Str × Addr)} {S : List (Addr × Obj) → Prop} {P : Nat → Value → Prop} {Fin : List Value → List (Addr × Obj) → Prop} {news : List (Addr × Obj)} {n : Nat}
    (Inv : Nat → List Value → Prop) (h0 : Inv 0 []) (fin : ∀ ys, Inv n ys → Fin ys news)
    (step : ∀ k i ys, i < n → Inv i ys → (∀ ys', Inv (i + 1) ys' → LCt.CompRestT prog w A h₀ L m env ct elt x scope cl s S P Fin k (i + 1) ys' news) → LCt.CompRestT prog w A h₀ L m env ct elt x scope cl s S P Fin (k + 1) i ys news) :
    LCt.CompRestT prog w A h₀ L m env ct elt x scope cl s S P Fin n 0 [] news := by
  have key : ∀ k i ys, i + k = n → Inv i ys → LCt.CompRestT prog w A h₀ L m env ct elt x scope cl s S P Fin k i ys news := by
    intro k
    induction k with
    | zero => intro i ys e h; exact LCt.CompRestT.zero (fin _ (by rw [show n = i by omega]; exact h))
    | succ k ih => intro i ys e h; exact step k i ys (by omega) h fun ys' h' => ih (i + 1) ys' (by omega) h'
  exact key n 0 [] (by omega) h0
/-- what the rows ahead allow: the best of those that came ahead of the sending -/
def ahead (rs : List (Int × Int)) (bs : List Int) (s : Int) : List Int := (rs.zip bs).filterMap fun p => if p.1.2 < s then some p.2 else none
theorem ahead_succ {rs : List (Int × Int)} {bs : List Int} {j : Nat} {sj cj bj : Int} (s : Int) (hr : rs[j]? = some (sj, cj)) (hb : bs[j]? = some bj) :
    ahead (rs.take (j + 1)) bs s = ahead (rs.take j) bs s ++ (if cj < s then [bj] else []) := by
  have hj : j < bs.length := by rw [List.getElem?_eq_some_iff] at hb; exact hb.1
  have hjr : j < rs.length := by rw [List.getElem?_eq_some_iff] at hr; exact hr.1
  have e1 : rs.take (j + 1) = rs.take j ++ [(sj, cj)] := by rw [List.take_add_one, hr]; rfl
  have e2 : bs = bs.take j ++ bj :: bs.drop (j + 1) := by
    have h := List.take_append_drop j bs
    have h2 : bs.drop j = bj :: bs.drop (j + 1) := by
      rw [List.drop_eq_getElem_cons hj]
      congr 1
      rw [List.getElem?_eq_getElem hj] at hb
      exact Option.some.inj hb
    rw [← h2]; exact h.symm
  have hl : (rs.take j).length = (bs.take j).length := by rw [List.length_take, List.length_take]; omega
  unfold ahead
  rw [e1, e2]
  have z1 : (rs.take j ++ [(sj, cj)]).zip (bs.take j ++ bj :: bs.drop (j + 1)) = (rs.take j).zip (bs.take j) ++ [((sj, cj), bj)] := by
    rw [List.zip_append hl]; rfl
  have z2 : (rs.take j).zip (bs.take j ++ bj :: bs.drop (j + 1)) = (rs.take j).zip (bs.take j) := by
    have := List.zip_append (r₁ := ([] : List (Int × Int))) (r₂ := bj :: bs.drop (j + 1)) hl
    rw [List.append_nil, List.zip_nil_left, List.append_nil] at this
    exact this
  rw [z1, z2, List.filterMap_append]
  congr 1
  by_cases hc : cj < s
  · rw [if_pos hc]; simp only [List.filterMap_cons, List.filterMap_nil, if_pos hc]
  · rw [if_neg hc]; simp only [List.filterMap_cons, List.filterMap_nil, if_neg hc]
theorem ahead_len (rs : List (Int × Int)) (bs : List Int) (s : Int) : (ahead rs bs s).length ≤ bs.length := by
  unfold ahead
  refine Nat.le_trans (List.length_filterMap_le _ _) ?_
  rw [List.length_zip]; omega
/-- the greatest of a list, 0 at least -/
def mx (l : List Int) : Int := l.foldl max 0
theorem foldl_max (l : List Int) : ∀ a : Int, a ≤ l.foldl max a ∧ (∀ b ∈ l, b ≤ l.foldl max a) ∧ (l.foldl max a = a ∨ l.foldl max a ∈ l) := by
  induction l with
  | nil => intro a; exact ⟨Int.le_refl _, fun b hb => absurd hb List.not_mem_nil, .inl rfl⟩
  | cons x l ih =>
    intro a
    obtain ⟨h1, h2, h3⟩ := ih (max a x)
    show a ≤ l.foldl max (max a x) ∧ (∀ b ∈ x :: l, b ≤ l.foldl max (max a x)) ∧ (l.foldl max (max a x) = a ∨ l.foldl max (max a x) ∈ x :: l)
    refine ⟨by omega, fun b hb => ?_, ?_⟩
    · rcases List.mem_cons.mp hb with e | e
      · omega
      · exact h2 b e
    · rcases h3 with e | e
      · rcases Int.le_total a x with k | k
        · exact .inr (by rw [e, Int.max_eq_right k]; exact .head _)
        · exact .inl (by rw [e, Int.max_eq_left k])
      · exact .inr (.tail _ e)
theorem mx_eq {l : List Int} {M : Int} (h1 : M ∈ [0] ++ l) (h2 : ∀ a, a ∈ [0] ++ l → a ≤ M) : M = mx l := by
  obtain ⟨k1, k2, k3⟩ := foldl_max l 0
  have a1 : mx l ≤ M := by
    rcases k3 with e | e
    · show l.foldl max 0 ≤ M
      rw [e]; exact h2 0 (.head _)
    · exact h2 _ (.tail _ e)
  have a2 : M ≤ mx l := by
    rcases List.mem_cons.mp h1 with e | e
    · rw [e]; exact k1
    · exact k2 _ e
  omega
def bstep (acc : List (Int × Int) × List Int) (r : Int × Int) : List (Int × Int) × List Int := (acc.1 ++ [r], acc.2 ++ [1 + mx (ahead acc.1 acc.2 r.1)])
def brun (rs : List (Int × Int)) : List (Int × Int) × List Int := rs.foldl bstep ([], [])
def bestsOf (rs : List (Int × Int)) : List Int := (brun rs).2
theorem brun_snoc (rs : List (Int × Int)) (r : Int × Int) : brun (rs ++ [r]) = bstep (brun rs) r := by unfold brun; rw [List.foldl_append]; rfl
theorem foldl_fst (rs : List (Int × Int)) : ∀ acc, (rs.foldl bstep acc).1 = acc.1 ++ rs ∧ (rs.foldl bstep acc).2.length = acc.2.length + rs.length := by
  induction rs with
  | nil => intro acc; simp
  | cons r rs ih =>
    intro acc
    obtain ⟨h1, h2⟩ := ih (bstep acc r)
    refine ⟨?_, ?_⟩
    · show (rs.foldl bstep (bstep acc r)).1 = _
      rw [h1]; simp [bstep]
    · show (rs.foldl bstep (bstep acc r)).2.length = _
      rw [h2]; simp [bstep]; omega
theorem brun_fst (rs : List (Int × Int)) : (brun rs).1 = rs := by have := (foldl_fst rs ([], [])).1; rw [List.nil_append] at this; exact this
theorem bestsOf_len (rs : List (Int × Int)) : (bestsOf rs).length = rs.length := by have := (foldl_fst rs ([], [])).2; rw [List.length_nil, Nat.zero_add] at this; exact this
theorem bestsOf_snoc (rs : List (Int × Int)) (r : Int × Int) : bestsOf (rs ++ [r]) = bestsOf rs ++ [1 + mx (ahead rs (bestsOf rs) r.1)] := by
  unfold bestsOf
  rw [brun_snoc]
  show (bstep (brun rs) r).2 = _
  unfold bstep
  rw [brun_fst]
/-- how many lie apart at most -/
def apart (rs : List (Int × Int)) : Int := mx (bestsOf rs)
theorem made_list {news : List (Addr × Obj)} {vs : List Value} {n : Nat} (N : News h₀ L s.heap news) (hm : (l, listOf vs.toArray n) ∈ news) : s.heap.IsList l vs.toArray := ⟨_, (N _ hm).1, rfl, n, rfl⟩
theorem made_lst {news : List (Addr × Obj)} {vs : List Value} (N : News h₀ L s.heap news) (hm : (l, LCg.lst vs) ∈ news) : s.heap.IsList l vs.toArray := ⟨_, (N _ hm).1, rfl, _, rfl⟩
theorem rows_at {news : List (Addr × Obj)} {us : List Value} {rs : List (Int × Int)} {g : Heap} {j : Nat} (h : RowsAre news us rs) (hG : ∀ q ∈ news, g.get? q.1 = some q.2) (hj : j < rs.length) :
    ∃ (a : Addr) (s c : Int), us[j]? = some (.ref a) ∧ rs[j]? = some (s, c) ∧ ∃ t t', IsTup g a [Value.int s t, Value.int c t'].toArray := by
  have hu : j < us.length := by rw [h.1]; exact hj
  obtain ⟨a, s, c, t, t', n, e, hr, hm⟩ := h.2 j us[j] (List.getElem?_eq_getElem hu)
  exact ⟨a, s, c, by rw [List.getElem?_eq_getElem hu, e], hr, t, t', _, hG _ hm, rfl, n, rfl⟩
theorem ints_at {vs : List Value} {ns : List Int} {j : Nat} (h : IntsAre vs ns) (hj : j < ns.length) : ∃ n t, vs[j]? = some (.int n t) ∧ ns[j]? = some n := by
  obtain ⟨t, e⟩ := h.get j ns[j] (List.getElem?_eq_getElem hj)
  exact ⟨_, t, e, List.getElem?_eq_getElem hj⟩
end
section
local macro_rules | `(tactic| walk_at "subscriptTail") => `(tactic| (k_here; (with_reducible show wpAny _ _ (subscriptTail _ _ (Value.ref _) (Value.int _ _)) _ _ _); k_dflt (first | (refine' item_base ?k1 ?k2 ?k3 ?k4 ?k5 ?_; (case k1 => assumption); (case k3 => assumption); (case k2 => k_asm); (case k4 => omega); (case k5 => omega)) | (refine' item_made ?k1 ?k2 ?k3 ?k4 ?k5 ?_; (case k1 => k_asm); (case k2 => first | exact .head _ | exact .tail _ (.head _) | exact .tail _ (.tail _ (.head _)) | exact .tail _ (.tail _ (.tail _ (.head _)))); (case k3 => assumption); (case k4 => omega); (case k5 => omega)) | (refine' item_tupleT ?t ?a ?b ?c ?d ?_; (case t => exact tup_up (by assumption) (by k_asm)); (case a => decide); (case b => decide); (case c => rfl); (case d => rfl); k_whole))))
local macro_rules | `(tactic| walk_at "call builtin:len") => `(tactic| (k_here; (with_reducible show wpAny _ _ (call (Value.builtin "len") [Value.ref _]) _ _ _); k_dflt (refine' len_made ?k1 ?k2 ?k3 ?k4 ?_; (case k1 => k_asm); (case k2 => exact .head _); (case k3 => assumption); (case k4 => omega)); intro t' tk'; (try dsimp only)))
theorem lawApart {w : World} {mean : ExcName → Option Value} {mg mb : Str → Option Value} {rows : Addr} {us : List Value} {nr : Nat} {rs : List (Int × Int)} :
    ∀ news, (rows, listOf us.toArray nr) ∈ news → RowsAre news us rs → rs.length < 1000 → Ready P w (hd.heap_39 w.params) view (looseW view []) mean mg mb 12 262 [.ref rows] news fun h₀ L s FrAt Q =>
      ∀ t h' tk', FrAt h' → News h₀ L h' news → Q (.int (apart rs) t) { s with heap := h', toks := tk' } := by
  unfold Ready P
  k_fill
  intro news hr hdat hlen dp un gd cn cs a ccd cl outer A₀ base h₀ L m s Q E B F X N T hk hd hu hret
  refine wpAny_call ?_
  k_dflt (refine' code_partC (news := []) (rest := news) ?k1 ?k2 ?k3 ?k4 ?kd ?k5 ?kA ?kF ?kK ?k6 ?k7 ?k8 ?k9 ?kB ?kD ?_ ?c2 ?c3 ?c4; (case kA => exact rfl); (case kF => exact rfl); (case kK => assumption); (case k1 => k_asm); (case k2 => k_asm); (case k3 => k_asm); (case k4 => exact N); (case kd => exact (fun _ _ hm => List.not_mem_nil hm)); (case k5 => k_asm); (case k6 => k_is); (case k7 => k_is); (case k8 => ktr_room); (case k9 => exact BindsTo.of_eq rfl); (case kB => exact rfl); (case kD => decide +kernel); (case c2 => exact rfl); (case c3 => exact rfl); (case c4 => exact rfl); k_whole; intro g' L' h' tk' cells' FG' F' N' Y' B' X' T' l1 hG'; (try k_lt l1); k_cells Y'; (try simp only [List.cons_append, List.nil_append] at N'); (try dsimp only); (try k_lift B'); (try k_fold))
  have hrows : g'.IsList rows us.toArray := ⟨_, hG' _ hr, rfl, _, rfl⟩
  (rename _ = Data.cell (bindC _ _ _ (Str.ofString "rows")) => dR)
  have dR' : _ = Data.cell (some (Value.ref rows)) := dR
  clear dR
  repeat' ((fail_if_success (with_reducible show wpAny _ _ (exec (Stmt.For _ _ _ _ _) _) _ _ _)); (first | (k_unfold; (try dsimp only)) | (k_end; wrow_close) | ((with_reducible show wpAny _ _ (exec _ _) _ _ _); k_fold) | walk1 | (dsimp only; walk1) | (leave1; (try dsimp only))))
  with_unfolding_all refine For_invTF (by assumption) ?_ (fun _ => rfl)
  repeat' ((fail_if_success (with_reducible show wpAny _ _ (pyIter _) _ _ _)); (first | (k_unfold; (try dsimp only)) | (k_end; wrow_close) | ((with_reducible show wpAny _ _ (exec _ _) _ _ _); k_fold) | walk1 | (dsimp only; walk1) | (leave1; (try dsimp only))))
  rename News _ _ _ [(_, _), (_, _), (_, _), (_, _)] => N1
  rename Fr g' _ _ _ => F1
  rename _ = Data.cell (some (Value.ref _)) => dB
  obtain ⟨lB, oS, oB, oR, N1, dB, dR, hlB, dS⟩ : ∃ (lB : Addr) (oS oB oR : Obj), News g' L' _ [(lB, listOf #[] 0), (L' + 1 + 1 + 1, oS), (L' + 1 + 1, oB), (L' + 1, oR)] ∧ oB.data = Data.cell (some (Value.ref lB)) ∧ oR.data = Data.cell (some (Value.ref rows)) ∧ (@LT.lt Nat _ (L' + 1 + 1 + 1) lB) ∧ ∃ ov, oS.data = Data.cell ov := ⟨_, _, _, _, N1, dB, dR', by omega, _, by assumption⟩
  refine iter_listT (fun i m nx => ∃ (bs : List Int) (ub : List Value) (nb : Nat) (oS : Obj), nx = [(lB, listOf ub.toArray nb), (L' + 1 + 1 + 1, oS), (L' + 1 + 1, oB), (L' + 1, oR)] ∧ IntsAre ub bs ∧ bs = bestsOf (rs.take i) ∧ ∃ ov, oS.data = Data.cell ov) rfl hrows F1 N1 ?_ ?_ ?_
  · exact ⟨[], [], 0, _, rfl, .nil, rfl, dS⟩
  · rintro i v m₁ nx s₁ own hv hoff ⟨bs, ub, nb, oS, rfl, hb, hbs, ov, hoS⟩ F2 N2
    obtain ⟨a, sv, cv, t, t', n', rfl, hri, hmem⟩ := hdat.2 i v hv
    have htup : IsTup g' a [Value.int sv t, Value.int cv t'].toArray := ⟨_, hG' _ hmem, rfl, n', rfl⟩
    clear N1 F1
    have hi0 : i < rs.length := by rw [List.getElem?_eq_some_iff] at hri; exact hri.1
    have hl : bs.length = i := by rw [hbs, bestsOf_len, List.length_take]; omega
    have hub : ub.length = i := by rw [← hl]; exact hb.length
    simp only [List.cons_append, List.nil_append] at N2
    (change Fr g' L' _ _ at F2); (change News g' L' _ _ at N2)
    have hO1 : ∀ q ∈ own, q.1 ≠ lB := fun q hq => hoff q hq _ (.head _)
    have hO2 : ∀ q ∈ own, q.1 ≠ L' + 1 + 1 + 1 := fun q hq => hoff q hq _ (.tail _ (.head _))
    repeat' ((fail_if_success (with_reducible show wpAny _ _ (exec (Stmt.Assign [Expr.Name (Str.ofString "ahead") _] _ _) _) _ _ _)); (first | (k_unfold; (try dsimp only)) | (k_end; wrow_close) | ((with_reducible show wpAny _ _ (exec _ _) _ _ _); k_fold) | walk1 | (dsimp only; walk1) | (leave1; (try dsimp only))))
    with_unfolding_all refine LCt.Assign_ListComp_T (F₀ := by assumption) (by rfl) (by with_unfolding_all rfl) (by with_unfolding_all rfl) (by decide) (by rfl) (by decide) (by rfl) (by rfl) (by rfl) ?_
    repeat' ((fail_if_success (with_reducible show LCt.CompSrcT ..)); (first | (k_unfold; (try dsimp only)) | (k_end; wrow_close) | ((with_reducible show wpAny _ _ (exec _ _) _ _ _); k_fold) | walk1 | (dsimp only; walk1) | (leave1; (try dsimp only))))
    refine LCt.CompSrcT.range (n := i) (by rfl) (by assumption) (by assumption) (by assumption) ?_ ?_ ?_ ?_
    · exact small_one (by omega) (by omega) (by omega) (by omega)
    · rw [rangeSize_nat]; omega
    · rw [sizeLine_eq]; omega
    intro g3
    refine compT_ind (fun j ys => IntsAre ys (ahead (rs.take j) bs sv)) .nil ?_ ?_
    · intro ys hys
      unfold LCg.FinA
      intro D4 h4 tk4 F4 N4 o4
      have hal : (ahead (rs.take i) bs sv).length < 1000 := by have := ahead_len (rs.take i) bs sv; omega
      repeat' ((fail_if_success (with_reducible show wpAny _ _ (binaryOp Operator.Add (Value.ref _) _) _ _ _)); (first | (k_unfold; (try dsimp only)) | (k_end; wrow_close) | ((with_reducible show wpAny _ _ (exec _ _) _ _ _); k_fold) | walk1 | (dsimp only; walk1) | (leave1; (try dsimp only))))
      rename News _ _ _ ((_, _) :: (D4, _) :: _) => N5
      refine kmk_add_ints (by assumption) N5 (made_list N5 (.head _)) (made_lst N5 (.tail _ (.head _))) (.cons _ _ .nil) hys ?_ (by rw [sizeLine_eq]; simp only [List.length_cons, List.length_nil]; omega)
      intro D6 u6 h6 F6 N6 l6 hi6
      repeat' ((fail_if_success (with_reducible show wpAny _ _ (call (Value.builtin "max") _) _ _ _)); (first | (k_unfold; (try dsimp only)) | (k_end; wrow_close) | ((with_reducible show wpAny _ _ (exec _ _) _ _ _); k_fold) | walk1 | (dsimp only; walk1) | (leave1; (try dsimp only))))
      refine max_list_N (by rfl) (by assumption) N6 (made_list N6 (.head _)) hi6 (by simp) ?_
      intro h7 M7 t7 tk7 F7 N7 hM1 hM2
      have hM := mx_eq hM1 hM2
      subst hM
      clear N6 F6 N5
      k_lt l6
      repeat' ((fail_if_success (with_reducible show wpAny _ _ (call (Value.builtin "list.append") _) _ _ _)); (first | (k_unfold; (try dsimp only)) | (k_end; wrow_close) | ((with_reducible show wpAny _ _ (exec _ _) _ _ _); k_fold) | walk1 | (dsimp only; walk1) | (leave1; (try dsimp only))))
      have ho4 : @Ne Nat lB D4 := o4.1
      refine' append_K (n := nb) (its := ub.toArray) (by assumption) N7 ?U ?_ (by rw [List.size_toArray, hub, sizeLine_eq]; omega)
      case U => k_upd
      intro h8 F8 N8
      rw [show ub.toArray.push (Value.int (1 + mx (ahead (rs.take i) bs sv)) tk7) = (ub ++ [Value.int (1 + mx (ahead (rs.take i) bs sv)) tk7]).toArray by simp] at N8
      clear N7 F7
      repeat' ((fail_if_success (with_reducible show TurnEnd ..)); (first | (k_unfold; (try dsimp only)) | (k_end; wrow_close) | ((with_reducible show wpAny _ _ (exec _ _) _ _ _); k_fold) | walk1 | (dsimp only; walk1) | (leave1; (try dsimp only))))
      have hs1 : rs.take (i + 1) = rs.take i ++ [(sv, cv)] := by rw [List.take_add_one, hri]; rfl
      refine ⟨rfl, _, _, _, _, [(lB, listOf (ub ++ [Value.int (1 + mx (ahead (rs.take i) bs sv)) tk7]).toArray (nb + 1)), (L' + 1 + 1 + 1, _), (L' + 1 + 1, oB), (L' + 1, oR)], rfl, by assumption, N8, fun p hp => ?_, fun p hp => ?_, ?_, _, _, _, _, rfl, hb.append (.cons _ _ .nil), ?_, _, by assumption⟩
      · exact .tail _ (.tail _ (.tail _ (List.mem_append_left (bs := own) hp)))
      · exact .tail _ (.tail _ (.tail _ (List.mem_append_right [_, _, _, _] hp)))
      · exact hoff
      · rw [hs1, bestsOf_snoc, ← hbs]
    intro k j ys hj hInv again
    refine LCt.CompRestT.succ ?_
    intro v I3 oI C3 oC D3 m3 h3 tk3 E3 hv3 hC3 hx3 F3 N3 off3 ne3
    obtain ⟨tv, rfl⟩ := hv3
    obtain ⟨aj, sj, cj, hju, hjr, hjt⟩ := rows_at hdat hG' (show j < rs.length by omega)
    obtain ⟨bj, tb, hjb, hjb'⟩ := ints_at hb (show j < bs.length by rw [hl]; exact hj)
    have hjz : (0 + (j : Int)).toNat = j := by omega
    rw [← hjz] at hju hjb
    obtain ⟨t1, t2, hjt⟩ := hjt
    have hstep := ahead_succ sv hjr hjb'
    have hgd : bs.getD (0 + (j : Int)).toNat 0 = bj := by rw [hjz, List.getD_eq_getElem?_getD, hjb']; rfl
    repeat' ((fail_if_success (with_reducible show LCg.CompEnd ..)); (first | (k_unfold; (try dsimp only)) | (k_end; wrow_close) | ((with_reducible show wpAny _ _ (exec _ _) _ _ _); k_fold) | walk1 | (dsimp only; walk1) | (leave1; (try dsimp only))))
    all_goals (dsimp only)
    · refine LCg.CompEnd.intro (by assumption) (by assumption) _ (fun _ hp => hp) off3 trivial (again _ ?_)
      rw [hgd, hstep, if_pos (by first | assumption | (simp_all; done))]
      exact IntsAre.append hInv (.cons _ _ .nil)
    · refine LCg.CompEnd.intro (by assumption) (by assumption) _ (fun _ hp => hp) off3 trivial (again _ ?_)
      rw [hstep, if_neg (by first | assumption | (simp_all; done)), List.append_nil]
      exact hInv
  · rintro m₁ nx h tk ⟨bs, ub, nb, oS, rfl, hb, hbs, ov, hoS⟩ F2 N2
    have hul : us.length = rs.length := hdat.1
    rw [hul, List.take_length] at hbs
    have hbl : bs.length = rs.length := by rw [hbs, bestsOf_len]
    (change Fr g' L' _ _ at F2); (change News g' L' _ _ at N2)
    clear N1 F1
    repeat' ((fail_if_success (with_reducible show wpAny _ _ (binaryOp Operator.Add (Value.ref _) _) _ _ _)); (first | (k_unfold; (try dsimp only)) | (k_end; wrow_close) | ((with_reducible show wpAny _ _ (exec _ _) _ _ _); k_fold) | walk1 | (dsimp only; walk1) | (leave1; (try dsimp only))))
    rename News _ _ _ ((_, _) :: (lB, _) :: _) => N5
    refine kmk_add_ints (by assumption) N5 (made_list N5 (.head _)) (made_list N5 (.tail _ (.head _))) (.cons _ _ .nil) hb ?_ (by rw [sizeLine_eq]; simp only [List.length_cons, List.length_nil]; omega)
    intro D6 u6 h6 F6 N6 l6 hi6
    repeat' ((fail_if_success (with_reducible show wpAny _ _ (call (Value.builtin "max") _) _ _ _)); (first | (k_unfold; (try dsimp only)) | (k_end; wrow_close) | ((with_reducible show wpAny _ _ (exec _ _) _ _ _); k_fold) | walk1 | (dsimp only; walk1) | (leave1; (try dsimp only))))
    refine max_list_N (by rfl) (by assumption) N6 (made_list N6 (.head _)) hi6 (by simp) ?_
    intro h7 M7 t7 tk7 F7 N7 hM1 hM2
    have hM := mx_eq hM1 hM2
    subst hM
    clear N6 F6 N5
    repeat' ((fail_if_success (with_reducible show Q _ _)); (first | (k_unfold; (try dsimp only)) | (k_end; wrow_close) | ((with_reducible show wpAny _ _ (exec _ _) _ _ _); k_fold) | walk1 | (dsimp only; walk1) | (leave1; (try dsimp only))))
    subst hbs
    exact hret _ _ _ (by assumption) (part_back (a := []) N hG' F7)
end
local macro_rules | `(tactic| walk_at "call ref") => `(tactic| (k_here; (with_reducible show wpAny _ _ (call (Value.ref 262) _) _ _ _); k_dflt (refine' lawApart _ ?h0 ?h1 ?h2 _ _ _ _ _ _ _ _ _ _ _ _ _ _ _ _ _ ?kB ?kF ?kX ?kN ?kT ?kk ?kd ?ku ?_; (case kB => k_asm); (case kF => k_asm); (case kX => k_asm); (case kN => k_asm); (case kT => k_asm); (case h0 => k_mem); (case h1 => (k_extra "rows")); (case h2 => (k_extra "rowsLen")); (case kk => first | exact rfl | assumption); (case kd => k_room); (case ku => k_units); k_whole); intro t' h' tk' F' N'; (try dsimp only); (try k_fold); (try k_sweep)))
/-! Right -/
theorem walk_off_Right : True := by (w_top off); k_with_none; trivial
section
variable {prog : Program} {w : World} {A : Around} {E : Value → Shared → Prop} {s : Shared} {a b : Int} {t u : Tok} {Q : Value → Shared → Prop}
theorem mul_pow (ha : -(2 ^ 62) < a) (ha2 : a < 2 ^ 62) (h : ∀ t, Q (.int (a * b) t) { s with toks := s.toks + 1 }) :
    wpAny (model prog w) A (binaryOp .Mult (.int a t) (.int b u)) Q E s :=
  mul_int (h _) (PySem.IntMulOk.of_left (PySem.intBits_le_64 (by omega) (by omega)))
theorem eq_same {x y : Addr} {xs ys : List Value} {ns : List Int} (ha : s.heap.IsList x xs.toArray) (hb : s.heap.IsList y ys.toArray) (hi : IntsAre xs ns) (hj : IntsAre ys ns) (hu : A.units + 64 < cLine) (h : Q (.bool true) s) :
    wpAny (model prog w) A (compareOp .Eq (.ref x) (.ref y)) Q E s := ke_eq_ints ha hb hi hj hu (by rw [decide_eq_true rfl]; exact h)
end
theorem pow_bound {b : Int} {k : Nat} (h0 : 1 ≤ b) (h1 : b ≤ 10) (hk : k < 18) : 1 ≤ b ^ k ∧ b ^ k ≤ 1000000000000000000 := by
  have h2 : b ^ k ≤ 10 ^ k := by
    clear hk
    induction k with
    | zero => simp
    | succ k ih =>
      have hb : 0 ≤ b ^ k := Int.pow_nonneg (by omega)
      rw [Int.pow_succ, Int.pow_succ]
      exact Int.mul_le_mul ih h1 (by omega) (Int.pow_nonneg (by decide))
  have h3 : ∀ m : Nat, m < 18 → (10 : Int) ^ m ≤ 1000000000000000000 := by decide
  have h4 : 0 < b ^ k := Int.pow_pos (by omega)
  exact ⟨by omega, Int.le_trans h2 (h3 k hk)⟩
section
local macro_rules | `(tactic| walk_at "compareOp Eq ref ref") => `(tactic| (k_here; (with_reducible show wpAny _ _ (compareOp CmpOp.Eq (Value.ref _) (Value.ref _)) _ _ _); k_dflt (first | refine eq_same (made_list (by k_asm) (by k_mem)) (made_list (by k_asm) (by k_mem)) (.cons _ _ (.cons _ _ .nil)) (.cons _ _ (.cons _ _ .nil)) (by k_units) ?_ | (refine eq_dataH (by ke_read) (by ke_read) (by ke_shaped) (by ke_shaped) (by k_units) ?_; ke_norm))))
local macro_rules | `(tactic| walk_at "binaryOp Mult int int") => `(tactic| (k_here; (with_reducible show wpAny _ _ (binaryOp Operator.Mult (Value.int (HPow.hPow _ _) _) (Value.int _ _)) _ _ _); k_dflt (refine' mul_pow ?h1 ?h2 ?_; (case h1 => omega); (case h2 => omega)); intro t'; (try dsimp only)))
theorem lawRight {w : World} {mean : ExcName → Option Value} {mg mb : Str → Option Value} {d W V first many flying top pri fl1 fl2 : Int} {T1 T2 Rr Rc SE : Value} {xr dr xc dc : Addr} {k0 k1 k2 k3 k4 k5 c0 c1 c2 c3 c4 c5 c6 c7 c8 c9 c10 c11 c12 c13 c14 a0 a1 a4 a5 v0 v1 v4 v5 v6 v7 v12 v13 v14 tf tm tl : Tok}
    (hM : (many = 0 ∧ T1 = Value.none ∧ T2 = Value.none) ∨ (0 < many ∧ ∃ t1 t2, T1 = Value.int W t1 ∧ T2 = Value.int V t2)) (h0 : 0 < d) (h1 : d < 50) (h2 : 0 ≤ many) (h3 : many < 18) (h4 : 0 < first) (h5 : first < 10000) (h6 : 0 < V) (h7 : V < 10000) (hne : @LT.lt Nat _ dr xr) (hne2 : @LT.lt Nat _ dc xc)
    (hw : W = if 2 * d > first.fdiv (2 ^ Int.toNat many) then 2 * d else first.fdiv (2 ^ Int.toNat many))
    (hv1 : ¬ (10 ^ Int.toNat many * V > if 7 ^ Int.toNat many * first > 10 ^ Int.toNat many * (2 * d) then 7 ^ Int.toNat many * first else 10 ^ Int.toNat many * (2 * d)))
    (hv2 : ¬ (7 ^ Int.toNat many * (first + 3) > 10 ^ Int.toNat many * (V + 3))) (hv3 : 2 * d ≤ V) (hq1 : fl1 = flying) (hq2 : fl2 = flying) :
    ∀ news, (xr, instObj 122 dr) ∈ news → (dr, (dictOf [{ hash := PyData.keyHash w.params (Str.ofString "datagram"), key := Value.str (Str.ofString "datagram") k0, val := .int d a0 }, { hash := PyData.keyHash w.params (Str.ofString "window"), key := Value.str (Str.ofString "window") k1, val := .int W a1 }, { hash := PyData.keyHash w.params (Str.ofString "threshold"), key := Value.str (Str.ofString "threshold") k2, val := T1 }, { hash := PyData.keyHash w.params (Str.ofString "recovery_at"), key := Value.str (Str.ofString "recovery_at") k3, val := Rr }, { hash := PyData.keyHash w.params (Str.ofString "in_flight"), key := Value.str (Str.ofString "in_flight") k4, val := .int fl1 a4 }, { hash := PyData.keyHash w.params (Str.ofString "credit"), key := Value.str (Str.ofString "credit") k5, val := .int 0 a5 }] 6)) ∈ news →
      (xc, instObj 248 dc) ∈ news → (dc, (dictOf [{ hash := PyData.keyHash w.params (Str.ofString "datagram"), key := Value.str (Str.ofString "datagram") c0, val := .int d v0 }, { hash := PyData.keyHash w.params (Str.ofString "window"), key := Value.str (Str.ofString "window") c1, val := .int V v1 }, { hash := PyData.keyHash w.params (Str.ofString "threshold"), key := Value.str (Str.ofString "threshold") c2, val := T2 }, { hash := PyData.keyHash w.params (Str.ofString "recovery_at"), key := Value.str (Str.ofString "recovery_at") c3, val := Rc }, { hash := PyData.keyHash w.params (Str.ofString "in_flight"), key := Value.str (Str.ofString "in_flight") c4, val := .int fl2 v4 }, { hash := PyData.keyHash w.params (Str.ofString "credit"), key := Value.str (Str.ofString "credit") c5, val := .int 0 v5 }, { hash := PyData.keyHash w.params (Str.ofString "top_window"), key := Value.str (Str.ofString "top_window") c6, val := .int top v6 }, { hash := PyData.keyHash w.params (Str.ofString "prior_window"), key := Value.str (Str.ofString "prior_window") c7, val := .int pri v7 }, { hash := PyData.keyHash w.params (Str.ofString "begun_at"), key := Value.str (Str.ofString "begun_at") c8, val := .none }, { hash := PyData.keyHash w.params (Str.ofString "idle_since"), key := Value.str (Str.ofString "idle_since") c9, val := .none }, { hash := PyData.keyHash w.params (Str.ofString "empty_since"), key := Value.str (Str.ofString "empty_since") c10, val := .none }, { hash := PyData.keyHash w.params (Str.ofString "seen_at"), key := Value.str (Str.ofString "seen_at") c11, val := SE }, { hash := PyData.keyHash w.params (Str.ofString "meets_after"), key := Value.str (Str.ofString "meets_after") c12, val := .int 0 v12 }, { hash := PyData.keyHash w.params (Str.ofString "friendly"), key := Value.str (Str.ofString "friendly") c13, val := .int 0 v13 }, { hash := PyData.keyHash w.params (Str.ofString "friendly_credit"), key := Value.str (Str.ofString "friendly_credit") c14, val := .int 0 v14 }] 15)) ∈ news →
      Ready P w (hd.heap_39 w.params) view (looseW view []) mean mg mb 8 276 [.ref xr, .ref xc, .int first tf, .int many tm, .int flying tl] news fun h₀ L s FrAt Q =>
      ∀ h' tk', FrAt h' → News h₀ L h' news → Q (.bool true) { s with heap := h', toks := tk' } := by
  subst hq1
  subst hq2
  unfold Ready P
  k_fill
  intro news hr1 hr2 hr3 hr4 dp un gd cn cs a ccd cl outer A₀ base h₀ L m s Q E B F X N T hk hd hu hret
  have p10 := pow_bound (b := 10) (k := Int.toNat many) (by decide) (by decide) (by omega)
  have p7 := pow_bound (b := 7) (k := Int.toNat many) (by decide) (by decide) (by omega)
  have r1 : ¬ ((W != if 2 * d > first.fdiv (2 ^ Int.toNat many) then 2 * d else first.fdiv (2 ^ Int.toNat many)) = true) := by
    simp only [bne_iff_ne, ne_eq, Decidable.not_not]; exact hw
  have r2 := fun h => hv1 (of_decide_eq_true h)
  have r3 : ¬ (decide (10 ^ Int.toNat many * (V + 3) < 7 ^ Int.toNat many * (first + 3)) = true) := fun h => hv2 (of_decide_eq_true h)
  k_with "iteno" => first | exact r1 | exact r2 | exact r3
  rcases hM with ⟨rfl, rfl, rfl⟩ | ⟨hm, t1, t2, rfl, rfl⟩
  · refine wpAny_call ?_
    k_dflt cell_enter
    k_steps
    (rename News h₀ L _ _ => kN9); (rename Fr h₀ L _ _ => kF9)
    exact hret _ _ kF9 (fun q hq => kN9 q (by repeat (first | exact hq | apply List.Mem.tail)))
  · refine wpAny_call ?_
    k_dflt cell_enter
    k_steps
    (rename News h₀ L _ _ => kN9); (rename Fr h₀ L _ _ => kF9)
    exact hret _ _ kF9 (fun q hq => kN9 q (by repeat (first | exact hq | apply List.Mem.tail)))
end
local macro_rules | `(tactic| walk_at "call ref") => `(tactic| (k_here; (with_reducible show wpAny _ _ (call (Value.ref 276) _) _ _ _); k_dflt (refine' lawRight ?h0 ?h1 ?h2 ?h3 ?h4 ?h5 ?h6 ?h7 ?h8 ?h9 ?h10 ?h11 ?h12 ?h13 ?h14 ?h15 ?h16 _ ?h17 ?h18 ?h19 ?h20 _ _ _ _ _ _ _ _ _ _ _ _ _ _ _ _ _ ?kB ?kF ?kX ?kN ?kT ?kk ?kd ?ku ?_; (case kB => k_asm); (case kF => k_asm); (case kX => k_asm); (case kN => k_asm); (case kT => k_asm); (case h17 => k_mem); (case h18 => k_mem); (case h19 => k_mem); (case h20 => k_mem); (case h0 => k_extra "rM"); (case h1 => omega); (case h2 => omega); (case h3 => omega); (case h4 => omega); (case h5 => omega); (case h6 => omega); (case h7 => k_extra "rV4"); (case h8 => k_extra "rV5"); (case h9 => omega); (case h10 => omega); (case h11 => k_extra "rW"); (case h12 => k_extra "rV1"); (case h13 => k_extra "rV2"); (case h14 => k_extra "rV3"); (case h15 => omega); (case h16 => omega); (case kk => first | exact rfl | assumption); (case kd => k_room); (case ku => k_units); k_whole); intro h' tk' F' N'; (try dsimp only); (try k_fold); (try k_sweep)))
/-! Plain -/
theorem walk_off_Plain : True := by (w_top off); k_with_none; trivial
theorem mx_nonneg (l : List Int) : 0 ≤ mx l := (foldl_max l 0).1
theorem le_mx {l : List Int} {b : Int} (h : b ∈ l) : b ≤ mx l := (foldl_max l 0).2.1 b h
theorem mx_le {l : List Int} {M : Int} (h0 : 0 ≤ M) (h : ∀ b ∈ l, b ≤ M) : mx l ≤ M := by
  rcases (foldl_max l 0).2.2 with e | e
  · show l.foldl max 0 ≤ M
    rw [e]; exact h0
  · exact h _ e
theorem mx_snoc (l : List Int) (b : Int) : mx (l ++ [b]) = max (mx l) b := by unfold mx; rw [List.foldl_append]; rfl
theorem mem_ahead {rs : List (Int × Int)} {bs : List Int} {s b : Int} (h : b ∈ ahead rs bs s) : ∃ p ∈ rs.zip bs, p.1.2 < s ∧ p.2 = b := by
  unfold ahead at h
  obtain ⟨p, hp, e⟩ := List.mem_filterMap.mp h
  by_cases hc : p.1.2 < s
  · rw [if_pos hc] at e; exact ⟨p, hp, hc, Option.some.inj e⟩
  · rw [if_neg hc] at e; cases e
theorem ahead_mem {rs : List (Int × Int)} {bs : List Int} {s : Int} {p : (Int × Int) × Int} (hp : p ∈ rs.zip bs) (hc : p.1.2 < s) : p.2 ∈ ahead rs bs s := by
  unfold ahead
  exact List.mem_filterMap.mpr ⟨p, hp, by rw [if_pos hc]⟩
theorem zip_snoc (rs : List (Int × Int)) (r : Int × Int) (b : Int) : (rs ++ [r]).zip (bestsOf rs ++ [b]) = rs.zip (bestsOf rs) ++ [(r, b)] := by
  rw [List.zip_append (bestsOf_len rs).symm]; rfl
def Marks (many last W V : Int) (T1 R1 T2 R2 : Value) : Prop :=
  (many = 0 ∧ last = 0 ∧ T1 = Value.none ∧ R1 = Value.none ∧ T2 = Value.none ∧ R2 = Value.none) ∨
  (0 < many ∧ ∃ t1 t2 t3 t4, T1 = Value.int W t1 ∧ R1 = Value.int last t2 ∧ T2 = Value.int V t3 ∧ R2 = Value.int last t4)
/-- what holds of the rows -/
structure Rows (n : Nat) (many last now : Int) (rs : List (Int × Int)) : Prop where
  len : rs.length ≤ n
  best : apart rs = many
  ends : ∀ p ∈ rs.zip (bestsOf rs), p.2 ≤ many ∧ (p.2 = many → last ≤ p.1.2)
  top : many = 0 ∨ ∃ p ∈ rs.zip (bestsOf rs), p.2 = many ∧ p.1.2 = last
theorem rows_hit {n : Nat} {many last now s now' : Int} {rs : List (Int × Int)} (h : Rows n many last now rs) (h0 : 0 ≤ many) (hs : last < s) : Rows (n + 1) (many + 1) now' now' (rs ++ [(s, now')]) := by
  have hm : mx (ahead rs (bestsOf rs) s) = many := by
    have h1 : mx (ahead rs (bestsOf rs) s) ≤ many := mx_le h0 fun b hb => by
      obtain ⟨p, hp, _, e⟩ := mem_ahead hb
      rw [← e]; exact (h.ends p hp).1
    have h2 : many ≤ mx (ahead rs (bestsOf rs) s) := by
      rcases h.top with e | ⟨p, hp, e1, e2⟩
      · rw [e]; exact mx_nonneg _
      · rw [← e1]; exact le_mx (ahead_mem hp (by omega))
    omega
  have hb : bestsOf (rs ++ [(s, now')]) = bestsOf rs ++ [1 + many] := by rw [bestsOf_snoc, hm]
  refine ⟨by rw [List.length_append]; have := h.len; simp only [List.length_cons, List.length_nil]; omega, ?_, ?_, .inr ?_⟩
  · have hb0 : mx (bestsOf rs) = many := h.best
    show mx (bestsOf (rs ++ [(s, now')])) = many + 1
    rw [hb, mx_snoc, hb0]; omega
  · intro p hp
    rw [hb, zip_snoc] at hp
    rcases List.mem_append.mp hp with hp | hp
    · have := (h.ends p hp).1
      exact ⟨by omega, fun e => by omega⟩
    · rw [List.mem_singleton.mp hp]
      exact ⟨by show 1 + many ≤ _; omega, fun _ => Int.le_refl _⟩
  · refine ⟨((s, now'), 1 + many), ?_, by show 1 + many = _; omega, rfl⟩
    rw [hb, zip_snoc]
    exact List.mem_append.mpr (.inr (.head _))
theorem rows_miss {n : Nat} {many last now s now' : Int} {rs : List (Int × Int)} (h : Rows n many last now rs) (h0 : 0 < many) (hs : s ≤ last) (hl : last ≤ now') : Rows (n + 1) many last now' (rs ++ [(s, now')]) := by
  have hm : mx (ahead rs (bestsOf rs) s) ≤ many - 1 := mx_le (by omega) fun b hb => by
    obtain ⟨p, hp, hc, e⟩ := mem_ahead hb
    have h1 := (h.ends p hp).1
    rcases Int.lt_or_le p.2 many with k | k
    · omega
    · have := (h.ends p hp).2 (by omega); omega
  have hb : bestsOf (rs ++ [(s, now')]) = bestsOf rs ++ [1 + mx (ahead rs (bestsOf rs) s)] := bestsOf_snoc _ _
  refine ⟨by rw [List.length_append]; have := h.len; simp only [List.length_cons, List.length_nil]; omega, ?_, ?_, ?_⟩
  · have hb0 : mx (bestsOf rs) = many := h.best
    show mx (bestsOf (rs ++ [(s, now')])) = many
    rw [hb, mx_snoc, hb0]; omega
  · intro p hp
    rw [hb, zip_snoc] at hp
    rcases List.mem_append.mp hp with hp | hp
    · exact h.ends p hp
    · rw [List.mem_singleton.mp hp]
      exact ⟨by show 1 + mx (ahead rs (bestsOf rs) s) ≤ many; omega, fun _ => hl⟩
  · rcases h.top with e | ⟨p, hp, e⟩
    · exact .inl e
    · refine .inr ⟨p, ?_, e⟩
      rw [hb, zip_snoc]
      exact List.mem_append.mpr (.inl hp)
theorem rows_stay {n : Nat} {many last now now' : Int} {rs : List (Int × Int)} (h : Rows n many last now rs) : Rows (n + 1) many last now' rs := ⟨by have := h.len; omega, h.best, h.ends, h.top⟩
theorem rows_none (now : Int) : Rows 0 0 0 now [] := ⟨Nat.le_refl _, rfl, fun _ hp => absurd hp List.not_mem_nil, .inl rfl⟩
/-- what holds of the windows -/
structure Wins (d first many W V : Int) : Prop where
  w0 : 2 * d ≤ W
  w1 : W < 10000
  win : W = if 2 * d > first.fdiv (2 ^ Int.toNat many) then 2 * d else first.fdiv (2 ^ Int.toNat many)
  v1 : ¬ (10 ^ Int.toNat many * V > if 7 ^ Int.toNat many * first > 10 ^ Int.toNat many * (2 * d) then 7 ^ Int.toNat many * first else 10 ^ Int.toNat many * (2 * d))
  v2 : ¬ (7 ^ Int.toNat many * (first + 3) > 10 ^ Int.toNat many * (V + 3))
  v3 : 2 * d ≤ V
  v4 : V < 10000
theorem wins_none {d first : Int} (h0 : 0 < d) (h1 : 2 * d ≤ first) (h2 : first < 10000) : Wins d first 0 first first := by
  have e : Int.toNat 0 = 0 := rfl
  refine ⟨h1, h2, ?_, ?_, ?_, h1, h2⟩
  · rw [e, Int.pow_zero, Int.fdiv_one, if_neg (by omega)]
  · rw [e, Int.pow_zero, Int.pow_zero]; split <;> omega
  · rw [e, Int.pow_zero, Int.pow_zero]; omega
theorem wins_cut {d first many W V : Int} (h : Wins d first many W V) (h0 : 0 < d) (hf : 0 ≤ first) (hm : 0 ≤ many) (hd : d < 1000) : Wins d first (many + 1) (cutR W d) (cutC V d) := by
  have e : Int.toNat (many + 1) = Int.toNat many + 1 := by omega
  obtain ⟨w0, w1, win, v1, v2, v3, v4⟩ := h
  have hW : 2 * d ≤ cutR W d ∧ cutR W d < 10000 := by
    unfold cutR; rw [Int.fdiv_eq_ediv_of_nonneg _ (by decide)]; split <;> omega
  have hV : 2 * d ≤ cutC V d ∧ cutC V d < 10000 := by
    unfold cutC; rw [Int.fdiv_eq_ediv_of_nonneg _ (by decide)]; split <;> omega
  refine ⟨hW.1, hW.2, ?_, ?_, ?_, hV.1, hV.2⟩
  · have hp : (0 : Int) < 2 ^ Int.toNat many := Int.pow_pos (by decide)
    have e2 : first.fdiv (2 ^ Int.toNat (many + 1)) = (first.fdiv (2 ^ Int.toNat many)) / 2 := by
      rw [e, Int.pow_succ, Int.fdiv_eq_ediv_of_nonneg _ (Int.le_of_lt (Int.mul_pos hp (by decide))), Int.fdiv_eq_ediv_of_nonneg _ (Int.le_of_lt hp), ← Int.ediv_ediv_of_nonneg (Int.le_of_lt hp)]
    rw [e2]
    unfold cutR
    rw [Int.fdiv_eq_ediv_of_nonneg _ (by decide)]
    generalize first.fdiv (2 ^ Int.toNat many) = z at *
    split at win <;> split <;> split <;> omega
  · have h10 : (0 : Int) < 10 ^ Int.toNat many := Int.pow_pos (by decide)
    have h7 : (0 : Int) < 7 ^ Int.toNat many := Int.pow_pos (by decide)
    rw [e, Int.pow_succ, Int.pow_succ]
    have a1 : (10 : Int) ^ Int.toNat many * 10 * cutC V d = 10 ^ Int.toNat many * (10 * cutC V d) := by grind
    have a2 : (7 : Int) ^ Int.toNat many * 7 * first = 7 * (7 ^ Int.toNat many * first) := by grind
    have a3 : (10 : Int) ^ Int.toNat many * 10 * (2 * d) = 10 * (10 ^ Int.toNat many * (2 * d)) := by grind
    have c1 : 10 * cutC V d ≤ 7 * V ∨ 10 * cutC V d = 10 * (2 * d) := by
      unfold cutC; rw [Int.fdiv_eq_ediv_of_nonneg _ (by decide)]; split <;> omega
    rw [a1, a2, a3]
    rcases c1 with c1 | c1
    · have b1 : 10 ^ Int.toNat many * (10 * cutC V d) ≤ 10 ^ Int.toNat many * (7 * V) := Int.mul_le_mul_of_nonneg_left c1 (Int.le_of_lt h10)
      have b2 : (10 : Int) ^ Int.toNat many * (7 * V) = 7 * (10 ^ Int.toNat many * V) := by grind
      have b3 : 0 ≤ (10 : Int) ^ Int.toNat many * (2 * d) := Int.mul_nonneg (Int.le_of_lt h10) (by omega)
      generalize (10 : Int) ^ Int.toNat many * (10 * cutC V d) = p1 at *
      generalize (10 : Int) ^ Int.toNat many * (7 * V) = p2 at *
      generalize (10 : Int) ^ Int.toNat many * V = p3 at *
      generalize (7 : Int) ^ Int.toNat many * first = p4 at *
      generalize (10 : Int) ^ Int.toNat many * (2 * d) = p5 at *
      split at v1 <;> split <;> omega
    · rw [c1]
      have b4 : (10 : Int) ^ Int.toNat many * (10 * (2 * d)) = 10 * (10 ^ Int.toNat many * (2 * d)) := by grind
      rw [b4]
      generalize (7 : Int) ^ Int.toNat many * first = p4 at *
      generalize (10 : Int) ^ Int.toNat many * (2 * d) = p5 at *
      split <;> omega
  · have h10 : (0 : Int) < 10 ^ Int.toNat many := Int.pow_pos (by decide)
    rw [e, Int.pow_succ, Int.pow_succ]
    have c1 : 7 * (V + 3) ≤ 10 * (cutC V d + 3) := by
      unfold cutC; rw [Int.fdiv_eq_ediv_of_nonneg _ (by decide)]; split <;> omega
    have b1 : 10 ^ Int.toNat many * (7 * (V + 3)) ≤ 10 ^ Int.toNat many * (10 * (cutC V d + 3)) := Int.mul_le_mul_of_nonneg_left c1 (Int.le_of_lt h10)
    have a1 : (7 : Int) ^ Int.toNat many * 7 * (first + 3) = 7 * (7 ^ Int.toNat many * (first + 3)) := by grind
    have a2 : (10 : Int) ^ Int.toNat many * 10 * (cutC V d + 3) = 10 ^ Int.toNat many * (10 * (cutC V d + 3)) := by grind
    have a3 : (10 : Int) ^ Int.toNat many * (7 * (V + 3)) = 7 * (10 ^ Int.toNat many * (V + 3)) := by grind
    omega
section
variable {d first many last now W V W' V' : Int} {T1 R1 T2 R2 T1' R1' T2' R2' : Value} {hit : Prop}
theorem after_hit (hm : 0 ≤ many) (wi : Wins d first many W V) (h0 : 0 < d) (hf : 0 ≤ first) (hd : d < 1000) (hc : hit)
    (h1 : hit → W' = cutR W d ∧ (∃ t, T1' = Value.int W' t) ∧ ∃ t, R1' = Value.int now t) (h2 : hit → V' = cutC V d ∧ (∃ t, T2' = Value.int V' t) ∧ ∃ t, R2' = Value.int now t) :
    Marks (many + 1) now W' V' T1' R1' T2' R2' ∧ Wins d first (many + 1) W' V' := by
  obtain ⟨e1, ⟨t1, e2⟩, t2, e3⟩ := h1 hc
  obtain ⟨e4, ⟨t3, e5⟩, t4, e6⟩ := h2 hc
  refine ⟨.inr ⟨by omega, t1, t2, t3, t4, e2, e3, e5, e6⟩, ?_⟩
  rw [e1, e4]
  exact wins_cut wi h0 hf hm hd
theorem after_miss (M : Marks many last W V T1 R1 T2 R2) (wi : Wins d first many W V) (hc : ¬ hit)
    (h1 : ¬ hit → W' = W ∧ T1' = T1 ∧ R1' = R1) (h2 : ¬ hit → V' = V ∧ T2' = T2 ∧ R2' = R2) :
    Marks many last W' V' T1' R1' T2' R2' ∧ Wins d first many W' V' := by
  obtain ⟨rfl, rfl, rfl⟩ := h1 hc
  obtain ⟨rfl, rfl, rfl⟩ := h2 hc
  exact ⟨M, wi⟩
theorem marks_right (M : Marks many last W V T1 R1 T2 R2) : (many = 0 ∧ T1 = Value.none ∧ T2 = Value.none) ∨ (0 < many ∧ ∃ t1 t2, T1 = Value.int W t1 ∧ T2 = Value.int V t2) := by
  rcases M with ⟨a, _, b, _, c, _⟩ | ⟨a, t1, _, t3, _, b, _, c, _⟩
  · exact .inl ⟨a, b, c⟩
  · exact .inr ⟨a, t1, t3, b, c⟩
end
theorem rows_more {led led' : List (Addr × Obj)} {us : List Value} {rs : List (Int × Int)} (h : RowsAre led us rs) (hs : ∀ p ∈ led, p ∈ led') : RowsAre led' us rs :=
  ⟨h.1, fun i v hv => by obtain ⟨a, s, c, t, t', n, e1, e2, e3⟩ := h.2 i v hv; exact ⟨a, s, c, t, t', n, e1, e2, hs _ e3⟩⟩
theorem rows_snoc {led led' : List (Addr × Obj)} {us : List Value} {rs : List (Int × Int)} {D : Addr} {s c : Int} {t t' : Tok} {n : Nat} (h : RowsAre led us rs) (hs : ∀ p ∈ led, p ∈ led') (hD : (D, pairObj s c t t' n) ∈ led') :
    RowsAre led' (us ++ [Value.ref D]) (rs ++ [(s, c)]) := by
  refine ⟨by rw [List.length_append, List.length_append, h.1]; rfl, fun i v hv => ?_⟩
  rcases Nat.lt_or_ge i us.length with k | k
  · rw [List.getElem?_append_left k] at hv
    obtain ⟨a, s', c', t1, t2, m, e1, e2, e3⟩ := h.2 i v hv
    exact ⟨a, s', c', t1, t2, m, e1, by rw [List.getElem?_append_left (by rw [← h.1]; exact k)]; exact e2, hs _ e3⟩
  · rw [List.getElem?_append_right k] at hv
    have k0 : i - us.length = 0 := by
      rcases Nat.eq_zero_or_pos (i - us.length) with e | e
      · exact e
      · rw [List.getElem?_eq_none (by simp only [List.length_cons, List.length_nil]; omega)] at hv; cases hv
    rw [k0] at hv
    have e : v = Value.ref D := by simpa using hv.symm
    refine ⟨D, s, c, t, t', n, e, ?_, hD⟩
    rw [List.getElem?_append_right (by rw [← h.1]; exact k), ← h.1, k0]; rfl
theorem hit_of {n : Nat} {many last now s now' W V : Int} {T1 R1 T2 R2 : Value} {rs : List (Int × Int)} (R : Rows n many last now rs) (M : Marks many last W V T1 R1 T2 R2) (h0 : 0 < s) (hl : last ≤ now') (a : many < apart (rs ++ [(s, now')])) : last < s := by
  rcases M with ⟨_, e, _⟩ | ⟨hm, _⟩
  · omega
  · rcases Int.lt_or_le last s with k | k
    · exact k
    · have := (rows_miss R hm k hl).best; omega
theorem miss_of {n : Nat} {many last now s now' : Int} {rs : List (Int × Int)} (R : Rows n many last now rs) (hm : 0 ≤ many) (a : ¬ many < apart (rs ++ [(s, now')])) : ¬ last < s := fun k => by
  have := (rows_hit (now' := now') R hm k).best; omega
section
variable {d first many last now W V W' V' s now' : Int} {n : Nat} {rs : List (Int × Int)} {T1 R1 T2 R2 T1' R1' T2' R2' : Value} {hit : Prop}
theorem miss_all (h1 : ¬ hit → W' = W ∧ T1' = T1 ∧ R1' = R1) (h2 : ¬ hit → V' = V ∧ T2' = T2 ∧ R2' = R2) (M : Marks many last W V T1 R1 T2 R2) (wi : Wins d first many W V) (hc : ¬ hit) :
    Marks many last W' V' T1' R1' T2' R2' ∧ Wins d first many W' V' := after_miss M wi hc h1 h2
theorem apart_hit (a : many < apart (rs ++ [(s, now')])) (R : Rows n many last now rs) (M : Marks many last W V T1 R1 T2 R2) (hm : 0 ≤ many) (h0 : 0 < s) (hl : last ≤ now') : apart (rs ++ [(s, now')]) = many + 1 ∧ last < s :=
  have k := hit_of R M h0 hl a
  ⟨(rows_hit R hm k).best, k⟩
end
theorem vpos {d first many W V : Int} (h : Wins d first many W V) (h0 : 0 < d) : 0 < V := by have := h.v3; omega
/-! Law -/
theorem walk_off_Law : True := by (w_top off); k_with_none; trivial
section
variable {prog : Program} {w : World} {A : Around} {E : Value → Shared → Prop} {s : Shared} {a b : Int} {t u : Tok} {Q : Value → Shared → Prop}
theorem mul_letter (lo hi : Int) (ha : 0 < a) (ha2 : a < 1000) (hlo : lo ≤ b) (hhi : b < hi) (h : ∀ p t, a * lo ≤ p → p < a * hi → Q (.int p t) { s with toks := s.toks + 1 }) :
    wpAny (model prog w) A (binaryOp .Mult (.int a t) (.int b u)) Q E s :=
  mul_int (h (a * b) _ (Int.mul_le_mul_of_nonneg_left hlo (by omega)) (Int.mul_lt_mul_of_pos_left hhi ha)) (PySem.IntMulOk.of_left (PySem.intBits_le_64 (by omega) (by omega)))
theorem small_tn {tn : Int} (h1 : 5 ≤ tn) (h2 : tn < 15) : Builtin.Range.small 0 tn 1 = true := small_one (by omega) (by omega) (by omega) (by omega)
theorem size_tn {tn : Int} (h1 : 5 ≤ tn) (h2 : tn < 15) : Builtin.Range.rangeSize 0 tn 1 = ((tn.toNat : Nat) : Int) := by rw [rangeSize_nat]; omega
theorem len_tn {tn : Int} {k : Nat} (h2 : tn < 15) (h : k < tn.toNat) : k < 15 := by omega
theorem law_end {s₀ s₁ : Shared} {h' : Heap} {tk : Nat} {L : Addr} {m : Str → Option Value} {ws : List Int} (F : Fr s₁.heap L h' m) (hg : s₁.gens = #[]) :
    GoodW PySem.Challenge.rw_sj0116_01.row.claim (classAt s₀.heap) (ExcName.means s₀.heap) [ofPy (PyData.list (ws.map PyData.int))] s₁ (.ok (.ret (.bool true))) { heap := h', gens := s₁.gens, drawn := s₁.drawn, toks := tk, os := s₁.os } := by
  refine goodW_bool (s' := { heap := h', gens := s₁.gens, drawn := s₁.drawn, toks := tk, os := s₁.os }) F hg (raisesW_false ?_) ?_
  · wrow_none_raised
  · wrow_post
theorem news7 {h₀ h : Heap} {L : Addr} {l : List (Addr × Obj)} {p1 p2 p3 p4 p5 p6 p7 : Addr × Obj} (N : News h₀ L h l) (h1 : p1 ∈ l) (h2 : p2 ∈ l) (h3 : p3 ∈ l) (h4 : p4 ∈ l) (h5 : p5 ∈ l) (h6 : p6 ∈ l) (h7 : p7 ∈ l) :
    News h₀ L h [p1, p2, p3, p4, p5, p6, p7] := by
  intro q hq
  simp only [List.mem_cons, List.not_mem_nil, or_false] at hq
  rcases hq with e | e | e | e | e | e | e <;> rw [e] <;> exact N _ (by assumption)
end
/-- what a turn of the loop turns -/
structure St where
  (many last now fly W V top pri kb : Int)
  (T1 R1 T2 R2 SE : Value)
  (tb tf tnow tlast tmany a1 a4 a5 v1 v4 v5 v6 v7 : Tok)
  (rs : List (Int × Int))
  (us : List Value)
  (nr : Nat)
structure Inv (d first : Int) (n : Nat) (c : St) : Prop where
  m0 : 0 ≤ c.many
  mn : c.many ≤ n
  nw : 50 ≤ c.now
  l0 : 0 ≤ c.last
  ln : c.last ≤ c.now
  kb0 : 0 ≤ c.kb
  kbn : c.kb ≤ 20 + 10 * n
  fl : 40 * d - d * n ≤ c.fly
  marks : Marks c.many c.last c.W c.V c.T1 c.R1 c.T2 c.R2
  wins : Wins d first c.many c.W c.V
  rows : Rows n c.many c.last c.now c.rs
theorem inv_start {d first kb : Int} {t2 tb tf tnow tlast tmany a1 a4 a5 v1 v4 v5 v6 v7 : Tok} (h1 : 10 ≤ d) (h2 : d < 50) (h3 : 10 * d ≤ first) (h4 : first < 100 * d) (h5 : 0 ≤ kb) (h6 : kb < 15) :
    Inv d first 0 ⟨0, 0, 50, 40 * d, first, first, 0, 0, kb, .none, .none, .none, .none, .int 2 t2, tb, tf, tnow, tlast, tmany, a1, a4, a5, v1, v4, v5, v6, v7, [], [], 0⟩ := by
  refine ⟨Int.le_refl _, Int.le_refl _, Int.le_refl _, Int.le_refl _, (show (0 : Int) ≤ 50 by decide), h5, (show kb ≤ 20 + 10 * ((0 : Nat) : Int) by omega), ?_, .inl ⟨rfl, rfl, rfl, rfl, rfl, rfl⟩, wins_none (by omega) (by omega) (by omega), rows_none _⟩
  show 40 * d - d * 0 ≤ 40 * d
  omega
theorem open_loop {w : World} {h₀ h : Heap} {L r : Addr} {t0 u0 v0 : Tok} {G : Prop} {box lst dr xr dc xc rows : Addr} {d first kb tn : Int} {ws : List Value} {ns : List Int} {nl : Nat} {k0 k1 k2 k3 k4 k5 c0 c1 c2 c3 c4 c5 c6 c7 c8 c9 c10 c11 c12 c13 c14 td tb a1 a4 a5 v1 v4 v5 v6 v7 v12 v13 v14 t2 tf tnow tlast tmany tfi : Tok} {m0 : Str → Option Value}
    (N1 : News h₀ L h [(box, listOf #[.ref lst, .int kb tb] 0), (xr, instObj 122 dr), (dr, (dictOf [{ hash := PyData.keyHash w.params (Str.ofString "datagram"), key := Value.str (Str.ofString "datagram") k0, val := .int d td }, { hash := PyData.keyHash w.params (Str.ofString "window"), key := Value.str (Str.ofString "window") k1, val := .int first a1 }, { hash := PyData.keyHash w.params (Str.ofString "threshold"), key := Value.str (Str.ofString "threshold") k2, val := .none }, { hash := PyData.keyHash w.params (Str.ofString "recovery_at"), key := Value.str (Str.ofString "recovery_at") k3, val := .none }, { hash := PyData.keyHash w.params (Str.ofString "in_flight"), key := Value.str (Str.ofString "in_flight") k4, val := .int (40 * d) a4 }, { hash := PyData.keyHash w.params (Str.ofString "credit"), key := Value.str (Str.ofString "credit") k5, val := .int 0 a5 }] 6)), (xc, instObj 248 dc), (dc, (dictOf [{ hash := PyData.keyHash w.params (Str.ofString "datagram"), key := Value.str (Str.ofString "datagram") c0, val := .int d td }, { hash := PyData.keyHash w.params (Str.ofString "window"), key := Value.str (Str.ofString "window") c1, val := .int first v1 }, { hash := PyData.keyHash w.params (Str.ofString "threshold"), key := Value.str (Str.ofString "threshold") c2, val := .none }, { hash := PyData.keyHash w.params (Str.ofString "recovery_at"), key := Value.str (Str.ofString "recovery_at") c3, val := .none }, { hash := PyData.keyHash w.params (Str.ofString "in_flight"), key := Value.str (Str.ofString "in_flight") c4, val := .int (40 * d) v4 }, { hash := PyData.keyHash w.params (Str.ofString "credit"), key := Value.str (Str.ofString "credit") c5, val := .int 0 v5 }, { hash := PyData.keyHash w.params (Str.ofString "top_window"), key := Value.str (Str.ofString "top_window") c6, val := .int 0 v6 }, { hash := PyData.keyHash w.params (Str.ofString "prior_window"), key := Value.str (Str.ofString "prior_window") c7, val := .int 0 v7 }, { hash := PyData.keyHash w.params (Str.ofString "begun_at"), key := Value.str (Str.ofString "begun_at") c8, val := .none }, { hash := PyData.keyHash w.params (Str.ofString "idle_since"), key := Value.str (Str.ofString "idle_since") c9, val := .none }, { hash := PyData.keyHash w.params (Str.ofString "empty_since"), key := Value.str (Str.ofString "empty_since") c10, val := .none }, { hash := PyData.keyHash w.params (Str.ofString "seen_at"), key := Value.str (Str.ofString "seen_at") c11, val := .int 2 t2 }, { hash := PyData.keyHash w.params (Str.ofString "meets_after"), key := Value.str (Str.ofString "meets_after") c12, val := .int 0 v12 }, { hash := PyData.keyHash w.params (Str.ofString "friendly"), key := Value.str (Str.ofString "friendly") c13, val := .int 0 v13 }, { hash := PyData.keyHash w.params (Str.ofString "friendly_credit"), key := Value.str (Str.ofString "friendly_credit") c14, val := .int 0 v14 }] 15)), (rows, listOf #[] 0), (lst, listOf ws.toArray nl)]) (F1 : Fr h₀ L h m0) (hrange : IsRange h r 0 tn 1 t0 u0 v0) (hws : IntsAre ws ns) (hlen : ns.length < 1000) (q1 : 10 ≤ d) (q2 : d < 50) (q3 : 10 * d ≤ first) (q4 : first < 100 * d) (q5 : 5 ≤ tn) (q6 : tn < 15) (q7 : 0 ≤ kb) (q7' : kb < 15) (q8 : (@LT.lt Nat _ lst box)) (q9 : (@LT.lt Nat _ box dr)) (q10 : (@LT.lt Nat _ dr xr)) (q11 : (@LT.lt Nat _ xr dc)) (q12 : (@LT.lt Nat _ dc xc)) (q13 : (@LT.lt Nat _ xc rows)) (f1 : m0 "box" = some (.ref box)) (f2 : m0 "datagram" = some (.int d td)) (f3 : m0 "reno" = some (.ref xr)) (f4 : m0 "cubic" = some (.ref xc)) (f5 : m0 "first" = some (.int first tfi)) (f6 : m0 "flying" = some (.int (40 * d) tf)) (f7 : m0 "rows" = some (.ref rows)) (f8 : m0 "now" = some (.int 50 tnow)) (f9 : m0 "last" = some (.int 0 tlast)) (f10 : m0 "many" = some (.int 0 tmany))
    (k : ∀ (box lst dr xr dc xc rows : Addr) (d first kb tn : Int) (ws : List Value) (ns : List Int) (nl : Nat) (k0 k1 k2 k3 k4 k5 c0 c1 c2 c3 c4 c5 c6 c7 c8 c9 c10 c11 c12 c13 c14 td tb a1 a4 a5 v1 v4 v5 v6 v7 v12 v13 v14 t2 tf tnow tlast tmany tfi : Tok) (m0 : Str → Option Value), News h₀ L h [(box, listOf #[.ref lst, .int kb tb] 0), (xr, instObj 122 dr), (dr, (dictOf [{ hash := PyData.keyHash w.params (Str.ofString "datagram"), key := Value.str (Str.ofString "datagram") k0, val := .int d td }, { hash := PyData.keyHash w.params (Str.ofString "window"), key := Value.str (Str.ofString "window") k1, val := .int first a1 }, { hash := PyData.keyHash w.params (Str.ofString "threshold"), key := Value.str (Str.ofString "threshold") k2, val := .none }, { hash := PyData.keyHash w.params (Str.ofString "recovery_at"), key := Value.str (Str.ofString "recovery_at") k3, val := .none }, { hash := PyData.keyHash w.params (Str.ofString "in_flight"), key := Value.str (Str.ofString "in_flight") k4, val := .int (40 * d) a4 }, { hash := PyData.keyHash w.params (Str.ofString "credit"), key := Value.str (Str.ofString "credit") k5, val := .int 0 a5 }] 6)), (xc, instObj 248 dc), (dc, (dictOf [{ hash := PyData.keyHash w.params (Str.ofString "datagram"), key := Value.str (Str.ofString "datagram") c0, val := .int d td }, { hash := PyData.keyHash w.params (Str.ofString "window"), key := Value.str (Str.ofString "window") c1, val := .int first v1 }, { hash := PyData.keyHash w.params (Str.ofString "threshold"), key := Value.str (Str.ofString "threshold") c2, val := .none }, { hash := PyData.keyHash w.params (Str.ofString "recovery_at"), key := Value.str (Str.ofString "recovery_at") c3, val := .none }, { hash := PyData.keyHash w.params (Str.ofString "in_flight"), key := Value.str (Str.ofString "in_flight") c4, val := .int (40 * d) v4 }, { hash := PyData.keyHash w.params (Str.ofString "credit"), key := Value.str (Str.ofString "credit") c5, val := .int 0 v5 }, { hash := PyData.keyHash w.params (Str.ofString "top_window"), key := Value.str (Str.ofString "top_window") c6, val := .int 0 v6 }, { hash := PyData.keyHash w.params (Str.ofString "prior_window"), key := Value.str (Str.ofString "prior_window") c7, val := .int 0 v7 }, { hash := PyData.keyHash w.params (Str.ofString "begun_at"), key := Value.str (Str.ofString "begun_at") c8, val := .none }, { hash := PyData.keyHash w.params (Str.ofString "idle_since"), key := Value.str (Str.ofString "idle_since") c9, val := .none }, { hash := PyData.keyHash w.params (Str.ofString "empty_since"), key := Value.str (Str.ofString "empty_since") c10, val := .none }, { hash := PyData.keyHash w.params (Str.ofString "seen_at"), key := Value.str (Str.ofString "seen_at") c11, val := .int 2 t2 }, { hash := PyData.keyHash w.params (Str.ofString "meets_after"), key := Value.str (Str.ofString "meets_after") c12, val := .int 0 v12 }, { hash := PyData.keyHash w.params (Str.ofString "friendly"), key := Value.str (Str.ofString "friendly") c13, val := .int 0 v13 }, { hash := PyData.keyHash w.params (Str.ofString "friendly_credit"), key := Value.str (Str.ofString "friendly_credit") c14, val := .int 0 v14 }] 15)), (rows, listOf #[] 0), (lst, listOf ws.toArray nl)] → Fr h₀ L h m0 → IsRange h r 0 tn 1 t0 u0 v0 → IntsAre ws ns → ns.length < 1000 → 10 ≤ d → d < 50 → 10 * d ≤ first → first < 100 * d → 5 ≤ tn → tn < 15 → 0 ≤ kb → kb < 15 → (@LT.lt Nat _ lst box) → (@LT.lt Nat _ box dr) → (@LT.lt Nat _ dr xr) → (@LT.lt Nat _ xr dc) → (@LT.lt Nat _ dc xc) → (@LT.lt Nat _ xc rows) → m0 "box" = some (.ref box) → m0 "datagram" = some (.int d td) → m0 "reno" = some (.ref xr) → m0 "cubic" = some (.ref xc) → m0 "first" = some (.int first tfi) → m0 "flying" = some (.int (40 * d) tf) → m0 "rows" = some (.ref rows) → m0 "now" = some (.int 50 tnow) → m0 "last" = some (.int 0 tlast) → m0 "many" = some (.int 0 tmany) → G) : G :=
  k _ _ _ _ _ _ _ _ _ _ _ _ _ _ _ _ _ _ _ _ _ _ _ _ _ _ _ _ _ _ _ _ _ _ _ _ _ _ _ _ _ _ _ _ _ _ _ _ _ _ _ _ _ _ _ N1 F1 hrange hws hlen q1 q2 q3 q4 q5 q6 q7 q7' q8 q9 q10 q11 q12 q13 f1 f2 f3 f4 f5 f6 f7 f8 f9 f10
theorem markR {many last st W V : Int} {T1 R1 T2 R2 : Value} (h : Marks many last W V T1 R1 T2 R2) (h0 : 0 < st) : (R1 = Value.none ∧ last < st) ∨ ∃ t, R1 = Value.int last t := by
  rcases h with ⟨_, rfl, _, e, _⟩ | ⟨_, _, t2, _, _, _, e, _⟩
  · exact .inl ⟨e, h0⟩
  · exact .inr ⟨t2, e⟩
theorem markC {many last st W V : Int} {T1 R1 T2 R2 : Value} (h : Marks many last W V T1 R1 T2 R2) (h0 : 0 < st) : (R2 = Value.none ∧ last < st) ∨ ∃ t, R2 = Value.int last t := by
  rcases h with ⟨_, rfl, _, _, _, e⟩ | ⟨_, _, _, _, t4, _, _, _, e⟩
  · exact .inl ⟨e, h0⟩
  · exact .inr ⟨t4, e⟩
theorem fl_bound {d fly : Int} {n : Nat} (h : 40 * d - d * n ≤ fly) (hd : 0 < d) (hn : n < 15) : 26 * d ≤ fly := by
  have h1 : d * (n : Int) ≤ d * 14 := Int.mul_le_mul_of_nonneg_left (by omega) (by omega)
  omega
theorem ne_tail8 {a b c d e f g t : Addr × Obj} {T : List (Addr × Obj)} {i : Addr} (h : ∀ p ∈ a :: b :: c :: d :: e :: f :: g :: t :: T, p.1 < i) : ∀ q ∈ T, q.1 ≠ i := fun q hq =>
  Nat.ne_of_lt (h q (.tail _ (.tail _ (.tail _ (.tail _ (.tail _ (.tail _ (.tail _ (.tail _ hq)))))))))
theorem unr_close {h₀ h' : Heap} {L : Addr} {m' : Str → Option Value} {tk : Nat} {s₁ : Shared} {r it : Addr × Obj} {rest : List (Addr × Obj)} {J : (Str → Option Value) → List (Addr × Obj) → Prop} (F : Fr h₀ L h' m') (N : News h₀ L h' (r :: it :: rest)) (hne : ∀ q ∈ rest, q.1 ≠ it.1) (k : J m' rest) :
    UnrEndW h₀ L s₁ [it] J { s₁ with heap := h', toks := tk } :=
  ⟨h', tk, m', rest, rfl, F, fun q hq => N q (.tail _ hq), fun p hp q hq => by rw [List.mem_singleton.mp hq]; exact hne p hp, k⟩
theorem lawApartZ {w : World} {mean : ExcName → Option Value} {mg mb : Str → Option Value} {rows : Addr} {us : List Value} {nr : Nat} {rs : List (Int × Int)} {z : Int} :
    ∀ news, (rows, listOf us.toArray nr) ∈ news → RowsAre news us rs → rs.length < 1000 → apart rs = z → Ready P w (hd.heap_39 w.params) view (looseW view []) mean mg mb 12 262 [.ref rows] news fun h₀ L s FrAt Q =>
      ∀ t h' tk', FrAt h' → News h₀ L h' news → Q (.int z t) { s with heap := h', toks := tk' } := by
  intro news h1 h2 h3 h4
  subst h4
  exact lawApart news h1 h2 h3
theorem snoc_len {rs : List (Int × Int)} {x : Int × Int} (h : rs.length < 15) : (rs ++ [x]).length < 1000 := by
  rw [List.length_append, List.length_singleton]; omega
theorem apart_of {h₀ h : Heap} {L D : Addr} {news : List (Addr × Obj)} {t t' : Tok} {k n : Nat} {many last now s now' W V : Int} {T1 R1 T2 R2 : Value} {rs : List (Int × Int)} (_ : News h₀ L h ((D, pairObj s now' t t' k) :: news))
    (R : Rows n many last now rs) (M : Marks many last W V T1 R1 T2 R2) (hm : 0 ≤ many) (h0 : 0 < s) (hl : last ≤ now') :
    (last < s ∧ Rows (n + 1) (many + 1) now' now' (rs ++ [(s, now')]) ∧ apart (rs ++ [(s, now')]) = many + 1) ∨ (¬ last < s ∧ Rows (n + 1) many last now' (rs ++ [(s, now')]) ∧ apart (rs ++ [(s, now')]) = many) := by
  rcases Int.lt_or_le last s with k | k
  · have r := rows_hit (now' := now') R hm k
    exact .inl ⟨k, r, r.best⟩
  · rcases M with ⟨_, e, _⟩ | ⟨hm', _⟩
    · omega
    · have r := rows_miss R hm' k hl
      exact .inr ⟨by omega, r, r.best⟩
theorem hit_all {d first many last now W V W' V' f st : Int} {T1' R1' T2' R2' : Value}
    (h1 : f < 2 ∧ last < st → W' = cutR W d ∧ (∃ t, T1' = Value.int W' t) ∧ ∃ t, R1' = Value.int now t) (h2 : f < 2 ∧ last < st → V' = cutC V d ∧ (∃ t, T2' = Value.int V' t) ∧ ∃ t, R2' = Value.int now t) (hc : last < st) (wi : Wins d first many W V) (hm : 0 ≤ many) (h0 : 0 < d) (hf : 0 ≤ first) (hd : d < 1000) (hc2 : f < 2) :
    Marks (many + 1) now W' V' T1' R1' T2' R2' ∧ Wins d first (many + 1) W' V' := after_hit hm wi h0 hf hd ⟨hc2, hc⟩ h1 h2
theorem fly0 {F fly : Int} (h : F = fly) : F = fly - 0 := by omega
theorem append_rows {prog : Program} {w : World} {A : Around} {E : Value → Shared → Prop} {s : Shared} {h₀ : Heap} {L D : Addr} {m : Str → Option Value} {news news' : List (Addr × Obj)} {us : List Value} {n : Nat} {x : Value} {Q : Value → Shared → Prop} (F : Fr h₀ L s.heap m) (N : News h₀ L s.heap news)
    (U : Upd D (listOf us.toArray n) (listOf (us ++ [x]).toArray (n + 1)) news news') (hu : us.length < 1000) (h : ∀ h', Fr h₀ L h' m → News h₀ L h' news' → Q .none { s with heap := h' }) :
    wpAny (model prog w) A (call (.builtin "list.append") [.ref D, x]) Q E s := by
  have e : (us ++ [x]).toArray = us.toArray.push x := by simp
  rw [e] at U
  exact append_K F N U h (by rw [sizeLine_eq, List.size_toArray]; omega)
theorem ite_beq {x y : Int} {a b : Prop} (h1 : x = y → a) (h2 : x ≠ y → b) : ite ((x == y) = true) a b := by
  split
  · exact h1 (beq_iff_eq.mp (by assumption))
  · exact h2 fun e => absurd (beq_iff_eq.mpr e) (by assumption)
theorem ite_dec {p : Prop} [Decidable p] {a b : Prop} (h1 : p → a) (h2 : ¬ p → b) : ite (decide p = true) a b := by
  split
  · exact h1 (of_decide_eq_true (by assumption))
  · exact h2 fun e => absurd (decide_eq_true e) (by assumption)
theorem sub3 {a b c : Addr × Obj} {tl l : List (Addr × Obj)} (h1 : a ∈ l) (h2 : b ∈ l) (h3 : c ∈ l) (h4 : ∀ p ∈ tl, p ∈ l) : ∀ p ∈ [a, b, c] ++ tl, p ∈ l := by
  intro p hp
  rcases List.mem_append.mp hp with hp | hp
  · simp only [List.mem_cons, List.not_mem_nil, or_false] at hp
    rcases hp with e | e | e <;> (rw [e]; assumption)
  · exact h4 p hp
theorem in_led {a b c d e f g : Addr × Obj} {tl add l : List (Addr × Obj)} (h1 : a ∈ l) (h2 : b ∈ l) (h3 : c ∈ l) (h4 : d ∈ l) (h5 : e ∈ l) (h6 : f ∈ l) (h7 : g ∈ l) (h8 : ∀ p ∈ add, p ∈ l) (h9 : ∀ p ∈ tl, p ∈ l) : ∀ p ∈ [a, b, c, d] ++ ([e, f, g] ++ (add ++ tl)), p ∈ l := by
  intro p hp
  rcases List.mem_append.mp hp with hp | hp
  · simp only [List.mem_cons, List.not_mem_nil, or_false] at hp
    rcases hp with e | e | e | e <;> (rw [e]; assumption)
  · refine sub3 h5 h6 h7 (fun q hq => ?_) p hp
    rcases List.mem_append.mp hq with hq | hq
    · exact h8 q hq
    · exact h9 q hq
theorem in_led1 {a b c d e f g x : Addr × Obj} {tl l : List (Addr × Obj)} (h1 : a ∈ l) (h2 : b ∈ l) (h3 : c ∈ l) (h4 : d ∈ l) (h5 : e ∈ l) (h6 : f ∈ l) (h7 : g ∈ l) (h8 : x ∈ l) (h9 : ∀ p ∈ tl, p ∈ l) : ∀ p ∈ [a, b, c, d] ++ ([e, f, g] ++ ([x] ++ tl)), p ∈ l :=
  in_led h1 h2 h3 h4 h5 h6 h7 (fun p hp => by rw [List.mem_singleton.mp hp]; exact h8) h9
theorem kstB_no {rest : Str → Option Value} {z a : Str} {v : Value} {r : List (Str × Value)} (h : z ≠ a) : kstB rest ((a, v) :: r) z = kstB rest r z := if_neg h
theorem kstB_nil {rest : Str → Option Value} {z : Str} : kstB rest [] z = rest z := rfl
theorem same_names {ps : List (Str × Value)} {z : Str} {stored : List Str} (h2 : ∀ p ∈ ps, z ≠ p.1) (h3 : stored.contains z = false) : (∀ x ∈ ps.map (·.1), z ≠ x) ∧ ∀ x ∈ stored, z ≠ x := by
  refine ⟨fun x hx => ?_, fun x hx e => ?_⟩
  · obtain ⟨p, hp, e⟩ := List.mem_map.mp hx
    rw [← e]; exact h2 p hp
  · rw [← e] at hx
    have := List.contains_iff_mem.mpr hx
    rw [h3] at this; cases this
theorem inv_step {d first kk : Int} {pre : List Int} {c : St} (m0 : 0 ≤ c.many) (mn : c.many ≤ (pre.length : Int) + 1) (nw : 50 ≤ c.now) (l0 : 0 ≤ c.last) (ln : c.last ≤ c.now) (kb0 : 0 ≤ c.kb) (kbn : c.kb ≤ 20 + 10 * ((pre.length : Int) + 1)) (fl : 40 * d - d * ((pre.length : Int) + 1) ≤ c.fly)
    (marks : Marks c.many c.last c.W c.V c.T1 c.R1 c.T2 c.R2) (wins : Wins d first c.many c.W c.V) (rows : Rows (pre.length + 1) c.many c.last c.now c.rs) : Inv d first (pre ++ [kk]).length c := by
  have e : (pre ++ [kk]).length = pre.length + 1 := by rw [List.length_append, List.length_singleton]
  have e2 : ((pre.length + 1 : Nat) : Int) = (pre.length : Int) + 1 := by omega
  rw [e]
  exact ⟨m0, by rw [e2]; exact mn, nw, l0, ln, kb0, by rw [e2]; exact kbn, by rw [e2]; exact fl, marks, wins, rows⟩
theorem fl_less {d fly n x : Int} (h : 40 * d - d * n ≤ fly) (hx : x < d) : 40 * d - d * (n + 1) ≤ fly - (1 + x) := by rw [Int.mul_add, Int.mul_one]; omega
theorem fl_same {d fly n : Int} (h : 40 * d - d * n ≤ fly) (hd : 0 ≤ d) : 40 * d - d * (n + 1) ≤ fly - 0 := by rw [Int.mul_add, Int.mul_one]; omega
section
local macro_rules | `(tactic| walk_at "pyIter ref") => `(tactic| (k_here; (with_reducible show wpAny _ _ (pyIter (Value.ref _)) (fun it s₂ => TurnsAt _ _ _ _ _ _ _ _ _ it s₂) _ _); (rename Fr _ _ _ _ => lF'); (rename News _ _ _ _ => lN'); (with_unfolding_all refine iter_tupTurns (vs := [_, _]) (by rfl) lF' lN' (.head _) (by rfl) (by rfl) ?_); clear lF'; intro i' l1; (have l9 := ne_tail8 l1); (try k_lt l1)))
local macro_rules | `(tactic| walk_at "UnrEndW") => `(tactic| (k_dflt (refine' unr_close ?F ?N ?h ?_; (case F => k_asm); (case N => k_asm); (case h => k_all)); refine ⟨by k_subL, ?_⟩))
local macro_rules | `(tactic| walk_at "binaryOp Mult int int") => `(tactic| (k_here; (with_reducible show wpAny _ _ (binaryOp Operator.Mult (Value.int (10 + _) _) (Value.int _ _)) _ _ _); k_dflt (refine' mul_letter 0 90 ?h1 ?h2 ?h3 ?h4 ?_; (case h1 => omega); (case h2 => omega); (case h3 => omega); (case h4 => omega)); intro p' t' hp1' hp2'))
local macro_rules | `(tactic| walk_at "call builtin:list.append") => `(tactic| (k_here; (with_reducible show wpAny _ _ (call (Value.builtin _) [Value.ref _, _]) _ _ _); k_dflt (refine' append_rows ?k1 ?k2 ?k3 ?k4 ?_; (case k1 => k_asm); (case k2 => k_asm); (case k3 => k_upd); (case k4 => omega); k_whole); intro h' F' N'; (try k_sweep); rcases apart_of N' (by assumption) (by assumption) (by omega) (by omega) (by omega) with ⟨a1', a2', a3'⟩ | ⟨a1', a2', a3'⟩))
local macro_rules | `(tactic| walk_at "ite") => `(tactic| (k_here; (with_reducible show ite (_ = true) _ _); k_dflt (first | (refine ite_neg (by simp only [decide_eq_true_eq, beq_iff_eq, bne_iff_ne, ne_eq, Decidable.not_not, gt_iff_lt, ge_iff_le]; omega) ?_) | (refine ite_pos (by simp only [decide_eq_true_eq, beq_iff_eq, bne_iff_ne, ne_eq, gt_iff_lt, ge_iff_le]; omega) ?_) | (refine ite_beq (fun a' => ?_) (fun a' => ?_)) | (refine ite_dec (fun a' => ?_) (fun a' => ?_)))))
local macro_rules | `(tactic| walk_at "call ref") => `(tactic| (k_here; (with_reducible show wpAny _ _ (call (Value.ref 262) _) _ _ _); k_dflt (refine' lawApartZ _ ?h0 ?h1 ?h2 ?h3 _ _ _ _ _ _ _ _ _ _ _ _ _ _ _ _ _ ?kB ?kF ?kX ?kN ?kT ?kk ?kd ?ku ?_; (case kB => k_asm); (case kF => k_asm); (case kX => k_asm); (case kN => k_asm); (case kT => k_asm); (case h0 => k_mem); (case h1 => (k_extra "rows")); (case h2 => (k_extra "rowsLen")); (case h3 => (k_extra "apart")); (case kk => first | exact rfl | assumption); (case kd => k_room); (case ku => k_units); k_whole); intro t' h' tk' F' N'; (try dsimp only); (try k_fold); (try k_sweep)))
set_option maxHeartbeats 40000000 in
theorem lawHolds : PySem.Challenge.rw_sj0116_01.Holds := hd (by
  k_go0
  all_goals (try k_fold)
  repeat' ((fail_if_success (with_reducible show wpAny _ _ (pyIter (Value.ref (Array.size _))) _ _ _)); (first | (k_unfold; (try dsimp only)) | (k_end; wrow_close) | ((with_reducible show wpAny _ _ (exec _ _) _ _ _); k_fold) | walk1 | (dsimp only; walk1) | (leave1; (try dsimp only))))
  rename World => w
  rename IsRange _ _ _ _ _ _ _ _ => hrange
  rename News _ _ _ _ => N1
  rename Fr _ _ _ _ => F1
  simp only [show ∀ a b : Int, 0 + (a + b) - b = a from fun a b => by omega] at N1
  refine' open_loop (w := w) (news7 N1 ?m1 ?m2 ?m3 ?m4 ?m5 ?m6 ?m7) F1 hrange ?hws ?hlen ?q1 ?q2 ?q3 ?q4 ?q5 ?q6 ?q7 ?q7p ?q8 ?q9 ?q10 ?q11 ?q12 ?q13 ?f1 ?f2 ?f3 ?f4 ?f5 ?f6 ?f7 ?f8 ?f9 ?f10 ?_
  case m1 => k_mem
  case m2 => k_mem
  case m3 => k_mem
  case m4 => k_mem
  case m5 => k_mem
  case m6 => k_mem
  case m7 => k_mem
  case hws => assumption
  case f1 => exact rfl
  case f2 => exact rfl
  case f3 => exact rfl
  case f4 => exact rfl
  case f5 => exact rfl
  case f6 => exact rfl
  case f7 => exact rfl
  case f8 => exact rfl
  case f9 => exact rfl
  case f10 => exact rfl
  case hlen => (rw [List.length_take]; omega)
  case q1 => omega
  case q2 => omega
  case q3 => omega
  case q4 => omega
  case q5 => omega
  case q6 => omega
  case q7 => omega
  case q7p => omega
  case q8 => omega
  case q9 => omega
  case q10 => omega
  case q11 => omega
  case q12 => omega
  case q13 => omega
  clear N1 F1 hrange
  intro box lst dr xr dc xc rows d first kb tn ws ns nl k0 k1 k2 k3 k4 k5 c0 c1 c2 c3 c4 c5 c6 c7 c8 c9 c10 c11 c12 c13 c14 td tb a1 a4 a5 v1 v4 v5 v6 v7 v12 v13 v14 t2 tf tnow tlast tmany tfi m0 N1 F1 hrange hws hlen q1 q2 q3 q4 q5 q6 q7 q7' q8 q9 q10 q11 q12 q13 f1 f2 f3 f4 f5 f6 f7 f8 f9 f10
  refine kd_range (σ := St) (n := tn.toNat)
    (fun c => [(box, listOf #[.ref lst, .int c.kb c.tb] 0), (dr, (dictOf [{ hash := PyData.keyHash w.params (Str.ofString "datagram"), key := Value.str (Str.ofString "datagram") k0, val := .int d td }, { hash := PyData.keyHash w.params (Str.ofString "window"), key := Value.str (Str.ofString "window") k1, val := .int c.W c.a1 }, { hash := PyData.keyHash w.params (Str.ofString "threshold"), key := Value.str (Str.ofString "threshold") k2, val := c.T1 }, { hash := PyData.keyHash w.params (Str.ofString "recovery_at"), key := Value.str (Str.ofString "recovery_at") k3, val := c.R1 }, { hash := PyData.keyHash w.params (Str.ofString "in_flight"), key := Value.str (Str.ofString "in_flight") k4, val := .int c.fly c.a4 }, { hash := PyData.keyHash w.params (Str.ofString "credit"), key := Value.str (Str.ofString "credit") k5, val := .int 0 c.a5 }] 6)), (dc, (dictOf [{ hash := PyData.keyHash w.params (Str.ofString "datagram"), key := Value.str (Str.ofString "datagram") c0, val := .int d td }, { hash := PyData.keyHash w.params (Str.ofString "window"), key := Value.str (Str.ofString "window") c1, val := .int c.V c.v1 }, { hash := PyData.keyHash w.params (Str.ofString "threshold"), key := Value.str (Str.ofString "threshold") c2, val := c.T2 }, { hash := PyData.keyHash w.params (Str.ofString "recovery_at"), key := Value.str (Str.ofString "recovery_at") c3, val := c.R2 }, { hash := PyData.keyHash w.params (Str.ofString "in_flight"), key := Value.str (Str.ofString "in_flight") c4, val := .int c.fly c.v4 }, { hash := PyData.keyHash w.params (Str.ofString "credit"), key := Value.str (Str.ofString "credit") c5, val := .int 0 c.v5 }, { hash := PyData.keyHash w.params (Str.ofString "top_window"), key := Value.str (Str.ofString "top_window") c6, val := .int c.top c.v6 }, { hash := PyData.keyHash w.params (Str.ofString "prior_window"), key := Value.str (Str.ofString "prior_window") c7, val := .int c.pri c.v7 }, { hash := PyData.keyHash w.params (Str.ofString "begun_at"), key := Value.str (Str.ofString "begun_at") c8, val := .none }, { hash := PyData.keyHash w.params (Str.ofString "idle_since"), key := Value.str (Str.ofString "idle_since") c9, val := .none }, { hash := PyData.keyHash w.params (Str.ofString "empty_since"), key := Value.str (Str.ofString "empty_since") c10, val := .none }, { hash := PyData.keyHash w.params (Str.ofString "seen_at"), key := Value.str (Str.ofString "seen_at") c11, val := c.SE }, { hash := PyData.keyHash w.params (Str.ofString "meets_after"), key := Value.str (Str.ofString "meets_after") c12, val := .int 0 v12 }, { hash := PyData.keyHash w.params (Str.ofString "friendly"), key := Value.str (Str.ofString "friendly") c13, val := .int 0 v13 }, { hash := PyData.keyHash w.params (Str.ofString "friendly_credit"), key := Value.str (Str.ofString "friendly_credit") c14, val := .int 0 v14 }] 15)), (rows, listOf c.us.toArray c.nr)])
    [(lst, listOf ws.toArray nl), (xr, instObj 122 dr), (xc, instObj 248 dc)]
    (fun c => [("box", .ref box), ("datagram", .int d td), ("reno", .ref xr), ("cubic", .ref xc), ("first", .int first tfi), ("rows", .ref rows), ("flying", .int c.fly c.tf), ("now", .int c.now c.tnow), ("last", .int c.last c.tlast), ("many", .int c.many c.tmany)])
    (fun led c => RowsAre led c.us c.rs) ["sent_at", "form", "size", "sender"] (fun pre c => Inv d first pre.length c) [box, dr, dc, rows, lst, xr, xc]
    ⟨0, 0, 50, 40 * d, first, first, 0, 0, kb, .none, .none, .none, .none, .int 2 t2, tb, tf, tnow, tlast, tmany, a1, a4, a5, v1, v4, v5, v6, v7, [], [], 0⟩
    (by rfl) hrange (small_tn q5 q6) (size_tn q5 q6) F1 N1 ?_ (fun _ => rfl) ⟨rfl, fun i v h => absurd h (by simp)⟩ ?_ ?_ ?_ ?_
  · intro p hp
    simp only [List.mem_cons, List.mem_append, List.not_mem_nil, or_false] at hp ⊢
    rcases hp with (e | e | e | e) | (e | e | e) <;> simp [e]
  · intro p hp
    simp only [List.mem_cons, List.not_mem_nil, or_false] at hp
    rcases hp with e | e | e | e | e | e | e | e | e | e <;> (rw [e]; assumption)
  · exact inv_start q1 q2 q3 q4 q7 q7'
  · rintro ⟨many, last, now, fly, W, V, top, pri, kb, T1, R1, T2, R2, SE, tb, tf, tnow, tlast, tmany, a1, a4, a5, v1, v4, v5, v6, v7, rs, us, nr⟩ tl pre kk tk9 u h tk own hkk hlen2 hsep hoff hf hp F2 N2
    dsimp only at hf
    dsimp only at F2
    dsimp only at N2
    simp only [List.cons_append, List.nil_append] at N2
    clear N1 F1
    obtain ⟨p1, p2, p3, p4, p5, p6, p7, p8, p9, p10, p11⟩ := hp
    dsimp only at p1 p2 p3 p4 p5 p6 p7 p8 p9 p10 p11
    have wi := p10
    obtain ⟨w0, w1, w2, w3, w4, w5, w6⟩ := p10
    have hpl : pre.length < 15 := len_tn q6 hlen2
    have ho1 : ∀ q ∈ tl ++ own, q.1 ≠ box := fun q hq => hoff q hq _ (by simp)
    have ho2 : ∀ q ∈ tl ++ own, q.1 ≠ dr := fun q hq => hoff q hq _ (by simp)
    have ho3 : ∀ q ∈ tl ++ own, q.1 ≠ dc := fun q hq => hoff q hq _ (by simp)
    have ho4 : ∀ q ∈ tl ++ own, q.1 ≠ rows := fun q hq => hoff q hq _ (by simp)
    have hfl := fl_bound p8 (by omega) hpl
    k_with "mark" => first | exact markR p9 (by omega) | exact markC p9 (by omega)
    k_with "lim" => (intro hl9; first | exact absurd hl9 (by decide) | (have hl8 := of_decide_eq_true hl9; constructor <;> omega))
    have hrl : rs.length ≤ pre.length := p11.len
    have hul : us.length = rs.length := hf.1
    k_with "rows" => exact rows_snoc hf (sub3 (by (repeat (first | exact List.Mem.head _ | apply List.Mem.tail))) (by (repeat (first | exact List.Mem.head _ | apply List.Mem.tail))) (by (repeat (first | exact List.Mem.head _ | apply List.Mem.tail))) (fun p9 hp9 => by repeat (first | exact List.mem_append_left _ hp9 | apply List.Mem.tail))) (by (repeat (first | exact List.Mem.head _ | apply List.Mem.tail)))
    k_with "rowsLen" => exact snoc_len (by omega)
    k_with "apart" => assumption
    k_with "rM" => first | exact marks_right (hit_all (by assumption) (by assumption) (by assumption) wi (by omega) (by omega) (by omega) (by omega) (by omega)).1 | exact marks_right (miss_all (by assumption) (by assumption) p9 wi (by omega)).1
    k_with "rW" => first | exact (hit_all (by assumption) (by assumption) (by assumption) wi (by omega) (by omega) (by omega) (by omega) (by omega)).2.win | exact (miss_all (by assumption) (by assumption) p9 wi (by omega)).2.win
    k_with "rV1" => first | exact (hit_all (by assumption) (by assumption) (by assumption) wi (by omega) (by omega) (by omega) (by omega) (by omega)).2.v1 | exact (miss_all (by assumption) (by assumption) p9 wi (by omega)).2.v1
    k_with "rV2" => first | exact (hit_all (by assumption) (by assumption) (by assumption) wi (by omega) (by omega) (by omega) (by omega) (by omega)).2.v2 | exact (miss_all (by assumption) (by assumption) p9 wi (by omega)).2.v2
    k_with "rV3" => first | exact (hit_all (by assumption) (by assumption) (by assumption) wi (by omega) (by omega) (by omega) (by omega) (by omega)).2.v3 | exact (miss_all (by assumption) (by assumption) p9 wi (by omega)).2.v3
    k_with "rV5" => first | exact (hit_all (by assumption) (by assumption) (by assumption) wi (by omega) (by omega) (by omega) (by omega) (by omega)).2.v4 | exact (miss_all (by assumption) (by assumption) p9 wi (by omega)).2.v4
    k_with "rV4" => first | exact vpos (hit_all (by assumption) (by assumption) (by assumption) wi (by omega) (by omega) (by omega) (by omega) (by omega)).2 (by omega) | exact vpos (miss_all (by assumption) (by assumption) p9 wi (by omega)).2 (by omega)
    repeat' ((fail_if_success (with_reducible show InvEndG _ _ _ _ _ _)); (first | (k_unfold; (try dsimp only)) | (k_end; wrow_close) | ((with_reducible show wpAny _ _ (exec _ _) _ _ _); k_fold) | walk1 | (dsimp only; walk1) | (leave1; (try dsimp only))))
    all_goals (first
      | ((with_reducible rename (_ = (0 : Int) → _ = fly) => eF1); (have eF2 := fly0 (eF1 (by assumption))); clear eF1; subst eF2; (with_reducible rename (_ = (0 : Int) → _ = fly) => eF1); (have eF2 := fly0 (eF1 (by assumption))); clear eF1; subst eF2)
      | ((with_reducible rename (_ ≠ (0 : Int) → _ = fly - _) => eF1); (have eF2 := eF1 (by omega)); clear eF1; subst eF2; (with_reducible rename (_ ≠ (0 : Int) → _ = fly - _) => eF1); (have eF2 := eF1 (by omega)); clear eF1; subst eF2))
    all_goals (with_reducible rename News _ _ _ _ => kEndNews)
    all_goals (first
      | ((with_reducible rename Rows (_ + 1) _ _ _ _ => hRw); refine' kd_end (tl := tl) (⟨_, _, _, _, _, _, _, _, _, _, _, _, _, _, _, _, _, _, _, _, _, _, _, _, _, _, _, _, _, _⟩ : St) [(_, pairObj _ _ _ _ _)] ?kdS ?kdF ?kdN ?kdn ?kdo ?kda ?kdb ?kdw ?kdk ?kdr ?kdf ?kdp; (case kdS => exact hsep); (case kdF => assumption); (case kdN => exact kEndNews); (case kdf => (exact rows_snoc hf kd_sub (kd_new (.head _)))); (case kdn => (exact in_led1 (by (repeat (first | exact List.Mem.head _ | apply List.Mem.tail))) (by (repeat (first | exact List.Mem.head _ | apply List.Mem.tail))) (by (repeat (first | exact List.Mem.head _ | apply List.Mem.tail))) (by (repeat (first | exact List.Mem.head _ | apply List.Mem.tail))) (by (repeat (first | exact List.Mem.head _ | apply List.Mem.tail))) (by (repeat (first | exact List.Mem.head _ | apply List.Mem.tail))) (by (repeat (first | exact List.Mem.head _ | apply List.Mem.tail))) (by (repeat (first | exact List.Mem.head _ | apply List.Mem.tail))) (fun p9 hp9 => by repeat (first | exact List.mem_append_left _ hp9 | apply List.Mem.tail)))); (case kdo => (intro p9 hp9; (repeat (first | exact List.mem_append_right _ hp9 | apply List.Mem.tail)))); (case kda => (kd_rfl)); (case kdk => (kst_all)); (case kdb => (kd_addB)); (case kdw => (kd_addW)); (case kdr => (intro z9 g1 g2 g3; obtain ⟨g4, g5⟩ := same_names g2 g3; (simp only [List.map_cons, List.map_nil, List.forall_mem_cons] at g4 g5); obtain ⟨n1, n2, n3, n4, n5, n6, n7, n8, n9, n10, _⟩ := g4; obtain ⟨s1, s2, s3, s4, _⟩ := g5; dsimp only; (repeat (first | refine (if_neg (by assumption)).trans ?_ | refine (kstB_no (by assumption)).trans ?_)); exact if_neg (by rw [g3]; exact Bool.false_ne_true))); (case kdp => (refine inv_step ?_ ?_ ?_ ?_ ?_ ?_ ?_ ?_ ?_ ?_ ?_ <;> dsimp only; (omega); (omega); (omega); (omega); (omega); (omega); (omega); (first | exact fl_same p8 (by omega) | exact fl_less p8 (by omega)); (first | exact (hit_all (by assumption) (by assumption) (by assumption) wi (by omega) (by omega) (by omega) (by omega) (by omega)).1 | exact (miss_all (by assumption) (by assumption) p9 wi (by omega)).1); (first | exact (hit_all (by assumption) (by assumption) (by assumption) wi (by omega) (by omega) (by omega) (by omega) (by omega)).2 | exact (miss_all (by assumption) (by assumption) p9 wi (by omega)).2); (assumption))))
      | ((fail_if_success (with_reducible rename Rows (_ + 1) _ _ _ _ => hRw)); refine' kd_end (tl := tl) (⟨_, _, _, _, _, _, _, _, _, _, _, _, _, _, _, _, _, _, _, _, _, _, _, _, _, _, _, _, _, _⟩ : St) [] ?kdS ?kdF ?kdN ?kdn ?kdo ?kda ?kdb ?kdw ?kdk ?kdr ?kdf ?kdp; (case kdS => exact hsep); (case kdF => assumption); (case kdN => exact kEndNews); (case kdn => (exact in_led (by (repeat (first | exact List.Mem.head _ | apply List.Mem.tail))) (by (repeat (first | exact List.Mem.head _ | apply List.Mem.tail))) (by (repeat (first | exact List.Mem.head _ | apply List.Mem.tail))) (by (repeat (first | exact List.Mem.head _ | apply List.Mem.tail))) (by (repeat (first | exact List.Mem.head _ | apply List.Mem.tail))) (by (repeat (first | exact List.Mem.head _ | apply List.Mem.tail))) (by (repeat (first | exact List.Mem.head _ | apply List.Mem.tail))) (fun p9 hp9 => absurd hp9 List.not_mem_nil) (fun p9 hp9 => by repeat (first | exact List.mem_append_left _ hp9 | apply List.Mem.tail)))); (case kdo => (intro p9 hp9; (repeat (first | exact List.mem_append_right _ hp9 | apply List.Mem.tail)))); (case kda => (kd_rfl)); (case kdk => (kst_all)); (case kdf => (exact hf)); (case kdb => (kd_addB)); (case kdw => (kd_addW)); (case kdr => (intro z9 g1 g2 g3; obtain ⟨g4, g5⟩ := same_names g2 g3; (simp only [List.map_cons, List.map_nil, List.forall_mem_cons] at g4 g5); obtain ⟨n1, n2, n3, n4, n5, n6, n7, n8, n9, n10, _⟩ := g4; obtain ⟨s1, s2, s3, s4, _⟩ := g5; dsimp only; (repeat (first | refine (if_neg (by assumption)).trans ?_ | refine (kstB_no (by assumption)).trans ?_)); exact if_neg (by rw [g3]; exact Bool.false_ne_true))); (case kdp => (refine inv_step ?_ ?_ ?_ ?_ ?_ ?_ ?_ ?_ ?_ ?_ ?_ <;> dsimp only; (omega); (omega); (omega); (omega); (omega); (omega); (omega); (first | exact fl_same p8 (by omega) | exact fl_less p8 (by omega)); (first | exact (hit_all (by assumption) (by assumption) (by assumption) wi (by omega) (by omega) (by omega) (by omega) (by omega)).1 | exact (miss_all (by assumption) (by assumption) p9 wi (by omega)).1); (first | exact (hit_all (by assumption) (by assumption) (by assumption) wi (by omega) (by omega) (by omega) (by omega) (by omega)).2 | exact (miss_all (by assumption) (by assumption) p9 wi (by omega)).2); (exact rows_stay p11)))))
  · rintro ⟨many, last, now, fly, W, V, top, pri, kb, T1, R1, T2, R2, SE, tb, tf, tnow, tlast, tmany, a1, a4, a5, v1, v4, v5, v6, v7, rs, us, nr⟩ tl u h tk ho hf hp F2 N2
    clear N1 F1
    repeat (first | ((with_reducible show GoodW _ _ _ _ _ _ _); exact law_end (by assumption) (by assumption)) | (k_unfold; (try dsimp only)) | ((with_reducible show wpAny _ _ (exec _ _) _ _ _); k_fold) | walk1 | (dsimp only; walk1) | (leave1; (try dsimp only))))
end
end Mine
set_option maxRecDepth 100000 in
theorem PySem.Challenge.cw_sj0116_01_holds : PySem.Challenge.rw_sj0116_01.Holds :=
  Mine.lawHolds
