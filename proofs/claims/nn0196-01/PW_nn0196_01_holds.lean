import PyProof.Rows.All
import Wide.All
import OpenK.AllK
import Wide.FinOn
import PySem.Challenge.RW_nn0196_01
open PySem PySem.W PyProof.Rows
set_option Elab.async false
set_option maxRecDepth 100000
set_option maxHeartbeats 1000000
set_option linter.unusedVariables false
set_option maxHeartbeats 8000000
#guard_msgs (drop error, drop info, drop warning) in lay_quick_some 0 nosuchIdentHere
open_top Mine.hd for PySem.Challenge.rw_nn0196_01.row
theorem Mine.look (h : PySem.Challenge.rw_nn0196_01.row.wellSaid = true) : PySem.Challenge.rw_nn0196_01.wellSaid = true := by
  unfold OpenLaw.wellSaid
  rw [h]
  decide +kernel
theorem Mine.fill_all : (PySem.Challenge.rw_nn0196_01 = PySem.Challenge.rw_nn0196_01) ∧ (hd.heap_1 = hd.heap_1) := by
  w_top off; k_fill; exact ⟨rfl, rfl⟩
set_option maxHeartbeats 1000000
local macro_rules | `(tactic| omega) => `(tactic| ((fail_if_success (fail_if_success (omega (config := {})))); first | lia | omega (config := {})))
local macro_rules | `(tactic| walk_at $s:str) => `(tactic| k_extra $s)
local macro_rules | `(tactic| k_in) => `(tactic| with_reducible first | assumption | exact Frag.In.keeps (by assumption) (Fr.keep (by assumption)))
namespace Mine
open PySem.Calls PySem.Spec
abbrev Led := List (Addr × Obj)
abbrev PG : Program := PySem.Challenge.rw_nn0196_01.row.prog

abbrev Kept (h h' : Heap) (mu : Led) : Prop := ∀ b o, b ∉ mu.map (·.1) → h.get? b = some o → h'.get? b = some o
abbrev Fresh (h : Heap) (mu news : Led) : Prop := ∀ p ∈ news, p.1 ∈ mu.map (·.1) ∨ h.get? p.1 = none

abbrev Ret (h₀ : Heap) (L : Addr) (m : Str → Option Value) (s : Shared) (mu : Led) (Q : Value → Shared → Prop) (post : Value → Led → Prop) : Prop :=
  ∀ (r : Value) (news' : Led) (h' : Heap) (tk' : Nat), Fr h₀ L h' m → News h₀ L h' news' → Kept s.heap h' mu → Fresh s.heap mu news' → post r news' → Q r { s with heap := h', toks := tk' }

/-- a contract of the def at f: from any frame the call ends; all objects but those of mu stay; post tells of the answer and of what is made or turned -/
def MSpec (w : World) (f : Addr) (dn : Nat) (vs : List Value) (rd mu : Led) (post : Value → Led → Prop) : Prop :=
  ∀ (dp un : Nat) (gd : Option (List Code)) (cn : Str) (cs : Scope) (a : Addr) (ccd : Value) (cl : List (Str × Addr)) (outer : List Env) (A₀ : Around) (base h₀ : Heap) (L : Addr) (m : Str → Option Value) (s : Shared) (Q E : Value → Shared → Prop)
    (p : Program) (loose : List Str) (mean : ExcName → Option Value) (mg mb : Str → Option Value),
    Below A₀ base outer h₀ → Fr h₀ L s.heap m → (hd.heap_1 w.params).In h₀ → News h₀ L s.heap mu → Top p loose mean mg mb h₀ → cs.kind = .function →
    dp + dn < recursionLimit → un + 8 * dn < cLine → (∀ p ∈ rd, s.heap.get? p.1 = some p.2 ∧ p.1 ∉ mu.map (·.1)) → Ret h₀ L m s mu Q post →
      wpAny (model PySem.Challenge.rw_nn0196_01.row.prog w) (ktrTop dp un gd cn cs L a ccd cl outer) (call (.ref f) vs) Q E s

/-- the same, of the call's code -/
def CSpec (w : World) (f : Addr) (dn : Nat) (vs : List Value) (rd mu : Led) (post : Value → Led → Prop) : Prop :=
  ∀ (dp un : Nat) (gd : Option (List Code)) (cn : Str) (cs : Scope) (a : Addr) (ccd : Value) (cl : List (Str × Addr)) (outer : List Env) (A₀ : Around) (base h₀ : Heap) (L : Addr) (m : Str → Option Value) (s : Shared) (R : Result → Shared → Prop)
    (p : Program) (loose : List Str) (mean : ExcName → Option Value) (mg mb : Str → Option Value),
    Below A₀ base outer h₀ → Fr h₀ L s.heap m → (hd.heap_1 w.params).In h₀ → News h₀ L s.heap mu → Top p loose mean mg mb h₀ → cs.kind = .function →
    dp + dn < recursionLimit → un + 8 * dn < cLine → (∀ p ∈ rd, s.heap.get? p.1 = some p.2 ∧ p.1 ∉ mu.map (·.1)) → Ret h₀ L m s mu (fun r s' => R (.ok (.ret r)) s') post →
      codeAny (model PySem.Challenge.rw_nn0196_01.row.prog w) (ktrTop dp un gd cn cs L a ccd cl outer) (.call (.ref f) ⟨vs, []⟩) R s

def Back (s : Shared) (g : Heap) (post : Value → Led → Prop) (v : Value) (s' : Shared) : Prop :=
  ∃ L' m' news' h' tk', s' = { s with heap := h', toks := tk' } ∧ Fr g L' h' m' ∧ News g L' h' news' ∧ post v news'
theorem Back.intro {s : Shared} {g : Heap} {post : Value → Led → Prop} {v : Value} {L' : Addr} {m' : Str → Option Value} {all : Led} {h' : Heap} {tk' : Nat} (news' : Led)
    (F : Fr g L' h' m') (N : News g L' h' all) (hs : ∀ p ∈ news', p ∈ all) (hp : post v news') : Back s g post v { s with heap := h', toks := tk' } :=
  ⟨L', m', news', h', tk', rfl, F, fun p hp => N p (hs p hp), hp⟩

theorem CSpec.of_body {w : World} {f : Addr} {dn : Nat} {vs : List Value} {rd mu : Led} {post : Value → Led → Prop} (binds : List (Str × Value))
    {name qual : Str} {params : Arguments} {body : List Stmt} {scope : Scope} {dV kV doc pm cdv ct oc : Value} {an od : Option Addr} {osl : Array (Option Value)}
    (ho : (hd.heap_1 w.params).lookup f = some ⟨oc, od, .func (fnOf name qual params body scope dV kV doc pm an cdv ct), osl⟩) (hcd : codeIn (hd.heap_1 w.params) cdv qual = true)
    (hbind : ∀ s : Shared, (hd.heap_1 w.params).In s.heap → BindsTo s (fnOf name qual params body scope dV kV doc pm an cdv ct) ⟨vs, []⟩ binds) (hloc : ∀ y ∈ binds, scope.names.lookup y.1 = some .local)
    (hcell : ∀ x ∈ scope.names, x.2 ≠ .cell) (hco : scope.isCoroutine = false) (hgen : scope.isGenerator = false) (hk : scope.kind = .function)
    (h : ∀ (dp un : Nat) (gd : Option (List Code)) (cn : Str) (cs : Scope) (L a : Addr) (ccd : Value) (cl : List (Str × Addr)) (outer : List Env) (base g : Heap) (L' : Addr) (h₁ : Heap) (s : Shared) (tk : Nat)
      (p : Program) (loose : List Str) (mean : ExcName → Option Value) (mg mb : Str → Option Value), dp + dn < recursionLimit → un + 8 * dn < cLine →
      Below (ktrTop dp un gd cn cs L a ccd cl outer) base (envX cn cs L a ccd cl :: outer) g → Fr g L' h₁ (fun y => binds.reverse.lookup y) → News g L' h₁ mu → (hd.heap_1 w.params).In g → Top p loose mean mg mb g → (∀ p ∈ mu, p.1 < L') → (∀ p ∈ rd, g.get? p.1 = some p.2) →
      wpAny (model PySem.Challenge.rw_nn0196_01.row.prog w) ((ktrTop dp un gd cn cs L a ccd cl outer).deeper (envOf qual scope L' f cdv)) (execs body (envOf qual scope L' f cdv))
        (fun fl s' => Back s g post (match fl with | .ret v => v | _ => .none) s') (fun _ _ => False) { s with heap := h₁, toks := tk })
    (hdn : 0 < dn := by decide) : CSpec w f dn vs rd mu post := by
  intro dp un gd cn cs a ccd cl outer A₀ base h₀ L m s R p loose mean mg mb B F X N T hck hdp hu hrd hret
  obtain ⟨FG, BG, st, _⟩ := groundX (R := fun _ _ => True) (A := ktrTop dp un gd cn cs L a ccd cl outer) (env := envX cn cs L a ccd cl) B F N rfl rfl hck
  have Xs : (hd.heap_1 w.params).In s.heap := X.keeps F.keep
  refine codeAny_call_def (fd := fnOf name qual params body scope dV kV doc pm an cdv ct) (body := body) (binds := binds) (by show dp < recursionLimit; omega) (Xs _ _ ho) rfl (T.nolimit.keeps F.keep) (codeRec_of Xs hcd) rfl (hbind s Xs) hcell hloc (fun h₁ hns hk₁ => ?_) hco hgen hk
  have B' := h dp un gd cn cs L a ccd cl outer base _ s.heap.objs.size h₁ s (s.toks + binds.length) p loose mean mg mb hdp hu BG ⟨hns, fun b o e => hk₁ b o (of_hideAll _ e), Nat.le_of_eq (hideAll_size _ _)⟩
    (fun p hp => ⟨hk₁ _ _ (N p hp).1, Nat.ne_of_lt (Heap.lt_size (N p hp).1), hideAll_none _ (List.mem_map_of_mem hp)⟩) (X.keeps st) (T.keeps st) (fun p hp => Heap.lt_size (N p hp).1) (fun p hp => hideAll_get _ (hrd p hp).1 (hrd p hp).2)
  refine wpAny_mono B' (fun fl s' hB => ?_) (fun _ _ x => x.elim)
  obtain ⟨L'', m'', news', h', tk', rfl, F'', N'', hp⟩ := hB
  have kp : Kept s.heap h' mu := fun b o hb e => F''.keep b o (hideAll_get _ e hb)
  obtain ⟨oL, es, ep, hL, hLd, hLk, hLf⟩ := FG.ns
  refine hret _ news' h' tk' ⟨⟨oL, es, ep, F''.keep _ _ hL, hLd, hLk, hLf⟩, fun b o e => F''.keep _ _ (FG.keep _ _ e), F.above⟩ (fun p hp' => ⟨(N'' p hp').1, fun e => ?_, ?_⟩) kp (fun p hp' => ?_) hp
  · have := (N'' p hp').2.2; rw [e, hL] at this; cases this
  · cases q : h₀.get? p.1 with
    | none => rfl
    | some o => have := (N'' p hp').2.2; rw [FG.keep _ _ q] at this; cases this
  · by_cases hm : p.1 ∈ mu.map (·.1)
    · exact .inl hm
    · refine .inr ?_
      cases q : s.heap.get? p.1 with
      | none => rfl
      | some o => have := (N'' p hp').2.2; rw [hideAll_get _ q hm] at this; cases this

theorem CSpec.m {w : World} {f : Addr} {dn : Nat} {vs : List Value} {rd mu : Led} {post : Value → Led → Prop} (S : CSpec w f dn vs rd mu post) : MSpec w f dn vs rd mu post :=
  fun dp un gd cn cs a ccd cl outer A₀ base h₀ L m s Q E p loose mean mg mb B F X N T hk hr hu hrd hret =>
    wpAny_call (S dp un gd cn cs a ccd cl outer A₀ base h₀ L m s _ p loose mean mg mb B F X N T hk hr hu hrd hret)

theorem MSpec.of_body {w : World} {f : Addr} {dn : Nat} {vs : List Value} {rd mu : Led} {post : Value → Led → Prop} (binds : List (Str × Value))
    {name qual : Str} {params : Arguments} {body : List Stmt} {scope : Scope} {dV kV doc pm cdv ct oc : Value} {an od : Option Addr} {osl : Array (Option Value)}
    (ho : (hd.heap_1 w.params).lookup f = some ⟨oc, od, .func (fnOf name qual params body scope dV kV doc pm an cdv ct), osl⟩) (hcd : codeIn (hd.heap_1 w.params) cdv qual = true)
    (hbind : ∀ s : Shared, (hd.heap_1 w.params).In s.heap → BindsTo s (fnOf name qual params body scope dV kV doc pm an cdv ct) ⟨vs, []⟩ binds) (hloc : ∀ y ∈ binds, scope.names.lookup y.1 = some .local)
    (hcell : ∀ x ∈ scope.names, x.2 ≠ .cell) (hco : scope.isCoroutine = false) (hgen : scope.isGenerator = false) (hk : scope.kind = .function)
    (h : ∀ (dp un : Nat) (gd : Option (List Code)) (cn : Str) (cs : Scope) (L a : Addr) (ccd : Value) (cl : List (Str × Addr)) (outer : List Env) (base g : Heap) (L' : Addr) (h₁ : Heap) (s : Shared) (tk : Nat)
      (p : Program) (loose : List Str) (mean : ExcName → Option Value) (mg mb : Str → Option Value), dp + dn < recursionLimit → un + 8 * dn < cLine →
      Below (ktrTop dp un gd cn cs L a ccd cl outer) base (envX cn cs L a ccd cl :: outer) g → Fr g L' h₁ (fun y => binds.reverse.lookup y) → News g L' h₁ mu → (hd.heap_1 w.params).In g → Top p loose mean mg mb g → (∀ p ∈ mu, p.1 < L') → (∀ p ∈ rd, g.get? p.1 = some p.2) →
      wpAny (model PySem.Challenge.rw_nn0196_01.row.prog w) ((ktrTop dp un gd cn cs L a ccd cl outer).deeper (envOf qual scope L' f cdv)) (execs body (envOf qual scope L' f cdv))
        (fun fl s' => Back s g post (match fl with | .ret v => v | _ => .none) s') (fun _ _ => False) { s with heap := h₁, toks := tk })
    (hdn : 0 < dn := by decide) : MSpec w f dn vs rd mu post := (CSpec.of_body binds ho hcd hbind hloc hcell hco hgen hk h hdn).m

def Lock (P : Prop) : Prop := P
/-- while this stands among the facts, a store's map is not folded -/
def NoFold : Prop := (7 : Nat) = 7
theorem noFold : NoFold := rfl
theorem Lock.out {P : Prop} (h : Lock P) : P := h
theorem Lock.into {P : Prop} (h : P) : Lock P := h
/-- an if whose two sides are walked once each: the test's end is told by P -/
def CondEnd (P : Bool → Prop) (h₀ : Heap) (L : Addr) (m : Str → Option Value) (news : Led) (s : Shared) (k : Bool) (s' : Shared) : Prop :=
  P k ∧ ∃ h tk, s' = { s with heap := h, toks := tk } ∧ Fr h₀ L h m ∧ News h₀ L h news
theorem CondEnd.of {P : Bool → Prop} {h₀ h : Heap} {L : Addr} {m : Str → Option Value} {news all : Led} {s : Shared} {k : Bool} {tk : Nat} (hp : P k) (F : Fr h₀ L h m) (N : News h₀ L h all) (sub : ∀ p ∈ news, p ∈ all) :
    CondEnd P h₀ L m news s k { s with heap := h, toks := tk } := ⟨hp, h, tk, rfl, F, fun p hm => N p (sub p hm)⟩
theorem If_join {M : Model} {A : Around} {E : Value → Shared → Prop} {s : Shared} {env : Env} {h₀ : Heap} {L : Addr} {m : Str → Option Value} {news : Led} {test : PySem.Expr} {b1 b2 : List Stmt} {pos : Pos} {Q : Flow → Shared → Prop} (P : Bool → Prop)
    (_F : Fr h₀ L s.heap m) (_N : News h₀ L s.heap news)
    (hc : wpAny M A (isTrue test env (eval test env)) (CondEnd P h₀ L m news s) E s)
    (h1 : ∀ h tk, P true → Fr h₀ L h m → News h₀ L h news → wpAny M A (execs b1 env) Q E { s with heap := h, toks := tk })
    (h2 : ∀ h tk, P false → Fr h₀ L h m → News h₀ L h news → wpAny M A (execs b2 env) Q E { s with heap := h, toks := tk }) :
    wpAny M A (exec (.If test b1 b2 pos) env) Q E s := by
  refine wpAny_If (wpAny_mono hc (fun k s₂ hk => ?_) fun _ _ h => h)
  obtain ⟨hp, h, tk, rfl, F, N⟩ := hk
  cases k with
  | true => exact h1 h tk hp F N
  | false => exact h2 h tk hp F N
theorem bare {α : Type} {q : α → Shared → Prop} {v : α} {s : Shared} (h : q v s) : q v s := h
def AllNe (d : Addr) : Led → Prop
  | [] => True
  | p :: r => (@LT.lt Nat _ p.1 d ∨ @LT.lt Nat _ d p.1) ∧ AllNe d r
theorem allNe_of {d : Addr} : ∀ {l : Led}, (∀ p ∈ l, p.1 ≠ d) → AllNe d l
  | [], _ => trivial
  | p :: _, h => ⟨Nat.lt_or_gt_of_ne (h p (.head _)), allNe_of fun q hq => h q (.tail _ hq)⟩
theorem allNe_at {d : Addr} {l : Led} (h : AllNe d l) : ∀ p ∈ l, p.1 ≠ d := by
  induction l with
  | nil => exact fun _ hp => nomatch hp
  | cons q r ih =>
    intro p hp
    rcases List.mem_cons.mp hp with rfl | hp
    · exact h.1.elim Nat.ne_of_lt Nat.ne_of_gt
    · exact ih h.2 p hp

/-- a pure call -/
theorem MSpec.use {w : World} {f : Addr} {dn : Nat} {vs : List Value} {rd news : Led} {post : Value → Led → Prop} (S : MSpec w f dn vs rd [] post)
    {dp un : Nat} {gd : Option (List Code)} {cn : Str} {cs : Scope} {a : Addr} {ccd : Value} {cl : List (Str × Addr)} {outer : List Env} {A₀ : Around} {base h₀ : Heap} {L : Addr} {m : Str → Option Value} {s : Shared} {Q E : Value → Shared → Prop}
    {p : Program} {loose : List Str} {mean : ExcName → Option Value} {mg mb : Str → Option Value}
    (B : Below A₀ base outer h₀) (F : Fr h₀ L s.heap m) (X : (hd.heap_1 w.params).In h₀) (N : News h₀ L s.heap news) (T : Top p loose mean mg mb h₀) (hk : cs.kind = .function)
    (hr : dp + dn < recursionLimit) (hu : un + 8 * dn < cLine) (hrd : ∀ p ∈ rd, p ∈ news)
    (ret : ∀ (r : Value) (n' : Led) (h' : Heap) (tk' : Nat), Fr h₀ L h' m → News h₀ L h' (n' ++ news) → (∀ p ∈ n', AllNe p.1 news) → post r n' → Q r { s with heap := h', toks := tk' }) :
      wpAny (model PySem.Challenge.rw_nn0196_01.row.prog w) (ktrTop dp un gd cn cs L a ccd cl outer) (call (.ref f) vs) Q E s :=
  S dp un gd cn cs a ccd cl outer A₀ base h₀ L m s Q E p loose mean mg mb B F X (fun _ h => nomatch h) T hk hr hu (fun q hq => ⟨(N q (hrd q hq)).1, fun x => nomatch x⟩) fun r n' h' tk' F' N' kp fr hp =>
    ret r n' h' tk' F' (fun q hq => by
      rcases List.mem_append.mp hq with hq | hq
      · exact N' q hq
      · exact ⟨kp _ _ (fun x => nomatch x) (N q hq).1, (N q hq).2⟩) (fun q hq => allNe_of fun q' hq' e => by
      rcases fr q hq with h | h
      · cases h
      · rw [← e, (N q' hq').1] at h; cases h) hp

/-- a call that turns one object -/
theorem MSpec.use1 {w : World} {f : Addr} {dn : Nat} {vs : List Value} {rd news : Led} {c : Addr} {o : Obj} {g : Obj → Led} {post : Value → Obj → Led → Prop} (S : MSpec w f dn vs rd [(c, o)] (fun r n => ∃ o' n', n = (c, o') :: n' ∧ post r o' n'))
    {dp un : Nat} {gd : Option (List Code)} {cn : Str} {cs : Scope} {a : Addr} {ccd : Value} {cl : List (Str × Addr)} {outer : List Env} {A₀ : Around} {base h₀ : Heap} {L : Addr} {m : Str → Option Value} {s : Shared} {Q E : Value → Shared → Prop}
    {p : Program} {loose : List Str} {mean : ExcName → Option Value} {mg mb : Str → Option Value}
    (B : Below A₀ base outer h₀) (F : Fr h₀ L s.heap m) (X : (hd.heap_1 w.params).In h₀) (N : News h₀ L s.heap news) (T : Top p loose mean mg mb h₀) (hk : cs.kind = .function)
    (hr : dp + dn < recursionLimit) (hu : un + 8 * dn < cLine) (hrd : ∀ p ∈ rd, p ∈ news ∧ p.1 ≠ c) (U : UpdF c o news g)
    (ret : ∀ (r : Value) (o' : Obj) (n' : Led) (h' : Heap) (tk' : Nat), Fr h₀ L h' m → News h₀ L h' (n' ++ g o') → (∀ p ∈ n', p.1 ≠ c → AllNe p.1 news) → post r o' n' → Q r { s with heap := h', toks := tk' }) :
      wpAny (model PySem.Challenge.rw_nn0196_01.row.prog w) (ktrTop dp un gd cn cs L a ccd cl outer) (call (.ref f) vs) Q E s := by
  obtain ⟨pre, suf, hn, hg, h1, h2⟩ := U.split
  subst hn
  refine S dp un gd cn cs a ccd cl outer A₀ base h₀ L m s Q E p loose mean mg mb B F X (fun q hq => N q (List.mem_append_right _ (by rw [List.mem_singleton.mp hq]; exact .head _))) T hk hr hu (fun q hq => ⟨(N q (hrd q hq).1).1, fun x => (hrd q hq).2 (by simpa using x)⟩) ?_
  rintro r nn h' tk' F' N' kp fr ⟨o', n', rfl, hp⟩
  have old : ∀ q ∈ pre ++ suf, h'.get? q.1 = some q.2 ∧ q.1 ≠ L ∧ h₀.get? q.1 = none := fun q hq => by
    have hq' : q ∈ pre ++ (c, o) :: suf := by
      rcases List.mem_append.mp hq with x | x
      · exact List.mem_append_left _ x
      · exact List.mem_append_right _ (.tail _ x)
    have hne : q.1 ≠ c := (List.mem_append.mp hq).elim (h1 q) (h2 q)
    exact ⟨kp _ _ (fun x => hne (by simpa using x)) (N q hq').1, (N q hq').2⟩
  refine ret r o' n' h' tk' F' (fun q hq => ?_) (fun q hq hc => allNe_of fun q' hq' e => ?_) hp
  · rw [hg] at hq
    rcases List.mem_append.mp hq with x | x
    · exact N' q (.tail _ x)
    · rcases List.mem_append.mp x with x | x
      · exact old q (List.mem_append_left _ x)
      · rcases List.mem_cons.mp x with rfl | x
        · exact N' _ (.head _)
        · exact old q (List.mem_append_right _ x)
  · rcases fr q (.tail _ hq) with h | h
    · exact hc (by simpa using h)
    · rw [← e, (N q' hq').1] at h; cases h

def figureWorth (code : Int) : Int :=
  if 48 ≤ code ∧ code ≤ 57 then code - 48 else if 65 ≤ code ∧ code ≤ 70 then code - 55 else if 97 ≤ code ∧ code ≤ 102 then code - 87 else -1
def isWhite (c : Int) : Bool := [0, 9, 10, 12, 13, 32].any (· == c)

theorem white_in {w : World} {A : Around} {E : Value → Shared → Prop} {s : Shared} {x : Int} {u : Tok} {Q : Value → Shared → Prop} (X : (hd.heap_1 w.params).In s.heap) (h : Q (.bool (isWhite x)) s) :
    wpAny (model PySem.Challenge.rw_nn0196_01.row.prog w) A (compareOp .In (.int x u) (.ref 22)) Q E s :=
  in_tuple_ints (ns := [0, 9, 10, 12, 13, 32]) ⟨_, X 22 _ (by k_is), rfl, _, rfl⟩ (by repeat constructor) h
theorem lwhite_notin {w : World} {A : Around} {E : Value → Shared → Prop} {s : Shared} {x : Int} {u : Tok} {Q : Value → Shared → Prop} (X : (hd.heap_1 w.params).In s.heap) (h : Q (.bool (!isWhite x)) s) :
    wpAny (model PySem.Challenge.rw_nn0196_01.row.prog w) A (compareOp .NotIn (.int x u) (.ref 123)) Q E s :=
  notin_tuple_ints (ns := [0, 9, 10, 12, 13, 32]) ⟨_, X 123 _ (by k_is), rfl, _, rfl⟩ (by repeat constructor) h
end Mine
namespace Mine
/-- a goal at which the walk stops -/
def Stop (P : Prop) : Prop := P
theorem Stop.out {P : Prop} (h : Stop P) : P := h
theorem Stop.into {P : Prop} (h : P) : Stop P := h
end Mine
local macro_rules | `(tactic| units_room) => `(tactic| (have hcL9 := cLine_is; (simp +zetaDelta only [units_in1, units_deeper, Around.mark_units, units_caller]); (try dsimp only [ktrTop]); (first | (rw [hcL9]; decide) | omega)))
theorem Mine.words_P01 : True := by
  (k_with "compareOp In int ref" => (k_here; (with_reducible show wpAny _ _ (compareOp CmpOp.In (Value.int _ _) (Value.ref 22)) _ _ _); refine Mine.white_in (by k_in) ?_))
  (k_with "compareOp NotIn int ref" => (k_here; (with_reducible show wpAny _ _ (compareOp CmpOp.NotIn (Value.int _ _) (Value.ref 123)) _ _ _); refine Mine.lwhite_notin (by k_in) ?_))
  (k_with "mine call" => k_dflt ((case B => k_asm); (case F => k_asm); (case X => k_asm); (case N => k_asm); (case T => k_asm); (case K => first | exact rfl | assumption); (case R => walk_at "mine room"); (case U => walk_at "mine units")))
  (k_with "mine body" => (
  (case ho => k_is); (case hcd => k_is); (try (case hb => (intro s9_w X9_w; first | exact BindsTo.of_eq rfl | exact binds_K X9_w rfl (by k_is) rfl rfl rfl))); (case hl => exact locs rfl); (case hc => decide); (case h1 => exact rfl); (case h2 => exact rfl); (case h3 => exact rfl)))
  (k_with "mine state" => ((fail_if_success (fail_if_success (conv in (Shared.mk _ _ _ _ _) => skip))); refine (let sk := _; (?_ : wpAny _ _ _ _ _ sk))))
  (k_with "mine go" => ((w_top off); (try dsimp only [List.reverse, List.reverseAux]); (try (refine (let mk := _; let ak := _; let nk := _; (?_ : wpAny mk ak (execs _ nk) _ _ _)))); (try walk_at "mine fold"); (try walk_at "mine state")))
  (k_with "mine units" => (first | (have hcL9_w := cLine_is; (simp +zetaDelta only [units_in1, units_deeper, Around.mark_units, units_caller]); (try dsimp only [ktrTop]); (first | (rw [hcL9_w]; decide) | omega)) | ktr_units))
  (k_with "mine room" => (first | ((simp +zetaDelta only [depth_under_make, depth_under_kw, depth_in1, depth_deeper, depth_caller]); (try dsimp only [ktrTop]); (first | decide | omega)) | ktr_room))
  (k_with "mine fold" => ((fail_if_success (fail_if_success k_fold)); refine (let qk := _; let ek := _; (?_ : wpAny _ _ _ qk ek _))))
  (k_with "execs cons" => (k_here; (try walk_at "mine fold"); (try walk_at "mine state"); (with_reducible refine wpAny_execs_cons ?_); (try dsimp only); (try walk_at "mine fold")))
  (k_with "storeName" => (k_here; k_dflt (refine' storeX_L ?F ?N ?_ ?a ?b; (case F => k_asm); (case N => k_asm); (case a => rfl); (case b => rfl); k_whole; intro h9_w F9_w N9_w; (try k_sweep); (try dsimp only at F9_w); (first | (rename Mine.NoFold => nf9_w) | ((refine (let mm := _; (fun (F8 : Fr _ _ _ mm) => ?_) F9_w)); clear F9_w)))))
  (k_with "mine shut" => (refine (let gk : Prop := _; (?_ : gk))))
  (k_with "mine open" => (show wpAny _ _ _ _ _ _))
  (k_with "mine foldq" => ((fail_if_success (fail_if_success k_fold)); refine (let qk := _; (?_ : wpAny _ _ _ qk _ _))))
  (k_with "eval BinOp" => (k_here; walk_at "mine foldq"))
  (k_with "eval Call" => (k_here; walk_at "mine foldq"))
  (k_with "eval Subscript" => (k_here; walk_at "mine foldq"))
  (k_with "isTrue Compare" => (k_here; walk_at "mine foldq"))
  (k_with "isTrue BoolOp" => (k_here; walk_at "mine foldq"))
  (k_with "eval List" => (k_here; walk_at "mine foldq"))
  (k_with "eval Tuple" => (k_here; walk_at "mine foldq"))
  (k_with "eval Compare" => (k_here; walk_at "mine foldq"))
  (k_with "eval BoolOp" => (k_here; walk_at "mine foldq"))
  (k_with "callWith ref" => (k_here; k_dflt (first | (refine' callWith_K ?k1 ?k2 ?_; (case k1 => k_asm); (case k2 => k_is); k_whole) | (refine' callWith_K0 ?k1 ?k2 ?_; (case k1 => k_in); (case k2 => k_is); k_whole))))
  (k_with "call builtin:list.append" => (k_here; (with_reducible show wpAny _ _ (call (Value.builtin _) [Value.ref _, Value.int _ _]) _ _ _); k_dflt (refine' append_K ?k1 ?k2 ?k3 ?_ ?z; (case k1 => k_asm); (case k2 => k_asm); (case k3 => k_upd); (case z => (first | exact Nat.le_of_ble_eq_true rfl | size_fits)); k_whole); intro h9_w F9_w N9_w; (try k_sweep)))
  trivial
namespace Mine
open PySem.Calls PySem.Spec

def TJ {σ : Type} (Le : σ → Led) (ps : σ → List (Str × Value)) (stored : List Str) (m₀ : Str → Option Value) (P : σ → Prop) (m : Str → Option Value) (nx : Led) : Prop :=
  ∃ c : σ, nx = Le c ∧ (∀ p ∈ ps c, m p.1 = some p.2) ∧ (∀ z, (∀ p ∈ ps c, z ≠ p.1) → stored.contains z = false → m z = m₀ z) ∧ P c
def TurnEnd (h₀ : Heap) (L : Addr) (J : (Str → Option Value) → Led → Prop) (own : Led) (s₁ s₂ : Shared) : Prop :=
  ∃ h' tk m' nx all, s₂ = { s₁ with heap := h', toks := tk } ∧ Fr h₀ L h' m' ∧ News h₀ L h' all ∧ (∀ p ∈ nx, p ∈ all) ∧ (∀ p ∈ own, p ∈ all) ∧ OwnOff own (nx.map (·.1)) ∧ J m' nx
def TurnPost (h₀ : Heap) (L : Addr) (J : (Str → Option Value) → Led → Prop) (own : Led) (s₁ : Shared) (Q : Flow → Shared → Prop) (f : Flow) (s₂ : Shared) : Prop :=
  match f with
  | .ret v => Q (.ret v) s₂
  | .brk => Q .next s₂
  | _ => TurnEnd h₀ L J own s₁ s₂

abbrev tmap (ps : List (Str × Value)) (stored : List Str) (u m₀ : Str → Option Value) : Str → Option Value := kstB (fun z => if stored.contains z then u z else m₀ z) ps

theorem tmap_eq {ps : List (Str × Value)} {stored : List Str} {m₁ m₀ : Str → Option Value} (h1 : ∀ p ∈ ps, m₁ p.1 = some p.2) (h2 : ∀ z, (∀ p ∈ ps, z ≠ p.1) → stored.contains z = false → m₁ z = m₀ z) : tmap ps stored m₁ m₀ = m₁ := by
  funext y
  refine kstB_eq h1 fun hn => ?_
  show (if stored.contains y = true then m₁ y else m₀ y) = m₁ y
  cases h3 : stored.contains y with
  | true => simp
  | false => simp only [Bool.false_eq_true, if_false]; exact (h2 y hn h3).symm

theorem turnEnd {σ : Type} {Le : σ → Led} {ps : σ → List (Str × Value)} {stored : List Str} {m₀ : Str → Option Value} {P : σ → Prop} (c : σ) {h₀ : Heap} {L : Addr} {m' : Str → Option Value} {own all : Led} {s₁ : Shared} {h' : Heap} {tk : Nat}
    (F : Fr h₀ L h' m') (N : News h₀ L h' all) (hn : ∀ p ∈ Le c, p ∈ all) (ho : ∀ p ∈ own, p ∈ all) (hoff : OwnOff own ((Le c).map (·.1))) (hk : ∀ p ∈ ps c, m' p.1 = some p.2)
    (hr : ∀ z, (∀ p ∈ ps c, z ≠ p.1) → stored.contains z = false → m' z = m₀ z) (hp : P c) : TurnEnd h₀ L (TJ Le ps stored m₀ P) own s₁ { s₁ with heap := h', toks := tk } :=
  ⟨h', tk, m', Le c, all, rfl, F, N, hn, ho, hoff, c, rfl, hk, hr, hp⟩

section
variable {prog : Program} {w : World} {A : Around} {E : Value → Shared → Prop} {s : Shared} {env : Env} {h₀ : Heap} {target : Expr} {body : List Stmt} {Q : Flow → Shared → Prop}

theorem turnsS {σ : Type} {I : Addr} {fp wr : List Addr} {n : Nat} {Pv Md : Nat → Value → Heap → Prop} {St : Nat → Heap → Prop} {m₀ : Str → Option Value}
    (W : KTurns prog w A target I fp wr n Pv Md St) (Le : σ → Led) (ps : σ → List (Str × Value)) (stored : List Str) (P : Nat → σ → Prop) (c₀ : σ) (Ok : Led → Prop)
    (hlive : ∀ i h, St i h → ∃ its : Led, its.map (·.1) = wr ∧ (∀ p ∈ its, h.get? p.1 = some p.2) ∧ Ok its) (hfix : ∀ b ∈ fp, b ∉ wr → h₀.get? b = none → ∃ o, ∀ c, (b, o) ∈ Le c)
    (hL : env.locals ∉ fp) (hwr : ∀ b ∈ wr, h₀.get? b = none) (hst : St 0 s.heap) (F : Fr h₀ env.locals s.heap m₀) (N : News h₀ env.locals s.heap (Le c₀)) (hnw : ∀ p ∈ Le c₀, p.1 ∉ wr)
    (hk : ∀ p ∈ ps c₀, m₀ p.1 = some p.2) (hp : P 0 c₀)
    (turn : ∀ i v c u h tk its, i < n → Pv i v h → P i c → its.map (·.1) = wr → Ok its → OwnOff its ((Le c).map (·.1)) → Fr h₀ env.locals h (tmap (ps c) stored u m₀) → News h₀ env.locals h (Le c ++ its) →
      wpAny (model prog w) A (assign target env v) (fun _ s₃ => wpAny (model prog w) A (execs body env) (TurnPost h₀ env.locals (TJ Le ps stored m₀ (P (i + 1))) its { s with heap := h, toks := tk } Q) E s₃) E { s with heap := h, toks := tk })
    (done : ∀ c u h tk, P n c → Fr h₀ env.locals h (tmap (ps c) stored u m₀) → News h₀ env.locals h (Le c) → Q .next { s with heap := h, toks := tk }) :
    TurnsAt prog w A h₀ env target body Q E (.ref I) s := by
  refine ⟨I, fp, wr, n, Pv, Md, St, m₀, Le c₀, (fun i m nx => TJ Le ps stored m₀ (P i) m nx), rfl, W, hL, hwr, hnw, hst, F, N, ⟨c₀, rfl, hk, fun _ _ _ => rfl, hp⟩, ?_, ?_⟩
  · rintro i v m₁ news₁ h₁ tk₁ own hi hPv ⟨c, rfl, h1, h2, hP⟩ hoff hown hget hall hst₁ F₁ N₁
    rw [← tmap_eq h1 h2] at F₁
    refine (let gk : Prop := _; (?_ : gk))
    obtain ⟨its, hits, hitg, hok⟩ := hlive (i + 1) h₁ hst₁
    unfold gk
    clear gk
    have hsep : OwnOff its ((Le c).map (·.1)) := by
      intro p hp b hb e
      obtain ⟨q, hq, rfl⟩ := List.mem_map.mp hb
      have : p.1 ∈ wr := hits ▸ List.mem_map.mpr ⟨p, hp, rfl⟩
      exact hoff q hq (e ▸ this)
    have N₂ : News h₀ env.locals h₁ (Le c ++ its) := fun p hp => by
      rcases List.mem_append.mp hp with hp | hp
      · exact N₁ p (List.mem_append_right _ hp)
      · have hw : p.1 ∈ wr := hits ▸ List.mem_map.mpr ⟨p, hp, rfl⟩
        exact N₁ p (List.mem_append_left _ (hall _ (W.sub _ hw) (hwr _ hw) p.2 (hitg p hp)))
    refine wpAny_mono (turn i v c m₁ h₁ tk₁ its hi hPv hP hits hok hsep F₁ N₂) (fun _ s₃ h₃ => wpAny_mono h₃ (fun f s₂ p => ?_) fun _ _ e => e) fun _ _ e => e
    have fin : TurnEnd h₀ env.locals (TJ Le ps stored m₀ (P (i + 1))) its { s with heap := h₁, toks := tk₁ } s₂ → LoopStepU h₀ env.locals wr own (fun m nx => TJ Le ps stored m₀ (P (i + 1)) m nx) { s with heap := h₁, toks := tk₁ } .next s₂ := by
      rintro ⟨h', tk, m', nx, all, e, F', N', hn, ho, ha, hJ⟩
      refine ⟨rfl, h', tk, m', nx, e, F', fun p hp => ?_, fun p hp hw => ?_, hJ⟩
      · rcases List.mem_append.mp hp with h | h
        · by_cases hw : p.1 ∈ wr
          · rw [← hits] at hw
            refine (let gk : Prop := _; (?_ : gk))
            obtain ⟨q, hq, hqe⟩ := List.mem_map.mp hw
            unfold gk
            clear gk
            have e3 : p = q := Prod.ext hqe.symm (Option.some.inj ((hget p h).symm.trans (hqe ▸ hitg q hq)))
            exact e3 ▸ N' q (ho q hq)
          · obtain ⟨o, hc⟩ := hfix p.1 (hown p h) hw (N₁ p (List.mem_append_left _ h)).2.2
            have e1 := (N₁ _ (List.mem_append_right _ (hc c))).1
            have e2 := hget p h
            have e3 : p = (p.1, o) := Prod.ext rfl (Option.some.inj (e2.symm.trans e1))
            obtain ⟨c', rfl, _⟩ := hJ
            rw [e3]
            exact N' _ (hn _ (hc c'))
        · exact N' p (hn p h)
      · rw [← hits] at hw
        refine (let gk : Prop := _; (?_ : gk))
        obtain ⟨q, hq, hqe⟩ := List.mem_map.mp hw
        unfold gk
        clear gk
        exact ha _ hq p.1 (List.mem_map.mpr ⟨p, hp, rfl⟩) hqe
    cases f with
    | ret v => exact .ret p
    | brk => exact .brk p
    | next => exact .next (fin p)
    | cont => exact .cont (fin p)
  · rintro h' tk m' news' F' N' _ ⟨c, rfl, h1, h2, hP⟩
    rw [← tmap_eq h1 h2] at F'
    exact done c m' h' tk hP F' N'

theorem new_none {h : Heap} {L : Addr} {m : Str → Option Value} (F : Fr h₀ L h m) {b : Addr} (hb : h.objs.size ≤ b) : h₀.get? b = none := by
  cases e : h₀.get? b with
  | none => rfl
  | some o => exact absurd (Heap.lt_size (F.keep _ _ e)) (Nat.not_lt.mpr hb)

theorem its_one {its : Led} {I : Addr} {c : String} (h : its.map (·.1) = [I]) (ok : ∀ p ∈ its, p.2.cls = .type c) : ∃ o : Obj, its = [(I, o)] ∧ o.cls = .type c := by
  cases its with
  | nil => cases h
  | cons p r =>
    obtain ⟨a, o⟩ := p
    cases r with
    | nil =>
      have e : a = I := by simpa using h
      subst e
      exact ⟨o, rfl, ok _ (.head _)⟩
    | cons q r' => simp at h

/-- for x in bytes -/
theorem turns_bytes {σ : Type} {b : Array UInt8} {tb : Tok} {x : Str} {px : Pos} {m₀ : Str → Option Value} (Le : σ → Led) (ps : σ → List (Str × Value)) (stored : List Str) (P : Nat → σ → Prop) (c₀ : σ)
    (hh : A.handled = none) (F : Fr h₀ env.locals s.heap m₀) (N : News h₀ env.locals s.heap (Le c₀)) (hk : ∀ p ∈ ps c₀, m₀ p.1 = some p.2) (hp : P 0 c₀)
    (turn : ∀ i (k : Int) t c u h tk I o, (KBw.bInts b)[i]? = some k → 0 ≤ k → k < 256 → i < b.size → P i c → o.cls = .type "bytes_iterator" → OwnOff [(I, o)] ((Le c).map (·.1)) → (∀ p ∈ Le c₀, p.1 < I) → Fr h₀ env.locals h (tmap (ps c) stored u m₀) → News h₀ env.locals h (Le c ++ [(I, o)]) →
      wpAny (model prog w) A (assign (.Name x px) env (.int k t)) (fun _ s₃ => wpAny (model prog w) A (execs body env) (TurnPost h₀ env.locals (TJ Le ps stored m₀ (P (i + 1))) [(I, o)] { s with heap := h, toks := tk } Q) E s₃) E { s with heap := h, toks := tk })
    (done : ∀ c u h tk, P b.size c → Fr h₀ env.locals h (tmap (ps c) stored u m₀) → News h₀ env.locals h (Le c) → Q .next { s with heap := h, toks := tk }) :
    wpAny (model prog w) A (pyIter (.bytes b tb)) (fun it s₂ => TurnsAt prog w A h₀ env (.Name x px) body Q E it s₂) E s := by
  refine KBw.pyIter_bytes ?_
  have W := KTurns.ofWalks (target := .Name x px) (KBw.walks (prog := prog) (w := w) hh s.heap.objs.size b tb) fun i v s Q E st q => wpAny_pure q
  refine turnsS W Le ps stored P c₀ (fun its => ∀ p ∈ its, p.2.cls = .type "bytes_iterator") ?_ ?_ ?_ ?_ ⟨_, Heap.get?_push_size _ rfl, rfl, rfl⟩ (F.push _) (fun p hp => ⟨Heap.get?_push_of_some _ (N p hp).1, (N p hp).2⟩) ?_ hk hp ?_ ?_
  · rintro i h ⟨o, ho, hc, _⟩
    exact ⟨[(_, o)], rfl, fun p hp => by rw [List.mem_singleton.mp hp]; exact ho, fun p hp => by rw [List.mem_singleton.mp hp]; exact hc⟩
  · intro b' hb hw; exact absurd hb hw
  · intro hm; exact absurd F.ns.lt ((List.mem_singleton.mp hm) ▸ Nat.lt_irrefl _)
  · intro b' hb; rw [List.mem_singleton.mp hb]; exact next_is_new F
  · intro p hp hI; exact absurd (Heap.lt_size (N p hp).1) ((List.mem_singleton.mp hI) ▸ Nat.lt_irrefl _)
  · rintro i v c u h tk its hi ⟨n, t, hn, rfl⟩ hP hits hok hoff F₁ N₁
    obtain ⟨o, rfl, ho⟩ := its_one hits hok
    have hn' := KBw.ints_get hn
    have hb := KBw.ints_in (List.mem_of_getElem? hn')
    exact turn i _ t c u h tk _ o hn' hb.1 hb.2 hi hP ho hoff (fun p hp => Heap.lt_size (N p hp).1) F₁ N₁
  · exact fun c u h tk hP F' N' => done c u h tk hP F' N'
end
end Mine
theorem Mine.words_P02 : True := by
  (k_with "exec For Name Name cons nil" => (k_here; (rename Fr _ _ _ _ => lF'_w); (with_unfolding_all refine' For_turns lF'_w ?_; k_whole)))
  (k_with "TurnPost" => (dsimp only [Mine.TurnPost]))
  (k_with "mine same" => (intro z_w h2_w h3_w; (try simp only [List.forall_mem_cons, List.not_mem_nil, false_implies, implies_true, and_true, ne_eq] at h2_w); have h4_w := h3_w; (simp only [List.contains_cons, List.contains_nil, Bool.or_false, Bool.or_eq_false_iff, beq_eq_false_iff_ne, ne_eq] at h4_w); (simp +zetaDelta [Mine.tmap, kstB, h2_w, h3_w, h4_w]; done)))
  (k_with "mine off" => ((try simp only [List.map_cons, List.map_nil, List.map_append]); assumption))
  trivial
namespace Mine
theorem figure_worth_spec (w : World) (code : Int) (t : Tok) : MSpec w 84 1 [.int code t] [] [] (fun r n => n = [] ∧ ∃ t, r = .int (figureWorth code) t) := by
  refine' MSpec.of_body [(Str.ofString "code", .int code t)] ?ho ?hcd ?hb ?hl ?hc ?h1 ?h2 ?h3 ?_
  walk_at "mine body"
  intro dp un gd cn cs L a ccd cl outer base g L' h₁ s tk p loose mean mg mb hd hu B F N X T lt hrd
  walk_at "mine go"
  k_steps
  all_goals (refine Back.intro [] (by k_asm) (by k_asm) (fun _ h => nomatch h) ⟨rfl, ?_⟩; (try dsimp only); unfold figureWorth; (repeat' split) <;> first | exact ⟨_, rfl⟩ | (exfalso; omega))

theorem is_white_spec (w : World) (code : Int) (t : Tok) : MSpec w 29 1 [.int code t] [] [] (fun r n => n = [] ∧ r = .bool (isWhite code)) := by
  refine' MSpec.of_body [(Str.ofString "code", .int code t)] ?ho ?hcd ?hb ?hl ?hc ?h1 ?h2 ?h3 ?_
  walk_at "mine body"
  intro dp un gd cn cs L a ccd cl outer base g L' h₁ s tk p loose mean mg mb hd hu B F N X T lt hrd
  walk_at "mine go"
  k_steps
  all_goals exact Back.intro [] (by k_asm) (by k_asm) (fun _ h => nomatch h) ⟨rfl, rfl⟩
end Mine
namespace Mine
open PySem.Calls PySem.Spec PySem.W PyProof.Rows
section
variable {w : World} {code : Int} {t : Tok} {news : Led}
    {dp un : Nat} {gd : Option (List Code)} {cn : Str} {cs : Scope} {a : Addr} {ccd : Value} {cl : List (Str × Addr)} {outer : List Env} {A₀ : Around} {base h₀ : Heap} {L : Addr} {m : Str → Option Value} {s : Shared} {Q E : Value → Shared → Prop}
    {p : Program} {loose : List Str} {mean : ExcName → Option Value} {mg mb : Str → Option Value}
theorem figure_worth_use (B : Below A₀ base outer h₀) (F : Fr h₀ L s.heap m) (X : (hd.heap_1 w.params).In h₀) (N : News h₀ L s.heap news) (T : Top p loose mean mg mb h₀) (hk : cs.kind = .function)
    (hr : dp + 1 < recursionLimit) (hu : un + 8 * 1 < cLine) (ret : ∀ t h' tk', Fr h₀ L h' m → News h₀ L h' news → Q (.int (figureWorth code) t) { s with heap := h', toks := tk' }) :
      wpAny (model PySem.Challenge.rw_nn0196_01.row.prog w) (ktrTop dp un gd cn cs L a ccd cl outer) (call (.ref 84) [.int code t]) Q E s :=
  MSpec.use (figure_worth_spec w code t) B F X N T hk hr hu (fun _ h => nomatch h) (fun r n' h' tk' F' N' _ hp => by
    obtain ⟨rfl, t9, rfl⟩ := hp
    exact ret t9 h' tk' F' N')
theorem is_white_use (B : Below A₀ base outer h₀) (F : Fr h₀ L s.heap m) (X : (hd.heap_1 w.params).In h₀) (N : News h₀ L s.heap news) (T : Top p loose mean mg mb h₀) (hk : cs.kind = .function)
    (hr : dp + 1 < recursionLimit) (hu : un + 8 * 1 < cLine) (ret : ∀ h' tk', Fr h₀ L h' m → News h₀ L h' news → Q (.bool (isWhite code)) { s with heap := h', toks := tk' }) :
      wpAny (model PySem.Challenge.rw_nn0196_01.row.prog w) (ktrTop dp un gd cn cs L a ccd cl outer) (call (.ref 29) [.int code t]) Q E s :=
  MSpec.use (is_white_spec w code t) B F X N T hk hr hu (fun _ h => nomatch h) (fun r n' h' tk' F' N' _ hp => by
    obtain ⟨rfl, rfl⟩ := hp
    exact ret h' tk' F' N')
end
end Mine
theorem Mine.words_P02b : True := by
  (k_with "call ref" => (k_here; (with_reducible show wpAny _ _ (call (Value.ref 84) [Value.int _ _]) _ _ _); (try walk_at "mine fold"); k_dflt (refine' Mine.figure_worth_use ?B ?F ?X ?N ?T ?K ?R ?U ?_); walk_at "mine call"; intro t9_w h'_w tk9_w F'_w N'_w; (try k_sweep); (try dsimp only); (try k_fold)))
  (k_with "call ref" => (k_here; (with_reducible show wpAny _ _ (call (Value.ref 29) [Value.int _ _]) _ _ _); (try walk_at "mine fold"); k_dflt (refine' Mine.is_white_use ?B ?F ?X ?N ?T ?K ?R ?U ?_); walk_at "mine call"; intro h'_w tk9_w F'_w N'_w; (try k_sweep); (try dsimp only); (try k_fold)))
  trivial
namespace Mine
def fig (n : Int) : Int := [48, 49, 50, 51, 52, 53, 54, 55, 56, 57, 65, 66, 67, 68, 69, 70].getD n.toNat 0
def hexStep (width : Int) (marks : List Int) (f : Int) : List Int :=
  if 0 < width ∧ ((marks.length : Int) + 1 + 1).fmod (width + 1) = 0 then marks ++ [f, 10] else marks ++ [f]
def hexOct (width : Int) (marks : List Int) (o : Int) : List Int := hexStep width (hexStep width marks (fig (o.fdiv 16))) (fig (o.fmod 16))
def hexEnc (octs : List Int) (width : Int) : List Int := octs.foldl (hexOct width) [] ++ [62]

theorem getD_u8 (l : List UInt8) (k : Nat) : ((l.getD k 0).toNat : Int) = (l.map fun c => (c.toNat : Int)).getD k 0 := by
  induction l generalizing k with
  | nil => rfl
  | cons c r ih => cases k with
    | zero => rfl
    | succ k => simpa using ih k
theorem fig_u8 (n : Int) : ((([48, 49, 50, 51, 52, 53, 54, 55, 56, 57, 65, 66, 67, 68, 69, 70] : List UInt8).getD n.toNat 0).toNat : Int) = fig n := getD_u8 _ _
theorem take_succ_of {α : Type} {l : List α} {i : Nat} {k : α} (h : l[i]? = some k) : l.take (i + 1) = l.take i ++ [k] := by simp [List.take_add_one, h]
theorem hexOct_length (width : Int) (m : List Int) (o : Int) : (hexOct width m o).length ≤ m.length + 4 := by
  unfold hexOct hexStep
  (repeat' split) <;> simp only [List.length_append, List.length_cons, List.length_nil] <;> omega
theorem bInts_byteArr {ns : List Int} (h : KBa.In ns) : KBw.bInts (byteArr ns) = ns := by
  unfold byteArr
  rw [KBw.ints_list, List.map_map]
  refine (List.map_congr_left fun n hn => ?_).trans (List.map_id _)
  exact byte_back (h n hn).1 (h n hn).2
theorem fig_in (n : Int) : 0 ≤ fig n ∧ fig n < 256 := by
  unfold fig
  generalize n.toNat = k
  by_cases h : k < 16
  · have : ∀ k : Fin 16, 0 ≤ ([48, 49, 50, 51, 52, 53, 54, 55, 56, 57, 65, 66, 67, 68, 69, 70] : List Int).getD k.val 0 ∧ ([48, 49, 50, 51, 52, 53, 54, 55, 56, 57, 65, 66, 67, 68, 69, 70] : List Int).getD k.val 0 < 256 := by decide
    exact this ⟨k, h⟩
  · rw [List.getD_eq_getElem?_getD, List.getElem?_eq_none (by simpa using Nat.le_of_not_lt h)]; decide
theorem hexStep_in {w : Int} {m : List Int} {f : Int} (hm : KBa.In m) (hf : 0 ≤ f ∧ f < 256) : KBa.In (hexStep w m f) := by
  unfold hexStep
  intro n hn
  split at hn
  · rcases List.mem_append.mp hn with h | h
    · exact hm n h
    · simp at h; rcases h with rfl | rfl; exact hf; decide
  · rcases List.mem_append.mp hn with h | h
    · exact hm n h
    · simp at h; subst h; exact hf
theorem hexFold_in (w : Int) : ∀ (l m : List Int), KBa.In m → KBa.In (l.foldl (hexOct w) m)
  | [], _, h => h
  | o :: r, m, h => hexFold_in w r _ (hexStep_in (hexStep_in h (fig_in _)) (fig_in _))
theorem hexEnc_in (w : Int) (l : List Int) : KBa.In (l.foldl (hexOct w) [] ++ [62]) := by
  intro n hn
  rcases List.mem_append.mp hn with h | h
  · exact hexFold_in w l [] (fun _ h => nomatch h) n h
  · simp at h; subst h; decide
theorem hs_n {w : Int} {m : List Int} {f : Int} (h : ¬ 0 < w) : m ++ [f] = hexStep w m f := (if_neg (fun x => h x.1)).symm
theorem hs_f {w : Int} {m : List Int} {f : Int} (h : (((m.length + 1 : Nat) : Int) + 1).fmod (w + 1) ≠ 0) : m ++ [f] = hexStep w m f := (if_neg (fun x => h x.2)).symm
theorem hs_t {w : Int} {m : List Int} {f : Int} (h0 : 0 < w) (h : (((m.length + 1 : Nat) : Int) + 1).fmod (w + 1) = 0) : m ++ [f] ++ [10] = hexStep w m f := by
  unfold hexStep; rw [if_pos ⟨h0, h⟩, List.append_assoc]; rfl
/-- a statement whose ways meet behind it -/
def StEnd {σ : Type} (R : σ → Prop) (Le : σ → Led) (h₀ : Heap) (L : Addr) (m : Str → Option Value) (s : Shared) (fl : Flow) (s' : Shared) : Prop :=
  fl = .next ∧ ∃ c h tk, R c ∧ s' = { s with heap := h, toks := tk } ∧ Fr h₀ L h m ∧ News h₀ L h (Le c)
theorem StEnd.of {σ : Type} {R : σ → Prop} {Le : σ → Led} {h₀ h : Heap} {L : Addr} {m : Str → Option Value} {s : Shared} {tk : Nat} {all : Led} (c : σ) (F : Fr h₀ L h m) (N : News h₀ L h all) (sub : ∀ p ∈ Le c, p ∈ all) (hr : R c) :
    StEnd R Le h₀ L m s .next { s with heap := h, toks := tk } := ⟨rfl, c, h, tk, hr, rfl, F, fun p hm => N p (sub p hm)⟩
theorem stmt_join {M : Model} {A : Around} {E : Value → Shared → Prop} {s : Shared} {env : Env} {h₀ : Heap} {L : Addr} {m : Str → Option Value} {st : Stmt} {Q : Flow → Shared → Prop} {σ : Type} (R : σ → Prop) (Le : σ → Led)
    (_F : Fr h₀ L s.heap m) (h1 : wpAny M A (exec st env) (StEnd R Le h₀ L m s) E s)
    (h2 : ∀ c h tk, R c → Fr h₀ L h m → News h₀ L h (Le c) → Q .next { s with heap := h, toks := tk }) : wpAny M A (exec st env) Q E s :=
  wpAny_mono h1 (fun fl s' hk => by obtain ⟨rfl, c, h, tk, hr, rfl, F, N⟩ := hk; exact h2 c h tk hr F N) fun _ _ h => h
theorem stmt_join3 {M : Model} {A : Around} {E : Value → Shared → Prop} {s : Shared} {env : Env} {h₀ : Heap} {L l : Addr} {o : Obj} {p1 p2 : Addr × Obj} {rest : Led} {m : Str → Option Value} {st : Stmt} {Q : Flow → Shared → Prop} {σ : Type} (R : σ → Prop) (ob : σ → Obj)
    (F : Fr h₀ L s.heap m) (_N : News h₀ L s.heap (p1 :: p2 :: (l, o) :: rest)) (h1 : wpAny M A (exec st env) (StEnd R (fun c => p1 :: p2 :: (l, ob c) :: rest) h₀ L m s) E s)
    (h2 : ∀ c h tk, R c → Fr h₀ L h m → News h₀ L h (p1 :: p2 :: (l, ob c) :: rest) → Q .next { s with heap := h, toks := tk }) : wpAny M A (exec st env) Q E s := stmt_join R _ F h1 h2
def StopIf : Prop := (8 : Nat) = 8
theorem stopIf : StopIf := rfl
theorem lookup_fd {K : Frag} {f : Addr} {fd fd' : FuncData} {oc oc' : Value} {od od' : Option Addr} {osl osl' : Array (Option Value)} (e : K.lookup f = some ⟨oc, od, .func fd, osl⟩) (e' : K.lookup f = some ⟨oc', od', .func fd', osl'⟩) : fd' = fd := by
  rw [e] at e'; cases e'; rfl
theorem words_P03x : True := by
  (k_with "exec If" => (k_here; (rename Mine.StopIf => st9_w); clear st9_w; refine Mine.Lock.out ?_))
  trivial
set_option maxHeartbeats 4000000 in
theorem hex_encoded_gen (w : World) (b : Array UInt8) (t : Tok) (width : Int) (t2 : Tok) (hb : b.size ≤ 1000) (hw0 : 0 ≤ width) (hw1 : width < 1000) (vs : List Value)
    (hbi : ∀ s : Shared, (hd.heap_1 w.params).In s.heap → ∀ (fd : FuncData) (oc : Value) (od : Option Addr) (osl : Array (Option Value)), (hd.heap_1 w.params).lookup 77 = some ⟨oc, od, .func fd, osl⟩ → BindsTo s fd ⟨vs, []⟩ [(Str.ofString "octets", .bytes b t), (Str.ofString "width", .int width t2)]) :
    MSpec w 77 3 vs [] [] (fun r n => n = [] ∧ ∃ t b', r = .bytes b' t ∧ KBw.bInts b' = hexEnc (KBw.bInts b) width) := by
  refine' MSpec.of_body [(Str.ofString "octets", .bytes b t), (Str.ofString "width", .int width t2)] ?ho ?hcd ?hb ?hl ?hc ?h1 ?h2 ?h3 ?_
  (case hb => exact fun s X => hbi s X _ _ _ _ (by k_is))
  walk_at "mine body"
  intro dp un gd cn cs L a ccd cl outer base g L' h₁ s tk p loose mean mg mb hd hu B F N X T lt hrd
  have kM := kstMark
  walk_at "mine go"
  k_steps
  (rename Fr _ _ _ _ => F1)
  (rename News _ _ _ _ => N1)
  refine turns_bytes (σ := List Value × List Int × Nat) (fun c => [(_, listOf c.1.toArray c.2.2)]) (fun c => []) [Str.ofString "octet", Str.ofString "figure"]
    (fun i c => IntsAre c.1 c.2.1 ∧ c.2.1 = ((KBw.bInts b).take i).foldl (hexOct width) [] ∧ c.2.1.length ≤ 4 * i) ([], [], 0) rfl F1 N1 (fun _ h => nomatch h) ⟨.nil, by simp, by simp⟩ ?_ ?_
  · clear F1 N1
    rintro i k t ⟨vs, ns, n⟩ u h tk I o hk1 hk2 hk3 hk4 hP9 ho hoff hlt F1 N1
    walk_at "mine shut"
    obtain ⟨hi1, hi2, hi3⟩ := hP9
    walk_at "mine open"
    dsimp only at hi1 hi2 hi3 hoff hlt F1 N1
    replace hlt := allLt_of hlt
    simp only [AllLt, and_true] at hlt
    simp only [List.map_cons, List.map_nil] at hoff
    simp only [List.cons_append, List.nil_append] at N1
    have hl := hi1.length
    have key : hexOct width ns k = ((KBw.bInts b).take (i + 1)).foldl (hexOct width) [] ∧ (hexOct width ns k).length ≤ 4 * (i + 1) := by
      refine ⟨by rw [take_succ_of hk1, List.foldl_append, ← hi2]; rfl, ?_⟩
      have := hexOct_length width ns k
      omega
    have st9 := stopIf
    k_steps
    refine Lock.into ?_
    (rename Fr _ _ _ _ => F2)
    (rename News _ _ _ _ => N2)
    refine stmt_join3 (σ := List Value × List Int × Nat) (fun c => IntsAre c.1 c.2.1 ∧ c.2.1 = hexStep width ns (fig (k.fdiv 16)) ∧ c.2.1.length ≤ ns.length + 2) (fun c => listOf c.1.toArray c.2.2) F2 N2 ?_ ?_
    · k_steps
      all_goals (
        (rename News _ _ _ _ => NN); (try simp only [List.push_toArray] at NN)
        refine StEnd.of ⟨_, _, _⟩ (by k_asm) NN (by kst_inAny) ⟨by k_intsEnd, ?_, ?_⟩
        · first
            | (with_reducible refine (congrArg (ns ++ [·]) (fig_u8 _)).trans (hs_n ?_); with_reducible assumption)
            | (with_reducible refine (congrArg (ns ++ [·]) (fig_u8 _)).trans (hs_f ?_); with_reducible assumption)
            | (with_reducible refine (congrArg (ns ++ [·] ++ [10]) (fig_u8 _)).trans (hs_t ?_ ?_) <;> with_reducible assumption)
        · simp only [List.length_append, List.length_cons, List.length_nil]; omega)
    clear F2 N2
    rintro ⟨vs2, ns2, n2⟩ h2 tk2 hP9 F2 N2
    walk_at "mine shut"
    obtain ⟨hj1, hj2, hj3⟩ := hP9
    walk_at "mine open"
    dsimp only at hj1 hj2 hj3 F2 N2
    have hl2 := hj1.length
    have st9 := stopIf
    k_steps
    refine Lock.into ?_
    (rename Fr _ _ _ _ => F3)
    (rename News _ _ _ _ => N3)
    refine stmt_join3 (σ := List Value × List Int × Nat) (fun c => IntsAre c.1 c.2.1 ∧ c.2.1 = hexStep width ns2 (fig (k.fmod 16))) (fun c => listOf c.1.toArray c.2.2) F3 N3 ?_ ?_
    · k_steps
      all_goals (
        (rename News _ _ _ _ => NN); (try simp only [List.push_toArray] at NN)
        refine StEnd.of ⟨_, _, _⟩ (by k_asm) NN (by kst_inAny) ⟨by k_intsEnd, ?_⟩
        first
          | (with_reducible refine (congrArg (ns2 ++ [·]) (fig_u8 _)).trans (hs_n ?_); with_reducible assumption)
          | (with_reducible refine (congrArg (ns2 ++ [·]) (fig_u8 _)).trans (hs_f ?_); with_reducible assumption)
          | (with_reducible refine (congrArg (ns2 ++ [·] ++ [10]) (fig_u8 _)).trans (hs_t ?_ ?_) <;> with_reducible assumption))
    clear F3 N3
    rintro ⟨vs3, ns3, n3⟩ h3 tk3 hP9 F3 N3
    walk_at "mine shut"
    obtain ⟨hm1, hm2⟩ := hP9
    walk_at "mine open"
    dsimp only at hm1 hm2 F3 N3
    k_steps
    (rename News _ _ _ _ => NN)
    have hm3 : ns3 = hexOct width ns k := by rw [hm2, hj2]; rfl
    exact turnEnd ⟨_, _, _⟩ (by assumption) NN (by kst_inAny) (by kst_anyIn) (by walk_at "mine off") (fun _ h => nomatch h) (by walk_at "mine same") ⟨hm1, by rw [hm3]; exact key⟩
  · clear F1 N1
    rintro ⟨vs, ns, n⟩ u h tk hP9 F1 N1
    walk_at "mine shut"
    obtain ⟨hi1, hi2, hi3⟩ := hP9
    walk_at "mine open"
    dsimp only at hi1 hi2 hi3 F1 N1
    have hl := hi1.length
    rw [List.take_of_length_le (Nat.le_of_eq (KBw.ints_length b))] at hi2
    have hin : KBa.In (ns ++ [62]) := by
      rw [hi2]; exact hexEnc_in _ _
    k_steps
    (rename Fr _ _ _ _ => F2)
    (rename News _ _ _ _ => N2)
    simp only [List.push_toArray] at N2
    refine KBa.make_K F2 N2 rfl (News.isList N2 (.head _)) (IntsAre.append hi1 (.cons _ _ .nil)) hin (by simp only [List.length_append, List.length_cons, List.length_nil]; omega) ?_
    intro h3 t3 k3 F3 N3 _
    k_steps
    exact Back.intro [] F3 N3 (fun _ h => nomatch h) ⟨rfl, _, _, rfl, by rw [bInts_byteArr hin, hi2]; rfl⟩

theorem hex_encoded_spec (w : World) (b : Array UInt8) (t : Tok) (width : Int) (t2 : Tok) (hb : b.size ≤ 1000) (hw0 : 0 ≤ width) (hw1 : width < 1000) :
    MSpec w 77 3 [.bytes b t, .int width t2] [] [] (fun r n => n = [] ∧ ∃ t b', r = .bytes b' t ∧ KBw.bInts b' = hexEnc (KBw.bInts b) width) := by
  refine hex_encoded_gen w b t width t2 hb hw0 hw1 _ ?_
  intro s X fd oc od osl e
  obtain rfl := lookup_fd e (by k_is)
  exact binds_K X rfl (by k_is) rfl rfl rfl
theorem hex_encoded_spec0 (w : World) (b : Array UInt8) (t : Tok) (hb : b.size ≤ 1000) :
    MSpec w 77 3 [.bytes b t] [] [] (fun r n => n = [] ∧ ∃ t b', r = .bytes b' t ∧ KBw.bInts b' = hexEnc (KBw.bInts b) 0) := by
  refine hex_encoded_gen w b t 0 288 hb (by decide) (by decide) _ ?_
  intro s X fd oc od osl e
  obtain rfl := lookup_fd e (by k_is)
  exact binds_K X rfl (by k_is) rfl rfl rfl
end Mine
namespace Mine
/-- for x in a list that stands (in the ground) -/
theorem turns_list {prog : Program} {w : World} {A : Around} {E : Value → Shared → Prop} {s : Shared} {env : Env} {h₀ : Heap} {target : Expr} {body : List Stmt} {Q : Flow → Shared → Prop}
    {σ : Type} {l : Addr} {vs : List Value} {m₀ : Str → Option Value} (Le : σ → Led) (ps : σ → List (Str × Value)) (stored : List Str) (P : Nat → σ → Prop) (c₀ : σ)
    (hh : A.handled = none) (hl : h₀.IsList l vs.toArray) (F : Fr h₀ env.locals s.heap m₀) (N : News h₀ env.locals s.heap (Le c₀)) (hk : ∀ p ∈ ps c₀, m₀ p.1 = some p.2) (hp : P 0 c₀)
    (turn : ∀ i v c u h tk I o, vs[i]? = some v → i < vs.length → P i c → o.cls = .type "list_iterator" → OwnOff [(I, o)] ((Le c).map (·.1)) → (∀ p ∈ Le c₀, p.1 < I) → Fr h₀ env.locals h (tmap (ps c) stored u m₀) → News h₀ env.locals h (Le c ++ [(I, o)]) →
      wpAny (model prog w) A (assign target env v) (fun _ s₃ => wpAny (model prog w) A (execs body env) (TurnPost h₀ env.locals (TJ Le ps stored m₀ (P (i + 1))) [(I, o)] { s with heap := h, toks := tk } Q) E s₃) E { s with heap := h, toks := tk })
    (done : ∀ c u h tk, P vs.length c → Fr h₀ env.locals h (tmap (ps c) stored u m₀) → News h₀ env.locals h (Le c) → Q .next { s with heap := h, toks := tk }) :
    wpAny (model prog w) A (pyIter (.ref l)) (fun it s₂ => TurnsAt prog w A h₀ env target body Q E it s₂) E s := by
  have hls : s.heap.IsList l vs.toArray := hl.at fun o e => F.keep l o e
  obtain ⟨ol, hol, _⟩ := id hl
  have hlt : l < h₀.objs.size := Heap.lt_size hol
  have hne : l ≠ s.heap.objs.size := Nat.ne_of_lt (Nat.lt_trans (Nat.lt_of_lt_of_le hlt F.above) F.ns.lt)
  refine wpAny_pyIter_list hls ?_
  have W := KTurns.ofWalks (target := target) (Walks.list (prog := prog) (w := w) hh s.heap.objs.size l hne vs.toArray) fun i v s Q E st q => letGo_listiter st.1 q
  have hsz : vs.toArray.size = vs.length := by simp
  rw [hsz] at W
  refine turnsS W Le ps stored P c₀ (fun its => ∀ p ∈ its, p.2.cls = .type "list_iterator") ?_ ?_ ?_ ?_ ⟨⟨_, Heap.get?_push_size _ rfl, rfl, rfl⟩, hls.at fun o e => Heap.get?_push_of_some _ e⟩ (F.push _) (fun p hp => ⟨Heap.get?_push_of_some _ (N p hp).1, (N p hp).2⟩) ?_ hk hp ?_ ?_
  · rintro i h ⟨⟨o, ho, hc, _⟩, _⟩
    exact ⟨[(_, o)], rfl, fun p hp => by rw [List.mem_singleton.mp hp]; exact ho, fun p hp => by rw [List.mem_singleton.mp hp]; exact hc⟩
  · intro b hb hw hn
    have hb' : b = s.heap.objs.size ∨ b = l := by simpa using hb
    rcases hb' with e | e
    · exact absurd (by simp [e]) hw
    · rw [e, hol] at hn; cases hn
  · intro hm
    rcases List.mem_cons.mp hm with e | hm
    · exact absurd F.ns.lt (e ▸ Nat.lt_irrefl _)
    · exact absurd (Nat.lt_of_lt_of_le hlt F.above) ((List.mem_singleton.mp hm) ▸ Nat.lt_irrefl _)
  · intro b' hb; rw [List.mem_singleton.mp hb]; exact next_is_new F
  · intro p hp hI; exact absurd (Heap.lt_size (N p hp).1) ((List.mem_singleton.mp hI) ▸ Nat.lt_irrefl _)
  · rintro i v c u h tk its hi hv hP hits hok hoff F₁ N₁
    obtain ⟨o, rfl, ho⟩ := its_one hits hok
    have hv' : vs.toArray[i]? = some v := hv
    exact turn i v c u h tk _ o (by simpa using hv') hi hP ho hoff (fun p hp => Heap.lt_size (N p hp).1) F₁ N₁
  · exact fun c u h tk hP F' N' => done c u h tk hP F' N'

def sum256 (ns : List Int) : Int := ns.foldl (fun t o => 256 * t + o) 0
def signs5 (t : Int) : List Int := [(((t.fdiv 85).fdiv 85).fdiv 85).fdiv 85 |>.fmod 85, ((t.fdiv 85).fdiv 85).fdiv 85 |>.fmod 85, ((t.fdiv 85).fdiv 85).fmod 85, (t.fdiv 85).fmod 85, t.fmod 85]

theorem ints_at {vs : List Value} {ns : List Int} (hi : IntsAre vs ns) {i : Nat} {v : Value} (h : vs[i]? = some v) : ∃ k t, ns[i]? = some k ∧ v = .int k t := by
  have hlt : i < ns.length := by
    rw [← hi.length]
    exact (List.getElem?_eq_some_iff.mp h).1
  obtain ⟨t, ht⟩ := hi.get i ns[i] (List.getElem?_eq_getElem hlt)
  rw [h] at ht
  exact ⟨_, t, List.getElem?_eq_getElem hlt, Option.some.inj ht⟩
theorem pow256 {i : Nat} (h : i < 4) : (256 : Int) ^ i ≤ 16777216 ∧ (256 : Int) ^ (i + 1) = 256 * 256 ^ i := by
  refine ⟨?_, by rw [Int.pow_succ, Int.mul_comm]⟩
  have : ∀ k : Fin 4, (256 : Int) ^ k.val ≤ 16777216 := by decide
  exact this ⟨i, h⟩
theorem signs_of_group_spec (w : World) (l : Addr) (vs : List Value) (ns : List Int) (n : Nat) (hi : IntsAre vs ns) (hlen : ns.length = 4) (hin : KBa.In ns) :
    MSpec w 96 2 [.ref l] [(l, listOf vs.toArray n)] [] (fun r n => ∃ l' vs' n', r = .ref l' ∧ n = [(l', listOf vs'.toArray n')] ∧ IntsAre vs' (signs5 (sum256 ns))) := by
  refine' MSpec.of_body [(Str.ofString "group", .ref l)] ?ho ?hcd ?hb ?hl ?hc ?h1 ?h2 ?h3 ?_
  walk_at "mine body"
  intro dp un gd cn cs L a ccd cl outer base g L' h₁ s tk p loose mean mg mb hd hu B F N X T lt hrd
  have kM := kstMark
  have hl : g.IsList l vs.toArray := ⟨_, hrd _ (.head _), rfl, _, rfl⟩
  walk_at "mine go"
  k_steps
  (rename Fr _ _ _ _ => F1)
  (rename News _ _ _ _ => N1)
  refine turns_list (σ := Int × Tok) (fun c => []) (fun c => [(Str.ofString "total", .int c.1 c.2)]) [Str.ofString "octet"]
    (fun i c => c.1 = (ns.take i).foldl (fun t o => 256 * t + o) 0 ∧ 0 ≤ c.1 ∧ c.1 < 256 ^ i) (0, _) rfl hl F1 N1 (by kst_all) ⟨by simp, by simp, by simp⟩ ?_ ?_
  · clear F1 N1
    rintro i v ⟨tot, tt⟩ u h tk I o hv hlt hP9 ho hoff _ F1 N1
    walk_at "mine shut"
    obtain ⟨hp1, hp2, hp3⟩ := hP9
    walk_at "mine open"
    obtain ⟨k, t, hk, rfl⟩ := ints_at hi hv
    dsimp only at hp1 hp2 hp3 F1 N1
    simp only [List.nil_append] at N1
    have hkin := hin k (List.mem_of_getElem? hk)
    rw [hi.length, hlen] at hlt
    have hpw := pow256 hlt
    have key : 256 * tot + k = (ns.take (i + 1)).foldl (fun t o => 256 * t + o) 0 ∧ 0 ≤ 256 * tot + k ∧ 256 * tot + k < 256 ^ (i + 1) := by
      refine ⟨by rw [take_succ_of hk, List.foldl_append, ← hp1]; rfl, by omega, by omega⟩
    k_steps
    (rename News _ _ _ _ => NN)
    exact turnEnd ⟨_, _⟩ (by assumption) NN (by kst_inAny) (by kst_anyIn) (by walk_at "mine off") (by kst_all) (by walk_at "mine same") key
  · clear F1 N1
    rintro ⟨tot, tt⟩ u h tk hP9 F1 N1
    walk_at "mine shut"
    obtain ⟨hp1, hp2, hp3⟩ := hP9
    walk_at "mine open"
    rw [List.take_of_length_le (Nat.le_of_eq hi.length.symm)] at hp1
    rw [hi.length, hlen] at hp3
    dsimp only at hp1 hp2 hp3 F1 N1
    k_steps
    dsimp only
    (rename News _ _ _ _ => NN)
    refine Back.intro [_] (by k_asm) NN (List.forall_mem_cons.mpr ⟨.head _, List.forall_mem_nil _⟩) ⟨_, _, _, rfl, rfl, ?_⟩
    rw [show sum256 ns = tot from hp1.symm]
    repeat constructor
end Mine
theorem Mine.words_P04 : True := by
  (k_with "exec For Name Call cons nil" => (k_here; (first | (with_reducible show wpAny _ _ (exec (Stmt.For (Expr.Name _ _) (Expr.Call _ [_, _, _] _ _) _ _ _) _) _ _ _) | (with_reducible show wpAny _ _ (exec (Stmt.For (Expr.Name _ _) (Expr.Call _ [_, _] _ _) _ _ _) _) _ _ _) | (with_reducible show wpAny _ _ (exec (Stmt.For (Expr.Name _ _) (Expr.Call _ [Expr.Call _ _ _ _] _ _) _ _ _) _) _ _ _)); (rename Fr _ _ _ _ => lF'_w); (with_unfolding_all refine' For_turns lF'_w ?_; k_whole)))
  trivial
namespace Mine
open PySem.Builtin
section
variable {prog : Program} {w : World} {A : Around} {E : Value → Shared → Prop} {s : Shared}

theorem extend_bytes {R : Result → Shared → Prop} (hh : A.handled = none) (b : Array UInt8) (t : Tok) (S : Addr) (res : Value) (c₀ : Nat) (acc₀ : Array Value) (hS : s.heap.get? S = some { cls := .type "list", data := .seq #[] c₀ })
    (hn : b.size ≤ sizeLine)
    (hR : ∀ h' tk acc' c', (∀ a o, a ≠ S → s.heap.get? a = some o → h'.get? a = some o) → h'.get? S = some { cls := .type "list", dict := none, data := .seq acc' c', slots := #[] } →
      ItemsOf (fun i v => ∃ n t, b[i]? = some n ∧ v = .int (n.toNat : Int) t) acc' b.size → R (.ok (.ret res)) { s with heap := h', toks := tk }) :
    wpAny (model prog w) A.in1 (Builtin.List.listExtendWith (.ref S) (.bytes b t) res)
      (fun fin s' => match fin with | .done f => R (.ok f) s' | .again c' => c'.quiet = true ∧ codeAny (model prog w) A c' R s') (fun e s' => R (.error e) s') s := by
  have hSI : S ≠ s.heap.objs.size := Nat.ne_of_lt (Heap.lt_size hS)
  have hSf : S ∉ [s.heap.objs.size] := fun hm => hSI (List.mem_singleton.mp hm)
  unfold Builtin.List.listExtendWith
  refine wpAny_bind (wpAny_typeOf (T := "bytes") (v := .bytes b t) rfl ?_)
  have h1 : Builtin.List.listSameRef (.ref S) (.bytes b t) = false := rfl
  have h2 : (Value.type "bytes" == Value.type "list") = false := by decide
  have h3 : (Value.type "bytes" == Value.type "tuple") = false := by decide
  simp only [h1, h2, h3, Bool.or_false, Bool.false_eq_true, if_false]
  refine wpAny_bind (KBw.pyIter_bytes ?_)
  refine wpAny_bind (wpAny_holding ?_)
  unfold Builtin.List.listLengthHint
  refine wpAny_bind (wpAny_specialOf (T := "bytes") (v := .bytes b t) rfl FB.slot_bytes_len.lookup ?_)
  wp_delta
  refine wpAny_bind (wpAny_isInstance (T := "bytes") (v := .bytes b t) (b := true) rfl (by rw [isSubtype_type]; kernel_rfl) ?_)
  show wpAny _ _ (typeOf (Value.bytes b t) >>= _) _ _ _
  refine wpAny_bind (wpAny_typeOf (T := "bytes") (v := .bytes b t) rfl ?_)
  refine wpAny_pure ?_
  rw [if_neg (by decide)]
  refine wpAny_pure ⟨plainId_quiet F.plain_extend_loop _, codeAny_extend_loopS (KBw.walks (prog := prog) (w := w) (A := A.in1) hh s.heap.objs.size b t).toS hn _ hSf _ b.size 0 _ _ _ rfl (Nat.zero_le _) ⟨_, Heap.get?_push_size _ rfl, rfl, rfl⟩ (Heap.get?_push_of_some _ hS) (ItemsOf.nil _) fun s' acc' c' hm hS' hacc => ?_⟩
  rw [Moved.eq_with hm]
  refine hR s'.heap s'.toks acc' c' (fun b ob hb e => hm.heap b ob (fun hmem => ?_) (Heap.get?_push_of_some _ e)) hS' hacc
  rcases List.mem_cons.mp hmem with e' | hmem
  · exact hb e'
  · exact absurd (Heap.lt_size e) (by rw [List.mem_singleton.mp hmem]; exact Nat.lt_irrefl _)

theorem list_init_bytes {R : Result → Shared → Prop} (hh : A.handled = none) (b : Array UInt8) (t : Tok) (S : Addr) (hS : s.heap.get? S = some { cls := .type "list", data := .seq #[] }) (hn : b.size ≤ sizeLine)
    (hR : ∀ h' tk acc' c', (∀ a o, a ≠ S → s.heap.get? a = some o → h'.get? a = some o) → h'.get? S = some { cls := .type "list", dict := none, data := .seq acc' c', slots := #[] } →
      ItemsOf (fun i v => ∃ n t, b[i]? = some n ∧ v = .int (n.toNat : Int) t) acc' b.size → R (.ok (.ret .none)) { s with heap := h', toks := tk }) :
    wpAny (model prog w) A.in1 (Builtin.«list.__init__» ⟨[.ref S, .bytes b t], []⟩)
      (fun fin s' => match fin with | .done f => R (.ok f) s' | .again c' => c'.quiet = true ∧ codeAny (model prog w) A c' R s') (fun e s' => R (.error e) s') s := by
  show wpAny _ _ (do let old ← Builtin.List.listItems (.ref S); Builtin.List.listUpdate (.ref S) (fun _ => #[]); letGo old.toList.reverse; Builtin.List.listExtendWith (.ref S) (.bytes b t) .none) _ _ s
  refine wpAny_bind ?_
  unfold Builtin.List.listItems
  refine wpAny_bind (wpAny_seqItems hS rfl (wpAny_pure ?_))
  show wpAny _ _ (updateSeq S (fun _ => #[]) >>= fun _ => letGo (#[] : Array Value).toList.reverse >>= fun _ => Builtin.List.listExtendWith (.ref S) (.bytes b t) .none) _ _ s
  refine wpAny_bind (wpAny_updateSeq hS rfl ?_)
  have hS₂ := Heap.get?_update_self (Obj.mapSeq (fun _ => (#[] : Array Value))) hS rfl
  refine wpAny_bind (wpAny_letGo ?_)
  refine extend_bytes hh b t S .none _ #[] hS₂ hn fun h' tk acc' c' hk hS' hacc => ?_
  exact hR h' tk acc' c' (fun a o hb e => hk a o hb ((Heap.get?_update_other _ _ (Ne.symm hb)).trans e)) hS' hacc

theorem items_ints {b : Array UInt8} {acc : Array Value} (h : ItemsOf (fun i v => ∃ n t, b[i]? = some n ∧ v = .int (n.toNat : Int) t) acc b.size) : IntsAre acc.toList (KBw.bInts b) := by
  obtain ⟨hz, hp⟩ := h
  have go : ∀ (l : List Value) (m : List UInt8), l.length = m.length → (∀ (j : Nat) (v : Value), l[j]? = some v → ∃ (n : UInt8) (t : Tok), m[j]? = some n ∧ v = Value.int (n.toNat : Int) t) → IntsAre l (m.map fun c => (c.toNat : Int)) := by
    intro l
    induction l with
    | nil => intro m hl _; cases m with
      | nil => exact .nil
      | cons => cases hl
    | cons v r ih => intro m hl hj; cases m with
      | nil => cases hl
      | cons n m =>
        obtain ⟨n', t, h1, rfl⟩ := hj 0 v rfl
        obtain rfl : n = n' := Option.some.inj h1
        exact .cons _ _ (ih m (Nat.succ.inj hl) fun j v hv => hj (j + 1) v hv)
  exact go acc.toList b.toList (by simpa using hz) fun j v hv => by simpa using hp j v (by simpa using hv)

/-- list(bytes) -/
theorem list_bytes_K {h₀ : Heap} {L : Addr} {m : Str → Option Value} {news : Led} {b : Array UInt8} {t : Tok} {ks : List Int} {Q : Value → Shared → Prop} (F : Fr h₀ L s.heap m) (N : News h₀ L s.heap news) (hh : A.handled = none) (hks : KBw.bInts b = ks) (hn : ks.length ≤ 16777216)
    (h : ∀ D vs c h' tk, Fr h₀ L h' m → News h₀ L h' ((D, listOf vs.toArray c) :: news) → (∀ p ∈ news, p.1 < D) → IntsAre vs ks → Q (.ref D) { s with heap := h', toks := tk }) :
    wpAny (model prog w) A (call (.type "list") [.bytes b t]) Q E s := by
  refine callType_codes (Q₁ := fun obj s₁ => obj = .ref s.heap.objs.size ∧ s₁ = { s with heap := s.heap.push { cls := .type "list", data := .seq #[] } }) PySem.F.called_list (PySem.F.typeCall_list_1 _) PySem.F.entry_list_init
    (code_list_new _ ⟨rfl, rfl⟩) fun obj s₁ h₁ => ?_
  obtain ⟨rfl, rfl⟩ := h₁
  have hS : (s.heap.push { cls := .type "list", data := .seq #[] }).get? s.heap.objs.size = some { cls := .type "list", data := .seq #[] } := Heap.get?_push_size _ rfl
  refine ⟨⟨_, hS, rfl⟩, PySem.F.args_list_init_2 _ _, list_init_bytes (A := A.in1) hh b t _ hS (by rw [sizeLine_eq, ← KBw.ints_length, hks]; exact hn) fun h' tk acc' c' hk hS' hacc => ?_⟩
  have hk' : ∀ a o, s.heap.get? a = some o → h'.get? a = some o := fun a o e => hk a o (Nat.ne_of_lt (Heap.lt_size e)) (Heap.get?_push_of_some _ e)
  refine ⟨rfl, h s.heap.objs.size acc'.toList c' h' tk (F.keeps hk') ?_ (fun p hp => Heap.lt_size (N p hp).1) (hks ▸ items_ints hacc)⟩
  intro p hp
  rcases List.mem_cons.mp hp with rfl | hp
  · refine ⟨?_, Nat.ne_of_gt F.ns.lt, new_none F (Nat.le_refl _)⟩
    rw [hS']
  · exact ⟨hk' _ _ (N p hp).1, (N p hp).2⟩
end
end Mine
theorem Mine.words_P04b : True := by
  (k_with "call type:list" => (k_here; (with_reducible show wpAny _ _ (call (Value.type "list") [Value.bytes _ _]) _ _ _); k_dflt (refine' Mine.list_bytes_K ?k1 ?k2 ?k3 ?k4 ?k5 ?_; (case k1 => k_asm); (case k2 => k_asm); (case k3 => rfl); (case k4 => kba_ints); (case k5 => kba_size)); intro D'_w vs'_w c'_w h'_w tk'_w F'_w N'_w l1_w hI'_w; (try k_lt l1_w); (try k_sweep)))
  (k_with "call builtin:list.extend" => (k_here; (with_reducible show wpAny _ _ (call (Value.builtin "list.extend") [Value.ref _, Value.ref _]) _ _ _); refine Mine.Stop.out ?_))
  trivial
namespace Mine
/-- for x in a range -/
theorem turns_range {prog : Program} {w : World} {A : Around} {E : Value → Shared → Prop} {s : Shared} {env : Env} {h₀ : Heap} {x : Str} {px : Pos} {body : List Stmt} {Q : Flow → Shared → Prop}
    {σ : Type} {r : Addr} {a₀ b₀ c₀ : Int} {t₀ u₀ v₀ : Tok} {n : Nat} {m₀ : Str → Option Value} (Le : σ → Led) (ps : σ → List (Str × Value)) (stored : List Str) (P : Nat → σ → Prop) (i₀ : σ)
    (hh : A.handled = none) (hr : IsRange s.heap r a₀ b₀ c₀ t₀ u₀ v₀) (hsmall : Builtin.Range.small a₀ b₀ c₀ = true) (hn : Builtin.Range.rangeSize a₀ b₀ c₀ = (n : Int))
    (F : Fr h₀ env.locals s.heap m₀) (N : News h₀ env.locals s.heap (Le i₀)) (hk : ∀ p ∈ ps i₀, m₀ p.1 = some p.2) (hp : P 0 i₀)
    (turn : ∀ i t c u h tk I o, i < n → P i c → o.cls = .type "range_iterator" → OwnOff [(I, o)] ((Le c).map (·.1)) → (∀ p ∈ Le i₀, p.1 < I) → Fr h₀ env.locals h (tmap (ps c) stored u m₀) → News h₀ env.locals h (Le c ++ [(I, o)]) →
      wpAny (model prog w) A (assign (.Name x px) env (.int (a₀ + (i : Int) * c₀) t)) (fun _ s₃ => wpAny (model prog w) A (execs body env) (TurnPost h₀ env.locals (TJ Le ps stored m₀ (P (i + 1))) [(I, o)] { s with heap := h, toks := tk } Q) E s₃) E { s with heap := h, toks := tk })
    (done : ∀ c u h tk, P n c → Fr h₀ env.locals h (tmap (ps c) stored u m₀) → News h₀ env.locals h (Le c) → Q .next { s with heap := h, toks := tk }) :
    wpAny (model prog w) A (pyIter (.ref r)) (fun it s₂ => TurnsAt prog w A h₀ env (.Name x px) body Q E it s₂) E s := by
  refine wpAny_pyIter_range hr hsmall ?_
  have W := KTurns.ofWalks (target := .Name x px) (Walks.range (prog := prog) (w := w) hh s.heap.objs.size a₀ c₀ n) fun i v s Q E st q => wpAny_pure q
  refine turnsS W Le ps stored P i₀ (fun its => ∀ p ∈ its, p.2.cls = .type "range_iterator") ?_ ?_ ?_ ?_ (by show IsRangeIter _ _ _ _ _; rw [hn]; simpa using Heap.get?_push_size _ rfl) (F.push _) (fun p hp => ⟨Heap.get?_push_of_some _ (N p hp).1, (N p hp).2⟩) ?_ hk hp ?_ ?_
  · intro i h st
    have st' : h.get? s.heap.objs.size = some _ := st
    exact ⟨[(_, _)], rfl, fun p hp => by rw [List.mem_singleton.mp hp]; exact st', fun p hp => by rw [List.mem_singleton.mp hp]⟩
  · intro b' hb hw; exact absurd hb hw
  · intro hm; exact absurd F.ns.lt ((List.mem_singleton.mp hm) ▸ Nat.lt_irrefl _)
  · intro b' hb; rw [List.mem_singleton.mp hb]; exact next_is_new F
  · intro p hp hI; exact absurd (Heap.lt_size (N p hp).1) ((List.mem_singleton.mp hI) ▸ Nat.lt_irrefl _)
  · rintro i v c u h tk its hi ⟨t, rfl⟩ hP hits hok hoff F₁ N₁
    obtain ⟨o, rfl, ho⟩ := its_one hits hok
    exact turn i t c u h tk _ o hi hP ho hoff (fun p hp => Heap.lt_size (N p hp).1) F₁ N₁
  · exact fun c u h tk hP F' N' => done c u h tk hP F' N'

theorem tooLong_small {n : Nat} (h : n ≤ 1000000) : Builtin.List.listTooLong n = false := by
  simp [Builtin.List.listTooLong, sizeLine]; omega
/-- list.extend by a list, sizes small, the other not empty -/
theorem extend_K {prog : Program} {w : World} {A : Around} {E : Value → Shared → Prop} {s : Shared} {h₀ : Heap} {L : Addr} {m : Str → Option Value} {news news' : Led} {D b : Addr} {vs ys : List Value} {n n2 : Nat} {Q : Value → Shared → Prop}
    (F : Fr h₀ L s.heap m) (N : News h₀ L s.heap news) (hb : (b, listOf ys.toArray n2) ∈ news) (hne : ys.length ≠ 0) (hz : vs.length + ys.length ≤ 1000000)
    (U : Upd D (listOf vs.toArray n) (listOf (vs ++ ys).toArray (n + 1)) news news')
    (h : ∀ h', Fr h₀ L h' m → News h₀ L h' news' → Q .none { s with heap := h' }) : wpAny (model prog w) A (call (.builtin "list.extend") [.ref D, .ref b]) Q E s := by
  refine kl_extend (its := vs.toArray) (its2 := ys.toArray) F N hb (by simp) (by simpa using hne) U ?_ (by rw [sizeLine_eq]; simp; omega) (by rw [sizeLine_eq]; simp; omega) h
  simp only [List.size_toArray, tooLong_small hz, Bool.and_false]
  decide

theorem range4_size (n : Nat) : Builtin.Range.rangeSize 0 (n : Int) 4 = (((n + 3) / 4 : Nat) : Int) := by
  unfold Builtin.Range.rangeSize
  rw [if_pos (by decide)]
  split <;> omega
theorem fits_small {i : Int} (h0 : 0 ≤ i) (h1 : i ≤ 1000000) : Builtin.Range.rangeFitsLong i = true := by
  unfold Builtin.Range.rangeFitsLong
  rw [Bool.and_eq_true]
  exact ⟨decide_eq_true (by omega), decide_eq_true (by omega)⟩
theorem range4_small {n : Nat} (h : n ≤ 100000) : Builtin.Range.small 0 (n : Int) 4 = true := by
  unfold Builtin.Range.small
  rw [range4_size, if_pos (by decide), fits_small (by omega) (by omega), fits_small (by omega) (by omega), fits_small (by omega) (by omega), fits_small (by omega) (by omega), fits_small (by omega) (by omega)]
  simp
theorem cut4 {ks : List Int} {i : Nat} {a : Int} (h : 4 * i ≤ ks.length) (ha : a = 0 + (i : Int) * 4) :
    List.take (clipAt ks.length (a + 4) - clipAt ks.length a) (List.drop (clipAt ks.length a) ks) = (ks.drop (4 * i)).take 4 := by
  subst ha
  rw [show (0 + (i : Int) * 4 + 4) = ((4 * i + 4 : Nat) : Int) by omega, show (0 + (i : Int) * 4) = ((4 * i : Nat) : Int) by omega, clipAt_nat, clipAt_nat, Nat.min_eq_left h]
  rcases Nat.le_total (4 * i + 4) ks.length with h2 | h2
  · rw [Nat.min_eq_left h2]; congr 1; omega
  · rw [Nat.min_eq_right h2, List.take_of_length_le (by rw [List.length_drop]; omega), List.take_of_length_le (by rw [List.length_drop]; omega)]
theorem flat_zeros (n : Nat) : (List.replicate n [(0 : Int)]).flatten = List.replicate n 0 := by
  induction n with
  | zero => rfl
  | succ n ih => rw [List.replicate_succ, List.flatten_cons, ih]; rfl
def pad4 (gs : List Int) : List Int := gs ++ List.replicate (4 - gs.length) 0
theorem pad4_eq (gs : List Int) : gs ++ (List.replicate ((4 : Int) - (gs.length : Int)).toNat [(0 : Int)]).flatten = pad4 gs := by
  rw [flat_zeros, pad4]
  congr 2
  omega
theorem pad4_length {gs : List Int} (h : gs.length ≤ 4) : (pad4 gs).length = 4 := by
  simp only [pad4, List.length_append, List.length_replicate]; omega
theorem pad4_in {gs : List Int} (h : KBa.In gs) : KBa.In (pad4 gs) := by
  intro n hn
  rcases List.mem_append.mp hn with h' | h'
  · exact h n h'
  · rw [List.eq_of_mem_replicate h']; decide
theorem ints_cons {vs : List Value} {a : Int} {r : List Int} (h : IntsAre vs (a :: r)) : ∃ t v, vs = .int a t :: v ∧ IntsAre v r := by
  cases h with
  | cons _ t h => exact ⟨t, _, rfl, h⟩
theorem ints5 {vs : List Value} {a b c d e : Int} (h : IntsAre vs [a, b, c, d, e]) : ∃ t1 t2 t3 t4 t5, vs = [.int a t1, .int b t2, .int c t3, .int d t4, .int e t5] := by
  obtain ⟨t1, v1, e1, h1⟩ := ints_cons h
  obtain ⟨t2, v2, e2, h2⟩ := ints_cons h1
  obtain ⟨t3, v3, e3, h3⟩ := ints_cons h2
  obtain ⟨t4, v4, e4, h4⟩ := ints_cons h3
  obtain ⟨t5, v5, e5, h5⟩ := ints_cons h4
  exact ⟨t1, t2, t3, t4, t5, by rw [e1, e2, e3, e4, e5, List.length_eq_zero_iff.mp h5.length]⟩
def b85Group (gs : List Int) : List Int :=
  if gs.length = 4 ∧ signs5 (sum256 (pad4 gs)) = [0, 0, 0, 0, 0] then [122] else ((signs5 (sum256 (pad4 gs))).take (gs.length + 1)).map fun k => 33 + k
def b85Body (ks : List Int) (i : Nat) : List Int := (List.range i).flatMap fun i => b85Group ((ks.drop (4 * i)).take 4)
def b85Enc (ks : List Int) : List Int := b85Body ks ((ks.length + 3) / 4) ++ [126, 62]
theorem b85Body_succ (ks : List Int) (i : Nat) : b85Body ks (i + 1) = b85Body ks i ++ b85Group ((ks.drop (4 * i)).take 4) := by
  simp [b85Body, List.range_succ]
theorem b85Group_length (gs : List Int) : (b85Group gs).length ≤ 5 := by
  unfold b85Group
  split
  · simp
  · simp only [List.length_map, List.length_take, signs5, List.length_cons, List.length_nil]; omega
theorem fmod_in {a b : Int} (hb : 0 < b) : 0 ≤ a.fmod b ∧ a.fmod b < b := ⟨Int.fmod_nonneg_of_pos _ hb, Int.fmod_lt_of_pos _ hb⟩
theorem signs5_in (t : Int) : ∀ n ∈ signs5 t, 0 ≤ n ∧ n < 85 := by
  intro n hn
  simp only [signs5, List.mem_cons, List.not_mem_nil, or_false] at hn
  rcases hn with rfl | rfl | rfl | rfl | rfl <;> exact fmod_in (by decide)
theorem b85Group_in (gs : List Int) : KBa.In (b85Group gs) := by
  intro n hn
  unfold b85Group at hn
  split at hn
  · simp at hn; subst hn; decide
  · obtain ⟨k, hk, rfl⟩ := List.mem_map.mp hn
    have := signs5_in _ k (List.mem_of_mem_take hk)
    omega
theorem b85Enc_in (ks : List Int) (i : Nat) : KBa.In (b85Body ks i ++ [126, 62]) := by
  intro n hn
  rcases List.mem_append.mp hn with h | h
  · obtain ⟨j, _, hj⟩ := List.mem_flatMap.mp h
    exact b85Group_in _ n hj
  · simp at h; rcases h with rfl | rfl <;> decide
theorem bg_z {gs : List Int} (h0 : 4 - (gs.length : Int) = 0) (h1 : signs5 (sum256 (pad4 gs)) = [0, 0, 0, 0, 0]) : b85Group gs = [122] := by
  unfold b85Group; rw [if_pos ⟨by omega, h1⟩]
theorem bg_n {gs : List Int} (hl : gs.length ≤ 4) (h1 : ¬ (4 - (gs.length : Int) = 0 ∧ signs5 (sum256 (pad4 gs)) = [0, 0, 0, 0, 0])) :
    b85Group gs = List.map (fun k' => 33 + k') (List.take ((5 : Int) - (4 - (gs.length : Int))).toNat (signs5 (sum256 (pad4 gs)))) := by
  unfold b85Group
  rw [if_neg (fun h => h1 ⟨by omega, h.2⟩)]
  congr 2
  omega

def StopMiss : Prop := (11 : Nat) = 11
theorem stopMiss : StopMiss := rfl
theorem words_P05x : True := by
  (k_with "exec Assign" => (k_here; (rename Mine.StopMiss => st9_w); (with_reducible show wpAny _ _ (exec (Stmt.Assign [Expr.Name (Str.ofString "missing") _] _ _) _) _ _ _); clear st9_w; refine Mine.Lock.out ?_))
  trivial
section
local macro_rules | `(tactic| omega) => `(tactic| first | ((fail_if_success (fail_if_success (omega (config := {})))); first | lia | omega (config := {})) | lia)
local macro_rules | `(tactic| walk_at "exec If") => `(tactic| (k_here; refine Lock.out ?_))
theorem base85_encoded_spec (w : World) (b : Array UInt8) (t : Tok) (hb : b.size ≤ 1000) :
    MSpec w 101 20 [.bytes b t] [] [] (fun r n => n = [] ∧ ∃ t b', r = .bytes b' t ∧ KBw.bInts b' = b85Enc (KBw.bInts b)) := by
  refine' MSpec.of_body [(Str.ofString "octets", .bytes b t)] ?ho ?hcd ?hb ?hl ?hc ?h1 ?h2 ?h3 ?_
  walk_at "mine body"
  intro dp un gd cn cs L a ccd cl outer base g L' h₁ s tk p loose mean mg mb hd hu B F N X T lt hrd
  have kM := kstMark
  obtain ⟨ks, hks⟩ : ∃ ks, KBw.bInts b = ks := ⟨_, rfl⟩
  have hkl : ks.length = b.size := hks ▸ KBw.ints_length b
  walk_at "mine go"
  k_steps
  (rename Fr _ _ _ _ => F1)
  (rename News _ _ _ _ => N1)
  (rename IsRange _ _ _ _ _ _ _ _ => R1)
  obtain ⟨n9, hn9⟩ : ∃ n9 : Nat, n9 = (ks.length + 3) / 4 := ⟨_, rfl⟩
  have hrs := range4_size (ks.length)
  rw [← hn9] at hrs
  have hsm := range4_small (n := ks.length) (by omega)
  have hn9b : n9 ≤ 251 := by omega
  have hn9c : ∀ i, i < n9 → 4 * i < ks.length := fun i h => by omega
  refine turns_range (σ := List Value × List Int × Nat) (n := n9) (fun c => [(_, listOf c.1.toArray c.2.2)]) (fun c => []) [Str.ofString "at", Str.ofString "group", Str.ofString "missing", Str.ofString "signs"]
    (fun i c => IntsAre c.1 c.2.1 ∧ c.2.1 = b85Body ks i ∧ c.2.1.length ≤ 5 * i) ([], [], 0) rfl R1 hsm hrs F1 N1 (fun _ h => nomatch h) ⟨.nil, rfl, by simp⟩ ?_ ?_
  · clear F1 N1
    rintro i t ⟨vs, ns, n⟩ u h tk I o hlt hP9 ho hoff hlt2 F1 N1
    walk_at "mine shut"
    obtain ⟨hi1, hi3, hi2⟩ := hP9
    walk_at "mine open"
    dsimp only at hi1 hi3 hi2 hoff hlt2 F1 N1
    replace hlt2 := allLt_of hlt2
    simp only [AllLt, and_true] at hlt2
    simp only [List.map_cons, List.map_nil] at hoff
    simp only [List.cons_append, List.nil_append] at N1
    have hl := hi1.length
    obtain ⟨at', hat⟩ : ∃ at' : Int, at' = 0 + (i : Int) * 4 := ⟨_, rfl⟩
    rw [← hat]
    have hb1 : 0 ≤ at' := by omega
    have hb2 : at' < b.size := by have := hn9c i hlt; omega
    have hcut : List.take (clipAt ks.length (at' + 4) - clipAt ks.length at') (List.drop (clipAt ks.length at') ks) = (ks.drop (4 * i)).take 4 := cut4 (by have := hn9c i hlt; omega) hat
    have hg9 : 1 ≤ ((ks.drop (4 * i)).take 4).length ∧ ((ks.drop (4 * i)).take 4).length ≤ 4 := by
      have := hn9c i hlt
      rw [List.length_take, List.length_drop]; omega
    have hgin : KBa.In ((ks.drop (4 * i)).take 4) := fun n hn => KBw.ints_in (hks ▸ List.mem_of_mem_drop (List.mem_of_mem_take hn))
    have key : ∀ ns', ns' = ns ++ b85Group ((ks.drop (4 * i)).take 4) → ns' = b85Body ks (i + 1) ∧ ns'.length ≤ 5 * (i + 1) := by
      rintro _ rfl
      refine ⟨by rw [b85Body_succ, ← hi3], ?_⟩
      have := b85Group_length ((ks.drop (4 * i)).take 4)
      rw [List.length_append]; omega
    clear hat hn9c hrs hsm hn9 hi3
    have st9 := stopMiss
    k_steps
    refine Lock.into ?_
    rename IntsAre _ (List.take _ _) => hI1
    rw [← hcut] at hg9 hgin key
    clear hcut
    generalize List.take (clipAt ks.length (at' + 4) - clipAt ks.length at') (List.drop (clipAt ks.length at') ks) = gs at *
    obtain ⟨hg1, hg4⟩ := hg9
    have hgl := hI1.length
    k_steps
    rename IntsAre _ (_ ++ _) => hI2
    rw [pad4_eq] at hI2
    (try walk_at "mine fold")
    refine MSpec.use (signs_of_group_spec w _ _ _ _ hI2 (pad4_length hg4) (pad4_in hgin)) (by k_asm) (by k_asm) (by k_asm) (by k_asm) (by k_asm) (by exact rfl) (by walk_at "mine room") (by walk_at "mine units") (List.forall_mem_cons.mpr ⟨.head _, List.forall_mem_nil _⟩) ?_
    rintro r n' h' tk' F3 N3 ne ⟨l3, vs3, n3, rfl, rfl, hS⟩
    obtain ⟨t1, t2, t3, t4, t5, rfl⟩ := ints5 hS
    have nel := allNe_at (ne _ (.head _)) (_, listOf vs.toArray n) (by k_mem)
    change @Ne Nat _ l3 at nel
    clear ne
    simp only [List.cons_append, List.nil_append] at N3
    clear hS
    k_sweep
    k_steps
    refine Lock.into ?_
    (rename Fr _ _ _ _ => F4)
    (rename News _ _ _ _ => N4)
    refine If_join (fun k => k = true ↔ (4 - (gs.length : Int) = 0 ∧ signs5 (sum256 (pad4 gs)) = [0, 0, 0, 0, 0])) F4 N4 ?_ ?_ ?_
    · k_steps
      · exact CondEnd.of (Iff.intro (fun _ => ⟨by with_reducible assumption, by assumption⟩) (fun _ => rfl)) (by k_asm) (by k_asm) (fun _ hp => .tail _ hp)
      · exact CondEnd.of (Iff.intro (fun h => nomatch h) (fun h => by first | exact absurd h.2 (by with_reducible assumption) | (rename ¬ ((_ : List Int) = _) => hh; exact (hh h.2).elim))) (by k_asm) (by k_asm) (fun _ hp => .tail _ hp)
      · exact CondEnd.of (Iff.intro (fun h => nomatch h) (fun h => absurd h.1 (by with_reducible assumption))) (by k_asm) (by k_asm) (fun _ hp => hp)
    · clear F4 N4
      intro h5 tk5 hP F5 N5
      k_steps
      (rename News _ _ _ _ => NN); (try simp only [List.push_toArray] at NN)
      exact turnEnd ⟨_, _, _⟩ (by assumption) NN (by kst_inAny) (by kst_anyIn) (by walk_at "mine off") (fun _ h => nomatch h) (by walk_at "mine same") ⟨by k_intsEnd, key _ (by rw [bg_z (hP.mp rfl).1 (hP.mp rfl).2])⟩
    · clear F4 N4
      intro h5 tk5 hP F5 N5
      have hnn : ¬(4 - (gs.length : Int) = 0 ∧ signs5 (sum256 (pad4 gs)) = [0, 0, 0, 0, 0]) := fun h => nomatch hP.mpr h
      k_steps
      rename IntsAre _ (List.map _ _) => hI8
      have e9 := b85Group_length gs
      have hI8 := (show IntsAre _ (List.map (fun k' => 33 + k') (List.take _ (signs5 (sum256 (pad4 gs))))) from hI8)
      have hL9 := hI8.length
      rw [← bg_n hg4 hnn] at hI8 hL9
      have hne9 : (b85Group gs).length ≠ 0 := by
        rw [bg_n hg4 hnn]
        simp only [List.length_map, List.length_take, signs5, List.length_cons, List.length_nil]; omega
      refine Mine.Stop.into ?_
      k_dflt (refine' extend_K (by k_asm) (by k_asm) ?hb (by rw [hL9]; exact hne9) ?hz ?hU ?_)
      (case hb => exact List.Mem.head _)
      (case hU => k_upd)
      (case hz => (rw [hL9]; omega))
      intro h4 F4 N4
      k_steps
      refine turnEnd ⟨_, _, _⟩ (by assumption) N4 (by kst_inAny) (by kst_anyIn) (by walk_at "mine off") (fun _ h => nomatch h) (by walk_at "mine same") ⟨IntsAre.append hi1 hI8, key _ rfl⟩
  · clear F1 N1
    rintro ⟨vs, ns, n⟩ u h tk hP9 F1 N1
    walk_at "mine shut"
    obtain ⟨hi1, hi3, hi2⟩ := hP9
    walk_at "mine open"
    dsimp only at hi1 hi3 hi2 F1 N1
    have hl := hi1.length
    have hin : KBa.In (ns ++ [126, 62]) := by
      rw [hi3]; exact b85Enc_in _ _
    rw [hn9] at hi3
    clear hn9 hrs hsm hn9c R1
    k_steps
    exact Back.intro [] (by k_asm) (by k_asm) (fun _ h => nomatch h) ⟨rfl, _, _, rfl, by rw [bInts_byteArr hin, hi3, hks]; rfl⟩
end
end Mine
namespace Mine
open PySem.Calls PySem.Spec PySem.W Builtin Builtin.ObjectAttr

abbrev excO (C : Addr) (dx : Option Addr) (t0 : Addr) : Obj := { cls := .ref C, dict := dx, data := .fields #[.ref t0, .none, .none, .none, .bool false, .none] }

/-- what is asked of an exception class with two own links -/
structure ExcCls (K : Frag) (C D : Addr) (cd : ClassData) : Prop where
  cls : clsIn K C = some cd
  dict : cd.hasDict = true
  mro : cd.mro = [.ref C, .ref D, .type "Exception", .type "BaseException", .type "object"]
  sa : findIn K (.ref C) "__setattr__" = some (some (.builtin "object.__setattr__"))
  obj : mroIn K C (.type "object") = some true
  exc : mroIn K C (.type "Exception") = some true
  cobj : ∃ nm q N bs hdct sn sub ab col dd k0 k1 k2 k3 k5, K.lookup C = some (excClassObj nm q C N bs [.ref D, .type "Exception", .type "BaseException", .type "object"] hdct sn sub ab col dd k0 k1 k2 k3 k5 "Exception.__new__")

theorem exc_upd {h₀ h : Heap} {L x : Addr} {m : Str → Option Value} {o o' : Obj} {rest : Led} {f : Obj → Obj} (F : Fr h₀ L h m) (N : News h₀ L h ((x, o) :: rest)) (ne : ∀ p ∈ rest, p.1 ≠ x) (e : f o = o') (hf : o'.isFreed = false) :
    Fr h₀ L (h.update x f) m ∧ News h₀ L (h.update x f) ((x, o') :: rest) := news_upd (pre := []) F N (fun _ h => nomatch h) ne e hf

section
variable {prog : Program} {w : World} {A : Around} {E : Value → Shared → Prop} {s : Shared} {K : Frag} {C D : Addr} {cd : ClassData} {h₀ : Heap} {L : Addr} {m : Str → Option Value} {x t1 dx : Addr} {name : Str} {v : Value}

theorem exc_osa (Y : ExcCls K C D cd) {ox : Obj} {od : Option Obj} {tk : Tok} {R : Result → Shared → Prop} (X : K.In s.heap) (I : InstAt s.heap x ox C od) (ht : findIn K (.ref C) name = some none)
    (h : wpAny (model prog w) A.in1 (storeInOwnDict (.ref x) (.ref C) (.str name tk) name v false)
      (fun fin s' => match fin with | .done f => R (.ok f) s' | .again c' => c'.quiet = true ∧ codeAny (model prog w) A c' R s') (fun e s' => R (.error e) s') s) :
    codeAny (model prog w) A (.call (.builtin "object.__setattr__") ⟨[.ref x, .str name tk, v], []⟩) R s := by
  have SF := PySem.F.store_Exception
  have sub : Looks (model prog w) s.heap (isInstance (.ref x) (.type "object")) true := I.type.andThen (looks_mroIn X Y.obj)
  refine codeAny_call_builtin SF.slot.plain SF.entry (@check_slot (model prog w) _ _ s "object.__setattr__" "object" "__setattr__" (.ref x) [.str name tk, v] [] _ SF.kind SF.split sub (SF.args (.ref x) (.str name tk) v) ?_)
  have hmro : Looks (model prog w) s.heap (mroOf (.ref C)) cd.mro := (looks_clsIn X Y.cls).andThen .now
  have L3 : Looks (model prog w) s.heap (storeTaker? none) none := .now
  rw [osa_eq, refuse_eq]
  refine wpAny_bind (wpAny_bind (I.type.here (wpAny_bind (hmro.here ?_))))
  rw [Y.mro, refuseLoop_ref, refuseLoop_ref, SF.passes]
  refine wpAny_pure (wpAny_bind (I.type.here (wpAny_bind ((looks_findIn X ht).here (wpAny_bind (L3.here ?_))))))
  exact h

theorem exc_nsSet {Q : Unit → Shared → Prop} {o : Obj} {es : List DictEntry} {n : Nat} (D0 : s.heap.get? dx = some o) (hod : o = dictOf es n) (hl : (getL name es).isSome = true)
    (h : Q () { s with heap := s.heap.update dx (Obj.putName name (PyData.keyHash w.params name) (.str name s.toks) v), toks := s.toks + 1 }) : wpAny (model prog w) A (nsSet dx name v) Q E s := by
  subst hod
  unfold nsSet
  refine wpAny_bind (wpAny_bind (wpAny_askSetting (wpAny_pure (wpAny_bind (wpAny_mkText (wpAny_bind (wpAny_loadPart D0 ?_)))))))
  dsimp only
  have c : (!es.any (·.key.isStr name) && es.any (·.refKey)) = false := by
    unfold getL at hl
    split at hl
    · rename_i en he
      rw [List.any_eq_true.mpr ⟨en, List.mem_of_find?_eq_some he, List.find?_some he⟩]; rfl
    · split at hl
      · cases hl
      · rename_i z; rw [Bool.not_eq_true] at z; rw [z, Bool.and_false]
  rw [aRefKeyMayBeTheName_at]
  simp only [List.any_toArray]
  rw [c]
  exact wpAny_updatePart D0 h

/-- a field is stored: the dict stands -/
theorem exc_set_old (Y : ExcCls K C D cd) {Q : Unit → Shared → Prop} {es es' : List DictEntry} {n n' : Nat} {rest : Led} (F : Fr h₀ L s.heap m) (X₀ : K.In h₀) (N : News h₀ L s.heap ((dx, dictOf es n) :: rest)) (hx : (x, excO C (some dx) t1) ∈ rest) (ne : ∀ p ∈ rest, p.1 ≠ dx)
    (ht : findIn K (.ref C) name = some none) (hl : (getL name es).isSome = true) (e : putL name (PyData.keyHash w.params name) (.str name (s.toks + 1)) v es = es') (en : putN name es n = n') (hz : es'.length ≤ 1000)
    (h : ∀ h', Fr h₀ L h' m → News h₀ L h' ((dx, dictOf es' n') :: rest) → Q () { s with heap := h', toks := s.toks + 2 }) : wpAny (model prog w) A (setAttr (.ref x) name v) Q E s := by
  have X := X₀.keeps F.keep
  have hx1 := (N (x, excO C (some dx) t1) (.tail _ hx)).1
  have hd1 := (N (dx, dictOf es n) (.head _)).1
  have I : InstAt s.heap x (excO C (some dx) t1) C (some (dictOf es n)) := ⟨hx1, rfl, rfl, hd1⟩
  refine set_plain X I Y.sa (exc_osa (s := { s with toks := s.toks + 1 }) Y X I ht ?_)
  refine wpAny_bind (wpAny_pure (wpAny_bind (wpAny_bind (wpAny_loadPart hx1 (wpAny_bind (Looks.here (s := { s with toks := s.toks + 1 }) (looks_clsIn X Y.cls) ?_))))))
  rw [Y.dict]
  refine wpAny_pure (a := some dx) (wpAny_bind (wpAny_pure (wpAny_bind ?_)))
  refine exc_nsSet hd1 rfl hl ?_
  obtain ⟨U1, U2⟩ := exc_upd (f := Obj.putName name (PyData.keyHash w.params name) (.str name (s.toks + 1)) v) F N ne (by rw [putName_dict, e, en]) rfl
  refine wpAny_bind (wpAny_lookBehind (U2 _ (.head _)).1 (pastItsLine_dict (by rw [List.size_toArray, sizeLine_eq]; omega)) ?_)
  exact wpAny_pure (h _ U1 U2)

theorem exc_set_new (Y : ExcCls K C D cd) {Q : Unit → Shared → Prop} {es' : List DictEntry} {rest : Led} (F : Fr h₀ L s.heap m) (X₀ : K.In h₀) (N : News h₀ L s.heap ((x, excO C none t1) :: rest)) (ne : ∀ p ∈ rest, p.1 ≠ x)
    (ht : findIn K (.ref C) name = some none) (e : [⟨PyData.keyHash w.params name, .str name (s.toks + 1), v⟩] = es')
    (h : ∀ h' dx, Fr h₀ L h' m → News h₀ L h' ((dx, dictOf es' 1) :: (x, excO C (some dx) t1) :: rest) → (∀ p ∈ (x, excO C (some dx) t1) :: rest, p.1 < dx) → Q () { s with heap := h', toks := s.toks + 2 }) : wpAny (model prog w) A (setAttr (.ref x) name v) Q E s := by
  have X := X₀.keeps F.keep
  have hx1 := (N (x, excO C none t1) (.head _)).1
  have I : InstAt s.heap x (excO C none t1) C none := ⟨hx1, rfl, rfl, trivial⟩
  refine set_plain X I Y.sa (exc_osa (s := { s with toks := s.toks + 1 }) Y X I ht ?_)
  refine wpAny_bind (wpAny_pure (wpAny_bind (wpAny_bind (wpAny_loadPart hx1 (wpAny_bind (Looks.here (s := { s with toks := s.toks + 1 }) (looks_clsIn X Y.cls) ?_))))))
  rw [Y.dict]
  have N1 := N.push F (dictOf [] 0)
  have F1 := F.push (dictOf [] 0)
  have N2 : News h₀ L (s.heap.push (dictOf [] 0)) ((x, excO C none t1) :: (s.heap.objs.size, dictOf [] 0) :: rest) := fun p hp => N1 p (by
    rcases List.mem_cons.mp hp with rfl | hp
    · exact .tail _ (.head _)
    · rcases List.mem_cons.mp hp with rfl | hp
      · exact .head _
      · exact .tail _ (.tail _ hp))
  have lt : ∀ p ∈ (x, excO C none t1) :: rest, p.1 < s.heap.objs.size := fun p hp => Heap.lt_size (N p hp).1
  obtain ⟨F3, N3⟩ := exc_upd (f := fun o => { o with dict := some s.heap.objs.size }) (o' := excO C (some s.heap.objs.size) t1) F1 N2 (fun p hp => by
    rcases List.mem_cons.mp hp with rfl | hp
    · exact Ne.symm (Nat.ne_of_lt (lt _ (.head _)))
    · exact ne p hp) rfl rfl
  have hx2 : (s.heap.push (dictOf [] 0)).get? x = some (excO C none t1) := (N2 _ (.head _)).1
  refine wpAny_bind (wpAny_alloc ?_)
  refine wpAny_bind (wpAny_update hx2 ?_)
  refine wpAny_pure (a := some s.heap.objs.size) (wpAny_bind (wpAny_pure (wpAny_bind ?_)))
  refine exc_nsSet (es := []) (n := 0) (N3 _ (.tail _ (.head _))).1 rfl rfl ?_
  have N4 : News h₀ L ((s.heap.push (dictOf [] 0)).update x fun o => { o with dict := some s.heap.objs.size }) ((s.heap.objs.size, dictOf [] 0) :: (x, excO C (some s.heap.objs.size) t1) :: rest) := fun p hp => N3 p (by
    rcases List.mem_cons.mp hp with rfl | hp
    · exact .tail _ (.head _)
    · rcases List.mem_cons.mp hp with rfl | hp
      · exact .head _
      · exact .tail _ (.tail _ hp))
  have lt2 : ∀ p ∈ (x, excO C (some s.heap.objs.size) t1) :: rest, p.1 < s.heap.objs.size := fun p hp => by
    rcases List.mem_cons.mp hp with rfl | hp
    · exact lt (x, excO C none t1) (.head _)
    · exact lt p (.tail _ hp)
  obtain ⟨U1, U2⟩ := exc_upd (f := Obj.putName name (PyData.keyHash w.params name) (.str name (s.toks + 1)) v) (o' := dictOf es' 1) F3 N4 (fun p hp => Nat.ne_of_lt (lt2 p hp)) (by rw [putName_dict, ← e]; rfl) rfl
  refine wpAny_bind (wpAny_lookBehind (U2 _ (.head _)).1 (pastItsLine_dict (by rw [List.size_toArray, ← e, sizeLine_eq]; show 1 ≤ _; omega)) ?_)
  exact wpAny_pure (h _ _ U1 U2 lt2)
end
end Mine
namespace Mine
open PySem.Calls PySem.Spec PySem.W

/-- no object's dict is put off -/
def DKept (h h' : Heap) : Prop := ∀ (b : Nat) (o : Obj), h.objs[b]? = some o → ∃ o' : Obj, h'.objs[b]? = some o' ∧ o'.dict = o.dict
theorem DKept.refl (h : Heap) : DKept h h := fun _ o e => ⟨o, e, rfl⟩
theorem DKept.trans {h₁ h₂ h₃ : Heap} (x : DKept h₁ h₂) (y : DKept h₂ h₃) : DKept h₁ h₃ := fun b o e =>
  let ⟨_, e1, q1⟩ := x b o e; let ⟨o2, e2, q2⟩ := y b _ e1; ⟨o2, e2, q2.trans q1⟩
theorem DKept.push (h : Heap) (o : Obj) : DKept h (h.push o) := fun b o' e => by
  obtain ⟨a, l⟩ := h
  refine ⟨o', ?_, rfl⟩
  show (a.push o)[b]? = _
  have hb : b < a.size := (Array.getElem?_eq_some_iff.mp e).1
  rw [Array.getElem?_push_lt hb, ← Array.getElem?_eq_getElem hb]
  exact e
theorem DKept.update (h : Heap) (a : Addr) (f : Obj → Obj) (hf : ∀ o, (f o).dict = o.dict) : DKept h (h.update a f) := fun b o e => by
  obtain ⟨os, l⟩ := h
  show ∃ o', (os.modify a f)[b]? = _ ∧ _
  have e' : os[b]? = some o := e
  rw [Array.getElem?_modify, e']
  by_cases hab : a = b
  · rw [if_pos hab]; exact ⟨f o, rfl, hf o⟩
  · rw [if_neg hab]; exact ⟨o, rfl, rfl⟩

def Still {α : Type} : Sem α → Prop
  | .rule _ k => Still (k ())
  | .at _ k => Still (k ())
  | .load _ _ k => ∀ o, Still (k o)
  | .update _ _ f k => (∀ o, (f o).dict = o.dict) ∧ Still (k ())
  | .alloc _ k => ∀ a, Still (k a)
  | .loadIfAlive _ k => ∀ o, Still (k o)
  | .point _ k => Still (k ())
  | .fresh k => ∀ t, Still (k t)
  | .ask k => ∀ t, Still (k t)
  | .handled _ k => ∀ v, Still (k v)
  | .stack k => ∀ l, Still (k l)
  | .call _ _ _ _ _ => False
  | .choose _ _ _ => False
  | .os _ _ _ => False
  | .newGen _ _ => False
  | .genState _ _ => False
  | .resume _ _ _ _ => False
  | .thread _ => False
  | _ => True

theorem Still.wp {α : Type} {M : Model} {Γ : PySem.Ctx} : ∀ {t : Sem α} {Q : α → Pos → Shared → Prop} {E : Value → Pos → Shared → Prop} {p : Pos} {s : Shared} {h₀ : Heap}, Still t → DKept h₀ s.heap → Sem.wp M Γ t Q E p s →
    Sem.wp M Γ t (fun a p' s' => Q a p' s' ∧ DKept h₀ s'.heap) (fun e p' s' => E e p' s' ∧ DKept h₀ s'.heap) p s := by
  intro t
  induction t with
  | pure x => exact fun _ k h => ⟨h, k⟩
  | raise v => exact fun _ k h => ⟨h, k⟩
  | unsupported | finish | yield | fork | await | register => exact fun _ _ h => h
  | rule _ k ih => exact fun st kk h => ih _ st kk h
  | «at» _ k ih => exact fun st kk h => ih _ st kk h
  | point _ k ih => exact fun st kk h => ih _ st kk h
  | loadIfAlive _ k ih => exact fun st kk h => ih _ (st _) kk h
  | fresh k ih => exact fun st kk h => ih _ (st _) kk h
  | ask k ih => exact fun st kk h => ih _ (st _) kk h
  | handled _ k ih => exact fun st kk h => ih _ (st _) kk h
  | stack k ih => exact fun st kk h => ih _ (st _) kk h
  | alloc o k ih => exact fun st kk h => ih _ (st _) (kk.trans (DKept.push _ _)) h
  | load a _ k ih => exact fun st kk ⟨o, ho, h⟩ => ⟨o, ho, ih _ (st o) kk h⟩
  | update a _ f k ih => exact fun st kk ⟨ho, h⟩ => ⟨ho, ih _ st.2 (kk.trans (DKept.update _ _ _ st.1)) h⟩
  | call | choose | os | newGen | genState | resume | thread => exact fun st => st.elim

theorem Still.bind {α β : Type} {f : α → Sem β} : ∀ {t : Sem α}, Still t → (∀ a, Still (f a)) → Still (t >>= f) := by
  intro t
  show Still t → _ → Still (t.bind f)
  induction t with
  | pure x => exact fun _ h => h x
  | raise v => exact fun _ _ => trivial
  | unsupported | finish | yield | fork | await | register => exact fun _ _ => trivial
  | rule _ k ih => exact fun st h => ih _ st h
  | «at» _ k ih => exact fun st h => ih _ st h
  | point _ k ih => exact fun st h => ih _ st h
  | loadIfAlive _ k ih => exact fun st h o => ih _ (st o) h
  | fresh k ih => exact fun st h o => ih _ (st o) h
  | ask k ih => exact fun st h o => ih _ (st o) h
  | handled _ k ih => exact fun st h o => ih _ (st o) h
  | stack k ih => exact fun st h o => ih _ (st o) h
  | alloc o k ih => exact fun st h o => ih _ (st o) h
  | load a _ k ih => exact fun st h o => ih _ (st o) h
  | update a _ f k ih => exact fun st h => ⟨st.1, ih _ st.2 h⟩
  | call | choose | os | newGen | genState | resume | thread => exact fun st => st.elim

theorem Still.any {α : Type} {M : Model} {A : Around} {t : Sem α} {Q : α → Shared → Prop} {E : Value → Shared → Prop} {s : Shared} (st : Still t) (h : wpAny M A t Q E s) :
    wpAny M A t (fun a s' => Q a s' ∧ DKept s.heap s'.heap) (fun e s' => E e s' ∧ DKept s.heap s'.heap) s := fun Γ p hΓ => Still.wp st (DKept.refl _) (h Γ p hΓ)

theorem Still.map {α β : Type} {f : α → β} {t : Sem α} (h : Still t) : Still (f <$> t) := Still.bind h fun _ => trivial
theorem still_pure {α : Type} (a : α) : Still (pure a : Sem α) := trivial
theorem still_uns {α : Type} (a : String) : Still (PySem.unsupported a : Sem α) := trivial
theorem still_load (a : Addr) : Still (load a) := fun _ => trivial
theorem still_loadPart (a : Addr) (p : Option Value) : Still (loadPart a p) := fun _ => trivial
theorem still_update (a : Addr) (f : Obj → Obj) (h : ∀ o, (f o).dict = o.dict) : Still (update a f) := ⟨h, trivial⟩
theorem still_stack : Still stack := fun _ => trivial
theorem still_ite {α : Type} {c : Prop} [Decidable c] {a b : Sem α} (h1 : Still a) (h2 : Still b) : Still (if c then a else b) := by split <;> assumption

theorem still_frameEnvs : Still frameEnvs := Still.bind still_stack fun _ => trivial
theorem still_under : Still underTheClaimsCaller := Still.bind still_stack fun _ => trivial
theorem still_fieldsOf (v : Value) : Still (fieldsOf v) := by
  unfold fieldsOf
  split
  · exact Still.bind (still_load _) fun o => by split <;> trivial
  · trivial
theorem still_field (v : Value) (i : Nat) : Still (field v i) := by
  unfold field
  refine Still.bind (still_fieldsOf v) fun a => ?_
  split <;> trivial
theorem mapFields_dict (f : Array Value → Array Value) (o : Obj) : (Obj.mapFields f o).dict = o.dict := by
  obtain ⟨c, d, da, sl⟩ := o
  cases da <;> rfl
theorem still_setField (v : Value) (i : Nat) (x : Value) : Still (setField v i x) := by
  unfold setField updateField
  split
  · refine Still.bind (still_load _) fun o => ?_
    split
    · exact still_ite (still_update _ _ fun o => mapFields_dict _ o) trivial
    · trivial
  · trivial
theorem still_behind (env : Env) (outer : List Env) : Still (behindIsImport env outer) := by
  unfold behindIsImport
  exact still_ite trivial (still_ite trivial (Still.bind (still_field _ _) fun _ => trivial))
theorem still_kept (env : Env) (b : Bool) (l : List Env) : Still (keptBack env b l) := by
  cases l with
  | nil => exact still_ite trivial (Still.bind still_under fun _ => trivial)
  | cons c r => exact trivial
theorem still_ready : ∀ l : List Env, Still (readyFrames l)
  | [] => trivial
  | env :: outer => by
    unfold readyFrames
    split
    · refine Still.bind (still_load _) fun o => ?_
      refine still_ite trivial ?_
      refine Still.bind (still_behind _ _) fun b => Still.bind (still_kept _ _ _) fun c => Still.bind (still_update _ _ fun _ => rfl) fun _ => still_ready outer
    · trivial
theorem still_frameOf (env : Env) : Still (PySem.frameOf env) := by
  unfold PySem.frameOf
  refine Still.bind still_frameEnvs fun l => Still.bind ?_ fun v => ?_
  · unfold frameObject
    split
    · trivial
    · exact Still.bind (still_ready _) fun _ => trivial
  · split <;> trivial
theorem still_place (f : Addr) (b : Bool) : Still (entryPlaceOf f b) := by
  unfold entryPlaceOf
  refine Still.bind still_stack fun l => ?_
  split <;> trivial
theorem still_entry (a b c d e : Value) (l : List Value) : Still (EntryCells.newEntry a b c d e l) := by
  unfold EntryCells.newEntry newFields newObj
  dsimp only
  exact still_ite (Still.bind trivial fun _ => Still.bind (fun _ => trivial) fun _ => trivial) (Still.bind (fun _ => trivial) fun _ => trivial)
theorem still_setFlight (e : Value) (f : Option Addr) : Still (setFlight e f) := by
  unfold setFlight
  refine Still.bind (still_field _ _) fun v => still_ite (still_setField _ _ _) trivial
theorem still_note (e : Value) (env : Env) : Still (noteFrame e env) := by
  unfold noteFrame
  split
  · refine Still.bind (still_field _ _) fun v => ?_
    have tail : ∀ b, Still (do setField e 1 (← EntryCells.newEntry v (← PySem.frameOf env) .none (rawInt b) .none (← entryPlaceOf b (v != .none)))) := fun b =>
      Still.bind (still_frameOf _) fun _ => Still.bind (still_place _ _) fun _ => Still.bind (still_entry _ _ _ _ _ _) fun _ => still_setField _ _ _
    refine still_ite (Still.bind (still_field _ _) fun x => still_ite trivial (Still.bind (still_setField _ _ _) fun _ => tail _)) (tail _)
  · trivial
theorem still_leaving (env : Env) (e : Value) : Still (leaving env e) := Still.bind (still_note _ _) fun _ => still_setFlight _ _
end Mine
namespace Mine
open PySem.Calls PySem.Spec PySem.W PyProof.Rows

abbrev frs (l : List Env) : List Addr := l.filterMap (·.frame)
/-- objects that no frame owns and that stay through a raise -/
def XOK (base : Heap) (l : List Env) (h : Heap) (xs : Led) : Prop := ∀ q ∈ xs, h.get? q.1 = some q.2 ∧ base.get? q.1 = none ∧ q.1 ∉ frs l
def Fault (base : Heap) (l : List Env) (e : Addr) (k : Int) (xs : Led) (h : Heap) : Prop :=
  ∃ t vs dx es n tk, RaisedK base l e (.ref 67) t vs ((dx, dictOf es n) :: xs) h ∧ (∃ oe : Obj, h.objs[e]? = some oe ∧ oe.dict = some dx) ∧ getL "at" es = some (some (.int k tk))
abbrev tupO (vs : List Value) (n : Nat) : Obj := { cls := .type "tuple", data := .seq vs.toArray n }

theorem XOK.inner {base g h : Heap} {outer : List Env} {L a : Addr} {m : Str → Option Value} {xs : Led} {name : Str} {scope : Scope} {cd : Value} {cl : List (Str × Addr)} (F : Fr g L h m) (x : XOK base outer g xs) : XOK base (envX name scope L a cd cl :: outer) h xs := fun q hq => by
  refine (let gk : Prop := _; (?_ : gk))
  obtain ⟨h1, h2, h3⟩ := x q hq
  unfold gk
  clear gk
  refine ⟨F.keep _ _ h1, h2, fun hm => ?_⟩
  rcases List.mem_cons.mp (show q.1 ∈ L :: frs outer from hm) with e | hm
  · have := Heap.lt_size h1; rw [e] at this; exact absurd (Nat.lt_of_lt_of_le this F.above) (Nat.lt_irrefl _)
  · exact h3 hm
theorem pushX {A : Around} {base h₀ h : Heap} {outer : List Env} {L a : Addr} {m : Str → Option Value} {name : Str} {scope : Scope} {cd : Value} {cl : List (Str × Addr)}
    (K : Below A base outer h₀) (F : Fr h₀ L h m) (hk : scope.kind = .function := by rfl) : Below (A.deeper (envX name scope L a cd cl)) base (envX name scope L a cd cl :: outer) h := by
  have K' := K.push (name := name) (scope := scope) (a := a) (cd := cd) F hk
  refine (let gk : Prop := _; (?_ : gk))
  obtain ⟨_, hff, hrest⟩ := K'.frames
  unfold gk
  clear gk
  exact ⟨Around.frames_deeper K.stack, K'.stays, ⟨by show scope.kind ≠ .module; rw [hk]; decide, hff, hrest⟩⟩

section
variable {M : Model} {A : Around} {E : Value → Shared → Prop} {s' : Shared} {base g g₂ h : Heap} {outer : List Env} {L a e t1 dx : Addr} {m : Str → Option Value} {name : Str} {scope : Scope} {cd : Value} {Q : Unit → Shared → Prop} {news xs : Led} {k : Int}

theorem fault_on {cl : List (Str × Addr)} (K : Below A base outer g) (F : Fr g L g₂ m) (R : Fault base (envX name scope L a cd cl :: outer) e k xs s'.heap) (hsm : g₂.UpToSlots s'.heap)
    (hQ : ∀ h', Fault base outer e k xs h' → g.UpToSlots h' → Q () { s' with heap := h' }) :
    wpAny M (A.deeper (envX name scope L a cd cl)) (leaving (envX name scope L a cd cl) (.ref e)) Q E s' := by
  refine (let gk : Prop := _; (?_ : gk))
  obtain ⟨t, vs, dx, es, n, tk, ⟨⟨B, hB, hl, hfl, hnew⟩, htup⟩, ⟨oe, he, hd⟩, hg⟩ := R
  unfold gk
  clear gk
  refine wpAny_mono (Still.any (still_leaving _ _) (wpAny_leaves_onW (E := E) (Q := fun _ s'' => ∃ h', s'' = { s' with heap := h' } ∧ Heap.FlyingW B outer e (.ref 67) (.ref t) h' ∧ s'.heap.UpToSlots h') (Around.frames_deeper K.stack) rfl hfl fun h' x1 x2 => ⟨h', rfl, x1, x2⟩))
    (fun _ s'' hx => ?_) (fun _ _ x => x.1)
  obtain ⟨⟨h', rfl, x1, x2⟩, dk⟩ := hx
  refine (let gk : Prop := _; (?_ : gk))
  obtain ⟨oe', he', hd'⟩ := dk e oe he
  unfold gk
  clear gk
  exact hQ h' ⟨t, vs, dx, es, n, tk, ⟨⟨B, hB, hl, x1, hnew⟩, htup.of_slots x2⟩, ⟨oe', he', hd'.trans hd⟩, hg⟩ ((Heap.UpToSlots.of_keeps F.keep).trans (hsm.trans x2))

theorem fault_made {cl : List (Str × Addr)} {es : List DictEntry} {n tn tk : Nat} {vs : List Value} (K : Below A base outer g) (F : Fr g L s'.heap m) (N : News g L s'.heap news) (h1 : (e, excO 67 (some dx) t1) ∈ news) (h2 : (dx, dictOf es n) ∈ news) (h3 : (t1, tupO vs tn) ∈ news)
    (hx : XOK base outer g xs) (hat : getL "at" es = some (some (.int k tk)))
    (hQ : ∀ h', Fault base outer e k xs h' → g.UpToSlots h' → Q () { s' with heap := h' }) (hk : scope.kind = .function := by rfl) :
    wpAny M (A.deeper (envX name scope L a cd cl)) (leaving (envX name scope L a cd cl) (.ref e)) Q E s' := by
  have K' := pushX (name := name) (a := a) (cd := cd) (cl := cl) K F hk
  refine (let gk : Prop := _; (?_ : gk))
  obtain ⟨g1, n1, b1⟩ := N _ h1
  unfold gk
  clear gk
  refine (let gk : Prop := _; (?_ : gk))
  obtain ⟨g2, n2, b2⟩ := N _ h2
  unfold gk
  clear gk
  refine (let gk : Prop := _; (?_ : gk))
  obtain ⟨g3, n3, b3⟩ := N _ h3
  unfold gk
  clear gk
  have hE : ∀ {b : Addr}, b ∈ frs (envX name scope L a cd cl :: outer) → base.get? b = none ∧ ∃ o : Obj, s'.heap.get? b = some o := fun {b} hm => by
    refine (let gk : Prop := _; (?_ : gk))
    obtain ⟨x1, o, x2, _⟩ := K'.frames.mem hm
    unfold gk
    clear gk
    exact ⟨x1, o, x2⟩
  have hO : ∀ {b : Addr}, b ∈ frs outer → ∃ o : Obj, g.get? b = some o := fun {b} hm => by
    refine (let gk : Prop := _; (?_ : gk))
    obtain ⟨_, o, x2, _⟩ := K.frames.mem hm
    unfold gk
    clear gk
    exact ⟨o, x2⟩
  have de : dx ≠ e := fun q => by
    subst q
    rw [g1] at g2
    injection g2 with g2
    injection g2 with _ _ g2
    cases g2
  have dt : dx ≠ t1 := fun q => by
    subst q
    rw [g3] at g2
    injection g2 with g2
    injection g2 with _ _ g2
    cases g2
  have te : t1 ≠ e := fun q => by
    subst q
    rw [g1] at g3
    injection g3 with g3
    injection g3 with _ _ g3
    cases g3
  have nL : g.get? L = none := Heap.get?_none_of_le F.above
  let hid : List Addr := frs (envX name scope L a cd cl :: outer) ++ [e, t1]
  have st : base.StaysIn (hideAll s'.heap hid) := fun b o q => hideAll_get _ (K'.stays b o q) fun hm => by
    rcases List.mem_append.mp hm with hm | hm
    · rw [(hE hm).1] at q; cases q
    · rcases List.mem_cons.mp hm with rfl | hm
      · rw [fresh_of_stays K.stays b1] at q; cases q
      · obtain rfl := List.mem_singleton.mp hm
        rw [fresh_of_stays K.stays b3] at q; cases q
  have nw : ∀ q ∈ (dx, dictOf es n) :: xs, (hideAll s'.heap hid).get? q.1 = some q.2 ∧ base.get? q.1 = none := fun q hq => by
    rcases List.mem_cons.mp hq with rfl | hq
    · refine ⟨hideAll_get _ g2 fun hm => ?_, fresh_of_stays K.stays b2⟩
      rcases List.mem_append.mp hm with hm | hm
      · rcases List.mem_cons.mp (show dx ∈ L :: frs outer from hm) with q | hm
        · exact n2 q
        · obtain ⟨o, ho⟩ := hO hm
          rw [b2] at ho; cases ho
      · rcases List.mem_cons.mp hm with q | hm
        · exact de q
        · exact dt (List.mem_singleton.mp hm)
    · refine (let gk : Prop := _; (?_ : gk))
      obtain ⟨x1, x2, x3⟩ := hx q hq
      unfold gk
      clear gk
      refine ⟨hideAll_get _ (F.keep _ _ x1) fun hm => ?_, x2⟩
      rcases List.mem_append.mp hm with hm | hm
      · rcases List.mem_cons.mp (show q.1 ∈ L :: frs outer from hm) with z | hm
        · rw [z, nL] at x1; cases x1
        · exact x3 hm
      · rcases List.mem_cons.mp hm with z | hm
        · rw [z, b1] at x1; cases x1
        · rw [List.mem_singleton.mp hm, b3] at x1; cases x1
  have hen : (hideAll s'.heap hid).get? e = none := hideAll_none _ (List.mem_append_right _ (.head _))
  have htn : (hideAll s'.heap hid).get? t1 = none := hideAll_none _ (List.mem_append_right _ (.tail _ (.head _)))
  have hff : s'.heap.FunFrames (hideAll s'.heap hid) (envX name scope L a cd cl :: outer) := funFrames_hide K'.frames fun env he b hb => List.mem_append_left _ (List.mem_filterMap.mpr ⟨env, he, hb⟩)
  refine wpAny_mono (Still.any (still_leaving _ _) (wpAny_leaving_firstW (E := E) (Q := fun _ s'' => ∃ h', s'' = { s' with heap := h' } ∧ Heap.LeftW (hideAll s'.heap hid) (envX name scope L a cd cl :: outer) e (.ref 67) (.ref t1) s'.heap h') K'.stack hff rfl g1 (fun b o q => of_hideAll _ q) hen rfl rfl rfl fun h' hL => ⟨h', rfl, hL⟩))
    (fun _ s'' hx => ?_) (fun _ _ x => x.1)
  obtain ⟨⟨h', rfl, k1, ⟨_, _, k2⟩, k3, k4⟩, dk⟩ := hx
  refine (let gk : Prop := _; (?_ : gk))
  obtain ⟨oe', he', hd'⟩ := dk e _ (Heap.get?_some_iff.mp g1).1
  unfold gk
  clear gk
  exact hQ h' ⟨t1, vs, dx, es, n, tk, ⟨⟨_, st, nw, ⟨k1, hen, k2, k3⟩, htn⟩, Heap.TupAt.of_slots ⟨_, _, g3, rfl, rfl⟩ k4⟩, ⟨oe', he', hd'⟩, hat⟩ ((Heap.UpToSlots.of_keeps F.keep).trans k4)
end

/-- how a body ends with a fault: raised here, or come through a call -/
def Throw (s : Shared) (base g : Heap) (L' : Addr) (env : Env) (outer : List Env) (xs : Led) (epost : Int → Prop) (v : Value) (s' : Shared) : Prop :=
  ∃ e k h' tk', v = .ref e ∧ s' = { s with heap := h', toks := tk' } ∧ epost k ∧
    ((∃ m news dx es n t1 vs tn tk, Fr g L' h' m ∧ News g L' h' news ∧ (e, excO 67 (some dx) t1) ∈ news ∧ (dx, dictOf es n) ∈ news ∧ (t1, tupO vs tn) ∈ news ∧ getL "at" es = some (some (.int k tk)))
      ∨ (∃ g₂ m, Fr g L' g₂ m ∧ g₂.UpToSlots h' ∧ Fault base (env :: outer) e k xs h'))
theorem Throw.on {s : Shared} {base g h : Heap} {L' : Addr} {env : Env} {outer : List Env} {xs : Led} {epost : Int → Prop} {e : Addr} {k : Int} {h' : Heap} {tk' : Nat} {m : Str → Option Value}
    (F : Fr g L' h m) (hp : epost k) (R : Fault base (env :: outer) e k xs h') (sm : h.UpToSlots h') : Throw s base g L' env outer xs epost (.ref e) { s with heap := h', toks := tk' } :=
  ⟨e, k, h', tk', rfl, rfl, hp, .inr ⟨_, _, F, sm, R⟩⟩

/-- a contract of a def that answers or raises a FilterFault -/
def XSpec (w : World) (f : Addr) (dn : Nat) (vs : List Value) (rd : Led) (post : Value → Led → Prop) (epost : Int → Prop) : Prop :=
  ∀ (dp un : Nat) (gd : Option (List Code)) (cn : Str) (cs : Scope) (a : Addr) (ccd : Value) (cl : List (Str × Addr)) (outer : List Env) (A₀ : Around) (base h₀ : Heap) (L : Addr) (m : Str → Option Value) (s : Shared) (Q E : Value → Shared → Prop)
    (p : Program) (loose : List Str) (mean : ExcName → Option Value) (mg mb : Str → Option Value) (xs : Led),
    Below A₀ base outer h₀ → Fr h₀ L s.heap m → (hd.heap_1 w.params).In h₀ → Top p loose mean mg mb h₀ → cs.kind = .function →
    dp + dn < recursionLimit → un + 8 * dn < cLine → (∀ p ∈ rd, s.heap.get? p.1 = some p.2) → XOK base (envX cn cs L a ccd cl :: outer) s.heap xs → Ret h₀ L m s [] Q post →
    (∀ (e : Addr) (k : Int) (h' : Heap) (tk' : Nat), epost k → Fault base (envX cn cs L a ccd cl :: outer) e k xs h' → s.heap.UpToSlots h' → E (.ref e) { s with heap := h', toks := tk' }) →
      wpAny (model PySem.Challenge.rw_nn0196_01.row.prog w) (ktrTop dp un gd cn cs L a ccd cl outer) (call (.ref f) vs) Q E s

theorem XSpec.of_body {w : World} {f : Addr} {dn : Nat} {vs : List Value} {rd : Led} {post : Value → Led → Prop} {epost : Int → Prop} (binds : List (Str × Value))
    {name qual : Str} {params : Arguments} {body : List Stmt} {scope : Scope} {dV kV doc pm cdv ct oc : Value} {an od : Option Addr} {osl : Array (Option Value)}
    (ho : (hd.heap_1 w.params).lookup f = some ⟨oc, od, .func (fnOf name qual params body scope dV kV doc pm an cdv ct), osl⟩) (hcd : codeIn (hd.heap_1 w.params) cdv qual = true)
    (hbind : ∀ s : Shared, (hd.heap_1 w.params).In s.heap → BindsTo s (fnOf name qual params body scope dV kV doc pm an cdv ct) ⟨vs, []⟩ binds) (hloc : ∀ y ∈ binds, scope.names.lookup y.1 = some .local)
    (hcell : ∀ x ∈ scope.names, x.2 ≠ .cell) (hco : scope.isCoroutine = false) (hgen : scope.isGenerator = false) (hk : scope.kind = .function)
    (h : ∀ (dp un : Nat) (gd : Option (List Code)) (cn : Str) (cs : Scope) (L a : Addr) (ccd : Value) (cl : List (Str × Addr)) (outer : List Env) (base g : Heap) (L' : Addr) (h₁ : Heap) (s : Shared) (tk : Nat)
      (p : Program) (loose : List Str) (mean : ExcName → Option Value) (mg mb : Str → Option Value) (xs : Led), dp + dn < recursionLimit → un + 8 * dn < cLine →
      Below (ktrTop dp un gd cn cs L a ccd cl outer) base (envX cn cs L a ccd cl :: outer) g → Fr g L' h₁ (fun y => binds.reverse.lookup y) → (hd.heap_1 w.params).In g → Top p loose mean mg mb g → (∀ p ∈ rd, g.get? p.1 = some p.2) → XOK base (envX cn cs L a ccd cl :: outer) g xs →
      ∀ (Qe : Value → Shared → Prop) (Ee : Value → Shared → Prop), (∀ v s', Throw s base g L' (envOf qual scope L' f cdv) (envX cn cs L a ccd cl :: outer) xs epost v s' →
        wpAny (model PySem.Challenge.rw_nn0196_01.row.prog w) ((ktrTop dp un gd cn cs L a ccd cl outer).deeper (envOf qual scope L' f cdv)) (leaving (envOf qual scope L' f cdv) v) (fun _ s'' => Qe v s'') Ee s') →
      wpAny (model PySem.Challenge.rw_nn0196_01.row.prog w) ((ktrTop dp un gd cn cs L a ccd cl outer).deeper (envOf qual scope L' f cdv)) (execs body (envOf qual scope L' f cdv))
        (fun fl s' => Back s g post (match fl with | .ret v => v | _ => .none) s')
        (fun v s' => wpAny (model PySem.Challenge.rw_nn0196_01.row.prog w) ((ktrTop dp un gd cn cs L a ccd cl outer).deeper (envOf qual scope L' f cdv)) (leaving (envOf qual scope L' f cdv) v) (fun _ s'' => Qe v s'') Ee s') { s with heap := h₁, toks := tk })
    (hdn : 0 < dn := by decide) : XSpec w f dn vs rd post epost := by
  intro dp un gd cn cs a ccd cl outer A₀ base h₀ L m s Q E p loose mean mg mb xs B F X T hck hdp hu hrd hxs hret hthr
  refine wpAny_call ?_
  refine (let gk : Prop := _; (?_ : gk))
  obtain ⟨FG, BG, st, _⟩ := groundX (R := fun _ _ => True) (news := []) (A := ktrTop dp un gd cn cs L a ccd cl outer) (env := envX cn cs L a ccd cl) B F (fun _ h => nomatch h) rfl rfl hck
  unfold gk
  clear gk
  have Xs : (hd.heap_1 w.params).In s.heap := X.keeps F.keep
  refine codeAny_call_def (fd := fnOf name qual params body scope dV kV doc pm an cdv ct) (body := body) (binds := binds) (by show dp < recursionLimit; omega) (Xs _ _ ho) rfl (T.nolimit.keeps F.keep) (codeRec_of Xs hcd) rfl (hbind s Xs) hcell hloc (fun h₁ hns hk₁ => ?_) hco hgen hk
  have kg : ∀ b o, s.heap.get? b = some o → (hideAll s.heap (([] : Led).map (·.1))).get? b = some o := fun b o e => hideAll_get _ e (fun h => nomatch h)
  have hxg : XOK base (envX cn cs L a ccd cl :: outer) (hideAll s.heap (([] : Led).map (·.1))) xs := fun q hq => ⟨kg _ _ (hxs q hq).1, (hxs q hq).2⟩
  refine wpAny_mono (h dp un gd cn cs L a ccd cl outer base _ s.heap.objs.size h₁ s (s.toks + binds.length) p loose mean mg mb xs hdp hu BG ⟨hns, fun b o e => hk₁ b o (of_hideAll _ e), Nat.le_of_eq (hideAll_size _ _)⟩
    (X.keeps st) (T.keeps st) (fun p hp => kg _ _ (hrd p hp)) hxg _ _ (fun v s' hT => ?_)) (fun fl s' hB => ?_) (fun v s' hT => hT)
  · obtain ⟨e, k, h', tk', rfl, rfl, hp, hh⟩ := hT
    have ug : ∀ {h'}, (hideAll s.heap (([] : Led).map (·.1))).UpToSlots h' → s.heap.UpToSlots h' := fun x => (Heap.UpToSlots.of_keeps kg).trans x
    rcases hh with ⟨m, news, dx, es, n, t1, vs', tn, tk, F', N', i1, i2, i3, hat⟩ | ⟨g₂, m, F', sm, R⟩
    · exact fault_made BG F' N' i1 i2 i3 hxg hat (fun h'' R' sm' => hthr _ _ _ _ hp R' (ug sm')) hk
    · exact fault_on BG F' R sm (fun h'' R' sm' => hthr _ _ _ _ hp R' (ug sm'))
  · obtain ⟨L'', m'', news', h', tk', rfl, F'', N'', hp⟩ := hB
    have kp : Kept s.heap h' [] := fun b o hb e => F''.keep b o (hideAll_get _ e hb)
    refine (let gk : Prop := _; (?_ : gk))
    obtain ⟨oL, es, ep, hL, hLd, hLk, hLf⟩ := FG.ns
    unfold gk
    clear gk
    refine hret _ news' h' tk' ⟨⟨oL, es, ep, F''.keep _ _ hL, hLd, hLk, hLf⟩, fun b o e => F''.keep _ _ (FG.keep _ _ e), F.above⟩ (fun p hp' => ⟨(N'' p hp').1, fun e => ?_, ?_⟩) kp (fun p hp' => .inr ?_) hp
    · have := (N'' p hp').2.2; rw [e, hL] at this; cases this
    · cases q : h₀.get? p.1 with
      | none => rfl
      | some o => have := (N'' p hp').2.2; rw [FG.keep _ _ q] at this; cases this
    · cases q : s.heap.get? p.1 with
      | none => rfl
      | some o => have := (N'' p hp').2.2; rw [kg _ _ q] at this; cases this

/-- the same for a def with cells of its own -/
theorem XSpec.of_bodyC {w : World} {f : Addr} {dn : Nat} {vs : List Value} {rd : Led} {post : Value → Led → Prop} {epost : Int → Prop} (binds : List (Str × Value))
    {name qual : Str} {params : Arguments} {body : List Stmt} {scope : Scope} {dV kV doc pm cdv ct oc : Value} {an od : Option Addr} {osl : Array (Option Value)}
    (ho : (hd.heap_1 w.params).lookup f = some ⟨oc, od, .func (fnOf name qual params body scope dV kV doc pm an cdv ct), osl⟩) (hcd : codeIn (hd.heap_1 w.params) cdv qual = true)
    (hbind : bindArgs (fnOf name qual params body scope dV kV doc pm an cdv ct) ⟨vs, []⟩ = pure binds) (hloc : ∀ y ∈ binds, scope.names.lookup y.1 = some .local)
    (hnd : ((cellsFrom 0 scope.names []).map (·.1)).Nodup) (hco : scope.isCoroutine = false) (hgen : scope.isGenerator = false) (hk : scope.kind = .function)
    (h : ∀ (dp un : Nat) (gd : Option (List Code)) (cn : Str) (cs : Scope) (L a : Addr) (ccd : Value) (cl : List (Str × Addr)) (outer : List Env) (base g : Heap) (L' : Addr) (h₁ : Heap) (s : Shared) (tk : Nat) (cells : Led)
      (p : Program) (loose : List Str) (mean : ExcName → Option Value) (mg mb : Str → Option Value) (xs : Led), dp + dn < recursionLimit → un + 8 * dn < cLine →
      Below (ktrTop dp un gd cn cs L a ccd cl outer) base (envX cn cs L a ccd cl :: outer) g → Fr g L' h₁ (bindL (envOfC qual scope L' f cdv).kindOf binds fun _ => none) → News g L' h₁ cells → CellsAre (bindC (envOfC qual scope L' f cdv).kindOf binds fun _ => none) (cellsFrom (L' + 1) scope.names []) cells → (hd.heap_1 w.params).In g → Top p loose mean mg mb g → (∀ p ∈ rd, g.get? p.1 = some p.2) → XOK base (envX cn cs L a ccd cl :: outer) g xs →
      ∀ (Qe : Value → Shared → Prop) (Ee : Value → Shared → Prop), (∀ v s', Throw s base g L' (envOfC qual scope L' f cdv) (envX cn cs L a ccd cl :: outer) xs epost v s' →
        wpAny (model PySem.Challenge.rw_nn0196_01.row.prog w) ((ktrTop dp un gd cn cs L a ccd cl outer).deeper (envOfC qual scope L' f cdv)) (leaving (envOfC qual scope L' f cdv) v) (fun _ s'' => Qe v s'') Ee s') →
      wpAny (model PySem.Challenge.rw_nn0196_01.row.prog w) ((ktrTop dp un gd cn cs L a ccd cl outer).deeper (envOfC qual scope L' f cdv)) (execs body (envOfC qual scope L' f cdv))
        (fun fl s' => Back s g post (match fl with | .ret v => v | _ => .none) s')
        (fun v s' => wpAny (model PySem.Challenge.rw_nn0196_01.row.prog w) ((ktrTop dp un gd cn cs L a ccd cl outer).deeper (envOfC qual scope L' f cdv)) (leaving (envOfC qual scope L' f cdv) v) (fun _ s'' => Qe v s'') Ee s') { s with heap := h₁, toks := tk })
    (hdn : 0 < dn := by decide) : XSpec w f dn vs rd post epost := by
  intro dp un gd cn cs a ccd cl outer A₀ base h₀ L m s Q E p loose mean mg mb xs B F X T hck hdp hu hrd hxs hret hthr
  refine wpAny_call ?_
  refine (let gk : Prop := _; (?_ : gk))
  obtain ⟨FG, BG, st, _⟩ := groundX (R := fun _ _ => True) (news := []) (A := ktrTop dp un gd cn cs L a ccd cl outer) (env := envX cn cs L a ccd cl) B F (fun _ h => nomatch h) rfl rfl hck
  unfold gk
  clear gk
  have Xs : (hd.heap_1 w.params).In s.heap := X.keeps F.keep
  refine codeAny_call_cells (fd := fnOf name qual params body scope dV kV doc pm an cdv ct) (body := body) (binds := binds) (by show dp < recursionLimit; omega) (Xs _ _ ho) rfl (T.nolimit.keeps F.keep) (codeRec_of Xs hcd) rfl hbind rfl (fun y hy => .inl (hloc y hy)) (fun s₁ XC => ?_) hco hgen hk
  obtain ⟨h₁, tk₁, rfl, _⟩ := XC.done
  have kc : ∀ n c, (n, c) ∈ cellsFrom (s.heap.objs.size + 1) scope.names [] → h₁.IsCell c (bindC (envOfC qual scope s.heap.objs.size f cdv).kindOf binds (fun _ => none) n) ∧ s.heap.objs.size < c := fun n c hm =>
    ⟨XC.cell n c (lookup_of_mem_nodup (cellsFrom_names scope.names 0 (s.heap.objs.size + 1) [] [] rfl ▸ hnd) hm), XC.above n c hm⟩
  have kg : ∀ b o, s.heap.get? b = some o → (hideAll s.heap (([] : Led).map (·.1))).get? b = some o := fun b o e => hideAll_get _ e (fun h => nomatch h)
  have hxg : XOK base (envX cn cs L a ccd cl :: outer) (hideAll s.heap (([] : Led).map (·.1))) xs := fun q hq => ⟨kg _ _ (hxs q hq).1, (hxs q hq).2⟩
  have hk₁ : ∀ b o, s.heap.get? b = some o → h₁.get? b = some o := XC.toInCall.keep
  have FB : Fr (hideAll s.heap (([] : Led).map (·.1))) s.heap.objs.size h₁ (bindL (envOfC qual scope s.heap.objs.size f cdv).kindOf binds fun _ => none) := ⟨XC.toInCall.ns, fun b o e => hk₁ b o (of_hideAll _ e), Nat.le_of_eq (hideAll_size _ _)⟩
  refine (let gk : Prop := _; (?_ : gk))
  obtain ⟨cells, NC, YC⟩ := Cl.news (h₀ := hideAll s.heap (([] : Led).map (·.1))) (Nat.le_of_eq (hideAll_size _ _)) kc
  unfold gk
  clear gk
  refine wpAny_mono (h dp un gd cn cs L a ccd cl outer base _ s.heap.objs.size h₁ s tk₁ cells p loose mean mg mb xs hdp hu BG FB NC YC
    (X.keeps st) (T.keeps st) (fun p hp => kg _ _ (hrd p hp)) hxg _ _ (fun v s' hT => ?_)) (fun fl s' hB => ?_) (fun v s' hT => hT)
  · obtain ⟨e, k, h', tk', rfl, rfl, hp, hh⟩ := hT
    have ug : ∀ {h'}, (hideAll s.heap (([] : Led).map (·.1))).UpToSlots h' → s.heap.UpToSlots h' := fun x => (Heap.UpToSlots.of_keeps kg).trans x
    rcases hh with ⟨m, news, dx, es, n, t1, vs', tn, tk, F', N', i1, i2, i3, hat⟩ | ⟨g₂, m, F', sm, R⟩
    · exact fault_made BG F' N' i1 i2 i3 hxg hat (fun h'' R' sm' => hthr _ _ _ _ hp R' (ug sm')) hk
    · exact fault_on BG F' R sm (fun h'' R' sm' => hthr _ _ _ _ hp R' (ug sm'))
  · obtain ⟨L'', m'', news', h', tk', rfl, F'', N'', hp⟩ := hB
    have kp : Kept s.heap h' [] := fun b o hb e => F''.keep b o (hideAll_get _ e hb)
    refine (let gk : Prop := _; (?_ : gk))
    obtain ⟨oL, es, ep, hL, hLd, hLk, hLf⟩ := FG.ns
    unfold gk
    clear gk
    refine hret _ news' h' tk' ⟨⟨oL, es, ep, F''.keep _ _ hL, hLd, hLk, hLf⟩, fun b o e => F''.keep _ _ (FG.keep _ _ e), F.above⟩ (fun p hp' => ⟨(N'' p hp').1, fun e => ?_, ?_⟩) kp (fun p hp' => .inr ?_) hp
    · have := (N'' p hp').2.2; rw [e, hL] at this; cases this
    · cases q : h₀.get? p.1 with
      | none => rfl
      | some o => have := (N'' p hp').2.2; rw [FG.keep _ _ q] at this; cases this
    · cases q : s.heap.get? p.1 with
      | none => rfl
      | some o => have := (N'' p hp').2.2; rw [kg _ _ q] at this; cases this

theorem XSpec.use {w : World} {f : Addr} {dn : Nat} {vs : List Value} {rd news : Led} {post : Value → Led → Prop} {epost : Int → Prop} (S : XSpec w f dn vs rd post epost)
    {dp un : Nat} {gd : Option (List Code)} {cn : Str} {cs : Scope} {a : Addr} {ccd : Value} {cl : List (Str × Addr)} {outer : List Env} {A₀ : Around} {base h₀ : Heap} {L : Addr} {m : Str → Option Value} {s : Shared} {Q E : Value → Shared → Prop}
    {p : Program} {loose : List Str} {mean : ExcName → Option Value} {mg mb : Str → Option Value} {xs : Led}
    (B : Below A₀ base outer h₀) (F : Fr h₀ L s.heap m) (X : (hd.heap_1 w.params).In h₀) (N : News h₀ L s.heap news) (T : Top p loose mean mg mb h₀) (hk : cs.kind = .function)
    (hr : dp + dn < recursionLimit) (hu : un + 8 * dn < cLine) (hrd : ∀ p ∈ rd, p ∈ news) (hx : XOK base (envX cn cs L a ccd cl :: outer) s.heap xs)
    (hE : ∀ (e : Addr) (k : Int) (h' : Heap) (tk' : Nat), epost k → Fault base (envX cn cs L a ccd cl :: outer) e k xs h' → s.heap.UpToSlots h' → E (.ref e) { s with heap := h', toks := tk' })
    (ret : ∀ (r : Value) (n' : Led) (h' : Heap) (tk' : Nat), Fr h₀ L h' m → News h₀ L h' (n' ++ news) → (∀ p ∈ n', AllNe p.1 news) → post r n' → Q r { s with heap := h', toks := tk' }) :
      wpAny (model PySem.Challenge.rw_nn0196_01.row.prog w) (ktrTop dp un gd cn cs L a ccd cl outer) (call (.ref f) vs) Q E s :=
  S dp un gd cn cs a ccd cl outer A₀ base h₀ L m s Q E p loose mean mg mb xs B F X T hk hr hu (fun q hq => (N q (hrd q hq)).1) hx (fun r n' h' tk' F' N' kp fr hp =>
    ret r n' h' tk' F' (fun q hq => by
      rcases List.mem_append.mp hq with hq | hq
      · exact N' q hq
      · exact ⟨kp _ _ (fun x => nomatch x) (N q hq).1, (N q hq).2⟩) (fun q hq => allNe_of fun q' hq' e => by
      rcases fr q hq with h | h
      · cases h
      · rw [← e, (N q' hq').1] at h; cases h) hp) hE
end Mine
namespace Mine
open PySem.Calls PySem.Spec PySem.W PyProof.Rows Builtin Builtin.ObjectAttr

theorem newsSwap {h₀ h : Heap} {L : Addr} {p q : Addr × Obj} {r : Led} (N : News h₀ L h (p :: q :: r)) : News h₀ L h (q :: p :: r) := fun z hz => N z (by
  rcases List.mem_cons.mp hz with rfl | hz
  · exact .tail _ (.head _)
  · rcases List.mem_cons.mp hz with rfl | hz
    · exact .head _
    · exact .tail _ (.tail _ hz))

section
variable {prog : Program} {w : World} {A : Around} {E : Value → Shared → Prop} {s : Shared} {K : Frag} {C D : Addr} {cd : ClassData} {h₀ : Heap} {L : Addr} {m : Str → Option Value} {x t0 t1 dx : Addr} {name : Str} {v : Value}

theorem exc_check_init {nm q : Str} {N : Addr} {bs : List Value} {hdct : Bool} {sn : List Str} {sub : List Value} {ab : Bool} {col : Option Bool} {dd : Option Addr} {k0 k1 k2 k3 k5 : Option Value} {rest : List Value} {Q : Unit → Shared → Prop} {oe : Option Addr}
    (hC : s.heap.get? C = some (excClassObj nm q C N bs [.ref D, .type "Exception", .type "BaseException", .type "object"] hdct sn sub ab col dd k0 k1 k2 k3 k5 "Exception.__new__")) (he : s.heap.get? x = some (excO C oe t0)) (h : Q () s) :
    wpAny (model prog w) A (checkBuiltinCall "Exception.__init__" ⟨.ref x :: rest, []⟩) Q E s := by
  have FC := PySem.F.excCall_Exception
  refine (let gk : Prop := _; (?_ : gk))
  obtain ⟨hp, g, d, t, os⟩ := s
  unfold gk
  clear gk
  have hcB : (Value.ref C :: [Value.ref D, .type "Exception", .type "BaseException", .type "object"]).contains (.type "Exception") = true := by
    rw [List.contains_cons, List.contains_cons]; simp
  have hshort := FC.noStar
  simp only [checkBuiltinCall, FC.initKind, FC.initSplit, FC.initRow]
  repeat (first | with_reducible refine wpAny_loadPart_at he ?_ | with_reducible refine wpAny_loadPart_at hC ?_ | (with_reducible refine wpAny_isSubtype_exc hC ?_; rw [hcB]) | wp_step)
  refine wpAny_onRaise ?_
  rw [show ∀ (a b : String) (n : Nat), Bind.check ⟨.positional, "*", "Exception", .self, [⟨"args", .varPos, false⟩]⟩ a b n (List.map (fun x => x.fst) ({ pos := Value.ref x :: rest } : Args).kw) = pure () from
    fun a b n => check_star_args _ _ _ _ _ _]
  exact wpAny_pure h

theorem exc_base_init (Y : ExcCls K C D cd) {Q : Value → Shared → Prop} {rest : Led} {what : Value} (F : Fr h₀ L s.heap m) (X₀ : K.In h₀) (N : News h₀ L s.heap ((x, excO C none t0) :: rest)) (ne : ∀ p ∈ rest, p.1 ≠ x)
    (h : ∀ h' t1, Fr h₀ L h' m → News h₀ L h' ((t1, tupO [what] 0) :: (x, excO C none t1) :: rest) → (∀ p ∈ rest, p.1 < t1) → x < t1 → Q .none { s with heap := h' }) :
    wpAny (model prog w) A (call (.builtin "Exception.__init__") [.ref x, what]) Q E s := by
  have FC := PySem.F.excCall_Exception
  have X := X₀.keeps F.keep
  have hx1 := (N (x, excO C none t0) (.head _)).1
  have I : InstAt s.heap x (excO C none t0) C none := ⟨hx1, rfl, rfl, trivial⟩
  have sub : Looks (model prog w) s.heap (isInstance (.ref x) (.type "Exception")) true := I.type.andThen (looks_mroIn X Y.exc)
  refine (let gk : Prop := _; (?_ : gk))
  obtain ⟨nm, q, N', bs, hdct, sn, sub', ab, col, dd, k0, k1, k2, k3, k5, hC⟩ := Y.cobj
  unfold gk
  clear gk
  have hC := X _ _ hC
  refine wpAny_call (codeAny_call_builtin FC.init.plain FC.initEntry (exc_check_init hC hx1 ?_))
  unfold Builtin.«BaseException.__init__»
  dsimp only
  rw [if_neg (by simp)]
  unfold newTuple Builtin.BaseException.bexcPut
  have N1 := N.push F (tupO [what] 0)
  have F1 := F.push (tupO [what] 0)
  obtain ⟨F2, N2⟩ := exc_upd (f := Obj.mapFields (·.setIfInBounds 0 (.ref s.heap.objs.size))) (o' := excO C none s.heap.objs.size) F1 (newsSwap N1) (fun p hp => by
    rcases List.mem_cons.mp hp with rfl | hp
    · exact Ne.symm (Nat.ne_of_lt (show x < s.heap.objs.size from Heap.lt_size hx1))
    · exact ne p hp) rfl rfl
  have he1 := (newsSwap N1 _ (.head _)).1
  refine wpAny_bind (wpAny_newObj_type (wpAny_bind (wpAny_bind (wpAny_field he1 rfl rfl (wpAny_bind (wpAny_setField he1 rfl (by show 0 < 6; decide) ?_))))) (by size_fits))
  exact wpAny_letGo (wpAny_pure (h _ _ F2 (newsSwap N2) (fun p hp => Heap.lt_size (N p (.tail _ hp)).1) (Heap.lt_size hx1)))
end

theorem ff (w : World) : ∃ cd, ExcCls (hd.heap_1 w.params) 67 54 cd := by
  refine ⟨?cd, ?_⟩
  case cd => exact { name := PySem.Str.ofString "FilterFault", bases := [PySem.Value.ref 54], mro := [PySem.Value.ref 67, PySem.Value.ref 54, PySem.Value.type "Exception", PySem.Value.type "BaseException", PySem.Value.type "object"], ns := 66, qualname := PySem.Str.ofString "FilterFault" }
  exact ⟨by k_is, rfl, rfl, by k_is, by k_is, by k_is, ⟨_, _, _, _, _, _, _, _, _, _, _, _, _, _, _, by k_is⟩⟩

theorem ei_found (w : World) : findCls (hd.heap_1 w.params) (.type "Exception") (.type "type") "__init__" = some (.val (.builtin "Exception.__init__")) := by k_dflt k_is
theorem ei_meta : typeOf (.type "Exception") = pure (.type "type") := by first | rfl | kernel_rfl
theorem ff_what (w : World) : findIn (hd.heap_1 w.params) (.ref 67) "what" = some none := by k_is
theorem ff_at (w : World) : findIn (hd.heap_1 w.params) (.ref 67) "at" = some none := by k_is

theorem init_spec (w : World) (e t0 : Addr) (what : Value) (at' : Int) (t : Tok) :
    CSpec w 44 3 [.ref e, what, .int at' t] [] [(e, excO 67 none t0)] (fun r n => r = .none ∧ ∃ t1 dx es k tn, n = [(dx, dictOf es k), (e, excO 67 (some dx) t1), (t1, tupO [what] tn)] ∧ ∃ tk, getL "at" es = some (some (.int at' tk))) := by
  refine' CSpec.of_body [(Str.ofString "self", .ref e), (Str.ofString "what", what), (Str.ofString "at", .int at' t)] ?ho ?hcd ?hb ?hl ?hc ?h1 ?h2 ?h3 ?_
  walk_at "mine body"
  intro dp un gd cn cs L a ccd cl outer base g L' h₁ s tk p loose mean mg mb hd9 hu B F N X T lt hrd
  walk_at "mine go"
  have kM := kstMark
  obtain ⟨cd, Y⟩ := ff w
  k_steps
  k_here
  with_reducible refine' method_type ?F ?X ?ht ?dec ?fnd ?h ?_
  case ht => exact ei_meta
  case dec => decide +kernel
  case X => k_asm
  case fnd => exact ei_found w
  case F => k_asm
  case h => k_handed
  k_steps
  refine exc_base_init (rest := []) Y (by k_asm) (by k_asm) (by k_asm) (fun _ h => nomatch h) ?_
  intro h2 t2 F2 N2 l2 l3
  k_steps
  refine exc_set_new (rest := [(t2, tupO [what] 0)]) Y F2 (by k_asm) (newsSwap N2) (fun p hp => by rw [List.mem_singleton.mp hp]; exact Ne.symm (Nat.ne_of_lt l3)) (ff_what w) rfl ?_
  intro h3 dx F3 N3 l4
  k_steps
  refine exc_set_old (rest := [(e, excO 67 (some dx) t2), (t2, tupO [what] 0)]) (t1 := t2) (x := e) Y F3 (by k_asm) N3 (.head _) (fun p hp => Nat.ne_of_lt (l4 p hp)) (ff_at w) ?l rfl rfl ?z ?_
  case l => k_get
  case z => exact Nat.le_of_ble_eq_true rfl
  intro h4 F4 N4
  k_steps
  refine Back.intro _ F4 N4 (fun _ h => h) ⟨rfl, _, _, _, _, _, rfl, t, rfl⟩

end Mine
namespace Mine
open PySem.Calls PySem.Spec PySem.W Builtin Builtin.ObjectAttr

section
variable {prog : Program} {w : World} {A : Around} {E : Value → Shared → Prop} {K : Frag} {C D : Addr} {cd : ClassData} {h : Heap} {g : Array GenState} {d : Drawn} {t : Nat} {os : OsState}
  {nm q : Str} {N : Addr} {bs : List Value} {hdct : Bool} {sn : List Str} {sub : List Value} {ab : Bool} {col : Option Bool} {dd : Option Addr} {k0 k1 k2 k3 k5 : Option Value} {rest : List Value}

theorem exc_check_new {M : Model} {Q : Unit → Shared → Prop} (hC : h.get? C = some (excClassObj nm q C N bs [.ref D, .type "Exception", .type "BaseException", .type "object"] hdct sn sub ab col dd k0 k1 k2 k3 k5 "Exception.__new__"))
    (hq : Q () ⟨h, g, d, t, os⟩) : wpAny M A (checkBuiltinCall "Exception.__new__" ⟨.ref C :: rest, []⟩) Q E ⟨h, g, d, t, os⟩ := by
  have F := PySem.F.excBase_Exception
  have hcont : (Value.ref C :: [Value.ref D, .type "Exception", .type "BaseException", .type "object"]).contains (.type "Exception") = true := by
    rw [List.contains_cons, List.contains_cons]; simp
  have hstar := F.noStar
  simp only [checkBuiltinCall, F.newKind, F.newSplit, F.newRow]
  repeat (first | refine wpAny_loadPart_at hC ?_ | (refine wpAny_isSubtype_exc hC ?_; rw [hcont]) | refine wpAny_staticBase_exc hC ?_ | refine wpAny_madeBy_exc hC ?_ | simp only [bne_self_eq_false, Bool.false_eq_true, if_false] | wp_step)
  exact hq

theorem exc_new {R : Result → Shared → Prop} (hC : h.get? C = some (excClassObj nm q C N bs [.ref D, .type "Exception", .type "BaseException", .type "object"] hdct sn sub ab col dd k0 k1 k2 k3 k5 "Exception.__new__"))
    (hq : R (.ok (.ret (.ref (h.objs.size + 1)))) ⟨(h.push (tupO rest 0)).push (excO C none h.objs.size), g, d, t, os⟩) (hrest : rest.length ≤ sizeLine) :
    codeAny (model prog w) A (.builtin "Exception.__new__" ⟨.ref C :: rest, []⟩) R ⟨h, g, d, t, os⟩ := by
  have F := PySem.F.excBase_Exception
  have hends := F.ends
  have hcB : (Value.ref C :: [Value.ref D, .type "Exception", .type "BaseException", .type "object"]).contains (.type "Exception") = true := by
    rw [List.contains_cons, List.contains_cons]; simp
  have hcA : (Value.ref C :: [Value.ref D, .type "Exception", .type "BaseException", .type "object"]).contains (.type "AttributeError") = false := by
    rw [List.contains_cons, List.contains_cons]; simp
  have hcN : (Value.ref C :: [Value.ref D, .type "Exception", .type "BaseException", .type "object"]).contains (.type "NameError") = false := by
    rw [List.contains_cons, List.contains_cons]; simp
  refine codeAny_builtinAt F.entry ?_
  unfold Builtin.«BaseException.__new__»
  refine PySem.wpAt_bind ?_
  show PySem.wpAt _ _ _ (stack >>= _) _ _ _
  refine PySem.wpAt_bind (PySem.wpAt_stack fun p below => PySem.wpAt_of_wpAny ?_)
  wp_walk
  refine PySem.wpAt_of_wpAny ?_
  rw [F.owner]
  repeat (first | with_reducible refine wpAny_madeHere_exc F.canon hC ?_ | with_reducible refine wpAny_loadPart_at hC ?_ | (with_reducible refine wpAny_isSubtype_exc hC ?_; first | rw [hcB] | rw [hcA] | rw [hcN]) | wp_step)
  show R _ _
  rw [Heap.size_push]
  exact hq
end

section
variable {prog : Program} {w : World} {A : Around} {E : Value → Shared → Prop} {K : Frag} {C D : Addr} {cd : ClassData} {s : Shared} {rest : List Value}
theorem exc_call (Y : ExcCls K C D cd) (X : K.In s.heap) {f : Addr} (hi : findIn K (.ref C) "__init__" = some (some (.ref f))) (hf : typeIn K (.ref f) = some (.type "function")) (hrest : rest.length ≤ sizeLine) {Q : Value → Shared → Prop}
    (hq : codeAny (model prog w) (A.under (.builtin "type.__call__" ⟨.ref C :: rest, []⟩)) (.call (.ref f) ⟨.ref (s.heap.objs.size + 1) :: rest, []⟩)
      (fun r s' => match r with | .ok (.ret v) => v = .none ∧ Q (.ref (s.heap.objs.size + 1)) s' | .ok _ => False | .error e => E e s') { s with heap := (s.heap.push (tupO rest 0)).push (excO C none s.heap.objs.size) }) :
    wpAny (model prog w) A (call (.ref C) rest) Q E s := by
  have F := PySem.F.excBase_Exception
  refine (let gk : Prop := _; (?_ : gk))
  obtain ⟨nm, q, N', bs, hdct, sn, sub', ab, col, dd, k0, k1, k2, k3, k5, hC⟩ := Y.cobj
  unfold gk
  clear gk
  have hC := X _ _ hC
  refine (let gk : Prop := _; (?_ : gk))
  obtain ⟨h, g, d, t, os⟩ := s
  unfold gk
  clear gk
  have f1 := tc_lookup
  have f2 := tc_bind (.ref C)
  have hT : (⟨h, g, d, t, os⟩ : Shared).TypeIs (.ref C) "type" := ⟨_, hC, rfl⟩
  refine wpAny_call (codeAny_of_tree ?_)
  show wpAny _ _ (callAny (.ref C) _) _ _ _
  repeat (any_goals (first | assumption | with_reducible refine wpAny_loadPart_at hC ?_ | wp_step))
  refine ⟨rfl, ?_⟩
  refine codeAny_call_builtin_at (Code.quiet_builtin _ (by decide +kernel)) entry_typeCall (wpAny_check_type_call_sub hC ?_)
  repeat (first | with_reducible refine wpAny_loadPart_at hC ?_ | with_reducible refine wpAny_madeBy_exc hC ?_ | wp_step)
  refine codeAny_call_builtin_code (Code.quiet_builtin _ F.quiet) (exc_check_new hC ?_)
  refine exc_new hC ?_ hrest
  show wpAny _ _ _ _ _ _
  have k : ∀ b o, h.get? b = some o → ((h.push (tupO rest 0)).push (excO C none h.objs.size)).get? b = some o := fun b o e => Heap.get?_push_of_some _ (Heap.get?_push_of_some _ e)
  have hC₁ := k _ _ hC
  have X₁ : K.In ((h.push (tupO rest 0)).push (excO C none h.objs.size)) := X.keeps k
  have hget : ((h.push (tupO rest 0)).push (excO C none h.objs.size)).get? (h.objs.size + 1) = some (excO C none h.objs.size) := by heap_get
  have hcC : (Value.ref C :: [Value.ref D, .type "Exception", .type "BaseException", .type "object"]).contains (.ref C) = true := by simp
  have L1 := looks_findIn (M := model prog w) X₁ hi
  have L2 := bind_fn (M := model prog w) X₁ (.ref (h.objs.size + 1)) hf
  unfold isInstance
  repeat (first | with_reducible refine wpAny_loadPart_at hget ?_ | (with_reducible refine wpAny_isSubtype_exc hC₁ ?_; rw [hcC]) | wp_step)
  show wpAny _ _ (isSubtype (.ref C) (.ref C)) _ _ _
  refine wpAny_isSubtype_exc hC₁ ?_
  rw [hcC]
  repeat wp_step
  show wpAny _ _ (typeLookup (.ref C) _) _ _ _
  refine L1.here ?_
  refine wpAny_holding (wpAny_bind (L2.here ?_))
  refine wpAny_bind (wpAny_call (codeAny_mono hq fun r s' z => ?_))
  rcases r with e | (v | _ | _ | _) <;> first | exact z | exact z.elim | skip
  obtain ⟨rfl, z⟩ := z
  exact wpAny_pure (wpAny_pure z)
end
end Mine
namespace Mine
open PySem.Calls PySem.Spec PySem.W Builtin Builtin.ObjectAttr

theorem under_tc (dp un : Nat) (gd : Option (List Code)) (cn : Str) (cs : Scope) (L a : Addr) (ccd : Value) (cl : List (Str × Addr)) (outer : List Env) (C : Addr) (vs : List Value) :
    ∃ gd', (ktrTop dp un gd cn cs L a ccd cl outer).under (.builtin "type.__call__" ⟨.ref C :: vs, []⟩) = ktrTop (dp + 1) (un + 1) gd' cn cs L a ccd cl outer := ⟨_, rfl⟩

theorem ff_init (w : World) : findIn (hd.heap_1 w.params) (.ref 67) "__init__" = some (some (.ref 44)) := by k_is
theorem ff_fn (w : World) : typeIn (hd.heap_1 w.params) (.ref 44) = some (.type "function") := by k_is

theorem fault_spec (w : World) (what : Value) (at' : Int) (t : Tok) :
    MSpec w 67 6 [what, .int at' t] [] [] (fun r n => ∃ e dx es k t1 tn, r = .ref e ∧ n = [(dx, dictOf es k), (e, excO 67 (some dx) t1), (t1, tupO [what] tn)] ∧ ∃ tk, getL "at" es = some (some (.int at' tk))) := by
  intro dp un gd cn cs a ccd cl outer A₀ base h₀ L m s Q E p loose mean mg mb B F X N T hk hr hu hrd hret
  obtain ⟨cd, Y⟩ := ff w
  refine exc_call Y (X.keeps F.keep) (ff_init w) (ff_fn w) (by size_fits) ?_
  obtain ⟨gd', e⟩ := under_tc dp un gd cn cs L a ccd cl outer 67 [what, .int at' t]
  rw [e]
  have F1 := (F.push (tupO [what, .int at' t] 0)).push (excO 67 none s.heap.objs.size)
  have N1 := (News.nil.push F (tupO [what, .int at' t] 0)).push (F.push (tupO [what, .int at' t] 0)) (excO 67 none s.heap.objs.size)
  rw [Heap.size_push] at N1
  have hnew : ∀ {b : Addr}, s.heap.objs.size ≤ b → s.heap.get? b = none := fun hb => Heap.get?_none_of_le hb
  refine init_spec w (s.heap.objs.size + 1) s.heap.objs.size what at' t (dp + 1) (un + 1) gd' cn cs a ccd cl outer A₀ base h₀ L m _ _ p loose mean mg mb B F1 X (fun q hq => N1 q (by rw [List.mem_singleton.mp hq]; exact .head _)) T hk (by omega) (by omega) (fun _ h => nomatch h) ?_
  rintro r n' h' tk' F' N' kp fr ⟨rfl, t1, dx, es, k, tn, rfl, hat⟩
  refine ⟨rfl, hret _ _ h' tk' F' N' (fun b o hb e => kp b o (fun hm => ?_) (Heap.get?_push_of_some _ (Heap.get?_push_of_some _ e))) (fun q hq => .inr ?_) ⟨_, _, _, _, _, _, rfl, rfl, hat⟩⟩
  · rw [List.mem_singleton.mp hm] at e
    rw [hnew (Nat.le_succ _)] at e; cases e
  · rcases fr q hq with h | h
    · rw [List.mem_singleton.mp h]; exact hnew (Nat.le_succ _)
    · cases z : s.heap.get? q.1 with
      | none => rfl
      | some o => rw [Heap.get?_push_of_some _ (Heap.get?_push_of_some _ z)] at h; cases h

section
variable {M : Model} {A : Around} {E : Value → Shared → Prop} {s : Shared} {env : Env} {K : Frag} {C D : Addr} {cd : ClassData} {Q : Flow → Shared → Prop}
def MadeIn (K : Frag) (C : Addr) (E : Value → Shared → Prop) (v : Value) (s : Shared) : Prop := ∃ e dx t, v = .ref e ∧ K.In s.heap ∧ s.heap.get? e = some (excO C dx t) ∧ E (.ref e) s
theorem made_throw {K : Frag} {s : Shared} {base g h : Heap} {L' : Addr} {env : Env} {outer : List Env} {xs : Led} {epost : Int → Prop} {E : Value → Shared → Prop} {m : Str → Option Value} {dx e t1 : Addr} {es : List DictEntry} {n : Nat} {vs : List Value} {tn : Nat} {rest : Led} {k : Int} {tk : Tok} {tk' : Nat}
    (FF : Fr g L' h m) (NN : News g L' h ((dx, dictOf es n) :: (e, excO 67 (some dx) t1) :: (t1, tupO vs tn) :: rest)) (HH : getL "at" es = some (some (.int k tk))) (XX : K.In g) (thr : ∀ v s', Throw s base g L' env outer xs epost v s' → E v s') (hk : epost k) :
    MadeIn K 67 E (.ref e) { s with heap := h, toks := tk' } :=
  ⟨_, _, _, rfl, XX.keeps FF.keep, (NN _ (.tail _ (.head _))).1, thr _ _ ⟨_, _, _, _, rfl, rfl, hk, .inl ⟨_, _, _, _, _, _, _, _, _, FF, NN, .tail _ (.head _), .head _, .tail _ (.tail _ (.head _)), HH⟩⟩⟩
theorem raise_made (Y : ExcCls K C D cd) {x : Sem Value} (hh : A.handled = none) (h : wpAny M A x (MadeIn K C E) E s) : wpAny M A (raiseStmt env (some x) none) Q E s := by
  refine (let gk : Prop := _; (?_ : gk))
  obtain ⟨nm, q, N', bs, hdct, sn, sub', ab, col, dd, k0, k1, k2, k3, k5, hC⟩ := Y.cobj
  unfold gk
  clear gk
  have hcB : (Value.ref C :: [Value.ref D, .type "Exception", .type "BaseException", .type "object"]).contains (.type "BaseException") = true := by
    rw [List.contains_cons, List.contains_cons]; simp
  unfold raiseStmt
  refine wpAny_bind (wpAny_mono h (fun v s₁ h₁ => ?_) fun _ _ x => x)
  obtain ⟨e, dx, t, rfl, X, he, hE⟩ := h₁
  have hC := X _ _ hC
  refine (let gk : Prop := _; (?_ : gk))
  obtain ⟨hp, g, d, tk, os⟩ := s₁
  unfold gk
  clear gk
  repeat (first | with_reducible refine wpAny_loadPart_at he ?_ | with_reducible refine wpAny_loadPart_at hC ?_ | (with_reducible refine wpAny_isSubtype_exc hC ?_; rw [hcB]) | wp_step)
  exact wpAny_raiseNew_none hh hE
theorem exec_raise (Y : ExcCls K C D cd) {x : Expr} {pos : Pos} (hh : A.handled = none) (h : wpAny M A (eval x env) (MadeIn K C E) E s) : wpAny M A (exec (.Raise (some x) none pos) env) Q E s := by
  rw [arm_exec_Raise]
  refine wpAny_bind (wpAny_standAt ?_)
  exact raise_made Y hh (wpAny_bind (wpAny_mono h (fun v s₁ h₁ => wpAny_bind (wpAny_standAt (wpAny_pure h₁))) fun _ _ x => x))
theorem exec_raise_ff {w : World} {g : Heap} (_X : (hd.heap_1 w.params).In g) {x : Expr} {pos : Pos} (hh : A.handled = none) (h : wpAny M A (eval x env) (MadeIn (hd.heap_1 w.params) 67 E) E s) : wpAny M A (exec (.Raise (some x) none pos) env) Q E s := by
  obtain ⟨cd, Y⟩ := ff w
  exact exec_raise Y hh h
end
end Mine
theorem Mine.words_P10 : True := by
  (k_with "call ref" => (k_here; (with_reducible show wpAny _ _ (call (Value.ref 67) [_, Value.int _ _]) _ _ _); (try walk_at "mine fold"); k_dflt (refine' Mine.MSpec.use (Mine.fault_spec _ _ _ _) ?B ?F ?X ?N ?T ?K ?R ?U (fun _ h => nomatch h) ?_); walk_at "mine call"; intro r9_w n9_w h'_w tk9_w F'_w N'_w _ p9_w; obtain ⟨e9_w, dx9_w, es9_w, k9_w, t9_w, tn9_w, er9_w, en9_w, tk8_w, hat_w⟩ := p9_w; subst er9_w; subst en9_w; (simp only [List.cons_append, List.nil_append] at N'_w)))
  (k_with "exec Raise some none" => (k_here; (rename (hd.heap_1 _).In _ => XX_w); refine Mine.exec_raise_ff XX_w rfl ?_; k_whole))
  (k_with "mine raise" => ((rename News _ _ _ _ => NN_w); (rename Fr _ _ _ _ => FF_w); (rename getL _ _ = some _ => HH_w); (rename (hd.heap_1 _).In _ => XX_w); (rename ∀ (v : Value) (s' : Shared), Mine.Throw _ _ _ _ _ _ _ _ v s' → _ => thr_w); exact Mine.made_throw FF_w NN_w HH_w XX_w thr_w (by assumption)))
  (k_with "exec For Name BinOp cons nil" => (k_here; (rename Fr _ _ _ _ => lF'_w); (with_unfolding_all refine' For_turns lF'_w ?_; k_whole)))
  trivial
namespace Mine
open PySem.Calls PySem.Spec PySem.W
/-- for x in a list that stands in the ledger and is left alone -/
theorem turns_listN {prog : Program} {w : World} {A : Around} {E : Value → Shared → Prop} {s : Shared} {env : Env} {h₀ : Heap} {target : Expr} {body : List Stmt} {Q : Flow → Shared → Prop}
    {σ : Type} {l : Addr} {vs : List Value} {n : Nat} {m₀ : Str → Option Value} (Le : σ → Led) (ps : σ → List (Str × Value)) (stored : List Str) (P : Nat → σ → Prop) (c₀ : σ)
    (hh : A.handled = none) (hl : ∀ c, (l, listOf vs.toArray n) ∈ Le c) (F : Fr h₀ env.locals s.heap m₀) (N : News h₀ env.locals s.heap (Le c₀)) (hk : ∀ p ∈ ps c₀, m₀ p.1 = some p.2) (hp : P 0 c₀)
    (turn : ∀ i v c u h tk I o, vs[i]? = some v → i < vs.length → P i c → o.cls = .type "list_iterator" → OwnOff [(I, o)] ((Le c).map (·.1)) → (∀ p ∈ Le c₀, p.1 < I) → Fr h₀ env.locals h (tmap (ps c) stored u m₀) → News h₀ env.locals h (Le c ++ [(I, o)]) →
      wpAny (model prog w) A (assign target env v) (fun _ s₃ => wpAny (model prog w) A (execs body env) (TurnPost h₀ env.locals (TJ Le ps stored m₀ (P (i + 1))) [(I, o)] { s with heap := h, toks := tk } Q) E s₃) E { s with heap := h, toks := tk })
    (done : ∀ c u h tk, P vs.length c → Fr h₀ env.locals h (tmap (ps c) stored u m₀) → News h₀ env.locals h (Le c) → Q .next { s with heap := h, toks := tk }) :
    wpAny (model prog w) A (pyIter (.ref l)) (fun it s₂ => TurnsAt prog w A h₀ env target body Q E it s₂) E s := by
  obtain ⟨g1, nL, g0⟩ := N _ (hl c₀)
  have hls : s.heap.IsList l vs.toArray := ⟨_, g1, rfl, _, rfl⟩
  have hlt : l < s.heap.objs.size := Heap.lt_size g1
  have hne : l ≠ s.heap.objs.size := Nat.ne_of_lt hlt
  refine wpAny_pyIter_list hls ?_
  have W := KTurns.ofWalks (target := target) (Walks.list (prog := prog) (w := w) hh s.heap.objs.size l hne vs.toArray) fun i v s Q E st q => letGo_listiter st.1 q
  have hsz : vs.toArray.size = vs.length := by simp
  rw [hsz] at W
  refine turnsS W Le ps stored P c₀ (fun its => ∀ p ∈ its, p.2.cls = .type "list_iterator") ?_ ?_ ?_ ?_ ⟨⟨_, Heap.get?_push_size _ rfl, rfl, rfl⟩, hls.at fun o e => Heap.get?_push_of_some _ e⟩ (F.push _) (fun p hp => ⟨Heap.get?_push_of_some _ (N p hp).1, (N p hp).2⟩) ?_ hk hp ?_ ?_
  · rintro i h ⟨⟨o, ho, hc, _⟩, _⟩
    exact ⟨[(_, o)], rfl, fun p hp => by rw [List.mem_singleton.mp hp]; exact ho, fun p hp => by rw [List.mem_singleton.mp hp]; exact hc⟩
  · intro b hb hw hn
    have hb' : b = s.heap.objs.size ∨ b = l := by simpa using hb
    rcases hb' with e | e
    · exact absurd (by simp [e]) hw
    · subst e; exact ⟨_, hl⟩
  · intro hm
    rcases List.mem_cons.mp hm with e | hm
    · exact absurd F.ns.lt (e ▸ Nat.lt_irrefl _)
    · exact nL (List.mem_singleton.mp hm).symm
  · intro b' hb; rw [List.mem_singleton.mp hb]; exact next_is_new F
  · intro p hp hI; exact absurd (Heap.lt_size (N p hp).1) ((List.mem_singleton.mp hI) ▸ Nat.lt_irrefl _)
  · rintro i v c u h tk its hi hv hP hits hok hoff F₁ N₁
    obtain ⟨o, rfl, ho⟩ := its_one hits hok
    have hv' : vs.toArray[i]? = some v := hv
    exact turn i v c u h tk _ o (by simpa using hv') hi hP ho hoff (fun p hp => Heap.lt_size (N p hp).1) F₁ N₁
  · exact fun c u h tk hP F' N' => done c u h tk hP F' N'

def sum85 (ns : List Int) : Int := ns.foldl (fun t o => 85 * t + o) 0
def pad5 (ks : List Int) : List Int := ks ++ (List.replicate (5 - (ks.length : Int)).toNat [84]).flatten
def oct4 (t : Int) : List Int := [((t.fdiv 256).fdiv 256).fdiv 256 |>.fmod 256, ((t.fdiv 256).fdiv 256).fmod 256, (t.fdiv 256).fmod 256, t.fmod 256]
def octGrp (ks : List Int) : List Int := (oct4 (sum85 (pad5 ks))).take (4 - (5 - (ks.length : Int))).toNat

theorem flat_one {α : Type} (x : α) : ∀ n : Nat, (List.replicate n [x]).flatten = List.replicate n x
  | 0 => rfl
  | n + 1 => by rw [List.replicate_succ, List.flatten_cons, flat_one x n, List.replicate_succ]; rfl
theorem pad5_length {ks : List Int} (h : ks.length ≤ 5) : (pad5 ks).length = 5 := by
  unfold pad5
  rw [flat_one, List.length_append, List.length_replicate]
  omega
theorem pad5_in {ks : List Int} (h : ∀ k ∈ ks, 0 ≤ k ∧ k ≤ 84) : ∀ k ∈ pad5 ks, 0 ≤ k ∧ k ≤ 84 := by
  unfold pad5
  rw [flat_one]
  intro k hk
  rcases List.mem_append.mp hk with hk | hk
  · exact h k hk
  · rw [List.eq_of_mem_replicate hk]; decide
theorem pow85 {i : Nat} (h : i < 5) : (85 : Int) ^ i ≤ 52200625 ∧ (85 : Int) ^ (i + 1) = 85 * 85 ^ i := by
  refine ⟨?_, by rw [Int.pow_succ, Int.mul_comm]⟩
  have : ∀ k : Fin 5, (85 : Int) ^ k.val ≤ 52200625 := by decide
  exact this ⟨i, h⟩

set_option maxHeartbeats 4000000 in
theorem octets_of_group_spec (w : World) (l : Addr) (vs : List Value) (ks : List Int) (n : Nat) (at' : Int) (t : Tok) (hi : IntsAre vs ks) (h2 : 2 ≤ ks.length) (h5 : ks.length ≤ 5) (hin : ∀ k ∈ ks, 0 ≤ k ∧ k ≤ 84) :
    XSpec w 108 12 [.ref l, .int at' t] [(l, listOf vs.toArray n)] (fun r nw => sum85 (pad5 ks) ≤ 4294967295 ∧ ∃ l' vs' n', r = .ref l' ∧ nw = [(l', listOf vs'.toArray n')] ∧ IntsAre vs' (octGrp ks)) (fun k => k = at' ∧ ¬ sum85 (pad5 ks) ≤ 4294967295) := by
  refine' XSpec.of_body [(Str.ofString "signs", .ref l), (Str.ofString "at", .int at' t)] ?ho ?hcd ?hb ?hl ?hc ?h1 ?h2 ?h3 ?_
  walk_at "mine body"
  intro dp un gd cn cs L a ccd cl outer base g L' h₁ s tk p loose mean mg mb xs hd9 hu B F X T hrd hxs Qe Ee thr
  have kM := kstMark
  have hl : g.IsList l vs.toArray := ⟨_, hrd _ (.head _), rfl, _, rfl⟩
  have hvl := hi.length
  walk_at "mine go"
  have N0 : News g L' h₁ [] := News.nil
  k_steps
  (rename Fr _ _ _ _ => F1)
  (rename News _ _ _ _ => N1)
  (rename IntsAre _ (ks ++ _) => hI)
  have hI := (show IntsAre _ (pad5 ks) from hI)
  have hp5 := pad5_length h5
  refine turns_listN (σ := Int × Tok) (fun c => [_, _, _]) (fun c => [(Str.ofString "total", .int c.1 c.2)]) [Str.ofString "sign"]
    (fun i c => c.1 = ((pad5 ks).take i).foldl (fun t o => 85 * t + o) 0 ∧ 0 ≤ c.1 ∧ c.1 < 85 ^ i) (0, _) rfl (fun c => .head _) F1 N1 (by kst_all) ⟨by simp, by simp, by simp⟩ ?_ ?_
  · clear F1 N1
    rintro i v ⟨tot, tt⟩ u h tk I o hv hlt hP9 ho hoff hlI F1 N1
    walk_at "mine shut"
    obtain ⟨hp1, hp2, hp3⟩ := hP9
    walk_at "mine open"
    obtain ⟨k, t, hk, rfl⟩ := ints_at hI hv
    dsimp only at hp1 hp2 hp3 F1 N1
    simp only [List.cons_append, List.nil_append] at N1
    simp only [List.map_cons, List.map_nil] at hoff
    have hkin := pad5_in hin k (List.mem_of_getElem? hk)
    rw [hI.length, hp5] at hlt
    have hpw := pow85 hlt
    have key : 85 * tot + k = ((pad5 ks).take (i + 1)).foldl (fun t o => 85 * t + o) 0 ∧ 0 ≤ 85 * tot + k ∧ 85 * tot + k < 85 ^ (i + 1) := by
      refine ⟨by rw [take_succ_of hk, List.foldl_append, ← hp1]; rfl, by omega, by omega⟩
    clear hpw hp3
    k_steps
    (rename News _ _ _ _ => NN)
    exact turnEnd ⟨_, _⟩ (by assumption) NN (by kst_inAny) (by kst_anyIn) (by walk_at "mine off") (by kst_all) (by walk_at "mine same") key
  · clear F1 N1
    rintro ⟨tot, tt⟩ u h tk hP9 F1 N1
    walk_at "mine shut"
    obtain ⟨hp1, hp2, hp3⟩ := hP9
    walk_at "mine open"
    rw [List.take_of_length_le (Nat.le_of_eq hI.length.symm)] at hp1
    rw [hI.length, hp5] at hp3
    dsimp only at hp1 hp2 hp3 F1 N1
    have hp4 : tot < 4437053125 := hp3
    clear hp3
    k_steps
    · have hep : at' = at' ∧ ¬ sum85 (pad5 ks) ≤ 4294967295 := ⟨rfl, by rw [show sum85 (pad5 ks) = tot from hp1.symm]; omega⟩
      walk_at "mine raise"
    · (rename News _ _ _ _ => NN)
      try dsimp only
      (rename IntsAre _ (List.take _ _) => hT)
      have hs : sum85 (pad5 ks) = tot := hp1.symm
      refine Back.intro [_] (by k_asm) NN (List.forall_mem_cons.mpr ⟨.head _, List.forall_mem_nil _⟩) ⟨by rw [hs]; omega, _, _, _, rfl, rfl, ?_⟩
      unfold octGrp
      rw [hs]
      exact hT
end Mine
namespace Mine
open PySem.Calls PySem.Spec PySem.W
def nextEnd : List Int → Bool
  | [] => false
  | k :: r => if k = 62 then true else if isWhite k then nextEnd r else false

theorem range1_size {a b : Int} {n : Nat} (h : b = a + n) : Builtin.Range.rangeSize a b 1 = (n : Int) := by
  unfold Builtin.Range.rangeSize
  rw [if_pos (by decide)]
  split <;> omega
theorem range1_small {a b : Int} {n : Nat} (hn : b = a + n) (h0 : 0 ≤ a) (h3 : b ≤ 1000) : Builtin.Range.small a b 1 = true := by
  unfold Builtin.Range.small
  rw [range1_size hn, if_pos (by decide), fits_small (by omega) (by omega), fits_small (by omega) (by omega), fits_small (by omega) (by omega), fits_small (by omega) (by omega), fits_small (by omega) (by omega)]
  simp
theorem drop_at {ks : List Int} {i : Nat} {k : Int} (h : ks[i]? = some k) : ks.drop i = k :: ks.drop (i + 1) := by
  obtain ⟨hi, rfl⟩ := List.getElem?_eq_some_iff.mp h
  exact List.drop_eq_getElem_cons hi

set_option maxHeartbeats 4000000 in
theorem is_end_at_spec (w : World) (b : Array UInt8) (tb : Tok) (at' : Nat) (t : Tok) (hb : b.size ≤ 1000) (hat : at' < b.size) :
    XSpec w 115 12 [.bytes b tb, .int at' t] [] (fun r nw => nw = [] ∧ r = .bool true ∧ nextEnd ((KBw.bInts b).drop (at' + 1)) = true) (fun k => k = at' ∧ nextEnd ((KBw.bInts b).drop (at' + 1)) = false) := by
  have hkl : (KBw.bInts b).length = b.size := KBw.ints_length b
  obtain ⟨ks, hks⟩ : ∃ ks, KBw.bInts b = ks := ⟨_, rfl⟩
  rw [hks] at hkl ⊢
  refine' XSpec.of_body [(Str.ofString "data", .bytes b tb), (Str.ofString "at", .int at' t)] ?ho ?hcd ?hb ?hl ?hc ?h1 ?h2 ?h3 ?_
  walk_at "mine body"
  intro dp un gd cn cs L a ccd cl outer base g L' h₁ s tk p loose mean mg mb xs hd9 hu B F X T hrd hxs Qe Ee thr
  have kM := kstMark
  have N0 : News g L' h₁ [] := News.nil
  walk_at "mine go"
  k_steps
  rename IsRange _ _ _ _ _ _ _ _ => hr
  (rename Fr _ _ _ _ => F1)
  (rename News _ _ _ _ => N1)
  have hN : (ks.length : Int) = at' + 1 + (b.size - (at' + 1) : Nat) := by omega
  refine turns_range (σ := Unit) (n := b.size - (at' + 1)) (fun _ => []) (fun _ => []) [Str.ofString "here"]
    (fun i _ => nextEnd (ks.drop (at' + 1)) = nextEnd (ks.drop (at' + 1 + i))) () rfl hr (range1_small hN (by omega) (by omega)) (range1_size hN) F1 N1 (by kst_all) rfl ?_ ?_
  · clear F1 N1
    rintro i t c u h tk I o hlt hp1 ho hoff hlI F1 N1
    (try dsimp only at hp1 F1 N1)
    simp only [List.nil_append] at N1
    simp only [List.map_nil] at hoff
    have hlt' : at' + 1 + i < ks.length := by omega
    have hk := List.getElem?_eq_getElem hlt'
    have hk2 := drop_at hk
    have hi0 : (0 : Int) ≤ at' + 1 + (i : Int) * 1 := by omega
    have hi1 : (at' : Int) + 1 + (i : Int) * 1 < b.size := by omega
    have hi2 : (at' : Int) + 1 + (i : Int) * 1 = ((at' + 1 + i : Nat) : Int) := by omega
    rw [hk2] at hp1
    generalize ks[at' + 1 + i] = k at hk hk2 hp1
    have hg : ks.getD ((at' : Int) + 1 + (i : Int) * 1).toNat 0 = k := by
      rw [hi2, Int.toNat_natCast, List.getD_eq_getElem?_getD, hk]; rfl
    clear hk hk2
    k_steps
    all_goals rw [hg] at *
    · rename _ = 62 => h62
      exact Back.intro [] (by k_asm) (by k_asm) (fun _ h => nomatch h) ⟨rfl, rfl, by rw [hp1, nextEnd, if_pos h62]⟩
    · rename _ ≠ 62 => h62
      rename isWhite _ = true => hw
      (rename News _ _ _ _ => NN)
      exact turnEnd () (by assumption) NN (fun _ h => nomatch h) (by kst_anyIn) (by walk_at "mine off") (fun _ h => nomatch h) (by walk_at "mine same") (by rw [hp1, nextEnd, if_neg h62, if_pos hw]; rfl)
    · rename _ ≠ 62 => h62
      rename isWhite _ = false => hw
      have hep : (at' : Int) = at' ∧ nextEnd (List.drop (at' + 1) ks) = false := ⟨rfl, by rw [hp1, nextEnd, if_neg h62, if_neg (by rw [hw]; decide)]⟩
      walk_at "mine raise"
  · clear F1 N1
    rintro c u h tk hp1 F1 N1
    try dsimp only at F1 N1
    rw [show at' + 1 + (b.size - (at' + 1)) = ks.length by omega, List.drop_length] at hp1
    k_steps
    have hep : (at' : Int) = at' ∧ nextEnd (List.drop (at' + 1) ks) = false := ⟨rfl, hp1⟩
    walk_at "mine raise"
end Mine
namespace Mine
open PySem.Calls PySem.Spec PySem.W PyProof.Rows Builtin

section
variable {prog : Program} {w : World} {A : Around} {E : Value → Shared → Prop} {s : Shared} {b : Array UInt8} {t : Tok}
theorem bnext_item {it : Addr} {i : Nat} {c : UInt8} {Q : Value → Shared → Prop} (hit : KBw.IsBytesIter s.heap it b t i) (hx : b[i]? = some c)
    (hQ : ∀ h', KBw.IsBytesIter h' it b t (i + 1) → Heap.SameBut it s.heap h' → Q (.int (c.toNat : Int) s.toks) { s with heap := h', toks := s.toks + 1 }) : wpAny (model prog w) A (Builtin.SmallTypes.nextOf (.ref it)) Q E s := by
  obtain ⟨o, ho, hc, hd⟩ := id hit
  unfold Builtin.SmallTypes.nextOf
  refine wpAny_bind (wpAny_callSpecial?_slot (name := PySem.Str.ofString "__next__") (KBw.iter_typeIs hit) KBw.slot_next
    (wpAny_call_entry KBw.slot_next (KBw.iter_typeIs hit) KBw.entry_next ?_ (KBw.args_next _)))
  show wpAny _ _ (field (.ref it) 0 >>= _) _ _ s
  refine wpAny_bind (wpAny_field ho hd (x := .bytes b t) rfl ?_)
  show wpAny _ _ (if (Value.bytes b t == Value.none) = true then _ else _) _ _ s
  rw [if_neg (show ¬ ((Value.bytes b t == Value.none) = true) from Bool.false_ne_true)]
  show wpAny _ _ (field (.ref it) 1 >>= _) _ _ s
  refine wpAny_bind (wpAny_field ho hd (x := .int i 0) rfl ?_)
  refine wpAny_bind (wpAny_of_eq (a := b) rfl ?_)
  simp only [Int.toNat_natCast, hx]
  refine wpAny_bind (wpAny_setField ho hd (by simp) (wpAny_bind (wpAny_mkInt (wpAny_pure ⟨_, rfl, wpAny_pure (hQ _ ?_ (Heap.SameBut.update ..))⟩))))
  exact ⟨_, Heap.get?_update_self _ ho (Obj.isFreed_of_fields (Obj.data_mapFields hd _)), (Obj.cls_mapFields ..).trans hc, by
    rw [Obj.data_mapFields hd]; simp [rawInt]⟩

theorem bnext_end {it : Addr} {i : Nat} {Q : Value → Shared → Prop} (hh : A.handled = none) (hit : KBw.IsBytesIter s.heap it b t i) (hx : b[i]? = none)
    (hE : ∀ h' e, Heap.ExtBut it s.heap h' → (∃ o, h'.get? e = some o ∧ o.cls = .type "StopIteration") → E (.ref e) { s with heap := h' }) : wpAny (model prog w) A (Builtin.SmallTypes.nextOf (.ref it)) Q E s := by
  obtain ⟨o, ho, hc, hd⟩ := id hit
  unfold Builtin.SmallTypes.nextOf
  refine wpAny_bind (wpAny_callSpecial?_slot (name := PySem.Str.ofString "__next__") (KBw.iter_typeIs hit) KBw.slot_next
    (wpAny_call_entry KBw.slot_next (KBw.iter_typeIs hit) KBw.entry_next ?_ (KBw.args_next _)))
  show wpAny _ _ (field (.ref it) 0 >>= _) _ _ s
  refine wpAny_bind (wpAny_field ho hd (x := .bytes b t) rfl ?_)
  show wpAny _ _ (if (Value.bytes b t == Value.none) = true then _ else _) _ _ s
  rw [if_neg (show ¬ ((Value.bytes b t == Value.none) = true) from Bool.false_ne_true)]
  show wpAny _ _ (field (.ref it) 1 >>= _) _ _ s
  refine wpAny_bind (wpAny_field ho hd (x := .int i 0) rfl ?_)
  refine wpAny_bind (wpAny_of_eq (a := b) rfl ?_)
  simp only [Int.toNat_natCast, hx]
  refine wpAny_bind (wpAny_rule (wpAny_bind (wpAny_setField ho hd (by simp) ?_)))
  show wpAny _ _ (newExc (.type "StopIteration") [] >>= _) _ _ _
  refine wpAny_bind ?_
  simp only [newExc, newTuple]
  refine wpAny_bind (wpAny_newObj_type ?_ (by size_fits))
  refine wpAny_bind (m := firstArgMember _ _) (wpAny_of_eq (a := Value.none) (by first | rfl | (simp only [firstArgMember]; rfl)) ?_)
  refine wpAny_newObj_type ?_ (by size_fits)
  simp only [raiseNew]
  refine wpAny_bind (wpAny_handled ?_)
  first | rw [show A.in1.handled = none from hh] | rw [hh]
  refine wpAny_bind (wpAny_pure (wpAny_throw ?_))
  exact hE _ _ (((Heap.SameBut.update ..).extBut.push _).push _) ⟨_, Heap.get?_push_size _ rfl, rfl⟩
end

theorem bdraws (prog : Program) (w : World) {A : Around} (hh : A.handled = none) (it : Addr) (b : Array UInt8) (t : Tok) :
    Draws prog w A it [it] b.size (fun i v => ∃ c u, b[i]? = some c ∧ v = .int (c.toNat : Int) u) (fun i h => KBw.IsBytesIter h it b t i) where
  live := fun _ _ st => let ⟨o, ho, _⟩ := st; ⟨o, ho⟩
  frame := fun _ _ _ st hk => let ⟨o, ho, r⟩ := st; ⟨o, hk it (by simp) o ho, r⟩
  item := fun i s Q E hi st hQ => bnext_item st (c := b[i]) (by simp [hi]) fun h' hit' hs' => hQ _ h' (s.toks + 1) ⟨_, _, by simp [hi], rfl⟩ hit' hs'
  done := fun s Q E st hE => bnext_end hh st (by simp) hE

set_option maxHeartbeats 1000000 in
theorem meets_enumerate_newB (b : Array UInt8) (t : Tok) :
    Meets (Builtin.«enumerate.__new__» ⟨[.type "enumerate", .bytes b t], []⟩) (fun _ R s =>
      R (.ok (.ret (.ref (s.heap.push { cls := .type "bytes_iterator", data := .fields #[.bytes b t, .int 0 0] }).objs.size)))
        { s with heap := (s.heap.push { cls := .type "bytes_iterator", data := .fields #[.bytes b t, .int 0 0] }).push { cls := .type "enumerate", data := .fields #[.none, .bool false, .ref s.heap.objs.size, rawInt 0, .none, .none] } }) :=
  .of_wp fun prog w A R s h => by
    obtain ⟨hp, g, d, tk, os⟩ := s
    have hsub := sub_enumerate
    wp_walk
    refine wpAny_stack_any fun st => wpAny_pure ?_
    split
    · rename_i c _ _ _ _ _
      cases (c == Value.type "enumerate")
      · wp_walk using KBw.pyIter_bytes
        exact ⟨_, rfl, h⟩
      · wp_walk using KBw.pyIter_bytes
        exact ⟨_, rfl, h⟩
    · wp_walk using KBw.pyIter_bytes
      exact ⟨_, rfl, h⟩
end Mine
namespace Mine
open PySem.Calls PySem.Spec PySem.W PyProof.Rows Builtin

section
variable {prog : Program} {w : World} {A : Around} {E : Value → Shared → Prop} {s : Shared} {b : Array UInt8} {t : Tok}
theorem call_enum_bytes {Q : Value → Shared → Prop}
    (h : ∀ h', IsEnum h' (s.heap.objs.size + 1) s.heap.objs.size 0 .none → KBw.IsBytesIter h' s.heap.objs.size b t 0 → h'.objs.size = s.heap.objs.size + 2 →
      (∀ b o, s.heap.get? b = some o → h'.get? b = some o) → Q (.ref (s.heap.objs.size + 1)) { s with heap := h' }) :
    wpAny (model prog w) A (call (.type "enumerate") [.bytes b t]) Q E s := by
  refine callType_new F.called_enumerate (by decide) (F.typeCall_enumerate_1 _) (F.newCall_enumerate_1 _) (fun obj => F.args_object_init_2 obj _) F.entry_enumerate_new
    (meets_enumerate_newB b t) ?_
  have hz : (s.heap.push { cls := .type "bytes_iterator", data := .fields #[.bytes b t, .int 0 0] }).objs.size = s.heap.objs.size + 1 := Heap.size_push ..
  show _ ∧ _
  rw [hz]
  have he : IsEnum ((s.heap.push { cls := .type "bytes_iterator", data := .fields #[.bytes b t, .int 0 0] }).push
      { cls := .type "enumerate", data := .fields #[.none, .bool false, .ref s.heap.objs.size, rawInt 0, .none, .none] }) (s.heap.objs.size + 1) s.heap.objs.size 0 .none := by
    have := Heap.get?_push_size (s.heap.push { cls := .type "bytes_iterator", data := .fields #[.bytes b t, .int 0 0] })
      (o := { cls := .type "enumerate", data := .fields #[.none, .bool false, .ref s.heap.objs.size, rawInt 0, .none, .none] }) rfl
    rw [hz] at this; exact this
  refine ⟨⟨_, he, rfl⟩, h _ he ⟨_, Heap.get?_push_of_some _ (Heap.get?_push_size _ rfl), rfl, rfl⟩ (by rw [Heap.size_push, hz]) fun b o y => Heap.get?_push_of_some _ (Heap.get?_push_of_some _ y)⟩
end

theorem its_two {its : Led} {e i : Addr} {c d : String} (h : its.map (·.1) = [e, i]) (ok : ∀ p ∈ its, p.2.cls = .type c ∨ p.2.cls = .type d) : ∃ o o' : Obj, its = [(e, o), (i, o')] ∧ (o.cls = .type c ∨ o.cls = .type d) ∧ (o'.cls = .type c ∨ o'.cls = .type d) := by
  cases its with
  | nil => cases h
  | cons p r =>
    obtain ⟨a, o⟩ := p
    cases r with
    | nil => simp at h
    | cons q r' =>
      obtain ⟨a', o'⟩ := q
      cases r' with
      | nil =>
        have e1 : a = e ∧ a' = i := by simpa using h
        obtain ⟨rfl, rfl⟩ := e1
        exact ⟨o, o', rfl, ok _ (.head _), ok _ (.tail _ (.head _))⟩
      | cons _ _ => simp at h

section
variable {prog : Program} {w : World} {A : Around} {E : Value → Shared → Prop} {s : Shared} {env : Env} {h₀ : Heap} {elts : List Expr} {kk : Nat} {pos : Pos} {body : List Stmt} {Q : Flow → Shared → Prop}
/-- for at, code in enumerate(bytes) -/
theorem turns_enum {σ : Type} {b : Array UInt8} {tb : Tok} {m₀ : Str → Option Value} (Le : σ → Led) (ps : σ → List (Str × Value)) (stored : List Str) (P : Nat → σ → Prop) (c₀ : σ)
    (hh : A.handled = none) (F : Fr h₀ env.locals s.heap m₀) (N : News h₀ env.locals s.heap (Le c₀)) (hk : ∀ p ∈ ps c₀, m₀ p.1 = some p.2) (hp : P 0 c₀)
    (turn : ∀ i (k : Int) T t t' c u h tk e it o o', (KBw.bInts b)[i]? = some k → 0 ≤ k → k < 256 → i < b.size → P i c → IsTup h T #[.int i t, .int k t'] → (o.cls = .type "enumerate" ∨ o.cls = .type "bytes_iterator") → (o'.cls = .type "enumerate" ∨ o'.cls = .type "bytes_iterator") →
      OwnOff [(e, o), (it, o')] ((Le c).map (·.1)) → it < e → (∀ p ∈ Le c₀, p.1 < it) → Fr h₀ env.locals h (tmap (ps c) stored u m₀) → News h₀ env.locals h (Le c ++ [(e, o), (it, o')]) →
      wpAny (model prog w) A (assign (.Tuple elts kk pos) env (.ref T)) (fun _ s₃ => wpAny (model prog w) A (execs body env) (TurnPost h₀ env.locals (TJ Le ps stored m₀ (P (i + 1))) [(e, o), (it, o')] { s with heap := h, toks := tk } Q) E s₃) E { s with heap := h, toks := tk })
    (done : ∀ c u h tk, P b.size c → Fr h₀ env.locals h (tmap (ps c) stored u m₀) → News h₀ env.locals h (Le c) → Q .next { s with heap := h, toks := tk }) :
    wpAny (model prog w) A (call (.type "enumerate") [.bytes b tb]) (fun xv s₁ => wpAny (model prog w) A (pyIter xv) (fun it s₂ => TurnsAt prog w A h₀ env (.Tuple elts kk pos) body Q E it s₂) E s₁) E s := by
  refine call_enum_bytes fun h' he hit hz hkeep => ?_
  refine wpAny_pyIter_enum he ?_
  have hLt : env.locals < s.heap.objs.size := F.ns.lt
  have hei : s.heap.objs.size + 1 ≠ s.heap.objs.size := Nat.succ_ne_self _
  have W := KTurns.ofWalksU (elts := elts) (k := kk) (pos := pos) (WalksT.enumerateD (bdraws prog w (A := A.in1) hh s.heap.objs.size b tb) (s.heap.objs.size + 1) hei (by simp [hei]) (by simp)).toU
  have F' : Fr h₀ env.locals h' m₀ := F.keeps hkeep
  have N' : News h₀ env.locals h' (Le c₀) := fun p hp => ⟨hkeep _ _ (N p hp).1, (N p hp).2⟩
  refine turnsS W Le ps stored P c₀ (fun its => ∀ p ∈ its, p.2.cls = .type "enumerate" ∨ p.2.cls = .type "bytes_iterator") ?_ ?_ ?_ ?_ ⟨⟨_, by simpa using he⟩, hit⟩ F' N' ?_ hk hp ?_ ?_
  · rintro i h ⟨⟨old, he⟩, o, ho, hc, _⟩
    exact ⟨[(_, _), (_, o)], rfl, List.forall_mem_cons.mpr ⟨he, List.forall_mem_cons.mpr ⟨ho, List.forall_mem_nil _⟩⟩, List.forall_mem_cons.mpr ⟨.inl rfl, List.forall_mem_cons.mpr ⟨.inr hc, List.forall_mem_nil _⟩⟩⟩
  · intro b' hb hw; exact absurd hb hw
  · intro hm
    rcases List.mem_cons.mp hm with e | hm
    · rw [e] at hLt; exact absurd hLt (Nat.not_lt.mpr (Nat.le_succ _))
    · rw [List.mem_singleton.mp hm] at hLt; exact absurd hLt (Nat.lt_irrefl _)
  · intro b' hb
    rcases List.mem_cons.mp hb with e | hb
    · exact new_none F (by rw [e]; exact Nat.le_succ _)
    · exact new_none F (by rw [List.mem_singleton.mp hb]; exact Nat.le_refl _)
  · intro p hp hI
    have := Heap.lt_size (N p hp).1
    rcases List.mem_cons.mp hI with e | hI
    · rw [e] at this; exact absurd this (Nat.not_lt.mpr (Nat.le_succ _))
    · rw [List.mem_singleton.mp hI] at this; exact absurd this (Nat.lt_irrefl _)
  · rintro i v c u h tk its hi ⟨T, vals, rfl, ⟨t, x, ⟨cc, u', hc, rfl⟩, rfl⟩, hT⟩ hP hits hok hoff F₁ N₁
    obtain ⟨o, o', rfl, ho, ho'⟩ := its_two hits hok
    have hn' := KBw.ints_get hc
    have hb := KBw.ints_in (List.mem_of_getElem? hn')
    exact turn i _ T t u' c u h tk _ _ o o' hn' hb.1 hb.2 hi hP hT ho ho' hoff (Nat.lt_succ_self _) (fun p hp => Heap.lt_size (N p hp).1) F₁ N₁
  · exact fun c u h tk hP F' N' => done c u h tk hP F' N'

def TurnPostB (h₀ : Heap) (L : Addr) (J JB : (Str → Option Value) → Led → Prop) (own : Led) (s₁ : Shared) (Q : Flow → Shared → Prop) (f : Flow) (s₂ : Shared) : Prop :=
  match f with
  | .ret v => Q (.ret v) s₂
  | .brk => TurnEnd h₀ L JB [] s₁ s₂
  | _ => TurnEnd h₀ L J own s₁ s₂
theorem TurnPostB.to {σ : Type} {h₀ : Heap} {L : Addr} {J : (Str → Option Value) → Led → Prop} {Le : σ → Led} {ps : σ → List (Str × Value)} {stored : List Str} {m₀ : Str → Option Value} {Bk : σ → Prop} {own : Led} {s₁ : Shared} {Q : Flow → Shared → Prop} {f : Flow} {s₂ : Shared}
    (done : ∀ c u h tk, Bk c → Fr h₀ L h (tmap (ps c) stored u m₀) → News h₀ L h (Le c) → Q .next { s₁ with heap := h, toks := tk })
    (h : TurnPostB h₀ L J (TJ Le ps stored m₀ Bk) own s₁ Q f s₂) : TurnPost h₀ L J own s₁ Q f s₂ := by
  cases f with
  | ret v => exact h
  | next => exact h
  | cont => exact h
  | brk =>
    obtain ⟨h', tk', m', nx, all, rfl, F', N', hn, _, _, c, rfl, h1, h2, hP⟩ := h
    rw [← tmap_eq h1 h2] at F'
    exact done c m' h' tk' hP F' fun p hp => N' p (hn p hp)

/-- the same, where the body may break -/
theorem turns_enumB {σ : Type} {b : Array UInt8} {tb : Tok} {m₀ : Str → Option Value} (Le : σ → Led) (ps : σ → List (Str × Value)) (stored : List Str) (P : Nat → σ → Prop) (Bk : σ → Prop) (c₀ : σ)
    (hh : A.handled = none) (F : Fr h₀ env.locals s.heap m₀) (N : News h₀ env.locals s.heap (Le c₀)) (hk : ∀ p ∈ ps c₀, m₀ p.1 = some p.2) (hp : P 0 c₀)
    (turn : ∀ i (k : Int) T t t' c u h tk e it o o', (KBw.bInts b)[i]? = some k → 0 ≤ k → k < 256 → i < b.size → P i c → IsTup h T #[.int i t, .int k t'] → (o.cls = .type "enumerate" ∨ o.cls = .type "bytes_iterator") → (o'.cls = .type "enumerate" ∨ o'.cls = .type "bytes_iterator") →
      OwnOff [(e, o), (it, o')] ((Le c).map (·.1)) → it < e → (∀ p ∈ Le c₀, p.1 < it) → Fr h₀ env.locals h (tmap (ps c) stored u m₀) → News h₀ env.locals h (Le c ++ [(e, o), (it, o')]) →
      wpAny (model prog w) A (assign (.Tuple elts kk pos) env (.ref T)) (fun _ s₃ => wpAny (model prog w) A (execs body env) (TurnPostB h₀ env.locals (TJ Le ps stored m₀ (P (i + 1))) (TJ Le ps stored m₀ Bk) [(e, o), (it, o')] { s with heap := h, toks := tk } Q) E s₃) E { s with heap := h, toks := tk })
    (done : ∀ c u h tk, P b.size c ∨ Bk c → Fr h₀ env.locals h (tmap (ps c) stored u m₀) → News h₀ env.locals h (Le c) → Q .next { s with heap := h, toks := tk }) :
    wpAny (model prog w) A (call (.type "enumerate") [.bytes b tb]) (fun xv s₁ => wpAny (model prog w) A (pyIter xv) (fun it s₂ => TurnsAt prog w A h₀ env (.Tuple elts kk pos) body Q E it s₂) E s₁) E s :=
  turns_enum Le ps stored P c₀ hh F N hk hp (fun i k T t t' c u h tk e it o o' a1 a2 a3 a4 a5 a6 a7 a8 a9 a10 a11 F₁ N₁ =>
    wpAny_mono (turn i k T t t' c u h tk e it o o' a1 a2 a3 a4 a5 a6 a7 a8 a9 a10 a11 F₁ N₁) (fun _ s₃ h₃ => wpAny_mono h₃ (fun f s₂ p => TurnPostB.to (fun c u h tk hb F N => done c u h tk (.inr hb) F N) p) fun _ _ e => e) fun _ _ e => e)
    (fun c u h tk hP => done c u h tk (.inl hP))
end
end Mine
theorem Mine.words_P14 : True := by
  (k_with "exec For Tuple Call cons nil" => (k_here; (rename Fr _ _ _ _ => lF'_w); (with_unfolding_all refine' For_turns lF'_w ?_; k_whole)))
  (k_with "TurnPostB" => (dsimp only [Mine.TurnPostB]))
  trivial
namespace Mine
open PySem.Calls PySem.Spec PySem.W PyProof.Rows LCg

section
variable {prog : Program} {w : World} {A : Around} {E : Value → Shared → Prop} {s : Shared} {h₀ : Heap} {L : Addr} {m : Str → Option Value} {env : Env}

def CompEl (h₀ : Heap) (L : Addr) (m : Str → Option Value) (s : Shared) (base : Led) (ok : Value → Prop) (y : Value) (s₂ : Shared) : Prop :=
  ∃ h' tk' all, s₂ = { s with heap := h', toks := tk' } ∧ Fr h₀ L h' m ∧ News h₀ L h' all ∧ (∀ p ∈ base, p ∈ all) ∧ ok y
/-- a comprehension whose elements leave the ledger alone -/
theorem comp_rest {elt : Expr} {x : Str} {scope : Scope} {cl : List (Str × Addr)} {S : Led → Prop} {P : Nat → Value → Prop} {Fin : List Value → Led → Prop} {n : Nat} {news : Led} (Ok : Nat → List Value → Prop) (h0 : Ok 0 []) (hS : S news)
    (step : ∀ i v ys I oI C oC D m₂ h tk (E' : Value → Shared → Prop), i < n → P i v → Ok i ys → NsObj oC m₂ → m₂ x = some v → Fr h₀ L h m → News h₀ L h ((I, oI) :: (C, oC) :: (D, lst ys) :: news) → Off3 I C D news → ((@Ne Nat I C) ∧ (@Ne Nat I D) ∧ (@Ne Nat C D)) →
      wpAny (model prog w) A (eval elt (compEnvC scope cl C env)) (CompEl h₀ L m s ((I, oI) :: (C, oC) :: (D, lst ys) :: news) (fun y => Ok (i + 1) (ys ++ [y]))) E' { s with heap := h, toks := tk })
    (fin : ∀ ys, Ok n ys → Fin ys news) : CompRest prog w A h₀ L m env elt x scope cl s S P Fin n 0 [] news := by
  suffices H : ∀ k i ys, k + i = n → Ok i ys → CompRest prog w A h₀ L m env elt x scope cl s S P Fin k i ys news from H n 0 [] rfl h0
  intro k
  induction k with
  | zero => intro i ys e o; simp at e; subst e; exact fin _ o
  | succ k ih =>
    intro i ys e o v I oI C oC D m₂ h tk E' hP hN hm F N off ne
    refine wpAny_mono (step i v ys I oI C oC D m₂ h tk E' (by omega) hP o hN hm F N off ne) (fun y s₂ hy => ?_) fun _ _ e => e
    obtain ⟨h', tk', all, rfl, F', N', hb, o'⟩ := hy
    exact ⟨h', tk', news, rfl, F', fun p hp => N' p (hb p hp), off, hS, ih (i + 1) _ (by omega) o'⟩

def CompSrcW (prog : Program) (w : World) (A : Around) (h₀ : Heap) (L : Addr) (m : Str → Option Value) (env : Env) (elt : Expr) (x : Str) (scope : Scope) (cl : List (Str × Addr)) (Fin : Shared → List Value → Led → Prop) (xv : Value) (s₁ : Shared) : Prop :=
  ∃ r a b c t u v n news, xv = .ref r ∧ A.handled = none ∧ Fr h₀ L s₁.heap m ∧ News h₀ L s₁.heap news ∧ IsRange s₁.heap r a b c t u v ∧ Builtin.Range.small a b c = true ∧ Builtin.Range.rangeSize a b c = ((n : Nat) : Int) ∧ n ≤ sizeLine ∧
    ∀ s₂ : Shared, (∃ h, s₂ = { s₁ with heap := h }) → CompRest prog w A h₀ L m env elt x scope cl s₂ (fun _ => True) (fun i v => ∃ t, v = .int (a + (i : Int) * c) t) (Fin s₂) n 0 [] news

theorem rangeW_st {I : Addr} {a c : Int} {n : Nat} : ∀ i (h h' : Heap) (o : Obj) (nw : Led), IsRangeIter h I (a + (i : Nat) * c) ((n : Int) - (i : Nat)) c → h.get? I = some o → h'.get? I = some o → (∀ b o, h₀.get? b = some o → h'.get? b = some o) → News h₀ L h' nw → True → IsRangeIter h' I (a + (i : Nat) * c) ((n : Int) - (i : Nat)) c :=
  fun i h h' o nw st e e' _ _ _ => by
    have st' : h.get? I = some _ := st
    show h'.get? I = some _
    rw [e', ← e]; exact st'

theorem ListComp_W {elt iter : Expr} {x : Str} {px : Pos} {scope : Scope} {cl : List (Str × Addr)} {pos : Pos} {Q : Value → Shared → Prop} (F₀ : Fr h₀ L s.heap m)
    (hclos : closureFor scope env = pure cl) (hcell : ∀ y ∈ scope.names, y.2 ≠ .cell) (hkind : scope.kind = .function)
    (hnames : ∀ y ∈ scope.names, y.2 = .local → scope.names.lookup y.1 = some .local) (hx : scope.names.lookup x = some .local)
    (h : wpAny (model prog w) A (eval iter env) (CompSrcW prog w A h₀ L m env elt x scope cl (fun s₂ => FinE h₀ L m s₂ Q)) E s)
    (hs : ∀ x, foldedSetIterable iter env x = pure x := by intro _; rfl) :
    wpAny (model prog w) A (eval (.ListComp elt [⟨.Name x px, iter, [], 0⟩] scope pos) env) Q E s := by
  rw [eval_ListComp]
  refine wpAny_comprehension_free (use := none) rfl hs hclos hkind hnames (wpAny_mono h (fun xv s₁ h₁ => ?_) fun _ _ e => e)
  obtain ⟨r, a, b, c, t, u, v, n, news, rfl, hh, F, N, hr, hsm, hn, hsz, R⟩ := h₁
  refine wpAny_pyIter_range hr hsm ?_
  refine block_U (Walks.range hh s₁.heap.objs.size a c n) hsz (fun i h st => ⟨_, st⟩) rangeW_st hcell hkind hx (by show IsRangeIter _ _ _ _ _; rw [hn]; simpa using Heap.get?_push_size _ rfl) (fun b hb => ?_)
    (F.keeps fun _ _ e => Heap.get?_push_of_some _ e) (News.grown N fun _ _ e => Heap.get?_push_of_some _ e) (Nat.ne_of_lt F.ns.lt) (next_is_new F) (fun p hp => Nat.ne_of_lt (Heap.lt_size (N p hp).1)) trivial (R _ ⟨_, rfl⟩) ?_
  · rw [List.mem_singleton.mp hb]
    show s₁.heap.objs.size < (s₁.heap.push _).objs.size
    rw [Heap.size_push]; exact Nat.lt_succ_self _
  · intro D C h tk m' ys news' F' N' o1 hn hC₀ hD₀ hCL hDL hCD offC fin
    refine ⟨m', hn, fun h'' hs'' => fin D h'' tk (F'.change hs'' hCL hC₀) (fun p hp => ?_) o1⟩
    refine ⟨hs''.extBut _ _ ?_ (N' p hp).1, (N' p hp).2⟩
    rcases List.mem_cons.mp hp with rfl | hp
    · exact Ne.symm hCD
    · exact offC p hp
end
end Mine
theorem Mine.words_P14b : True := by
  (k_with "eval ListComp" => (k_here; (with_reducible show wpAny _ _ (eval (Expr.ListComp _ [⟨Expr.Name _ _, Expr.Call _ [_, _, _] _ _, [], _⟩] _ _) _) _ _ _); k_dflt (refine Mine.ListComp_W (F₀ := by k_asm) (by with_unfolding_all rfl) (by decide) (by rfl) (by decide) (by rfl) ?_)))
  trivial
namespace Mine
open PySem.Calls PySem.Spec PySem.W
def hexGo : List Int → Nat → List Int → Except Int (List Int)
  | [], _, acc => .ok acc
  | k :: r, i, acc => if k = 62 then .ok acc else if 0 ≤ figureWorth k then hexGo r (i + 1) (acc ++ [figureWorth k]) else if isWhite k then hexGo r (i + 1) acc else .error i
def hexPairs : List Int → List Int
  | [] => []
  | [a] => [16 * a]
  | a :: b :: r => (16 * a + b) :: hexPairs r

theorem fw_le (k : Int) : figureWorth k ≤ 15 := by
  unfold figureWorth
  repeat' split
  all_goals omega

theorem hexPairs_get : ∀ {zs : List Int} {i : Nat}, 2 * i + 1 < zs.length → (hexPairs zs)[i]? = some (16 * zs.getD (2 * i) 0 + zs.getD (2 * i + 1) 0)
  | [], _, h => by simp at h
  | [_], _, h => by simp at h
  | a :: b :: r, 0, _ => rfl
  | a :: b :: r, i + 1, h => by
    have := hexPairs_get (zs := r) (i := i) (by simp at h; omega)
    rw [hexPairs, List.getElem?_cons_succ, this]
    rfl
theorem hexPairs_len : ∀ (zs : List Int), (hexPairs zs).length = (zs.length + 1) / 2
  | [] => rfl
  | [_] => by simp [hexPairs]
  | a :: b :: r => by rw [hexPairs, List.length_cons, hexPairs_len r]; simp only [List.length_cons]; omega
theorem hexPairs_odd : ∀ {zs : List Int}, zs.length % 2 = 1 → hexPairs (zs ++ [0]) = hexPairs zs
  | [], h => by simp at h
  | [a], _ => by simp [hexPairs]
  | a :: b :: r, h => by
    rw [List.cons_append, List.cons_append, hexPairs, hexPairs, hexPairs_odd (by simp at h; omega)]
theorem hexPairs_in : ∀ {zs : List Int}, (∀ x ∈ zs, 0 ≤ x ∧ x ≤ 15) → KBa.In (hexPairs zs)
  | [], _ => fun _ h => nomatch h
  | [a], h => fun n hn => by
    have := h a (.head _)
    rw [List.mem_singleton.mp hn]; constructor <;> omega
  | a :: b :: r, h => fun n hn => by
    have h1 := h a (.head _)
    have h2 := h b (.tail _ (.head _))
    rcases List.mem_cons.mp hn with rfl | hn
    · constructor <;> omega
    · exact hexPairs_in (fun x hx => h x (.tail _ (.tail _ hx))) n hn
theorem range2_size {n : Nat} {z : Int} (h : z = 2 * (n : Int)) : Builtin.Range.rangeSize 0 z 2 = (n : Int) := by
  unfold Builtin.Range.rangeSize
  rw [if_pos (by decide)]
  split <;> omega
theorem range2_small {n : Nat} {z : Int} (h : z = 2 * (n : Int)) (hn : n ≤ 1000) : Builtin.Range.small 0 z 2 = true := by
  unfold Builtin.Range.small
  rw [range2_size h, if_pos (by decide), fits_small (by omega) (by omega), fits_small (by omega) (by omega), fits_small (by omega) (by omega), fits_small (by omega) (by omega), fits_small (by omega) (by omega)]
  simp

theorem r2 {h : Heap} {r : Addr} {z : Int} {t u v : Tok} {n : Nat} (_hr : IsRange h r 0 z 2 t u v) (hz : z = 2 * (n : Int)) (hn : n ≤ 1000) : Builtin.Range.small 0 z 2 = true ∧ Builtin.Range.rangeSize 0 z 2 = (n : Int) ∧ n ≤ sizeLine :=
  ⟨range2_small hz hn, range2_size hz, by rw [sizeLine_eq]; omega⟩
theorem hz_odd {g h : Heap} {L l : Addr} {k : Nat} {rest : Led} {t : Tok} {vs : List Value} {ns : List Int} (_N : News g L h ((l, W.listOf (vs ++ [Value.int 0 t]).toArray k) :: rest)) (hi : IntsAre vs ns) (h15 : ∀ x ∈ ns, 0 ≤ x ∧ x ≤ 15)
    (ho : ((ns.length : Nat) : Int).fmod 2 = 1) : ∃ zs n', IntsAre (vs ++ [Value.int 0 t]) zs ∧ hexPairs zs = hexPairs ns ∧ zs.length = ns.length + 1 ∧ zs.length = 2 * n' ∧ ∀ x ∈ zs, 0 ≤ x ∧ x ≤ 15 := by
  rw [Int.fmod_eq_emod_of_nonneg _ (by decide)] at ho
  refine ⟨ns ++ [0], (ns.length + 1) / 2, IntsAre.append hi (.cons _ _ .nil), hexPairs_odd (by omega), by simp, by rw [List.length_append, List.length_singleton]; omega, fun x hx => ?_⟩
  rcases List.mem_append.mp hx with hx | hx
  · exact h15 x hx
  · rw [List.mem_singleton.mp hx]; decide
theorem hz_even {g h : Heap} {L l : Addr} {k : Nat} {rest : Led} {vs : List Value} {ns : List Int} (_N : News g L h ((l, W.listOf vs.toArray k) :: rest)) (hi : IntsAre vs ns) (h15 : ∀ x ∈ ns, 0 ≤ x ∧ x ≤ 15)
    (ho : ((ns.length : Nat) : Int).fmod 2 ≠ 1) : ∃ zs n', IntsAre vs zs ∧ hexPairs zs = hexPairs ns ∧ zs.length = ns.length + 0 ∧ zs.length = 2 * n' ∧ ∀ x ∈ zs, 0 ≤ x ∧ x ≤ 15 := by
  rw [Int.fmod_eq_emod_of_nonneg _ (by decide)] at ho
  exact ⟨ns, ns.length / 2, hi, rfl, rfl, by omega, h15⟩

set_option maxHeartbeats 4000000 in
theorem hex_decoded_spec (w : World) (b : Array UInt8) (tb : Tok) (hb : b.size ≤ 1000) :
    XSpec w 89 20 [.bytes b tb] [] (fun r nw => nw = [] ∧ ∃ acc b' t', hexGo (KBw.bInts b) 0 [] = .ok acc ∧ r = .bytes b' t' ∧ KBw.bInts b' = hexPairs acc) (fun k => hexGo (KBw.bInts b) 0 [] = .error k) := by
  have hkl : (KBw.bInts b).length = b.size := KBw.ints_length b
  obtain ⟨ks, hks⟩ : ∃ ks, KBw.bInts b = ks := ⟨_, rfl⟩
  rw [hks] at hkl ⊢
  refine' XSpec.of_bodyC [(Str.ofString "data", .bytes b tb)] ?ho ?hcd ?hb ?hl ?hc ?h1 ?h2 ?h3 ?_
  case hb => kernel_rfl
  walk_at "mine body"
  intro dp un gd cn cs L a ccd cl outer base g L' h₁ s tk cells p loose mean mg mb xs hd9 hu B F N0 YC X T hrd hxs Qe Ee thr
  have kM := kstMark
  obtain ⟨co, hco, hcd9⟩ := CellsAre.one YC
  subst hco
  walk_at "mine go"
  k_steps
  (rename Fr _ _ _ _ => F1)
  (rename News _ _ _ _ => N1)
  (rename Obj.data _ = Data.cell (some _) => hco')
  refine turns_enumB (σ := List Value × List Int × Nat) (fun c => [(_, W.listOf c.1.toArray c.2.2), (_, _)]) (fun _ => []) [Str.ofString "at", Str.ofString "code", Str.ofString "worth"]
    (fun i c => IntsAre c.1 c.2.1 ∧ hexGo ks 0 [] = hexGo (ks.drop i) i c.2.1 ∧ c.2.1.length ≤ i ∧ ∀ x ∈ c.2.1, 0 ≤ x ∧ x ≤ 15)
    (fun c => IntsAre c.1 c.2.1 ∧ hexGo ks 0 [] = .ok c.2.1 ∧ c.2.1.length ≤ 1000 ∧ ∀ x ∈ c.2.1, 0 ≤ x ∧ x ≤ 15) ([], [], 0) rfl F1 N1 (fun _ h => nomatch h) ⟨.nil, rfl, Nat.le_refl _, fun _ h => nomatch h⟩ ?_ ?_
  · clear F1 N1
    rintro i k T t t' ⟨vs, ns, n⟩ u h tk e it o o' hk hk0 hk1 hlt hP9 hT ho ho' hoff hie hlI F1 N1
    walk_at "mine shut"
    obtain ⟨hi1, hi2, hi3, hi4⟩ := hP9
    walk_at "mine open"
    dsimp only at hi1 hi2 hi3 hi4 F1 N1
    rw [hks] at hk
    rw [drop_at hk, hexGo] at hi2
    simp only [List.cons_append, List.nil_append] at N1
    simp only [List.map_cons, List.map_nil] at hoff
    replace hlI := allLt_of hlI
    simp only [AllLt, and_true] at hlI
    have hil : ns.length ≤ 1000 := by omega
    refine unpackN_ F1 N1 hT rfl rfl rfl ?_
    intro h2 F2 N2
    clear F1 N1 hT
    have hfl := fw_le k
    k_steps
    · rename k = 62 => h62
      (rename News _ _ _ _ => NN)
      exact turnEnd ⟨_, _, _⟩ (by assumption) NN (by kst_inAny) (fun _ h => nomatch h) (fun _ h => nomatch h) (fun _ h => nomatch h) (by walk_at "mine same") ⟨hi1, by rw [hi2, if_pos h62], hil, hi4⟩
    · rename k ≠ 62 => h62
      rename 0 ≤ figureWorth k => hw
      (rename News _ _ _ _ => NN)
      simp only [List.push_toArray] at NN
      exact turnEnd ⟨_, _, _⟩ (by assumption) NN (by kst_inAny) (by kst_anyIn) (by walk_at "mine off") (fun _ h => nomatch h) (by walk_at "mine same") ⟨IntsAre.append hi1 (.cons _ _ .nil), by rw [hi2, if_neg h62, if_pos hw], by rw [List.length_append]; exact Nat.succ_le_succ hi3, fun x hx => by
        rcases List.mem_append.mp hx with hx | hx
        · exact hi4 x hx
        · rw [List.mem_singleton.mp hx]; exact ⟨hw, hfl⟩⟩
    · rename k ≠ 62 => h62
      rename isWhite k = true => hwh
      rename ¬ 0 ≤ figureWorth k => hw
      (rename News _ _ _ _ => NN)
      exact turnEnd ⟨_, _, _⟩ (by assumption) NN (by kst_inAny) (by kst_anyIn) (by walk_at "mine off") (fun _ h => nomatch h) (by walk_at "mine same") ⟨hi1, by rw [hi2, if_neg h62, if_neg hw, if_pos hwh], Nat.le_succ_of_le hi3, hi4⟩
    · rename k ≠ 62 => h62
      rename isWhite k = false => hwh
      rename ¬ 0 ≤ figureWorth k => hw
      have hep : hexGo ks 0 [] = .error (i : Int) := by rw [hi2, if_neg h62, if_neg hw, if_neg (by rw [hwh]; decide)]
      walk_at "mine raise"
  · clear F1 N1
    rintro ⟨vs, ns, n⟩ u h tk hP F1 N1
    have hP' : IntsAre vs ns ∧ hexGo ks 0 [] = .ok ns ∧ ns.length ≤ 1000 ∧ ∀ x ∈ ns, 0 ≤ x ∧ x ≤ 15 := by
      rcases hP with ⟨p1, p2, p3, p4⟩ | hP
      · dsimp only at p1 p2 p3 p4
        rw [← hkl, List.drop_length, hexGo] at p2
        exact ⟨p1, p2, by omega, p4⟩
      · exact hP
    clear hP
    obtain ⟨hi1, hgo, hi3, hi4⟩ := hP'
    dsimp only at F1 N1
    have hl := hi1.length
    k_steps
    all_goals (
      (rename News _ _ _ _ => N2)
      (rename Fr _ _ _ _ => F2)
      rename IsRange _ _ _ _ _ _ _ _ => hr
      obtain ⟨zs, n', hz, hpz, hzl, hz2, hz15⟩ := (by first | exact hz_odd N2 hi1 hi4 (by with_reducible assumption) | exact hz_even N2 hi1 hi4 (by with_reducible assumption))
      have hz3 := hz.length
      have hr2 := r2 (n := n') hr (by omega) (by omega)
      refine ⟨_, _, _, _, _, _, _, n', _, rfl, rfl, F2, N2, hr, hr2.1, hr2.2.1, hr2.2.2, ?_⟩
      rintro _ ⟨gg, rfl⟩
      refine comp_rest (fun i ys => IntsAre ys ((hexPairs zs).take i)) .nil trivial ?_ ?_)
    · rintro i v ys I oI C oC D m₂ h tk E' hlt ⟨t, rfl⟩ hys hC hm F3 N3 off ne
      have hg := hexPairs_get (zs := zs) (i := i) (by omega)
      rw [show 2 * i = (0 + (i : Int) * 2).toNat by omega, show (0 + (i : Int) * 2).toNat + 1 = (0 + (i : Int) * 2 + 1).toNat by omega] at hg
      have hi0 : (0 : Int) ≤ 0 + (i : Int) * 2 := by omega
      have hi1' : 0 + (i : Int) * 2 + 1 < zs.length := by omega
      clear F2 N2
      k_steps
      exact ⟨_, _, _, rfl, by k_asm, by k_asm, fun _ hp => hp, by rw [take_succ_of hg]; exact IntsAre.append hys (.cons _ _ .nil)⟩
    · intro ys hys
      have hhl := hexPairs_len zs
      rw [List.take_of_length_le (by omega)] at hys
      have hin := hexPairs_in hz15
      intro D h9 tk9 F4 N4 off
      clear F2 N2
      k_steps
      exact Back.intro [] (by k_asm) (by k_asm) (fun _ h => nomatch h) ⟨rfl, _, _, _, hgo, rfl, by rw [bInts_byteArr hin, hpz]⟩
    · rintro i v ys I oI C oC D m₂ h tk E' hlt ⟨t, rfl⟩ hys hC hm F3 N3 off ne
      have hg := hexPairs_get (zs := zs) (i := i) (by omega)
      rw [show 2 * i = (0 + (i : Int) * 2).toNat by omega, show (0 + (i : Int) * 2).toNat + 1 = (0 + (i : Int) * 2 + 1).toNat by omega] at hg
      have hi0 : (0 : Int) ≤ 0 + (i : Int) * 2 := by omega
      have hi1' : 0 + (i : Int) * 2 + 1 < zs.length := by omega
      clear F2 N2
      k_steps
      exact ⟨_, _, _, rfl, by k_asm, by k_asm, fun _ hp => hp, by rw [take_succ_of hg]; exact IntsAre.append hys (.cons _ _ .nil)⟩
    · intro ys hys
      have hhl := hexPairs_len zs
      rw [List.take_of_length_le (by omega)] at hys
      have hin := hexPairs_in hz15
      intro D h9 tk9 F4 N4 off
      clear F2 N2
      k_steps
      exact Back.intro [] (by k_asm) (by k_asm) (fun _ h => nomatch h) ⟨rfl, _, _, _, hgo, rfl, by rw [bInts_byteArr hin, hpz]⟩
end Mine
namespace Mine
open PySem.Calls PySem.Spec PySem.W
def b85Go : List Int → Nat → List Int → List Int → Int → Except Int (List Int × List Int × Int)
  | [], _, os, ss, la => .ok (os, ss, la)
  | k :: r, i, os, ss, la =>
    if isWhite k then b85Go r (i + 1) os ss la
    else if k = 126 then (if nextEnd r then .ok (os, ss, la) else .error i)
    else if k = 122 ∧ ss = [] then b85Go r (i + 1) (os ++ [0, 0, 0, 0]) ss la
    else if ¬ (33 ≤ k ∧ k ≤ 117) then .error i
    else if ss.length = 4 then (if sum85 (pad5 (ss ++ [k - 33])) ≤ 4294967295 then b85Go r (i + 1) (os ++ octGrp (ss ++ [k - 33])) [] i else .error i)
    else b85Go r (i + 1) os (ss ++ [k - 33]) i
def b85Fin (os ss : List Int) (la : Int) : Except Int (List Int) :=
  if ss.length = 1 then .error la else if ss = [] then .ok os else if sum85 (pad5 ss) ≤ 4294967295 then .ok (os ++ octGrp ss) else .error la
def b85Dec (ks : List Int) : Except Int (List Int) := match b85Go ks 0 [] [] (-1) with
  | .ok (os, ss, la) => b85Fin os ss la
  | .error k => .error k

theorem octGrp_length5 {ks : List Int} (h : ks.length = 5) : (octGrp ks).length = 4 := by
  unfold octGrp
  rw [List.length_take, h]
  rfl
theorem octGrp_length (ks : List Int) : (octGrp ks).length ≤ 4 := by
  unfold octGrp
  rw [List.length_take]
  exact Nat.le_trans (Nat.min_le_right _ _) (Nat.le_refl _)
theorem octGrp_len {ks : List Int} (h : ks.length ≠ 0) (h1 : ks.length ≠ 1) : (octGrp ks).length ≠ 0 := by
  unfold octGrp
  rw [List.length_take]
  simp only [oct4, List.length_cons, List.length_nil]
  omega
theorem octGrp_in (ks : List Int) : KBa.In (octGrp ks) := by
  intro n hn
  have hn := List.mem_of_mem_take hn
  simp only [oct4, List.mem_cons, List.not_mem_nil, or_false] at hn
  rcases hn with rfl | rfl | rfl | rfl <;> (rw [Int.fmod_eq_emod_of_nonneg _ (by decide)]; constructor <;> omega)

theorem ownOff_cons {own : Led} {a b : Addr} {r : List Addr} (h : ∀ p ∈ own, @LT.lt Nat _ p.1 a) (x : OwnOff own (b :: r)) : OwnOff own (a :: r) := fun p hp c hc e => by
  rcases List.mem_cons.mp hc with rfl | hc
  · exact Nat.ne_of_lt (h p hp) e
  · exact x p hp c (.tail _ hc) e

structure B85S where
  lo : Addr
  vo : List Value
  os : List Int
  no : Nat
  sa : Addr
  vs : List Value
  ss : List Int
  ns : Nat
  la : Int
  tl : Tok

set_option maxHeartbeats 4000000 in
theorem base85_decoded_spec (w : World) (b : Array UInt8) (tb : Tok) (hb : b.size ≤ 1000) :
    XSpec w 122 40 [.bytes b tb] [] (fun r nw => nw = [] ∧ ∃ os b' t', b85Dec (KBw.bInts b) = .ok os ∧ r = .bytes b' t' ∧ KBw.bInts b' = os) (fun k => b85Dec (KBw.bInts b) = .error k) := by
  have hkl : (KBw.bInts b).length = b.size := KBw.ints_length b
  obtain ⟨ks, hks⟩ : ∃ ks, KBw.bInts b = ks := ⟨_, rfl⟩
  rw [hks] at hkl ⊢
  refine' XSpec.of_body [(Str.ofString "data", .bytes b tb)] ?ho ?hcd ?hb ?hl ?hc ?h1 ?h2 ?h3 ?_
  walk_at "mine body"
  intro dp un gd cn cs L a ccd cl outer base g L' h₁ s tk p loose mean mg mb xs hd9 hu B F X T hrd hxs Qe Ee thr
  have kM := kstMark
  have N0 : News g L' h₁ [] := News.nil
  walk_at "mine go"
  k_steps
  (rename Fr _ _ _ _ => F1)
  (rename News _ _ _ _ => N1)
  refine turns_enumB (σ := B85S) (fun c => [(c.sa, W.listOf c.vs.toArray c.ns), (c.lo, W.listOf c.vo.toArray c.no)]) (fun c => [(Str.ofString "octets", .ref c.lo), (Str.ofString "signs", .ref c.sa), (Str.ofString "last", .int c.la c.tl)]) [Str.ofString "at", Str.ofString "code"]
    (fun i c => @LT.lt Nat _ c.lo c.sa ∧ IntsAre c.vo c.os ∧ IntsAre c.vs c.ss ∧ b85Go ks 0 [] [] (-1) = b85Go (ks.drop i) i c.os c.ss c.la ∧ c.os.length ≤ 5 * i ∧ c.ss.length ≤ 4 ∧ KBa.In c.os ∧ ∀ k ∈ c.ss, 0 ≤ k ∧ k ≤ 84)
    (fun c => @LT.lt Nat _ c.lo c.sa ∧ IntsAre c.vo c.os ∧ IntsAre c.vs c.ss ∧ b85Go ks 0 [] [] (-1) = .ok (c.os, c.ss, c.la) ∧ c.os.length ≤ 5000 ∧ c.ss.length ≤ 4 ∧ KBa.In c.os ∧ ∀ k ∈ c.ss, 0 ≤ k ∧ k ≤ 84)
    ⟨_, [], [], 0, _, [], [], 0, -1, _⟩ rfl F1 (fun p hp => N1 p (.tail _ hp)) (by kst_all) ⟨by assumption, .nil, .nil, rfl, Nat.le_refl _, Nat.zero_le _, (fun _ h => nomatch h), (fun _ h => nomatch h)⟩ ?_ ?_
  · clear F1 N1
    rintro i k T t t' ⟨lo, vo, os, no, sa, vs, ss, ns, la, tl⟩ u h tk e it o o' hk hk0 hk1 hlt hP9 hT ho ho' hoff hie hlI F1 N1
    walk_at "mine shut"
    obtain ⟨hls, hiO, hiS, hgo, hi3, hi4, hi5, hi6⟩ := hP9
    walk_at "mine open"
    dsimp only at hls hiO hiS hgo hi3 hi4 hi5 hi6 F1 N1
    rw [hks] at hk
    rw [drop_at hk, b85Go] at hgo
    simp only [List.cons_append, List.nil_append] at N1
    simp only [List.map_cons, List.map_nil] at hoff
    replace hlI := allLt_of hlI
    simp only [AllLt, and_true] at hlI
    have hlO := hiO.length
    have hlS := hiS.length
    have hin6 : 33 ≤ k → k ≤ 117 → ∀ x ∈ ss ++ [k - 33], 0 ≤ x ∧ x ≤ 84 := fun h1 h2 x hx => by
      rcases List.mem_append.mp hx with hx | hx
      · exact hi6 x hx
      · rw [List.mem_singleton.mp hx]; constructor <;> omega
    refine unpackN_ F1 N1 hT rfl rfl rfl ?_
    intro h2 F2 N2
    clear F1 N1 hT
    k_steps
    · rename isWhite k = true => hwh
      (rename News _ _ _ _ => NN)
      exact turnEnd ⟨_, _, _, _, _, _, _, _, _, _⟩ (by assumption) NN (by kst_inAny) (by kst_anyIn) (by walk_at "mine off") (by kst_all) (by walk_at "mine same") ⟨hls, hiO, hiS, by rw [hgo, if_pos hwh], by dsimp only; omega, hi4, hi5, hi6⟩
    · rename isWhite k = false => hwh
      rename k = 126 => h126
      have hw' : ¬ isWhite k = true := by rw [hwh]; decide
      rw [if_neg hw', if_pos h126] at hgo
      (try walk_at "mine fold")
      refine XSpec.use (xs := xs) (is_end_at_spec w b tb i t hb hlt) (by k_asm) (by k_asm) (by k_asm) (by k_asm) (by k_asm) (by exact rfl) (by walk_at "mine room") (by walk_at "mine units") (fun _ h => nomatch h) ?hx ?hE ?_
      case hx => exact XOK.inner (by k_asm) hxs
      case hE =>
        rintro e9 k9 h9 tk9 ⟨rfl, hne⟩ R sm
        rw [hks] at hne
        exact thr _ _ (Throw.on (by k_asm) (by unfold b85Dec; rw [hgo, if_neg (by rw [hne]; decide)]) R sm)
      rintro r n' h' tk' F3 N3 ne ⟨rfl, rfl, hend⟩
      rw [hks] at hend
      simp only [List.nil_append] at N3
      k_sweep
      k_steps
      (rename News _ _ _ _ => NN)
      exact turnEnd ⟨_, _, _, _, _, _, _, _, _, _⟩ (by assumption) NN (by kst_inAny) (fun _ h => nomatch h) (fun _ h => nomatch h) (by kst_all) (by walk_at "mine same") ⟨hls, hiO, hiS, by rw [hgo, if_pos hend], by dsimp only; omega, hi4, hi5, hi6⟩
    · rename isWhite k = false => hwh
      rename k ≠ 126 => h126
      rename k = 122 => h122
      rename decide (ss = []) = true => hss
      have hw' : ¬ isWhite k = true := by rw [hwh]; decide
      rw [if_neg hw', if_neg h126, if_pos ⟨h122, of_decide_eq_true hss⟩] at hgo
      refine Mine.Stop.into ?_
      k_dflt (refine' extend_K (by k_asm) (by k_asm) ?hb ?hn ?hz ?hU ?_)
      (case hb => exact List.Mem.head _)
      (case hn => exact Nat.succ_ne_zero _)
      (case hU => k_upd)
      (case hz => (simp only [List.length_cons, List.length_nil]; omega))
      intro h4 F4 N4
      k_steps
      refine turnEnd ⟨_, _, _, _, _, _, _, _, _, _⟩ (by assumption) N4 (by kst_inAny) (by kst_anyIn) (by walk_at "mine off") (by kst_all) (by walk_at "mine same") ⟨hls, IntsAre.append hiO (by repeat constructor), hiS, hgo, ?_, hi4, ?_, hi6⟩
      · simp only [List.length_append, List.length_cons, List.length_nil]; omega
      · intro x hx
        rcases List.mem_append.mp hx with hx | hx
        · exact hi5 x hx
        · simp only [List.mem_cons, List.not_mem_nil, or_false, or_self] at hx; rw [hx]; decide
    · rename isWhite k = false => hwh
      rename k ≠ 126 => h126
      rename k = 122 => h122
      rename decide (ss = []) = false => hss
      have hw' : ¬ isWhite k = true := by rw [hwh]; decide
      have hep : b85Dec ks = .error (i : Int) := by
        unfold b85Dec
        rw [hgo, if_neg hw', if_neg h126, if_neg (fun z => of_decide_eq_false hss z.2), if_pos (fun z => by omega)]
      walk_at "mine raise"
    · rename isWhite k = false => hwh
      rename k ≠ 126 => h126
      rename k ≠ 122 => h122
      rename 33 ≤ k => h33
      rename k ≤ 117 => h117
      have hw' : ¬ isWhite k = true := by rw [hwh]; decide
      have hl4 : ss.length = 4 := by omega
      rw [if_neg hw', if_neg h126, if_neg (fun z => h122 z.1), if_neg (fun z => z ⟨h33, h117⟩), if_pos hl4] at hgo
      have hl5 : (ss ++ [k - 33]).length = 5 := by rw [List.length_append, hl4]; rfl
      (try walk_at "mine fold")
      refine XSpec.use (xs := xs) (octets_of_group_spec w _ (vs ++ [Value.int (k - 33) _]) (ss ++ [k - 33]) _ _ _ (IntsAre.append hiS (.cons _ _ .nil)) (by omega) (by omega) (hin6 h33 h117)) (by k_asm) (by k_asm) (by k_asm) (by k_asm) (by k_asm) (by exact rfl) (by walk_at "mine room") (by walk_at "mine units") (List.forall_mem_cons.mpr ⟨.head _, List.forall_mem_nil _⟩) ?hx ?hE ?_
      case hx => exact XOK.inner (by k_asm) hxs
      case hE =>
        rintro e9 k9 h9 tk9 ⟨rfl, hne⟩ R sm
        exact thr _ _ (Throw.on (by k_asm) (by unfold b85Dec; rw [hgo, if_neg hne]) R sm)
      rintro r n' h' tk' F3 N3 ne ⟨hsum, l8, v8, n8, rfl, rfl, hI8⟩
      simp only [List.forall_mem_cons, List.not_mem_nil, false_implies, implies_true, and_true, AllNe] at ne
      simp only [List.cons_append, List.nil_append] at N3
      rw [if_pos hsum] at hgo
      have hL8 := hI8.length
      have h84 : (octGrp (ss ++ [k - 33])).length = 4 := octGrp_length5 hl5
      k_sweep
      k_steps
      refine Mine.Stop.into ?_
      k_dflt (refine' extend_K (by k_asm) (by k_asm) ?hb ?hn ?hz ?hU ?_)
      (case hb => exact List.Mem.head _)
      (case hn => omega)
      (case hU => k_upd)
      (case hz => omega)
      intro h4 F4 N4
      k_steps
      (rename News _ _ _ _ => NN)
      rename (@LT.lt Nat _ l8 _) ∧ _ => hl9
      have hl9' := hl9.2.2.1
      have hoff9 := ownOff_cons (List.forall_mem_cons.mpr ⟨hl9.2.2.2.1, List.forall_mem_cons.mpr ⟨hl9.2.2.2.2, List.forall_mem_nil _⟩⟩) hoff
      exact turnEnd ⟨_, _, os ++ octGrp (ss ++ [k - 33]), _, _, [], [], 0, _, _⟩ (by assumption) NN (by kst_inAny) (by kst_anyIn) (by walk_at "mine off") (by kst_all) (by walk_at "mine same")
        ⟨hl9', IntsAre.append hiO hI8, .nil, hgo, by dsimp only; rw [List.length_append]; omega, Nat.zero_le _, fun x hx => (List.mem_append.mp hx).elim (hi5 x) (octGrp_in _ x), (fun _ h => nomatch h)⟩
    · rename isWhite k = false => hwh
      rename k ≠ 126 => h126
      rename k ≠ 122 => h122
      rename 33 ≤ k => h33
      rename k ≤ 117 => h117
      have hw' : ¬ isWhite k = true := by rw [hwh]; decide
      have hl4 : ¬ ss.length = 4 := by omega
      rw [if_neg hw', if_neg h126, if_neg (fun z => h122 z.1), if_neg (fun z => z ⟨h33, h117⟩), if_neg hl4] at hgo
      (rename News _ _ _ _ => NN)
      exact turnEnd ⟨_, _, _, _, _, _, _, _, _, _⟩ (by assumption) NN (by kst_inAny) (by kst_anyIn) (by walk_at "mine off") (by kst_all) (by walk_at "mine same") ⟨hls, hiO, IntsAre.append hiS (.cons _ _ .nil), hgo, by dsimp only; omega, by rw [List.length_append, List.length_singleton]; omega, hi5, hin6 h33 h117⟩
    · rename isWhite k = false => hwh
      rename k ≠ 126 => h126
      rename k ≠ 122 => h122
      have hw' : ¬ isWhite k = true := by rw [hwh]; decide
      have hep : b85Dec ks = .error (i : Int) := by
        unfold b85Dec
        rw [hgo, if_neg hw', if_neg h126, if_neg (fun z => h122 z.1), if_pos (fun z => by omega)]
      walk_at "mine raise"
    · rename isWhite k = false => hwh
      rename k ≠ 126 => h126
      rename k ≠ 122 => h122
      have hw' : ¬ isWhite k = true := by rw [hwh]; decide
      have hep : b85Dec ks = .error (i : Int) := by
        unfold b85Dec
        rw [hgo, if_neg hw', if_neg h126, if_neg (fun z => h122 z.1), if_pos (fun z => by omega)]
      walk_at "mine raise"
  · clear F1 N1
    rintro ⟨lo, vo, os, no, sa, vs, ss, ns, la, tl⟩ u h tk hP F1 N1
    have hP' : @LT.lt Nat _ lo sa ∧ IntsAre vo os ∧ IntsAre vs ss ∧ b85Go ks 0 [] [] (-1) = .ok (os, ss, la) ∧ os.length ≤ 5000 ∧ ss.length ≤ 4 ∧ KBa.In os ∧ ∀ k ∈ ss, 0 ≤ k ∧ k ≤ 84 := by
      rcases hP with ⟨p1, p2, p3, p4, p5, p6⟩ | hP
      · dsimp only at p1 p2 p3 p4 p5 p6
        rw [← hkl, List.drop_length, b85Go] at p4
        exact ⟨p1, p2, p3, p4, by omega, p6⟩
      · exact hP
    clear hP
    obtain ⟨hls, hiO, hiS, hgo, hi3, hi4, hi5, hi6⟩ := hP'
    dsimp only at F1 N1
    have hlO := hiO.length
    have hlS := hiS.length
    k_steps
    · rename Int.ofNat _ = 1 => h1
      have hep : b85Dec ks = .error la := by
        unfold b85Dec
        rw [hgo]
        show b85Fin os ss la = _
        rw [b85Fin, if_pos (by omega)]
      walk_at "mine raise"
    · rename decide (ss = []) = true => hss
      have hss := of_decide_eq_true hss
      exact Back.intro [] (by k_asm) (by k_asm) (fun _ h => nomatch h) ⟨rfl, os, _, _, by
        unfold b85Dec
        rw [hgo]
        show b85Fin os ss la = _
        rw [b85Fin, if_neg (by omega), if_pos hss], rfl, bInts_byteArr hi5⟩
    · rename decide (ss = []) = false => hss
      have hss := of_decide_eq_false hss
      have hs0 : ss.length ≠ 0 := fun z => hss (List.length_eq_zero_iff.mp z)
      have hfin : b85Dec ks = if sum85 (pad5 ss) ≤ 4294967295 then .ok (os ++ octGrp ss) else .error la := by
        unfold b85Dec
        rw [hgo]
        show b85Fin os ss la = _
        rw [b85Fin, if_neg (by omega), if_neg hss]
      (try walk_at "mine fold")
      refine XSpec.use (xs := xs) (octets_of_group_spec w _ vs ss _ _ _ hiS (by omega) (by omega) hi6) (by k_asm) (by k_asm) (by k_asm) (by k_asm) (by k_asm) (by exact rfl) (by walk_at "mine room") (by walk_at "mine units") (List.forall_mem_cons.mpr ⟨.tail _ (.head _), List.forall_mem_nil _⟩) ?hx ?hE ?_
      case hx => exact XOK.inner (by k_asm) hxs
      case hE =>
        rintro e9 k9 h9 tk9 ⟨rfl, hne⟩ R sm
        exact thr _ _ (Throw.on (by k_asm) (by rw [hfin, if_neg hne]) R sm)
      rintro r n' h' tk' F3 N3 ne ⟨hsum, l8, v8, n8, rfl, rfl, hI8⟩
      simp only [List.forall_mem_cons, List.not_mem_nil, false_implies, implies_true, and_true, AllNe] at ne
      simp only [List.cons_append, List.nil_append] at N3
      rw [if_pos hsum] at hfin
      have hL8 := hI8.length
      have h84 := octGrp_len hs0 (by omega : ss.length ≠ 1)
      have h85 := octGrp_length ss
      k_sweep
      k_steps
      refine Mine.Stop.into ?_
      k_dflt (refine' extend_K (by k_asm) (by k_asm) ?hb ?hn ?hz ?hU ?_)
      (case hb => exact List.Mem.head _)
      (case hn => omega)
      (case hU => k_upd)
      (case hz => omega)
      intro h4 F4 N4
      have hi9 := IntsAre.append hiO hI8
      have hin9 : KBa.In (os ++ octGrp ss) := fun x hx => (List.mem_append.mp hx).elim (hi5 x) (octGrp_in _ x)
      have hln9 : (os ++ octGrp ss).length ≤ 5004 := by rw [List.length_append]; omega
      k_steps
      exact Back.intro [] (by k_asm) (by k_asm) (fun _ h => nomatch h) ⟨rfl, _, _, _, hfin, rfl, bInts_byteArr hin9⟩
end Mine
namespace Mine
open PySem.Calls PySem.Spec PySem.W

abbrev penO (sc : Addr) (i : Int) (ti : Tok) (d : Int) (td : Tok) (z : Int) (tz : Tok) (n : Nat) : Obj := W.listOf [.ref sc, .int i ti, .int d td, .int z tz].toArray n
/-- the pen, whatever it holds -/
def PenIs (sc : Addr) (b : Nat) (o : Obj) : Prop := ∃ i ti d td z tz n, o = penO sc i ti d td z tz n ∧ 0 ≤ i ∧ i ≤ (b : Int) ∧ 0 ≤ d ∧ 0 ≤ z ∧ z ≤ 1009

theorem pow1018 {prog : Program} {w : World} {A : Around} {E : Value → Shared → Prop} {s : Shared} {u v : Tok} {Q : Value → Shared → Prop} (h : Q (.int 1000000000000000000 s.toks) { s with toks := s.toks + 1 }) :
    wpAny (model prog w) A (binaryOp .Pow (.int 10 u) (.int 18 v)) Q E s := by
  refine PyProof.Rows.pow_int_small (by decide) (by decide) (by decide) ?_
  exact h

theorem gen_any {M : Model} {A : Around} {E : Value → Shared → Prop} {s : Shared} {env : Env} {x : Str} {v : Int} {t : Tok} {Q : Unit → Shared → Prop} (h : ∀ gr, wpAny M A (storeName env x (.int gr t)) Q E s) : wpAny M A (storeName env x (.int v t)) Q E s := h v
theorem gen_store {M : Model} {A : Around} {E : Value → Shared → Prop} {s : Shared} {env : Env} {x : Str} {v : Int} {t : Tok} {Q : Unit → Shared → Prop} (h0 : 0 ≤ v) (h : ∀ gr, 0 ≤ gr → wpAny M A (storeName env x (.int gr t)) Q E s) : wpAny M A (storeName env x (.int v t)) Q E s := h v h0

end Mine
theorem Mine.words_P20_in : True := by
  (k_with "storeName" => (k_here; (with_reducible show wpAny _ _ (storeName _ (Str.ofString "great") (Value.int (_ + _) _)) _ _ _); (rename ¬ (ite _ _ _ < (1000000000000000000 : Int)) => hz9_w); refine Mine.gen_store (by split at hz9_w <;> omega) ?_; clear hz9_w; intro gr_w hgr_w; (try dsimp only)))
  (k_with "storeName" => (k_here; (with_reducible show wpAny _ _ (storeName _ (Str.ofString "cell") (Value.int (List.getD _ _ _) _)) _ _ _); refine Mine.gen_any ?_; intro c9_w))
  (k_with "binaryOp Pow int int" => (k_here; (with_reducible show wpAny _ _ (binaryOp Operator.Pow (Value.int 10 _) (Value.int 18 _)) _ _ _); refine Mine.pow1018 ?_; (try dsimp only)))
  trivial
namespace Mine
open PySem.Calls PySem.Spec PySem.W
set_option maxHeartbeats 1000000 in
theorem draw_spec (w : World) (pen sc : Addr) (vs : List Value) (ns : List Int) (nsc : Nat) (i : Int) (ti : Tok) (d : Int) (td : Tok) (z : Int) (tz : Tok) (n : Nat) (many : Int) (t : Tok) (hi : IntsAre vs ns) (bb : Nat) (h0 : 0 ≤ i) (hib : i ≤ (bb : Int)) (hbb : bb ≤ 10000) (h1 : 0 ≤ d) (hz0 : 0 ≤ z) (hz1 : z ≤ 1009) (hm : 1 ≤ many) (hm2 : many ≤ 300) (hl : ns.length ≤ 63) :
    MSpec w 130 10 [.ref pen, .int many t] [(sc, W.listOf vs.toArray nsc)] [(pen, penO sc i ti d td z tz n)] (fun r nw => ∃ o' n', nw = (pen, o') :: n' ∧ n' = [] ∧ PenIs sc (bb + 1) o' ∧ ∃ k t, r = .int k t ∧ 0 ≤ k ∧ k < many) := by
  refine' MSpec.of_body [(Str.ofString "pen", .ref pen), (Str.ofString "many", .int many t)] ?ho ?hcd ?hb ?hl ?hc ?h1 ?h2 ?h3 ?_
  walk_at "mine body"
  intro dp un gd cn cs L a ccd cl outer base g L' h₁ s tk p loose mean mg mb hd9 hu B F N X T lt hrd
  have kM := kstMark
  have hlG : g.IsList sc vs.toArray := ⟨_, hrd _ (.head _), rfl, _, rfl⟩
  have hvl := hi.length
  walk_at "mine go"
  k_steps
  all_goals (try dsimp only)
  all_goals (
    (rename News _ _ _ _ => NN)
    have fm : ∀ x : Int, 0 ≤ x.fmod many ∧ x.fmod many < many := fun x => ⟨Int.fmod_nonneg_of_pos x (by omega), Int.fmod_lt_of_pos x (by omega)⟩
    exact Back.intro [_] (by k_asm) NN (List.forall_mem_cons.mpr ⟨.head _, List.forall_mem_nil _⟩) ⟨_, _, rfl, rfl, ⟨_, _, _, _, _, _, _, rfl, by omega, by omega, by first | assumption | exact Int.fdiv_nonneg (by assumption) (by omega), hz0, hz1⟩, _, _, rfl, fm _⟩)
/-- a call that turns one object -/
theorem MSpec.use1h {w : World} {f : Addr} {dn : Nat} {vs : List Value} {rd news : Led} {c : Addr} {o : Obj} {g : Obj → Led} {post : Value → Obj → Led → Prop} (S : MSpec w f dn vs rd [(c, o)] (fun r n => ∃ o' n', n = (c, o') :: n' ∧ post r o' n'))
    {dp un : Nat} {gd : Option (List Code)} {cn : Str} {cs : Scope} {a : Addr} {ccd : Value} {cl : List (Str × Addr)} {outer : List Env} {A₀ : Around} {base h₀ : Heap} {L : Addr} {m : Str → Option Value} {s : Shared} {Q E : Value → Shared → Prop}
    {p : Program} {loose : List Str} {mean : ExcName → Option Value} {mg mb : Str → Option Value}
    (B : Below A₀ base outer h₀) (F : Fr h₀ L s.heap m) (X : (hd.heap_1 w.params).In h₀) (N : News h₀ L s.heap news) (T : Top p loose mean mg mb h₀) (hk : cs.kind = .function)
    (hr : dp + dn < recursionLimit) (hu : un + 8 * dn < cLine) (hrd : ∀ p ∈ rd, s.heap.get? p.1 = some p.2 ∧ p.1 ≠ c) (U : UpdF c o news g)
    (ret : ∀ (r : Value) (o' : Obj) (n' : Led) (h' : Heap) (tk' : Nat), Fr h₀ L h' m → News h₀ L h' (n' ++ g o') → (∀ p ∈ n', p.1 ≠ c → AllNe p.1 news) → post r o' n' → Q r { s with heap := h', toks := tk' }) :
      wpAny (model PySem.Challenge.rw_nn0196_01.row.prog w) (ktrTop dp un gd cn cs L a ccd cl outer) (call (.ref f) vs) Q E s := by
  refine (let gk : Prop := _; (?_ : gk))
  obtain ⟨pre, suf, hn, hg, h1, h2⟩ := U.split
  unfold gk
  clear gk
  subst hn
  refine S dp un gd cn cs a ccd cl outer A₀ base h₀ L m s Q E p loose mean mg mb B F X (fun q hq => N q (List.mem_append_right _ (by rw [List.mem_singleton.mp hq]; exact .head _))) T hk hr hu (fun q hq => ⟨(hrd q hq).1, fun x => (hrd q hq).2 (by simpa using x)⟩) ?_
  rintro r nn h' tk' F' N' kp fr ⟨o', n', rfl, hp⟩
  have old : ∀ q ∈ pre ++ suf, h'.get? q.1 = some q.2 ∧ q.1 ≠ L ∧ h₀.get? q.1 = none := fun q hq => by
    have hq' : q ∈ pre ++ (c, o) :: suf := by
      rcases List.mem_append.mp hq with x | x
      · exact List.mem_append_left _ x
      · exact List.mem_append_right _ (.tail _ x)
    have hne : q.1 ≠ c := (List.mem_append.mp hq).elim (h1 q) (h2 q)
    exact ⟨kp _ _ (fun x => hne (by simpa using x)) (N q hq').1, (N q hq').2⟩
  refine ret r o' n' h' tk' F' (fun q hq => ?_) (fun q hq hc => allNe_of fun q' hq' e => ?_) hp
  · rw [hg] at hq
    rcases List.mem_append.mp hq with x | x
    · exact N' q (.tail _ x)
    · rcases List.mem_append.mp x with x | x
      · exact old q (List.mem_append_left _ x)
      · rcases List.mem_cons.mp x with rfl | x
        · exact N' _ (.head _)
        · exact old q (List.mem_append_right _ x)
  · rcases fr q (.tail _ hq) with h | h
    · exact hc (by simpa using h)
    · rw [← e, (N q' hq').1] at h; cases h


theorem pen_ne {sc pen : Addr} {bb : Nat} {o : Obj} {h : Heap} {vs : List Value} {ns : List Int} {nsc : Nat} (hp : PenIs sc bb o) (hi : IntsAre vs ns) (h1 : h.get? sc = some (W.listOf vs.toArray nsc)) (h2 : h.get? pen = some o) : sc ≠ pen := fun e => by
  obtain ⟨i, ti, d, td, z, tz, n, rfl, _⟩ := hp
  rw [e, h2] at h1
  injection h1 with h1
  injection h1 with _ _ h1
  injection h1 with h1
  have h1 : [Value.ref sc, .int i ti, .int d td, .int z tz] = vs := by simpa using h1
  rw [← h1] at hi
  cases hi

theorem draw_use {w : World} {pen sc : Addr} {bb : Nat} {o : Obj} {vs : List Value} {ns : List Int} {nsc : Nat} {many : Int} {t : Tok} {news : Led} {gg : Obj → Led}
    {dp un : Nat} {gd : Option (List Code)} {cn : Str} {cs : Scope} {a : Addr} {ccd : Value} {cl : List (Str × Addr)} {outer : List Env} {A₀ : Around} {base h₀ : Heap} {L : Addr} {m : Str → Option Value} {s : Shared} {Q E : Value → Shared → Prop}
    {p : Program} {loose : List Str} {mean : ExcName → Option Value} {mg mb : Str → Option Value}
    (B : Below A₀ base outer h₀) (F : Fr h₀ L s.heap m) (X : (hd.heap_1 w.params).In h₀) (N : News h₀ L s.heap news) (T : Top p loose mean mg mb h₀) (hk : cs.kind = .function)
    (hr : dp + 10 < recursionLimit) (hu : un + 8 * 10 < cLine) (U : UpdF pen o news gg) (hp : PenIs sc bb o) (hi : IntsAre vs ns) (hsc : h₀.get? sc = some (W.listOf vs.toArray nsc) ∨ (sc, W.listOf vs.toArray nsc) ∈ news) (hl : ns.length ≤ 63) (hbb : bb ≤ 10000) (hm : 1 ≤ many) (hm2 : many ≤ 300)
    (ret : ∀ k t o' h' tk', Fr h₀ L h' m → News h₀ L h' (gg o') → PenIs sc (bb + 1) o' → 0 ≤ k → k < many → Q (.int k t) { s with heap := h', toks := tk' }) :
      wpAny (model PySem.Challenge.rw_nn0196_01.row.prog w) (ktrTop dp un gd cn cs L a ccd cl outer) (call (.ref 130) [.ref pen, .int many t]) Q E s := by
  have hsc' : s.heap.get? sc = some (W.listOf vs.toArray nsc) := hsc.elim (F.keep _ _) fun h => (N _ h).1
  refine (let gk : Prop := _; (?_ : gk))
  obtain ⟨pre, suf, hn, hg, h1, h2⟩ := id U.split
  unfold gk
  clear gk
  have hpen := (N (pen, o) (by rw [hn]; exact List.mem_append_right _ (.head _))).1
  have hne := pen_ne hp hi hsc' hpen
  obtain ⟨i, ti, d, td, z, tz, n, rfl, b1, b2, b3, b4, b5⟩ := id hp
  (try walk_at "mine fold")
  refine MSpec.use1h (draw_spec w pen sc vs ns nsc i ti d td z tz n many t hi bb b1 b2 hbb b3 b4 b5 hm hm2 hl |> fun S => (show MSpec w 130 10 [.ref pen, .int many t] [(sc, W.listOf vs.toArray nsc)] [(pen, penO sc i ti d td z tz n)] (fun r n' => ∃ o' n'', n' = (pen, o') :: n'' ∧ (n'' = [] ∧ PenIs sc (bb + 1) o' ∧ ∃ k t, r = .int k t ∧ 0 ≤ k ∧ k < many)) from S)) B F X N T hk hr hu (List.forall_mem_cons.mpr ⟨⟨hsc', hne⟩, List.forall_mem_nil _⟩) U ?_
  rintro r o' n' h' tk' F' N' _ ⟨rfl, hp', k, t, rfl, k0, k1⟩
  exact ret k t o' h' tk' F' N' hp' k0 k1

structure ScIs (sc : Addr) (vs : List Value) (ns : List Int) (n : Nat) : Prop where
  areInts : IntsAre vs ns
  len : ns.length ≤ 63
theorem PenIs.mono {sc : Addr} {b b' : Nat} {o : Obj} (h : PenIs sc b o) (hb : b ≤ b') : PenIs sc b' o := by
  refine (let gk : Prop := _; (?_ : gk))
  obtain ⟨i, ti, d, td, z, tz, n, e, b1, b2, b3⟩ := h
  unfold gk
  clear gk
  exact ⟨i, ti, d, td, z, tz, n, e, b1, by omega, b3⟩
end Mine
theorem Mine.words_P20 : True := by
  (k_with "call ref" => (k_here; (with_reducible show wpAny _ _ (call (Value.ref 130) [Value.ref _, Value.int _ _]) _ _ _); (rename Mine.PenIs _ _ _ => hpn_w); (rename Mine.ScIs _ _ _ _ => hsn_w); (try walk_at "mine fold"); k_dflt ((refine' Mine.draw_use ?B ?F ?X ?N ?T ?K ?R ?U ?UU hpn_w (Mine.ScIs.areInts hsn_w) ?SC (Mine.ScIs.len hsn_w) ?bb ?m1 ?m2 ?_); (case B => k_asm); (case F => k_asm); (case X => k_asm); (case N => k_asm); (case T => k_asm); (case K => first | exact rfl | assumption); (case R => walk_at "mine room"); (case U => walk_at "mine units"); (case UU => k_updF); (case SC => first | (with_reducible exact Or.inl (by assumption)) | (refine Or.inr ?_; repeat' (first | exact List.Mem.head _ | apply List.Mem.tail))); (case bb => omega); (case m1 => first | (with_reducible assumption) | omega); (case m2 => first | (with_reducible assumption) | omega)); clear hpn_w; intro k9_w t9_w o9_w h'_w tk9_w F'_w N'_w hpn9_w hk0_w hk1_w; (try dsimp only at N'_w); (try k_sweep); (try dsimp only); (try k_fold)))
  trivial
namespace Mine
open PySem.Calls PySem.Spec PySem.W

theorem small1 {b : Int} (h0 : 0 ≤ b) (h3 : b ≤ 1000) : Builtin.Range.small 0 b 1 = true := by
  obtain ⟨n, rfl⟩ := Int.eq_ofNat_of_zero_le h0
  exact range1_small (n := n) (by omega) (by omega) (by omega)
theorem size1 {b : Int} (h0 : 0 ≤ b) : Builtin.Range.rangeSize 0 b 1 = (b.toNat : Int) := range1_size (by omega)

theorem in_snoc {fs : List Int} {x : Int} (h : KBa.In fs) (hx : 0 ≤ x ∧ x < 256) : KBa.In (fs ++ [x]) := fun y hy => by
  rcases List.mem_append.mp hy with hy | hy
  · exact h y hy
  · rw [List.mem_singleton.mp hy]; exact hx
theorem in_getD {fs : List Int} (h : KBa.In fs) (j : Nat) : 0 ≤ fs.getD j 0 ∧ fs.getD j 0 < 256 := by
  rw [List.getD_eq_getElem?_getD]
  cases q : fs[j]? with
  | none => decide
  | some x => exact h x (List.mem_of_getElem? q)

set_option maxHeartbeats 4000000 in
theorem octets_spec (w : World) (pen sc : Addr) (o : Obj) (vs : List Value) (ns : List Int) (nsc bb : Nat) (t : Tok) (hs : ScIs sc vs ns nsc) (hp : PenIs sc bb o) (hbb : bb ≤ 9000) :
    MSpec w 144 20 [.ref pen, .int 20 t] [(sc, W.listOf vs.toArray nsc)] [(pen, o)] (fun r nw => ∃ o' n', nw = (pen, o') :: n' ∧ n' = [] ∧ PenIs sc (bb + 50) o' ∧ ∃ b t, r = .bytes b t ∧ b.size ≤ 20) := by
  refine' MSpec.of_body [(Str.ofString "pen", .ref pen), (Str.ofString "most", .int 20 t)] ?ho ?hcd ?hb ?hl ?hc ?h1 ?h2 ?h3 ?_
  walk_at "mine body"
  intro dp un gd cn cs L a ccd cl outer base g L' h₁ s tk p loose mean mg mb hd9 hu B F N X T lt hrd
  have kM := kstMark
  have hscg : g.get? sc = some (W.listOf vs.toArray nsc) := hrd _ (.head _)
  walk_at "mine go"
  k_steps
  rename IsRange _ _ _ _ _ _ _ _ => hr
  (rename Fr _ _ _ _ => F1)
  (rename News _ _ _ _ => N1)
  rename PenIs _ _ _ => hp1
  rename 0 ≤ _ => hk0
  rename _ < (20 : Int) + 1 => hk1
  refine turns_range (σ := Obj × List Value × List Int × Nat) (fun c => [(_, W.listOf c.2.1.toArray c.2.2.2), (pen, c.1)]) (fun _ => []) [Str.ofString "turn", Str.ofString "way"]
    (fun i c => PenIs sc (bb + 1 + 2 * i) c.1 ∧ IntsAre c.2.1 c.2.2.1 ∧ c.2.2.1.length = i ∧ KBa.In c.2.2.1) ⟨_, [], [], 0⟩ rfl hr (small1 hk0 (by omega)) (size1 hk0) F1 N1 (fun _ h => nomatch h) ⟨hp1, .nil, rfl, fun _ h => nomatch h⟩ ?_ ?_
  · clear F1 N1 hp1
    rintro i t ⟨po, fv, fs, fn⟩ u h tk I o9 hlt hP9 ho hoff hlI F1 N1
    walk_at "mine shut"
    obtain ⟨hp1, hf1, hf2, hf3⟩ := hP9
    walk_at "mine open"
    dsimp only at hp1 hf1 hf2 hf3 F1 N1
    simp only [List.cons_append, List.nil_append] at N1
    simp only [List.map_cons, List.map_nil] at hoff
    replace hlI := allLt_of hlI
    simp only [AllLt, and_true] at hlI
    have hl1 := hf1.length
    have hi20 : i < 20 := by omega
    clear hk0 hk1 hlt
    k_steps
    all_goals (
      rename PenIs _ _ _ => hq
      (rename News _ _ _ _ => NN)
      simp only [List.push_toArray] at NN
      exact turnEnd ⟨_, _, _, _⟩ (by assumption) NN (by kst_inAny) (by kst_anyIn) (by walk_at "mine off") (fun _ h => nomatch h) (by walk_at "mine same") ⟨hq.mono (by omega), IntsAre.append hf1 (.cons _ _ .nil), by rw [List.length_append, List.length_singleton, hf2],
        in_snoc hf3 (by first | exact in_getD (in_snoc hf3 (by decide)) _ | (constructor <;> omega) | decide)⟩)
  · clear F1 N1 hp1
    rintro ⟨po, fv, fs, fn⟩ u h tk hP9 F1 N1
    walk_at "mine shut"
    obtain ⟨hp1, hf1, hf2, hf3⟩ := hP9
    walk_at "mine open"
    dsimp only at hp1 hf1 hf2 hf3 F1 N1
    have hl1 := hf1.length
    have hf9 : fs.length ≤ 20 := by omega
    clear hf2
    k_steps
    exact Back.intro [(pen, po)] (by k_asm) (by k_asm) (List.forall_mem_cons.mpr ⟨.tail _ (.head _), List.forall_mem_nil _⟩) ⟨_, _, rfl, rfl, hp1.mono (by omega), _, _, rfl, by rw [← KBw.ints_length, bInts_byteArr hf3]; exact hf9⟩
end Mine
theorem Mine.words_P21 : True := by
  (k_with "eval ListComp" => (k_here; (with_reducible show wpAny _ _ (eval (Expr.ListComp _ [⟨Expr.Name _ _, Expr.Call _ [Expr.Call _ [_, _] _ _] _ _, [], _⟩] _ _) _) _ _ _); k_dflt (refine Mine.ListComp_W (F₀ := by k_asm) (by with_unfolding_all rfl) (by decide) (by rfl) (by decide) (by rfl) ?_)))
  trivial
namespace Mine
open PySem.Calls PySem.Spec PySem.W PyProof.Rows LCg
theorem cellsAbove {cm : Str → Option Value} {L : Addr} {cs : List (Str × Addr)} {cells : Led} (Y : CellsAre cm cs cells) (h : ∀ n c, (n, c) ∈ cs → L < c) : ∀ p ∈ cells, L < p.1 := by
  induction Y with
  | nil => exact fun _ hp => nomatch hp
  | cons hd _ ih =>
    intro p hp
    rcases List.mem_cons.mp hp with rfl | hp
    · exact h _ _ (.head _)
    · exact ih (fun n c hm => h n c (.tail _ hm)) p hp

/-- for a def with cells of its own -/
theorem CSpec.of_bodyC {w : World} {f : Addr} {dn : Nat} {vs : List Value} {rd mu : Led} {post : Value → Led → Prop} (binds : List (Str × Value))
    {name qual : Str} {params : Arguments} {body : List Stmt} {scope : Scope} {dV kV doc pm cdv ct oc : Value} {an od : Option Addr} {osl : Array (Option Value)}
    (ho : (hd.heap_1 w.params).lookup f = some ⟨oc, od, .func (fnOf name qual params body scope dV kV doc pm an cdv ct), osl⟩) (hcd : codeIn (hd.heap_1 w.params) cdv qual = true)
    (hbind : bindArgs (fnOf name qual params body scope dV kV doc pm an cdv ct) ⟨vs, []⟩ = pure binds) (hloc : ∀ n, ∀ y ∈ binds, scope.names.lookup y.1 = some .local ∨ (scope.names.lookup y.1 = some .cell ∧ ((cellsFrom n scope.names []).lookup y.1).isSome = true))
    (hnd : ((cellsFrom 0 scope.names []).map (·.1)).Nodup) (hco : scope.isCoroutine = false) (hgen : scope.isGenerator = false) (hk : scope.kind = .function)
    (h : ∀ (dp un : Nat) (gd : Option (List Code)) (cn : Str) (cs : Scope) (L a : Addr) (ccd : Value) (cl : List (Str × Addr)) (outer : List Env) (base g : Heap) (L' : Addr) (h₁ : Heap) (s : Shared) (tk : Nat) (cells : Led)
      (p : Program) (loose : List Str) (mean : ExcName → Option Value) (mg mb : Str → Option Value), dp + dn < recursionLimit → un + 8 * dn < cLine →
      Below (ktrTop dp un gd cn cs L a ccd cl outer) base (envX cn cs L a ccd cl :: outer) g → Fr g L' h₁ (bindL (envOfC qual scope L' f cdv).kindOf binds fun _ => none) → News g L' h₁ (cells ++ mu) → CellsAre (bindC (envOfC qual scope L' f cdv).kindOf binds fun _ => none) (cellsFrom (L' + 1) scope.names []) cells → (∀ p ∈ cells, L' < p.1) → (hd.heap_1 w.params).In g → Top p loose mean mg mb g → (∀ p ∈ mu, p.1 < L') → (∀ p ∈ rd, g.get? p.1 = some p.2) →
      wpAny (model PySem.Challenge.rw_nn0196_01.row.prog w) ((ktrTop dp un gd cn cs L a ccd cl outer).deeper (envOfC qual scope L' f cdv)) (execs body (envOfC qual scope L' f cdv))
        (fun fl s' => Back s g post (match fl with | .ret v => v | _ => .none) s') (fun _ _ => False) { s with heap := h₁, toks := tk })
    (hdn : 0 < dn := by decide) : CSpec w f dn vs rd mu post := by
  intro dp un gd cn cs a ccd cl outer A₀ base h₀ L m s R p loose mean mg mb B F X N T hck hdp hu hrd hret
  refine (let gk : Prop := _; (?_ : gk))
  obtain ⟨FG, BG, st, _⟩ := groundX (R := fun _ _ => True) (A := ktrTop dp un gd cn cs L a ccd cl outer) (env := envX cn cs L a ccd cl) B F N rfl rfl hck
  unfold gk
  clear gk
  have Xs : (hd.heap_1 w.params).In s.heap := X.keeps F.keep
  refine codeAny_call_cells (fd := fnOf name qual params body scope dV kV doc pm an cdv ct) (body := body) (binds := binds) (by show dp < recursionLimit; omega) (Xs _ _ ho) rfl (T.nolimit.keeps F.keep) (codeRec_of Xs hcd) rfl hbind rfl (hloc _) (fun s₁ XC => ?_) hco hgen hk
  obtain ⟨h₁, tk₁, rfl, _⟩ := XC.done
  have kc : ∀ n c, (n, c) ∈ cellsFrom (s.heap.objs.size + 1) scope.names [] → h₁.IsCell c (bindC (envOfC qual scope s.heap.objs.size f cdv).kindOf binds (fun _ => none) n) ∧ s.heap.objs.size < c := fun n c hm =>
    ⟨XC.cell n c (lookup_of_mem_nodup (cellsFrom_names scope.names 0 (s.heap.objs.size + 1) [] [] rfl ▸ hnd) hm), XC.above n c hm⟩
  have hk₁ : ∀ b o, s.heap.get? b = some o → h₁.get? b = some o := XC.toInCall.keep
  refine (let gk : Prop := _; (?_ : gk))
  obtain ⟨cells, NC, YC⟩ := Cl.news (h₀ := hideAll s.heap (mu.map (·.1))) (Nat.le_of_eq (hideAll_size _ _)) kc
  unfold gk
  clear gk
  have hca := cellsAbove YC fun n c hm => (kc n c hm).2
  have B' := h dp un gd cn cs L a ccd cl outer base _ s.heap.objs.size h₁ s tk₁ cells p loose mean mg mb hdp hu BG ⟨XC.toInCall.ns, fun b o e => hk₁ b o (of_hideAll _ e), Nat.le_of_eq (hideAll_size _ _)⟩
    (fun p hp => (List.mem_append.mp hp).elim (NC p) fun hp => ⟨hk₁ _ _ (N p hp).1, Nat.ne_of_lt (Heap.lt_size (N p hp).1), hideAll_none _ (List.mem_map_of_mem hp)⟩) YC hca (X.keeps st) (T.keeps st) (fun p hp => Heap.lt_size (N p hp).1) (fun p hp => hideAll_get _ (hrd p hp).1 (hrd p hp).2)
  refine wpAny_mono B' (fun fl s' hB => ?_) (fun _ _ x => x.elim)
  obtain ⟨L'', m'', news', h', tk', rfl, F'', N'', hp⟩ := hB
  have kp : Kept s.heap h' mu := fun b o hb e => F''.keep b o (hideAll_get _ e hb)
  refine (let gk : Prop := _; (?_ : gk))
  obtain ⟨oL, es, ep, hL, hLd, hLk, hLf⟩ := FG.ns
  unfold gk
  clear gk
  refine hret _ news' h' tk' ⟨⟨oL, es, ep, F''.keep _ _ hL, hLd, hLk, hLf⟩, fun b o e => F''.keep _ _ (FG.keep _ _ e), F.above⟩ (fun p hp' => ⟨(N'' p hp').1, fun e => ?_, ?_⟩) kp (fun p hp' => ?_) hp
  · have := (N'' p hp').2.2; rw [e, hL] at this; cases this
  · cases q : h₀.get? p.1 with
    | none => rfl
    | some o => have := (N'' p hp').2.2; rw [FG.keep _ _ q] at this; cases this
  · by_cases hm : p.1 ∈ mu.map (·.1)
    · exact .inl hm
    · refine .inr ?_
      cases q : s.heap.get? p.1 with
      | none => rfl
      | some o => have := (N'' p hp').2.2; rw [hideAll_get _ q hm] at this; cases this


section
variable {prog : Program} {w : World} {A : Around} {E : Value → Shared → Prop} {s : Shared} {h₀ : Heap} {L : Addr} {m : Str → Option Value} {env : Env}
def CompElS {σ : Type} (h₀ : Heap) (L : Addr) (m : Str → Option Value) (s : Shared) (own : Led) (Le : σ → Led) (ok : Value → σ → Prop) (y : Value) (s₂ : Shared) : Prop :=
  ∃ h' tk' all c, s₂ = { s with heap := h', toks := tk' } ∧ Fr h₀ L h' m ∧ News h₀ L h' all ∧ (∀ p ∈ own ++ Le c, p ∈ all) ∧ ok y c
theorem off3_of {I C D : Addr} : ∀ {l l' : Led}, l.map (·.1) = l'.map (·.1) → Off3 I C D l → Off3 I C D l' := fun {l l'} e h => Off3.of fun p hp => by
  have hm : p.1 ∈ l.map (·.1) := e ▸ List.mem_map_of_mem hp
  refine (let gk : Prop := _; (?_ : gk))
  obtain ⟨q, hq, e2⟩ := List.mem_map.mp hm
  unfold gk
  clear gk
  rw [← e2]
  exact h.mem q hq
/-- a comprehension whose elements turn objects of the ledger -/
theorem comp_restS {σ : Type} {elt : Expr} {x : Str} {scope : Scope} {cl : List (Str × Addr)} {P : Nat → Value → Prop} {Fin : List Value → Led → Prop} {n : Nat} (Le : σ → Led) (Ok : Nat → List Value → σ → Prop) (c₀ : σ) (h0 : Ok 0 [] c₀) (hA : ∀ c, (Le c₀).map (·.1) = (Le c).map (·.1))
    (step : ∀ i v ys c I oI C oC D m₂ h tk (E' : Value → Shared → Prop), i < n → P i v → Ok i ys c → NsObj oC m₂ → m₂ x = some v → Fr h₀ L h m → News h₀ L h ((I, oI) :: (C, oC) :: (D, lst ys) :: Le c) → Off3 I C D (Le c) → ((@Ne Nat I C) ∧ (@Ne Nat I D) ∧ (@Ne Nat C D)) →
      wpAny (model prog w) A (eval elt (compEnvC scope cl C env)) (CompElS h₀ L m s [(I, oI), (C, oC), (D, lst ys)] Le (fun y c' => Ok (i + 1) (ys ++ [y]) c')) E' { s with heap := h, toks := tk })
    (fin : ∀ ys c, Ok n ys c → Fin ys (Le c)) : CompRest prog w A h₀ L m env elt x scope cl s (fun _ => True) P Fin n 0 [] (Le c₀) := by
  suffices H : ∀ k i ys c, k + i = n → Ok i ys c → CompRest prog w A h₀ L m env elt x scope cl s (fun _ => True) P Fin k i ys (Le c) from H n 0 [] c₀ rfl h0
  intro k
  induction k with
  | zero => intro i ys c e o; simp at e; subst e; exact fin _ _ o
  | succ k ih =>
    intro i ys c e o v I oI C oC D m₂ h tk E' hP hN hm F N off ne
    refine wpAny_mono (step i v ys c I oI C oC D m₂ h tk E' (by omega) hP o hN hm F N off ne) (fun y s₂ hy => ?_) fun _ _ e => e
    obtain ⟨h', tk', all, c', rfl, F', N', hb, o'⟩ := hy
    exact ⟨h', tk', Le c', rfl, F', fun p hp => N' p (hb p (by simpa using hp)), off3_of ((hA c).symm.trans (hA c')) off, trivial, ih (i + 1) _ _ (by omega) o'⟩
end
end Mine
theorem Mine.words_P22 : True := by
  (k_with "mine bodyC" => (
  (case ho => k_is); (case hcd => k_is); (case hb => kernel_rfl); (case hl => (intro n_w y_w hy_w; (repeat (rcases List.mem_cons.mp hy_w with e9 | hy_w; · (subst e9; first | exact Or.inl rfl | exact Or.inr ⟨rfl, rfl⟩))); exact absurd hy_w List.not_mem_nil)); (case hc => decide); (case h1 => exact rfl); (case h2 => exact rfl); (case h3 => exact rfl)))
  trivial
namespace Mine
open PySem.Calls PySem.Spec PySem.W PyProof.Rows

set_option maxHeartbeats 4000000 in
theorem data_spec (w : World) (pen sc mn : Addr) (o : Obj) (vs : List Value) (ns : List Int) (nsc bb : Nat) (mvs : List Value) (ms : List Int) (nm : Nat) (hs : ScIs sc vs ns nsc) (hp : PenIs sc bb o) (hbb : bb ≤ 9000) (hm : IntsAre mvs ms) (hm1 : 1 ≤ ms.length) (hm2 : ms.length ≤ 300) (hmi : KBa.In ms) :
    CSpec w 188 30 [.ref pen, .ref mn] [(sc, W.listOf vs.toArray nsc), (mn, W.listOf mvs.toArray nm)] [(pen, o)] (fun r nw => ∃ o' n', nw = (pen, o') :: n' ∧ n' = [] ∧ PenIs sc (bb + 50) o' ∧ ∃ b t, r = .bytes b t ∧ b.size ≤ 24) := by
  refine' CSpec.of_bodyC [(Str.ofString "pen", .ref pen), (Str.ofString "menu", .ref mn)] ?ho ?hcd ?hb ?hl ?hc ?h1 ?h2 ?h3 ?_
  walk_at "mine bodyC"
  intro dp un gd cn cs L a ccd cl outer base g L' h₁ s tk cells p loose mean mg mb hd9 hu B F N YC hca X T lt hrd
  have kM := kstMark
  have hscg : g.get? sc = some (W.listOf vs.toArray nsc) := hrd _ (.head _)
  have hmng : g.IsList mn mvs.toArray := ⟨_, hrd _ (.tail _ (.head _)), rfl, _, rfl⟩
  obtain ⟨c1, c2, hco, hd1, hd2⟩ := CellsAre.two YC
  subst hco
  simp only [List.cons_append, List.nil_append] at N
  replace hd1 : c1.data = Data.cell (some (Value.ref mn)) := hd1
  replace hd2 : c2.data = Data.cell (some (Value.ref pen)) := hd2
  clear YC
  replace hca := (⟨hca _ (.head _), hca _ (.tail _ (.head _)), lt _ (.head _)⟩ : @LT.lt Nat _ L' (L' + 1 + 1) ∧ @LT.lt Nat _ L' (L' + 1) ∧ @LT.lt Nat _ pen L')
  have hml := hm.length
  walk_at "mine go"
  k_steps
  rename IsRange _ _ _ _ _ _ _ _ => hr
  (rename Fr _ _ _ _ => F1)
  (rename News _ _ _ _ => N1)
  rename PenIs _ _ _ => hp1
  rename 0 ≤ _ => hk0
  rename _ < (25 : Int) => hk1
  refine ⟨_, _, _, _, _, _, _, _, _, rfl, rfl, F1, N1, hr, small1 hk0 (by omega), size1 hk0, by rw [sizeLine_eq]; omega, ?_⟩
  rintro _ ⟨gg, rfl⟩
  refine comp_restS (σ := Obj) (fun o => [(L' + 1 + 1, c1), (L' + 1, c2), (pen, o)]) (fun i ys o => PenIs sc (bb + 1 + i) o ∧ ∃ xs, IntsAre ys xs ∧ xs.length = i ∧ KBa.In xs) _ ⟨hp1, [], .nil, rfl, fun _ h => nomatch h⟩ (fun _ => rfl) ?_ ?_
  · clear F1 N1 hp1
    rintro i v ys o9 I oI C oC D m₂ h tk E' hlt ⟨t, rfl⟩ ⟨hp1, xs, hx1, hx2, hx3⟩ hC hm F3 N3 off ne
    have hi24 : i < 24 := by omega
    simp only [LCg.Off3, and_true] at off
    k_steps
    rename PenIs _ _ _ => hq
    (rename News _ _ _ _ => NN)
    exact ⟨_, _, _, _, rfl, by k_asm, NN, fun _ hp => hp, hq.mono (by omega), _, IntsAre.append hx1 (.cons _ _ .nil), by rw [List.length_append, List.length_singleton, hx2], in_snoc hx3 (in_getD hmi _)⟩
  · clear F1 N1 hp1
    rintro ys o9 ⟨hp1, xs, hx1, hx2, hx3⟩
    intro D h9 tk9 F4 N4 off
    have hx9 : xs.length ≤ 24 := by omega
    clear hx2
    k_steps
    exact Back.intro [(pen, o9)] (by k_asm) (by k_asm) (List.forall_mem_cons.mpr ⟨.tail _ (.tail _ (.tail _ (.head _))), List.forall_mem_nil _⟩) ⟨_, _, rfl, rfl, hp1.mono (by omega), _, _, rfl, by rw [← KBw.ints_length, bInts_byteArr hx3]; exact hx9⟩
end Mine
namespace Mine
open PySem.Calls PySem.Spec PySem.W PyProof.Rows

def bentOf (ks : List Int) (ends : Int) (bs : List Int) : Prop :=
  ∃ (at' : Nat) (wh : Int) (ks' : List Int), at' ≤ ks.length ∧ isWhite wh = true ∧ (ks' = ks.take ((ks.length : Int) - ends).toNat ∨ (∃ x, 0 ≤ x ∧ x < 256 ∧ ks' = ks ++ [x, 33]) ∨ ks' = ks) ∧ bs = ks'.take at' ++ [wh] ++ ks'.drop at'

theorem white_getD {k : Int} (h0 : 0 ≤ k) (h1 : k < 6) : isWhite (([0, 9, 10, 12, 13, 32] : List Int).getD k.toNat 0) = true := by
  have h : k = 0 ∨ k = 1 ∨ k = 2 ∨ k = 3 ∨ k = 4 ∨ k = 5 := by omega
  rcases h with rfl | rfl | rfl | rfl | rfl | rfl <;> rfl
theorem white_lt {k : Int} (h : isWhite k = true) : 0 ≤ k ∧ k < 256 := by
  simp only [isWhite, List.any_cons, List.any_nil, Bool.or_false, Bool.or_eq_true, beq_iff_eq] at h
  omega
theorem bent_in {A : List Int} {j : Nat} {wh : Int} (hA : KBa.In A) (hw : isWhite wh = true) : KBa.In (A.take j ++ [wh] ++ A.drop j) := fun x hx => by
  rcases List.mem_append.mp hx with hx | hx
  · rcases List.mem_append.mp hx with hx | hx
    · exact hA x (List.mem_of_mem_take hx)
    · rw [List.mem_singleton.mp hx]; exact white_lt hw
  · exact hA x (List.mem_of_mem_drop hx)
theorem in_of {vs : List Value} {l : List Int} (_h : IntsAre vs l) (h : KBa.In l) : KBa.In l := h
theorem bent_len {A : List Int} {j : Nat} {wh : Int} {n : Nat} (hA : A.length ≤ n) : (A.take j ++ [wh] ++ A.drop j).length ≤ 2 * n + 1 := by
  simp only [List.length_append, List.length_take, List.length_drop, List.length_singleton]; omega

section
local macro_rules | `(tactic| omega) => `(tactic| first | ((fail_if_success (fail_if_success (omega (config := {})))); first | lia | omega (config := {})) | lia)
set_option maxHeartbeats 4000000 in
theorem bent_spec (w : World) (pen sc cd : Addr) (o : Obj) (vs : List Value) (ns : List Int) (nsc bb : Nat) (cvs : List Value) (ks : List Int) (ncd : Nat) (ends : Int) (t : Tok) (hs : ScIs sc vs ns nsc) (hp : PenIs sc bb o) (hbb : bb ≤ 9000) (hc : IntsAre cvs ks) (hk2 : ks.length ≤ 200) (hki : KBa.In ks) (he0 : 1 ≤ ends) (he2 : ends ≤ 2) (he3 : ends ≤ ks.length) :
    MSpec w 183 20 [.ref pen, .ref cd, .int ends t] [(sc, W.listOf vs.toArray nsc), (cd, W.listOf cvs.toArray ncd)] [(pen, o)] (fun r nw => ∃ o' n', nw = (pen, o') :: n' ∧ n' = [] ∧ PenIs sc (bb + 50) o' ∧ ∃ b t, r = .bytes b t ∧ bentOf ks ends (KBw.bInts b)) := by
  refine' MSpec.of_body [(Str.ofString "pen", .ref pen), (Str.ofString "codes", .ref cd), (Str.ofString "ends", .int ends t)] ?ho ?hcd ?hb ?hl ?hc ?h1 ?h2 ?h3 ?_
  walk_at "mine body"
  intro dp un gd cn cs L a ccd cl outer base g L' h₁ s tk p loose mean mg mb hd9 hu B F N X T lt hrd
  have kM := kstMark
  have hscg : g.get? sc = some (W.listOf vs.toArray nsc) := hrd _ (.head _)
  have hcdg : g.IsList cd cvs.toArray := ⟨_, hrd _ (.tail _ (.head _)), rfl, _, rfl⟩
  have hcl := hc.length
  walk_at "mine go"
  k_steps
  all_goals first
    | (exfalso; omega)
    | (
      rename IntsAre _ (_ ++ _ ++ List.drop _ _) => hb9
      (rename News _ _ _ _ => N2)
      (rename Fr _ _ _ _ => F2)
      rename PenIs _ _ _ => hq
      have hin := in_of hb9 (bent_in (by
        first
        | exact hki
        | exact fun x hx => hki x (List.mem_of_mem_take hx)
        | exact fun x hx => (List.mem_append.mp hx).elim (hki x) (fun hx => by
            simp only [List.mem_cons, List.not_mem_nil, or_false] at hx
            rcases hx with rfl | rfl
            · constructor <;> assumption
            · decide)) (white_getD (by assumption) (by assumption)))
      refine KBa.make_K F2 N2 rfl (News.isList N2 (.head _)) hb9 hin (Nat.le_trans (bent_len (n := 300) (by first | omega | (rw [List.length_take]; omega) | (rw [List.length_append]; simp only [List.length_cons, List.length_nil]; omega))) (by decide)) ?_
      intro h3 t3 k3 F3 N3 _
      k_steps
      exact Back.intro [(pen, _)] (by k_asm) (by k_asm) (List.forall_mem_cons.mpr ⟨by repeat' (first | exact List.Mem.head _ | apply List.Mem.tail), List.forall_mem_nil _⟩) ⟨_, _, rfl, rfl, hq.mono (by omega), _, _, rfl, by
        rw [bInts_byteArr hin]
        exact ⟨_, _, _, by omega, white_getD (by assumption) (by assumption), by first | exact Or.inl rfl | exact Or.inr (Or.inr rfl) | exact Or.inr (Or.inl ⟨_, by assumption, by assumption, rfl⟩), rfl⟩⟩)
end
end Mine
namespace Mine
open PySem.Calls PySem.Spec PySem.W PyProof.Rows LCg

section
variable {prog : Program} {w : World} {A : Around} {E : Value → Shared → Prop} {s : Shared} {h₀ : Heap} {L : Addr} {m : Str → Option Value} {env : Env}

/-- what the iterator of a comprehension must show -/
def CompIt (prog : Program) (w : World) (A : Around) (h₀ : Heap) (L : Addr) (m : Str → Option Value) (env : Env) (elt : Expr) (x : Str) (scope : Scope) (cl : List (Str × Addr)) (Fin : Shared → List Value → Led → Prop) (it : Value) (s₂ : Shared) : Prop :=
  ∃ (I : Addr) (fp : List Addr) (n : Nat) (P : Nat → Value → Prop) (St : Nat → Heap → Prop) (S : Led → Prop) (news : Led), it = .ref I ∧ Walks prog w A I fp [I] n P St ∧ n ≤ sizeLine ∧ (∀ i h, St i h → ∃ o, h.get? I = some o) ∧
    (∀ i h h' o nw, St i h → h.get? I = some o → h'.get? I = some o → (∀ b o, h₀.get? b = some o → h'.get? b = some o) → News h₀ L h' nw → S nw → St i h') ∧ St 0 s₂.heap ∧ (∀ b ∈ fp, b < s₂.heap.objs.size) ∧ Fr h₀ L s₂.heap m ∧ News h₀ L s₂.heap news ∧
    L ≠ I ∧ h₀.get? I = none ∧ (∀ p ∈ news, p.1 ≠ I) ∧ S news ∧ CompRest prog w A h₀ L m env elt x scope cl s₂ S P (Fin s₂) n 0 [] news

theorem ListComp_G {elt iter : Expr} {x : Str} {px : Pos} {scope : Scope} {cl : List (Str × Addr)} {pos : Pos} {Q : Value → Shared → Prop} (F₀ : Fr h₀ L s.heap m)
    (hclos : closureFor scope env = pure cl) (hcell : ∀ y ∈ scope.names, y.2 ≠ .cell) (hkind : scope.kind = .function)
    (hnames : ∀ y ∈ scope.names, y.2 = .local → scope.names.lookup y.1 = some .local) (hx : scope.names.lookup x = some .local)
    (h : wpAny (model prog w) A (eval iter env) (fun xv s₁ => wpAny (model prog w) A (pyIter xv) (CompIt prog w A h₀ L m env elt x scope cl (fun s₂ => FinE h₀ L m s₂ Q)) E s₁) E s)
    (hs : ∀ x, foldedSetIterable iter env x = pure x := by intro _; rfl) :
    wpAny (model prog w) A (eval (.ListComp elt [⟨.Name x px, iter, [], 0⟩] scope pos) env) Q E s := by
  rw [eval_ListComp]
  refine wpAny_comprehension_free (use := none) rfl hs hclos hkind hnames (wpAny_mono h (fun xv s₁ h₁ => wpAny_mono h₁ (fun it s₂ h₂ => ?_) fun _ _ e => e) fun _ _ e => e)
  obtain ⟨I, fp, n, P, St, S, news, rfl, W, hsz, hIo, hSt, hst, hfp, F, N, hIL, hI₀, off, hS, R⟩ := h₂
  refine block_U W hsz hIo hSt hcell hkind hx hst hfp F N hIL hI₀ off hS R ?_
  intro D C h tk m' ys news' F' N' o1 hn hC₀ hD₀ hCL hDL hCD offC fin
  refine ⟨m', hn, fun h'' hs'' => fin D h'' tk (F'.change hs'' hCL hC₀) (fun p hp => ?_) o1⟩
  refine ⟨hs''.extBut _ _ ?_ (N' p hp).1, (N' p hp).2⟩
  rcases List.mem_cons.mp hp with rfl | hp
  · exact Ne.symm hCD
  · exact offC p hp

theorem walks_st {I : Addr} {n : Nat} {P : Nat → Value → Prop} {St : Nat → Heap → Prop} (W : Walks prog w A I [I] [I] n P St) {S : Led → Prop} : ∀ i h h' o nw, St i h → h.get? I = some o → h'.get? I = some o → (∀ b o, h₀.get? b = some o → h'.get? b = some o) → News h₀ L h' nw → S nw → St i h' :=
  fun i h h' o nw st e e' _ _ _ => W.frame i h h' st fun b hb o' q => by
    rw [List.mem_singleton.mp hb] at q ⊢
    rw [e] at q; cases q; exact e'

theorem comp_bytes {elt : Expr} {x : Str} {scope : Scope} {cl : List (Str × Addr)} {Fin : Shared → List Value → Led → Prop} {b : Array UInt8} {t : Tok} {news : Led} (hh : A.handled = none) (F : Fr h₀ L s.heap m) (N : News h₀ L s.heap news) (hz : b.size ≤ sizeLine)
    (R : ∀ gg, CompRest prog w A h₀ L m env elt x scope cl { s with heap := gg } (fun _ => True) (fun i v => ∃ k u, (KBw.bInts b)[i]? = some k ∧ v = .int k u) (Fin { s with heap := gg }) b.size 0 [] news) :
    wpAny (model prog w) A (pyIter (.bytes b t)) (CompIt prog w A h₀ L m env elt x scope cl Fin) E s := by
  refine KBw.pyIter_bytes ?_
  have W : Walks prog w A s.heap.objs.size [s.heap.objs.size] [s.heap.objs.size] b.size (fun i v => ∃ k u, (KBw.bInts b)[i]? = some k ∧ v = .int k u) (fun i h => KBw.IsBytesIter h s.heap.objs.size b t i) :=
    let W := KBw.walks (prog := prog) (w := w) hh s.heap.objs.size b t
    { sub := W.sub, frame := W.frame, done := W.done, self := W.self,
      item := fun i s Q E hi st hQ => W.item i s Q E hi st fun v h' tk hP => hQ v h' tk (by obtain ⟨c, u, hc, rfl⟩ := hP; exact ⟨_, u, KBw.ints_get hc, rfl⟩) }
  refine ⟨_, _, _, _, _, fun _ => True, news, rfl, W, hz, fun i h st => let ⟨o, ho, _⟩ := st; ⟨o, ho⟩, walks_st W, ⟨_, Heap.get?_push_size _ rfl, rfl, rfl⟩, fun b hb => ?_, F.push _, fun p hp => ⟨Heap.get?_push_of_some _ (N p hp).1, (N p hp).2⟩, Nat.ne_of_lt F.ns.lt, next_is_new F, fun p hp => Nat.ne_of_lt (Heap.lt_size (N p hp).1), trivial, R _⟩
  rw [List.mem_singleton.mp hb]
  show s.heap.objs.size < (s.heap.push _).objs.size
  rw [Heap.size_push]; exact Nat.lt_succ_self _

theorem comp_str {elt : Expr} {x : Str} {scope : Scope} {cl : List (Str × Addr)} {Fin : Shared → List Value → Led → Prop} {z : Str} {t : Tok} {news : Led} (hh : A.handled = none) (F : Fr h₀ L s.heap m) (N : News h₀ L s.heap news) (ha : z.cps.all (· < 128) = true) (hz : z.cps.size ≤ sizeLine)
    (R : ∀ gg, CompRest prog w A h₀ L m env elt x scope cl { s with heap := gg } (fun _ => True) (fun i v => ∃ c u, z.cps[i]? = some c ∧ v = .str ⟨#[c]⟩ u) (Fin { s with heap := gg }) z.cps.size 0 [] news) :
    wpAny (model prog w) A (pyIter (.str z t)) (CompIt prog w A h₀ L m env elt x scope cl Fin) E s := by
  refine wpAny_pyIter_ascii ha ?_
  have W := Walks.strAscii (prog := prog) (w := w) hh s.heap.objs.size z t
  refine ⟨_, _, _, _, _, fun _ => True, news, rfl, W, hz, fun i h st => let ⟨o, ho, _⟩ := st; ⟨o, ho⟩, walks_st W, ⟨_, Heap.get?_push_size _ rfl, rfl, rfl⟩, fun b hb => ?_, F.push _, fun p hp => ⟨Heap.get?_push_of_some _ (N p hp).1, (N p hp).2⟩, Nat.ne_of_lt F.ns.lt, next_is_new F, fun p hp => Nat.ne_of_lt (Heap.lt_size (N p hp).1), trivial, R _⟩
  rw [List.mem_singleton.mp hb]
  show s.heap.objs.size < (s.heap.push _).objs.size
  rw [Heap.size_push]; exact Nat.lt_succ_self _

theorem Assign_ListComp_G {elt iter : Expr} {x y : Str} {px py : Pos} {scope : Scope} {cl : List (Str × Addr)} {pos spos : Pos} {Q : Flow → Shared → Prop} (F₀ : Fr h₀ L s.heap m) (hLe : env.locals = L)
    (hsw : swapsWith (.ListComp elt [⟨.Name x px, iter, [], 0⟩] scope pos) (some (.Name y py)) spos.line env = pure true)
    (hclos : closureFor scope env = pure cl) (hcell : ∀ z ∈ scope.names, z.2 ≠ .cell) (hkind : scope.kind = .function)
    (hnames : ∀ z ∈ scope.names, z.2 = .local → scope.names.lookup z.1 = some .local) (hx : scope.names.lookup x = some .local)
    (hy : env.kindOf y = some .local) (hp : (env.scope.kind == .class || (env.scope.kind == .module && env.locals != env.globals)) = false)
    (h : wpAny (model prog w) A (eval iter env) (fun xv s₁ => wpAny (model prog w) A (pyIter xv) (CompIt prog w A h₀ L m env elt x scope cl (fun s₂ => FinA h₀ L m s₂ y Q)) E s₁) E s)
    (hs : ∀ x, foldedSetIterable iter env x = pure x := by intro _; rfl) :
    wpAny (model prog w) A (exec (.Assign [.Name y py] (.ListComp elt [⟨.Name x px, iter, [], 0⟩] scope pos) spos) env) Q E s := by
  subst hLe
  rw [exec_Assign_Name_used _ _ _ _ hsw]
  refine wpAny_bind (wpAny_standAt (wpAny_bind ?_))
  show wpAny _ A (do let _ ← comprehension (.ListComp elt [⟨.Name x px, iter, [], 0⟩] scope pos) scope env _ (newList []) false (eval iter env) (some (assign (.Name y py) env))) _ _ s
  refine wpAny_bind (wpAny_mono (wpAny_comprehension_free (use := some (assign (.Name y py) env)) (Q := fun _ s' => Q .next s') rfl hs hclos hkind hnames
    (wpAny_mono h (fun xv s₁ h₁ => wpAny_mono h₁ (fun it s₂ h₂ => ?_) fun _ _ e => e) fun _ _ e => e)) (fun _ s' hq => wpAny_pure (wpAny_pure hq)) fun _ _ e => e)
  obtain ⟨I, fp, n, P, St, S, news, rfl, W, hsz, hIo, hSt, hst, hfp, F, N, hIL, hI₀, off, hS, R⟩ := h₂
  refine block_U W hsz hIo hSt hcell hkind hx hst hfp F N hIL hI₀ off hS R ?_
  intro D C h' tk m' ys news' F' N' o1 hn hC₀ hD₀ hCL hDL hCD offC fin
  show wpAny _ A (assign (.Name y py) env (.ref D)) _ _ _
  refine wpAny_assign_Name (wpAny_storeName_local hy F'.ns (fun h₂ hn₂ hs₂ => ?_) hp)
  have hL₀ : h₀.get? env.locals = none := Heap.get?_none_of_le F'.above
  have F₂ : Fr h₀ env.locals h₂ (fun z => if z = y then some (.ref D) else m z) := ⟨hn₂, fun b o e => hs₂.extBut b o (fun q => by rw [q, hL₀] at e; cases e) (F'.keep b o e), F'.above⟩
  refine ⟨m', hn.sameBut hs₂ hCL, fun h'' hs'' => fin D h'' _ (F₂.change hs'' hCL hC₀) (fun p hp => ?_) o1⟩
  have z : h₂.get? p.1 = some p.2 := hs₂.extBut _ _ (N' p hp).2.1 (N' p hp).1
  refine ⟨hs''.extBut _ _ ?_ z, (N' p hp).2⟩
  rcases List.mem_cons.mp hp with rfl | hp
  · exact Ne.symm hCD
  · exact offC p hp

theorem comp_range {elt : Expr} {x : Str} {scope : Scope} {cl : List (Str × Addr)} {Fin : Shared → List Value → Led → Prop} {r : Addr} {a b c : Int} {t u v : Tok} {n : Nat} {news : Led} (hh : A.handled = none) (F : Fr h₀ L s.heap m) (N : News h₀ L s.heap news)
    (hr : IsRange s.heap r a b c t u v) (hsm : Builtin.Range.small a b c = true) (hn : Builtin.Range.rangeSize a b c = ((n : Nat) : Int)) (hz : n ≤ sizeLine)
    (R : ∀ gg, CompRest prog w A h₀ L m env elt x scope cl { s with heap := gg } (fun _ => True) (fun i v => ∃ t, v = .int (a + (i : Int) * c) t) (Fin { s with heap := gg }) n 0 [] news) :
    wpAny (model prog w) A (pyIter (.ref r)) (CompIt prog w A h₀ L m env elt x scope cl Fin) E s := by
  refine wpAny_pyIter_range hr hsm ?_
  refine ⟨_, _, _, _, _, fun _ => True, news, rfl, Walks.range hh s.heap.objs.size a c n, hz, fun i h st => ⟨_, st⟩, rangeW_st, by show IsRangeIter _ _ _ _ _; rw [hn]; simpa using Heap.get?_push_size _ rfl, fun b hb => ?_, F.push _, fun p hp => ⟨Heap.get?_push_of_some _ (N p hp).1, (N p hp).2⟩, Nat.ne_of_lt F.ns.lt, next_is_new F, fun p hp => Nat.ne_of_lt (Heap.lt_size (N p hp).1), trivial, R _⟩
  rw [List.mem_singleton.mp hb]
  show s.heap.objs.size < (s.heap.push _).objs.size
  rw [Heap.size_push]; exact Nat.lt_succ_self _

theorem comp_list {elt : Expr} {x : Str} {scope : Scope} {cl : List (Str × Addr)} {Fin : Shared → List Value → Led → Prop} {l : Addr} {ys : List Value} {n : Nat} {news : Led} (hh : A.handled = none) (F : Fr h₀ L s.heap m) (N : News h₀ L s.heap news) (hl : h₀.IsList l ys.toArray ∨ (l, W.listOf ys.toArray n) ∈ news) (hz : ys.length ≤ sizeLine)
    (R : ∀ gg, CompRest prog w A h₀ L m env elt x scope cl { s with heap := gg } (SrcAt h₀ l ys.toArray) (fun i v => ys[i]? = some v) (Fin { s with heap := gg }) ys.length 0 [] news) :
    wpAny (model prog w) A (pyIter (.ref l)) (CompIt prog w A h₀ L m env elt x scope cl Fin) E s := by
  have S : SrcAt h₀ l ys.toArray news := hl.imp id fun h => ⟨_, h, rfl, _, rfl⟩
  have hls := S.list F.keep N
  have hlt : l < s.heap.objs.size := by obtain ⟨_, e, _⟩ := hls; exact Heap.lt_size e
  refine wpAny_pyIter_list hls ?_
  have W := Walks.list (prog := prog) (w := w) hh s.heap.objs.size l (Nat.ne_of_lt hlt) ys.toArray
  have hsz : ys.toArray.size = ys.length := by simp
  rw [hsz] at W
  have hP : (fun (i : Nat) (v : Value) => ys.toArray[i]? = some v) = (fun i v => ys[i]? = some v) := by
    funext i v
    rw [List.getElem?_toArray]
  rw [hP] at W
  refine ⟨_, _, _, _, _, SrcAt h₀ l ys.toArray, news, rfl, W, hz, fun i h st => by obtain ⟨o, e, _⟩ := st.1; exact ⟨o, e⟩, list_st, ⟨⟨_, Heap.get?_push_size _ rfl, rfl, rfl⟩, hls.push _⟩, fun b hb => ?_, F.push _, fun p hp => ⟨Heap.get?_push_of_some _ (N p hp).1, (N p hp).2⟩, Nat.ne_of_lt F.ns.lt, next_is_new F, fun p hp => Nat.ne_of_lt (Heap.lt_size (N p hp).1), S, R _⟩
  show b < (s.heap.push _).objs.size
  rw [Heap.size_push]
  rcases List.mem_cons.mp hb with rfl | hb
  · exact Nat.lt_succ_self _
  · rw [List.mem_singleton.mp hb]; exact Nat.lt_succ_of_lt hlt
end
end Mine
theorem Mine.words_P25a : True := by
  (k_with "eval ListComp" => (k_here; (first | (with_reducible show wpAny _ _ (eval (Expr.ListComp _ [⟨Expr.Name _ _, Expr.Name (Str.ofString "octets") _, [], _⟩] _ _) _) _ _ _) | (with_reducible show wpAny _ _ (eval (Expr.ListComp _ [⟨Expr.Name _ _, Expr.BinOp _ _ _ _, [], _⟩] _ _) _) _ _ _) | (with_reducible show wpAny _ _ (eval (Expr.ListComp _ [⟨Expr.Name _ _, Expr.Name (Str.ofString "parts") _, [], _⟩] _ _) _) _ _ _)); k_dflt (refine Mine.ListComp_G (F₀ := by k_asm) (by with_unfolding_all rfl) (by decide) (by rfl) (by decide) (by rfl) ?_)))
  (k_with "exec Assign cons ListComp" => (k_here; (first | (with_reducible show wpAny _ _ (exec (Stmt.Assign _ (Expr.ListComp _ [⟨Expr.Name _ _, Expr.Call _ [_, _, _] _ _, [], _⟩] _ _) _) _) _ _ _)); k_dflt (refine Mine.Assign_ListComp_G (F₀ := by k_asm) (by rfl) (by with_unfolding_all rfl) (by with_unfolding_all rfl) (by decide) (by rfl) (by decide) (by rfl) (by rfl) (by rfl) ?_)))
  trivial
namespace Mine
open PySem.Calls PySem.Spec PySem.W PyProof.Rows Builtin Builtin.Str

abbrev codes (z : PySem.Str) : List Nat := z.cps.toList
abbrev HX : PySem.Str := PySem.Str.ofString "0123456789ABCDEF"
theorem join_codes : ∀ xs : List PySem.Str, codes (Str.join (PySem.Str.ofString "") xs) = xs.flatMap codes
  | [] => rfl
  | [x] => by rw [join_one]; simp
  | x :: y :: r => by
    rw [join_cons_cons, codes, cps_toList_append, cps_toList_append, List.flatMap_cons, ← join_codes (y :: r), show (PySem.Str.ofString "").cps.toList = [] by decide +kernel, List.append_nil]
theorem codes_join (xs : List PySem.Str) : codes (Txt.join (PySem.Str.ofString "") xs) = xs.flatMap codes := by
  unfold Txt.join
  rw [StrLaws.glued_eq_join, join_codes]
theorem codes_item {i : Int} (h0 : 0 ≤ i) (h1 : i < 16) : codes (Txt.item HX i) = [(fig i).toNat] := by
  have h : i = 0 ∨ i = 1 ∨ i = 2 ∨ i = 3 ∨ i = 4 ∨ i = 5 ∨ i = 6 ∨ i = 7 ∨ i = 8 ∨ i = 9 ∨ i = 10 ∨ i = 11 ∨ i = 12 ∨ i = 13 ∨ i = 14 ∨ i = 15 := by omega
  rcases h with rfl | rfl | rfl | rfl | rfl | rfl | rfl | rfl | rfl | rfl | rfl | rfl | rfl | rfl | rfl | rfl <;> decide +kernel

theorem range_some {α : Type} (l : List α) (st : Nat) : ∀ c : Nat, st + c ≤ l.length → (List.range c).filterMap (fun k => l[st + k]?) = (l.drop st).take c
  | 0, _ => by simp
  | c + 1, h => by
    rw [List.range_succ, List.filterMap_append, range_some l st c (by omega), List.filterMap_cons, List.filterMap_nil]
    have h1 : st + c < l.length := by omega
    rw [List.getElem?_eq_getElem h1]
    have h2 : (l.drop st)[c]? = some l[st + c] := by rw [List.getElem?_drop, List.getElem?_eq_getElem h1]
    rw [take_succ_of h2]
theorem idx_ss {n i j : Nat} (h : i ≤ n) (hj : i ≤ j) : strSliceIndices (some (i : Int)) (some (j : Int)) 1 n = (List.range (min j n - i)).map (i + ·) := by
  have h0 : ¬ ((i : Int) < 0) := by omega
  have h1 : ¬ ((j : Int) < 0) := by omega
  have h2 : (1 : Int) > 0 := by decide
  simp only [strSliceIndices, h0, h1, h2, if_false, if_true, sliceRange]
  rw [show max (0 : Int) (min (i : Int) n) = i by omega, show max (0 : Int) (min (j : Int) n) = (min j n : Nat) by omega]
  have hc : (if (i : Int) < ((min j n : Nat) : Int) then (((min j n : Nat) : Int) - i + 1 - 1) / 1 else 0).toNat = min j n - i := by
    split
    · rw [Int.ediv_one]; omega
    · omega
  rw [hc]
  apply List.map_congr_left
  intro k _
  omega
theorem codes_slice {x : PySem.Str} {i j : Nat} (h : i ≤ x.length) (hj : i ≤ j) : codes (Txt.slice x (some (i : Int)) (some (j : Int))) = ((codes x).drop i).take (j - i) := by
  have hl : (codes x).length = x.length := by simp [codes, PySem.Str.length]
  have hd : ((codes x).drop i).take (j - i) = ((codes x).drop i).take (min j x.length - i) := by
    rcases Nat.le_total j x.length with q | q
    · rw [Nat.min_eq_left q]
    · rw [Nat.min_eq_right q, List.take_of_length_le (by rw [List.length_drop]; omega), List.take_of_length_le (by rw [List.length_drop]; omega)]
  unfold Txt.slice
  rw [idx_ss h hj]
  split
  · rename_i hq
    simp only [List.length_map, List.length_range, Bool.and_eq_true, beq_iff_eq] at hq
    have hq2 := hq.2
    rw [hd, hq2]
    rcases Nat.eq_zero_or_pos x.length with z | z
    · have : codes x = [] := List.length_eq_zero_iff.mp (by omega)
      rw [this]; simp
    · rw [show i = 0 by omega, List.drop_zero, List.take_of_length_le (by omega)]
  · rw [hd, ← range_some (codes x) i (min j x.length - i) (by omega)]
    simp only [codes, List.filterMap_map]
    congr 1
    funext k
    simp

/-- a stop for the walk -/
theorem foldB {B : Int} (hB : 0 < B) : ∀ (l : List Int) (t : Int), 0 ≤ t → (∀ x ∈ l, 0 ≤ x ∧ x < B) → 0 ≤ l.foldl (fun t o => B * t + o) t ∧ l.foldl (fun t o => B * t + o) t < (t + 1) * B ^ l.length
  | [], t, h0, _ => ⟨h0, by rw [List.length_nil, Int.pow_zero, Int.mul_one]; exact Int.lt_succ t⟩
  | x :: r, t, h0, h => by
    have hx := h x (.head _)
    have hm : 0 ≤ B * t := Int.mul_nonneg (Int.le_of_lt hB) h0
    have ih := foldB hB r (B * t + x) (Int.add_nonneg hm hx.1) (fun y hy => h y (.tail _ hy))
    refine ⟨ih.1, Int.lt_of_lt_of_le ih.2 ?_⟩
    have h1 : B * t + x + 1 ≤ B * (t + 1) := by rw [Int.mul_add, Int.mul_one, Int.add_assoc]; exact Int.add_le_add_left hx.2 _
    have h2 := Int.mul_le_mul_of_nonneg_right h1 (Int.pow_nonneg (m := r.length) (Int.le_of_lt hB))
    rwa [Int.mul_comm B (t + 1), Int.mul_assoc, Int.mul_comm B (B ^ r.length), ← Int.pow_succ] at h2
theorem fdd (n : Int) {b c : Int} (hb : 0 ≤ b) (hc : 0 ≤ c) : n.fdiv (b * c) = (n.fdiv b).fdiv c := by
  rw [Int.fdiv_eq_ediv_of_nonneg _ hb, Int.fdiv_eq_ediv_of_nonneg _ hc, Int.fdiv_eq_ediv_of_nonneg _ (Int.mul_nonneg hb hc), Int.ediv_ediv_of_nonneg hb]
theorem len_cons {α : Type} {l : List α} {n : Nat} (h : l.length = n + 1) : ∃ a r, l = a :: r ∧ r.length = n := by
  cases l with
  | nil => cases h
  | cons a r => exact ⟨a, r, rfl, Nat.succ.inj h⟩
def StopHere : Prop := (9 : Nat) = 9
theorem StopHere.i : StopHere := rfl
end Mine
theorem Mine.words_P25b : True := by
  (k_with "call builtin:ord" => (k_here; (with_reducible show wpAny _ _ (call (Value.builtin "ord") [Value.str ⟨#[_]⟩ _]) _ _ _); refine ord_of_char ?_))
  trivial
namespace Mine
open PySem.Calls PySem.Spec PySem.W PyProof.Rows

def hexTwo (k : Int) : Str := Txt.item (Str.ofString "0123456789ABCDEF") (k.fdiv 16) ++ Txt.item (Str.ofString "0123456789ABCDEF") (k.fmod 16)
def rowN (ks : List Int) : List Nat := ks.flatMap fun k => [(fig (k.fdiv 16)).toNat, (fig (k.fmod 16)).toNat]
theorem rowN_len : ∀ ks, (rowN ks).length = 2 * ks.length
  | [] => rfl
  | k :: r => by
    have := rowN_len r
    unfold rowN at this ⊢
    rw [List.flatMap_cons, List.length_append, this]; simp only [List.length_cons, List.length_nil]; omega
theorem row_sum : ∀ ks : List Int, ((ks.map hexTwo).map (·.length)).sum = 2 * ks.length
  | [] => rfl
  | k :: r => by
    rw [List.map_cons, List.map_cons, List.sum_cons, row_sum r]
    have : (hexTwo k).length = 2 := by unfold hexTwo; rw [PySem.Str.length_append]; rfl
    rw [this, List.length_cons]; omega
theorem row_codes : ∀ {ks : List Int}, (∀ k ∈ ks, 0 ≤ k ∧ k < 256) → (ks.map hexTwo).flatMap codes = rowN ks
  | [], _ => rfl
  | k :: r, h => by
    obtain ⟨h0, h1⟩ := h k (.head _)
    rw [List.map_cons, List.flatMap_cons, row_codes (fun x hx => h x (.tail _ hx))]
    have hd : 0 ≤ k.fdiv 16 ∧ k.fdiv 16 < 16 := by rw [Int.fdiv_eq_ediv_of_nonneg _ (by decide)]; omega
    have hm : 0 ≤ k.fmod 16 ∧ k.fmod 16 < 16 := by rw [Int.fmod_eq_emod_of_nonneg _ (by decide)]; omega
    have : codes (hexTwo k) = [(fig (k.fdiv 16)).toNat, (fig (k.fmod 16)).toNat] := by
      unfold hexTwo
      rw [codes, PyProof.Rows.cps_toList_append]
      show codes _ ++ codes _ = _
      rw [codes_item hd.1 hd.2, codes_item hm.1 hm.2]; rfl
    rw [this]; rfl
theorem strsAre_append {a b : List Value} {x y : List Str} (h : StrsAre a x) (h2 : StrsAre b y) : StrsAre (a ++ b) (x ++ y) := by
  induction h with
  | nil => exact h2
  | cons z t _ ih => exact .cons z t ih

def partN (row : List Nat) (w i : Nat) : List Nat := (row.drop (i * w)).take w
def partNL (row : List Nat) (w i : Nat) : List Nat := if (partN row w i).length = w then partN row w i ++ [10] else partN row w i
def lawHexN (ks : List Int) (w : Nat) : List Nat :=
  if w = 0 then rowN ks ++ [62] else ((List.range ((2 * ks.length + w - 1) / w)).flatMap (partNL (rowN ks) w)) ++ [62]
theorem rowN_small : ∀ {ks : List Int}, (∀ k ∈ ks, 0 ≤ k ∧ k < 256) → ∀ c ∈ rowN ks, c < 128
  | [], _ => fun _ h => nomatch h
  | k :: r, h => fun c hc => by
    unfold rowN at hc
    rw [List.flatMap_cons] at hc
    rcases List.mem_append.mp hc with hc | hc
    · have fs : ∀ i : Int, (fig i).toNat < 128 := fun i => by
        unfold fig
        rw [List.getD_eq_getElem?_getD]
        have : ∀ j : Nat, (([48, 49, 50, 51, 52, 53, 54, 55, 56, 57, 65, 66, 67, 68, 69, 70] : List Int)[j]?.getD 0).toNat < 128 := fun j => by
          rcases Nat.lt_or_ge j 16 with q | q
          · have : ∀ j : Fin 16, (([48, 49, 50, 51, 52, 53, 54, 55, 56, 57, 65, 66, 67, 68, 69, 70] : List Int)[j.val]?.getD 0).toNat < 128 := by decide
            exact this ⟨j, q⟩
          · rw [List.getElem?_eq_none (by simpa using q)]; decide
        exact this _
      rcases List.mem_cons.mp hc with rfl | hc
      · exact fs _
      · rw [List.mem_singleton.mp hc]; exact fs _
    · exact rowN_small (fun x hx => h x (.tail _ hx)) c hc
theorem ascii_of {z : PySem.Str} (h : ∀ c ∈ codes z, c < 128) : z.cps.all (· < 128) = true := by
  rw [← Array.all_toList, List.all_eq_true]
  exact fun c hc => decide_eq_true (h c hc)
theorem size_codes (z : PySem.Str) : z.cps.size = (codes z).length := by simp [codes]

def partS (z : PySem.Str) (w i : Nat) : PySem.Str := Txt.slice z (some ((i * w : Nat) : Int)) (some (((i * w : Nat) : Int) + (w : Int)))
def partL (z : PySem.Str) (w i : Nat) : PySem.Str := partS z w i ++ (if (partS z w i).length = w then PySem.Str.ofString "\n" else PySem.Str.ofString "")
theorem strs_at : ∀ {vs : List Value} {xs : List PySem.Str}, StrsAre vs xs → ∀ {i : Nat} {v : Value}, vs[i]? = some v → ∃ x t, xs[i]? = some x ∧ v = .str x t
  | _, _, .nil, i, v, h => by simp at h
  | _, _, .cons y t r, 0, v, h => ⟨y, t, rfl, (Option.some.inj h).symm⟩
  | _, _, .cons y t r, i + 1, v, h => strs_at r (i := i) h
theorem StrsLen : ∀ {vs : List Value} {xs : List PySem.Str}, StrsAre vs xs → vs.length = xs.length
  | _, _, .nil => rfl
  | _, _, .cons _ _ r => by rw [List.length_cons, List.length_cons, StrsLen r]
theorem partL_sum {z : PySem.Str} (hz : z.length ≤ 40) (w : Nat) : ∀ n, (((List.range n).map (partL z w)).map (·.length)).sum ≤ n * 41
  | 0 => by simp
  | n + 1 => by
    have := partL_sum hz w n
    rw [List.range_succ, List.map_append, List.map_append, List.sum_append]
    have h1 : (partL z w n).length ≤ 41 := by
      unfold partL
      rw [PySem.Str.length_append]
      have h2 := Nat.le_trans (Txt.slice_le z (some ((n * w : Nat) : Int)) (some (((n * w : Nat) : Int) + (w : Int)))) hz
      have h3 : (if (partS z w n).length = w then PySem.Str.ofString "\n" else PySem.Str.ofString "").length ≤ 1 := by split <;> decide +kernel
      exact Nat.add_le_add h2 h3
    simp only [List.map_cons, List.map_nil, List.sum_cons, List.sum_nil]
    omega
theorem partS_codes {z : PySem.Str} {w i : Nat} (h : i * w ≤ z.length) : codes (partS z w i) = partN (codes z) w i := by
  unfold partS partN
  rw [show (((i * w : Nat) : Int) + (w : Int)) = ((i * w + w : Nat) : Int) by omega, codes_slice h (Nat.le_add_right _ _), Nat.add_sub_cancel_left]
theorem partL_codes {z : PySem.Str} {k w : Nat} (hw : 1 ≤ w) (hz : 2 * k ≤ z.length) : (((List.range ((2 * k + w - 1) / w)).map (partL z w)).flatMap codes) = (List.range ((2 * k + w - 1) / w)).flatMap (partNL (codes z) w) := by
  rw [List.flatMap_map]
  have key : ∀ i ∈ List.range ((2 * k + w - 1) / w), codes (partL z w i) = partNL (codes z) w i := fun i hi => by
    have hi := List.mem_range.mp hi
    have h1 : i * w ≤ z.length := by
      have h2 : i + 1 ≤ (2 * k + w - 1) / w := hi
      have h3 := (Nat.le_div_iff_mul_le (by omega)).mp h2
      rw [Nat.add_mul] at h3
      omega
    unfold partL partNL
    rw [codes, PyProof.Rows.cps_toList_append]
    show codes (partS z w i) ++ codes _ = _
    have hl : (partS z w i).length = (partN (codes z) w i).length := by rw [← partS_codes h1]; simp [codes, PySem.Str.length]
    rw [hl, partS_codes h1]
    split
    · rfl
    · rw [show codes (PySem.Str.ofString "") = [] by decide +kernel, List.append_nil]
  rw [List.flatMap_def, List.flatMap_def, List.map_congr_left key]
theorem partNL_small {ks : List Int} {w n : Nat} (h : ∀ k ∈ ks, 0 ≤ k ∧ k < 256) {c : Nat} (hc : c ∈ (List.range n).flatMap (partNL (rowN ks) w)) : c < 128 := by
  obtain ⟨i, _, hc⟩ := List.mem_flatMap.mp hc
  unfold partNL at hc
  have hp : ∀ c ∈ partN (rowN ks) w i, c < 128 := fun c hc => rowN_small h c (List.mem_of_mem_drop (List.mem_of_mem_take hc))
  split at hc
  · rcases List.mem_append.mp hc with hc | hc
    · exact hp c hc
    · rw [List.mem_singleton.mp hc]; decide
  · exact hp c hc
theorem rw_facts {h : Heap} {r : Addr} {t u v : Tok} {w k : Nat} {z : Nat} (_hr : IsRange h r 0 (z : Int) (w : Int) t u v) (hz : z = 2 * k) (hw : 1 ≤ w ∧ w ≤ 9) (hk : k ≤ 20) :
    Builtin.Range.small 0 (z : Int) (w : Int) = true ∧ Builtin.Range.rangeSize 0 (z : Int) (w : Int) = (((2 * k + w - 1) / w : Nat) : Int) ∧ (2 * k + w - 1) / w ≤ sizeLine := by
  rw [← hz]
  have hz4 : z ≤ 40 := by omega
  clear hz hk _hr
  have hw0 : (0 : Int) < (w : Int) := by omega
  have hs : Builtin.Range.rangeSize 0 (z : Int) (w : Int) = (((z + w - 1) / w : Nat) : Int) := by
    unfold Builtin.Range.rangeSize
    rw [if_pos hw0]
    by_cases h0 : z = 0
    · subst h0
      rw [if_neg (by decide), Nat.div_eq_of_lt (by omega)]; rfl
    · rw [if_pos (by omega), Int.natCast_ediv, show ((z + w - 1 : Nat) : Int) = (z : Int) - 0 - 1 + 1 * (w : Int) by omega, Int.add_mul_ediv_right _ _ (Int.ne_of_gt hw0)]
  have hn : (z + w - 1) / w ≤ 48 := Nat.le_trans (Nat.div_le_self _ _) (by omega)
  refine ⟨?_, hs, by rw [sizeLine_eq]; exact Nat.le_trans hn (by decide)⟩
  unfold Builtin.Range.small
  rw [hs, if_pos hw0]
  generalize (z + w - 1) / w = q at hn
  rw [fits_small (by decide) (by decide), fits_small (by omega) (by omega), fits_small (by omega) (by omega), fits_small (by omega) (by omega), fits_small (by omega) (by omega)]; simp

set_option maxHeartbeats 4000000 in
theorem lawhex_spec (w : World) (b : Array UInt8) (tb : Tok) (width : Int) (t : Tok) (hb : b.size ≤ 20) (hw0 : 0 ≤ width) (hw1 : width < 10) :
    CSpec w 156 20 [.bytes b tb, .int width t] [] [] (fun r nw => ∃ l vs n, r = .ref l ∧ nw = [(l, W.listOf vs.toArray n)] ∧ IntsAre vs ((lawHexN (KBw.bInts b) width.toNat).map Int.ofNat)) := by
  have hkl : (KBw.bInts b).length = b.size := KBw.ints_length b
  obtain ⟨ks, hks⟩ : ∃ ks, KBw.bInts b = ks := ⟨_, rfl⟩
  rw [hks] at hkl ⊢
  have hkb : ∀ k ∈ ks, 0 ≤ k ∧ k < 256 := fun k hk => KBw.ints_in (hks ▸ hk)
  refine' CSpec.of_bodyC [(Str.ofString "octets", .bytes b tb), (Str.ofString "width", .int width t)] ?ho ?hcd ?hb ?hl ?hc ?h1 ?h2 ?h3 ?_
  walk_at "mine bodyC"
  intro dp un gd cn cs L a ccd cl outer base g L' h₁ s tk cells p loose mean mg mb hd9 hu B F N YC hca X T lt hrd
  have kM := kstMark
  obtain ⟨c1, c2, hco, hd1, hd2⟩ := CellsAre.two YC
  subst hco
  simp only [List.cons_append, List.nil_append] at N
  replace hd1 : c1.data = Data.cell none := hd1
  replace hd2 : c2.data = Data.cell (some (Value.int width t)) := hd2
  clear YC
  replace hca := (⟨hca _ (.head _), hca _ (.tail _ (.head _))⟩ : @LT.lt Nat _ L' (L' + 1 + 1) ∧ @LT.lt Nat _ L' (L' + 1))
  walk_at "mine go"
  k_steps
  (rename Fr _ _ _ _ => F1)
  (rename News _ _ _ _ => N1)
  refine comp_bytes rfl F1 N1 (by rw [sizeLine_eq]; omega) ?_
  intro gg
  try dsimp only
  refine comp_rest (fun i ys => StrsAre ys ((ks.take i).map hexTwo)) .nil trivial ?_ ?_
  · rintro i v ys I oI C oC D m₂ h tk E' hlt ⟨k, u, hk, rfl⟩ hys hC hm F3 N3 off ne
    rw [hks] at hk
    obtain ⟨hk0, hk1⟩ := hkb k (List.mem_of_getElem? hk)
    clear F1 N1
    k_steps
    refine ⟨_, _, _, rfl, by k_asm, by k_asm, fun _ hp => hp, ?_⟩
    rw [take_succ_of hk, List.map_append]
    exact strsAre_append hys (.cons _ _ .nil)
  · intro ys hys
    rw [List.take_of_length_le (by omega)] at hys
    intro D h9 tk9 F4 N4 off
    clear F1 N1
    try dsimp only
    k_steps
    k_here
    refine join_list (News.isList N4 (.head _)) (by simpa using hys) (by rw [row_sum]; show 2 * ks.length + (ks.map hexTwo).length * 0 ≤ _; omega) ?_
    intro t5 k5
    obtain ⟨z, hz⟩ : ∃ z, z = Txt.join (Str.ofString "") (ks.map hexTwo) := ⟨_, rfl⟩
    rw [← hz]
    have hzc : codes z = rowN ks := by rw [hz, codes_join]; exact row_codes hkb
    have hzl : z.length = 2 * ks.length := by rw [show z.length = (codes z).length by simp [codes, PySem.Str.length], hzc, rowN_len]
    have hzl' : z.length ≤ 40 := by omega
    clear hz
    try dsimp only
    k_steps
    · rename width = 0 => hw
      (rename Fr _ _ _ _ => F5)
      (rename News _ _ _ _ => N5)
      have hzz : codes (z ++ PySem.Str.ofString ">") = rowN ks ++ [62] := by
        rw [codes, PyProof.Rows.cps_toList_append]
        show codes z ++ _ = _
        rw [hzc]; rfl
      have hzsz : (z ++ PySem.Str.ofString ">").cps.size = 2 * ks.length + 1 := by rw [size_codes, hzz, List.length_append, rowN_len]; rfl
      refine comp_str rfl F5 N5 (ascii_of (by
        rw [hzz]
        intro c hc
        rcases List.mem_append.mp hc with hc | hc
        · exact rowN_small hkb c hc
        · rw [List.mem_singleton.mp hc]; decide)) (by rw [hzsz, sizeLine_eq]; omega) ?_
      intro gg2
      try dsimp only
      refine comp_rest (fun i ys => IntsAre ys (((rowN ks ++ [62]).take i).map Int.ofNat)) .nil trivial ?_ ?_
      · rintro i v ys2 I oI C oC D2 m₂ h tk E' hlt ⟨c, u, hc, rfl⟩ hys2 hC hm F3 N3 off2 ne
        have hc' : (rowN ks ++ [62])[i]? = some c := by rw [← hzz, codes, Array.getElem?_toList]; exact hc
        clear F5 N5
        k_steps
        refine ⟨_, _, _, rfl, by k_asm, by k_asm, fun _ hp => hp, ?_⟩
        rw [take_succ_of hc', List.map_append]
        exact IntsAre.append hys2 (.cons _ _ .nil)
      · intro ys2 hys2
        rw [List.take_of_length_le (by rw [hzsz, List.length_append, rowN_len]; exact Nat.le_refl _)] at hys2
        intro D2 h9 tk9 F6 N6 off2
        clear F5 N5
        try dsimp only
        k_steps
        exact Back.intro [_] (by k_asm) (by k_asm) (List.forall_mem_cons.mpr ⟨.head _, List.forall_mem_nil _⟩) ⟨_, ys2, _, rfl, rfl, by rw [lawHexN, if_pos (by omega)]; exact hys2⟩
    · rename width ≠ 0 => hw
      (rename Fr _ _ _ _ => F5)
      (rename News _ _ _ _ => N5)
      rename IsRange _ _ _ _ _ _ _ _ => hr
      obtain ⟨wn, rfl⟩ := Int.eq_ofNat_of_zero_le hw0
      have hwn : 1 ≤ wn ∧ wn ≤ 9 := by omega
      have hr2 := rw_facts hr hzl hwn (by omega)
      refine comp_range rfl F5 N5 hr hr2.1 hr2.2.1 hr2.2.2 ?_
      intro gg2
      try dsimp only
      refine comp_rest (fun i ys => StrsAre ys ((List.range i).map (partS z wn))) .nil trivial ?_ ?_
      · rintro i v ys2 I oI C oC D2 m₂ h tk E' hlt ⟨t6, rfl⟩ hys2 hC hm F3 N3 off2 ne
        rw [show (0 + (i : Int) * (wn : Int)) = ((i * wn : Nat) : Int) by simp] at hm
        clear F5 N5 hr
        k_steps
        refine ⟨_, _, _, rfl, by k_asm, by k_asm, fun _ hp => hp, ?_⟩
        rw [List.range_succ, List.map_append]
        exact strsAre_append hys2 (.cons _ _ .nil)
      · intro ys2 hys2
        intro D2 h9 tk9 F6 N6 off2
        clear F5 N5 hr
        have hyl := StrsLen hys2
        rw [List.length_map, List.length_range] at hyl
        have hn48 : (2 * ks.length + wn - 1) / wn ≤ 48 := Nat.le_trans (Nat.div_le_self _ _) (by omega)
        try dsimp only
        k_steps
        (rename Fr _ _ _ _ => F7)
        (rename News _ _ _ _ => N7)
        refine comp_list (ys := ys2) (n := ys2.length) rfl F7 N7 (.inr (.head _)) (by rw [sizeLine_eq]; omega) ?_
        intro gg3
        try dsimp only
        refine comp_rest (fun i ys => StrsAre ys ((List.range i).map (partL z wn))) .nil (.inr ⟨_, .head _, rfl, _, rfl⟩) ?_ ?_
        · rintro i v ys3 I oI C oC D3 m₂ h tk E' hlt hv hys3 hC hm F3 N3 off3 ne
          obtain ⟨pp, t7, hpp, rfl⟩ := strs_at hys2 hv
          have hpe : pp = partS z wn i := by
            rw [List.getElem?_map, List.getElem?_range (by omega)] at hpp
            exact (Option.some.inj hpp).symm
          have hpl : pp.length ≤ 40 := by rw [hpe]; exact Nat.le_trans (Txt.slice_le _ _ _) hzl'
          clear F7 N7 hv hpp
          k_steps
          all_goals (
            refine ⟨_, _, _, rfl, by k_asm, by k_asm, fun _ hp => hp, ?_⟩
            rw [List.range_succ, List.map_append]
            refine strsAre_append hys3 ?_
            show StrsAre _ [partL z wn i]
            unfold partL
            rw [← hpe]
            (first | rw [if_pos (by omega)] | rw [if_neg (by omega)])
            exact .cons _ _ .nil)
        · intro ys3 hys3
          intro D3 h10 tk10 F8 N8 off3
          clear F7 N7
          rw [hyl] at hys3
          try dsimp only
          k_steps
          k_here
          have hsum := partL_sum hzl' wn ((2 * ks.length + wn - 1) / wn)
          refine join_list (News.isList N8 (.head _)) (by simpa using hys3) (by
            show _ + (List.map _ _).length * 0 ≤ _
            omega) ?_
          intro t8 k8
          obtain ⟨z2, hz2⟩ : ∃ z2, z2 = Txt.join (Str.ofString "") ((List.range ((2 * ks.length + wn - 1) / wn)).map (partL z wn)) := ⟨_, rfl⟩
          rw [← hz2]
          have hz2c : codes z2 = (List.range ((2 * ks.length + wn - 1) / wn)).flatMap (partNL (rowN ks) wn) := by
            rw [hz2, codes_join, partL_codes (hwn.1) (Nat.le_of_eq hzl.symm), hzc]
          have hz2l : z2.length ≤ 3000 := by
            rw [show z2.length = (codes z2).length by simp [codes, PySem.Str.length], hz2, codes_join, List.length_flatMap]
            simp only [List.map_map]
            refine Nat.le_trans (Nat.le_of_eq ?_) (Nat.le_trans hsum (by omega))
            rw [List.map_map]
            rfl
          clear hz2
          try dsimp only
          k_steps
          (rename Fr _ _ _ _ => F9)
          (rename News _ _ _ _ => N9)
          have hzz : codes (z2 ++ PySem.Str.ofString ">") = (List.range ((2 * ks.length + wn - 1) / wn)).flatMap (partNL (rowN ks) wn) ++ [62] := by
            rw [codes, PyProof.Rows.cps_toList_append]
            show codes z2 ++ _ = _
            rw [hz2c]; rfl
          have hzsz : (z2 ++ PySem.Str.ofString ">").cps.size = ((List.range ((2 * ks.length + wn - 1) / wn)).flatMap (partNL (rowN ks) wn) ++ [62]).length := by rw [size_codes, hzz]
          have hzs2 : (z2 ++ PySem.Str.ofString ">").cps.size ≤ 3001 := by
            show (z2 ++ PySem.Str.ofString ">").length ≤ 3001
            rw [PySem.Str.length_append]
            exact Nat.add_le_add hz2l (Nat.le_refl 1)
          refine comp_str rfl F9 N9 (ascii_of (by
            rw [hzz]
            intro c hc
            rcases List.mem_append.mp hc with hc | hc
            · exact partNL_small hkb hc
            · rw [List.mem_singleton.mp hc]; decide)) (by rw [sizeLine_eq]; omega) ?_
          intro gg4
          try dsimp only
          refine comp_rest (fun i ys => IntsAre ys ((((List.range ((2 * ks.length + wn - 1) / wn)).flatMap (partNL (rowN ks) wn) ++ [62]).take i).map Int.ofNat)) .nil trivial ?_ ?_
          · rintro i v ys4 I oI C oC D4 m₂ h tk E' hlt ⟨c, u, hc, rfl⟩ hys4 hC hm F3 N3 off4 ne
            have hc' : ((List.range ((2 * ks.length + wn - 1) / wn)).flatMap (partNL (rowN ks) wn) ++ [62])[i]? = some c := by rw [← hzz, codes, Array.getElem?_toList]; exact hc
            clear F9 N9
            k_steps
            refine ⟨_, _, _, rfl, by k_asm, by k_asm, fun _ hp => hp, ?_⟩
            rw [take_succ_of hc', List.map_append]
            exact IntsAre.append hys4 (.cons _ _ .nil)
          · intro ys4 hys4
            rw [List.take_of_length_le (Nat.le_of_eq hzsz.symm)] at hys4
            intro D4 h11 tk11 F10 N10 off4
            clear F9 N9
            try dsimp only
            k_steps
            exact Back.intro [_] (by k_asm) (by k_asm) (List.forall_mem_cons.mpr ⟨.head _, List.forall_mem_nil _⟩) ⟨_, ys4, _, rfl, rfl, by rw [lawHexN, if_neg (by omega), Int.toNat_natCast]; exact hys4⟩
end Mine
theorem Mine.words_P25 : True := by
  (k_with "exec Assign" => (k_here; (rename Mine.StopHere => st9_w); (with_reducible show wpAny _ _ (exec (Stmt.Assign [Expr.Name (Str.ofString "number") _] _ _) _) _ _ _); clear st9_w; refine Mine.Lock.out ?_))
  trivial
namespace Mine
open PySem.Calls PySem.Spec PySem.W PyProof.Rows LCg

abbrev testsOf (ifs : List Expr) (env : Env) : Sem Bool := forIn ifs true fun c r => if r = true then do let ok ← isTrue c env (eval c env); pure (ForInStep.yield ok) else pure (ForInStep.yield r)

def OffW (wr : List Addr) (C D : Addr) (l : Led) : Prop := ∀ p ∈ l, p.1 ∉ wr ∧ p.1 ≠ C ∧ p.1 ≠ D
section
variable {prog : Program} {w : World} {A : Around} {E : Value → Shared → Prop} {s : Shared} {h₀ : Heap} {L : Addr} {m : Str → Option Value} {env : Env}
theorem compLoop_K {elt target iter : Expr} {ifs : List Expr} {scope : Scope} {pos : Pos} {it acc : Value} {env : Env} {R : Result → Shared → Prop} (I : Nat → Shared → Prop)
    (turn : ∀ n s, I n s → wpAny (model prog w) A (pyNext it) (fun r s₁ => match r with
      | none => R (.ok .next) s₁
      | some v => wpAny (model prog w) A (letOwnedTupleGo target it v) (fun _ s₁' => wpAny (model prog w) A (assign target env v) (fun _ s₂ =>
          wpAny (model prog w) A (testsOf ifs env) (fun ok s₃ =>
            if ok = true then wpAny (model prog w) A (eval elt env) (fun x s₄ =>
              wpAny (model prog w) A (call (.builtin "list.append") [acc, x]) (fun _ s₅ => ∃ m, m < n ∧ I m s₅) (notedBy (model prog w) A env fun e s' => R (.error e) s') s₄) (notedBy (model prog w) A env fun e s' => R (.error e) s') s₃
            else ∃ m, m < n ∧ I m s₃) (notedBy (model prog w) A env fun e s' => R (.error e) s') s₂)
          (notedBy (model prog w) A env fun e s' => R (.error e) s') s₁') (notedBy (model prog w) A env fun e s' => R (.error e) s') s₁) (notedBy (model prog w) A env fun e s' => R (.error e) s') s)
    (n : Nat) (h : I n s) : codeAny (model prog w) A (.compLoop (.ListComp elt [⟨target, iter, ifs, 0⟩] scope pos) 0 it acc env) R s := by
  refine codeAny_loop rfl I (fun n s hI => ?_) n h
  show wpAny _ A ((compTurn (.ListComp elt [⟨target, iter, ifs, 0⟩] scope pos) 0 it acc env).onRaise (fun x => do noteFrame x env; theTreesLotGoes x)) _ _ s
  refine wpAny_noted ?_
  rw [compTurn_list]
  refine wpAny_bind (wpAny_standAt (wpAny_bind (wpAny_mono (turn n s hI) (fun r s₁ h₁ => ?_) fun _ _ h' => h')))
  cases r with
  | none => exact wpAny_pure h₁
  | some v =>
    refine wpAny_bind (wpAny_mono h₁ (fun _ s₁' h₁' => ?_) fun _ _ h' => h')
    refine wpAny_bind (wpAny_mono h₁' (fun _ s₂ h₂ => wpAny_bind (wpAny_mono h₂ (fun ok s₃ h₃ => ?_) fun _ _ h' => h')) fun _ _ h' => h')
    cases ok with
    | false => exact wpAny_pure ⟨rfl, h₃⟩
    | true =>
      exact wpAny_bind (wpAny_bind (wpAny_mono h₃ (fun x s₄ h₄ => wpAny_bind (wpAny_mono h₄ (fun _ s₅ h₅ => wpAny_pure (wpAny_pure ⟨rfl, h₅⟩)) fun _ _ h' => h')) fun _ _ h' => h'))

def CompElW {σ : Type} (h₀ : Heap) (L : Addr) (m : Str → Option Value) (s : Shared) (wr : List Addr) (C D : Addr) (own : Led) (Le : σ → Led) (ok : Value → σ → Prop) (y : Value) (s₂ : Shared) : Prop :=
  ∃ h' tk' all c, s₂ = { s with heap := h', toks := tk' } ∧ Fr h₀ L h' m ∧ News h₀ L h' all ∧ (∀ p ∈ own ++ Le c, p ∈ all) ∧ OffW wr C D (Le c) ∧ ok y c

/-- what a comprehension over pairs wants of its iterator -/
structure PairItG {σ : Type} (prog : Program) (w : World) (A : Around) (h₀ : Heap) (L : Addr) (m : Str → Option Value) (env : Env) (elt : Expr) (x x₂ : Str) (px px₂ tp : Pos) (tkk : Nat) (ifs : List Expr) (scope : Scope) (cl : List (Str × Addr)) (Fin : List Value → Led → Prop) (s₂ : Shared)
    (I : Addr) (fp wr : List Addr) (n : Nat) (Pv Md : Nat → Value → Heap → Prop) (St : Nat → Heap → Prop) (PP : Nat → Value → Value → Prop) (Ok : Nat → List Value → σ → Prop) (Le : σ → Led) (c₀ : σ) : Prop where
  W : KTurns prog w A (.Tuple [.Name x px, .Name x₂ px₂] tkk tp) I fp wr n Pv Md St
  self : ∀ (s : Shared) (Q : Value → Shared → Prop) (E : Value → Shared → Prop), St 0 s.heap → Q (.ref I) s → wpAny (model prog w) A (pyIter (.ref I)) Q E s
  hsz : n ≤ sizeLine
  hh : A.handled = none
  live : ∀ i h, St i h → ∃ its : Led, its.map (·.1) = wr ∧ ∀ p ∈ its, h.get? p.1 = some p.2
  val : ∀ i v h, Pv i v h → ∃ T v₁ v₂, v = .ref T ∧ IsTup h T #[v₁, v₂] ∧ PP i v₁ v₂
  st : St 0 s₂.heap
  fpl : ∀ b ∈ fp, b < s₂.heap.objs.size
  fix : ∀ b ∈ fp, b ∉ wr → (∃ o, h₀.get? b = some o) ∨ ∃ o, ∀ c, (b, o) ∈ Le c
  F : Fr h₀ L s₂.heap m
  N : News h₀ L s₂.heap (Le c₀)
  wr0 : ∀ b ∈ wr, h₀.get? b = none
  wrL : L ∉ wr
  off : ∀ p ∈ Le c₀, p.1 ∉ wr
  ok0 : Ok 0 [] c₀
  len : ∀ i ys c, Ok i ys c → ys.length ≤ i
  step : ∀ i v₁ v₂ ys c its C oC D m₂ h tk (E' : Value → Shared → Prop), i < n → PP i v₁ v₂ → Ok i ys c → its.map (·.1) = wr → NsObj oC m₂ → m₂ x = some v₁ → m₂ x₂ = some v₂ → Fr h₀ L h m → News h₀ L h (its ++ (C, oC) :: (D, lst ys) :: Le c) → OffW wr C D (Le c) →
    wpAny (model prog w) A (testsOf ifs (compEnvC scope cl C env)) (fun ok s₃ => if ok = true then wpAny (model prog w) A (eval elt (compEnvC scope cl C env)) (CompElW h₀ L m s₂ wr C D (its ++ [(C, oC), (D, lst ys)]) Le (fun y c' => Ok (i + 1) (ys ++ [y]) c')) E' s₃
      else CompElW h₀ L m s₂ wr C D (its ++ [(C, oC), (D, lst ys)]) Le (fun _ c' => Ok (i + 1) ys c') .none s₃) E' { s₂ with heap := h, toks := tk }
  fin : ∀ ys c, Ok n ys c → Fin ys (Le c)

def PairAtG (prog : Program) (w : World) (A : Around) (h₀ : Heap) (L : Addr) (m : Str → Option Value) (env : Env) (elt : Expr) (x x₂ : Str) (px px₂ tp : Pos) (tkk : Nat) (ifs : List Expr) (scope : Scope) (cl : List (Str × Addr)) (Fin : Shared → List Value → Led → Prop) (it : Value) (s₂ : Shared) : Prop :=
  ∃ (σ : Type) (Le : σ → Led) (c₀ : σ) (Ok : Nat → List Value → σ → Prop), ∃ I fp wr n Pv Md St PP, it = .ref I ∧ PairItG prog w A h₀ L m env elt x x₂ px px₂ tp tkk ifs scope cl (Fin s₂) s₂ I fp wr n Pv Md St PP Ok Le c₀

theorem block_EG {σ : Type} {elt iter : Expr} {x x₂ : Str} {px px₂ tp : Pos} {tkk : Nat} {ifs : List Expr} {scope : Scope} {cl : List (Str × Addr)} {pos : Pos} {s₂ : Shared} {I : Addr} {fp wr : List Addr} {n : Nat} {Pv Md : Nat → Value → Heap → Prop} {St : Nat → Heap → Prop} {PP : Nat → Value → Value → Prop} {Ok : Nat → List Value → σ → Prop} {Le : σ → Led} {c₀ : σ}
    {Fin : List Value → Led → Prop} {RR : Value → Addr → Result → Shared → Prop}
    (K : PairItG prog w A h₀ L m env elt x x₂ px px₂ tp tkk ifs scope cl Fin s₂ I fp wr n Pv Md St PP Ok Le c₀)
    (hcell : ∀ y ∈ scope.names, y.2 ≠ .cell) (hkind : scope.kind = .function) (hx : scope.names.lookup x = some .local) (hx₂ : scope.names.lookup x₂ = some .local) (hxx : x ≠ x₂)
    (hRR : ∀ D C h tk m' ys c, Fr h₀ L h m → News h₀ L h ((D, lst ys) :: Le c) → Off1 D (Le c) → h.Ns C m' → h₀.get? C = none → h₀.get? D = none → C ≠ L → D ≠ L → C ≠ D → (∀ p ∈ Le c, p.1 ≠ C) → Fin ys (Le c) → RR (.ref D) C (.ok .next) { s₂ with heap := h, toks := tk }) :
    wpAny (model prog w) A (newList []) (fun acc s₃ => wpAny (model prog w) A (newFunctionEnv scope env.globals cl [] env.qual none .none (some env)) (fun cenv s₄ =>
      codeAny (model prog w) A (.compStart (.ListComp elt [⟨.Tuple [.Name x px, .Name x₂ px₂] tkk tp, iter, ifs, 0⟩] scope pos) 0 (.ref I) acc { cenv with scope := relabel scope env }) (RR acc cenv.locals) s₄) E s₃) E s₂ := by
  refine wpAny_newObj_type (wpAny_newFunctionEnv hcell (by intro y hy; simp at hy) (fun h₁ hns₁ hsb₁ => ?_) hkind)
  dsimp only at hns₁ hsb₁ ⊢
  generalize hH2 : s₂.heap.push { cls := .type "list", dict := none, data := .seq ([] : List Value).toArray } = H2 at hns₁ hsb₁ ⊢
  have hC : H2.objs.size = s₂.heap.objs.size + 1 := by rw [← hH2, Heap.size_push]
  generalize hCg : H2.objs.size = C at hns₁ hsb₁ hC ⊢
  generalize hDg : s₂.heap.objs.size = D at hC ⊢
  have hDC : D ≠ C := by rw [hC]; exact Nat.ne_of_lt (Nat.lt_succ_self _)
  have below : ∀ b, b < D → b ≠ C ∧ b ≠ D := fun b hb => ⟨by rw [hC]; exact Nat.ne_of_lt (Nat.lt_succ_of_lt hb), Nat.ne_of_lt hb⟩
  have hfp : ∀ b ∈ fp, b < D := fun b hb => hDg ▸ K.fpl b hb
  have hCf : C ∉ fp := fun hm => by have := hfp _ hm; rw [hC] at this; exact Nat.lt_irrefl _ (Nat.lt_of_succ_lt this)
  have hDf : D ∉ fp := fun hm => Nat.lt_irrefl _ (hfp _ hm)
  have hCw : C ∉ wr := fun hm => hCf (K.W.sub _ hm)
  have hDw : D ∉ wr := fun hm => hDf (K.W.sub _ hm)
  have old : ∀ b o, s₂.heap.get? b = some o → h₁.get? b = some o := fun b o e => hsb₁.extBut b o (below b (hDg ▸ Heap.lt_size e)).1 (Heap.get?_push_of_some _ (hH2 ▸ Heap.get?_push_of_some _ e))
  have hacc : h₁.get? D = some (lst []) := hsb₁.extBut _ _ hDC (Heap.get?_push_of_some _ (hH2 ▸ hDg ▸ Heap.get?_push_size _ rfl))
  have hst₁ : St 0 h₁ := K.W.frame _ _ _ K.st fun b _ o e => old b o e
  have fresh₀ : ∀ a, D ≤ a → h₀.get? a = none := fun a ha => by
    cases e : h₀.get? a with
    | none => rfl
    | some o' => have := Heap.lt_size (K.F.keep a o' e); rw [hDg] at this; exact absurd this (Nat.not_lt.mpr ha)
  have hD₀ : h₀.get? D = none := fresh₀ _ (Nat.le_refl _)
  have hC₀ : h₀.get? C = none := fresh₀ _ (by rw [hC]; exact Nat.le_succ _)
  have hLlt : L < D := hDg ▸ K.F.ns.lt
  have hDL : D ≠ L := Ne.symm (below L hLlt).2
  have hCL : C ≠ L := Ne.symm (below L hLlt).1
  have offC : ∀ p ∈ Le c₀, p.1 ≠ C := fun p hp => (below _ (hDg ▸ Heap.lt_size (K.N p hp).1)).1
  have offD : ∀ p ∈ Le c₀, p.1 ≠ D := fun p hp => (below _ (hDg ▸ Heap.lt_size (K.N p hp).1)).2
  have offW0 : OffW wr C D (Le c₀) := fun p hp => ⟨K.off p hp, offC p hp, offD p hp⟩
  have frw : ∀ {h h' : Heap}, Fr h₀ L h m → (∀ b o, b ∉ wr → h.get? b = some o → h'.get? b = some o) → Fr h₀ L h' m := fun F hk => ⟨F.ns.at' fun o e => hk _ o K.wrL e, fun b o e => hk b o (fun hm => by rw [K.wr0 b hm] at e; cases e) (F.keep b o e), F.above⟩
  have stay : ∀ {i : Nat} {h h' : Heap} {its : Led}, St i h → its.map (·.1) = wr → (∀ p ∈ its, h.get? p.1 = some p.2) → (∀ p ∈ its, h'.get? p.1 = some p.2) → (∀ b o, h₀.get? b = some o → h.get? b = some o) → (∀ b o, h₀.get? b = some o → h'.get? b = some o) → (∀ p, (∀ c, p ∈ Le c) → h.get? p.1 = some p.2) → (∀ p, (∀ c, p ∈ Le c) → h'.get? p.1 = some p.2) → St i h' :=
    fun {i h h' its} hst hits g1 g2 k1 k2 n1 n2 => K.W.frame _ _ _ hst fun b hb o e => by
      by_cases hw : b ∈ wr
      · rw [← hits] at hw
        obtain ⟨q, hq, rfl⟩ := List.mem_map.mp hw
        rw [g1 q hq] at e
        rw [← e]; exact g2 q hq
      · rcases K.fix b hb hw with ⟨o', e'⟩ | ⟨o', hm⟩
        · rw [k1 _ _ e'] at e; cases e; exact k2 _ _ e'
        · rw [n1 _ hm] at e; cases e; exact n2 _ hm
  have loop : ∀ s₃ : Shared, s₃ = { s₂ with heap := h₁, toks := s₂.toks + ([] : List (Str × Value)).length } →
      codeAny (model prog w) A (.compLoop (.ListComp elt [⟨.Tuple [.Name x px, .Name x₂ px₂] tkk tp, iter, ifs, 0⟩] scope pos) 0 (.ref I) (.ref D) (compEnvC scope cl C env)) (RR (.ref D) C) s₃ := by
    rintro s₃ rfl
    refine compLoop_K (fun k s' => ∃ h' tk i ys m' c, s' = { s₂ with heap := h', toks := tk } ∧ i ≤ n ∧ k = n + 1 - i ∧ Ok i ys c ∧ St i h' ∧ Fr h₀ L h' m ∧ h'.Ns C m' ∧ News h₀ L h' ((D, lst ys) :: Le c) ∧ OffW wr C D (Le c)) ?_ (n + 1)
      ⟨h₁, _, 0, [], _, c₀, rfl, Nat.zero_le _, rfl, K.ok0, hst₁, K.F.keeps old, hns₁, fun p hp => ?_, offW0⟩
    · refine (let G : Nat → Shared → Prop := _; fun (k : Nat) (s' : Shared) hI => (?_ : G k s'))
      obtain ⟨h', tk, i, ys, m', c, rfl, hi, rfl, hok, hst', F', hn', N', offw⟩ := hI
      show wpAny _ _ _ _ _ _
      by_cases hlt : i < n
      · refine K.W.item i _ _ _ hlt hst' fun v h₂ tk₂ hMd hk₂ => ?_
        refine K.W.go i v { s₂ with heap := h₂, toks := tk₂ } _ _ hMd fun h₃ hPv hst₃ hk₃ => ?_
        obtain ⟨T, v₁, v₂, rfl, hT, hPP⟩ := K.val _ _ _ hPv
        refine assign_Tuple_tuple (s := { s₂ with heap := h₃, toks := tk₂ }) K.hh hT rfl rfl fun h₅ he => ?_
        have he' : ∀ b o, h₃.get? b = some o → h₅.get? b = some o := fun b o e => he b o (Nat.ne_of_lt (Heap.lt_size e)) e
        have k35 : ∀ b o, b ∉ wr → h'.get? b = some o → h₅.get? b = some o := fun b o hb e => he' _ _ (hk₃ b o hb (hk₂ b o hb e))
        refine assignInOrder_cons (wpAny_assign_Name (wpAny_storeName_local (lookup_relabel_local hx) (hn'.at' fun o e => k35 _ o hCw e) (fun h₆ hn₆ hs₆ => ?_) (by simp [compEnvC, relabel, hkind])))
        refine assignInOrder_cons (wpAny_assign_Name (wpAny_storeName_local (lookup_relabel_local hx₂) hn₆ (fun h₇ hn₇ hs₇ => ?_) (by simp [compEnvC, relabel, hkind])))
        refine assignInOrder_nil ?_
        have k57 : ∀ b o, b ≠ C → h₅.get? b = some o → h₇.get? b = some o := fun b o hb e => hs₇.extBut b o hb (hs₆.extBut b o hb e)
        have hst₇ : St (i + 1) h₇ := K.W.frame _ _ _ hst₃ fun b hb o e => k57 b o (fun q => hCf (q ▸ hb)) (he' _ _ e)
        refine (let gk : Prop := _; (?_ : gk))
        obtain ⟨its, hits, hitg⟩ := K.live _ _ hst₇
        unfold gk
        clear gk
        refine (let gk : Prop := _; (?_ : gk))
        obtain ⟨oC, heC, hoC⟩ := ns_obj hn₇
        unfold gk
        clear gk
        have F₅ : Fr h₀ L h₅ m := frw F' k35
        have F₇ : Fr h₀ L h₇ m := (F₅.change hs₆ hCL hC₀).change hs₇ hCL hC₀
        have nDn : ∀ p ∈ (D, lst ys) :: Le c, p.1 ∉ wr ∧ p.1 ≠ C := fun p hp => by
          rcases List.mem_cons.mp hp with rfl | hp
          · exact ⟨hDw, hDC⟩
          · exact ⟨(offw p hp).1, (offw p hp).2.1⟩
        have N₇ : News h₀ L h₇ (its ++ (C, oC) :: (D, lst ys) :: Le c) := fun p hp => by
          rcases List.mem_append.mp hp with hp | hp
          · have hw : p.1 ∈ wr := hits ▸ List.mem_map_of_mem hp
            exact ⟨hitg p hp, fun e => K.wrL (e ▸ hw), K.wr0 _ hw⟩
          · rcases List.mem_cons.mp hp with rfl | hp
            · exact ⟨heC, hCL, hC₀⟩
            · exact ⟨k57 _ _ (nDn p hp).2 (k35 _ _ (nDn p hp).1 (N' p hp).1), (N' p hp).2⟩
        have back : ∀ {h₈ : Heap} {all : Led} {c' : σ}, Fr h₀ L h₈ m → News h₀ L h₈ all → (∀ p ∈ its, p ∈ all) → (∀ p ∈ Le c', p ∈ all) → St (i + 1) h₈ := fun {h₈ all c'} F₈ N₈ hb hb' =>
          stay hst₇ hits hitg (fun p hp => (N₈ p (hb p hp)).1) F₇.keep F₈.keep (fun p hp => (N₇ p (List.mem_append_right _ (.tail _ (.tail _ (hp c))))).1) (fun p hp => (N₈ p (hb' p (hp c'))).1)
        refine wpAny_mono (K.step i v₁ v₂ ys c its C oC D _ h₇ _ _ hlt hPP hok hits hoC (by simp [hxx]) (by simp) F₇ N₇ offw) (fun ok s₄ h₄ => ?_) fun _ _ e => e
        cases ok with
        | false =>
          obtain ⟨h₈, tk₈, all, c', rfl, F₈, N₈, hb, offw', hok'⟩ := h₄
          have hbi : ∀ p ∈ its, p ∈ all := fun p hp => hb p (List.mem_append_left _ (List.mem_append_left _ hp))
          have hbC := hb (C, oC) (List.mem_append_left _ (List.mem_append_right _ (.head _)))
          have hbD := hb (D, lst ys) (List.mem_append_left _ (List.mem_append_right _ (.tail _ (.head _))))
          refine ⟨n + 1 - (i + 1), by omega, h₈, tk₈, i + 1, ys, _, c', rfl, hlt, rfl, hok', back F₈ N₈ hbi (fun p hp => hb p (List.mem_append_right _ hp)), F₈, hoC.ns (N₈ _ hbC).1, fun p hp => N₈ p ?_, offw'⟩
          rcases List.mem_cons.mp hp with rfl | hp
          · exact hbD
          · exact hb p (List.mem_append_right _ hp)
        | true =>
          refine wpAny_mono h₄ (fun y s₅ h₅ => ?_) fun _ _ e => e
          obtain ⟨h₈, tk₈, all, c', rfl, F₈, N₈, hb, offw', hok'⟩ := h₅
          have hbi : ∀ p ∈ its, p ∈ all := fun p hp => hb p (List.mem_append_left _ (List.mem_append_left _ hp))
          have hbC := hb (C, oC) (List.mem_append_left _ (List.mem_append_right _ (.head _)))
          have hbD := hb (D, lst ys) (List.mem_append_left _ (List.mem_append_right _ (.tail _ (.head _))))
          have zD := (N₈ _ hbD).1
          have zC := (N₈ _ hbC).1
          refine append_at (hsz := by show ys.toArray.size ≤ sizeLine; rw [List.size_toArray]; exact Nat.le_trans (K.len _ _ _ hok) (Nat.le_trans hi K.hsz)) zD fun h₉ hs₉ hD₉ => ?_
          refine ⟨n + 1 - (i + 1), by omega, h₉, tk₈, i + 1, ys ++ [y], _, c', rfl, hlt, rfl, hok', K.W.frame _ _ _ (back F₈ N₈ hbi (fun p hp => hb p (List.mem_append_right _ hp))) fun b hb o e => hs₉.extBut b o (fun q => hDf (q ▸ hb)) e, F₈.change hs₉ hDL hD₀,
            (hoC.ns zC).sameBut hs₉ (Ne.symm hDC), fun p hp => ?_, offw'⟩
          rcases List.mem_cons.mp hp with rfl | hp
          · exact ⟨hD₉.trans (congrArg some (lst_snoc ys y)), hDL, hD₀⟩
          · have z := N₈ p (hb p (List.mem_append_right _ hp))
            exact ⟨hs₉.extBut _ _ (offw' p hp).2.2 z.1, z.2⟩
      · obtain rfl : i = n := Nat.le_antisymm hi (Nat.not_lt.mp hlt)
        refine K.W.done _ _ _ hst' fun h₂ tk₂ hk₂ => ?_
        have N₂ : News h₀ L h₂ ((D, lst ys) :: Le c) := fun p hp => by
          refine ⟨hk₂ _ _ ?_ (N' p hp).1, (N' p hp).2⟩
          rcases List.mem_cons.mp hp with rfl | hp
          · exact hDw
          · exact (offw p hp).1
        exact hRR _ _ h₂ tk₂ _ ys c (frw F' hk₂) N₂ (Off3.one (I := D) (C := C) (Off3.of fun p hp => ⟨(offw p hp).2.2, (offw p hp).2.1, (offw p hp).2.2⟩)) (hn'.at' fun o e => hk₂ _ o hCw e) hC₀ hD₀ hCL hDL (Ne.symm hDC) (fun p hp => (offw p hp).2.1) (K.fin _ _ hok)
    · rcases List.mem_cons.mp hp with rfl | hp
      · exact ⟨hacc, hDL, hD₀⟩
      · exact ⟨old _ _ (K.N p hp).1, (K.N p hp).2⟩
  exact codeAny_compStart_list (loop _ rfl) (K.self _ _ _ hst₁ (loop _ rfl))

def PairAt (prog : Program) (w : World) (A : Around) (h₀ : Heap) (L : Addr) (m : Str → Option Value) (env : Env) (elt : Expr) (x x₂ : Str) (px px₂ tp : Pos) (tkk : Nat) (ifs : List Expr) (scope : Scope) (cl : List (Str × Addr)) (Fin : Shared → List Value → Led → Prop) (it : Value) (s₂ : Shared) : Prop :=
  ∃ I fp wr n Pv Md St PP, ∃ (Ok : Nat → List Value → Prop) (news : Led), it = .ref I ∧ PairItG (σ := Unit) prog w A h₀ L m env elt x x₂ px px₂ tp tkk ifs scope cl (Fin s₂) s₂ I fp wr n Pv Md St PP (fun i ys _ => Ok i ys) (fun _ => news) ()

theorem CompEl.toW {s₂ : Shared} {its : Led} {C D : Addr} {oC oD : Obj} {news : Led} {wr : List Addr} {ok : Value → Prop} {y : Value} {s₃ : Shared} (h : CompEl h₀ L m s₂ (its ++ (C, oC) :: (D, oD) :: news) ok y s₃) (o : OffW wr C D news) :
    CompElW (σ := Unit) h₀ L m s₂ wr C D (its ++ [(C, oC), (D, oD)]) (fun _ => news) (fun y _ => ok y) y s₃ := by
  refine (let gk : Prop := _; (?_ : gk))
  obtain ⟨h', tk', all, e, F, N, hb, hk⟩ := h
  unfold gk
  clear gk
  exact ⟨h', tk', all, (), e, F, N, fun p hp => hb p (by rw [List.append_assoc] at hp; exact hp), o, hk⟩
theorem stepW {elt : Expr} {x x₂ : Str} {ifs : List Expr} {scope : Scope} {cl : List (Str × Addr)} {s₂ : Shared} {wr : List Addr} {n : Nat} {PP : Nat → Value → Value → Prop} {Ok : Nat → List Value → Prop} {news : Led}
    (step : ∀ i v₁ v₂ ys its C oC D m₂ h tk (E' : Value → Shared → Prop), i < n → PP i v₁ v₂ → Ok i ys → its.map (·.1) = wr → NsObj oC m₂ → m₂ x = some v₁ → m₂ x₂ = some v₂ → Fr h₀ L h m → News h₀ L h (its ++ (C, oC) :: (D, lst ys) :: news) →
    wpAny (model prog w) A (testsOf ifs (compEnvC scope cl C env)) (fun ok s₃ => if ok = true then wpAny (model prog w) A (eval elt (compEnvC scope cl C env)) (CompEl h₀ L m s₂ (its ++ (C, oC) :: (D, lst ys) :: news) (fun y => Ok (i + 1) (ys ++ [y]))) E' s₃
      else CompEl h₀ L m s₂ (its ++ (C, oC) :: (D, lst ys) :: news) (fun _ => Ok (i + 1) ys) .none s₃) E' { s₂ with heap := h, toks := tk }) :
    ∀ i v₁ v₂ ys (_ : Unit) its C oC D m₂ h tk (E' : Value → Shared → Prop), i < n → PP i v₁ v₂ → Ok i ys → its.map (·.1) = wr → NsObj oC m₂ → m₂ x = some v₁ → m₂ x₂ = some v₂ → Fr h₀ L h m → News h₀ L h (its ++ (C, oC) :: (D, lst ys) :: news) → OffW wr C D news →
      wpAny (model prog w) A (testsOf ifs (compEnvC scope cl C env)) (fun ok s₃ => if ok = true then wpAny (model prog w) A (eval elt (compEnvC scope cl C env)) (CompElW (σ := Unit) h₀ L m s₂ wr C D (its ++ [(C, oC), (D, lst ys)]) (fun _ => news) (fun y _ => Ok (i + 1) (ys ++ [y]))) E' s₃
        else CompElW (σ := Unit) h₀ L m s₂ wr C D (its ++ [(C, oC), (D, lst ys)]) (fun _ => news) (fun _ _ => Ok (i + 1) ys) .none s₃) E' { s₂ with heap := h, toks := tk } :=
  fun i v₁ v₂ ys _ its C oC D m₂ h tk E' hi hp hok hits hoC hx hx2 F N offw => wpAny_mono (step i v₁ v₂ ys its C oC D m₂ h tk E' hi hp hok hits hoC hx hx2 F N) (fun ok s₃ h₄ => by
    cases ok with
    | true => exact wpAny_mono h₄ (fun y s₄ h₅ => h₅.toW offw) fun _ _ e => e
    | false => exact CompEl.toW (ok := fun _ => Ok (i + 1) ys) (y := .none) h₄ offw) fun _ _ e => e

theorem block_E {elt iter : Expr} {x x₂ : Str} {px px₂ tp : Pos} {tkk : Nat} {ifs : List Expr} {scope : Scope} {cl : List (Str × Addr)} {pos : Pos} {s₂ : Shared} {I : Addr} {fp wr : List Addr} {n : Nat} {Pv Md : Nat → Value → Heap → Prop} {St : Nat → Heap → Prop} {PP : Nat → Value → Value → Prop} {Ok : Nat → List Value → Prop} {news : Led}
    {Fin : List Value → Led → Prop} {RR : Value → Addr → Result → Shared → Prop}
    (K : PairItG (σ := Unit) prog w A h₀ L m env elt x x₂ px px₂ tp tkk ifs scope cl Fin s₂ I fp wr n Pv Md St PP (fun i ys _ => Ok i ys) (fun _ => news) ())
    (hcell : ∀ y ∈ scope.names, y.2 ≠ .cell) (hkind : scope.kind = .function) (hx : scope.names.lookup x = some .local) (hx₂ : scope.names.lookup x₂ = some .local) (hxx : x ≠ x₂)
    (hRR : ∀ D C h tk m' ys, Fr h₀ L h m → News h₀ L h ((D, lst ys) :: news) → Off1 D news → h.Ns C m' → h₀.get? C = none → h₀.get? D = none → C ≠ L → D ≠ L → C ≠ D → (∀ p ∈ news, p.1 ≠ C) → Fin ys news → RR (.ref D) C (.ok .next) { s₂ with heap := h, toks := tk }) :
    wpAny (model prog w) A (newList []) (fun acc s₃ => wpAny (model prog w) A (newFunctionEnv scope env.globals cl [] env.qual none .none (some env)) (fun cenv s₄ =>
      codeAny (model prog w) A (.compStart (.ListComp elt [⟨.Tuple [.Name x px, .Name x₂ px₂] tkk tp, iter, ifs, 0⟩] scope pos) 0 (.ref I) acc { cenv with scope := relabel scope env }) (RR acc cenv.locals) s₄) E s₃) E s₂ :=
  block_EG K hcell hkind hx hx₂ hxx fun D C h tk m' ys _ => hRR D C h tk m' ys

theorem ListComp_E {elt iter : Expr} {x x₂ : Str} {px px₂ tp : Pos} {tkk : Nat} {ifs : List Expr} {scope : Scope} {cl : List (Str × Addr)} {pos : Pos} {Q : Value → Shared → Prop} (F₀ : Fr h₀ L s.heap m)
    (hclos : closureFor scope env = pure cl) (hcell : ∀ y ∈ scope.names, y.2 ≠ .cell) (hkind : scope.kind = .function)
    (hnames : ∀ y ∈ scope.names, y.2 = .local → scope.names.lookup y.1 = some .local) (hx : scope.names.lookup x = some .local) (hx₂ : scope.names.lookup x₂ = some .local) (hxx : x ≠ x₂)
    (h : wpAny (model prog w) A (eval iter env) (fun xv s₁ => wpAny (model prog w) A (pyIter xv) (PairAt prog w A h₀ L m env elt x x₂ px px₂ tp tkk ifs scope cl (fun s₂ => FinE h₀ L m s₂ Q)) E s₁) E s)
    (hs : ∀ x, foldedSetIterable iter env x = pure x := by intro _; rfl) :
    wpAny (model prog w) A (eval (.ListComp elt [⟨.Tuple [.Name x px, .Name x₂ px₂] tkk tp, iter, ifs, 0⟩] scope pos) env) Q E s := by
  rw [eval_ListComp]
  refine wpAny_comprehension_free (use := none) rfl hs hclos hkind hnames (wpAny_mono h (fun xv s₁ h₁ => wpAny_mono h₁ (fun it s₂ h₂ => ?_) fun _ _ e => e) fun _ _ e => e)
  obtain ⟨I, fp, wr, n, Pv, Md, St, PP, Ok, news, rfl, K⟩ := h₂
  refine block_E K hcell hkind hx hx₂ hxx ?_
  intro D C h tk m' ys F' N' o1 hn hC₀ hD₀ hCL hDL hCD offC fin
  refine ⟨m', hn, fun h'' hs'' => fin D h'' tk (F'.change hs'' hCL hC₀) (fun p hp => ?_) o1⟩
  refine ⟨hs''.extBut _ _ ?_ (N' p hp).1, (N' p hp).2⟩
  rcases List.mem_cons.mp hp with rfl | hp
  · exact Ne.symm hCD
  · exact offC p hp

theorem Assign_ListComp_E {elt iter : Expr} {x x₂ y : Str} {px px₂ tp py : Pos} {tkk : Nat} {ifs : List Expr} {scope : Scope} {cl : List (Str × Addr)} {pos spos : Pos} {Q : Flow → Shared → Prop} (F₀ : Fr h₀ L s.heap m) (hLe : env.locals = L)
    (hsw : swapsWith (.ListComp elt [⟨.Tuple [.Name x px, .Name x₂ px₂] tkk tp, iter, ifs, 0⟩] scope pos) (some (.Name y py)) spos.line env = pure true)
    (hclos : closureFor scope env = pure cl) (hcell : ∀ z ∈ scope.names, z.2 ≠ .cell) (hkind : scope.kind = .function)
    (hnames : ∀ z ∈ scope.names, z.2 = .local → scope.names.lookup z.1 = some .local) (hx : scope.names.lookup x = some .local) (hx₂ : scope.names.lookup x₂ = some .local) (hxx : x ≠ x₂)
    (hy : env.kindOf y = some .local) (hp : (env.scope.kind == .class || (env.scope.kind == .module && env.locals != env.globals)) = false)
    (h : wpAny (model prog w) A (eval iter env) (fun xv s₁ => wpAny (model prog w) A (pyIter xv) (PairAt prog w A h₀ L m env elt x x₂ px px₂ tp tkk ifs scope cl (fun s₂ => FinA h₀ L m s₂ y Q)) E s₁) E s)
    (hs : ∀ x, foldedSetIterable iter env x = pure x := by intro _; rfl) :
    wpAny (model prog w) A (exec (.Assign [.Name y py] (.ListComp elt [⟨.Tuple [.Name x px, .Name x₂ px₂] tkk tp, iter, ifs, 0⟩] scope pos) spos) env) Q E s := by
  subst hLe
  rw [exec_Assign_Name_used _ _ _ _ hsw]
  refine wpAny_bind (wpAny_standAt (wpAny_bind ?_))
  show wpAny _ A (do let _ ← comprehension (.ListComp elt [⟨.Tuple [.Name x px, .Name x₂ px₂] tkk tp, iter, ifs, 0⟩] scope pos) scope env _ (newList []) false (eval iter env) (some (assign (.Name y py) env))) _ _ s
  refine wpAny_bind (wpAny_mono (wpAny_comprehension_free (use := some (assign (.Name y py) env)) (Q := fun _ s' => Q .next s') rfl hs hclos hkind hnames
    (wpAny_mono h (fun xv s₁ h₁ => wpAny_mono h₁ (fun it s₂ h₂ => ?_) fun _ _ e => e) fun _ _ e => e)) (fun _ s' hq => wpAny_pure (wpAny_pure hq)) fun _ _ e => e)
  obtain ⟨I, fp, wr, n, Pv, Md, St, PP, Ok, news, rfl, K⟩ := h₂
  refine block_E K hcell hkind hx hx₂ hxx ?_
  intro D C h' tk m' ys F' N' o1 hn hC₀ hD₀ hCL hDL hCD offC fin
  show wpAny _ A (assign (.Name y py) env (.ref D)) _ _ _
  refine wpAny_assign_Name (wpAny_storeName_local hy F'.ns (fun h₂ hn₂ hs₂ => ?_) hp)
  have hL₀ : h₀.get? env.locals = none := Heap.get?_none_of_le F'.above
  have F₂ : Fr h₀ env.locals h₂ (fun z => if z = y then some (.ref D) else m z) := ⟨hn₂, fun b o e => hs₂.extBut b o (fun q => by rw [q, hL₀] at e; cases e) (F'.keep b o e), F'.above⟩
  refine ⟨m', hn.sameBut hs₂ hCL, fun h'' hs'' => fin D h'' _ (F₂.change hs'' hCL hC₀) (fun p hp => ?_) o1⟩
  have z : h₂.get? p.1 = some p.2 := hs₂.extBut _ _ (N' p hp).2.1 (N' p hp).1
  refine ⟨hs''.extBut _ _ ?_ z, (N' p hp).2⟩
  rcases List.mem_cons.mp hp with rfl | hp
  · exact Ne.symm hCD
  · exact offC p hp

theorem its_two' {its : Led} {e i : Addr} (h : its.map (·.1) = [e, i]) : ∃ o o' : Obj, its = [(e, o), (i, o')] := by
  cases its with
  | nil => cases h
  | cons p r =>
    obtain ⟨a, o⟩ := p
    cases r with
    | nil => simp at h
    | cons q r' =>
      obtain ⟨a', o'⟩ := q
      cases r' with
      | nil =>
        have e1 : a = e ∧ a' = i := by simpa using h
        obtain ⟨rfl, rfl⟩ := e1
        exact ⟨o, o', rfl⟩
      | cons _ _ => simp at h

/-- … for at, code in enumerate(bytes) -/
theorem pair_bytes {elt : Expr} {x x₂ : Str} {px px₂ tp : Pos} {tkk : Nat} {ifs : List Expr} {scope : Scope} {cl : List (Str × Addr)} {Fin : Shared → List Value → Led → Prop} {b : Array UInt8} {tb : Tok} {news : Led} (Ok : Nat → List Value → Prop) (hh : A.handled = none) (F : Fr h₀ L s.heap m) (N : News h₀ L s.heap news) (hz : b.size ≤ sizeLine) (ok0 : Ok 0 []) (len : ∀ i ys, Ok i ys → ys.length ≤ i)
    (step : ∀ gg i (k : Int) t t' ys e oe it oi C oC D m₂ h tk (E' : Value → Shared → Prop), i < b.size → (KBw.bInts b)[i]? = some k → Ok i ys → NsObj oC m₂ → m₂ x = some (.int i t) → m₂ x₂ = some (.int k t') → Fr h₀ L h m → News h₀ L h ([(e, oe), (it, oi)] ++ (C, oC) :: (D, lst ys) :: news) →
      wpAny (model prog w) A (testsOf ifs (compEnvC scope cl C env)) (fun ok s₃ => if ok = true then wpAny (model prog w) A (eval elt (compEnvC scope cl C env)) (CompEl h₀ L m { s with heap := gg } ([(e, oe), (it, oi)] ++ (C, oC) :: (D, lst ys) :: news) (fun y => Ok (i + 1) (ys ++ [y]))) E' s₃
        else CompEl h₀ L m { s with heap := gg } ([(e, oe), (it, oi)] ++ (C, oC) :: (D, lst ys) :: news) (fun _ => Ok (i + 1) ys) .none s₃) E' { s with heap := h, toks := tk })
    (fin : ∀ gg ys, Ok b.size ys → Fin { s with heap := gg } ys news) :
    wpAny (model prog w) A (call (.type "enumerate") [.bytes b tb]) (fun xv s₁ => wpAny (model prog w) A (pyIter xv) (PairAt prog w A h₀ L m env elt x x₂ px px₂ tp tkk ifs scope cl Fin) E s₁) E s := by
  refine call_enum_bytes fun h' he hit hz' hkeep => ?_
  refine wpAny_pyIter_enum he ?_
  have hLt : L < s.heap.objs.size := F.ns.lt
  have hei : s.heap.objs.size + 1 ≠ s.heap.objs.size := Nat.succ_ne_self _
  have WT := WalksT.enumerateD (bdraws prog w (A := A.in1) hh s.heap.objs.size b tb) (s.heap.objs.size + 1) hei (by simp) (by simp)
  have W := KTurns.ofWalksU (elts := [.Name x px, .Name x₂ px₂]) (k := tkk) (pos := tp) WT.toU
  refine ⟨_, _, _, _, _, _, _, (fun i v₁ v₂ => ∃ k t t', v₁ = .int i t ∧ v₂ = .int k t' ∧ (KBw.bInts b)[i]? = some k), Ok, news, rfl, ⟨W, fun s Q E st q => WT.self 0 s Q E st q, hz, hh, ?_, ?_, ⟨⟨_, by simpa using he⟩, hit⟩, ?_, ?_, F.keeps hkeep, fun p hp => ⟨hkeep _ _ (N p hp).1, (N p hp).2⟩, ?_, ?_, ?_, ok0, fun i ys _ h => len i ys h, stepW ?_, fun ys _ o => fin _ ys o⟩⟩
  · rintro i h ⟨⟨old, he⟩, o, ho, _⟩
    exact ⟨[(_, _), (_, o)], rfl, List.forall_mem_cons.mpr ⟨he, List.forall_mem_cons.mpr ⟨ho, List.forall_mem_nil _⟩⟩⟩
  · rintro i v h ⟨T, vals, rfl, ⟨t, y, ⟨cc, u', hc, rfl⟩, rfl⟩, hT⟩
    exact ⟨T, _, _, rfl, hT, _, _, _, rfl, rfl, KBw.ints_get hc⟩
  · intro b' hb
    show b' < h'.objs.size
    rw [hz']
    rcases List.mem_cons.mp hb with e | hb
    · rw [e]; exact Nat.lt_succ_self _
    · rw [List.mem_singleton.mp hb]; exact Nat.lt_succ_of_lt (Nat.lt_succ_self _)
  · intro b' hb hw; exact absurd hb hw
  · intro b' hb
    rcases List.mem_cons.mp hb with e | hb
    · exact new_none F (by rw [e]; exact Nat.le_succ _)
    · exact new_none F (by rw [List.mem_singleton.mp hb]; exact Nat.le_refl _)
  · intro hm
    rcases List.mem_cons.mp hm with e | hm
    · rw [e] at hLt; exact absurd hLt (Nat.not_lt.mpr (Nat.le_succ _))
    · rw [List.mem_singleton.mp hm] at hLt; exact absurd hLt (Nat.lt_irrefl _)
  · intro p hp hI
    have := Heap.lt_size (N p hp).1
    rcases List.mem_cons.mp hI with e | hI
    · rw [e] at this; exact absurd this (Nat.not_lt.mpr (Nat.le_succ _))
    · rw [List.mem_singleton.mp hI] at this; exact absurd this (Nat.lt_irrefl _)
  · rintro i v₁ v₂ ys its C oC D m₂ h tk E' hlt ⟨k, t, t', rfl, rfl, hk⟩ hok hits hC hm1 hm2 F' N'
    obtain ⟨oe, oi, rfl⟩ := its_two' hits
    exact step _ i k t t' ys _ oe _ oi C oC D m₂ h tk E' hlt hk hok hC hm1 hm2 F' N'

/-- … for spot, one in enumerate(list) -/
theorem pair_list {elt : Expr} {x x₂ : Str} {px px₂ tp : Pos} {tkk : Nat} {ifs : List Expr} {scope : Scope} {cl : List (Str × Addr)} {Fin : Shared → List Value → Led → Prop} {l : Addr} {vs : List Value} {nl : Nat} {news : Led} (Ok : Nat → List Value → Prop) (hh : A.handled = none) (F : Fr h₀ L s.heap m) (N : News h₀ L s.heap news) (hl : (l, W.listOf vs.toArray nl) ∈ news) (hz : vs.length ≤ sizeLine) (ok0 : Ok 0 []) (len : ∀ i ys, Ok i ys → ys.length ≤ i)
    (step : ∀ gg i v t ys e oe it oi C oC D m₂ h tk (E' : Value → Shared → Prop), i < vs.length → vs[i]? = some v → Ok i ys → NsObj oC m₂ → m₂ x = some (.int i t) → m₂ x₂ = some v → Fr h₀ L h m → News h₀ L h ([(e, oe), (it, oi)] ++ (C, oC) :: (D, lst ys) :: news) →
      wpAny (model prog w) A (testsOf ifs (compEnvC scope cl C env)) (fun ok s₃ => if ok = true then wpAny (model prog w) A (eval elt (compEnvC scope cl C env)) (CompEl h₀ L m { s with heap := gg } ([(e, oe), (it, oi)] ++ (C, oC) :: (D, lst ys) :: news) (fun y => Ok (i + 1) (ys ++ [y]))) E' s₃
        else CompEl h₀ L m { s with heap := gg } ([(e, oe), (it, oi)] ++ (C, oC) :: (D, lst ys) :: news) (fun _ => Ok (i + 1) ys) .none s₃) E' { s with heap := h, toks := tk })
    (fin : ∀ gg ys, Ok vs.length ys → Fin { s with heap := gg } ys news) :
    wpAny (model prog w) A (call (.type "enumerate") [.ref l]) (fun xv s₁ => wpAny (model prog w) A (pyIter xv) (PairAt prog w A h₀ L m env elt x x₂ px px₂ tp tkk ifs scope cl Fin) E s₁) E s := by
  refine (let gk : Prop := _; (?_ : gk))
  obtain ⟨gl, nL, g0⟩ := N _ hl
  unfold gk
  clear gk
  have hls : s.heap.IsList l vs.toArray := ⟨_, gl, rfl, _, rfl⟩
  have hlt : l < s.heap.objs.size := Heap.lt_size gl
  refine call_enumerate_list hls fun h' he hit hz' hkeep => ?_
  refine wpAny_pyIter_enum he ?_
  have hLt : L < s.heap.objs.size := F.ns.lt
  have hei : s.heap.objs.size + 1 ≠ s.heap.objs.size := Nat.succ_ne_self _
  have D0 := Draws.list (prog := prog) (w := w) (A := A.in1) hh s.heap.objs.size l (Nat.ne_of_lt hlt) vs.toArray
  have hsz : vs.toArray.size = vs.length := by simp
  have hef : s.heap.objs.size + 1 ∉ [s.heap.objs.size, l] := fun hm => by
    rcases List.mem_cons.mp hm with e | hm
    · exact hei e
    · exact absurd (List.mem_singleton.mp hm) (Ne.symm (Nat.ne_of_lt (Nat.lt_succ_of_lt hlt)))
  have WT := WalksT.enumerateD D0 (s.heap.objs.size + 1) hei hef (.head _)
  have W := KTurns.ofWalksU (elts := [.Name x px, .Name x₂ px₂]) (k := tkk) (pos := tp) WT.toU
  refine ⟨_, _, _, _, _, _, _, (fun i v₁ v₂ => ∃ t, v₁ = .int i t ∧ vs[i]? = some v₂), Ok, news, rfl, ⟨W, fun s Q E st q => WT.self 0 s Q E st q, by rw [hsz]; exact hz, hh, ?_, ?_, ⟨⟨_, by simpa using he⟩, ⟨hit, hls.at fun o e => hkeep _ _ e⟩⟩, ?_, ?_, F.keeps hkeep, fun p hp => ⟨hkeep _ _ (N p hp).1, (N p hp).2⟩, ?_, ?_, ?_, ok0, fun i ys _ h => len i ys h, stepW ?_, fun ys _ o => fin _ ys (by rw [hsz] at o; exact o)⟩⟩
  · rintro i h ⟨⟨old, he⟩, ⟨o, ho, _⟩, _⟩
    exact ⟨[(_, _), (_, o)], rfl, List.forall_mem_cons.mpr ⟨he, List.forall_mem_cons.mpr ⟨ho, List.forall_mem_nil _⟩⟩⟩
  · rintro i v h ⟨T, vals, rfl, ⟨t, y, hy, rfl⟩, hT⟩
    exact ⟨T, _, _, rfl, hT, _, rfl, by simpa using hy⟩
  · intro b' hb
    show b' < h'.objs.size
    rw [hz']
    rcases List.mem_cons.mp hb with e | hb
    · rw [e]; exact Nat.lt_succ_self _
    · rcases List.mem_cons.mp hb with e | hb
      · rw [e]; exact Nat.lt_succ_of_lt (Nat.lt_succ_self _)
      · rw [List.mem_singleton.mp hb]; exact Nat.lt_succ_of_lt (Nat.lt_succ_of_lt hlt)
  · intro b' hb hw
    rcases List.mem_cons.mp hb with e | hb
    · exact absurd (by rw [e]; exact .head _) hw
    · rcases List.mem_cons.mp hb with e | hb
      · exact absurd (by rw [e]; exact .tail _ (.head _)) hw
      · rw [List.mem_singleton.mp hb]; exact .inr ⟨_, fun _ => hl⟩
  · intro b' hb
    rcases List.mem_cons.mp hb with e | hb
    · exact new_none F (by rw [e]; exact Nat.le_succ _)
    · exact new_none F (by rw [List.mem_singleton.mp hb]; exact Nat.le_refl _)
  · intro hm
    rcases List.mem_cons.mp hm with e | hm
    · rw [e] at hLt; exact absurd hLt (Nat.not_lt.mpr (Nat.le_succ _))
    · rw [List.mem_singleton.mp hm] at hLt; exact absurd hLt (Nat.lt_irrefl _)
  · intro p hp hI
    have := Heap.lt_size (N p hp).1
    rcases List.mem_cons.mp hI with e | hI
    · rw [e] at this; exact absurd this (Nat.not_lt.mpr (Nat.le_succ _))
    · rw [List.mem_singleton.mp hI] at this; exact absurd this (Nat.lt_irrefl _)
  · rintro i v₁ v₂ ys its C oC D m₂ h tk E' hlt ⟨t, rfl, hk⟩ hok hits hC hm1 hm2 F' N'
    obtain ⟨oe, oi, rfl⟩ := its_two' hits
    exact step _ i v₂ t ys _ oe _ oi C oC D m₂ h tk E' (by rw [hsz] at hlt; exact hlt) hk hok hC hm1 hm2 F' N'
end
end Mine
theorem Mine.words_P26a : True := by
  (k_with "eval ListComp" => (k_here; (with_reducible show wpAny _ _ (eval (Expr.ListComp _ [⟨Expr.Tuple [_, _] _ _, Expr.Call _ [_] _ _, _, _⟩] _ _) _) _ _ _); k_dflt (refine Mine.ListComp_E (F₀ := by k_asm) (by with_unfolding_all rfl) (by decide) (by rfl) (by decide) (by rfl) (by rfl) (by decide) ?_)))
  (k_with "exec Assign cons ListComp" => (k_here; (with_reducible show wpAny _ _ (exec (Stmt.Assign [Expr.Name (Str.ofString "signs") _] (Expr.ListComp _ [⟨Expr.Name _ _, Expr.Call _ [_] _ _, [], _⟩] _ _) _) _) _ _ _); k_dflt (refine Mine.Assign_ListComp_G (F₀ := by k_asm) (by rfl) (by with_unfolding_all rfl) (by with_unfolding_all rfl) (by decide) (by rfl) (by decide) (by rfl) (by rfl) (by rfl) ?_)))
  trivial
namespace Mine
open PySem.Calls PySem.Spec PySem.W PyProof.Rows

def lawGrp (gs : List Int) : List Int := if gs = [0, 0, 0, 0] then [122] else ((signs5 (sum256 (pad4 gs))).take (gs.length + 1)).map (33 + ·)
def lawB85 (ks : List Int) : Nat → List Int
  | 0 => []
  | i + 1 => lawB85 ks i ++ lawGrp ((ks.drop (4 * i)).take 4)
structure LB where
  fa : Addr
  vf : List Value
  fs : List Int
  nf : Nat
  ce : Obj

def termsOf (gs : List Int) : List Int := gs.zipIdx.map fun p => p.1 * 256 ^ ((3 : Int) - (p.2 : Int)).toNat
theorem gs_cases {gs : List Int} (h1 : 1 ≤ gs.length) (h4 : gs.length ≤ 4) : (∃ a, gs = [a]) ∨ (∃ a b, gs = [a, b]) ∨ (∃ a b c, gs = [a, b, c]) ∨ (∃ a b c d, gs = [a, b, c, d]) := by
  match gs, h1, h4 with
  | [a], _, _ => exact .inl ⟨a, rfl⟩
  | [a, b], _, _ => exact .inr (.inl ⟨a, b, rfl⟩)
  | [a, b, c], _, _ => exact .inr (.inr (.inl ⟨a, b, c, rfl⟩))
  | [a, b, c, d], _, _ => exact .inr (.inr (.inr ⟨a, b, c, d, rfl⟩))
theorem ints1 {vs : List Value} {a : Int} (h : IntsAre vs [a]) : ∃ t1, vs = [.int a t1] := by cases h with | cons _ t r => cases r; exact ⟨_, rfl⟩
theorem ints2 {vs : List Value} {a b : Int} (h : IntsAre vs [a, b]) : ∃ t1 t2, vs = [.int a t1, .int b t2] := by cases h with | cons _ t r => obtain ⟨t2, rfl⟩ := ints1 r; exact ⟨_, _, rfl⟩
theorem ints3 {vs : List Value} {a b c : Int} (h : IntsAre vs [a, b, c]) : ∃ t1 t2 t3, vs = [.int a t1, .int b t2, .int c t3] := by cases h with | cons _ t r => obtain ⟨t2, t3, rfl⟩ := ints2 r; exact ⟨_, _, _, rfl⟩
theorem ints4 {vs : List Value} {a b c d : Int} (h : IntsAre vs [a, b, c, d]) : ∃ t1 t2 t3 t4, vs = [.int a t1, .int b t2, .int c t3, .int d t4] := by cases h with | cons _ t r => obtain ⟨t2, t3, t4, rfl⟩ := ints3 r; exact ⟨_, _, _, _, rfl⟩

theorem sum_terms {gs : List Int} (h1 : 1 ≤ gs.length) (h4 : gs.length ≤ 4) : (termsOf gs).sum = sum256 (pad4 gs) := by
  rcases gs_cases h1 h4 with ⟨a, rfl⟩ | ⟨a, b, rfl⟩ | ⟨a, b, c, rfl⟩ | ⟨a, b, c, d, rfl⟩ <;>
    (simp [termsOf, sum256, pad4, List.zipIdx, List.replicate]; try omega)
theorem sum_bounds {gs : List Int} (h1 : 1 ≤ gs.length) (h4 : gs.length ≤ 4) (hin : KBa.In gs) : 0 ≤ (termsOf gs).sum ∧ (termsOf gs).sum < 4294967296 := by
  rw [sum_terms h1 h4]
  have h := foldB (B := 256) (by decide) (pad4 gs) 0 (Int.le_refl _) (pad4_in hin)
  rw [pad4_length h4] at h
  exact h
def sgnN (n : Int) (i : Nat) : Int := 33 + (n.fdiv ((85 : Int) ^ ((4 : Int) - (i : Int)).toNat)).fmod 85
theorem sgns_eq {n : Int} (_h0 : 0 ≤ n) (k : Nat) (hk : k ≤ 5) : (List.range k).map (sgnN n) = ((signs5 n).take k).map (33 + ·) := by
  have f : ∀ m : Int, m.fdiv (85 * 85) = (m.fdiv 85).fdiv 85 := fun m => fdd m (by decide) (by decide)
  have f3 : ∀ m : Int, m.fdiv (85 * 85 * 85) = ((m.fdiv 85).fdiv 85).fdiv 85 := fun m => (fdd m (by decide) (by decide)).trans (congrArg (·.fdiv 85) (f m))
  have p4 : n.fdiv ((85 : Int) ^ ((4 : Int) - ((0 : Nat) : Int)).toNat) = (((n.fdiv 85).fdiv 85).fdiv 85).fdiv 85 := by
    show n.fdiv (85 * 85 * 85 * 85) = _
    rw [fdd n (b := 85 * 85 * 85) (by decide) (by decide), f3 n]
  have p3 : n.fdiv ((85 : Int) ^ ((4 : Int) - ((1 : Nat) : Int)).toNat) = ((n.fdiv 85).fdiv 85).fdiv 85 := f3 n
  have p2 : n.fdiv ((85 : Int) ^ ((4 : Int) - ((2 : Nat) : Int)).toNat) = (n.fdiv 85).fdiv 85 := f n
  have p1 : n.fdiv ((85 : Int) ^ ((4 : Int) - ((3 : Nat) : Int)).toNat) = n.fdiv 85 := rfl
  have p0 : n.fdiv ((85 : Int) ^ ((4 : Int) - ((4 : Nat) : Int)).toNat) = n := Int.fdiv_one n
  have hall : (List.range 5).map (sgnN n) = (signs5 n).map (33 + ·) := by
    show [sgnN n 0, sgnN n 1, sgnN n 2, sgnN n 3, sgnN n 4] = _
    unfold sgnN signs5
    rw [p4, p3, p2, p1, p0]; rfl
  rw [List.map_take, ← hall, ← List.map_take, List.take_range, Nat.min_eq_left hk]

set_option maxHeartbeats 1000000 in
theorem lawb85_spec (w : World) (b : Array UInt8) (tb : Tok) (hb : b.size ≤ 20) :
    CSpec w 161 20 [.bytes b tb] [] [] (fun r nw => ∃ l vs n, r = .ref l ∧ nw = [(l, W.listOf vs.toArray n)] ∧ IntsAre vs (lawB85 (KBw.bInts b) ((b.size + 3) / 4) ++ [126, 62])) := by
  have hkl : (KBw.bInts b).length = b.size := KBw.ints_length b
  obtain ⟨ks, hks⟩ : ∃ ks, KBw.bInts b = ks := ⟨_, rfl⟩
  rw [hks] at hkl ⊢
  refine' CSpec.of_bodyC [(Str.ofString "octets", .bytes b tb)] ?ho ?hcd ?hb ?hl ?hc ?h1 ?h2 ?h3 ?_
  walk_at "mine bodyC"
  intro dp un gd cn cs L a ccd cl outer base g L' h₁ s tk cells p loose mean mg mb hd9 hu B F N YC hca X T lt hrd
  have kM := kstMark
  obtain ⟨c1, hco, hd1⟩ := CellsAre.one YC
  subst hco
  simp only [List.cons_append, List.nil_append] at N
  replace hd1 : c1.data = Data.cell none := hd1
  clear YC
  replace hca := (hca _ (.head _) : @LT.lt Nat _ L' (L' + 1))
  walk_at "mine go"
  k_steps
  rename IsRange _ _ _ _ _ _ _ _ => R1
  (rename Fr _ _ _ _ => F1)
  (rename News _ _ _ _ => N1)
  obtain ⟨n9, hn9⟩ : ∃ n9 : Nat, n9 = (ks.length + 3) / 4 := ⟨_, rfl⟩
  have hrs := range4_size (ks.length)
  rw [← hn9] at hrs
  have hsm := range4_small (n := ks.length) (by omega)
  have hn9b : n9 ≤ 6 := by omega
  have hn9c : ∀ i, i < n9 → 4 * i < ks.length := fun i h => by omega
  refine turns_range (σ := LB) (n := n9) (fun c => [(c.fa, W.listOf c.vf.toArray c.nf), (L' + 1, c.ce)]) (fun c => [(Str.ofString "found", .ref c.fa)]) [Str.ofString "at", Str.ofString "group", Str.ofString "signs"]
    (fun i c => @LT.lt Nat _ (L' + 1) c.fa ∧ IntsAre c.vf c.fs ∧ c.fs = lawB85 ks i ∧ c.fs.length ≤ 5 * i ∧ ∃ v, c.ce.data = Data.cell v) ⟨_, [], [], 0, _⟩ rfl R1 hsm hrs F1 N1 (by kst_all) ⟨by assumption, .nil, rfl, Nat.le_refl _, _, hd1⟩ ?_ ?_
  · clear F1 N1
    rintro i t ⟨fa, vf, fs, nf, ce⟩ u h tk I o hlt hP9 ho hoff hlt2 F1 N1
    walk_at "mine shut"
    obtain ⟨hla, hf1, hf2, hf3, cv, hce⟩ := hP9
    walk_at "mine open"
    dsimp only at hla hf1 hf2 hf3 hce F1 N1
    replace hlt2 := allLt_of hlt2
    simp only [AllLt, and_true] at hlt2
    simp only [List.map_cons, List.map_nil] at hoff
    simp only [List.cons_append, List.nil_append] at N1
    have hl := hf1.length
    obtain ⟨at', hat⟩ : ∃ at' : Int, at' = 0 + (i : Int) * 4 := ⟨_, rfl⟩
    rw [← hat]
    have hb1 : 0 ≤ at' := by omega
    have hb2 : at' < ks.length := by have := hn9c i hlt; omega
    have hcut : List.take (clipAt ks.length (at' + 4) - clipAt ks.length at') (List.drop (clipAt ks.length at') ks) = (ks.drop (4 * i)).take 4 := cut4 (by have := hn9c i hlt; omega) hat
    have hg9 : 1 ≤ ((ks.drop (4 * i)).take 4).length ∧ ((ks.drop (4 * i)).take 4).length ≤ 4 := by
      have := hn9c i hlt
      rw [List.length_take, List.length_drop]; omega
    have hgin : KBa.In ((ks.drop (4 * i)).take 4) := fun n hn => KBw.ints_in (hks ▸ List.mem_of_mem_drop (List.mem_of_mem_take hn))
    have hln : fs.length ≤ 5 * 6 := by omega
    clear hat hn9c hrs hsm hn9 R1
    have st9 := StopHere.i
    k_steps
    refine Lock.into ?_
    rename IntsAre _ (List.take _ (List.drop _ ks)) => hI1
    (rename News _ _ _ _ => N2)
    rw [hcut] at hI1
    clear hcut
    generalize hgs : (ks.drop (4 * i)).take 4 = gs at hI1 hg9 hgin
    obtain ⟨hg1, hg4⟩ := hg9
    have hgl := hI1.length
    k_steps
    (rename Fr _ _ _ _ => F3)
    (rename News _ _ _ _ => N3)
    refine pair_list (fun i ys => IntsAre ys (termsOf (gs.take i)) ∧ ys.length ≤ i) rfl F3 N3 (.head _) (by rw [sizeLine_eq]; omega) ⟨.nil, Nat.le_refl _⟩ (fun _ _ o => o.2) ?_ ?_
    · rintro gg i2 v t2 ys e oe it oi C oC D2 m₂ h tk E' hlt2 hv ⟨hys, hyl⟩ hC hm1 hm2 F4 N4
      obtain ⟨k, t3, hk, rfl⟩ := ints_at hI1 hv
      have hi3 : (0 : Int) ≤ 3 - (i2 : Int) := by omega
      have hi4 : (3 : Int) - (i2 : Int) ≤ 3 := by omega
      clear F3 N3
      refine wpAny_tests_nil ?_
      rw [if_pos rfl]
      try dsimp only
      have hkb : 0 ≤ k ∧ k < 256 := hgin _ (List.mem_of_getElem? hk)
      have hpe : (256 : Int) ^ ((3 : Int) - (i2 : Int)).toNat = 16777216 ∨ (256 : Int) ^ ((3 : Int) - (i2 : Int)).toNat = 65536 ∨ (256 : Int) ^ ((3 : Int) - (i2 : Int)).toNat = 256 ∨ (256 : Int) ^ ((3 : Int) - (i2 : Int)).toNat = 1 := by
        have : i2 = 0 ∨ i2 = 1 ∨ i2 = 2 ∨ i2 = 3 := by omega
        rcases this with rfl | rfl | rfl | rfl
        · exact .inl rfl
        · exact .inr (.inl rfl)
        · exact .inr (.inr (.inl rfl))
        · exact .inr (.inr (.inr rfl))
      k_steps
      generalize hpw : (256 : Int) ^ ((3 : Int) - (i2 : Int)).toNat = pw at hpe ⊢
      try dsimp only
      have hmb : 0 ≤ k * pw ∧ k * pw < 4294967296 := by rcases hpe with rfl | rfl | rfl | rfl <;> omega
      k_steps
      refine ⟨_, _, _, rfl, by k_asm, by k_asm, fun _ hp => hp, ?_, ?_⟩
      · rw [take_succ_of hk, termsOf, List.zipIdx_append, List.map_append]
        have hlt3 : i2 < gs.length := (List.getElem?_eq_some_iff.mp hk).1
        refine IntsAre.append hys ?_
        rw [show (0 : Nat) + (gs.take i2).length = i2 by rw [List.length_take]; omega]
        show IntsAre _ [k * 256 ^ ((3 : Int) - (i2 : Int)).toNat]
        rw [hpw]
        exact .cons _ _ .nil
      · rw [List.length_append]; exact Nat.add_le_add_right hyl 1
    · rintro gg ys ⟨hys, hyl⟩
      intro D2 h9 tk9 F4 N4 off2
      clear F3 N3
      rw [hgl, List.take_length] at hys
      try dsimp only
      have off3 := off2
      simp only [LCg.Off1, and_true] at off3
      k_steps
      rename IsRange _ _ _ _ _ _ _ _ => hr5
      (rename Fr _ _ _ _ => F5)
      (rename News _ _ _ _ => N5)
      obtain ⟨hsb0, hsb1⟩ := sum_bounds hg1 hg4 hgin
      generalize hnum : (termsOf gs).sum = num at *
      refine comp_range rfl F5 N5 hr5 (range1_small (n := gs.length + 1) (by omega) (by omega) (by omega)) (range1_size (n := gs.length + 1) (by omega)) (by rw [sizeLine_eq]; omega) ?_
      intro gg2
      try dsimp only
      refine comp_rest (fun i ys => IntsAre ys ((List.range i).map (sgnN num))) .nil trivial ?_ ?_
      · rintro i v ys2 I2 oI2 C2 oC2 D3 m₃ h3 tk3 E3 hlt3 ⟨t6, rfl⟩ hys2 hC3 hm3 F6 N6 off6 ne6
        rw [show (0 + (i : Int) * 1) = (i : Int) by omega] at hm3
        clear F5 N5 hr5
        have hi4 : (0 : Int) ≤ 4 - (i : Int) := by omega
        have hi5 : (4 : Int) - (i : Int) ≤ 4 := by omega
        try dsimp only
        have hpe : (85 : Int) ^ ((4 : Int) - (i : Int)).toNat = 52200625 ∨ (85 : Int) ^ ((4 : Int) - (i : Int)).toNat = 614125 ∨ (85 : Int) ^ ((4 : Int) - (i : Int)).toNat = 7225 ∨ (85 : Int) ^ ((4 : Int) - (i : Int)).toNat = 85 ∨ (85 : Int) ^ ((4 : Int) - (i : Int)).toNat = 1 := by
          have : i = 0 ∨ i = 1 ∨ i = 2 ∨ i = 3 ∨ i = 4 := by omega
          rcases this with rfl | rfl | rfl | rfl | rfl
          · exact .inl rfl
          · exact .inr (.inl rfl)
          · exact .inr (.inr (.inl rfl))
          · exact .inr (.inr (.inr (.inl rfl)))
          · exact .inr (.inr (.inr (.inr rfl)))
        k_steps
        generalize hpw : (85 : Int) ^ ((4 : Int) - (i : Int)).toNat = pw at hpe ⊢
        try dsimp only
        have hpb : 1 ≤ pw ∧ pw ≤ 52200625 := by rcases hpe with rfl | rfl | rfl | rfl | rfl <;> omega
        have hmb : 0 ≤ (num.fdiv pw).fmod 85 ∧ (num.fdiv pw).fmod 85 < 85 := fmod_in (by decide)
        clear hpe
        k_steps
        refine ⟨_, _, _, rfl, by k_asm, by k_asm, fun _ hp => hp, ?_⟩
        rw [List.range_succ, List.map_append]
        refine IntsAre.append hys2 ?_
        show IntsAre _ [sgnN num i]
        unfold sgnN
        rw [hpw]
        exact .cons _ _ .nil
      · intro ys2 hys2
        intro D3 h9 tk9 F6 N6 off6
        clear F5 N5 hr5
        have hyl2 := hys2.length
        rw [List.length_map, List.length_range] at hyl2
        have hyl3 : (List.map (sgnN num) (List.range (gs.length + 1))).length = gs.length + 1 := by rw [List.length_map, List.length_range]
        generalize hsg : List.map (sgnN num) (List.range (gs.length + 1)) = sg at hys2 hyl3
        replace N6 : News g L' h9 ((D3, W.listOf ys2.toArray ys2.length) :: _) := N6
        have off7 := off6
        simp only [LCg.Off1, and_true] at off7
        try dsimp only
        k_steps
        · rename gs = [0, 0, 0, 0] => hz
          rename IntsAre _ (fs ++ [122]) => hI8
          (rename News _ _ _ _ => NN)
          rename (@LT.lt Nat _ _ _) ∧ (@LT.lt Nat _ _ _) ∧ (@LT.lt Nat _ _ _) ∧ (@LT.lt Nat _ _ _) ∧ (@LT.lt Nat _ _ _) ∧ (@LT.lt Nat _ _ _) ∧ (@LT.lt Nat _ _ _) ∧ (@LT.lt Nat _ _ _) => hl9
          have hoff9 := ownOff_cons (List.forall_mem_cons.mpr ⟨hl9.2.2.2.2.2.2.2, List.forall_mem_nil _⟩) hoff
          exact turnEnd ⟨_, _, _, _, _⟩ (by assumption) NN (by kst_inAny) (by kst_anyIn) (by walk_at "mine off") (by kst_all) (by walk_at "mine same")
            ⟨hl9.2.2.2.2.2.2.1, hI8, by rw [hf2, lawB85, hgs, lawGrp, if_pos hz], by dsimp only; rw [List.length_append, List.length_singleton]; omega, _, by assumption⟩
        · rename ¬ gs = [0, 0, 0, 0] => hz
          rename IntsAre _ (fs ++ sg) => hI8
          (rename News _ _ _ _ => NN)
          rename (@LT.lt Nat _ _ _) ∧ (@LT.lt Nat _ _ _) ∧ (@LT.lt Nat _ _ _) ∧ (@LT.lt Nat _ _ _) ∧ (@LT.lt Nat _ _ _) ∧ (@LT.lt Nat _ _ _) ∧ (@LT.lt Nat _ _ _) => hl9
          have hoff9 := ownOff_cons (List.forall_mem_cons.mpr ⟨hl9.2.2.2.2.2.2, List.forall_mem_nil _⟩) hoff
          exact turnEnd ⟨_, _, _, _, _⟩ (by assumption) NN (by kst_inAny) (by kst_anyIn) (by walk_at "mine off") (by kst_all) (by walk_at "mine same")
            ⟨hl9.2.2.2.2.2.1, hI8, by rw [hf2, lawB85, hgs, lawGrp, if_neg hz, ← hsg, sgns_eq hsb0 _ (by omega), ← hnum, sum_terms hg1 hg4], by dsimp only; rw [List.length_append]; omega, _, by assumption⟩
  · clear F1 N1
    rintro ⟨fa, vf, fs, nf, ce⟩ u h tk hP9 F1 N1
    walk_at "mine shut"
    obtain ⟨hla, hf1, hf2, hf3, cv, hce⟩ := hP9
    walk_at "mine open"
    dsimp only at hla hf1 hf2 hf3 hce F1 N1
    have hl := hf1.length
    have hln : fs.length ≤ 30 := by omega
    have hf4 : fs = lawB85 ks ((b.size + 3) / 4) := by rw [hf2, hn9, hkl]
    clear hn9 hf2
    k_steps
    rename IntsAre _ (fs ++ [126, 62]) => hI9
    exact Back.intro [_] (by k_asm) (by k_asm) (List.forall_mem_cons.mpr ⟨.head _, List.forall_mem_nil _⟩) ⟨_, _, _, rfl, rfl, by rw [← hf4]; exact hI9⟩
end Mine
namespace Mine
open PySem.Calls PySem.Spec PySem.W PyProof.Rows

theorem find_fw_all : ∀ k : Fin 256, Txt.find (PySem.Str.ofString "0123456789abcdef") (Txt.lower ⟨#[k.val]⟩) = figureWorth (k.val : Int) := by decide +kernel
theorem lower_len_all : ∀ k : Fin 256, (Txt.lower ⟨#[k.val]⟩).length = 1 := by decide +kernel
theorem find_fw {k : Int} (h0 : 0 ≤ k) (h1 : k < 256) : Txt.find (PySem.Str.ofString "0123456789abcdef") (Txt.lower ⟨#[k.toNat]⟩) = figureWorth k := by
  have := find_fw_all ⟨k.toNat, by omega⟩
  rw [this]
  show figureWorth ((k.toNat : Nat) : Int) = _
  rw [Int.toNat_of_nonneg h0]
theorem lower_len {k : Int} (h0 : 0 ≤ k) (h1 : k < 256) : (Txt.lower ⟨#[k.toNat]⟩).length = 1 := lower_len_all ⟨k.toNat, by omega⟩

def faultTup (k : Int) (u v : Tok) : Obj := { cls := .type "tuple", data := .seq #[.str (PySem.Str.ofString "fault") u, .int k v] }
end Mine
theorem Mine.words_P26b : True := by
  (k_with "storeName" => (k_here; (with_reducible show wpAny _ _ (storeName _ (Str.ofString "place") (Value.int (Txt.find _ _) _)) _ _ _); rw [Mine.find_fw (by assumption) (by assumption)]))
  trivial
namespace Mine
open PySem.Calls PySem.Spec PySem.W PyProof.Rows

def cutAt (h : Heap) (n : Nat) : Heap := { h with objs := h.objs.extract 0 n }
theorem cut_get {h : Heap} {n b : Nat} {o : Obj} : (cutAt h n).get? b = some o ↔ h.get? b = some o ∧ b < n := by
  rw [Heap.get?_some_iff, Heap.get?_some_iff]
  show (h.objs.extract 0 n)[b]? = some o ∧ _ ↔ _
  rw [Array.getElem?_extract]
  by_cases hb : b < n
  · by_cases hs : b < h.objs.size
    · rw [if_pos (by omega), Nat.zero_add]; simp [hb]
    · rw [if_neg (by omega), Array.getElem?_eq_none (by omega)]; simp
  · rw [if_neg (by omega)]; simp [hb]
theorem cut_size (h : Heap) (n : Nat) : (cutAt h n).objs.size ≤ n := by
  show (h.objs.extract 0 n).size ≤ n
  rw [Array.size_extract]; omega
theorem funFrames_sub {base g g' : Heap} : ∀ {l : List Env}, g.FunFrames base l → (∀ b ∈ frs l, ∀ o, g.get? b = some o → (∀ vs, o.data ≠ .fields vs) → ∃ o', g'.get? b = some o' ∧ o'.data = o.data) → g'.FunFrames base l
  | [], _, _ => trivial
  | env :: r, ⟨hk, ⟨L, o, hf, hn, ho, hdd⟩, hr⟩, k => by
    refine (let gk : Prop := _; (?_ : gk))
    obtain ⟨o', ho', hd'⟩ := k L (List.mem_filterMap.mpr ⟨env, .head _, hf⟩) o ho hdd
    unfold gk
    clear gk
    exact ⟨hk, ⟨L, o', hf, hn, ho', fun vs => hd' ▸ hdd vs⟩, funFrames_sub hr fun b hb => k b (by
      refine (let gk : Prop := _; (?_ : gk))
      obtain ⟨e9, h9, h8⟩ := List.mem_filterMap.mp hb
      unfold gk
      clear gk
      exact List.mem_filterMap.mpr ⟨e9, .tail _ h9, h8⟩)⟩

/-- what the catching frame stands on behind a catch -/
def After (h₀ g g₆ : Heap) (outer : List Env) : Prop := h₀.StaysIn g₆ ∧ ∀ LL ∈ frs outer, ∀ mm, g.Ns LL mm → g₆.Ns LL mm

/-- a def that hears a FilterFault, called where the base is the ground -/
def HSpec (w : World) (f : Addr) (dn : Nat) (vs : List Value) (rd : Led) (post : Value → Led → Prop) (epost : Int → Prop) : Prop :=
  ∀ (dp un : Nat) (gd : Option (List Code)) (cn : Str) (cs : Scope) (a : Addr) (ccd : Value) (cl : List (Str × Addr)) (outer : List Env) (A₀ : Around) (h₀ : Heap) (L : Addr) (m : Str → Option Value) (s : Shared) (Q E : Value → Shared → Prop)
    (p : Program) (loose : List Str) (mean : ExcName → Option Value) (mg mb : Str → Option Value) (news : Led),
    Below A₀ h₀ outer h₀ → Fr h₀ L s.heap m → (hd.heap_1 w.params).In h₀ → News h₀ L s.heap news → Top p loose mean mg mb h₀ → cs.kind = .function →
    dp + dn < recursionLimit → un + 8 * dn < cLine → (∀ p ∈ rd, p ∈ news) →
    (∀ (r : Value) (n' : Led) (h' : Heap) (tk' : Nat), Fr h₀ L h' m → News h₀ L h' (n' ++ news) → (∀ p ∈ n', AllNe p.1 news) → (post r n' ∨ ∃ k T u v, epost k ∧ r = .ref T ∧ n' = [(T, faultTup k u v)]) → Q r { s with heap := h', toks := tk' }) →
      wpAny (model PySem.Challenge.rw_nn0196_01.row.prog w) (ktrTop dp un gd cn cs L a ccd cl outer) (call (.ref f) vs) Q E s

def BackH (s : Shared) (h₀ g : Heap) (outer : List Env) (xs : Led) (post : Value → Led → Prop) (epost : Int → Prop) (v : Value) (s' : Shared) : Prop :=
  Back s g (fun r nw => post r nw) v s' ∨ ∃ g₆, After h₀ g g₆ outer ∧ Back s g₆ (fun r nw => ∃ k T u v, epost k ∧ r = .ref T ∧ nw = (T, faultTup k u v) :: xs ∧ AllNe T xs) v s'

theorem HSpec.of_body {w : World} {f : Addr} {dn : Nat} {vs : List Value} {rd : Led} {post : Value → Led → Prop} {epost : Int → Prop} (binds : List (Str × Value))
    {name qual : Str} {params : Arguments} {body : List Stmt} {scope : Scope} {dV kV doc pm cdv ct oc : Value} {an od : Option Addr} {osl : Array (Option Value)}
    (ho : (hd.heap_1 w.params).lookup f = some ⟨oc, od, .func (fnOf name qual params body scope dV kV doc pm an cdv ct), osl⟩) (hcd : codeIn (hd.heap_1 w.params) cdv qual = true)
    (hbind : ∀ s : Shared, (hd.heap_1 w.params).In s.heap → BindsTo s (fnOf name qual params body scope dV kV doc pm an cdv ct) ⟨vs, []⟩ binds) (hloc : ∀ y ∈ binds, scope.names.lookup y.1 = some .local)
    (hcell : ∀ x ∈ scope.names, x.2 ≠ .cell) (hco : scope.isCoroutine = false) (hgen : scope.isGenerator = false) (hk : scope.kind = .function)
    (h : ∀ (dp un : Nat) (gd : Option (List Code)) (cn : Str) (cs : Scope) (L a : Addr) (ccd : Value) (cl : List (Str × Addr)) (outer : List Env) (h₀ g : Heap) (L' : Addr) (h₁ : Heap) (s : Shared) (tk : Nat)
      (p : Program) (loose : List Str) (mean : ExcName → Option Value) (mg mb : Str → Option Value) (xs : Led), dp + dn < recursionLimit → un + 8 * dn < cLine → cs.kind = .function →
      Below (ktrTop dp un gd cn cs L a ccd cl outer) h₀ (envX cn cs L a ccd cl :: outer) g → Fr g L' h₁ (fun y => binds.reverse.lookup y) → (hd.heap_1 w.params).In h₀ → (hd.heap_1 w.params).In g → Top p loose mean mg mb h₀ → Top p loose mean mg mb g → (∀ p ∈ rd, g.get? p.1 = some p.2) → XOK h₀ (envX cn cs L a ccd cl :: outer) g xs → h₀.objs.size ≤ L' →
      wpAny (model PySem.Challenge.rw_nn0196_01.row.prog w) ((ktrTop dp un gd cn cs L a ccd cl outer).deeper (envOf qual scope L' f cdv)) (execs body (envOf qual scope L' f cdv))
        (fun fl s' => BackH s h₀ g (envX cn cs L a ccd cl :: outer) xs post epost (match fl with | .ret v => v | _ => .none) s')
        (fun _ _ => False) { s with heap := h₁, toks := tk })
    (hdn : 0 < dn := by decide) : HSpec w f dn vs rd post epost := by
  intro dp un gd cn cs a ccd cl outer A₀ h₀ L m s Q E p loose mean mg mb news B F X N T hck hdp hu hrd hret
  refine wpAny_call ?_
  refine (let gk : Prop := _; (?_ : gk))
  obtain ⟨FG, BG, st, _⟩ := groundX (R := fun _ _ => True) (news := []) (A := ktrTop dp un gd cn cs L a ccd cl outer) (env := envX cn cs L a ccd cl) B F (fun _ h => nomatch h) rfl rfl hck
  unfold gk
  clear gk
  have Xs : (hd.heap_1 w.params).In s.heap := X.keeps F.keep
  refine codeAny_call_def (fd := fnOf name qual params body scope dV kV doc pm an cdv ct) (body := body) (binds := binds) (by show dp < recursionLimit; omega) (Xs _ _ ho) rfl (T.nolimit.keeps F.keep) (codeRec_of Xs hcd) rfl (hbind s Xs) hcell hloc (fun h₁ hns hk₁ => ?_) hco hgen hk
  have kg : ∀ b o, s.heap.get? b = some o → (hideAll s.heap (([] : Led).map (·.1))).get? b = some o := fun b o e => hideAll_get _ e (fun h => nomatch h)
  have fr0 : ∀ b ∈ frs outer, False := fun b hb => by
    refine (let gk : Prop := _; (?_ : gk))
    obtain ⟨e1, o, e2, _⟩ := B.frames.mem hb
    unfold gk
    clear gk
    rw [e2] at e1; cases e1
  have hxg : XOK h₀ (envX cn cs L a ccd cl :: outer) (hideAll s.heap (([] : Led).map (·.1))) news := fun q hq => ⟨kg _ _ (N q hq).1, (N q hq).2.2, fun hm => by
    rcases List.mem_cons.mp (show q.1 ∈ L :: frs outer from hm) with e | hm
    · exact (N q hq).2.1 e
    · exact fr0 _ hm⟩
  refine (let gk : Prop := _; (?_ : gk))
  obtain ⟨oL, es, ep, hL, hLd, hLk, hLf⟩ := FG.ns
  unfold gk
  clear gk
  have hLs : @LT.lt Nat _ L s.heap.objs.size := Heap.lt_size (of_hideAll _ hL)
  have B' := h dp un gd cn cs L a ccd cl outer h₀ _ s.heap.objs.size h₁ s (s.toks + binds.length) p loose mean mg mb news hdp hu hck BG ⟨hns, fun b o e => hk₁ b o (of_hideAll _ e), Nat.le_of_eq (hideAll_size _ _)⟩
    X (X.keeps st) T (T.keeps st) (fun p hp => kg _ _ (N p (hrd p hp)).1) hxg (Nat.le_trans F.above (Nat.le_of_lt hLs))
  refine wpAny_mono B' (fun fl s' hB => ?_) (fun _ _ x => x.elim)
  rcases hB with hB | ⟨g₆, ⟨st6, ns6⟩, hB⟩
  · obtain ⟨L'', m'', news', h', tk', rfl, F'', N'', hp⟩ := hB
    have gk : ∀ b o, s.heap.get? b = some o → h'.get? b = some o := fun b o e => F''.keep b o (kg _ _ e)
    have nn : ∀ p ∈ news', s.heap.get? p.1 = none := fun p hp' => by
      cases q : s.heap.get? p.1 with
      | none => rfl
      | some o => have := (N'' p hp').2.2; rw [kg _ _ q] at this; cases this
    refine hret _ news' h' tk' ⟨⟨oL, es, ep, F''.keep _ _ hL, hLd, hLk, hLf⟩, fun b o e => F''.keep _ _ (FG.keep _ _ e), F.above⟩ (fun p hp' => ?_) (fun q hq => allNe_of fun q' hq' e => ?_) (.inl hp)
    · rcases List.mem_append.mp hp' with hp' | hp'
      · refine ⟨(N'' p hp').1, fun e => ?_, ?_⟩
        · have := nn p hp'; rw [e, of_hideAll _ hL] at this; cases this
        · cases q : h₀.get? p.1 with
          | none => rfl
          | some o => have := nn p hp'; rw [F.keep _ _ q] at this; cases this
      · exact ⟨gk _ _ (N p hp').1, (N p hp').2⟩
    · have := nn q hq; rw [← e, (N q' hq').1] at this; cases this
  · obtain ⟨L'', m'', news', h', tk', rfl, F'', N'', k, T', u, v, hep, hr, rfl, hne⟩ := hB
    refine (let gk : Prop := _; (?_ : gk))
    obtain ⟨oL6, es6, ep6, hL6, hLd6, hLk6, hLf6⟩ := ns6 L (.head _) _ FG.ns
    unfold gk
    clear gk
    refine hret _ [(T', faultTup k u v)] h' tk' ⟨⟨oL6, es6, ep6, F''.keep _ _ hL6, hLd6, hLk6, hLf6⟩, fun b o e => F''.keep _ _ (st6 _ _ e), F.above⟩ (fun p hp' => ⟨(N'' p hp').1, fun e => ?_, ?_⟩) (fun q hq => by rw [List.mem_singleton.mp hq]; exact hne) (.inr ⟨k, T', u, v, hep, hr, rfl⟩)
    · have := (N'' p hp').2.2; rw [e, hL6] at this; cases this
    · cases q : h₀.get? p.1 with
      | none => rfl
      | some o => have := (N'' p hp').2.2; rw [st6 _ _ q] at this; cases this

section
variable {prog : Program} {w : World} {A₀ : Around} {E : Value → Shared → Prop} {s' : Shared} {h₀ g h : Heap} {outer : List Env} {L a e : Addr} {m : Str → Option Value} {name : Str} {scope : Scope} {cd : Value}
  {n : Str} {b₀ : Stmt} {suite : List Stmt} {pos np : Pos} {rest : List ExceptHandler} {Q : Flow → Shared → Prop} {xs : Led} {bmB : List Value} {newId : String}
  {p : Program} {loose : List Str} {mg mb : Str → Option Value} {x : Str} {kk : Int}

theorem caught_F (K : Below A₀ h₀ outer g) (F : Fr g L h m) (hsm : h.UpToSlots s'.heap) (R : Fault h₀ (envOf name scope L a cd :: outer) e kk xs s'.heap) (hsz : h₀.objs.size ≤ L)
    (X : (hd.heap_1 w.params).In h₀) (T : TopRead p loose mg mb h₀) (ex : nsIn (hd.heap_1 w.params) mainGlobals x = some (some (.ref 67))) (q : excIn (hd.heap_1 w.params) 67 bmB newId = true) (hbase : bmB.contains (.type "BaseException") = true)
    (k : ∀ h' g₆ tk dx es dn oe k3, Below A₀ h₀ outer g₆ → After h₀ g g₆ outer → Fr g₆ L h' (fun y => if y = n then some (.ref e) else m y) → News g₆ L h' ((dx, dictOf es dn) :: (e, oe) :: xs) → oe.cls = .ref 67 → oe.dict = some dx → (∃ vs, oe.data = .fields vs) → getL "at" es = some (some (.int kk k3)) →
      wpAny (model prog w) ((A₀.deeper (envOf name scope L a cd)).mark (some (.ref e))) (execs (b₀ :: suite) (envOf name scope L a cd))
        (fun f s₄ => wpAny (model prog w) (A₀.deeper (envOf name scope L a cd)) (do bindName (envOf name scope L a cd) n .none; unbindBehindTheSuite (envOf name scope L a cd) n pos) (fun _ s₅ => Q f s₅) E s₄)
        (AsSuiteRaised (model prog w) ((A₀.deeper (envOf name scope L a cd)).mark (some (.ref e))) (envOf name scope L a cd) n pos (notedBy (model prog w) ((A₀.deeper (envOf name scope L a cd)).mark (some (.ref e))) (envOf name scope L a cd) (cameBackBy (model prog w) (A₀.deeper (envOf name scope L a cd)) (envOf name scope L a cd) E)))
        { s' with heap := h', toks := tk })
    (hk : scope.kind = .function := by rfl) (hlo : (envOf name scope L a cd).kindOf n = some .local := by rfl) (hx : (envOf name scope L a cd).kindOf x = some .globalImplicit := by rfl) (hdd : (x == ("__debug__" : Str)) = false := by decide) :
    wpAny (model prog w) (A₀.deeper (envOf name scope L a cd)) (noteFrame (.ref e) (envOf name scope L a cd))
      (fun _ s₂ => wpAny (model prog w) (A₀.deeper (envOf name scope L a cd)) (setFlight (.ref e) none) (fun _ s₃ =>
        wpAny (model prog w) (A₀.deeper (envOf name scope L a cd)) (handleBy (.ref e) (envOf name scope L a cd) (.ExceptHandler (some (.Name x np)) (some n) (b₀ :: suite) pos :: rest)) Q E s₃) E s₂) E s' := by
  refine (let gk : Prop := _; (?_ : gk))
  obtain ⟨t, vs, dx, es, dn, tk3, ⟨⟨B, hB, hl, hfl, hnew⟩, htup⟩, ⟨oe0, he0, hd0⟩, hat⟩ := R
  unfold gk
  clear gk
  have K' := K.push (name := name) (scope := scope) (a := a) (cd := cd) F hk
  refine wpAny_mono (Still.any (still_note _ _) (wpAny_looks_onW (E := E) (Q := fun _ s'' => ∃ h', s'' = { s' with heap := h' } ∧ Heap.HeldW B (envOf name scope L a cd :: outer) e (.ref 67) (.ref t) L h' ∧ s'.heap.UpToSlots h') (Around.frames_deeper K.stack) rfl hfl fun h' x1 x2 => ⟨h', rfl, x1, x2⟩)) (fun _ s4 hx4 => ?_) (fun _ _ x => x.1)
  obtain ⟨⟨h₄, rfl, hheld₄, hsm₄⟩, dk4⟩ := hx4
  refine wpAny_mono (Still.any (still_setFlight _ _) (wpAny_landsW (E := E) (Q := fun _ s'' => ∃ h', s'' = { s' with heap := h' } ∧ Heap.FlyingW B (envOf name scope L a cd :: outer) e (.ref 67) (.ref t) h' ∧ h₄.UpToSlots h') hheld₄ fun h' x1 x2 => ⟨h', rfl, x1, x2⟩)) (fun _ s5 hx5 => ?_) (fun _ _ x => x.1)
  obtain ⟨⟨h₅, rfl, hheld, hsm₅'⟩, dk5⟩ := hx5
  have hsm₅ := hsm₄.trans hsm₅'
  have hheld' := flyingW_base hB hheld
  have F₅ : Fr h₀ L h₅ m := ⟨(hsm.trans hsm₅).ns F.ns, hheld'.1, hsz⟩
  refine (let gk : Prop := _; (?_ : gk))
  obtain ⟨ob, hob, hobc⟩ := hheld'.there
  unfold gk
  clear gk
  refine wpAny_handleBy_cons (codeAny_handlers_test (name_K F₅ X T ex ?_ hk hx hdd)) (by intro q; cases q)
  refine (let gk : Prop := _; (?_ : gk))
  obtain ⟨bm, N, nm, qn, bs, hdct, sn, sub, ab, col, dd, k0, k1, k2, k3, k5, mN, hC, hN, hni, TL⟩ := ((own_of_in X T ex q).keeps F₅.keep).obj
  unfold gk
  clear gk
  refine wpAny_excMatches_sub_self hC hob hobc (TL.hasType hbase) (codeAny_handlers_suite_as ?_)
  refine wpAny_mono (Still.any (still_setFlight _ _) (lands_againW (E := fun _ _ => False) (Q := fun _ s'' => ∃ h', s'' = { s' with heap := h' } ∧ Heap.FlyingW B (envOf name scope L a cd :: outer) e (.ref 67) (.ref t) h' ∧ h₅.UpToSlots h') hheld fun h' x1 x2 => ⟨h', rfl, x1, x2⟩)) (fun _ s6 hx6 => ?_) (fun _ _ x => x.1.elim)
  obtain ⟨⟨h₆, rfl, hfl₆, hsm₆⟩, dk6⟩ := hx6
  have hfl₆' := flyingW_base hB hfl₆
  refine (let gk : Prop := _; (?_ : gk))
  obtain ⟨oe4, he4, hd4⟩ := dk4 e oe0 he0
  unfold gk
  clear gk
  refine (let gk : Prop := _; (?_ : gk))
  obtain ⟨oe5, he5, hd5⟩ := dk5 e oe4 he4
  unfold gk
  clear gk
  refine (let gk : Prop := _; (?_ : gk))
  obtain ⟨oe6, he6, hd6⟩ := dk6 e oe5 he5
  unfold gk
  clear gk
  refine (let gk : Prop := _; (?_ : gk))
  obtain ⟨oe, ws, hoe, hoec, hoed, hoe0⟩ := hfl₆'.first
  unfold gk
  clear gk
  have hoed6 : oe.dict = some dx := by
    have := (Heap.get?_some_iff.mp hoe).1
    rw [this] at he6
    injection he6 with he6
    rw [he6, hd6, hd5, hd4, hd0]
  have hE0 : h₀.get? e = none := hfl₆'.2.1
  have hid0 : ∀ b ∈ dx :: e :: xs.map (·.1), h₀.get? b = none := fun b hb => by
    rcases List.mem_cons.mp hb with rfl | hb
    · exact (hl _ (.head _)).2
    · rcases List.mem_cons.mp hb with rfl | hb
      · exact hE0
      · obtain ⟨q, hq, rfl⟩ := List.mem_map.mp hb
        exact (hl q (.tail _ hq)).2
  have hfB : ∀ {b : Addr}, b ∈ frs (envOf name scope L a cd :: outer) → b ∉ dx :: e :: xs.map (·.1) := fun {b} hb hm => by
    refine (let gk : Prop := _; (?_ : gk))
    obtain ⟨f1, o, f2, f3⟩ := hfl₆.2.2.1.mem hb
    unfold gk
    clear gk
    rcases List.mem_cons.mp hm with rfl | hm
    · have := (hl _ (.head _)).1; rw [f1] at this; cases this
    · rcases List.mem_cons.mp hm with rfl | hm
      · rw [hoe] at f2; cases f2; exact f3 _ hoed
      · obtain ⟨q, hq, rfl⟩ := List.mem_map.mp hm
        have := (hl q (.tail _ hq)).1; rw [f1] at this; cases this
  let g₆ : Heap := hideAll (cutAt h₆ L) (dx :: e :: xs.map (·.1))
  have st6 : h₀.StaysIn g₆ := fun b o hb => hideAll_get _ (cut_get.mpr ⟨hfl₆'.1 b o hb, Nat.lt_of_lt_of_le (Heap.lt_size hb) hsz⟩) fun hm => by rw [hid0 b hm] at hb; cases hb
  have sm6 : g.UpToSlots h₆ := (Heap.UpToSlots.of_keeps F.keep).trans ((hsm.trans hsm₅).trans hsm₆)
  have out6 : ∀ b ∈ frs outer, ∀ o, h₆.get? b = some o → @LT.lt Nat _ b L → g₆.get? b = some o := fun b hb o ho hlt => hideAll_get _ (cut_get.mpr ⟨ho, hlt⟩) (hfB (by
    refine (let gk : Prop := _; (?_ : gk))
    obtain ⟨e9, h9, h8⟩ := List.mem_filterMap.mp hb
    unfold gk
    clear gk
    exact List.mem_filterMap.mpr ⟨e9, .tail _ h9, h8⟩))
  have K₆ : Below A₀ h₀ outer g₆ := ⟨K.stack, st6, funFrames_sub K.frames fun b hb o ho hn => by
    obtain ⟨sl, hs⟩ := sm6 b o ho hn
    exact ⟨_, out6 b hb _ hs (Nat.lt_of_lt_of_le (Heap.lt_size ho) F.above), rfl⟩⟩
  have af : After h₀ g g₆ outer := ⟨st6, fun LL hLL mm hns => by
    have hlt : @LT.lt Nat _ LL L := by
      refine (let gk : Prop := _; (?_ : gk))
      obtain ⟨o, _, _, ho, _⟩ := hns
      unfold gk
      clear gk
      exact Nat.lt_of_lt_of_le (Heap.lt_size ho) F.above
    refine (let gk : Prop := _; (?_ : gk))
    obtain ⟨o, es9, ep9, ho, r⟩ := sm6.ns hns
    unfold gk
    clear gk
    exact ⟨o, es9, ep9, out6 LL hLL _ ho hlt, r⟩⟩
  have F₆ : Fr g₆ L h₆ m := ⟨((hsm.trans hsm₅).trans hsm₆).ns F.ns, fun b o hb => (cut_get.mp (of_hideAll _ hb)).1, by
    rw [show g₆.objs.size = (cutAt h₆ L).objs.size from hideAll_size _ _]; exact cut_size _ _⟩
  have nL : ∀ b ∈ dx :: e :: xs.map (·.1), b ≠ L := fun b hb he => hfB (b := L) (.head _) (he ▸ hb)
  have N₆ : News g₆ L h₆ ((dx, dictOf es dn) :: (e, oe) :: xs) := fun q hq => by
    have hm : q.1 ∈ dx :: e :: xs.map (·.1) := List.mem_map_of_mem hq
    refine ⟨?_, nL _ hm, hideAll_none _ hm⟩
    rcases List.mem_cons.mp hq with rfl | hq
    · exact hfl₆.1 _ _ (hl _ (.head _)).1
    · rcases List.mem_cons.mp hq with rfl | hq
      · exact hoe
      · exact hfl₆.1 _ _ (hl q (.tail _ hq)).1
  refine stN F₆ N₆ (fun h₇ F₇ N₇ => ?_) hk hlo
  exact k h₇ g₆ _ dx es dn oe tk3 K₆ af F₇ N₇ hoec hoed6 ⟨ws, hoed⟩ hat
end
end Mine
namespace Mine
open PySem.Calls PySem.Spec PySem.W PyProof.Rows LCg

section
variable {prog : Program} {w : World} {A : Around} {E : Value → Shared → Prop} {s : Shared} {h₀ : Heap} {L : Addr} {m : Str → Option Value} {env : Env}
def CompElG {σ : Type} (h₀ : Heap) (L : Addr) (m : Str → Option Value) (s : Shared) (I C D : Addr) (own : Led) (Le : σ → Led) (ok : Value → σ → Prop) (y : Value) (s₂ : Shared) : Prop :=
  ∃ h' tk' all c, s₂ = { s with heap := h', toks := tk' } ∧ Fr h₀ L h' m ∧ News h₀ L h' all ∧ (∀ p ∈ own ++ Le c, p ∈ all) ∧ Off3 I C D (Le c) ∧ ok y c
/-- a comprehension whose elements add to the ledger -/
theorem comp_restG {σ : Type} {elt : Expr} {x : Str} {scope : Scope} {cl : List (Str × Addr)} {P : Nat → Value → Prop} {Fin : List Value → Led → Prop} {n : Nat} (Le : σ → Led) (Ok : Nat → List Value → σ → Prop) (c₀ : σ) (h0 : Ok 0 [] c₀)
    (step : ∀ i v ys c I oI C oC D m₂ h tk (E' : Value → Shared → Prop), i < n → P i v → Ok i ys c → NsObj oC m₂ → m₂ x = some v → Fr h₀ L h m → News h₀ L h ((I, oI) :: (C, oC) :: (D, lst ys) :: Le c) → Off3 I C D (Le c) → ((@Ne Nat I C) ∧ (@Ne Nat I D) ∧ (@Ne Nat C D)) →
      wpAny (model prog w) A (eval elt (compEnvC scope cl C env)) (CompElG h₀ L m s I C D [(I, oI), (C, oC), (D, lst ys)] Le (fun y c' => Ok (i + 1) (ys ++ [y]) c')) E' { s with heap := h, toks := tk })
    (fin : ∀ ys c, Ok n ys c → Fin ys (Le c)) : CompRest prog w A h₀ L m env elt x scope cl s (fun _ => True) P Fin n 0 [] (Le c₀) := by
  suffices H : ∀ k i ys c, k + i = n → Ok i ys c → CompRest prog w A h₀ L m env elt x scope cl s (fun _ => True) P Fin k i ys (Le c) from H n 0 [] c₀ rfl h0
  intro k
  induction k with
  | zero => intro i ys c e o; simp at e; subst e; exact fin _ _ o
  | succ k ih =>
    intro i ys c e o v I oI C oC D m₂ h tk E' hP hN hm F N off ne
    refine wpAny_mono (step i v ys c I oI C oC D m₂ h tk E' (by omega) hP o hN hm F N off ne) (fun y s₂ hy => ?_) fun _ _ e => e
    obtain ⟨h', tk', all, c', rfl, F', N', hb, off', o'⟩ := hy
    exact ⟨h', tk', Le c', rfl, F', fun p hp => N' p (hb p (by simpa using hp)), off', trivial, ih (i + 1) _ _ (by omega) o'⟩
end
/-- lists of two or three figures, by their addresses -/
def LstsAre (vs : List Value) (xss : List (List Int)) (ts : Led) : Prop :=
  vs.length = xss.length ∧ ∀ (i : Nat) (xs : List Int), xss[i]? = some xs → ∃ a ws n, vs[i]? = some (.ref a) ∧ (a, W.listOf ws.toArray n) ∈ ts ∧ IntsAre ws xs
theorem LstsAre.nil {ts : Led} : LstsAre [] [] ts := ⟨rfl, fun i xs h => by simp at h⟩
theorem LstsAre.snoc {vs : List Value} {xss : List (List Int)} {ts : Led} {a : Addr} {ws : List Value} {xs : List Int} {n : Nat} (h : LstsAre vs xss ts) (hi : IntsAre ws xs) : LstsAre (vs ++ [.ref a]) (xss ++ [xs]) ((a, W.listOf ws.toArray n) :: ts) := by
  refine ⟨by rw [List.length_append, List.length_append, h.1]; rfl, fun i ys hy => ?_⟩
  by_cases hlt : i < xss.length
  · rw [List.getElem?_append_left hlt] at hy
    obtain ⟨a', ws', n', h1, h2, h3⟩ := h.2 i ys hy
    exact ⟨a', ws', n', by rw [List.getElem?_append_left (h.1 ▸ hlt)]; exact h1, .tail _ h2, h3⟩
  · rw [List.getElem?_append_right (Nat.not_lt.mp hlt)] at hy
    have e : i - xss.length = 0 := by
      cases q : i - xss.length with
      | zero => rfl
      | succ j => rw [q] at hy; simp at hy
    rw [e] at hy
    cases hy
    exact ⟨a, ws, n, by rw [List.getElem?_append_right (by rw [h.1]; exact Nat.not_lt.mp hlt), h.1, e]; rfl, .head _, hi⟩
theorem range2_sizeE {n z : Nat} (h : n = (z + 1) / 2) : Builtin.Range.rangeSize 0 (z : Int) 2 = (n : Int) := by
  unfold Builtin.Range.rangeSize
  rw [if_pos (by decide)]
  split <;> omega
theorem range2_smallE {n z : Nat} (h : n = (z + 1) / 2) (hz : z ≤ 1000) : Builtin.Range.small 0 (z : Int) 2 = true := by
  unfold Builtin.Range.small
  rw [range2_sizeE h, if_pos (by decide), fits_small (by omega) (by omega), fits_small (by omega) (by omega), fits_small (by omega) (by omega), fits_small (by omega) (by omega), fits_small (by omega) (by omega)]
  simp
structure PL where
  vp : List Value
  xs : List (List Int)
  ts : Led
def cutTwo (fs : List Int) (i : Nat) : List Int := (fs.drop (2 * i)).take 2 ++ [0]
theorem cut_two {fs : List Int} {at' : Int} {i : Nat} (hat : at' = 0 + (i : Int) * 2) : List.take (min (at' + 2).toNat fs.length - at'.toNat) (List.drop at'.toNat fs) ++ [0] = cutTwo fs i := by
  have e1 : at'.toNat = 2 * i := by omega
  have e2 : (at' + 2).toNat = 2 * i + 2 := by omega
  rw [e1, e2, cutTwo]
  congr 1
  by_cases h : 2 * i + 2 ≤ fs.length
  · rw [Nat.min_eq_left h]; congr 1; omega
  · rw [Nat.min_eq_right (by omega), List.take_of_length_le (by rw [List.length_drop]; omega), List.take_of_length_le (by rw [List.length_drop]; omega)]
theorem cutTwo_len {fs : List Int} {i : Nat} (h : 2 * i < fs.length) : 2 ≤ (cutTwo fs i).length := by
  rw [cutTwo, List.length_append, List.length_take, List.length_drop, List.length_singleton]; omega
theorem cutTwo_in {fs : List Int} {i : Nat} (h : ∀ x ∈ fs, 0 ≤ x ∧ x ≤ 15) : ∀ x ∈ cutTwo fs i, 0 ≤ x ∧ x ≤ 15 := by
  intro x hx
  rcases List.mem_append.mp hx with hx | hx
  · exact h x (List.mem_of_mem_drop (List.mem_of_mem_take hx))
  · rw [List.mem_singleton.mp hx]; decide
theorem hexPairs_cut : ∀ {fs : List Int} {i : Nat}, 2 * i < fs.length → (hexPairs fs)[i]? = some (16 * (cutTwo fs i).getD 0 0 + (cutTwo fs i).getD 1 0)
  | [], _, h => by simp at h
  | [a], 0, _ => by simp [hexPairs, cutTwo]
  | [a], i + 1, h => by simp at h
  | a :: b :: r, 0, _ => by simp [hexPairs, cutTwo]
  | a :: b :: r, i + 1, h => by
    have := hexPairs_cut (fs := r) (i := i) (by simp at h; omega)
    rw [hexPairs, List.getElem?_cons_succ, this]
    rfl
end Mine
theorem Mine.words_P26c : True := by
  (k_with "eval ListComp" => (k_here; (first | (with_reducible show wpAny _ _ (eval (Expr.ListComp _ [⟨Expr.Name _ _, Expr.Name (Str.ofString "pairs") _, [], _⟩] _ _) _) _ _ _)); k_dflt (refine Mine.ListComp_G (F₀ := by k_asm) (by with_unfolding_all rfl) (by decide) (by rfl) (by decide) (by rfl) ?_)))
  trivial
namespace Mine
open PySem.Calls PySem.Spec PySem.W PyProof.Rows

set_option maxHeartbeats 1000000 in
theorem readhex_spec (w : World) (b : Array UInt8) (tb : Tok) (hb : b.size ≤ 24) :
    CSpec w 166 20 [.bytes b tb] [] [] (fun r nw => (∃ acc b' t', hexGo (KBw.bInts b) 0 [] = .ok acc ∧ nw = [] ∧ r = .bytes b' t' ∧ KBw.bInts b' = hexPairs acc) ∨ ∃ k T u v, hexGo (KBw.bInts b) 0 [] = .error k ∧ r = .ref T ∧ nw = [(T, faultTup k u v)]) := by
  have hkl : (KBw.bInts b).length = b.size := KBw.ints_length b
  obtain ⟨ks, hks⟩ : ∃ ks, KBw.bInts b = ks := ⟨_, rfl⟩
  rw [hks] at hkl ⊢
  refine' CSpec.of_bodyC [(Str.ofString "data", .bytes b tb)] ?ho ?hcd ?hb ?hl ?hc ?h1 ?h2 ?h3 ?_
  walk_at "mine bodyC"
  intro dp un gd cn cs L a ccd cl outer base g L' h₁ s tk cells p loose mean mg mb hd9 hu B F N YC hca X T lt hrd
  have kM := kstMark
  obtain ⟨c1, hco, hd1⟩ := CellsAre.one YC
  subst hco
  simp only [List.cons_append, List.nil_append] at N
  replace hd1 : c1.data = Data.cell none := hd1
  clear YC
  replace hca := (hca _ (.head _) : @LT.lt Nat _ L' (L' + 1))
  walk_at "mine go"
  k_steps
  (rename Fr _ _ _ _ => F1)
  (rename News _ _ _ _ => N1)
  rename Obj.data _ = Data.cell (some _) => hd2
  refine turns_enumB (σ := LB) (fun c => [(c.fa, W.listOf c.vf.toArray c.nf), (L' + 1, c.ce)]) (fun _ => []) [Str.ofString "at", Str.ofString "code", Str.ofString "place"]
    (fun i c => (@LT.lt Nat _ (L' + 1) c.fa ∧ IntsAre c.vf c.fs ∧ c.ce.data = Data.cell (some (.ref c.fa)) ∧ c.fs.length ≤ i ∧ (∀ x ∈ c.fs, 0 ≤ x ∧ x ≤ 15)) ∧ hexGo ks 0 [] = hexGo (ks.drop i) i c.fs)
    (fun c => (@LT.lt Nat _ (L' + 1) c.fa ∧ IntsAre c.vf c.fs ∧ c.ce.data = Data.cell (some (.ref c.fa)) ∧ c.fs.length ≤ 24 ∧ (∀ x ∈ c.fs, 0 ≤ x ∧ x ≤ 15)) ∧ hexGo ks 0 [] = .ok c.fs) ⟨_, [], [], 0, _⟩ rfl F1 N1 (fun _ h => nomatch h) ⟨⟨by assumption, .nil, hd2, Nat.le_refl _, fun _ h => nomatch h⟩, rfl⟩ ?_ ?_
  · clear F1 N1 hd2
    rintro i k T t t' ⟨fa, vf, fs, nf, ce⟩ u h tk e it o o' hk hk0 hk1 hlt hP9 hT ho ho' hoff hie hlI F1 N1
    walk_at "mine shut"
    obtain ⟨⟨hi0, hi1, hce, hi3, hi4⟩, hi2⟩ := hP9
    walk_at "mine open"
    dsimp only at hi0 hi1 hi2 hi3 hi4 hce F1 N1
    rw [hks] at hk
    rw [drop_at hk, hexGo] at hi2
    simp only [List.cons_append, List.nil_append] at N1
    simp only [List.map_cons, List.map_nil] at hoff
    replace hlI := allLt_of hlI
    simp only [AllLt, and_true] at hlI
    have hil : fs.length ≤ 24 := by omega
    have hl9 := hi1.length
    refine unpackN_ F1 N1 hT rfl rfl rfl ?_
    intro h2 F2 N2
    clear F1 N1 hT
    have hfl := fw_le k
    k_steps
    · rename k = 62 => h62
      (rename News _ _ _ _ => NN)
      exact turnEnd ⟨_, _, _, _, _⟩ (by assumption) NN (by kst_inAny) (fun _ h => nomatch h) (fun _ h => nomatch h) (fun _ h => nomatch h) (by walk_at "mine same") ⟨⟨hi0, hi1, hce, hil, hi4⟩, by rw [hi2, if_pos h62]⟩
    · rename k ≠ 62 => h62
      rename figureWorth k < 0 => hw
      rename isWhite k = true => hwh
      rename IntsAre _ (fs ++ []) => hI8
      rename (@LT.lt Nat _ _ _) ∧ (@LT.lt Nat _ _ _) ∧ (@LT.lt Nat _ _ _) ∧ (@LT.lt Nat _ _ _) ∧ (@LT.lt Nat _ _ _) => hl8
      (rename News _ _ _ _ => NN)
      rw [List.append_nil] at hI8
      have hoff9 := ownOff_cons (List.forall_mem_cons.mpr ⟨hl8.2.2.2.1, List.forall_mem_cons.mpr ⟨hl8.2.2.2.2, List.forall_mem_nil _⟩⟩) hoff
      exact turnEnd ⟨_, _, _, _, _⟩ (by assumption) NN (by kst_inAny) (by kst_anyIn) (by walk_at "mine off") (fun _ h => nomatch h) (by walk_at "mine same") ⟨⟨hl8.2.2.1, hI8, by assumption, Nat.le_succ_of_le hi3, hi4⟩, by rw [hi2, if_neg h62, if_neg (by omega), if_pos hwh]⟩
    · rename k ≠ 62 => h62
      rename figureWorth k < 0 => hw
      rename isWhite k = false => hwh
      refine bare ?_
      k_steps
      exact Back.intro [_] (by k_asm) (by k_asm) (List.forall_mem_cons.mpr ⟨.head _, List.forall_mem_nil _⟩) (.inr ⟨(i : Int), _, _, _, by rw [hi2, if_neg h62, if_neg (by omega), if_neg (by rw [hwh]; decide)], rfl, rfl⟩)
    · rename k ≠ 62 => h62
      rename ¬ figureWorth k < 0 => hw
      rename IntsAre _ (fs ++ [figureWorth k]) => hI8
      rename (@LT.lt Nat _ _ _) ∧ (@LT.lt Nat _ _ _) ∧ (@LT.lt Nat _ _ _) ∧ (@LT.lt Nat _ _ _) ∧ (@LT.lt Nat _ _ _) => hl8
      (rename News _ _ _ _ => NN)
      have hoff9 := ownOff_cons (List.forall_mem_cons.mpr ⟨hl8.2.2.2.1, List.forall_mem_cons.mpr ⟨hl8.2.2.2.2, List.forall_mem_nil _⟩⟩) hoff
      exact turnEnd ⟨_, _, _, _, _⟩ (by assumption) NN (by kst_inAny) (by kst_anyIn) (by walk_at "mine off") (fun _ h => nomatch h) (by walk_at "mine same") ⟨⟨hl8.2.2.1, hI8, by assumption, by dsimp only; rw [List.length_append]; exact Nat.succ_le_succ hi3, fun x hx => by
        rcases List.mem_append.mp hx with hx | hx
        · exact hi4 x hx
        · rw [List.mem_singleton.mp hx]; exact ⟨by omega, hfl⟩⟩, by rw [hi2, if_neg h62, if_pos (by omega)]⟩
  · clear F1 N1 hd2
    rintro ⟨fa, vf, fs, nf, ce⟩ u h tk hP F1 N1
    have hP' : (@LT.lt Nat _ (L' + 1) fa ∧ IntsAre vf fs ∧ ce.data = Data.cell (some (.ref fa)) ∧ fs.length ≤ 24 ∧ (∀ x ∈ fs, 0 ≤ x ∧ x ≤ 15)) ∧ hexGo ks 0 [] = .ok fs := by
      rcases hP with ⟨⟨p1, p2, p3, p4, p5⟩, p6⟩ | hP
      · dsimp only at p1 p2 p3 p4 p5 p6
        rw [← hkl, List.drop_length, hexGo] at p6
        exact ⟨⟨p1, p2, p3, by omega, p5⟩, p6⟩
      · exact hP
    clear hP
    obtain ⟨⟨hi0, hi1, hce, hi3, hi4⟩, hgo⟩ := hP'
    dsimp only at F1 N1
    have hl := hi1.length
    have hnm : ∃ n9 : Nat, n9 = (fs.length + 1) / 2 := ⟨_, rfl⟩
    k_steps
    (rename Fr _ _ _ _ => F5)
    (rename News _ _ _ _ => N5)
    rename IsRange _ _ _ _ _ _ _ _ => hr
    obtain ⟨n9, hn9⟩ : ∃ n9 : Nat, n9 = (fs.length + 1) / 2 := ⟨_, rfl⟩
    refine comp_range (n := n9) rfl F5 N5 hr (range2_smallE hn9 (by omega)) (range2_sizeE hn9) (by rw [sizeLine_eq]; omega) ?_
    intro gg2
    try dsimp only
    refine comp_restG (σ := PL) (fun c => (fa, W.listOf vf.toArray nf) :: (L' + 1, ce) :: c.ts) (fun i ys c => LstsAre ys c.xs c.ts ∧ c.xs = (List.range i).map (cutTwo fs)) ⟨[], [], []⟩ ⟨.nil, rfl⟩ ?_ ?_
    · rintro i v ys2 ⟨vp, xs, ts⟩ I oI C oC D2 m₂ h tk E' hlt ⟨t6, rfl⟩ ⟨hys2, hxs⟩ hC hm F3 N3 off2 ne
      dsimp only at hys2 hxs N3 off2
      clear F5 N5 hr
      simp only [LCg.Off3] at off2
      obtain ⟨at', hat⟩ : ∃ at' : Int, at' = 0 + (i : Int) * 2 := ⟨_, rfl⟩
      rw [← hat] at hm
      have hb1 : 0 ≤ at' := by omega
      have hb2 : at' < fs.length := by omega
      k_steps
      rename IntsAre _ (_ ++ [0]) => hI8
      rename (@LT.lt Nat _ _ _) ∧ (@LT.lt Nat _ _ _) ∧ (@LT.lt Nat _ _ _) ∧ (@LT.lt Nat _ _ _) ∧ (@LT.lt Nat _ _ _) ∧ (@LT.lt Nat _ _ _) ∧ (@LT.lt Nat _ _ _) ∧ _ => hl9
      (rename News _ _ _ _ => NN)
      obtain ⟨q1, q2, q3, q4, q5, q6, q7, q8⟩ := hl9
      rw [cut_two hat] at hI8
      exact ⟨_, _, _, ⟨[], xs ++ [cutTwo fs i], (_, _) :: ts⟩, rfl, by k_asm, NN, by
        intro p hp
        simp only [List.mem_append, List.mem_cons, List.not_mem_nil, or_false] at hp ⊢
        rcases hp with (h | h | h) | h | h | h | h
        · exact .inr (.inr (.inr (.inl h)))
        · exact .inr (.inr (.inr (.inr (.inl h))))
        · exact .inr (.inr (.inr (.inr (.inr (.inl h)))))
        · exact .inr (.inr (.inr (.inr (.inr (.inr (.inl h))))))
        · exact .inr (.inr (.inr (.inr (.inr (.inr (.inr (.inl h)))))))
        · exact .inl h
        · exact .inr (.inr (.inr (.inr (.inr (.inr (.inr (.inr h))))))), ⟨off2.1, off2.2.1, ⟨Ne.symm (Nat.ne_of_lt q3), Ne.symm (Nat.ne_of_lt q4), Ne.symm (Nat.ne_of_lt q5)⟩, off2.2.2⟩, LstsAre.snoc hys2 hI8, by rw [hxs, List.range_succ, List.map_append]; rfl⟩
    · rintro ys2 ⟨vp, xs, ts⟩ ⟨hys2, hxs⟩
      intro D2 h9 tk9 F6 N6 off6
      dsimp only at hys2 hxs N6 off6 F6
      clear F5 N5 hr
      have hyl := hys2.1
      have hxl : xs.length = n9 := by rw [hxs, List.length_map, List.length_range]
      try dsimp only
      k_steps
      (rename Fr _ _ _ _ => F7)
      (rename News _ _ _ _ => N7)
      refine comp_list (ys := ys2) (n := ys2.length) rfl F7 N7 (.inr (.head _)) (by rw [sizeLine_eq]; omega) ?_
      intro gg3
      try dsimp only
      refine comp_rest (fun i ys => IntsAre ys ((hexPairs fs).take i)) .nil (.inr ⟨_, .head _, rfl, _, rfl⟩) ?_ ?_
      · rintro i v ys3 I oI C oC D3 m₂ h tk E' hlt hv hys3 hC hm F3 N3 off3 ne
        have hx9 : xs[i]? = some (cutTwo fs i) := by rw [hxs, List.getElem?_map, List.getElem?_range (by omega)]; rfl
        obtain ⟨a9, ws, n8, e1, e2, e3⟩ := hys2.2 i _ hx9
        rw [e1] at hv
        cases hv
        replace N3 : News g L' h ((a9, W.listOf ws.toArray n8) :: _) := List.forall_mem_cons.mpr ⟨N3 _ (List.mem_append_right [_, _, _, _, _, _] e2), N3⟩
        have hcl : 2 ≤ (cutTwo fs i).length := cutTwo_len (by omega)
        have hg := hexPairs_cut (fs := fs) (i := i) (by omega)
        have hcb := cutTwo_in (i := i) hi4
        clear F7 N7
        generalize cutTwo fs i = cx at *
        have hwl := e3.length
        try dsimp only
        k_steps
        exact ⟨_, _, _, rfl, by k_asm, by k_asm, fun _ hp => .tail _ hp, by rw [take_succ_of hg]; exact IntsAre.append hys3 (.cons _ _ .nil)⟩
      · intro ys3 hys3
        have hhl := hexPairs_len fs
        rw [List.take_of_length_le (by omega)] at hys3
        have hin := hexPairs_in hi4
        intro D3 h9 tk9 F8 N8 off8
        clear F7 N7
        try dsimp only
        k_steps
        exact Back.intro [] (by k_asm) (by k_asm) (fun _ h => nomatch h) (.inl ⟨_, _, _, hgo, rfl, rfl, by rw [bInts_byteArr hin]⟩)
end Mine
namespace Mine
open PySem.Calls PySem.Spec PySem.W PyProof.Rows LCg

section
variable {prog : Program} {w : World} {A : Around} {E : Value → Shared → Prop} {s : Shared} {h₀ : Heap} {L : Addr} {m : Str → Option Value} {env : Env}
theorem Assign_ListComp_EG {elt iter : Expr} {x x₂ y : Str} {px px₂ tp py : Pos} {tkk : Nat} {ifs : List Expr} {scope : Scope} {cl : List (Str × Addr)} {pos spos : Pos} {Q : Flow → Shared → Prop} (F₀ : Fr h₀ L s.heap m) (hLe : env.locals = L)
    (hsw : swapsWith (.ListComp elt [⟨.Tuple [.Name x px, .Name x₂ px₂] tkk tp, iter, ifs, 0⟩] scope pos) (some (.Name y py)) spos.line env = pure true)
    (hclos : closureFor scope env = pure cl) (hcell : ∀ z ∈ scope.names, z.2 ≠ .cell) (hkind : scope.kind = .function)
    (hnames : ∀ z ∈ scope.names, z.2 = .local → scope.names.lookup z.1 = some .local) (hx : scope.names.lookup x = some .local) (hx₂ : scope.names.lookup x₂ = some .local) (hxx : x ≠ x₂)
    (hy : env.kindOf y = some .local) (hp : (env.scope.kind == .class || (env.scope.kind == .module && env.locals != env.globals)) = false)
    (h : wpAny (model prog w) A (eval iter env) (fun xv s₁ => wpAny (model prog w) A (pyIter xv) (PairAtG prog w A h₀ L m env elt x x₂ px px₂ tp tkk ifs scope cl (fun s₂ => FinA h₀ L m s₂ y Q)) E s₁) E s)
    (hs : ∀ x, foldedSetIterable iter env x = pure x := by intro _; rfl) :
    wpAny (model prog w) A (exec (.Assign [.Name y py] (.ListComp elt [⟨.Tuple [.Name x px, .Name x₂ px₂] tkk tp, iter, ifs, 0⟩] scope pos) spos) env) Q E s := by
  subst hLe
  rw [exec_Assign_Name_used _ _ _ _ hsw]
  refine wpAny_bind (wpAny_standAt (wpAny_bind ?_))
  show wpAny _ A (do let _ ← comprehension (.ListComp elt [⟨.Tuple [.Name x px, .Name x₂ px₂] tkk tp, iter, ifs, 0⟩] scope pos) scope env _ (newList []) false (eval iter env) (some (assign (.Name y py) env))) _ _ s
  refine wpAny_bind (wpAny_mono (wpAny_comprehension_free (use := some (assign (.Name y py) env)) (Q := fun _ s' => Q .next s') rfl hs hclos hkind hnames
    (wpAny_mono h (fun xv s₁ h₁ => wpAny_mono h₁ (fun it s₂ h₂ => ?_) fun _ _ e => e) fun _ _ e => e)) (fun _ s' hq => wpAny_pure (wpAny_pure hq)) fun _ _ e => e)
  obtain ⟨σ, Le, c₀, Ok, I, fp, wr, n, Pv, Md, St, PP, rfl, K⟩ := h₂
  refine block_EG K hcell hkind hx hx₂ hxx ?_
  intro D C h' tk m' ys c F' N' o1 hn hC₀ hD₀ hCL hDL hCD offC fin
  show wpAny _ A (assign (.Name y py) env (.ref D)) _ _ _
  refine wpAny_assign_Name (wpAny_storeName_local hy F'.ns (fun h₂ hn₂ hs₂ => ?_) hp)
  have hL₀ : h₀.get? env.locals = none := Heap.get?_none_of_le F'.above
  have F₂ : Fr h₀ env.locals h₂ (fun z => if z = y then some (.ref D) else m z) := ⟨hn₂, fun b o e => hs₂.extBut b o (fun q => by rw [q, hL₀] at e; cases e) (F'.keep b o e), F'.above⟩
  refine ⟨m', hn.sameBut hs₂ hCL, fun h'' hs'' => fin D h'' _ (F₂.change hs'' hCL hC₀) (fun p hp => ?_) o1⟩
  have z : h₂.get? p.1 = some p.2 := hs₂.extBut _ _ (N' p hp).2.1 (N' p hp).1
  refine ⟨hs''.extBut _ _ ?_ z, (N' p hp).2⟩
  rcases List.mem_cons.mp hp with rfl | hp
  · exact Ne.symm hCD
  · exact offC p hp

/-- … for at, code in enumerate(bytes) -/
theorem pair_bytesG {σ : Type} {elt : Expr} {x x₂ : Str} {px px₂ tp : Pos} {tkk : Nat} {ifs : List Expr} {scope : Scope} {cl : List (Str × Addr)} {Fin : Shared → List Value → Led → Prop} {b : Array UInt8} {tb : Tok} (Le : σ → Led) (Ok : Nat → List Value → σ → Prop) (c₀ : σ) (hh : A.handled = none) (F : Fr h₀ L s.heap m) (N : News h₀ L s.heap (Le c₀)) (hz : b.size ≤ sizeLine) (ok0 : Ok 0 [] c₀) (len : ∀ i ys c, Ok i ys c → ys.length ≤ i)
    (step : ∀ gg i (k : Int) t t' ys c e oe it oi C oC D m₂ h tk (E' : Value → Shared → Prop), i < b.size → (KBw.bInts b)[i]? = some k → Ok i ys c → NsObj oC m₂ → m₂ x = some (.int i t) → m₂ x₂ = some (.int k t') → Fr h₀ L h m → News h₀ L h ([(e, oe), (it, oi)] ++ (C, oC) :: (D, lst ys) :: Le c) → OffW [e, it] C D (Le c) →
      wpAny (model prog w) A (testsOf ifs (compEnvC scope cl C env)) (fun ok s₃ => if ok = true then wpAny (model prog w) A (eval elt (compEnvC scope cl C env)) (CompElW h₀ L m { s with heap := gg } [e, it] C D ([(e, oe), (it, oi)] ++ [(C, oC), (D, lst ys)]) Le (fun y c' => Ok (i + 1) (ys ++ [y]) c')) E' s₃
        else CompElW h₀ L m { s with heap := gg } [e, it] C D ([(e, oe), (it, oi)] ++ [(C, oC), (D, lst ys)]) Le (fun _ c' => Ok (i + 1) ys c') .none s₃) E' { s with heap := h, toks := tk })
    (fin : ∀ gg ys c, Ok b.size ys c → Fin { s with heap := gg } ys (Le c)) :
    wpAny (model prog w) A (call (.type "enumerate") [.bytes b tb]) (fun xv s₁ => wpAny (model prog w) A (pyIter xv) (PairAtG prog w A h₀ L m env elt x x₂ px px₂ tp tkk ifs scope cl Fin) E s₁) E s := by
  refine call_enum_bytes fun h' he hit hz' hkeep => ?_
  refine wpAny_pyIter_enum he ?_
  have hLt : L < s.heap.objs.size := F.ns.lt
  have hei : s.heap.objs.size + 1 ≠ s.heap.objs.size := Nat.succ_ne_self _
  have WT := WalksT.enumerateD (bdraws prog w (A := A.in1) hh s.heap.objs.size b tb) (s.heap.objs.size + 1) hei (by simp) (by simp)
  have W := KTurns.ofWalksU (elts := [.Name x px, .Name x₂ px₂]) (k := tkk) (pos := tp) WT.toU
  refine ⟨σ, Le, c₀, Ok, _, _, _, _, _, _, _, (fun i v₁ v₂ => ∃ k t t', v₁ = .int i t ∧ v₂ = .int k t' ∧ (KBw.bInts b)[i]? = some k), rfl, ⟨W, fun s Q E st q => WT.self 0 s Q E st q, hz, hh, ?_, ?_, ⟨⟨_, by simpa using he⟩, hit⟩, ?_, ?_, F.keeps hkeep, fun p hp => ⟨hkeep _ _ (N p hp).1, (N p hp).2⟩, ?_, ?_, ?_, ok0, len, ?_, fun ys c o => fin _ ys c o⟩⟩
  · rintro i h ⟨⟨old, he⟩, o, ho, _⟩
    exact ⟨[(_, _), (_, o)], rfl, List.forall_mem_cons.mpr ⟨he, List.forall_mem_cons.mpr ⟨ho, List.forall_mem_nil _⟩⟩⟩
  · rintro i v h ⟨T, vals, rfl, ⟨t, y, ⟨cc, u', hc, rfl⟩, rfl⟩, hT⟩
    exact ⟨T, _, _, rfl, hT, _, _, _, rfl, rfl, KBw.ints_get hc⟩
  · intro b' hb
    show b' < h'.objs.size
    rw [hz']
    rcases List.mem_cons.mp hb with e | hb
    · rw [e]; exact Nat.lt_succ_self _
    · rw [List.mem_singleton.mp hb]; exact Nat.lt_succ_of_lt (Nat.lt_succ_self _)
  · intro b' hb hw; exact absurd hb hw
  · intro b' hb
    rcases List.mem_cons.mp hb with e | hb
    · exact new_none F (by rw [e]; exact Nat.le_succ _)
    · exact new_none F (by rw [List.mem_singleton.mp hb]; exact Nat.le_refl _)
  · intro hm
    rcases List.mem_cons.mp hm with e | hm
    · rw [e] at hLt; exact absurd hLt (Nat.not_lt.mpr (Nat.le_succ _))
    · rw [List.mem_singleton.mp hm] at hLt; exact absurd hLt (Nat.lt_irrefl _)
  · intro p hp hI
    have := Heap.lt_size (N p hp).1
    rcases List.mem_cons.mp hI with e | hI
    · rw [e] at this; exact absurd this (Nat.not_lt.mpr (Nat.le_succ _))
    · rw [List.mem_singleton.mp hI] at this; exact absurd this (Nat.lt_irrefl _)
  · rintro i v₁ v₂ ys c its C oC D m₂ h tk E' hlt ⟨k, t, t', rfl, rfl, hk⟩ hok hits hC hm1 hm2 F' N' off'
    obtain ⟨oe, oi, rfl⟩ := its_two' hits
    exact step _ i k t t' ys c _ oe _ oi C oC D m₂ h tk E' hlt hk hok hC hm1 hm2 F' N' off'

end
end Mine
namespace Mine
open PySem.Calls PySem.Spec PySem.W PyProof.Rows LCg

def tupII (x : Int) (t : Tok) (y : Int) (u : Tok) : Obj := { cls := .type "tuple", data := .seq #[.int x t, .int y u] }
/-- references to tuples of two ints -/
def TupsAre (vs : List Value) (ps : List (Int × Int)) (ts : Led) : Prop :=
  vs.length = ps.length ∧ ∀ (i : Nat) (p : Int × Int), ps[i]? = some p → ∃ a t u, vs[i]? = some (.ref a) ∧ (a, tupII p.1 t p.2 u) ∈ ts
theorem TupsAre.nil {ts : Led} : TupsAre [] [] ts := ⟨rfl, fun i xs h => by simp at h⟩
theorem TupsAre.mono {vs : List Value} {ps : List (Int × Int)} {ts ts' : Led} (h : TupsAre vs ps ts) (hm : ∀ p ∈ ts, p ∈ ts') : TupsAre vs ps ts' :=
  ⟨h.1, fun i p e => let ⟨a, t, u, e1, e2⟩ := h.2 i p e; ⟨a, t, u, e1, hm _ e2⟩⟩
theorem TupsAre.snoc {vs : List Value} {ps : List (Int × Int)} {ts : Led} {a : Addr} {x y : Int} {t u : Tok} (h : TupsAre vs ps ts) : TupsAre (vs ++ [.ref a]) (ps ++ [(x, y)]) ((a, tupII x t y u) :: ts) := by
  refine ⟨by rw [List.length_append, List.length_append, h.1]; rfl, fun i q hq => ?_⟩
  by_cases hlt : i < ps.length
  · rw [List.getElem?_append_left hlt] at hq
    obtain ⟨a', t', u', h1, h2⟩ := h.2 i q hq
    exact ⟨a', t', u', by rw [List.getElem?_append_left (h.1 ▸ hlt)]; exact h1, .tail _ h2⟩
  · rw [List.getElem?_append_right (Nat.not_lt.mp hlt)] at hq
    have e : i - ps.length = 0 := by
      cases q : i - ps.length with
      | zero => rfl
      | succ j => rw [q] at hq; simp at hq
    rw [e] at hq
    cases hq
    exact ⟨a, t, u, by rw [List.getElem?_append_right (by rw [h.1]; exact Nat.not_lt.mp hlt), h.1, e]; rfl, .head _⟩
theorem TupsAre.at {vs : List Value} {ps : List (Int × Int)} {ts : Led} (h : TupsAre vs ps ts) {i : Nat} {v : Value} (hv : vs[i]? = some v) : ∃ a x y t u, ps[i]? = some (x, y) ∧ v = .ref a ∧ (a, tupII x t y u) ∈ ts := by
  have hlt : i < ps.length := by rw [← h.1]; exact (List.getElem?_eq_some_iff.mp hv).1
  obtain ⟨a, t, u, e1, e2⟩ := h.2 i ps[i] (List.getElem?_eq_getElem hlt)
  rw [hv] at e1
  exact ⟨a, _, _, t, u, List.getElem?_eq_getElem hlt, Option.some.inj e1, e2⟩

section
variable {prog : Program} {w : World} {A : Around} {E : Value → Shared → Prop} {s : Shared} {h₀ : Heap} {L : Addr} {m : Str → Option Value} {env : Env}
/-- … for at, one in list of tuples -/
theorem pair_tups {elt : Expr} {x x₂ : Str} {px px₂ tp : Pos} {tkk : Nat} {ifs : List Expr} {scope : Scope} {cl : List (Str × Addr)} {Fin : Shared → List Value → Led → Prop} {l : Addr} {vs : List Value} {ps : List (Int × Int)} {ts : Led} {nl : Nat} {news : Led} (Ok : Nat → List Value → Prop) (hh : A.handled = none) (F : Fr h₀ L s.heap m) (N : News h₀ L s.heap news)
    (hl : h₀.get? l = some (W.listOf vs.toArray nl) ∨ (l, W.listOf vs.toArray nl) ∈ news) (hT : TupsAre vs ps ts) (hts : ∀ p ∈ ts, h₀.get? p.1 = some p.2 ∨ p ∈ news) (hz : vs.length ≤ sizeLine) (ok0 : Ok 0 []) (len : ∀ i ys, Ok i ys → ys.length ≤ i)
    (step : ∀ gg i (a b : Int) t u ys it oi C oC D m₂ h tk (E' : Value → Shared → Prop), i < vs.length → ps[i]? = some (a, b) → Ok i ys → NsObj oC m₂ → m₂ x = some (.int a t) → m₂ x₂ = some (.int b u) → Fr h₀ L h m → News h₀ L h ((it, oi) :: (C, oC) :: (D, lst ys) :: news) →
      wpAny (model prog w) A (testsOf ifs (compEnvC scope cl C env)) (fun ok s₃ => if ok = true then wpAny (model prog w) A (eval elt (compEnvC scope cl C env)) (CompEl h₀ L m { s with heap := gg } ((it, oi) :: (C, oC) :: (D, lst ys) :: news) (fun y => Ok (i + 1) (ys ++ [y]))) E' s₃
        else CompEl h₀ L m { s with heap := gg } ((it, oi) :: (C, oC) :: (D, lst ys) :: news) (fun _ => Ok (i + 1) ys) .none s₃) E' { s with heap := h, toks := tk })
    (fin : ∀ gg ys, Ok vs.length ys → Fin { s with heap := gg } ys news) :
    wpAny (model prog w) A (pyIter (.ref l)) (PairAt prog w A h₀ L m env elt x x₂ px px₂ tp tkk ifs scope cl Fin) E s := by
  have here : ∀ {a o}, (h₀.get? a = some o ∨ (a, o) ∈ news) → s.heap.get? a = some o := fun h => h.elim (F.keep _ _) fun h => (N _ h).1
  have hls : s.heap.IsList l vs.toArray := ⟨_, here hl, rfl, _, rfl⟩
  have hlt : l < s.heap.objs.size := Heap.lt_size (here hl)
  have hex : ∀ j, ∃ q : Addr × Int × Tok × Int × Tok, j < vs.length → vs[j]? = some (.ref q.1) ∧ ps[j]? = some (q.2.1, q.2.2.2.1) ∧ (q.1, tupII q.2.1 q.2.2.1 q.2.2.2.1 q.2.2.2.2) ∈ ts := fun j => by
    by_cases hj : j < vs.length
    · obtain ⟨a, x, y, t, u, e1, e2, e3⟩ := hT.at (List.getElem?_eq_getElem hj)
      exact ⟨(a, x, t, y, u), fun _ => ⟨by rw [List.getElem?_eq_getElem hj, e2], e1, e3⟩⟩
    · exact ⟨(0, 0, 0, 0, 0), fun h => absurd h hj⟩
  let f := fun j => Classical.choose (hex j)
  let vl : Nat → Array Value := fun j => #[.int (f j).2.1 (f j).2.2.1, .int (f j).2.2.2.1 (f j).2.2.2.2]
  have hf : ∀ j, j < vs.length → vs[j]? = some (.ref (f j).1) ∧ ps[j]? = some ((f j).2.1, (f j).2.2.2.1) ∧ ((f j).1, tupII (f j).2.1 (f j).2.2.1 (f j).2.2.2.1 (f j).2.2.2.2) ∈ ts := fun j hj => Classical.choose_spec (hex j) hj
  have hft : ∀ j, j < vs.length → ∃ o, s.heap.get? (f j).1 = some o ∧ o.cls = .type "tuple" ∧ ∃ n, o.data = .seq (vl j) n := fun j hj =>
    ⟨_, here (hts _ (hf j hj).2.2), rfl, _, rfl⟩
  have hsz : vs.toArray.size = vs.length := by simp
  refine wpAny_pyIter_list hls ?_
  have WU := WalksU.listOfTuples (prog := prog) (w := w) hh s.heap.objs.size l (Nat.ne_of_lt hlt) vs.toArray (fun j => (f j).1) vl (fun j hj => by simpa using (hf j (hsz ▸ hj)).1)
    (fun j hj => by obtain ⟨o, e, _⟩ := hft j (hsz ▸ hj); exact Nat.ne_of_lt (Heap.lt_size e))
  have W := KTurns.ofWalksU (elts := [.Name x px, .Name x₂ px₂]) (k := tkk) (pos := tp) WU
  refine ⟨_, _, _, _, _, _, _, (fun i v₁ v₂ => ∃ a b t u, v₁ = .int a t ∧ v₂ = .int b u ∧ (i < vs.length → ps[i]? = some (a, b))), Ok, news, rfl, ⟨W, fun s Q E st q => WU.self 0 s Q E st q, by rw [hsz]; exact hz, hh, ?_, ?_, ⟨⟨_, Heap.get?_push_size _ rfl, rfl, rfl⟩, hls.push _, fun k hk => ?_⟩, ?_, ?_, F.push _, fun p hp => ⟨Heap.get?_push_of_some _ (N p hp).1, (N p hp).2⟩, ?_, ?_, ?_, ok0, fun i ys _ h => len i ys h, stepW ?_, fun ys _ o => fin _ ys (by rw [hsz] at o; exact o)⟩⟩
  · rintro i h ⟨⟨o, ho, _⟩, _⟩
    exact ⟨[(_, o)], rfl, List.forall_mem_cons.mpr ⟨ho, List.forall_mem_nil _⟩⟩
  · rintro i v h ⟨T, vals, rfl, rfl, hT'⟩
    exact ⟨T, _, _, rfl, hT', _, _, _, _, rfl, rfl, fun hi => (hf i hi).2.1⟩
  · obtain ⟨o, e, r⟩ := hft k (hsz ▸ hk)
    exact ⟨o, Heap.get?_push_of_some _ e, r⟩
  · intro b' hb
    show b' < (s.heap.push _).objs.size
    rw [Heap.size_push]
    rcases List.mem_cons.mp hb with e | hb
    · rw [e]; exact Nat.lt_succ_self _
    · rcases List.mem_cons.mp hb with e | hb
      · rw [e]; exact Nat.lt_succ_of_lt hlt
      · obtain ⟨j, hj, rfl⟩ := List.mem_map.mp hb
        obtain ⟨o, e, _⟩ := hft j (hsz ▸ List.mem_range.mp hj)
        exact Nat.lt_succ_of_lt (Heap.lt_size e)
  · intro b' hb hw
    rcases List.mem_cons.mp hb with e | hb
    · exact absurd (by rw [e]; exact .head _) hw
    · rcases List.mem_cons.mp hb with e | hb
      · rw [e]; exact hl.imp (fun h => ⟨_, h⟩) fun h => ⟨_, fun _ => h⟩
      · obtain ⟨j, hj, rfl⟩ := List.mem_map.mp hb
        exact (hts _ (hf j (hsz ▸ List.mem_range.mp hj)).2.2).imp (fun h => ⟨_, h⟩) fun h => ⟨_, fun _ => h⟩
  · intro b' hb
    rw [List.mem_singleton.mp hb]; exact new_none F (Nat.le_refl _)
  · intro hm
    exact absurd (List.mem_singleton.mp hm) (Nat.ne_of_lt F.ns.lt)
  · intro p hp hI
    exact absurd (List.mem_singleton.mp hI) (Nat.ne_of_lt (Heap.lt_size (N p hp).1))
  · rintro i v₁ v₂ ys its C oC D m₂ h tk E' hlt ⟨a, b, t, u, rfl, rfl, hk⟩ hok hits hC hm1 hm2 F' N'
    cases its with
    | nil => cases hits
    | cons q r =>
      obtain ⟨a', oi⟩ := q
      cases r with
      | cons _ _ => simp at hits
      | nil =>
        have e9 : a' = s.heap.objs.size := by simpa using hits
        subst e9
        rw [hsz] at hlt
        exact step _ i a b t u ys _ oi C oC D m₂ h tk E' hlt (hk hlt) hok hC hm1 hm2 F' N'
end
end Mine
theorem Mine.words_P28b : True := by
  (k_with "eval ListComp" => (k_here; (with_reducible show wpAny _ _ (eval (Expr.ListComp _ [⟨Expr.Name _ _, Expr.Call _ [Expr.BinOp _ _ _ _] _ _, [], _⟩] _ _) _) _ _ _); k_dflt (refine Mine.ListComp_G (F₀ := by k_asm) (by with_unfolding_all rfl) (by decide) (by rfl) (by decide) (by rfl) ?_)))
  (k_with "eval ListComp" => (k_here; (first | (with_reducible show wpAny _ _ (eval (Expr.ListComp _ [⟨Expr.Tuple [_, _] _ _, Expr.Name _ _, _, _⟩] _ _) _) _ _ _) | (with_reducible show wpAny _ _ (eval (Expr.ListComp _ [⟨Expr.Tuple [_, _] _ _, Expr.Subscript _ _ _, _, _⟩] _ _) _) _ _ _)); k_dflt (refine Mine.ListComp_E (F₀ := by k_asm) (by with_unfolding_all rfl) (by decide) (by rfl) (by decide) (by rfl) (by rfl) (by decide) ?_)))
  trivial
namespace Mine
open PySem.Calls PySem.Spec PySem.W PyProof.Rows LCg

section
variable {prog : Program} {w : World} {A : Around} {E : Value → Shared → Prop} {s : Shared} {h₀ : Heap} {L : Addr} {m : Str → Option Value}
theorem inGround {g : Heap} {ts : Led} (h : ∀ p ∈ ts, g.get? p.1 = some p.2) : ∀ p ∈ ts, g.get? p.1 = some p.2 := h
theorem getN {news : Led} {l : Addr} {o : Obj} {h : Heap} (N : News h₀ L h news) (hm : (l, o) ∈ news) : h.get? l = some o := (N _ hm).1
theorem len_tupsG {l : Addr} {vs : List Value} {ps : List (Int × Int)} {ts : Led} {n : Nat} {Q : Value → Shared → Prop} (F : Fr h₀ L s.heap m) (hg : h₀.get? l = some (W.listOf vs.toArray n)) (hT : TupsAre vs ps ts) (hz : ps.length ≤ 1000) (h : Q (.int (ps.length : Int) (s.toks + 1)) { s with toks := s.toks + 1 + 1 }) :
    wpAny (model prog w) A (call (.builtin "len") [.ref l]) Q E s := kun_lenL ⟨_, F.keep _ _ hg, rfl, _, rfl⟩ (by simp [hT.1]) (by omega) h
theorem len_tupsN {news : Led} {l : Addr} {vs : List Value} {ps : List (Int × Int)} {ts : Led} {n : Nat} {Q : Value → Shared → Prop} (N : News h₀ L s.heap news) (hg : (l, W.listOf vs.toArray n) ∈ news) (hT : TupsAre vs ps ts) (hz : ps.length ≤ 1000) (h : Q (.int (ps.length : Int) (s.toks + 1)) { s with toks := s.toks + 1 + 1 }) :
    wpAny (model prog w) A (call (.builtin "len") [.ref l]) Q E s := kun_lenL ⟨_, (N _ hg).1, rfl, _, rfl⟩ (by simp [hT.1]) (by omega) h
theorem sub_last {value slice : Expr} {l : Addr} {vs : List Value} {ps : List (Int × Int)} {ts : Led} {n : Nat} {k : Int} {u : Tok} {Q : Value → Shared → Prop} (hl : s.heap.get? l = some (W.listOf vs.toArray n)) (hT : TupsAre vs ps ts) (hk : k = -1) (hts : ∀ p ∈ ts, s.heap.get? p.1 = some p.2) (h1 : 1 ≤ ps.length)
    (h : ∀ a x y t u, ps[ps.length - 1]? = some (x, y) → (a, tupII x t y u) ∈ ts → IsTup s.heap a [.int x t, .int y u].toArray → Q (.ref a) s)
    (hs : subscripted slice false (.ref l) (.int k u) = operate [.ref l, .int k u] (getItem (.ref l) (.int k u)) := by with_unfolding_all rfl) :
    wpAny (model prog w) A (subscriptTail value slice (.ref l) (.int k u)) Q E s := by
  subst hk
  have hlt : ps.length - 1 < vs.length := by rw [hT.1]; omega
  obtain ⟨a, x, y, t, u, e1, e2, e3⟩ := hT.at (List.getElem?_eq_getElem hlt)
  refine kde_neg ⟨_, hl, rfl, _, rfl⟩ (by decide) (by decide) (j := ps.length - 1) ?_ ((List.getElem?_eq_getElem hlt).trans (congrArg some e2)) (h a x y t u e1 e3 ⟨_, hts _ e3, rfl, _, rfl⟩) hs
  rw [hT.1]
  unfold seqIndex?
  have e9 : (-1 : Int) + (ps.length : Int) = ((ps.length - 1 : Nat) : Int) := by omega
  simp only [show ((-1 : Int) < 0) from by decide, if_true, e9]
  rw [if_pos (by rw [Bool.and_eq_true]; exact ⟨decide_eq_true (by omega), decide_eq_true (by omega)⟩)]
  rfl
theorem sub_first {value slice : Expr} {l : Addr} {vs : List Value} {ps : List (Int × Int)} {ts : Led} {n : Nat} {k : Int} {u : Tok} {Q : Value → Shared → Prop} (hl : s.heap.get? l = some (W.listOf vs.toArray n)) (hT : TupsAre vs ps ts) (hk : k = 0) (hts : ∀ p ∈ ts, s.heap.get? p.1 = some p.2) (h1 : 1 ≤ ps.length)
    (h : ∀ a x y t u, ps[0]? = some (x, y) → (a, tupII x t y u) ∈ ts → IsTup s.heap a [.int x t, .int y u].toArray → Q (.ref a) s)
    (hs : subscripted slice false (.ref l) (.int k u) = operate [.ref l, .int k u] (getItem (.ref l) (.int k u)) := by with_unfolding_all rfl) :
    wpAny (model prog w) A (subscriptTail value slice (.ref l) (.int k u)) Q E s := by
  subst hk
  have hlt : 0 < vs.length := by rw [hT.1]; omega
  obtain ⟨a, x, y, t, u, e1, e2, e3⟩ := hT.at (List.getElem?_eq_getElem hlt)
  have hL : s.heap.IsList l vs.toArray := ⟨_, hl, rfl, _, rfl⟩
  exact tail_any hL.typeIs slot_list_getitem.lookup (wpAny_getItem_list hL (by decide) (by decide) (by simpa using (List.getElem?_eq_getElem hlt).trans (congrArg some e2)) (h a x y t u e1 e3 ⟨_, hts _ e3, rfl, _, rfl⟩)) hs
end
def terms85 (gs : List Int) : List Int := gs.zipIdx.map fun p => p.1 * 85 ^ ((4 : Int) - (p.2 : Int)).toNat
theorem len5_cases {gs : List Int} (h : gs.length = 5) : ∃ a b c d e, gs = [a, b, c, d, e] := by
  obtain ⟨a, r1, e1, h1⟩ := len_cons h
  obtain ⟨b, r2, e2, h2⟩ := len_cons h1
  obtain ⟨c, r3, e3, h3⟩ := len_cons h2
  obtain ⟨d, r4, e4, h4⟩ := len_cons h3
  obtain ⟨e, r5, e5, h5⟩ := len_cons h4
  exact ⟨a, b, c, d, e, by rw [e1, e2, e3, e4, e5, List.length_eq_zero_iff.mp h5]⟩
theorem sum_terms85 {gs : List Int} (h : gs.length = 5) : (terms85 gs).sum = sum85 gs := by
  obtain ⟨a, b, c, d, e, rfl⟩ := len5_cases h
  simp [terms85, sum85, List.zipIdx]; omega
theorem sum85_bounds {gs : List Int} (h : gs.length = 5) (hin : ∀ x ∈ gs, 0 ≤ x ∧ x < 85) : 0 ≤ sum85 gs ∧ sum85 gs < 4437053125 := by
  have h9 := foldB (B := 85) (by decide) gs 0 (Int.le_refl _) hin
  rw [h] at h9
  exact h9
theorem pad5_len {ws : List Int} (h : ws.length ≤ 5) : (pad5 ws).length = 5 := by
  rw [pad5, flat_one, List.length_append, List.length_replicate]; omega
theorem pad5_in85 {ws : List Int} (h : ∀ x ∈ ws, 0 ≤ x ∧ x < 85) : ∀ x ∈ pad5 ws, 0 ≤ x ∧ x < 85 := by
  intro x hx
  rw [pad5, flat_one] at hx
  rcases List.mem_append.mp hx with hx | hx
  · exact h x hx
  · rw [(List.mem_replicate.mp hx).2]; decide
def octN (n : Int) (i : Nat) : Int := (n.fdiv ((256 : Int) ^ ((3 : Int) - (i : Int)).toNat)).fmod 256
theorem octs_eq {n : Int} (_h0 : 0 ≤ n) (k : Nat) (hk : k ≤ 4) : (List.range k).map (octN n) = (oct4 n).take k := by
  have f : ∀ m : Int, m.fdiv (256 * 256) = (m.fdiv 256).fdiv 256 := fun m => fdd m (by decide) (by decide)
  have p3 : n.fdiv ((256 : Int) ^ ((3 : Int) - ((0 : Nat) : Int)).toNat) = ((n.fdiv 256).fdiv 256).fdiv 256 := by
    show n.fdiv (256 * 256 * 256) = _
    rw [fdd n (b := 256 * 256) (by decide) (by decide), f n]
  have p2 : n.fdiv ((256 : Int) ^ ((3 : Int) - ((1 : Nat) : Int)).toNat) = (n.fdiv 256).fdiv 256 := f n
  have p1 : n.fdiv ((256 : Int) ^ ((3 : Int) - ((2 : Nat) : Int)).toNat) = n.fdiv 256 := rfl
  have p0 : n.fdiv ((256 : Int) ^ ((3 : Int) - ((3 : Nat) : Int)).toNat) = n := Int.fdiv_one n
  have hall : (List.range 4).map (octN n) = oct4 n := by
    show [octN n 0, octN n 1, octN n 2, octN n 3] = _
    unfold octN oct4
    rw [p3, p2, p1, p0]
  rw [← hall, ← List.map_take, List.take_range, Nat.min_eq_left hk]
end Mine
theorem Mine.words_P28c : True := by
  (k_with "call builtin:len" => (k_here; (with_reducible show wpAny _ _ (call (Value.builtin "len") [Value.ref _]) _ _ _); k_dflt (first | refine Mine.len_tupsG (by k_asm) (by assumption) (by assumption) (by omega) ?_ | refine Mine.len_tupsN (by k_asm) (by k_mem) (by assumption) (by omega) ?_)))
  (k_with "subscriptTail" => (k_here; (with_reducible show wpAny _ _ (subscriptTail _ _ (Value.ref _) (Value.int _ _)) _ _ _); k_dflt (refine item_tupleT (by assumption) (by decide) (by decide) rfl rfl ?_)))
  (k_with "subscriptTail" => (k_here; (with_reducible show wpAny _ _ (subscriptTail _ _ (Value.ref _) (Value.int _ _)) _ _ _); (rename Fr _ _ _ _ => F8_w); k_dflt (first
  | refine Mine.sub_last (F8_w.keep _ _ (by assumption)) (by assumption) rfl (fun p hp => F8_w.keep _ _ (Mine.inGround (by assumption) p hp)) (by omega) ?_); intro a9_w x9_w y9_w t9_w u9_w hp9_w hm9_w ht9_w; (try dsimp only at ht9_w); (try dsimp only)))
  trivial
namespace Mine
open PySem.Calls PySem.Spec PySem.W PyProof.Rows

set_option maxHeartbeats 1000000 in
theorem lawgroup_spec (w : World) (ga : Addr) (vs : List Value) (ps : List (Int × Int)) (ts : Led) (ng : Nat) (hT : TupsAre vs ps ts) (h2 : 2 ≤ ps.length) (h5 : ps.length ≤ 5) (hb : ∀ p ∈ ps, 0 ≤ p.2 ∧ p.2 < 85) :
    CSpec w 171 20 [.ref ga] ((ga, W.listOf vs.toArray ng) :: ts) [] (fun r nw =>
      (4294967295 < sum85 (pad5 (ps.map (·.2))) ∧ ∃ la y T u v, ps[ps.length - 1]? = some (la, y) ∧ r = .ref T ∧ nw = [(T, faultTup la u v)]) ∨
      (sum85 (pad5 (ps.map (·.2))) ≤ 4294967295 ∧ ∃ l os n, r = .ref l ∧ nw = [(l, W.listOf os.toArray n)] ∧ IntsAre os (octGrp (ps.map (·.2))))) := by
  refine' CSpec.of_bodyC [(Str.ofString "group", .ref ga)] ?ho ?hcd ?hb ?hl ?hc ?h1 ?h2 ?h3 ?_
  walk_at "mine bodyC"
  intro dp un gd cn cs L a ccd cl outer base g L' h₁ s tk cells p loose mean mg mb hd9 hu B F N YC hca X T lt hrd
  have kM := kstMark
  obtain ⟨c1, hco, hd1⟩ := CellsAre.one YC
  subst hco
  simp only [List.cons_append, List.nil_append] at N
  replace hd1 : c1.data = Data.cell none := hd1
  clear YC
  replace hca := (hca _ (.head _) : @LT.lt Nat _ L' (L' + 1))
  have hgg : g.get? ga = some (W.listOf vs.toArray ng) := hrd _ (.head _)
  have hgl : g.IsList ga vs.toArray := ⟨_, hgg, rfl, _, rfl⟩
  have htg : ∀ p ∈ ts, g.get? p.1 = some p.2 := fun p hp => hrd p (.tail _ hp)
  have hvl := hT.1
  walk_at "mine go"
  k_steps
  (rename Fr _ _ _ _ => F1)
  (rename News _ _ _ _ => N1)
  refine pair_tups (fun i ys => IntsAre ys ((ps.map (·.2)).take i) ∧ ys.length ≤ i) rfl F1 N1 (.inl hgg) hT (fun p hp => .inl (htg p hp)) (by rw [sizeLine_eq]; omega) ⟨.nil, Nat.le_refl _⟩ (fun _ _ o => o.2) ?_ ?_
  · rintro gg i k x t u ys it oi C oC D m₂ h tk E' hlt hp ⟨hys, hyl⟩ hC hm1 hm2 F2 N2
    clear F1 N1
    refine wpAny_tests_nil ?_
    rw [if_pos rfl]
    try dsimp only
    k_steps
    refine ⟨_, _, _, rfl, by k_asm, by k_asm, fun _ hp => hp, ?_, by rw [List.length_append]; exact Nat.add_le_add_right hyl 1⟩
    rw [take_succ_of (k := x) (by rw [List.getElem?_map, hp]; rfl)]
    exact IntsAre.append hys (.cons _ _ .nil)
  · rintro gg ys ⟨hys, hyl⟩
    rw [List.take_of_length_le (by rw [List.length_map, hvl]; exact Nat.le_refl _)] at hys
    intro D h9 tk9 F2 N2 off2
    clear F1 N1
    have hwl : (ps.map (·.2)).length = ps.length := List.length_map ..
    generalize hws : ps.map (·.2) = ws at *
    replace N2 : News g L' h9 ((D, W.listOf ys.toArray ys.length) :: _) := N2
    have off3 := off2
    simp only [LCg.Off1, and_true] at off3
    try dsimp only
    k_steps
    rename IntsAre _ (ws ++ _) => hI1
    rw [show ws ++ (List.replicate (5 - (ps.length : Int)).toNat [84]).flatten = pad5 ws by rw [pad5, hwl]] at hI1
    have hpl : (pad5 ws).length = 5 := pad5_len (by omega)
    have hpin := pad5_in85 (ws := ws) (fun x hx => by
      rw [← hws] at hx
      obtain ⟨q, hq, rfl⟩ := List.mem_map.mp hx
      exact hb q hq)
    generalize hwp : pad5 ws = wp at *
    have hgl9 := hI1.length
    (rename Fr _ _ _ _ => F3)
    (rename News _ _ _ _ => N3)
    refine pair_list (fun i ys => IntsAre ys (terms85 (wp.take i)) ∧ ys.length ≤ i) rfl F3 N3 (.head _) (by rw [sizeLine_eq]; omega) ⟨.nil, Nat.le_refl _⟩ (fun _ _ o => o.2) ?_ ?_
    · rintro gg i2 v t2 zs e oe it oi C oC D2 m₂ h tk E' hlt2 hv ⟨hzs, hzl⟩ hC hm1 hm2 F4 N4
      obtain ⟨k, t3, hk, rfl⟩ := ints_at hI1 hv
      have hi3 : (0 : Int) ≤ 4 - (i2 : Int) := by omega
      have hi4 : (4 : Int) - (i2 : Int) ≤ 4 := by omega
      clear F3 N3
      refine wpAny_tests_nil ?_
      rw [if_pos rfl]
      try dsimp only
      have hkb : 0 ≤ k ∧ k < 85 := hpin _ (List.mem_of_getElem? hk)
      have hpe : (85 : Int) ^ ((4 : Int) - (i2 : Int)).toNat = 52200625 ∨ (85 : Int) ^ ((4 : Int) - (i2 : Int)).toNat = 614125 ∨ (85 : Int) ^ ((4 : Int) - (i2 : Int)).toNat = 7225 ∨ (85 : Int) ^ ((4 : Int) - (i2 : Int)).toNat = 85 ∨ (85 : Int) ^ ((4 : Int) - (i2 : Int)).toNat = 1 := by
        have : i2 = 0 ∨ i2 = 1 ∨ i2 = 2 ∨ i2 = 3 ∨ i2 = 4 := by omega
        rcases this with rfl | rfl | rfl | rfl | rfl
        · exact .inl rfl
        · exact .inr (.inl rfl)
        · exact .inr (.inr (.inl rfl))
        · exact .inr (.inr (.inr (.inl rfl)))
        · exact .inr (.inr (.inr (.inr rfl)))
      k_steps
      generalize hpw : (85 : Int) ^ ((4 : Int) - (i2 : Int)).toNat = pw at hpe ⊢
      try dsimp only
      have hmb : 0 ≤ k * pw ∧ k * pw < 4437053125 := by rcases hpe with rfl | rfl | rfl | rfl | rfl <;> omega
      k_steps
      refine ⟨_, _, _, rfl, by k_asm, by k_asm, fun _ hp => hp, ?_, ?_⟩
      · rw [take_succ_of hk, terms85, List.zipIdx_append, List.map_append]
        have hlt3 : i2 < wp.length := (List.getElem?_eq_some_iff.mp hk).1
        refine IntsAre.append hzs ?_
        rw [show (0 : Nat) + (wp.take i2).length = i2 by rw [List.length_take]; omega]
        show IntsAre _ [k * 85 ^ ((4 : Int) - (i2 : Int)).toNat]
        rw [hpw]
        exact .cons _ _ .nil
      · rw [List.length_append]; exact Nat.add_le_add_right hzl 1
    · rintro gg zs ⟨hzs, hzl⟩
      intro D2 h9 tk9 F4 N4 off4
      clear F3 N3
      rw [hgl9, List.take_length] at hzs
      have hsum := sum_terms85 hpl
      obtain ⟨hsb0, hsb1⟩ := sum85_bounds hpl hpin
      rw [← hsum] at hsb0 hsb1
      try dsimp only
      have off5 := off4
      simp only [LCg.Off1, and_true] at off5
      k_steps
      · rename 256 ^ Int.toNat 4 ≤ (terms85 wp).sum => hbig
        have hbig' : (4294967296 : Int) ≤ (terms85 wp).sum := hbig
        exact Back.intro [_] (by k_asm) (by k_asm) (List.forall_mem_cons.mpr ⟨.head _, List.forall_mem_nil _⟩) (.inl ⟨by rw [hws, hwp, ← hsum]; exact hbig', _, _, _, _, _, by assumption, rfl, rfl⟩)
      · rename IsRange _ _ _ _ _ _ _ _ => hr5
        (rename Fr _ _ _ _ => F5)
        (rename News _ _ _ _ => N5)
        rename ¬ 256 ^ Int.toNat 4 ≤ (terms85 wp).sum => hbig
        have hbig' : ¬ (4294967296 : Int) ≤ (terms85 wp).sum := hbig
        clear hbig
        generalize hnum : (terms85 wp).sum = num at *
        refine comp_range (n := ps.length - 1) rfl F5 N5 hr5 (range1_small (n := ps.length - 1) (by omega) (by omega) (by omega)) (range1_size (n := ps.length - 1) (by omega)) (by rw [sizeLine_eq]; omega) ?_
        intro gg2
        try dsimp only
        refine comp_rest (fun i ys => IntsAre ys ((List.range i).map (octN num))) .nil trivial ?_ ?_
        · rintro i v ys2 I2 oI2 C2 oC2 D3 m₃ h3 tk3 E3 hlt3 ⟨t6, rfl⟩ hys2 hC3 hm3 F6 N6 off6 ne6
          rw [show (0 + (i : Int) * 1) = (i : Int) by omega] at hm3
          clear F5 N5 hr5
          have hi4 : (0 : Int) ≤ 3 - (i : Int) := by omega
          have hi5 : (3 : Int) - (i : Int) ≤ 3 := by omega
          try dsimp only
          have hpe : (256 : Int) ^ ((3 : Int) - (i : Int)).toNat = 16777216 ∨ (256 : Int) ^ ((3 : Int) - (i : Int)).toNat = 65536 ∨ (256 : Int) ^ ((3 : Int) - (i : Int)).toNat = 256 ∨ (256 : Int) ^ ((3 : Int) - (i : Int)).toNat = 1 := by
            have : i = 0 ∨ i = 1 ∨ i = 2 ∨ i = 3 := by omega
            rcases this with rfl | rfl | rfl | rfl
            · exact .inl rfl
            · exact .inr (.inl rfl)
            · exact .inr (.inr (.inl rfl))
            · exact .inr (.inr (.inr rfl))
          k_steps
          generalize hpw : (256 : Int) ^ ((3 : Int) - (i : Int)).toNat = pw at hpe ⊢
          try dsimp only
          have hpb : 1 ≤ pw ∧ pw ≤ 16777216 := by rcases hpe with rfl | rfl | rfl | rfl <;> omega
          clear hpe
          k_steps
          refine ⟨_, _, _, rfl, by k_asm, by k_asm, fun _ hp => hp, ?_⟩
          rw [List.range_succ, List.map_append]
          refine IntsAre.append hys2 ?_
          show IntsAre _ [octN num i]
          unfold octN
          rw [hpw]
          exact .cons _ _ .nil
        · intro ys2 hys2
          intro D3 h9 tk9 F6 N6 off6
          clear F5 N5 hr5
          try dsimp only
          k_steps
          exact Back.intro [_] (by k_asm) (by k_asm) (List.forall_mem_cons.mpr ⟨.head _, List.forall_mem_nil _⟩) (.inr ⟨by rw [hws, hwp, ← hsum]; omega, _, ys2, _, rfl, rfl, by
            rw [octs_eq hsb0 _ (by omega)] at hys2
            rw [octGrp, hws, hwp, ← hsum, show (4 - (5 - (ws.length : Int))).toNat = ps.length - 1 by omega]
            exact hys2⟩)
end Mine
namespace Mine
open PySem.Calls PySem.Spec PySem.W PyProof.Rows Builtin

section
variable {prog : Program} {w : World} {A : Around} {E : Value → Shared → Prop} {s : Shared} {env : Env} {h₀ : Heap} {elts : List Expr} {kk : Nat} {pos : Pos} {body : List Stmt} {Q : Flow → Shared → Prop}
/-- for at, one in enumerate(list) -/
theorem turns_enumL {σ : Type} {l : Addr} {vs : List Value} {nl : Nat} {m₀ : Str → Option Value} (Le : σ → Led) (ps : σ → List (Str × Value)) (stored : List Str) (P : Nat → σ → Prop) (c₀ : σ)
    (hl : ∀ c, (l, W.listOf vs.toArray nl) ∈ Le c) (hh : A.handled = none) (F : Fr h₀ env.locals s.heap m₀) (N : News h₀ env.locals s.heap (Le c₀)) (hk : ∀ p ∈ ps c₀, m₀ p.1 = some p.2) (hp : P 0 c₀)
    (turn : ∀ i v T t c u h tk e it o o', vs[i]? = some v → i < vs.length → P i c → IsTup h T #[.int i t, v] →
      OwnOff [(e, o), (it, o')] ((Le c).map (·.1)) → it < e → (∀ p ∈ Le c₀, p.1 < it) → Fr h₀ env.locals h (tmap (ps c) stored u m₀) → News h₀ env.locals h (Le c ++ [(e, o), (it, o')]) →
      wpAny (model prog w) A (assign (.Tuple elts kk pos) env (.ref T)) (fun _ s₃ => wpAny (model prog w) A (execs body env) (TurnPost h₀ env.locals (TJ Le ps stored m₀ (P (i + 1))) [(e, o), (it, o')] { s with heap := h, toks := tk } Q) E s₃) E { s with heap := h, toks := tk })
    (done : ∀ c u h tk, P vs.length c → Fr h₀ env.locals h (tmap (ps c) stored u m₀) → News h₀ env.locals h (Le c) → Q .next { s with heap := h, toks := tk }) :
    wpAny (model prog w) A (call (.type "enumerate") [.ref l]) (fun xv s₁ => wpAny (model prog w) A (pyIter xv) (fun it s₂ => TurnsAt prog w A h₀ env (.Tuple elts kk pos) body Q E it s₂) E s₁) E s := by
  obtain ⟨gl, nL, g0⟩ := N _ (hl c₀)
  have hls : s.heap.IsList l vs.toArray := ⟨_, gl, rfl, _, rfl⟩
  have hlt : l < s.heap.objs.size := Heap.lt_size gl
  refine call_enumerate_list hls fun h' he hit hz hkeep => ?_
  refine wpAny_pyIter_enum he ?_
  have hLt : env.locals < s.heap.objs.size := F.ns.lt
  have hei : s.heap.objs.size + 1 ≠ s.heap.objs.size := Nat.succ_ne_self _
  have D0 := Draws.list (prog := prog) (w := w) (A := A.in1) hh s.heap.objs.size l (Nat.ne_of_lt hlt) vs.toArray
  have hsz : vs.toArray.size = vs.length := by simp
  have hef : s.heap.objs.size + 1 ∉ [s.heap.objs.size, l] := fun hm => by
    rcases List.mem_cons.mp hm with e | hm
    · exact hei e
    · exact absurd (List.mem_singleton.mp hm) (Ne.symm (Nat.ne_of_lt (Nat.lt_succ_of_lt hlt)))
  have W := KTurns.ofWalksU (elts := elts) (k := kk) (pos := pos) (WalksT.enumerateD D0 (s.heap.objs.size + 1) hei hef (.head _)).toU
  rw [hsz] at W
  have F' : Fr h₀ env.locals h' m₀ := F.keeps hkeep
  have N' : News h₀ env.locals h' (Le c₀) := fun p hp => ⟨hkeep _ _ (N p hp).1, (N p hp).2⟩
  refine turnsS W Le ps stored P c₀ (fun its => True) ?_ ?_ ?_ ?_ ⟨⟨_, by simpa using he⟩, ⟨hit, hls.at fun o e => hkeep _ _ e⟩⟩ F' N' ?_ hk hp ?_ ?_
  · rintro i h ⟨⟨old, he⟩, ⟨o, ho, _⟩, _⟩
    exact ⟨[(_, _), (_, o)], rfl, List.forall_mem_cons.mpr ⟨he, List.forall_mem_cons.mpr ⟨ho, List.forall_mem_nil _⟩⟩, trivial⟩
  · intro b' hb hw _
    rcases List.mem_cons.mp hb with e | hb
    · exact absurd (by rw [e]; exact .head _) hw
    · rcases List.mem_cons.mp hb with e | hb
      · exact absurd (by rw [e]; exact .tail _ (.head _)) hw
      · rw [List.mem_singleton.mp hb]; exact ⟨_, hl⟩
  · intro hm
    rcases List.mem_cons.mp hm with e | hm
    · rw [e] at hLt; exact absurd hLt (Nat.not_lt.mpr (Nat.le_succ _))
    · rcases List.mem_cons.mp hm with e | hm
      · rw [e] at hLt; exact absurd hLt (Nat.lt_irrefl _)
      · exact nL (List.mem_singleton.mp hm).symm
  · intro b' hb
    rcases List.mem_cons.mp hb with e | hb
    · exact new_none F (by rw [e]; exact Nat.le_succ _)
    · exact new_none F (by rw [List.mem_singleton.mp hb]; exact Nat.le_refl _)
  · intro p hp hI
    have := Heap.lt_size (N p hp).1
    rcases List.mem_cons.mp hI with e | hI
    · rw [e] at this; exact absurd this (Nat.not_lt.mpr (Nat.le_succ _))
    · rw [List.mem_singleton.mp hI] at this; exact absurd this (Nat.lt_irrefl _)
  · rintro i v c u h tk its hi ⟨T, vals, rfl, ⟨t, y, hy, rfl⟩, hT⟩ hP hits hok hoff F₁ N₁
    obtain ⟨o, o', rfl⟩ := its_two' hits
    exact turn i y T t c u h tk _ _ o o' (by simpa using hy) hi hP hT hoff (Nat.lt_succ_self _) (fun p hp => Heap.lt_size (N p hp).1) F₁ N₁
  · exact fun c u h tk hP F' N' => done c u h tk hP F' N'

/-- the same, where the body may break -/
theorem turns_enumLB {σ : Type} {l : Addr} {vs : List Value} {nl : Nat} {m₀ : Str → Option Value} (Le : σ → Led) (ps : σ → List (Str × Value)) (stored : List Str) (P : Nat → σ → Prop) (Bk : σ → Prop) (c₀ : σ)
    (hl : ∀ c, (l, W.listOf vs.toArray nl) ∈ Le c) (hh : A.handled = none) (F : Fr h₀ env.locals s.heap m₀) (N : News h₀ env.locals s.heap (Le c₀)) (hk : ∀ p ∈ ps c₀, m₀ p.1 = some p.2) (hp : P 0 c₀)
    (turn : ∀ i v T t c u h tk e it o o', vs[i]? = some v → i < vs.length → P i c → IsTup h T #[.int i t, v] →
      OwnOff [(e, o), (it, o')] ((Le c).map (·.1)) → it < e → (∀ p ∈ Le c₀, p.1 < it) → Fr h₀ env.locals h (tmap (ps c) stored u m₀) → News h₀ env.locals h (Le c ++ [(e, o), (it, o')]) →
      wpAny (model prog w) A (assign (.Tuple elts kk pos) env (.ref T)) (fun _ s₃ => wpAny (model prog w) A (execs body env) (TurnPostB h₀ env.locals (TJ Le ps stored m₀ (P (i + 1))) (TJ Le ps stored m₀ Bk) [(e, o), (it, o')] { s with heap := h, toks := tk } Q) E s₃) E { s with heap := h, toks := tk })
    (done : ∀ c u h tk, P vs.length c ∨ Bk c → Fr h₀ env.locals h (tmap (ps c) stored u m₀) → News h₀ env.locals h (Le c) → Q .next { s with heap := h, toks := tk }) :
    wpAny (model prog w) A (call (.type "enumerate") [.ref l]) (fun xv s₁ => wpAny (model prog w) A (pyIter xv) (fun it s₂ => TurnsAt prog w A h₀ env (.Tuple elts kk pos) body Q E it s₂) E s₁) E s :=
  turns_enumL Le ps stored P c₀ hl hh F N hk hp (fun i v T t c u h tk e it o o' a1 a2 a3 a4 a5 a6 a7 F₁ N₁ =>
    wpAny_mono (turn i v T t c u h tk e it o o' a1 a2 a3 a4 a5 a6 a7 F₁ N₁) (fun _ s₃ h₃ => wpAny_mono h₃ (fun f s₂ p => TurnPostB.to (fun c u h tk hb F N => done c u h tk (.inr hb) F N) p) fun _ _ e => e) fun _ _ e => e)
    (fun c u h tk hP => done c u h tk (.inl hP))
end
theorem News.swap {g h : Heap} {L : Addr} {a b : Led} (N : News g L h (a ++ b)) : News g L h (b ++ a) := fun p hp => N p ((List.mem_append.mp hp).elim (fun h => List.mem_append_right _ h) fun h => List.mem_append_left _ h)
theorem News.more {g h : Heap} {L : Addr} {a : Led} {p : Addr × Obj} (N : News g L h a) (hp : p ∈ a) : News g L h (p :: a) := List.forall_mem_cons.mpr ⟨N p hp, N⟩
theorem allLt_all {d : Addr} : ∀ {l : Led}, AllLt d l → ∀ p ∈ l, @LT.lt Nat _ p.1 d
  | [], _ => fun _ h => nomatch h
  | _ :: _, h => List.forall_mem_cons.mpr ⟨h.1, allLt_all h.2⟩
theorem allLt_ne {d : Addr} {l : Led} (h : AllLt d l) : ∀ p ∈ l, @Ne Nat p.1 d := fun p hp => Nat.ne_of_lt (allLt_all h p hp)
section
variable {prog : Program} {w : World} {A : Around} {E : Value → Shared → Prop} {s : Shared} {h₀ : Heap} {L : Addr}
theorem len_anyN {news : Led} {l : Addr} {vs : List Value} {n k : Nat} {Q : Value → Shared → Prop} (N : News h₀ L s.heap news) (hg : (l, W.listOf vs.toArray n) ∈ news) (hT : vs.length = k) (hz : k ≤ 1000) (h : Q (.int (k : Int) (s.toks + 1)) { s with toks := s.toks + 1 + 1 }) :
    wpAny (model prog w) A (call (.builtin "len") [.ref l]) Q E s := kun_lenL ⟨_, (N _ hg).1, rfl, _, rfl⟩ (by simp [hT]) (by omega) h
end
theorem len_snoc1 {vs : List Value} {x : Value} {k : Nat} (h : vs.length = k) : (vs ++ [x]).length = k + 1 := by rw [List.length_append, h]; rfl
def StopHere2 : Prop := (10 : Nat) = 10
theorem StopHere2.i : StopHere2 := rfl
end Mine
local macro_rules | `(tactic| k_all) => `(tactic| with_reducible assumption)
theorem Mine.words_P29a : True := by
  (k_with "call builtin:len" => (k_here; (with_reducible show wpAny _ _ (call (Value.builtin "len") [Value.ref _]) _ _ _); k_dflt (refine Mine.len_anyN (by k_asm) (by k_mem) (by first | with_reducible assumption | exact Mine.len_snoc1 (by with_reducible assumption)) (by omega) ?_)))
  (k_with "exec If" => (k_here; (rename Mine.StopHere2 => st9_w); (with_reducible show wpAny _ _ (exec (Stmt.If (Expr.Compare (Expr.Call _ _ _ _) _ _ _) _ _ _) _) _ _ _); clear st9_w; refine Mine.Lock.out ?_))
  (k_with "exec Assign cons ListComp" => (k_here; (with_reducible show wpAny _ _ (exec (Stmt.Assign [Expr.Name (Str.ofString "signs") _] (Expr.ListComp _ [⟨Expr.Tuple [_, _] _ _, Expr.Call _ [_] _ _, [_], _⟩] _ _) _) _) _ _ _); k_dflt (refine Mine.Assign_ListComp_EG (F₀ := by k_asm) (by rfl) (by with_unfolding_all rfl) (by with_unfolding_all rfl) (by decide) (by rfl) (by decide) (by rfl) (by rfl) (by decide) (by rfl) (by rfl) ?_)))
  (k_with "call builtin:isinstance" => (k_here; (with_reducible show wpAny _ _ (call _ [Value.ref _, Value.type _]) _ _ _); k_dflt (first | (refine' kia_one kitx_tuple ?X ?c ?ee ?nb ?_; (case c => (refine' kitAt_N ?N ?m ?c; (case N => k_asm); (case m => k_mem); (case c => with_reducible rfl))); (case X => k_in); (case ee => kit_is); (case nb => (intro q_w; cases q_w)); k_whole; intro _) | (refine' kia_one kitx_list ?X ?c ?ee ?nb ?_; (case c => (refine' kitAt_N ?N ?m ?c; (case N => k_asm); (case m => k_mem); (case c => with_reducible rfl))); (case X => k_in); (case ee => kit_is); (case nb => (intro q_w; cases q_w)); k_whole; intro _))))
  trivial
namespace Mine
open PySem.Calls PySem.Spec PySem.W PyProof.Rows

def sgn : List Int → Nat → List (Int × Int)
  | [], _ => []
  | k :: r, i => if isWhite k then sgn r (i + 1) else ((i : Int), k) :: sgn r (i + 1)
theorem sgn_append : ∀ (a b : List Int) (i : Nat), sgn (a ++ b) i = sgn a i ++ sgn b (i + a.length)
  | [], b, i => rfl
  | k :: r, b, i => by
    rw [List.cons_append, sgn, sgn, sgn_append r b (i + 1), show i + 1 + r.length = i + (k :: r).length by rw [List.length_cons]; omega]
    split
    · rfl
    · rw [List.cons_append]
theorem sgn_len : ∀ (a : List Int) (i : Nat), (sgn a i).length ≤ a.length
  | [], _ => Nat.le_refl _
  | k :: r, i => by
    rw [sgn]
    split
    · exact Nat.le_trans (sgn_len r (i + 1)) (by simp)
    · rw [List.length_cons, List.length_cons]; exact Nat.succ_le_succ (sgn_len r (i + 1))
theorem sgn_snoc {ks : List Int} {i : Nat} {k : Int} (h : ks[i]? = some k) : sgn (ks.take (i + 1)) 0 = sgn (ks.take i) 0 ++ (if isWhite k then [] else [((i : Int), k)]) := by
  have hlt : i < ks.length := (List.getElem?_eq_some_iff.mp h).1
  rw [take_succ_of h, sgn_append]
  congr 1
  rw [List.length_take, Nat.min_eq_left (Nat.le_of_lt hlt), Nat.zero_add, sgn, sgn]
theorem sgn_in : ∀ {a : List Int} {i : Nat}, (∀ k ∈ a, 0 ≤ k ∧ k < 256) → ∀ p ∈ sgn a i, (0 ≤ p.1 ∧ p.1 < i + a.length) ∧ 0 ≤ p.2 ∧ p.2 < 256
  | [], _, _ => fun _ h => nomatch h
  | k :: r, i, h => fun p hp => by
    have hr := sgn_in (a := r) (i := i + 1) fun x hx => h x (.tail _ hx)
    rw [sgn] at hp
    rw [List.length_cons]
    split at hp
    · have := hr p hp
      omega
    · rcases List.mem_cons.mp hp with rfl | hp
      · have := h k (.head _)
        dsimp only; omega
      · have := hr p hp
        omega

def rdGo : List (Int × Int) → List Int → List (Int × Int) → Except Int (List Int × List (Int × Int))
  | [], os, gp => .ok (os, gp)
  | (a, k) :: r, os, gp =>
    if k = 126 then (if (r.take 1).map (·.2) = [62] then .ok (os, gp) else .error a)
    else if k = 122 ∧ gp = [] then rdGo r (os ++ [0, 0, 0, 0]) gp
    else if ¬ (33 ≤ k ∧ k ≤ 117) then .error a
    else if gp.length = 4 then (if sum85 (pad5 ((gp ++ [(a, k - 33)]).map (·.2))) ≤ 4294967295 then rdGo r (os ++ octGrp ((gp ++ [(a, k - 33)]).map (·.2))) [] else .error a)
    else rdGo r os (gp ++ [(a, k - 33)])
def lastAt (gp : List (Int × Int)) : Int := (gp.getLast?.getD (-1, 0)).1
def rdFin (os : List Int) (gp : List (Int × Int)) : Except Int (List Int) :=
  if gp.length = 1 then .error (lastAt gp) else if gp = [] then .ok os else if sum85 (pad5 (gp.map (·.2))) ≤ 4294967295 then .ok (os ++ octGrp (gp.map (·.2))) else .error (lastAt gp)
def rdDec (ks : List Int) : Except Int (List Int) := match rdGo (sgn ks 0) [] [] with
  | .ok (os, gp) => rdFin os gp
  | .error k => .error k

theorem nextEnd_sgn : ∀ (r : List Int) (i : Nat), nextEnd r = decide (((sgn r i).take 1).map (·.2) = [62])
  | [], _ => rfl
  | k :: r, i => by
    rw [nextEnd, sgn]
    by_cases h62 : k = 62
    · subst h62
      rfl
    · rw [if_neg h62]
      by_cases hw : isWhite k = true
      · rw [if_pos hw, if_pos hw]; exact nextEnd_sgn r (i + 1)
      · rw [if_neg hw, if_neg hw]
        simp [h62]
theorem rdFin_eq (os ss : List Int) (la : Int) (gp : List (Int × Int)) (hs : ss = gp.map (·.2)) (hl : gp ≠ [] → la = lastAt gp) : rdFin os gp = b85Fin os ss la := by
  subst hs
  unfold rdFin b85Fin
  rw [List.length_map]
  by_cases h0 : gp = []
  · subst h0; rfl
  · rw [hl h0]
    have e : (gp.map (·.2) = []) = (gp = []) := by simp
    simp only [e]
/-- the law's reading and the program's reading stop alike -/
theorem rdGo_eq : ∀ (ks : List Int) (i : Nat) (os ss : List Int) (la : Int) (gp : List (Int × Int)), ss = gp.map (·.2) → (gp ≠ [] → la = lastAt gp) →
    (match rdGo (sgn ks i) os gp with | .ok (os, gp) => rdFin os gp | .error k => .error k) = (match b85Go ks i os ss la with | .ok (os, ss, la) => b85Fin os ss la | .error k => .error k)
  | [], i, os, ss, la, gp, hs, hl => by
    rw [b85Go, sgn, rdGo]
    exact rdFin_eq os ss la gp hs hl
  | k :: r, i, os, ss, la, gp, hs, hl => by
    have IH := rdGo_eq r
    rw [b85Go, sgn]
    by_cases hw : isWhite k = true
    · rw [if_pos hw, if_pos hw]; exact IH _ _ _ _ _ hs hl
    · rw [if_neg hw, if_neg hw, rdGo]
      have e : (ss = []) = (gp = []) := by rw [hs]; simp
      have el : ss.length = gp.length := by rw [hs, List.length_map]
      by_cases h126 : k = 126
      · rw [if_pos h126, if_pos h126, nextEnd_sgn r (i + 1)]
        by_cases hn : ((sgn r (i + 1)).take 1).map (·.2) = [62]
        · rw [if_pos hn, if_pos (decide_eq_true hn)]
          exact rdFin_eq os ss la gp hs hl
        · rw [if_neg hn, if_neg (by rw [decide_eq_true_eq]; exact hn)]
      · rw [if_neg h126, if_neg h126]
        by_cases hz : k = 122 ∧ gp = []
        · rw [if_pos hz, if_pos (e ▸ hz : k = 122 ∧ ss = [])]; exact IH _ _ _ _ _ hs hl
        · rw [if_neg hz, if_neg (fun h => hz (e ▸ h) : ¬ (k = 122 ∧ ss = []))]
          by_cases hr : ¬ (33 ≤ k ∧ k ≤ 117)
          · rw [if_pos hr, if_pos hr]
          · rw [if_neg hr, if_neg hr, el]
            have em : (gp ++ [((i : Int), k - 33)]).map (·.2) = ss ++ [k - 33] := by rw [List.map_append, hs]; rfl
            rw [em]
            by_cases h4 : gp.length = 4
            · rw [if_pos h4, if_pos h4]
              by_cases hb : sum85 (pad5 (ss ++ [k - 33])) ≤ 4294967295
              · rw [if_pos hb, if_pos hb]; exact IH _ _ _ _ _ rfl (fun h => absurd rfl h)
              · rw [if_neg hb, if_neg hb]
            · rw [if_neg h4, if_neg h4]
              exact IH _ _ _ _ _ em.symm (fun _ => by simp [lastAt])
theorem rdDec_eq (ks : List Int) : rdDec ks = b85Dec ks := rdGo_eq ks 0 [] [] (-1) [] rfl (fun h => absurd rfl h)

section
variable {prog : Program} {w : World} {A : Around} {E : Value → Shared → Prop} {s : Shared}
theorem wpAny_tests_one {c : Expr} {env : Env} {Q : Bool → Shared → Prop} (h : wpAny (model prog w) A (isTrue c env (eval c env)) Q E s) : wpAny (model prog w) A (testsOf [c] env) Q E s := by
  unfold testsOf
  rw [List.forIn_cons]
  refine wpAny_bind ?_
  rw [if_pos rfl]
  exact wpAny_bind (wpAny_mono h (fun _ _ hq => wpAny_pure (wpAny_pure hq)) fun _ _ e => e)
end
theorem dec_err {ks : List Int} {ps : List (Int × Int)} (hps : ps = sgn ks 0) {a : Int} (h : rdGo ps [] [] = .error a) : b85Dec ks = .error a := by
  rw [← rdDec_eq, rdDec, ← hps, h]
theorem dec_ok {ks : List Int} {ps : List (Int × Int)} (hps : ps = sgn ks 0) {os : List Int} {gp : List (Int × Int)} (h : rdGo ps [] [] = .ok (os, gp)) : b85Dec ks = rdFin os gp := by
  rw [← rdDec_eq, rdDec, ← hps, h]
theorem cut_one {α : Type} (l : List α) (i : Nat) : (l.drop ((i : Int) + 1).toNat).take (min ((i : Int) + 2).toNat l.length - ((i : Int) + 1).toNat) = (l.drop (i + 1)).take 1 := by
  rw [show ((i : Int) + 1).toNat = i + 1 by omega, show ((i : Int) + 2).toNat = i + 2 by omega]
  by_cases h : i + 2 ≤ l.length
  · rw [Nat.min_eq_left h]; congr 1; omega
  · rw [List.take_of_length_le (by rw [List.length_drop]; omega)]
    by_cases h2 : i + 1 < l.length
    · rw [List.take_of_length_le (by rw [List.length_drop]; omega)]
    · rw [List.drop_of_length_le (by omega)]; simp
structure SG where
  ps : List (Int × Int)
  ts : Led
structure RB where
  fa : Addr
  vf : List Value
  os : List Int
  nf : Nat
  ga : Addr
  vg : List Value
  gp : List (Int × Int)
  ng : Nat
  ts : Led
end Mine
namespace Mine
open PySem.Calls PySem.Spec PySem.W PyProof.Rows

abbrev tupd (p : Int × Int) : PyData := .tuple [.int p.1, .int p.2]
theorem tupd_lay : ∀ ps : List (Int × Int), PyData.canLayAll0 (ps.map tupd) = true
  | [] => rfl
  | p :: r => by simp [PyData.canLayAll0, PyData.canLay0, tupd_lay r]
theorem tupd_depth : ∀ ps : List (Int × Int), PyData.depthAll (ps.map tupd) ≤ 4
  | [] => by simp [PyData.depthAll]
  | p :: r => by
    have := tupd_depth r
    simp [PyData.depthAll, PyData.depth]
    omega
theorem tupd_shaped (ps : List (Int × Int)) : SeqAt.shaped (.list (ps.map tupd)) = true := by
  have h := tupd_depth ps
  have h2 : PyData.depth (.list (ps.map tupd)) ≤ 64 := by
    simp only [PyData.depth]
    omega
  unfold SeqAt.shaped
  rw [Bool.and_eq_true]
  exact ⟨by simp [PyData.canLay0, tupd_lay], decide_eq_true h2⟩
theorem tupd_eqv : ∀ ps : List (Int × Int), PyData.eqv (.list (ps.map tupd)) (.list []) = decide (ps = [])
  | [] => by simp [PyData.eqv, PyData.eqvAll]
  | p :: r => by simp [PyData.eqv, PyData.eqvAll]
theorem tups_read {h : Heap} {ts : Led} (hts : ∀ p ∈ ts, h.get? p.1 = some p.2) : ∀ {vs : List Value} {ps : List (Int × Int)}, TupsAre vs ps ts → ∃ as, ReadsAll h vs (ps.map tupd) as
  | [], [], _ => ⟨_, .nil⟩
  | [], p :: r, hT => by have := hT.1; simp at this
  | v :: r, [], hT => by have := hT.1; simp at this
  | v :: r, p :: q, hT => by
    obtain ⟨as, ih⟩ := tups_read hts (vs := r) (ps := q) ⟨by have := hT.1; simpa using this, fun i z hz => by simpa using hT.2 (i + 1) z (by simpa using hz)⟩
    obtain ⟨a, t, u, e1, e2⟩ := hT.2 0 p rfl
    have e1' : v = .ref a := by simpa using e1
    subst e1'
    exact ⟨_, .cons (reads_tuple_at (hts _ e2) rfl rfl (.cons (.int _ _) (.cons (.int _ _) .nil))) ih⟩

section
variable {prog : Program} {w : World} {A : Around} {E : Value → Shared → Prop} {s : Shared} {h₀ : Heap} {L : Addr} {m : Str → Option Value}
theorem eq_nil_tups {news : Led} {l e : Addr} {vs : List Value} {ps : List (Int × Int)} {ts : Led} {n k : Nat} {Q : Value → Shared → Prop} (N : News h₀ L s.heap news) (hg : (l, W.listOf vs.toArray n) ∈ news) (he : (e, W.listOf #[] k) ∈ news) (hT : TupsAre vs ps ts) (hts : ∀ p ∈ ts, p ∈ news) (hu : A.units + 64 < cLine)
    (h : Q (.bool (decide (ps = []))) s) : wpAny (model prog w) A (compareOp .Eq (.ref l) (.ref e)) Q E s := by
  obtain ⟨as, ra⟩ := tups_read (h := s.heap) (fun p hp => (N _ (hts p hp)).1) hT
  exact eq_dataH (reads_list_at (N _ hg).1 rfl rfl (by simpa using ra)) (reads_list_at (xs := []) (N _ he).1 rfl rfl .nil) (tupd_shaped _) rfl hu (by rw [tupd_eqv]; exact h)
theorem ne_nil_tups {news : Led} {l e : Addr} {vs : List Value} {ps : List (Int × Int)} {ts : Led} {n k : Nat} {Q : Value → Shared → Prop} (N : News h₀ L s.heap news) (hg : (l, W.listOf vs.toArray n) ∈ news) (he : (e, W.listOf #[] k) ∈ news) (hT : TupsAre vs ps ts) (hts : ∀ p ∈ ts, p ∈ news) (hu : A.units + 64 < cLine)
    (h : Q (.bool (!decide (ps = []))) s) : wpAny (model prog w) A (compareOp .NotEq (.ref l) (.ref e)) Q E s := by
  obtain ⟨as, ra⟩ := tups_read (h := s.heap) (fun p hp => (N _ (hts p hp)).1) hT
  exact ne_dataH (reads_list_at (N _ hg).1 rfl rfl (by simpa using ra)) (reads_list_at (xs := []) (N _ he).1 rfl rfl .nil) (tupd_shaped _) rfl hu (by rw [tupd_eqv]; exact h)
theorem pick_refs {vs : List Value} {x y : Int} (h : 0 ≤ x) (h2 : 0 ≤ y) : slicePick vs.toArray (some x) (some y) none = ((vs.drop x.toNat).take (min y.toNat vs.length - x.toNat)).toArray := by
  have e : sliceBounds (some x) (some y) none vs.toArray.size = (((min x.toNat vs.toArray.size : Nat) : Int), ((min y.toNat vs.toArray.size : Nat) : Int), 1) := by
    simp only [sliceBounds, Option.getD_none, show (1 : Int) > 0 by decide, if_true, if_neg (show ¬ (x < 0) by omega), if_neg (show ¬ (y < 0) by omega)]
    congr 1
    · omega
    · congr 1
      omega
  rw [kmk_pick_nat _ e]
  show ((vs.drop (min x.toNat vs.toArray.size)).take (min y.toNat vs.toArray.size - min x.toNat vs.toArray.size)).toArray = _
  rw [List.size_toArray, kmk_drop_min]
  by_cases hx : x.toNat ≤ vs.length
  · rw [Nat.min_eq_left hx]
  · rw [List.drop_of_length_le (by omega)]; simp
end
theorem grow_grp {g h : Heap} {L T' : Addr} {x y : Int} {t u : Tok} {rest ts : Led} {vg : List Value} {gp : List (Int × Int)} (_N : News g L h ((T', tupII x t y u) :: rest)) (hg : TupsAre vg gp ts) : TupsAre (vg ++ [.ref T']) (gp ++ [(x, y)]) ((T', tupII x t y u) :: ts) := hg.snoc
theorem ownOff_4 {own : Led} {a b c x : Addr} {r : List Addr} (h : ∀ p ∈ own, @LT.lt Nat _ p.1 x) (o : OwnOff own (a :: b :: c :: r)) : OwnOff own (a :: b :: c :: x :: r) := fun p hp z hz e => by
  rcases List.mem_cons.mp hz with e1 | hz
  · exact o p hp z (by rw [e1]; exact .head _) e
  · rcases List.mem_cons.mp hz with e1 | hz
    · exact o p hp z (by rw [e1]; exact .tail _ (.head _)) e
    · rcases List.mem_cons.mp hz with e1 | hz
      · exact o p hp z (by rw [e1]; exact .tail _ (.tail _ (.head _))) e
      · rcases List.mem_cons.mp hz with e1 | hz
        · exact Nat.ne_of_lt (h p hp) (e.trans e1)
        · exact o p hp z (.tail _ (.tail _ (.tail _ hz))) e
theorem ownOff_swap {own : Led} {a b : Addr} {r : List Addr} (o : OwnOff own (a :: b :: r)) : OwnOff own (b :: a :: r) := fun p hp z hz e => by
  rcases List.mem_cons.mp hz with e1 | hz
  · exact o p hp z (by rw [e1]; exact .tail _ (.head _)) e
  · rcases List.mem_cons.mp hz with e1 | hz
    · exact o p hp z (by rw [e1]; exact .head _) e
    · exact o p hp z (.tail _ (.tail _ hz)) e
theorem lastAt_of {gp : List (Int × Int)} {la y : Int} (h : gp[gp.length - 1]? = some (la, y)) : lastAt gp = la := by
  rw [lastAt, List.getLast?_eq_getElem?, h]; rfl
theorem lastAt_snoc (gp : List (Int × Int)) (x y : Int) {la z : Int} (h : (gp ++ [(x, y)])[(gp ++ [(x, y)]).length - 1]? = some (la, z)) : la = x := by
  rw [← lastAt_of h, lastAt]; simp
theorem octGrp_in' (ks : List Int) : KBa.In (octGrp ks) := octGrp_in ks
theorem TupsAre.cut {vs : List Value} {ps : List (Int × Int)} {ts : Led} (h : TupsAre vs ps ts) (a b : Nat) : TupsAre ((vs.drop a).take b) ((ps.drop a).take b) ts := by
  refine ⟨by rw [List.length_take, List.length_take, List.length_drop, List.length_drop, h.1], fun i p hp => ?_⟩
  rw [List.getElem?_take] at hp ⊢
  split at hp
  · rw [if_pos (by assumption)]
    rw [List.getElem?_drop] at hp ⊢
    exact h.2 _ p hp
  · cases hp
/-- kept from omega's sight -/
def Far (a g : Addr) : Prop := @Ne Nat a g
def Far4 (a b c d g : Addr) : Prop := @Ne Nat a g ∧ @Ne Nat b g ∧ @Ne Nat c g ∧ @Ne Nat d g
theorem Far4.out {a b c d g : Addr} (h : Far4 a b c d g) : @Ne Nat a g ∧ @Ne Nat b g ∧ @Ne Nat c g ∧ @Ne Nat d g := h
end Mine
theorem Mine.words_P29c : True := by
  (k_with "compareOp Eq ref ref" => (k_here; (with_reducible show wpAny _ _ (compareOp CmpOp.Eq (Value.ref _) (Value.ref _)) _ _ _); k_dflt (refine Mine.eq_nil_tups (by k_asm) (by k_mem) (by k_mem) (by with_reducible assumption) (fun p hp => by repeat (first | (with_reducible exact hp) | (with_reducible refine List.Mem.tail _ ?_) | exact hp | refine List.Mem.tail _ ?_)) (by ke_room) ?_)))
  (k_with "compareOp NotEq ref ref" => (k_here; (with_reducible show wpAny _ _ (compareOp CmpOp.NotEq (Value.ref _) (Value.ref _)) _ _ _); k_dflt (refine Mine.ne_nil_tups (by k_asm) (by k_mem) (by k_mem) (by with_reducible assumption) (fun p hp => by repeat (first | (with_reducible exact hp) | (with_reducible refine List.Mem.tail _ ?_) | exact hp | refine List.Mem.tail _ ?_)) (by ke_room) ?_)))
  (k_with "call builtin:list.append" => (k_here; (with_reducible show wpAny _ _ (call (Value.builtin _) [Value.ref _, Value.ref _]) _ _ _); (rename Mine.Far4 _ _ _ _ _ => zz_w); (obtain ⟨z1_w, z2_w, z3_w, z4_w⟩ := Mine.Far4.out zz_w); k_dflt (refine' append_K ?k1 ?k2 ?k3 ?_ ?z; (case k1 => k_asm); (case k2 => k_asm); (case k3 => k_upd); (case z => (rw [List.size_toArray, sizeLine_eq]; omega)); k_whole); intro h'_w F'_w N'_w; (try simp only [List.push_toArray] at N'_w); (clear z1_w z2_w z3_w z4_w); (try k_sweep)))
  (k_with "subscriptTail Name Slice ref ref" => (k_here; (with_reducible show wpAny _ _ (subscriptTail (Expr.Name (Str.ofString "signs") _) (PySem.Expr.Slice _ _ none _) (Value.ref _) (Value.ref _)) _ _ _); k_dflt (refine' kmk_slice ?F ?N ?l ?p ?q ?_ ?s ?t ?z; (case F => k_asm); (case N => k_asm); (case l => exact News.isList (by k_asm) (by k_mem)); (case p => kmk_part); (case q => kmk_part); (case s => with_unfolding_all rfl); (case t => kmk_pure); (case z => (rw [List.size_toArray, sizeLine_eq]; omega))); intro D'_w h'_w F'_w N'_w l1_w; (try k_lt l1_w); (try k_sweep)))
  (k_with "subscriptTail" => (k_here; (with_reducible show wpAny _ _ (subscriptTail _ _ (Value.ref _) (Value.int _ _)) _ _ _); (rename Fr _ _ _ _ => F8_w); k_dflt (first
  | refine Mine.sub_first (Mine.getN (by k_asm) (by k_mem)) (by with_reducible assumption) rfl (fun p hp => Mine.getN (by k_asm) (by repeat (first | (with_reducible exact hp) | (with_reducible refine List.Mem.tail _ ?_) | exact hp | refine List.Mem.tail _ ?_))) (by omega) ?_); intro a9_w x9_w y9_w t9_w u9_w hp9_w hm9_w ht9_w; (try dsimp only at ht9_w); (try dsimp only)))
  trivial
namespace Mine

def vals (l : List Int) : List Int := l.filter fun k => !isWhite k
theorem vals_append (a b : List Int) : vals (a ++ b) = vals a ++ vals b := List.filter_append ..
theorem white_fw {k : Int} (h : isWhite k = true) : figureWorth k = -1 ∧ k ≠ 62 ∧ k < 33 := by
  simp only [isWhite, List.any_cons, List.any_nil, Bool.or_false, Bool.or_eq_true, beq_iff_eq] at h
  rcases h with rfl | rfl | rfl | rfl | rfl | rfl <;> decide

/-! ### the hex reading without places -/
def hexV : List Int → List Int → Option (List Int)
  | [], acc => some acc
  | k :: r, acc => if k = 62 then some acc else if 0 ≤ figureWorth k then hexV r (acc ++ [figureWorth k]) else none
theorem hexGo_V : ∀ (l : List Int) (i : Nat) (acc fin : List Int), hexV (vals l) acc = some fin → hexGo l i acc = .ok fin
  | [], _, acc, fin, h => by simp only [vals, List.filter_nil, hexV, Option.some.injEq] at h; rw [hexGo, h]
  | k :: r, i, acc, fin, h => by
    rw [hexGo]
    by_cases hw : isWhite k = true
    · obtain ⟨h1, h2, _⟩ := white_fw hw
      rw [if_neg h2, if_neg (by omega), if_pos hw]
      exact hexGo_V r _ acc fin (by simpa [vals, hw] using h)
    · have e : vals (k :: r) = k :: vals r := by simp [vals, hw]
      rw [e, hexV] at h
      split at h
      · rename_i h62; cases h; rw [if_pos h62]
      · rename_i h62
        rw [if_neg h62]
        split at h
        · rename_i hf; rw [if_pos hf]; exact hexGo_V r _ _ fin h
        · cases h
theorem fw_fig {n : Int} (h0 : 0 ≤ n) (h1 : n < 16) : figureWorth (fig n) = n ∧ fig n ≠ 62 ∧ isWhite (fig n) = false := by
  have h : ∀ k : Fin 16, figureWorth (fig (k.val : Int)) = (k.val : Int) ∧ fig (k.val : Int) ≠ 62 ∧ isWhite (fig (k.val : Int)) = false := by decide
  have := h ⟨n.toNat, (Int.toNat_lt h0).mpr h1⟩
  rwa [Int.toNat_of_nonneg h0] at this
def rowI (ks : List Int) : List Int := ks.flatMap fun k => [fig (k.fdiv 16), fig (k.fmod 16)]
def digs (ks : List Int) : List Int := ks.flatMap fun k => [k.fdiv 16, k.fmod 16]
theorem half_in {k : Int} (h0 : 0 ≤ k) (h1 : k < 256) : (0 ≤ k.fdiv 16 ∧ k.fdiv 16 < 16) ∧ (0 ≤ k.fmod 16 ∧ k.fmod 16 < 16) ∧ 16 * k.fdiv 16 + k.fmod 16 = k := by
  rw [Int.fdiv_eq_ediv_of_nonneg _ (by decide), Int.fmod_eq_emod_of_nonneg _ (by decide)]; omega
theorem hexV_row : ∀ (ks : List Int) (t acc : List Int), KBa.In ks → hexV (rowI ks ++ t) acc = hexV t (acc ++ digs ks)
  | [], t, acc, _ => by simp [rowI, digs]
  | k :: r, t, acc, h => by
    obtain ⟨h0, h1⟩ := h k (.head _)
    obtain ⟨⟨a0, a1⟩, ⟨b0, b1⟩, _⟩ := half_in h0 h1
    have e1 := fw_fig a0 a1
    have e2 := fw_fig b0 b1
    have e : rowI (k :: r) ++ t = fig (k.fdiv 16) :: fig (k.fmod 16) :: (rowI r ++ t) := rfl
    rw [e, hexV, if_neg e1.2.1, e1.1, if_pos a0, hexV, if_neg e2.2.1, e2.1, if_pos b0, hexV_row r t _ fun x hx => h x (.tail _ hx)]
    have e9 : digs (k :: r) = [k.fdiv 16] ++ ([k.fmod 16] ++ digs r) := rfl
    rw [e9, List.append_assoc, List.append_assoc]
theorem pairs_digs : ∀ (ks : List Int), KBa.In ks → hexPairs (digs ks) = ks
  | [], _ => rfl
  | k :: r, h => by
    obtain ⟨h0, h1⟩ := h k (.head _)
    obtain ⟨_, _, e1⟩ := half_in h0 h1
    have e : digs (k :: r) = k.fdiv 16 :: k.fmod 16 :: digs r := rfl
    rw [e, hexPairs, pairs_digs r fun x hx => h x (.tail _ hx), e1]
theorem vals_fig {ks : List Int} (h : KBa.In ks) : vals (rowI ks) = rowI ks := List.filter_eq_self.mpr fun x hx => by
  obtain ⟨k, hk, hx⟩ := List.mem_flatMap.mp hx
  obtain ⟨h0, h1⟩ := h k hk
  obtain ⟨⟨a0, a1⟩, ⟨b0, b1⟩, _⟩ := half_in h0 h1
  simp only [List.mem_cons, List.not_mem_nil, or_false] at hx
  rcases hx with rfl | rfl
  · rw [(fw_fig a0 a1).2.2]; rfl
  · rw [(fw_fig b0 b1).2.2]; rfl
theorem vals_step (w : Int) (m : List Int) {f : Int} (hf : isWhite f = false) : vals (hexStep w m f) = vals m ++ [f] := by
  unfold hexStep
  split
  · rw [vals_append]; congr 1; simp [vals, hf]; decide
  · rw [vals_append]; congr 1; simp [vals, hf]
theorem vals_fold (w : Int) : ∀ (ks m : List Int), KBa.In ks → vals (ks.foldl (hexOct w) m) = vals m ++ rowI ks
  | [], m, _ => by simp [rowI]
  | k :: r, m, h => by
    obtain ⟨h0, h1⟩ := h k (.head _)
    obtain ⟨⟨a0, a1⟩, ⟨b0, b1⟩, _⟩ := half_in h0 h1
    rw [List.foldl_cons, vals_fold w r _ fun x hx => h x (.tail _ hx), hexOct, vals_step _ _ (fw_fig b0 b1).2.2, vals_step _ _ (fw_fig a0 a1).2.2]
    have e : rowI (k :: r) = [fig (k.fdiv 16)] ++ ([fig (k.fmod 16)] ++ rowI r) := rfl
    rw [e, List.append_assoc, List.append_assoc]
theorem vals_hexEnc {ks : List Int} (w : Int) (h : KBa.In ks) : vals (hexEnc ks w) = rowI ks ++ [62] := by
  rw [hexEnc, vals_append, vals_fold w ks [] h]; rfl
theorem hex_back {ks bs t : List Int} (h : KBa.In ks) (hv : vals bs = rowI ks ++ t) (ht : t = [] ∨ ∃ r, t = 62 :: r) : ∃ acc, hexGo bs 0 [] = .ok acc ∧ hexPairs acc = ks := by
  refine ⟨digs ks, hexGo_V _ _ _ _ ?_, pairs_digs ks h⟩
  rw [hv, hexV_row _ _ _ h, List.nil_append]
  rcases ht with rfl | ⟨r, rfl⟩
  · rfl
  · rw [hexV, if_pos rfl]
theorem vals_bent {ks' : List Int} {j : Nat} {wh : Int} (hw : isWhite wh = true) : vals (ks'.take j ++ [wh] ++ ks'.drop j) = vals ks' := by
  rw [vals_append, vals_append]
  have : vals [wh] = [] := by simp [vals, hw]
  rw [this, List.append_nil, ← vals_append, List.take_append_drop]
theorem hex_round {ks : List Int} (w : Int) (h : KBa.In ks) : ∃ acc, hexGo (hexEnc ks w) 0 [] = .ok acc ∧ hexPairs acc = ks := hex_back h (vals_hexEnc w h) (.inr ⟨_, rfl⟩)
theorem hex_bent {ks bs : List Int} (w : Int) (h : KBa.In ks) (hb : bentOf (hexEnc ks w) 1 bs) : ∃ acc, hexGo bs 0 [] = .ok acc ∧ hexPairs acc = ks := by
  obtain ⟨j, wh, ks', _, hw, hk, rfl⟩ := hb
  have e : hexEnc ks w = ks.foldl (hexOct w) [] ++ [62] := rfl
  have ev : vals (ks.foldl (hexOct w) []) = rowI ks := vals_fold w ks [] h
  rcases hk with rfl | ⟨x, _, _, rfl⟩ | rfl
  · refine hex_back h (t := []) ?_ (.inl rfl)
    rw [vals_bent hw, e, List.take_append_of_le_length (by simp), List.take_of_length_le (by simp), ev, List.append_nil]
  · refine hex_back h (t := 62 :: vals [x, 33]) ?_ (.inr ⟨_, rfl⟩)
    rw [vals_bent hw, e, vals_append, vals_append, ev, List.append_assoc]; rfl
  · refine hex_back h (t := [62]) ?_ (.inr ⟨_, rfl⟩)
    rw [vals_bent hw, e, vals_append, ev]; rfl

/-! ### the rows of figures -/
theorem hexOct_fold (w : Int) : ∀ (ks m : List Int), ks.foldl (hexOct w) m = (rowI ks).foldl (hexStep w) m
  | [], m => rfl
  | k :: r, m => by
    rw [List.foldl_cons, hexOct_fold w r]; rfl
theorem step_no {w : Nat} (m : List Int) (f : Int) (h : w = 0 ∨ (m.length + 2) % (w + 1) ≠ 0) : hexStep (w : Int) m f = m ++ [f] := by
  unfold hexStep
  rw [if_neg]
  rintro ⟨h0, h1⟩
  rcases h with h | h
  · omega
  · refine h ?_
    rw [Int.fmod_eq_emod_of_nonneg _ (by omega), show (m.length : Int) + 1 + 1 = ((m.length + 2 : Nat) : Int) by omega, show (w : Int) + 1 = ((w + 1 : Nat) : Int) by omega, ← Int.natCast_emod] at h1
    exact_mod_cast h1
theorem step_yes {w : Nat} (m : List Int) (f : Int) (h0 : 0 < w) (h : (m.length + 2) % (w + 1) = 0) : hexStep (w : Int) m f = m ++ [f, 10] := by
  unfold hexStep
  rw [if_pos]
  refine ⟨by omega, ?_⟩
  rw [Int.fmod_eq_emod_of_nonneg _ (by omega), show (m.length : Int) + 1 + 1 = ((m.length + 2 : Nat) : Int) by omega, show (w : Int) + 1 = ((w + 1 : Nat) : Int) by omega, ← Int.natCast_emod, h]
  rfl
theorem fold_zero : ∀ (c m : List Int), c.foldl (hexStep ((0 : Nat) : Int)) m = m ++ c
  | [], m => by simp
  | f :: r, m => by rw [List.foldl_cons, step_no _ _ (.inl rfl), fold_zero r]; simp
theorem fold_less {w : Nat} : ∀ (c m : List Int) (q r : Nat), m.length = (w + 1) * q + r → r + c.length < w → c.foldl (hexStep (w : Int)) m = m ++ c
  | [], m, q, r, _, _ => by simp
  | f :: c, m, q, r, h, h2 => by
    rw [List.length_cons] at h2
    rw [List.foldl_cons, step_no _ _ (.inr ?_), fold_less c _ q (r + 1) (by rw [List.length_append, h]; rfl) (by omega)]
    · simp
    · rw [h, Nat.add_assoc, Nat.mul_add_mod, Nat.mod_eq_of_lt (by omega)]; omega
theorem fold_full {w : Nat} (h0 : 0 < w) (c m : List Int) (q : Nat) (h : m.length = (w + 1) * q) (hc : c.length = w) : c.foldl (hexStep (w : Int)) m = m ++ (c ++ [10]) := by
  rcases List.eq_nil_or_concat c with rfl | ⟨c', f, rfl⟩
  · rw [List.length_nil] at hc; omega
  · rw [List.concat_eq_append, List.length_append, List.length_singleton] at hc
    rw [List.concat_eq_append, List.foldl_append, fold_less c' m q 0 h (by omega), List.foldl_cons, List.foldl_nil, step_yes _ _ h0]
    · simp
    · rw [List.length_append, h, Nat.add_assoc, Nat.mul_add_mod, show c'.length + 2 = w + 1 by omega, Nat.mod_self]
def partI (row : List Int) (w i : Nat) : List Int := if ((row.drop (i * w)).take w).length = w then (row.drop (i * w)).take w ++ [10] else (row.drop (i * w)).take w
theorem fold_rows {w : Nat} (h0 : 0 < w) : ∀ (n : Nat) (row m : List Int) (q : Nat), m.length = (w + 1) * q → n = (row.length + w - 1) / w → row.foldl (hexStep (w : Int)) m = m ++ (List.range n).flatMap (partI row w)
  | 0, row, m, q, _, hn => by
    have : (row.length + w - 1) / w = 0 := hn.symm
    rw [Nat.div_eq_zero_iff] at this
    have hr : row = [] := List.length_eq_zero_iff.mp (by omega)
    subst hr; simp
  | n + 1, row, m, q, hm, hn => by
    have hd : (row.drop w).length = row.length - w := List.length_drop
    have hpos : row.length ≠ 0 := fun h => by
      rw [h, Nat.zero_add, Nat.div_eq_of_lt (by omega)] at hn; cases hn
    have e1 : ∀ i, partI row w (i + 1) = partI (row.drop w) w i := fun i => by
      unfold partI
      rw [List.drop_drop, show w + i * w = (i + 1) * w by rw [Nat.succ_mul, Nat.add_comm]]
    have e2 : (List.range (n + 1)).flatMap (partI row w) = partI row w 0 ++ (List.range n).flatMap (partI (row.drop w) w) := by
      rw [List.range_succ_eq_map, List.flatMap_cons, List.flatMap_map]
      congr 2
      funext i; exact e1 i
    rw [e2]
    by_cases hw : w ≤ row.length
    · have hl : (row.take w).length = w := by rw [List.length_take]; omega
      have hn' : n = ((row.drop w).length + w - 1) / w := by
        rw [hd]
        have : row.length + w - 1 = (row.length - w + w - 1) + w := by omega
        rw [this, Nat.add_div_right _ h0] at hn
        omega
      have hp : partI row w 0 = row.take w ++ [10] := by
        unfold partI; rw [Nat.zero_mul, List.drop_zero, if_pos hl]
      conv => lhs; rw [← List.take_append_drop w row]
      rw [List.foldl_append, fold_full h0 _ m q hm hl, fold_rows h0 n (row.drop w) _ (q + 1) (by rw [List.length_append, List.length_append, hl, hm, Nat.mul_succ]; rfl) hn', hp]
      simp
    · have hr0 : row.drop w = [] := List.drop_of_length_le (by omega)
      have hn0 : n = 0 := by
        have : (row.length + w - 1) / w < 2 := by rw [Nat.div_lt_iff_lt_mul h0]; omega
        omega
      subst hn0
      have hp : partI row w 0 = row := by
        unfold partI; rw [Nat.zero_mul, List.drop_zero, List.take_of_length_le (by omega), if_neg (by omega)]
      rw [hp, fold_less row m q 0 hm (by omega)]
      simp
theorem row_nat {ks : List Int} : (rowN ks).map Int.ofNat = rowI ks := by
  unfold rowN rowI
  rw [List.map_flatMap]
  congr 1
  funext k
  have : ∀ n, Int.ofNat (fig n).toNat = fig n := fun n => by
    have : 0 ≤ fig n := by
      unfold fig
      generalize n.toNat = k
      by_cases h : k < 16
      · have : ∀ k : Fin 16, 0 ≤ ([48, 49, 50, 51, 52, 53, 54, 55, 56, 57, 65, 66, 67, 68, 69, 70] : List Int).getD k.val 0 := by decide
        exact this ⟨k, h⟩
      · rw [List.getD_eq_getElem?_getD, List.getElem?_eq_none (by simpa using Nat.le_of_not_lt h)]; decide
    exact Int.toNat_of_nonneg this
  simp only [List.map_cons, List.map_nil, this]
theorem part_nat (row : List Nat) (w i : Nat) : (partNL row w i).map Int.ofNat = partI (row.map Int.ofNat) w i := by
  unfold partNL partI partN
  rw [← List.map_drop, ← List.map_take, List.length_map]
  split
  · rw [List.map_append]; rfl
  · rfl
theorem hex_same (ks : List Int) (w : Nat) : hexEnc ks (w : Int) = (lawHexN ks w).map Int.ofNat := by
  have hl : ∀ ks : List Int, (rowI ks).length = 2 * ks.length := fun ks => by
    induction ks with
    | nil => rfl
    | cons k r ih => have : rowI (k :: r) = fig (k.fdiv 16) :: fig (k.fmod 16) :: rowI r := rfl
                     rw [this, List.length_cons, List.length_cons, ih, List.length_cons]; omega
  unfold hexEnc lawHexN
  rw [hexOct_fold]
  by_cases h : w = 0
  · subst h
    rw [if_pos rfl, fold_zero, List.map_append, row_nat]; rfl
  · rw [if_neg h, List.map_append, fold_rows (Nat.pos_of_ne_zero h) _ _ [] 0 rfl rfl, hl, List.map_flatMap, List.nil_append]
    congr 2
    funext i
    rw [part_nat, row_nat]

/-! ### base 85 -/
theorem pad5_2 (a b : Int) : pad5 [a, b] = [a, b, 84, 84, 84] := rfl
theorem pad5_3 (a b c : Int) : pad5 [a, b, c] = [a, b, c, 84, 84] := rfl
theorem pad5_4 (a b c d : Int) : pad5 [a, b, c, d] = [a, b, c, d, 84] := rfl
theorem div85 (t : Int) : t.fdiv 85 = t / 85 := Int.fdiv_eq_ediv_of_nonneg _ (by decide)
theorem mod85 (t : Int) : t.fmod 85 = t % 85 := Int.fmod_eq_emod_of_nonneg _ (by decide)
theorem div256 (t : Int) : t.fdiv 256 = t / 256 := Int.fdiv_eq_ediv_of_nonneg _ (by decide)
theorem mod256 (t : Int) : t.fmod 256 = t % 256 := Int.fmod_eq_emod_of_nonneg _ (by decide)
theorem q85 (t : Int) : 85 * (t / 85) + t % 85 = t := Int.mul_ediv_add_emod t 85
theorem top85 {t : Int} (h0 : 0 ≤ t) (h1 : t < 4437053125) : 85 * 0 + t / 85 / 85 / 85 / 85 % 85 = t / 85 / 85 / 85 / 85 := by
  rw [Int.mul_zero, Int.zero_add]
  have d : ∀ {t b : Int}, 0 ≤ t → t < 85 * b → 0 ≤ t / 85 ∧ t / 85 < b := fun h0 h1 => by omega
  have a1 := d (b := 52200625) h0 h1
  have a2 := d (b := 614125) a1.1 a1.2
  have a3 := d (b := 7225) a2.1 a2.2
  have a4 := d (b := 85) a3.1 a3.2
  exact Int.emod_eq_of_lt a4.1 a4.2
theorem signs5_is (t : Int) : signs5 t = [t / 85 / 85 / 85 / 85 % 85, t / 85 / 85 / 85 % 85, t / 85 / 85 % 85, t / 85 % 85, t % 85] := by
  unfold signs5; simp only [div85, mod85]
theorem sum85_signs {t : Int} (h0 : 0 ≤ t) (h1 : t < 4437053125) : sum85 (signs5 t) = t := by
  rw [signs5_is]
  show 85 * (85 * (85 * (85 * (85 * 0 + t / 85 / 85 / 85 / 85 % 85) + t / 85 / 85 / 85 % 85) + t / 85 / 85 % 85) + t / 85 % 85) + t % 85 = t
  rw [top85 h0 h1, q85, q85, q85, q85]
theorem dm (q : Int) {r : Int} (h0 : 0 ≤ r) (h1 : r < 256) : (256 * q + r) / 256 = q ∧ (256 * q + r) % 256 = r := by omega
theorem in256 {q r b : Int} (hq : 0 ≤ q ∧ q < b) (hr : 0 ≤ r ∧ r < 256) : 0 ≤ 256 * q + r ∧ 256 * q + r < 256 * b := by omega
theorem oct4_is (t : Int) : oct4 t = [t / 256 / 256 / 256 % 256, t / 256 / 256 % 256, t / 256 % 256, t % 256] := by
  unfold oct4; simp only [div256, mod256]
theorem sum256_in {a b c d : Int} (ha : 0 ≤ a ∧ a < 256) (hb : 0 ≤ b ∧ b < 256) (hc : 0 ≤ c ∧ c < 256) (hd : 0 ≤ d ∧ d < 256) : 0 ≤ sum256 [a, b, c, d] ∧ sum256 [a, b, c, d] < 4294967296 :=
  in256 (b := 16777216) (in256 (b := 65536) (in256 (b := 256) (in256 (q := 0) (b := 1) (by decide) ha) hb) hc) hd
theorem lawGrp_eq {gs : List Int} (h : KBa.In gs) (h4 : gs.length ≤ 4) : b85Group gs = lawGrp gs := by
  unfold b85Group lawGrp
  by_cases hl : gs.length = 4
  · match gs, hl with
    | [a, b, c, d], _ =>
      have ha := h a (.head _)
      have hb := h b (.tail _ (.head _))
      have hc := h c (.tail _ (.tail _ (.head _)))
      have hd := h d (.tail _ (.tail _ (.tail _ (.head _))))
      have hi := sum256_in ha hb hc hd
      have e : (signs5 (sum256 (pad4 [a, b, c, d])) = [0, 0, 0, 0, 0]) ↔ [a, b, c, d] = [0, 0, 0, 0] := by
        constructor
        · intro hz
          have e1 : sum256 [a, b, c, d] = 0 := by
            rw [← sum85_signs hi.1 (Int.lt_trans hi.2 (by decide)), show signs5 (sum256 [a, b, c, d]) = _ from hz]; rfl
          have z : ∀ {q r : Int}, 0 ≤ q → 0 ≤ r → 256 * q + r = 0 → q = 0 ∧ r = 0 := fun _ _ _ => by omega
          have p2 := in256 (b := 256) (in256 (q := 0) (b := 1) (by decide) ha) hb
          have p3 := in256 (b := 65536) p2 hc
          have z1 := z p3.1 hd.1 e1
          have z2 := z p2.1 hc.1 z1.1
          have z3 := z (q := 256 * 0 + a) (by omega) hb.1 z2.1
          have z4 : a = 0 := by have := z3.1; omega
          rw [z1.2, z2.2, z3.2, z4]
        · intro hz; rw [hz]; decide
      by_cases hz : [a, b, c, d] = [0, 0, 0, 0]
      · rw [if_pos ⟨rfl, e.mpr hz⟩, if_pos hz]
      · rw [if_neg (fun x => hz (e.mp x.2)), if_neg hz]
  · rw [if_neg (fun x => hl x.1), if_neg (fun x => hl (by rw [x]; rfl))]
theorem lawB85_eq {ks : List Int} (h : KBa.In ks) : ∀ n : Nat, lawB85 ks n = b85Body ks n
  | 0 => rfl
  | n + 1 => by
    rw [lawB85, lawB85_eq h n, b85Body, b85Body, List.range_succ, List.flatMap_append, List.flatMap_cons, List.flatMap_nil, List.append_nil, lawGrp_eq (fun x hx => h x (List.mem_of_mem_drop (List.mem_of_mem_take hx))) (by rw [List.length_take]; omega)]
theorem b85_same {ks : List Int} (h : KBa.In ks) {n : Nat} (hn : n = ks.length) : b85Enc ks = lawB85 ks ((n + 3) / 4) ++ [126, 62] := by
  rw [hn, b85Enc, lawB85_eq h]

def finV (os ss : List Int) : Option (List Int) := if ss.length = 1 then none else if ss = [] then some os else if sum85 (pad5 ss) ≤ 4294967295 then some (os ++ octGrp ss) else none
def goV : List Int → List Int → List Int → Option (List Int)
  | [], os, ss => finV os ss
  | k :: r, os, ss =>
    if k = 126 then (if r.take 1 = [62] then finV os ss else none)
    else if k = 122 ∧ ss = [] then goV r (os ++ [0, 0, 0, 0]) ss
    else if ¬ (33 ≤ k ∧ k ≤ 117) then none
    else if ss.length = 4 then (if sum85 (pad5 (ss ++ [k - 33])) ≤ 4294967295 then goV r (os ++ octGrp (ss ++ [k - 33])) [] else none)
    else goV r os (ss ++ [k - 33])
theorem rdFin_V {os : List Int} {gp : List (Int × Int)} {fin : List Int} (h : finV os (gp.map (·.2)) = some fin) : rdFin os gp = .ok fin := by
  unfold finV at h
  unfold rdFin
  rw [List.length_map] at h
  by_cases h1 : gp.length = 1
  · rw [if_pos h1] at h; cases h
  · rw [if_neg h1] at h ⊢
    by_cases h2 : gp = []
    · subst h2; cases h; rfl
    · rw [if_neg (fun e => h2 (List.map_eq_nil_iff.mp e))] at h
      rw [if_neg h2]
      by_cases h3 : sum85 (pad5 (gp.map (·.2))) ≤ 4294967295
      · rw [if_pos h3] at h ⊢; cases h; rfl
      · rw [if_neg h3] at h; cases h
theorem rdGo_V : ∀ (ps : List (Int × Int)) (os : List Int) (gp : List (Int × Int)) (fin : List Int), goV (ps.map (·.2)) os (gp.map (·.2)) = some fin → (match rdGo ps os gp with | .ok (os, gp) => rdFin os gp | .error k => .error k) = .ok fin
  | [], os, gp, fin, h => rdFin_V h
  | (a, k) :: r, os, gp, fin, h => by
    rw [List.map_cons, goV] at h
    rw [rdGo]
    dsimp only at h
    by_cases h1 : k = 126
    · rw [if_pos h1] at h ⊢
      rw [← List.map_take] at h
      by_cases h2 : (r.take 1).map (·.2) = [62]
      · rw [if_pos h2] at h ⊢; exact rdFin_V h
      · rw [if_neg h2] at h; cases h
    · rw [if_neg h1] at h ⊢
      by_cases h2 : k = 122 ∧ gp = []
      · rw [if_pos ⟨h2.1, by rw [h2.2]; rfl⟩] at h
        rw [if_pos h2]
        exact rdGo_V r _ gp fin h
      · rw [if_neg (fun e => h2 ⟨e.1, List.map_eq_nil_iff.mp e.2⟩)] at h
        rw [if_neg h2]
        by_cases h3 : ¬ (33 ≤ k ∧ k ≤ 117)
        · rw [if_pos h3] at h; cases h
        · rw [if_neg h3] at h ⊢
          rw [List.length_map] at h
          have em : (gp ++ [(a, k - 33)]).map (·.2) = gp.map (·.2) ++ [k - 33] := by rw [List.map_append]; rfl
          by_cases h4 : gp.length = 4
          · rw [if_pos h4] at h ⊢
            rw [em]
            by_cases h5 : sum85 (pad5 (gp.map (·.2) ++ [k - 33])) ≤ 4294967295
            · rw [if_pos h5] at h ⊢; exact rdGo_V r _ [] fin h
            · rw [if_neg h5] at h; cases h
          · rw [if_neg h4] at h ⊢
            exact rdGo_V r os _ fin (by rw [em]; exact h)
theorem sgn_vals : ∀ (l : List Int) (i : Nat), (sgn l i).map (·.2) = vals l
  | [], _ => rfl
  | k :: r, i => by
    rw [sgn]
    by_cases hw : isWhite k = true
    · rw [if_pos hw, sgn_vals r]; simp [vals, hw]
    · rw [if_neg hw, List.map_cons, sgn_vals r]; simp [vals, hw]
theorem b85_of_V {bs fin : List Int} (h : goV (vals bs) [] [] = some fin) : b85Dec bs = .ok fin := by
  rw [← rdDec_eq]
  exact rdGo_V (sgn bs 0) [] [] fin (by rw [sgn_vals]; exact h)

theorem goV_sign {s : Int} (h0 : 0 ≤ s) (h1 : s < 85) (r os ss : List Int) : goV ((33 + s) :: r) os ss = if ss.length = 4 then (if sum85 (pad5 (ss ++ [s])) ≤ 4294967295 then goV r (os ++ octGrp (ss ++ [s])) [] else none) else goV r os (ss ++ [s]) := by
  rw [goV, if_neg (by omega), if_neg (by omega), if_neg (by omega), show 33 + s - 33 = s by omega]
theorem pad5_5 {ss : List Int} (h : ss.length = 5) : pad5 ss = ss := by
  unfold pad5; rw [h]; simp
theorem sgs_in (T : Int) : ∀ s ∈ signs5 T, 0 ≤ s ∧ s < 85 := by
  intro s hs
  simp only [signs5, List.mem_cons, List.not_mem_nil, or_false] at hs
  rcases hs with rfl | rfl | rfl | rfl | rfl <;> (rw [Int.fmod_eq_emod_of_nonneg _ (by decide)]; constructor <;> omega)
theorem goV_take {T : Int} : ∀ (n : Nat) (l r os ss : List Int), (∀ s ∈ l, 0 ≤ s ∧ s < 85) → ss.length + l.length ≤ 4 → goV (l.map (33 + ·) ++ r) os ss = goV r os (ss ++ l)
  | _, [], r, os, ss, _, _ => by simp
  | n, s :: l, r, os, ss, h, h4 => by
    rw [List.length_cons] at h4
    obtain ⟨h0, h1⟩ := h s (.head _)
    rw [List.map_cons, List.cons_append, goV_sign h0 h1, if_neg (by omega), goV_take (T := T) n l r os _ (fun x hx => h x (.tail _ hx)) (by rw [List.length_append, List.length_singleton]; omega)]
    simp
theorem grp_full {a b c d : Int} (ha : 0 ≤ a ∧ a < 256) (hb : 0 ≤ b ∧ b < 256) (hc : 0 ≤ c ∧ c < 256) (hd : 0 ≤ d ∧ d < 256) : sum85 (pad5 (signs5 (sum256 [a, b, c, d]))) ≤ 4294967295 ∧ octGrp (signs5 (sum256 [a, b, c, d])) = [a, b, c, d] := by
  have hi := sum256_in ha hb hc hd
  have e : sum85 (pad5 (signs5 (sum256 [a, b, c, d]))) = sum256 [a, b, c, d] := by rw [pad5_5 rfl, sum85_signs hi.1 (Int.lt_trans hi.2 (by decide))]
  unfold octGrp
  rw [e]
  refine ⟨Int.le_of_lt_add_one hi.2, ?_⟩
  rw [oct4_is]
  show [sum256 [a, b, c, d] / 256 / 256 / 256 % 256, sum256 [a, b, c, d] / 256 / 256 % 256, sum256 [a, b, c, d] / 256 % 256, sum256 [a, b, c, d] % 256] = _
  rw [show sum256 [a, b, c, d] = 256 * (256 * (256 * (256 * 0 + a) + b) + c) + d from rfl, (dm _ hd.1 hd.2).1, (dm _ hd.1 hd.2).2, (dm _ hc.1 hc.2).1, (dm _ hc.1 hc.2).2, (dm _ hb.1 hb.2).1, (dm _ hb.1 hb.2).2, (dm _ ha.1 ha.2).2]
theorem four_of {gs : List Int} (h : gs.length = 4) : ∃ a b c d, gs = [a, b, c, d] := match gs, h with | [a, b, c, d], _ => ⟨a, b, c, d, rfl⟩
theorem cut_1 {t : Int} (h0 : 0 ≤ t) (h1 : t < 4437053125) : ∃ u, sum85 (pad5 ((signs5 t).take 4)) = t + u ∧ 0 ≤ u ∧ u < 256 := by
  rw [signs5_is]
  show ∃ u, 85 * (85 * (85 * (85 * (85 * 0 + t / 85 / 85 / 85 / 85 % 85) + t / 85 / 85 / 85 % 85) + t / 85 / 85 % 85) + t / 85 % 85) + 84 = t + u ∧ 0 ≤ u ∧ u < 256
  rw [top85 h0 h1, q85, q85, q85]
  exact ⟨85 * (t / 85) + 84 - t, by omega, by omega, by omega⟩
theorem cut_2 {t : Int} (h0 : 0 ≤ t) (h1 : t < 4437053125) : ∃ u, sum85 (pad5 ((signs5 t).take 3)) = t + u ∧ 0 ≤ u ∧ u < 65536 := by
  rw [signs5_is]
  show ∃ u, 85 * (85 * (85 * (85 * (85 * 0 + t / 85 / 85 / 85 / 85 % 85) + t / 85 / 85 / 85 % 85) + t / 85 / 85 % 85) + 84) + 84 = t + u ∧ 0 ≤ u ∧ u < 65536
  rw [top85 h0 h1, q85, q85]
  exact ⟨85 * (85 * (t / 85 / 85) + 84) + 84 - t, by omega, by omega, by omega⟩
theorem cut_3 {t : Int} (h0 : 0 ≤ t) (h1 : t < 4437053125) : ∃ u, sum85 (pad5 ((signs5 t).take 2)) = t + u ∧ 0 ≤ u ∧ u < 16777216 := by
  rw [signs5_is]
  show ∃ u, 85 * (85 * (85 * (85 * (85 * 0 + t / 85 / 85 / 85 / 85 % 85) + t / 85 / 85 / 85 % 85) + 84) + 84) + 84 = t + u ∧ 0 ≤ u ∧ u < 16777216
  rw [top85 h0 h1, q85]
  exact ⟨85 * (85 * (85 * (t / 85 / 85 / 85) + 84) + 84) + 84 - t, by omega, by omega, by omega⟩
theorem less256 {u b : Int} (h0 : 0 ≤ u) (h1 : u < 256 * b) (q : Int) : (256 * (b * q) + u) / 256 = b * q + u / 256 ∧ 0 ≤ u / 256 ∧ u / 256 < b := by
  refine ⟨?_, by omega, by omega⟩
  rw [Int.add_comm, Int.add_mul_ediv_left _ _ (by decide), Int.add_comm]
theorem grp_1 {a : Int} (ha : 0 ≤ a ∧ a < 256) : sum85 (pad5 ((signs5 (sum256 (pad4 [a]))).take 2)) ≤ 4294967295 ∧ octGrp ((signs5 (sum256 (pad4 [a]))).take 2) = [a] := by
  have e0 : sum256 (pad4 [a]) = 16777216 * a := by
    show 256 * (256 * (256 * (256 * 0 + a) + 0) + 0) + 0 = _
    omega
  rw [e0]
  obtain ⟨u, eu, u0, u1⟩ := cut_3 (t := 16777216 * a) (by omega) (by omega)
  unfold octGrp
  rw [eu, oct4_is]
  refine ⟨by omega, ?_⟩
  show [(16777216 * a + u) / 256 / 256 / 256 % 256] = [a]
  obtain ⟨d1, v0, v1⟩ := less256 (b := 65536) u0 u1 a
  obtain ⟨d2, x0, x1⟩ := less256 (b := 256) v0 v1 a
  rw [show 16777216 * a = 256 * (65536 * a) by omega, d1, show 65536 * a = 256 * (256 * a) by omega, d2, (dm _ x0 x1).1, Int.emod_eq_of_lt ha.1 ha.2]
theorem grp_2 {a b : Int} (ha : 0 ≤ a ∧ a < 256) (hb : 0 ≤ b ∧ b < 256) : sum85 (pad5 ((signs5 (sum256 (pad4 [a, b]))).take 3)) ≤ 4294967295 ∧ octGrp ((signs5 (sum256 (pad4 [a, b]))).take 3) = [a, b] := by
  have e0 : sum256 (pad4 [a, b]) = 65536 * (256 * a + b) := by
    show 256 * (256 * (256 * (256 * 0 + a) + b) + 0) + 0 = _
    omega
  rw [e0]
  have hi := in256 ha hb
  obtain ⟨u, eu, u0, u1⟩ := cut_2 (t := 65536 * (256 * a + b)) (by omega) (by omega)
  unfold octGrp
  rw [eu, oct4_is]
  refine ⟨by omega, ?_⟩
  show [(65536 * (256 * a + b) + u) / 256 / 256 / 256 % 256, (65536 * (256 * a + b) + u) / 256 / 256 % 256] = [a, b]
  obtain ⟨d1, v0, v1⟩ := less256 (b := 256) u0 u1 (256 * a + b)
  rw [show 65536 * (256 * a + b) = 256 * (256 * (256 * a + b)) by omega, d1, (dm _ v0 v1).1, (dm _ hb.1 hb.2).1, (dm _ hb.1 hb.2).2, Int.emod_eq_of_lt ha.1 ha.2]
theorem grp_3 {a b c : Int} (ha : 0 ≤ a ∧ a < 256) (hb : 0 ≤ b ∧ b < 256) (hc : 0 ≤ c ∧ c < 256) : sum85 (pad5 ((signs5 (sum256 (pad4 [a, b, c]))).take 4)) ≤ 4294967295 ∧ octGrp ((signs5 (sum256 (pad4 [a, b, c]))).take 4) = [a, b, c] := by
  have e0 : sum256 (pad4 [a, b, c]) = 256 * (256 * (256 * a + b) + c) := by
    show 256 * (256 * (256 * (256 * 0 + a) + b) + c) + 0 = _
    omega
  rw [e0]
  have hi := in256 (in256 ha hb) hc
  obtain ⟨u, eu, u0, u1⟩ := cut_1 (t := 256 * (256 * (256 * a + b) + c)) (by omega) (by omega)
  unfold octGrp
  rw [eu, oct4_is]
  refine ⟨by omega, ?_⟩
  show [(256 * (256 * (256 * a + b) + c) + u) / 256 / 256 / 256 % 256, (256 * (256 * (256 * a + b) + c) + u) / 256 / 256 % 256, (256 * (256 * (256 * a + b) + c) + u) / 256 % 256] = [a, b, c]
  rw [(dm _ u0 u1).1, (dm _ hc.1 hc.2).1, (dm _ hc.1 hc.2).2, (dm _ hb.1 hb.2).1, (dm _ hb.1 hb.2).2, Int.emod_eq_of_lt ha.1 ha.2]
theorem grp_short {gs : List Int} (h : KBa.In gs) (h0 : gs ≠ []) (h4 : gs.length < 4) : sum85 (pad5 ((signs5 (sum256 (pad4 gs))).take (gs.length + 1))) ≤ 4294967295 ∧ octGrp ((signs5 (sum256 (pad4 gs))).take (gs.length + 1)) = gs := by
  match gs, h, h0, h4 with
  | [], _, h0, _ => exact absurd rfl h0
  | [a], h, _, _ => exact grp_1 (h a (by simp))
  | [a, b], h, _, _ => exact grp_2 (h a (by simp)) (h b (by simp))
  | [a, b, c], h, _, _ => exact grp_3 (h a (by simp)) (h b (by simp)) (h c (by simp))
  | _ :: _ :: _ :: _ :: _, _, _, h4 => simp at h4; omega
theorem goV_four {gs : List Int} (h : KBa.In gs) (h4 : gs.length = 4) (r os : List Int) : goV (b85Group gs ++ r) os [] = goV r (os ++ gs) [] := by
  rw [lawGrp_eq h (Nat.le_of_eq h4), lawGrp]
  by_cases hz : gs = [0, 0, 0, 0]
  · rw [if_pos hz, hz]; rfl
  · rw [if_neg hz]
    obtain ⟨a, b, c, d, rfl⟩ := four_of h4
    obtain ⟨e1, e2⟩ := grp_full (h a (by simp)) (h b (by simp)) (h c (by simp)) (h d (by simp))
    have hs := sgs_in (sum256 [a, b, c, d])
    have e0 : pad4 [a, b, c, d] = [a, b, c, d] := rfl
    rw [e0]
    obtain ⟨s1, s2, s3, s4, s5, e5⟩ : ∃ s1 s2 s3 s4 s5, signs5 (sum256 [a, b, c, d]) = [s1, s2, s3, s4, s5] := ⟨_, _, _, _, _, rfl⟩
    rw [e5] at e1 e2 hs ⊢
    have e6 : (([s1, s2, s3, s4, s5] : List Int).take ([a, b, c, d].length + 1)).map (33 + ·) ++ r = [s1, s2, s3, s4].map (33 + ·) ++ ((33 + s5) :: r) := rfl
    rw [e6, goV_take (T := 0) 0 _ _ _ _ (fun x hx => hs x (by simp only [List.mem_cons, List.not_mem_nil, or_false] at hx ⊢; omega)) (by simp)]
    have h5 := hs s5 (by simp)
    rw [goV_sign h5.1 h5.2]
    show (if 4 = 4 then (if sum85 (pad5 [s1, s2, s3, s4, s5]) ≤ 4294967295 then goV r (os ++ octGrp [s1, s2, s3, s4, s5]) [] else none) else _) = _
    rw [if_pos rfl, if_pos e1, e2]
theorem goV_last {gs t os : List Int} (h : KBa.In gs) (h4 : gs.length < 4) (ht : t = [] ∨ ∃ r, t = 126 :: 62 :: r) : goV (b85Group gs ++ t) os [] = some (os ++ gs) ∨ gs = [] := by
  by_cases h0 : gs = []
  · exact .inr h0
  · refine .inl ?_
    rw [lawGrp_eq h (Nat.le_of_lt h4), lawGrp, if_neg (fun e => by rw [e] at h4; exact absurd h4 (by decide))]
    obtain ⟨e1, e2⟩ := grp_short h h0 h4
    have hn : gs.length ≠ 0 := fun e => h0 (List.length_eq_zero_iff.mp e)
    have hl : ((signs5 (sum256 (pad4 gs))).take (gs.length + 1)).length = gs.length + 1 := by
      rw [List.length_take]; simp only [signs5, List.length_cons, List.length_nil]; omega
    rw [goV_take (T := 0) 0 _ _ _ _ (fun x hx => sgs_in _ x (List.mem_of_mem_take hx)) (by rw [hl, List.length_nil]; omega), List.nil_append]
    have hf : finV os ((signs5 (sum256 (pad4 gs))).take (gs.length + 1)) = some (os ++ gs) := by
      unfold finV
      rw [hl, if_neg (by omega), if_neg (fun e => by rw [e] at hl; simp at hl), if_pos e1, e2]
    rcases ht with rfl | ⟨r, rfl⟩
    · rw [goV, hf]
    · rw [goV, if_pos rfl, if_pos (show List.take 1 (62 :: r) = [62] from rfl), hf]
theorem b85Body_cons (ks : List Int) (n : Nat) : b85Body ks (n + 1) = b85Group (ks.take 4) ++ b85Body (ks.drop 4) n := by
  unfold b85Body
  rw [List.range_succ_eq_map, List.flatMap_cons, List.flatMap_map]
  congr 2
  funext i
  rw [List.drop_drop, show 4 + 4 * i = 4 * (i + 1) by omega]
theorem goV_body : ∀ (n : Nat) (ks t os : List Int), KBa.In ks → (ks.length + 3) / 4 = n → (t = [] ∨ ∃ r, t = 126 :: 62 :: r) → goV (b85Body ks n ++ t) os [] = some (os ++ ks)
  | 0, ks, t, os, h, hn, ht => by
    have hk : ks = [] := List.length_eq_zero_iff.mp (by omega)
    subst hk
    rw [show b85Body [] 0 ++ t = t from rfl, List.append_nil]
    rcases ht with rfl | ⟨r, rfl⟩
    · rfl
    · rfl
  | n + 1, ks, t, os, h, hn, ht => by
    rw [b85Body_cons]
    by_cases h4 : 4 ≤ ks.length
    · have hl : (ks.take 4).length = 4 := by rw [List.length_take]; omega
      rw [List.append_assoc, goV_four (fun x hx => h x (List.mem_of_mem_take hx)) hl, goV_body n _ t _ (fun x hx => h x (List.mem_of_mem_drop hx)) (by rw [List.length_drop]; omega) ht, List.append_assoc, List.take_append_drop]
    · have hd : ks.drop 4 = [] := List.drop_of_length_le (by omega)
      have hn0 : n = 0 := by omega
      rw [hd, hn0, show b85Body [] 0 = [] from rfl, List.append_nil, List.take_of_length_le (by omega)]
      rcases goV_last (os := os) h (by omega) ht with e | e
      · exact e
      · rw [e] at hn; simp at hn
theorem grp_white {gs : List Int} : ∀ k ∈ b85Group gs, isWhite k = false := fun k hk => by
  cases hw : isWhite k with
  | false => rfl
  | true =>
    have hl := (white_fw hw).2.2
    unfold b85Group at hk
    split at hk
    · rw [List.mem_singleton.mp hk] at hl; omega
    · obtain ⟨s, hs, rfl⟩ := List.mem_map.mp hk
      have := sgs_in _ s (List.mem_of_mem_take hs)
      omega
theorem vals_body (ks : List Int) (n : Nat) : vals (b85Body ks n) = b85Body ks n := List.filter_eq_self.mpr fun x hx => by
  obtain ⟨i, _, hx⟩ := List.mem_flatMap.mp hx
  rw [grp_white x hx]; rfl
theorem b85_round {ks : List Int} (h : KBa.In ks) : b85Dec (b85Enc ks) = .ok ks := b85_of_V (by
  rw [b85Enc, vals_append, vals_body, show vals [126, 62] = [126, 62] from rfl, goV_body _ _ _ _ h rfl (.inr ⟨_, rfl⟩)]; rfl)
theorem b85_bent {ks bs : List Int} (h : KBa.In ks) (hb : bentOf (b85Enc ks) 2 bs) : b85Dec bs = .ok ks := by
  obtain ⟨j, wh, ks', _, hw, hk, rfl⟩ := hb
  refine b85_of_V ?_
  rw [vals_bent hw]
  have e : b85Enc ks = b85Body ks ((ks.length + 3) / 4) ++ [126, 62] := rfl
  have go := fun t ht => goV_body _ ks t [] h rfl ht
  rcases hk with rfl | ⟨x, _, _, rfl⟩ | rfl
  · rw [e, List.take_append_of_le_length (by simp), List.take_of_length_le (by simp), vals_body]
    have := go [] (.inl rfl)
    rwa [List.append_nil] at this
  · rw [e, vals_append, vals_append, vals_body, List.append_assoc]
    exact go _ (.inr ⟨_, rfl⟩)
  · rw [e, vals_append, vals_body]
    exact go _ (.inr ⟨_, rfl⟩)
end Mine
namespace Mine
open PySem.Calls PySem.Spec PySem.W PyProof.Rows

set_option maxHeartbeats 8000000 in
theorem readb85_spec (w : World) (b : Array UInt8) (tb : Tok) (hb : b.size ≤ 24) :
    CSpec w 176 40 [.bytes b tb] [] [] (fun r nw => (∃ os b' t', b85Dec (KBw.bInts b) = .ok os ∧ nw = [] ∧ r = .bytes b' t' ∧ KBw.bInts b' = os) ∨ ∃ k T u v, b85Dec (KBw.bInts b) = .error k ∧ r = .ref T ∧ nw = [(T, faultTup k u v)]) := by
  have hkl : (KBw.bInts b).length = b.size := KBw.ints_length b
  obtain ⟨ks, hks⟩ : ∃ ks, KBw.bInts b = ks := ⟨_, rfl⟩
  rw [hks] at hkl ⊢
  refine' CSpec.of_body [(Str.ofString "data", .bytes b tb)] ?ho ?hcd ?hb ?hl ?hc ?h1 ?h2 ?h3 ?_
  walk_at "mine body"
  intro dp un gd cn cs L a ccd cl outer base g L' h₁ s tk p loose mean mg mb hd9 hu B F N X T lt hrd
  have kM := kstMark
  walk_at "mine go"
  w_top off
  k_steps
  (rename Fr _ _ _ _ => F1)
  (rename News _ _ _ _ => N1)
  refine pair_bytesG (σ := SG) (fun c => c.ts) (fun i ys c => (TupsAre ys c.ps c.ts ∧ c.ps = sgn (ks.take i) 0) ∧ ys.length ≤ i) ⟨[], []⟩ rfl F1 (fun _ h => nomatch h) (by rw [sizeLine_eq]; omega) ⟨⟨.nil, rfl⟩, Nat.le_refl _⟩ (fun _ _ _ o => o.2) ?_ ?_
  · rintro gg i k t t' ys ⟨ps, ts⟩ e oe it oi C oC D m₂ h tk E' hlt hk hP9 hC hm1 hm2 F2 N2 offw
    walk_at "mine shut"
    obtain ⟨⟨hys, hps⟩, hyl⟩ := hP9
    walk_at "mine open"
    dsimp only at hys hps offw
    replace N2 : News g L' h ((e, oe) :: (it, oi) :: (C, oC) :: (D, LCg.lst ys) :: ts) := N2
    rw [hks] at hk
    clear F1 N1
    refine wpAny_tests_one ?_
    try dsimp only
    have hkb : 0 ≤ k ∧ k < 256 := KBw.ints_in (hks ▸ List.mem_of_getElem? hk)
    w_top off
    k_steps
    · rename isWhite k = true => hwh
      exact ⟨_, _, _, ⟨ps, ts⟩, rfl, by k_asm, by k_asm, fun p hp => by simpa using hp, offw, ⟨hys, by rw [hps, sgn_snoc hk, if_pos hwh, List.append_nil]⟩, Nat.le_succ_of_le hyl⟩
    · rename isWhite k = false => hwh
      rename (@LT.lt Nat _ _ _) ∧ (@LT.lt Nat _ _ _) ∧ (@LT.lt Nat _ _ _) ∧ (@LT.lt Nat _ _ _) ∧ _ => hl9
      obtain ⟨q1, q2, q3, q4, q5⟩ := hl9
      exact ⟨_, _, _, ⟨ps ++ [((i : Int), k)], (_, tupII (i : Int) t k t') :: ts⟩, rfl, by k_asm, by k_asm, by
        intro p hp
        simp only [List.mem_append, List.mem_cons, List.not_mem_nil, or_false, or_assoc] at hp ⊢
        rcases hp with h | h | h | h | h | h
        · exact .inr (.inl h)
        · exact .inr (.inr (.inl h))
        · exact .inr (.inr (.inr (.inl h)))
        · exact .inr (.inr (.inr (.inr (.inl h))))
        · exact .inl h
        · exact .inr (.inr (.inr (.inr (.inr h)))),
        List.forall_mem_cons.mpr ⟨⟨by
          intro hm
          rcases List.mem_cons.mp hm with e1 | hm
          · exact Nat.ne_of_gt q1 e1
          · exact Nat.ne_of_gt q2 (List.mem_singleton.mp hm), Nat.ne_of_gt q3, Nat.ne_of_gt q4⟩, offw⟩, ⟨TupsAre.snoc hys, by
        try dsimp only
        rw [hps, sgn_snoc hk, if_neg (by rw [hwh]; decide)]⟩, by rw [List.length_append]; exact Nat.succ_le_succ hyl⟩
  · rintro gg ys ⟨ps, ts⟩ ⟨⟨hys, hps⟩, hyl⟩
    dsimp only at hys hps hyl
    intro sa h9 tk9 F2 N2 off2
    clear F1 N1
    dsimp only at N2 F2 off2
    replace N2 : News g L' h9 ((sa, W.listOf ys.toArray ys.length) :: ts) := N2
    rw [List.take_of_length_le (by rw [hkl]; exact Nat.le_refl _)] at hps
    have hpl : ps.length ≤ 24 := by rw [hps]; exact Nat.le_trans (sgn_len _ _) (by omega)
    have hpin := sgn_in (a := ks) (i := 0) fun x hx => KBw.ints_in (hks ▸ hx)
    rw [← hps] at hpin
    have hysl := hys.1
    try dsimp only
    w_top off
    k_steps
    (rename Fr _ _ _ _ => F1)
    (rename News _ _ _ _ => N1)
    rename (@LT.lt Nat _ _ _) ∧ (@LT.lt Nat _ _ _) ∧ (@LT.lt Nat _ _ _) ∧ AllLt _ ts => hl9
    rename (@LT.lt Nat _ _ _) ∧ (@LT.lt Nat _ _ _) ∧ AllLt _ ts => hl8
    refine turns_enumLB (σ := RB) (vs := ys) (nl := ys.length) (fun c => (c.fa, W.listOf c.vf.toArray c.nf) :: (c.ga, W.listOf c.vg.toArray c.ng) :: (sa, W.listOf ys.toArray ys.length) :: c.ts) (fun c => [(Str.ofString "found", .ref c.fa), (Str.ofString "group", .ref c.ga)]) [Str.ofString "spot", Str.ofString "at", Str.ofString "code", Str.ofString "octets"]
      (fun i c => ((@LT.lt Nat _ sa c.ga ∧ @Ne Nat c.fa c.ga ∧ (∀ p ∈ c.ts, @Ne Nat p.1 c.ga)) ∧ TupsAre ys ps c.ts ∧ IntsAre c.vf c.os ∧ TupsAre c.vg c.gp c.ts ∧ c.gp.length ≤ 4 ∧ KBa.In c.os ∧ (∀ p ∈ c.gp, 0 ≤ p.2 ∧ p.2 < 85)) ∧ rdGo ps [] [] = rdGo (ps.drop i) c.os c.gp ∧ c.os.length ≤ 4 * i)
      (fun c => ((@LT.lt Nat _ sa c.ga ∧ @Ne Nat c.fa c.ga ∧ (∀ p ∈ c.ts, @Ne Nat p.1 c.ga)) ∧ TupsAre ys ps c.ts ∧ IntsAre c.vf c.os ∧ TupsAre c.vg c.gp c.ts ∧ c.gp.length ≤ 4 ∧ KBa.In c.os ∧ (∀ p ∈ c.gp, 0 ≤ p.2 ∧ p.2 < 85)) ∧ rdGo ps [] [] = .ok (c.os, c.gp) ∧ c.os.length ≤ 96)
      ⟨_, [], [], 0, _, [], [], 0, ts⟩ (fun c => .tail _ (.tail _ (.head _))) rfl F1 (fun p hp => N1 p (by
        simp only [List.mem_cons] at hp ⊢
        rcases hp with h | h | h | h
        · exact .inr (.inr (.inl h))
        · exact .inr (.inl h)
        · exact .inr (.inr (.inr (.inl h)))
        · exact .inr (.inr (.inr (.inr h))))) (by kst_all) ⟨⟨⟨hl8.2.1, Nat.ne_of_lt hl8.1, allLt_ne hl8.2.2⟩, hys, .nil, .nil, Nat.zero_le _, (fun _ h => nomatch h), (fun _ h => nomatch h)⟩, rfl, Nat.zero_le _⟩ ?_ ?_
    · clear F1 N1
      rintro i9 v T9 t c u h tk e it o o' hv hlt hP hT9 hoff hie hlI F1 N1
      obtain ⟨fa, vf, os, nf, ga, vg, gp, ng, ts1⟩ := c
      obtain ⟨⟨⟨hsg, hfg, htg⟩, hy1, hf1, hg1, hg4, hoi, hgi⟩, hgo, hol⟩ := hP
      dsimp only at hsg hfg htg hy1 hf1 hg1 hg4 hoi hgi hgo hol F1 N1 hoff
      obtain ⟨a5, at5, k, t5, u5, hp5, rfl, hm5⟩ := hy1.at hv
      replace N1 := News.swap N1
      simp only [List.cons_append, List.nil_append] at N1
      replace N1 := News.more (p := (a5, tupII at5 t5 k u5)) N1 (.tail _ (.tail _ (.tail _ (.tail _ (.tail _ hm5)))))
      have far4 : Far4 a5 e it fa ga := ⟨htg _ hm5, hoff (e, o) (.head _) ga (.tail _ (.head _)), hoff (it, o') (.tail _ (.head _)) ga (.tail _ (.head _)), hfg⟩
      replace hfg : Far fa ga := hfg
      have hkb := hpin _ (List.mem_of_getElem? hp5)
      dsimp only at hkb
      have hdr : ps.drop i9 = (at5, k) :: ps.drop (i9 + 1) := by
        obtain ⟨hi5, e5⟩ := List.getElem?_eq_some_iff.mp hp5
        rw [← e5]; exact List.drop_eq_getElem_cons hi5
      rw [hdr, rdGo] at hgo
      have hfl := hf1.length
      have hgl := hg1.1
      have hol9 : os.length ≤ 96 := by omega
      refine unpackN_ F1 N1 hT9 rfl rfl rfl ?_
      intro h2 F2 N2
      clear F1 N1 hT9 hl9 hl8
      try dsimp only
      have st9 := StopHere2.i
      w_top off
      k_steps
      · (rename Fr _ _ _ _ => F3)
        (rename News _ _ _ _ => N3)
        rename k = 126 => h126
        rw [if_pos h126] at hgo
        rw [pick_refs (by omega) (by omega), cut_one] at N3
        refine pair_tups (fun i zs => IntsAre zs ((((ps.drop (i9 + 1)).take 1).map (·.2)).take i) ∧ zs.length ≤ i) rfl F3 N3 (.inr (.head _)) (hy1.cut (i9 + 1) 1) (fun p hp => .inr (by repeat (first | (with_reducible exact hp) | (with_reducible refine List.Mem.tail _ ?_) | exact hp | refine List.Mem.tail _ ?_))) (by rw [sizeLine_eq, List.length_take]; omega) ⟨.nil, Nat.zero_le _⟩ (fun _ _ o => o.2) ?_ ?_
        · rintro gg i2 x y t2 u2 zs it2 oi2 C oC D m₂ h9 tk9 E' hlt2 hp2 hP9 hC hm1 hm2 F4 N4
          walk_at "mine shut"
          obtain ⟨hzs, hzl⟩ := hP9
          walk_at "mine open"
          clear F3 N3
          refine wpAny_tests_nil ?_
          rw [if_pos rfl]
          try dsimp only
          w_top off
          k_steps
          refine ⟨_, _, _, rfl, by k_asm, by k_asm, fun _ hp => hp, ?_, by rw [List.length_append]; exact Nat.succ_le_succ hzl⟩
          rw [take_succ_of (k := y) (by rw [List.getElem?_map, hp2]; rfl)]
          exact IntsAre.append hzs (.cons _ _ .nil)
        · rintro gg zs ⟨hzs, hzl⟩
          rw [List.take_of_length_le (by rw [List.length_map, List.length_take, List.length_take, List.length_drop, List.length_drop, hysl]; exact Nat.le_refl _)] at hzs
          intro D h9 tk9 F4 N4 off4
          clear F3 N3
          try dsimp only
          replace N4 : News g L' h9 ((D, W.listOf zs.toArray zs.length) :: _) := N4
          generalize hhd : ((ps.drop (i9 + 1)).take 1).map (·.2) = hdd at hzs hgo
          w_top off
          k_steps
          · rename hdd = [62] => hdd1
            (rename News _ _ _ _ => NN)
            exact turnEnd ⟨fa, vf, os, nf, ga, vg, gp, ng, ts1⟩ (by assumption) NN (fun p hp => by
              simp only [List.mem_cons] at hp
              rcases hp with rfl | rfl | rfl | hp
              · k_mem
              · k_mem
              · k_mem
              · repeat (first | (with_reducible exact hp) | (with_reducible refine List.Mem.tail _ ?_) | exact hp | refine List.Mem.tail _ ?_)) (fun _ h => nomatch h) (fun _ h => nomatch h) (by kst_all) (by walk_at "mine same") ⟨⟨⟨hsg, hfg, htg⟩, hy1, hf1, hg1, hg4, hoi, hgi⟩, by rw [hgo, if_pos hdd1], hol9⟩
          · rename ¬ hdd = [62] => hdd1
            refine bare ?_
            w_top off
            k_steps
            exact Back.intro [_] (by k_asm) (by k_asm) (List.forall_mem_cons.mpr ⟨.head _, List.forall_mem_nil _⟩) (.inr ⟨at5, _, _, _, dec_err hps (by rw [hgo, if_neg hdd1]), rfl, rfl⟩)
      · refine Lock.into ?_
        rename k = 122 => h122
        rename gp = [] => hgp
        rw [if_neg (by omega), if_pos ⟨h122, hgp⟩] at hgo
        rename IntsAre _ (os ++ _) => hI8
        rename (@LT.lt Nat _ _ _) ∧ (@LT.lt Nat _ _ _) ∧ (@LT.lt Nat _ _ _) ∧ (@LT.lt Nat _ _ _) ∧ (@LT.lt Nat _ _ _) ∧ (@LT.lt Nat _ _ _) ∧ (@LT.lt Nat _ _ _) ∧ (@LT.lt Nat _ _ _) ∧ AllLt _ ts1 => hl7
        have hvl0 : vg.length = 0 := by rw [hgl, hgp]; rfl
        w_top off
        k_steps
        (rename News _ _ _ _ => NN)
        exact turnEnd (σ := RB) ⟨_, _, os ++ [0, 0, 0, 0], _, ga, vg, gp, ng, ts1⟩ (by assumption) NN (List.forall_mem_cons.mpr ⟨.head _, List.forall_mem_cons.mpr ⟨by k_mem, List.forall_mem_cons.mpr ⟨by k_mem, fun p hp => by repeat (first | (with_reducible exact hp) | (with_reducible refine List.Mem.tail _ ?_) | exact hp | refine List.Mem.tail _ ?_)⟩⟩⟩) (by kst_anyIn) (ownOff_cons (List.forall_mem_cons.mpr ⟨hl7.2.2.2.1, List.forall_mem_cons.mpr ⟨hl7.2.2.2.2.1, List.forall_mem_nil _⟩⟩) hoff) (by kst_all) (by walk_at "mine same") ⟨⟨⟨hsg, Nat.ne_of_gt hl7.2.2.2.2.2.2.1, htg⟩, hy1, hI8, hg1, hg4, fun x hx => (List.mem_append.mp hx).elim (hoi x) (by intro hx; simp only [List.mem_cons, List.not_mem_nil, or_false, or_self] at hx; omega), hgi⟩, hgo, by rw [List.length_append]; simp only [List.length_cons, List.length_nil]; omega⟩
      · rename k = 122 => h122
        rename ¬ gp = [] => hgp
        refine bare ?_
        w_top off
        k_steps
        exact Back.intro [_] (by k_asm) (by k_asm) (List.forall_mem_cons.mpr ⟨.head _, List.forall_mem_nil _⟩) (.inr ⟨at5, _, _, _, dec_err hps (by rw [hgo, if_neg (by omega), if_neg (fun z => hgp z.2), if_pos (fun z => by omega)]), rfl, rfl⟩)
      · refine Lock.into ?_
        rename k ≠ 126 => h126
        rename k ≠ 122 => h122
        rename 33 ≤ k => h33
        rename k ≤ 117 => h117
        rw [if_neg h126, if_neg (fun z => h122 z.1), if_neg (fun z => z ⟨h33, h117⟩)] at hgo
        (rename News _ _ _ _ => NN)
        have hg2 := grow_grp NN hg1
        rename (@LT.lt Nat _ _ _) ∧ (@LT.lt Nat _ _ _) ∧ (@LT.lt Nat _ _ _) ∧ (@LT.lt Nat _ _ _) ∧ (@LT.lt Nat _ _ _) ∧ (@LT.lt Nat _ _ _) ∧ AllLt _ ts1 => hl7
        have hgi2 : ∀ p ∈ gp ++ [(at5, k - 33)], 0 ≤ p.2 ∧ p.2 < 85 := fun p hp => (List.mem_append.mp hp).elim (hgi p) (by intro hp; rw [List.mem_singleton.mp hp]; dsimp only; omega)
        have hgl2 : (gp ++ [(at5, k - 33)]).length = gp.length + 1 := by rw [List.length_append]; rfl
        have hgm : (gp ++ [(at5, k - 33)]).map (·.2) = gp.map (·.2) ++ [k - 33] := by rw [List.map_append]; rfl
        w_top off
        k_steps
        · rename ((gp.length : Int) + 1) = 5 => hlen5
          rw [if_pos (by omega : gp.length = 4), hgm] at hgo
          (try walk_at "mine fold")
          refine MSpec.use (lawgroup_spec w ga _ _ _ _ hg2 (by omega) (by omega) hgi2).m (by k_asm) (by k_asm) (by k_asm) (by k_asm) (by k_asm) (by exact rfl) (by walk_at "mine room") (by walk_at "mine units") (List.forall_mem_cons.mpr ⟨by k_mem, List.forall_mem_cons.mpr ⟨.head _, fun p hp => by repeat (first | (with_reducible exact hp) | (with_reducible refine List.Mem.tail _ ?_) | exact hp | refine List.Mem.tail _ ?_)⟩⟩) ?_
          rintro r n' h' tk' F3 N3 ne (⟨hsum, la, y, T', u', v', hla, rfl, rfl⟩ | ⟨hsum, l8, os8, n8, rfl, rfl, hI8⟩)
          · have hla2 := lastAt_snoc gp at5 (k - 33) hla
            rw [hgm] at hsum
            rw [if_neg (by omega)] at hgo
            clear NN ne
            simp only [List.cons_append, List.nil_append] at N3
            dsimp only [faultTup] at N3
            w_top off
            k_steps
            exact Back.intro [_] (by k_asm) (by k_asm) (List.forall_mem_cons.mpr ⟨.head _, List.forall_mem_nil _⟩) (.inr ⟨la, _, _, _, dec_err hps (by rw [hgo, hla2]), rfl, rfl⟩)
          · rw [hgm] at hsum hI8
            rw [if_pos hsum] at hgo
            have hL8 := hI8.length
            have h84 : (octGrp (gp.map (·.2) ++ [k - 33])).length = 4 := octGrp_length5 (by rw [List.length_append, List.length_map, List.length_singleton]; omega)
            clear NN ne
            simp only [List.cons_append, List.nil_append] at N3
            k_sweep
            w_top off
            k_steps
            (rename News _ _ _ _ => N5)
            rename IntsAre _ (os ++ octGrp _) => hI9
            rename (@LT.lt Nat _ _ _) ∧ (@LT.lt Nat _ _ _) ∧ (@LT.lt Nat _ _ _) ∧ (@LT.lt Nat _ _ _) ∧ (@LT.lt Nat _ _ _) ∧ (@LT.lt Nat _ _ _) ∧ (@LT.lt Nat _ _ _) ∧ (@LT.lt Nat _ _ _) ∧ AllLt _ ts1 => hl8
            rename (@LT.lt Nat _ _ _) ∧ (@LT.lt Nat _ _ _) ∧ (@LT.lt Nat _ _ _) ∧ (@LT.lt Nat _ _ _) ∧ (@LT.lt Nat _ _ _) ∧ (@LT.lt Nat _ _ _) ∧ (@LT.lt Nat _ _ _) ∧ (@LT.lt Nat _ _ _) ∧ (@LT.lt Nat _ _ _) ∧ AllLt _ ts1 => hl9
            exact turnEnd (σ := RB) ⟨_, _, os ++ octGrp (gp.map (·.2) ++ [k - 33]), _, _, [], [], 0, ts1⟩ (by assumption) N5 (List.forall_mem_cons.mpr ⟨.tail _ (.tail _ (.head _)), List.forall_mem_cons.mpr ⟨.tail _ (.head _), List.forall_mem_cons.mpr ⟨by k_mem, fun p hp => by repeat (first | (with_reducible exact hp) | (with_reducible refine List.Mem.tail _ ?_) | exact hp | refine List.Mem.tail _ ?_)⟩⟩⟩) (by kst_anyIn)
              (ownOff_swap (ownOff_cons (List.forall_mem_cons.mpr ⟨hl9.2.2.2.2.1, List.forall_mem_cons.mpr ⟨hl9.2.2.2.2.2.1, List.forall_mem_nil _⟩⟩) (ownOff_swap (ownOff_cons (List.forall_mem_cons.mpr ⟨hl8.2.2.2.1, List.forall_mem_cons.mpr ⟨hl8.2.2.2.2.1, List.forall_mem_nil _⟩⟩) hoff)))) (by kst_all) (by walk_at "mine same")
              ⟨⟨⟨hl9.2.2.2.2.2.2.2.2.1, Nat.ne_of_lt hl9.1, allLt_ne hl9.2.2.2.2.2.2.2.2.2⟩, hy1, hI9, .nil, Nat.zero_le _, fun x hx => (List.mem_append.mp hx).elim (hoi x) (octGrp_in _ x), (fun _ h => nomatch h)⟩, hgo, by rw [List.length_append, h84]; omega⟩
        · have hgn : ¬ gp.length = 4 := by omega
          rw [if_neg hgn] at hgo
          exact turnEnd (σ := RB) ⟨fa, vf, os, nf, ga, vg ++ [Value.ref _], gp ++ [(at5, k - 33)], ng + 1, _ :: ts1⟩ (by assumption) NN (List.forall_mem_cons.mpr ⟨by k_mem, List.forall_mem_cons.mpr ⟨by k_mem, List.forall_mem_cons.mpr ⟨by k_mem, List.forall_mem_cons.mpr ⟨.head _, fun p hp => by repeat (first | (with_reducible exact hp) | (with_reducible refine List.Mem.tail _ ?_) | exact hp | refine List.Mem.tail _ ?_)⟩⟩⟩⟩) (by kst_anyIn) (ownOff_4 (List.forall_mem_cons.mpr ⟨hl7.2.1, List.forall_mem_cons.mpr ⟨hl7.2.2.1, List.forall_mem_nil _⟩⟩) hoff) (by kst_all) (by walk_at "mine same") ⟨⟨⟨hsg, hfg, List.forall_mem_cons.mpr ⟨Nat.ne_of_gt hl7.2.2.2.2.1, htg⟩⟩, hy1.mono (fun p hp => .tail _ hp), hf1, hg2, by rw [hgl2]; omega, hoi, hgi2⟩, hgo, Nat.le_trans hol (Nat.mul_le_mul_left 4 (Nat.le_succ i9))⟩
      · rename k ≠ 126 => h126
        rename k ≠ 122 => h122
        refine bare ?_
        w_top off
        k_steps
        exact Back.intro [_] (by k_asm) (by k_asm) (List.forall_mem_cons.mpr ⟨.head _, List.forall_mem_nil _⟩) (.inr ⟨at5, _, _, _, dec_err hps (by rw [hgo, if_neg h126, if_neg (fun z => h122 z.1), if_pos (fun z => by omega)]), rfl, rfl⟩)
      · rename k ≠ 126 => h126
        rename k ≠ 122 => h122
        refine bare ?_
        w_top off
        k_steps
        exact Back.intro [_] (by k_asm) (by k_asm) (List.forall_mem_cons.mpr ⟨.head _, List.forall_mem_nil _⟩) (.inr ⟨at5, _, _, _, dec_err hps (by rw [hgo, if_neg h126, if_neg (fun z => h122 z.1), if_pos (fun z => by omega)]), rfl, rfl⟩)
    · clear F1 N1
      rintro ⟨fa, vf, os, nf, ga, vg, gp, ng, ts1⟩ u h tk hP F1 N1
      have hP' : ((@LT.lt Nat _ sa ga ∧ @Ne Nat fa ga ∧ (∀ p ∈ ts1, @Ne Nat p.1 ga)) ∧ TupsAre ys ps ts1 ∧ IntsAre vf os ∧ TupsAre vg gp ts1 ∧ gp.length ≤ 4 ∧ KBa.In os ∧ (∀ p ∈ gp, 0 ≤ p.2 ∧ p.2 < 85)) ∧ rdGo ps [] [] = .ok (os, gp) ∧ os.length ≤ 96 := by
        rcases hP with ⟨p1, p2, p3⟩ | hP
        · dsimp only at p1 p2 p3
          rw [hysl, List.drop_length, rdGo] at p2
          exact ⟨p1, p2, by omega⟩
        · exact hP
      clear hP
      obtain ⟨⟨⟨hsg, hfg, htg⟩, hy1, hf1, hg1, hg4, hoi, hgi⟩, hgo, hol⟩ := hP'
      clear hfg
      dsimp only at F1 N1
      have hdec := dec_ok hps hgo
      have hfl := hf1.length
      have hgl := hg1.1
      w_top off
      k_steps
      · rename (gp.length : Int) = 1 => h1
        rename gp[0]? = some (_, _) => h0
        exact Back.intro [_] (by k_asm) (by k_asm) (List.forall_mem_cons.mpr ⟨.head _, List.forall_mem_nil _⟩) (.inr ⟨_, _, _, _, by rw [hdec, rdFin, if_pos (by omega), lastAt_of (by rw [show gp.length - 1 = 0 by omega]; exact h0)], rfl, rfl⟩)
      · rename gp = [] => hgp
        have hin0 : KBa.In (os ++ []) := by rw [List.append_nil]; exact hoi
        rename IntsAre _ (os ++ []) => hI8
        have hL8 := hI8.length
        rw [List.append_nil] at hL8
        w_top off
        k_steps
        exact Back.intro [] (by k_asm) (by k_asm) (fun _ h => nomatch h) (.inl ⟨os, _, _, by rw [hdec, rdFin, if_neg (by omega), if_pos hgp], rfl, rfl, by rw [bInts_byteArr hin0, List.append_nil]⟩)
      · rename ¬ gp = [] => hgp
        have hs0 : gp.length ≠ 0 := fun z => hgp (List.length_eq_zero_iff.mp z)
        (rename News _ _ _ _ => NN)
        (try walk_at "mine fold")
        refine MSpec.use (lawgroup_spec w ga vg gp ts1 ng hg1 (by omega) (by omega) hgi).m (by k_asm) (by k_asm) (by k_asm) (by k_asm) (by k_asm) (by exact rfl) (by walk_at "mine room") (by walk_at "mine units") (List.forall_mem_cons.mpr ⟨by k_mem, fun p hp => by repeat (first | (with_reducible exact hp) | (with_reducible refine List.Mem.tail _ ?_) | exact hp | refine List.Mem.tail _ ?_)⟩) ?_
        rintro r n' h' tk' F3 N3 ne (⟨hsum, la, y, T', u', v', hla, rfl, rfl⟩ | ⟨hsum, l8, os8, n8, rfl, rfl, hI8⟩)
        · clear NN ne
          simp only [List.cons_append, List.nil_append] at N3
          dsimp only [faultTup] at N3
          w_top off
          k_steps
          exact Back.intro [_] (by k_asm) (by k_asm) (List.forall_mem_cons.mpr ⟨.head _, List.forall_mem_nil _⟩) (.inr ⟨la, _, _, _, by rw [hdec, rdFin, if_neg (by omega), if_neg hgp, if_neg (by omega), lastAt_of hla], rfl, rfl⟩)
        · have hL8 := hI8.length
          have h84 := octGrp_length (gp.map (·.2))
          have hin0 : KBa.In (os ++ octGrp (gp.map (·.2))) := fun x hx => (List.mem_append.mp hx).elim (hoi x) (octGrp_in _ x)
          clear NN ne
          simp only [List.cons_append, List.nil_append] at N3
          k_sweep
          w_top off
          k_steps
          exact Back.intro [] (by k_asm) (by k_asm) (fun _ h => nomatch h) (.inl ⟨_, _, _, by rw [hdec, rdFin, if_neg (by omega), if_neg hgp, if_pos hsum], rfl, rfl, bInts_byteArr hin0⟩)
end Mine
namespace Mine
open PySem.Calls PySem.Spec PySem.W PyProof.Rows

section
variable {prog : Program} {w : World} {A : Around} {E : Value → Shared → Prop} {s : Shared} {K : Frag} {x C : Addr} {ox : Obj} {od : Option Obj} {name : Str} {expr : Bool} {Q : Value → Shared → Prop}
/-- a value of an exception's own dict is read -/
theorem exc_get {v : Value} (X : K.In s.heap) (I : InstAt s.heap x ox C od) (hga : findIn K (.ref C) "__getattribute__" = some (some (.builtin "BaseException.__getattribute__")))
    (hgt : findIn K (.ref C) "__getattr__" = some none) (hexc : mroIn K C (.type "BaseException") = some true) (hf : findObj K C od name = some (.value v)) (hh : handedIn v = true) (h : Q v { s with toks := s.toks + 1 }) :
    wpAny (model prog w) A (getAttr (.ref x) name expr) Q E s := by
  obtain ⟨hp, g, d, t, os⟩ := s
  have L0 := I.type (M := model prog w)
  have L1 := looks_findIn (M := model prog w) X hga
  have L2 := looks_findIn (M := model prog w) X hgt
  have L3 := looks_find (M := model prog w) X I hf
  have LX : Looks (model prog w) hp (isInstance (.ref x) (.type "BaseException")) true := I.type.andThen (looks_mroIn X hexc)
  have ga := PySem.F.attr_Exception.ga
  have f3 := ga.bind (.ref x)
  have hx0 : (expr && onTheHeap (Value.builtin "BaseException.__getattribute__")) = false := by cases expr <;> rfl
  have hx1 : (onTheHeap (Value.ref C) && Value.builtin "BaseException.__getattribute__" == Value.builtin "object.__getattribute__") = false := by
    rw [show (Value.builtin "BaseException.__getattribute__" == Value.builtin "object.__getattribute__") = false from by decide +kernel]; rfl
  unfold getAttr getAttrBy
  refine wpAny_bind (wpAny_mkText (wpAny_holding (wpAny_bind (L0.at (wpAny_bind (L1.at ?_))))))
  dsimp only
  rw [hx1]
  show wpAny _ _ (getAttrByItsOwn _ _ _ _ _ _) _ _ _
  unfold getAttrByItsOwn callGetattribute
  rw [hx0]
  refine wpAny_bind (L2.at ?_)
  refine wpAny_bind (wpAny_attempt (wpAny_holding ?_))
  show wpAny _ _ (boundAndCalled _ _ _) _ _ _
  unfold boundAndCalled
  rw [f3]
  refine wpAny_bind (wpAny_pure ?_)
  refine wpAny_call ?_
  refine codeAny_call_builtin ga.plain F.entry_bexc_ga (@check_slot (model prog w) _ _ _ "BaseException.__getattribute__" "BaseException" "__getattribute__" (.ref x) [.str name t] [] _ (by decide +kernel) (by decide +kernel) LX (F.args_bexc_ga (.ref x) (.str name t)) ?_)
  unfold Builtin.«object.__getattribute__»
  refine wpAny_bind (wpAny_pure ?_)
  refine wpAny_bind (wpAny_pure ?_)
  refine wpAny_bind (L0.at (wpAny_bind (L3.at ?_)))
  refine wpAny_pure ?_
  dsimp only
  show wpAny _ _ (handedOut v) _ _ _
  rw [handedOut_of hh]; exact wpAny_pure h
end
end Mine
namespace Mine
open PySem.Calls PySem.Spec PySem.W PyProof.Rows

theorem callWith_L {M : Model} {A : Around} {E : Value → Shared → Prop} {s : Shared} {env : Env} {pos : Pos} {Q : Value → Shared → Prop} {la c' : Addr} {name qual : Str} {params : Arguments} {body : PySem.Expr} {scope : Scope} {cl : List (Str × Addr)} {pm ctv : Value}
    (ho : s.heap.get? la = some (kla_obj name qual params body scope cl pm c' ctv)) (h : wpAny M A (call (.ref la) []) Q E s) : wpAny M A (callWith pos (.ref la) [] (backTo pos (starEach [] env)) []) Q E s :=
  callWith_of (P := fun h => h.get? la = some (kla_obj name qual params body scope cl pm c' ctv)) rfl (fun h X => ⟨.frame, .inl rfl, (Looks.ld (part := none) X).andThen .now⟩) (evalArgs_nil3 ⟨ho, h⟩)

theorem XSpec.useG {w : World} {f : Addr} {dn : Nat} {vs : List Value} {rd news : Led} {post : Value → Led → Prop} {epost : Int → Prop} (S : XSpec w f dn vs rd post epost)
    {dp un : Nat} {gd : Option (List Code)} {cn : Str} {cs : Scope} {a : Addr} {ccd : Value} {cl : List (Str × Addr)} {outer : List Env} {A₀ : Around} {base h₀ : Heap} {L : Addr} {m : Str → Option Value} {s : Shared} {Q E : Value → Shared → Prop}
    {p : Program} {loose : List Str} {mean : ExcName → Option Value} {mg mb : Str → Option Value} {xs : Led}
    (B : Below A₀ base outer h₀) (F : Fr h₀ L s.heap m) (X : (hd.heap_1 w.params).In h₀) (N : News h₀ L s.heap news) (T : Top p loose mean mg mb h₀) (hk : cs.kind = .function)
    (hr : dp + dn < recursionLimit) (hu : un + 8 * dn < cLine) (hrd : ∀ p ∈ rd, h₀.get? p.1 = some p.2) (hx : XOK base (envX cn cs L a ccd cl :: outer) s.heap xs)
    (hE : ∀ (e : Addr) (k : Int) (h' : Heap) (tk' : Nat), epost k → Fault base (envX cn cs L a ccd cl :: outer) e k xs h' → s.heap.UpToSlots h' → E (.ref e) { s with heap := h', toks := tk' })
    (ret : ∀ (r : Value) (n' : Led) (h' : Heap) (tk' : Nat), Fr h₀ L h' m → News h₀ L h' (n' ++ news) → post r n' → Q r { s with heap := h', toks := tk' }) :
      wpAny (model PySem.Challenge.rw_nn0196_01.row.prog w) (ktrTop dp un gd cn cs L a ccd cl outer) (call (.ref f) vs) Q E s :=
  S dp un gd cn cs a ccd cl outer A₀ base h₀ L m s Q E p loose mean mg mb xs B F X T hk hr hu (fun q hq => F.keep _ _ (hrd q hq)) hx (fun r n' h' tk' F' N' kp fr hp =>
    ret r n' h' tk' F' (fun q hq => by
      rcases List.mem_append.mp hq with hq | hq
      · exact N' q hq
      · exact ⟨kp _ _ (fun x => nomatch x) (N q hq).1, (N q hq).2⟩) hp) hE

set_option maxHeartbeats 4000000 in
theorem heard_spec (w : World) (la c' : Addr) {name qual : Str} {params : Arguments} {body : PySem.Expr} {scope : Scope} {cls : List (Str × Addr)} {pm ctv : Value} (dn : Nat) (rd : Led) (R : Array UInt8 → Prop) (epost : Int → Prop) (hdn : dn ≤ 60) (hla : (la, kla_obj name qual params body scope cls pm c' ctv) ∈ rd)
    (S : XSpec w la dn [] rd (fun r nw => nw = [] ∧ ∃ b t, r = .bytes b t ∧ R b) epost) :
    HSpec w 151 (dn + 5) [.ref la] rd (fun r nw => nw = [] ∧ ∃ b t, r = .bytes b t ∧ R b) epost := by
  refine' HSpec.of_body [(Str.ofString "work", .ref la)] ?ho ?hcd ?hb ?hl ?hc ?h1 ?h2 ?h3 ?_ (by omega)
  walk_at "mine body"
  intro dp un gd cn cs L a ccd cl outer h₀ g L' h₁ s tk p loose mean mg mb xs hd9 hu hck B F X0 X T0 T hrd hxs hsz
  have N : News g L' h₁ [] := fun _ h => nomatch h
  have kM := kstMark
  walk_at "mine go"
  k_steps
  rename Fr _ _ _ _ => F1
  rename News _ _ _ _ => N1
  refine callWith_L (F1.keep _ _ (hrd _ hla)) ?_
  (try walk_at "mine fold")
  refine XSpec.useG (xs := xs) S (by k_asm) (by k_asm) (by k_asm) (by k_asm) (by k_asm) (by exact rfl) (by walk_at "mine room") (by walk_at "mine units") hrd ?hx ?hE ?_
  case hx => exact XOK.inner (by k_asm) hxs
  case hE =>
    rintro e9 k9 h9 tk9 hp RF sm
    refine caught_F (bmB := [.ref 54, .type "Exception", .type "BaseException", .type "object"]) (newId := "Exception.__new__") B F1 sm RF hsz X0 (topRead_of T0) ?ex ?q rfl ?_
    case ex => k_is
    case q => k_exc
    intro h6 g₆ tk6 dx es9 dn9 oe k3 B6 af F6 N6 hc6 hd6 hdat6 hat
    have X6 := X0.keeps af.1
    have T6 := T0.keeps af.1
    obtain ⟨vs6, hdat6⟩ := hdat6
    obtain ⟨cc, dd, da, sl⟩ := oe
    dsimp only at hc6 hd6 hdat6
    subst hc6 hd6 hdat6
    clear F1 N1 B X T RF sm
    k_steps
    (rename Fr _ _ _ _ => F7)
    (rename News _ _ _ _ => N7)
    refine exc_get (K := hd.heap_1 w.params) (C := 67) (od := some (dictOf es9 dn9)) (ox := { cls := .ref 67, dict := some dx, data := .fields vs6, slots := sl }) (X6.keeps F7.keep) ⟨(N7 _ (.tail _ (.head _))).1, rfl, rfl, (N7 _ (.head _)).1⟩ ?k4 ?k5 ?k6 (findObj_own (attr := none) ?k7 ?k8 rfl hat) rfl ?_
    case k4 => k_is
    case k5 => k_is
    case k6 => k_is
    case k7 => k_is
    case k8 => k_is
    k_steps
    (rename (@LT.lt Nat _ _ _) ∧ (@LT.lt Nat _ _ _) ∧ AllLt _ xs => hl9)
    exact .inr ⟨g₆, af, Back.intro (_ :: xs) (by k_asm) (by k_asm) (List.forall_mem_cons.mpr ⟨.head _, fun p hp => .tail _ (.tail _ (.tail _ hp))⟩) ⟨k9, _, _, _, hp, rfl, rfl, allNe_of (allLt_ne hl9.2.2)⟩⟩
  rintro r n' h' tk' F2 N2 ⟨rfl, bb, tb, rfl, hpost⟩
  clear F1 N1
  simp only [List.nil_append] at N2
  k_steps
  exact .inl (Back.intro [] (by k_asm) (by k_asm) (fun _ h => nomatch h) ⟨rfl, bb, tb, rfl, hpost⟩)
end Mine
namespace Mine
open PySem.Calls PySem.Spec PySem.W PyProof.Rows

theorem XSpec.of_lambda {w : World} {f c' : Addr} {dn : Nat} {rd : Led} {post : Value → Led → Prop} {epost : Int → Prop}
    {name qual : Str} {params : Arguments} {body : PySem.Expr} {scope : Scope} {cl : List (Str × Addr)} {pm ctv : Value} {oc : Obj} {vsc : Array Value} {tq : Tok}
    (hdc : oc.data = .fields vsc) (hq : vsc[1]? = some (.str qual tq)) (hf : (f, kla_obj name qual params body scope cl pm c' ctv) ∈ rd) (hc : (c', oc) ∈ rd)
    (hbind : bindArgs (kla_fn name qual params body scope cl pm (.ref c') ctv) ⟨[], []⟩ = pure [])
    (hcell : ∀ x ∈ scope.names, x.2 ≠ .cell) (hco : scope.isCoroutine = false) (hgen : scope.isGenerator = false) (hk : scope.kind = .function)
    (h : ∀ (dp un : Nat) (gd : Option (List Code)) (cn : Str) (cs : Scope) (L a : Addr) (ccd : Value) (cl0 : List (Str × Addr)) (outer : List Env) (base g : Heap) (L' : Addr) (h₁ : Heap) (s : Shared) (tk : Nat)
      (p : Program) (loose : List Str) (mean : ExcName → Option Value) (mg mb : Str → Option Value) (xs : Led), dp + dn < recursionLimit → un + 8 * dn < cLine →
      Below (ktrTop dp un gd cn cs L a ccd cl0 outer) base (envX cn cs L a ccd cl0 :: outer) g → Fr g L' h₁ (fun y => ([] : List (Str × Value)).reverse.lookup y) → (hd.heap_1 w.params).In g → Top p loose mean mg mb g → (∀ p ∈ rd, g.get? p.1 = some p.2) → XOK base (envX cn cs L a ccd cl0 :: outer) g xs →
      ∀ (Qe : Value → Shared → Prop) (Ee : Value → Shared → Prop), (∀ v s', Throw s base g L' (envX qual scope L' f (.ref c') cl) (envX cn cs L a ccd cl0 :: outer) xs epost v s' →
        wpAny (model PySem.Challenge.rw_nn0196_01.row.prog w) ((ktrTop dp un gd cn cs L a ccd cl0 outer).deeper (envX qual scope L' f (.ref c') cl)) (leaving (envX qual scope L' f (.ref c') cl) v) (fun _ s'' => Qe v s'') Ee s') →
      wpAny (model PySem.Challenge.rw_nn0196_01.row.prog w) ((ktrTop dp un gd cn cs L a ccd cl0 outer).deeper (envX qual scope L' f (.ref c') cl)) (eval body (envX qual scope L' f (.ref c') cl))
        (fun v s' => Back s g post v s')
        (fun v s' => wpAny (model PySem.Challenge.rw_nn0196_01.row.prog w) ((ktrTop dp un gd cn cs L a ccd cl0 outer).deeper (envX qual scope L' f (.ref c') cl)) (leaving (envX qual scope L' f (.ref c') cl) v) (fun _ s'' => Qe v s'') Ee s') { s with heap := h₁, toks := tk })
    (hdn : 0 < dn := by decide) : XSpec w f dn [] rd post epost := by
  intro dp un gd cn cs a ccd cl0 outer A₀ base h₀ L m s Q E p loose mean mg mb xs B F X T hck hdp hu hrd hxs hret hthr
  refine wpAny_call ?_
  obtain ⟨FG, BG, st, _⟩ := groundX (R := fun _ _ => True) (news := []) (A := ktrTop dp un gd cn cs L a ccd cl0 outer) (env := envX cn cs L a ccd cl0) B F (fun _ h => nomatch h) rfl rfl hck
  have Xs : (hd.heap_1 w.params).In s.heap := X.keeps F.keep
  refine kla_callFunE (by show dp < recursionLimit; omega) (hrd _ hf) rfl hco hgen rfl ⟨c', oc, vsc, tq, rfl, hrd _ hc, hdc, hq⟩ ?_
  rw [hbind]
  refine wpAny_pure (wpAny_newFunctionEnv hcell (fun y hy => nomatch hy) (fun h₁ hns hsb => ⟨((T.nolimit).keeps F.keep).fresh _ hsb, ?_⟩) hk)
  show codeAny _ _ (.expr body (envX qual scope s.heap.objs.size f (.ref c') cl)) _ _
  have hk₁ : ∀ b o, s.heap.get? b = some o → h₁.get? b = some o := fun b o e => hsb.extBut b o (Nat.ne_of_lt (Heap.lt_size e)) (Heap.get?_push_of_some _ e)
  have kg : ∀ b o, s.heap.get? b = some o → (hideAll s.heap (([] : Led).map (·.1))).get? b = some o := fun b o e => hideAll_get _ e (fun h => nomatch h)
  have hxg : XOK base (envX cn cs L a ccd cl0 :: outer) (hideAll s.heap (([] : Led).map (·.1))) xs := fun q hq => ⟨kg _ _ (hxs q hq).1, (hxs q hq).2⟩
  refine kla_codeExpr (wpAny_mono (h dp un gd cn cs L a ccd cl0 outer base _ s.heap.objs.size h₁ s _ p loose mean mg mb xs hdp hu BG ⟨hns, fun b o e => hk₁ b o (of_hideAll _ e), Nat.le_of_eq (hideAll_size _ _)⟩
    (X.keeps st) (T.keeps st) (fun p hp => kg _ _ (hrd p hp)) hxg _ _ (fun v s' hT => ?_)) (fun v s' hB => ?_) (fun v s' hT => hT))
  · obtain ⟨e, k, h', tk', rfl, rfl, hp, hh⟩ := hT
    have ug : ∀ {h'}, (hideAll s.heap (([] : Led).map (·.1))).UpToSlots h' → s.heap.UpToSlots h' := fun x => (Heap.UpToSlots.of_keeps kg).trans x
    rcases hh with ⟨m, news, dx, es, n, t1, vs', tn, tk, F', N', i1, i2, i3, hat⟩ | ⟨g₂, m, F', sm, R⟩
    · exact fault_made BG F' N' i1 i2 i3 hxg hat (fun h'' R' sm' => hthr _ _ _ _ hp R' (ug sm')) hk
    · exact fault_on BG F' R sm (fun h'' R' sm' => hthr _ _ _ _ hp R' (ug sm'))
  · obtain ⟨L'', m'', news', h', tk', rfl, F'', N'', hp⟩ := hB
    have kp : Kept s.heap h' [] := fun b o hb e => F''.keep b o (hideAll_get _ e hb)
    obtain ⟨oL, es, ep, hL, hLd, hLk, hLf⟩ := FG.ns
    refine hret _ news' h' tk' ⟨⟨oL, es, ep, F''.keep _ _ hL, hLd, hLk, hLf⟩, fun b o e => F''.keep _ _ (FG.keep _ _ e), F.above⟩ (fun p hp' => ⟨(N'' p hp').1, fun e => ?_, ?_⟩) kp (fun p hp' => .inr ?_) hp
    · have := (N'' p hp').2.2; rw [e, hL] at this; cases this
    · cases q : h₀.get? p.1 with
      | none => rfl
      | some o => have := (N'' p hp').2.2; rw [FG.keep _ _ q] at this; cases this
    · cases q : s.heap.get? p.1 with
      | none => rfl
      | some o => have := (N'' p hp').2.2; rw [kg _ _ q] at this; cases this
end Mine
namespace Mine
open PySem.Calls PySem.Spec PySem.W PyProof.Rows

theorem pen_ne2 {sc x pen : Addr} {bb : Nat} {o : Obj} {h : Heap} {vs : List Value} {ns : List Int} {n9 : Nat} (hp : PenIs sc bb o) (hi : IntsAre vs ns) (h1 : h.get? x = some (W.listOf vs.toArray n9)) (h2 : h.get? pen = some o) : x ≠ pen := fun e => by
  obtain ⟨i, ti, d, td, z, tz, n, rfl, _⟩ := hp
  rw [e, h2] at h1
  injection h1 with h1
  injection h1 with _ _ h1
  injection h1 with h1
  have h1 : [Value.ref sc, .int i ti, .int d td, .int z tz] = vs := by simpa using h1
  rw [← h1] at hi
  cases hi
/-- an XSpec whose fault cannot be -/
theorem XSpec.m {w : World} {f : Addr} {dn : Nat} {vs : List Value} {rd : Led} {post : Value → Led → Prop} {epost : Int → Prop} (S : XSpec w f dn vs rd post epost) (hno : ∀ k, ¬ epost k) : MSpec w f dn vs rd [] post :=
  fun dp un gd cn cs a ccd cl outer A₀ base h₀ L m s Q E p loose mean mg mb B F X N T hk hr hu hrd hret =>
    S dp un gd cn cs a ccd cl outer A₀ base h₀ L m s Q E p loose mean mg mb [] B F X T hk hr hu (fun p hp => (hrd p hp).1) (fun _ h => nomatch h) hret (fun e k _ _ he _ _ => absurd he (hno k))

theorem pen_use {w : World} {f : Addr} {dn : Nat} {avs : List Value} {pen sc : Addr} {bb : Nat} {o : Obj} {vs : List Value} {ns : List Int} {nsc : Nat} {rd' : Led} {Φ : Array UInt8 → Prop} {news : Led} {gg : Obj → Led}
    (S : MSpec w f dn avs ((sc, W.listOf vs.toArray nsc) :: rd') [(pen, o)] (fun r nw => ∃ o' n', nw = (pen, o') :: n' ∧ n' = [] ∧ PenIs sc (bb + 50) o' ∧ ∃ b t, r = .bytes b t ∧ Φ b))
    {dp un : Nat} {gd : Option (List Code)} {cn : Str} {cs : Scope} {a : Addr} {ccd : Value} {cl : List (Str × Addr)} {outer : List Env} {A₀ : Around} {base h₀ : Heap} {L : Addr} {m : Str → Option Value} {s : Shared} {Q E : Value → Shared → Prop}
    {p : Program} {loose : List Str} {mean : ExcName → Option Value} {mg mb : Str → Option Value}
    (B : Below A₀ base outer h₀) (F : Fr h₀ L s.heap m) (X : (hd.heap_1 w.params).In h₀) (N : News h₀ L s.heap news) (T : Top p loose mean mg mb h₀) (hk : cs.kind = .function)
    (hr : dp + dn < recursionLimit) (hu : un + 8 * dn < cLine) (U : UpdF pen o news gg) (hp : PenIs sc bb o) (hs : ScIs sc vs ns nsc) (hsc : (sc, W.listOf vs.toArray nsc) ∈ news)
    (hrd : ∀ p ∈ rd', p ∈ news ∧ ∃ mvs ms nm, p.2 = W.listOf (List.toArray mvs) nm ∧ IntsAre mvs ms)
    (ret : ∀ b t o' h' tk', Fr h₀ L h' m → News h₀ L h' (gg o') → PenIs sc (bb + 50) o' → Φ b → Q (.bytes b t) { s with heap := h', toks := tk' }) :
      wpAny (model PySem.Challenge.rw_nn0196_01.row.prog w) (ktrTop dp un gd cn cs L a ccd cl outer) (call (.ref f) avs) Q E s := by
  have hsc' := (N _ hsc).1
  obtain ⟨pre, suf, hn, hg, h1, h2⟩ := id U.split
  have hpen := (N (pen, o) (by rw [hn]; exact List.mem_append_right _ (.head _))).1
  have hne := pen_ne hp hs.areInts hsc' hpen
  (try walk_at "mine fold")
  refine MSpec.use1h S B F X N T hk hr hu (List.forall_mem_cons.mpr ⟨⟨hsc', hne⟩, fun q hq => ?_⟩) U ?_
  · obtain ⟨hm, mvs, ms, nm, e, hi⟩ := hrd q hq
    have hg9 := (N _ hm).1
    refine ⟨hg9, pen_ne2 hp hi (?_ : s.heap.get? q.1 = some (W.listOf (List.toArray mvs) nm)) hpen⟩
    rw [← e]; exact hg9
  · rintro r o' n' h' tk' F' N' _ ⟨rfl, hp', b, t, rfl, hb⟩
    exact ret b t o' h' tk' F' N' hp' hb

theorem bytes_inj {a b : Array UInt8} (h : KBw.bInts a = KBw.bInts b) : a = b := by
  have e : ∀ x : Array UInt8, KBw.bInts x = x.toList.map fun c => (c.toNat : Int) := fun x => rfl
  rw [e, e] at h
  have : a.toList = b.toList := by
    revert h
    generalize a.toList = x
    generalize b.toList = y
    intro h
    induction x generalizing y with
    | nil => cases y with | nil => rfl | cons => simp at h
    | cons c r ih => cases y with
      | nil => simp at h
      | cons d q =>
        simp only [List.map_cons, List.cons.injEq] at h
        rw [ih q h.2, UInt8.toNat_inj.mp (show c.toNat = d.toNat by omega)]
  exact Array.toList_inj.mp this
end Mine
namespace Mine
open PySem.Calls PySem.Spec PySem.W PyProof.Rows
theorem hexFold_len (w : Int) : ∀ (l m : List Int), (l.foldl (hexOct w) m).length ≤ m.length + 4 * l.length
  | [], m => by simp
  | o :: r, m => by
    have h1 := hexOct_length w m o
    have h2 := hexFold_len w r (hexOct w m o)
    rw [List.foldl_cons, List.length_cons]; omega
theorem hexEnc_len (l : List Int) (w : Int) : 1 ≤ (hexEnc l w).length ∧ (hexEnc l w).length ≤ 4 * l.length + 1 := by
  have h := hexFold_len w l []
  unfold hexEnc
  rw [List.length_append, List.length_singleton]
  simp only [List.length_nil] at h
  omega
theorem b85Body_len (ks : List Int) : ∀ n : Nat, (b85Body ks n).length ≤ 5 * n
  | 0 => by simp [b85Body]
  | n + 1 => by
    have h := b85Body_len ks n
    have h2 := b85Group_length ((ks.drop (4 * n)).take 4)
    rw [b85Body_succ, List.length_append]; omega
theorem b85Enc_len (l : List Int) : 2 ≤ (b85Enc l).length ∧ (b85Enc l).length ≤ 5 * ((l.length + 3) / 4) + 2 := by
  have h := b85Body_len l ((l.length + 3) / 4)
  unfold b85Enc
  rw [List.length_append]
  simp only [List.length_cons, List.length_nil]
  omega
end Mine
namespace Mine
open PySem.Calls PySem.Spec PySem.W PyProof.Rows
theorem ite_self_ne {l : List UInt8} {P Q : Prop} (h : Q) : if (l != l) = true then P else Q := by rw [if_neg (by simp)]; exact h
theorem News.pick4 {g h : Heap} {L : Addr} {a b c d e f : Addr × Obj} (N : News g L h [a, b, c, d, e, f]) : News g L h [a, c, e, f] := fun p hp => N p (by
  simp only [List.mem_cons, List.not_mem_nil, or_false] at hp ⊢
  rcases hp with h | h | h | h <;> simp [h])
theorem pen_init {g h : Heap} {L P sc : Addr} {x : Int} {t1 t2 t3 : Tok} {n nsc : Nat} {vs : List Value} {ns : List Int} {rest : Led} (N : News g L h ((P, W.listOf #[.ref sc, .int 0 t1, .int 0 t2, .int (x.fmod 1009) t3] n) :: (sc, W.listOf vs.toArray nsc) :: rest)) (hi : IntsAre vs ns) (hl : ns.length ≤ 63) :
    ∃ o, PenIs sc 0 o ∧ ScIs sc vs ns nsc ∧ News g L h ((P, o) :: (sc, W.listOf vs.toArray nsc) :: rest) := by
  refine ⟨_, ⟨0, t1, 0, t2, x.fmod 1009, t3, n, rfl, Int.le_refl _, Int.le_refl _, Int.le_refl _, Int.fmod_nonneg_of_pos _ (by decide), ?_⟩, ⟨hi, hl⟩, N⟩
  have := Int.fmod_lt_of_pos x (show (0 : Int) < 1009 by decide)
  omega
end Mine
namespace Mine
open PySem.Calls PySem.Spec PySem.W PyProof.Rows
theorem bentOf_len {ks : List Int} {e : Int} {bs : List Int} (h : bentOf ks e bs) : bs.length ≤ ks.length + 3 := by
  obtain ⟨j, wh, ks', _, _, hk, rfl⟩ := h
  have e1 : (ks'.take j ++ [wh] ++ ks'.drop j).length = ks'.length + 1 := by
    simp only [List.length_append, List.length_take, List.length_drop, List.length_singleton]; omega
  rw [e1]
  rcases hk with rfl | ⟨x, _, _, rfl⟩ | rfl
  · rw [List.length_take]; omega
  · rw [List.length_append]; simp only [List.length_cons, List.length_nil]; omega
  · omega
end Mine
namespace Mine
open PySem.Calls PySem.Spec PySem.W PyProof.Rows
section
variable {w : World} {pen sc cd : Addr} {bb : Nat} {o : Obj} {vs : List Value} {ns : List Int} {nsc : Nat} {cvs : List Value} {ks : List Int} {ncd : Nat} {rest : Led} {gg : Obj → Led}
    {dp un : Nat} {gd : Option (List Code)} {cn : Str} {cs : Scope} {a : Addr} {ccd : Value} {cl : List (Str × Addr)} {outer : List Env} {A₀ : Around} {base h₀ : Heap} {L : Addr} {m : Str → Option Value} {s : Shared} {Q E : Value → Shared → Prop}
    {p : Program} {loose : List Str} {mean : ExcName → Option Value} {mg mb : Str → Option Value}
theorem bent_use {ends : Int} {t : Tok} (B : Below A₀ base outer h₀) (F : Fr h₀ L s.heap m) (X : (hd.heap_1 w.params).In h₀) (N : News h₀ L s.heap ((cd, W.listOf cvs.toArray ncd) :: rest)) (T : Top p loose mean mg mb h₀) (hk : cs.kind = .function)
    (hr : dp + 20 < recursionLimit) (hu : un + 8 * 20 < cLine) (U : UpdF pen o ((cd, W.listOf cvs.toArray ncd) :: rest) gg) (hp : PenIs sc bb o) (hs : ScIs sc vs ns nsc) (hsc : (sc, W.listOf vs.toArray nsc) ∈ (cd, W.listOf cvs.toArray ncd) :: rest)
    (hbb : bb ≤ 9000) (hc : IntsAre cvs ks) (hk2 : ks.length ≤ 200) (hki : KBa.In ks) (he0 : 1 ≤ ends) (he2 : ends ≤ 2) (he3 : ends ≤ ks.length)
    (ret : ∀ b t o' h' tk', Fr h₀ L h' m → News h₀ L h' (gg o') → PenIs sc (bb + 50) o' → bentOf ks ends (KBw.bInts b) → Q (.bytes b t) { s with heap := h', toks := tk' }) :
      wpAny (model PySem.Challenge.rw_nn0196_01.row.prog w) (ktrTop dp un gd cn cs L a ccd cl outer) (call (.ref 183) [.ref pen, .ref cd, .int ends t]) Q E s :=
  pen_use (Φ := fun b => bentOf ks ends (KBw.bInts b)) (bent_spec w pen sc cd o vs ns nsc bb cvs ks ncd ends t hs hp hbb hc hk2 hki he0 he2 he3) B F X N T hk hr hu U hp hs hsc (List.forall_mem_cons.mpr ⟨⟨.head _, _, _, _, rfl, hc⟩, List.forall_mem_nil _⟩) ret
theorem data_use (B : Below A₀ base outer h₀) (F : Fr h₀ L s.heap m) (X : (hd.heap_1 w.params).In h₀) (N : News h₀ L s.heap ((cd, W.listOf cvs.toArray ncd) :: rest)) (T : Top p loose mean mg mb h₀) (hk : cs.kind = .function)
    (hr : dp + 30 < recursionLimit) (hu : un + 8 * 30 < cLine) (U : UpdF pen o ((cd, W.listOf cvs.toArray ncd) :: rest) gg) (hp : PenIs sc bb o) (hs : ScIs sc vs ns nsc) (hsc : (sc, W.listOf vs.toArray nsc) ∈ (cd, W.listOf cvs.toArray ncd) :: rest)
    (hbb : bb ≤ 9000) (hc : IntsAre cvs ks) (h1 : 1 ≤ ks.length) (h3 : ks.length ≤ 300) (hki : KBa.In ks)
    (ret : ∀ b t o' h' tk', Fr h₀ L h' m → News h₀ L h' (gg o') → PenIs sc (bb + 50) o' → b.size ≤ 24 → Q (.bytes b t) { s with heap := h', toks := tk' }) :
      wpAny (model PySem.Challenge.rw_nn0196_01.row.prog w) (ktrTop dp un gd cn cs L a ccd cl outer) (call (.ref 188) [.ref pen, .ref cd]) Q E s :=
  pen_use (Φ := fun b => b.size ≤ 24) (data_spec w pen sc cd o vs ns nsc bb cvs ks ncd hs hp hbb hc h1 h3 hki).m B F X N T hk hr hu U hp hs hsc (List.forall_mem_cons.mpr ⟨⟨.head _, _, _, _, rfl, hc⟩, List.forall_mem_nil _⟩) ret
end
end Mine
namespace Mine
open PySem.Calls PySem.Spec PySem.W PyProof.Rows
theorem News.drop7 {g h : Heap} {L : Addr} {a b c d e f i j : Addr × Obj} {r : Led} (N : News g L h (a :: b :: c :: d :: e :: f :: i :: j :: r)) : News g L h (a :: r) := fun p hp => N p (by
  rcases List.mem_cons.mp hp with h | h
  · exact h ▸ .head _
  · exact .tail _ (.tail _ (.tail _ (.tail _ (.tail _ (.tail _ (.tail _ (.tail _ h))))))))
end Mine
namespace Mine
open PySem.Calls PySem.Spec PySem.W PyProof.Rows
structure CellAt (g : Heap) (ce : Addr) (co : Obj) (v : Value) : Prop where
  get : g.get? ce = some co
  data : co.data = .cell (some v)
theorem CellAt.news {g h : Heap} {L ce : Addr} {co : Obj} {v : Value} {m : Str → Option Value} (hc : CellAt g ce co v) (F : Fr g L h m) : News (hideAll g [ce]) L h [(ce, co)] := fun p hp => by
  rw [List.mem_singleton.mp hp]
  exact ⟨F.keep _ _ hc.get, Nat.ne_of_lt (Nat.lt_of_lt_of_le (Heap.lt_size hc.get) F.above), hideAll_none _ (.head _)⟩
end Mine
namespace Mine
open PySem.Calls PySem.Spec PySem.W PyProof.Rows
theorem News.pickA {g h : Heap} {L : Addr} {a b c d e f i : Addr × Obj} {r : Led} (N : News g L h (a :: b :: c :: d :: e :: f :: i :: r)) : News g L h (a :: c :: e :: r) := fun p hp => N p (by
  rcases List.mem_cons.mp hp with h | hp
  · exact h ▸ .head _
  · rcases List.mem_cons.mp hp with h | hp
    · exact h ▸ .tail _ (.tail _ (.head _))
    · rcases List.mem_cons.mp hp with h | hp
      · exact h ▸ .tail _ (.tail _ (.tail _ (.tail _ (.head _))))
      · exact .tail _ (.tail _ (.tail _ (.tail _ (.tail _ (.tail _ (.tail _ hp)))))))
theorem News.pickB {g h : Heap} {L : Addr} {a b c d : Addr × Obj} {r : Led} (N : News g L h (a :: b :: c :: d :: r)) : News g L h (a :: c :: r) := fun p hp => N p (by
  rcases List.mem_cons.mp hp with h | hp
  · exact h ▸ .head _
  · rcases List.mem_cons.mp hp with h | hp
    · exact h ▸ .tail _ (.tail _ (.head _))
    · exact .tail _ (.tail _ (.tail _ (.tail _ hp))))
end Mine
theorem Mine.words_P35 : True := by
  (k_with "call ref" => (k_here; (first
  | (with_reducible show wpAny _ _ (call (Value.ref 144) _) _ _ _)
  | (with_reducible show wpAny _ _ (call (Value.ref 130) _) _ _ _)
  | (with_reducible show wpAny _ _ (call (Value.ref 77) _) _ _ _)
  | (with_reducible show wpAny _ _ (call (Value.ref 101) _) _ _ _)
  | (with_reducible show wpAny _ _ (call (Value.ref 156) _) _ _ _)
  | (with_reducible show wpAny _ _ (call (Value.ref 161) _) _ _ _)
  | (with_reducible show wpAny _ _ (call (Value.ref 89) _) _ _ _)
  | (with_reducible show wpAny _ _ (call (Value.ref 122) _) _ _ _)
  | (with_reducible show wpAny _ _ (call (Value.ref 183) _) _ _ _)
  | (with_reducible show wpAny _ _ (call (Value.ref 188) _) _ _ _)
  | (with_reducible show wpAny _ _ (call (Value.ref 151) _) _ _ _)
  | (with_reducible show wpAny _ _ (call (Value.ref 166) _) _ _ _)
  | (with_reducible show wpAny _ _ (call (Value.ref 176) _) _ _ _)); refine Mine.Lock.out ?_))
  (k_with "ite" => with_reducible refine Mine.ite_self_ne ?_)
  trivial
namespace Mine
open PySem.Calls PySem.Spec PySem.W PyProof.Rows

/-- what both hearings give: octets, or the place of a fault -/
def PO (R : Array UInt8 → Prop) (Er : Int → Prop) (r : Value) (nw : Led) : Prop :=
  (nw = [] ∧ ∃ b t, r = .bytes b t ∧ R b) ∨ ∃ k T u v, Er k ∧ r = .ref T ∧ nw = [(T, faultTup k u v)]

theorem fault_shaped (k : Int) : SeqAt.shaped (.tuple [.str (PySem.Str.ofString "fault"), .int k]) = true := by
  unfold SeqAt.shaped
  rw [Bool.and_eq_true]
  exact ⟨by simp [PyData.canLayAll0, PyData.canLay0]; decide +kernel, decide_eq_true (by simp [PyData.depth, PyData.depthAll])⟩
section
variable {prog : Program} {w : World} {A : Around} {E : Value → Shared → Prop} {s : Shared}
theorem ne_faults {T1 T2 : Addr} {k : Int} {u1 v1 u2 v2 : Tok} {Q : Value → Shared → Prop} (h1 : s.heap.get? T1 = some (faultTup k u1 v1)) (h2 : s.heap.get? T2 = some (faultTup k u2 v2)) (hu : A.units + 64 < cLine) (h : Q (.bool false) s) :
    wpAny (model prog w) A (compareOp .NotEq (.ref T1) (.ref T2)) Q E s := by
  refine ne_dataH (reads_tuple_at h1 rfl rfl (.cons (.str _ _) (.cons (.int k v1) .nil))) (reads_tuple_at h2 rfl rfl (.cons (.str _ _) (.cons (.int k v2) .nil))) ?_ ?_ hu ?_
  · exact fault_shaped k
  · exact fault_shaped k
  · have : PyData.eqv (.tuple [.str (PySem.Str.ofString "fault"), .int k]) (.tuple [.str (PySem.Str.ofString "fault"), .int k]) = true := by simp [PyData.eqv, PyData.eqvAll]
    rw [this]; exact h
theorem cmp_same {e : PySem.Expr} {env : Env} {f : Addr} {R : Array UInt8 → Prop} {Er : Int → Prop} {g : Heap} {L : Addr} {m : Str → Option Value} {news : Led} {cv : Value} {Q : Value → Shared → Prop} (hR : ∀ b b', R b → R b' → b = b') (hX : ∀ b k, R b → ¬ Er k) (hE : ∀ k k', Er k → Er k' → k = k')
    (hcall : ∀ Q9 : Value → Shared → Prop, (∀ r n' h' tk', Fr g L h' m → News g L h' (n' ++ news) → PO R Er r n' → Q9 r { s with heap := h', toks := tk' }) → wpAny (model prog w) A (call cv [.ref f]) Q9 E s)
    (hread : ∀ (n1 : Led) (h1 : Heap) (tk1 : Nat) (Q9 : Value → Shared → Prop), Fr g L h1 m → News g L h1 (news ++ n1) → (∀ r n' h' tk', Fr g L h' m → News g L h' (n' ++ (news ++ n1)) → PO R Er r n' → Q9 r { s with heap := h', toks := tk' }) → wpAny (model prog w) A (eval e env) Q9 E { s with heap := h1, toks := tk1 })
    (hu : A.units + 64 < cLine) (cont : ∀ h' tk', Fr g L h' m → News g L h' news → Q (.bool false) { s with heap := h', toks := tk' }) :
    wpAny (model prog w) A (call cv [.ref f]) (fun a s₁ => wpAny (model prog w) A (eval e env) (fun b s₂ => wpAny (model prog w) A (compareOp .NotEq a b) Q E s₂) E s₁) E s := by
  refine hcall _ fun r n' h' tk' F N hp => ?_
  refine hread n' h' tk' _ F (fun p hp => N p ((List.mem_append.mp hp).elim (List.mem_append_right _) (List.mem_append_left _))) fun r2 n2 h2 tk2 F2 N2 hp2 => ?_
  have N3 : News g L h2 news := fun p hp => N2 p (List.mem_append_right _ (List.mem_append_left _ hp))
  rcases hp with ⟨rfl, b, t, rfl, hb⟩ | ⟨k, T, u, v, hk, rfl, rfl⟩
  · rcases hp2 with ⟨rfl, b2, t2, rfl, hb2⟩ | ⟨k2, T2, u2, v2, hk2, rfl, rfl⟩
    · have := hR _ _ hb hb2
      subst this
      refine ne_bytes ?_
      rw [bne_self_eq_false]
      exact cont _ _ F2 N3
    · exact absurd hk2 (hX _ _ hb)
  · rcases hp2 with ⟨rfl, b2, t2, rfl, hb2⟩ | ⟨k2, T2, u2, v2, hk2, rfl, rfl⟩
    · exact absurd hk (hX _ _ hb2)
    · have := hE _ _ hk hk2
      subst this
      exact ne_faults (N2 (T, _) (List.mem_append_right _ (List.mem_append_right _ (.head _)))).1 (N2 (T2, _) (.head _)).1 hu (cont _ _ F2 N3)
end

abbrev lamSc (x : String) : Scope := { kind := .function, names := [(Str.ofString "data", .free), (Str.ofString x, .globalImplicit)], isGenerator := false, isCoroutine := false }
abbrev lamO (x : String) (qual : Str) (p1 p2 p3 : Pos) (ce : Addr) (pm : Value) (c' : Addr) (ctv : Value) : Obj :=
  kla_obj (Str.ofString "<lambda>") qual { posonlyargs := [], args := [], vararg := none, kwonlyargs := [], kw_defaults := [], kwarg := none, defaults := [] } (.Call (.Name (Str.ofString x) p1) [.Name (Str.ofString "data") p2] [] p3) (lamSc x) [(Str.ofString "data", ce)] pm c' ctv
set_option maxHeartbeats 1000000 in
theorem lamhex_spec (w : World) (f c' ce : Addr) (qual : Str) (pm ctv : Value) (oc co : Obj) (vsc : Array Value) (tq : Tok) (p1 p2 p3 : Pos) (d : Array UInt8) (td : Tok)
    (hdc : oc.data = .fields vsc) (hq : vsc[1]? = some (.str qual tq)) (hco : co.data = .cell (some (.bytes d td))) (hdz : d.size ≤ 24) :
    XSpec w f 30 [] [(f, lamO "hex_decoded" qual p1 p2 p3 ce pm c' ctv), (c', oc), (ce, co)] (fun r nw => nw = [] ∧ ∃ b t, r = .bytes b t ∧ ∃ acc, hexGo (KBw.bInts d) 0 [] = .ok acc ∧ KBw.bInts b = hexPairs acc) (fun k => hexGo (KBw.bInts d) 0 [] = .error k) := by
  refine XSpec.of_lambda hdc hq (.head _) (.tail _ (.head _)) rfl (by decide) rfl rfl rfl ?_
  intro dp un gd cn cs L a ccd cl0 outer base g L' h₁ s tk p loose mean mg mb xs hd9 hu B F X T hrd hxs Qe Ee thr
  have N : News g L' h₁ [] := fun _ h => nomatch h
  have hce : CellAt g ce co (.bytes d td) := ⟨hrd _ (.tail _ (.tail _ (.head _))), hco⟩
  have kM := kstMark
  walk_at "mine go"
  walk1
  walk1
  rename Fr _ _ _ _ => F1
  refine' nameX_K F1 ?k1 ?k2 ?k3 ?_ ?k4 ?k5 ?k6
  case k1 => exact X
  case k2 => exact topRead_of T
  case k4 => rfl
  case k5 => rfl
  case k6 => decide
  case k3 => k_is
  walk1
  walk1
  have NN := CellAt.news hce F1
  refine' nameX_F (news := [(ce, co)]) ?N ?c ?m ?d ?_ ?a ?b ?e ?f
  case N => exact NN
  case a => rfl
  case b => rfl
  case e => decide
  case f => decide
  case c => rfl
  case m => exact .head _
  case d => exact hco
  k_steps
  refine Lock.into ?_
  clear NN
  (try walk_at "mine fold")
  refine XSpec.use (xs := xs) (hex_decoded_spec w d td (by omega)) (by k_asm) (by k_asm) (by k_asm) N (by k_asm) (by exact rfl) (by walk_at "mine room") (by walk_at "mine units") (fun _ h => nomatch h) ?hx ?hE ?_
  case hx => exact XOK.inner (by k_asm) hxs
  case hE =>
    rintro e9 k9 h9 tk9 hp R sm
    exact thr _ _ (Throw.on (by k_asm) hp R sm)
  rintro r n' h' tk' F3 N3 ne ⟨rfl, acc, b', t', e1, rfl, e2⟩
  exact Back.intro [] F3 N3 (fun _ h => nomatch h) ⟨rfl, b', t', rfl, acc, e1, e2⟩
set_option maxHeartbeats 1000000 in
theorem lamb85_spec (w : World) (f c' ce : Addr) (qual : Str) (pm ctv : Value) (oc co : Obj) (vsc : Array Value) (tq : Tok) (p1 p2 p3 : Pos) (d : Array UInt8) (td : Tok)
    (hdc : oc.data = .fields vsc) (hq : vsc[1]? = some (.str qual tq)) (hco : co.data = .cell (some (.bytes d td))) (hdz : d.size ≤ 24) :
    XSpec w f 50 [] [(f, lamO "base85_decoded" qual p1 p2 p3 ce pm c' ctv), (c', oc), (ce, co)] (fun r nw => nw = [] ∧ ∃ b t, r = .bytes b t ∧ ∃ os, b85Dec (KBw.bInts d) = .ok os ∧ KBw.bInts b = os) (fun k => b85Dec (KBw.bInts d) = .error k) := by
  refine XSpec.of_lambda hdc hq (.head _) (.tail _ (.head _)) rfl (by decide) rfl rfl rfl ?_
  intro dp un gd cn cs L a ccd cl0 outer base g L' h₁ s tk p loose mean mg mb xs hd9 hu B F X T hrd hxs Qe Ee thr
  have N : News g L' h₁ [] := fun _ h => nomatch h
  have hce : CellAt g ce co (.bytes d td) := ⟨hrd _ (.tail _ (.tail _ (.head _))), hco⟩
  have kM := kstMark
  walk_at "mine go"
  walk1
  walk1
  rename Fr _ _ _ _ => F1
  refine' nameX_K F1 ?k1 ?k2 ?k3 ?_ ?k4 ?k5 ?k6
  case k1 => exact X
  case k2 => exact topRead_of T
  case k4 => rfl
  case k5 => rfl
  case k6 => decide
  case k3 => k_is
  walk1
  walk1
  have NN := CellAt.news hce F1
  refine' nameX_F (news := [(ce, co)]) ?N ?c ?m ?d ?_ ?a ?b ?e ?f
  case N => exact NN
  case a => rfl
  case b => rfl
  case e => decide
  case f => decide
  case c => rfl
  case m => exact .head _
  case d => exact hco
  k_steps
  refine Lock.into ?_
  clear NN
  (try walk_at "mine fold")
  refine XSpec.use (xs := xs) (base85_decoded_spec w d td (by omega)) (by k_asm) (by k_asm) (by k_asm) N (by k_asm) (by exact rfl) (by walk_at "mine room") (by walk_at "mine units") (fun _ h => nomatch h) ?hx ?hE ?_
  case hx => exact XOK.inner (by k_asm) hxs
  case hE =>
    rintro e9 k9 h9 tk9 hp R sm
    exact thr _ _ (Throw.on (by k_asm) hp R sm)
  rintro r n' h' tk' F3 N3 ne ⟨rfl, acc, b', t', e1, rfl, e2⟩
  exact Back.intro [] F3 N3 (fun _ h => nomatch h) ⟨rfl, b', t', rfl, acc, e1, e2⟩
end Mine
namespace Mine
open PySem.Calls PySem.Spec PySem.W PyProof.Rows
section
variable {w : World} {f c' ce : Addr} {qual : Str} {pm ctv : Value} {oc co : Obj} {vsc : Array Value} {tq : Tok} {p1 p2 p3 : Pos} {d : Array UInt8} {td : Tok} {rest : Led}
    {dp un : Nat} {gd : Option (List Code)} {cn : Str} {cs : Scope} {a : Addr} {ccd : Value} {cl : List (Str × Addr)} {outer : List Env} {A₀ : Around} {h₀ : Heap} {L : Addr} {m : Str → Option Value} {s : Shared} {E : Value → Shared → Prop}
    {p : Program} {loose : List Str} {mean : ExcName → Option Value} {mg mb : Str → Option Value}
theorem hear_hex (N : News h₀ L s.heap ((f, lamO "hex_decoded" qual p1 p2 p3 ce pm c' ctv) :: rest)) (hc : (c', oc) ∈ rest) (hce : (ce, co) ∈ rest)
    (hdc : oc.data = .fields vsc) (hq : vsc[1]? = some (.str qual tq)) (hco : co.data = .cell (some (.bytes d td))) (hdz : d.size ≤ 24)
    (B : Below A₀ h₀ outer h₀) (F : Fr h₀ L s.heap m) (X : (hd.heap_1 w.params).In h₀) (T : Top p loose mean mg mb h₀) (hk : cs.kind = .function) (hr : dp + 35 < recursionLimit) (hu : un + 8 * 35 < cLine) (Q9 : Value → Shared → Prop)
    (hq9 : ∀ r n' h' tk', Fr h₀ L h' m → News h₀ L h' (n' ++ ((f, lamO "hex_decoded" qual p1 p2 p3 ce pm c' ctv) :: rest)) → PO (fun b => ∃ acc, hexGo (KBw.bInts d) 0 [] = .ok acc ∧ KBw.bInts b = hexPairs acc) (fun k => hexGo (KBw.bInts d) 0 [] = .error k) r n' → Q9 r { s with heap := h', toks := tk' }) :
    wpAny (model PySem.Challenge.rw_nn0196_01.row.prog w) (ktrTop dp un gd cn cs L a ccd cl outer) (call (.ref 151) [.ref f]) Q9 E s :=
  heard_spec w f c' 30 [(f, lamO "hex_decoded" qual p1 p2 p3 ce pm c' ctv), (c', oc), (ce, co)] (fun b => ∃ acc, hexGo (KBw.bInts d) 0 [] = .ok acc ∧ KBw.bInts b = hexPairs acc) (fun k => hexGo (KBw.bInts d) 0 [] = .error k) (by decide) (.head _)
    (lamhex_spec w f c' ce qual pm ctv oc co vsc tq p1 p2 p3 d td hdc hq hco hdz) dp un gd cn cs a ccd cl outer A₀ h₀ L m s Q9 E p loose mean mg mb _ B F X N T hk hr hu
    (List.forall_mem_cons.mpr ⟨.head _, List.forall_mem_cons.mpr ⟨.tail _ hc, List.forall_mem_cons.mpr ⟨.tail _ hce, List.forall_mem_nil _⟩⟩⟩) (fun r n' h' tk' F' N' _ hp => hq9 r n' h' tk' F' N' hp)
theorem hear_b85 (N : News h₀ L s.heap ((f, lamO "base85_decoded" qual p1 p2 p3 ce pm c' ctv) :: rest)) (hc : (c', oc) ∈ rest) (hce : (ce, co) ∈ rest)
    (hdc : oc.data = .fields vsc) (hq : vsc[1]? = some (.str qual tq)) (hco : co.data = .cell (some (.bytes d td))) (hdz : d.size ≤ 24)
    (B : Below A₀ h₀ outer h₀) (F : Fr h₀ L s.heap m) (X : (hd.heap_1 w.params).In h₀) (T : Top p loose mean mg mb h₀) (hk : cs.kind = .function) (hr : dp + 55 < recursionLimit) (hu : un + 8 * 55 < cLine) (Q9 : Value → Shared → Prop)
    (hq9 : ∀ r n' h' tk', Fr h₀ L h' m → News h₀ L h' (n' ++ ((f, lamO "base85_decoded" qual p1 p2 p3 ce pm c' ctv) :: rest)) → PO (fun b => ∃ os, b85Dec (KBw.bInts d) = .ok os ∧ KBw.bInts b = os) (fun k => b85Dec (KBw.bInts d) = .error k) r n' → Q9 r { s with heap := h', toks := tk' }) :
    wpAny (model PySem.Challenge.rw_nn0196_01.row.prog w) (ktrTop dp un gd cn cs L a ccd cl outer) (call (.ref 151) [.ref f]) Q9 E s :=
  heard_spec w f c' 50 [(f, lamO "base85_decoded" qual p1 p2 p3 ce pm c' ctv), (c', oc), (ce, co)] (fun b => ∃ os, b85Dec (KBw.bInts d) = .ok os ∧ KBw.bInts b = os) (fun k => b85Dec (KBw.bInts d) = .error k) (by decide) (.head _)
    (lamb85_spec w f c' ce qual pm ctv oc co vsc tq p1 p2 p3 d td hdc hq hco hdz) dp un gd cn cs a ccd cl outer A₀ h₀ L m s Q9 E p loose mean mg mb _ B F X N T hk hr hu
    (List.forall_mem_cons.mpr ⟨.head _, List.forall_mem_cons.mpr ⟨.tail _ hc, List.forall_mem_cons.mpr ⟨.tail _ hce, List.forall_mem_nil _⟩⟩⟩) (fun r n' h' tk' F' N' _ hp => hq9 r n' h' tk' F' N' hp)
end
theorem hexR (d : Array UInt8) : ∀ b b' : Array UInt8, (∃ acc, hexGo (KBw.bInts d) 0 [] = .ok acc ∧ KBw.bInts b = hexPairs acc) → (∃ acc, hexGo (KBw.bInts d) 0 [] = .ok acc ∧ KBw.bInts b' = hexPairs acc) → b = b' := by
  rintro b b' ⟨a1, e1, e2⟩ ⟨a2, e3, e4⟩
  rw [e1] at e3; cases e3
  exact bytes_inj (e2.trans e4.symm)
theorem hexX (d : Array UInt8) : ∀ (b : Array UInt8) (k : Int), (∃ acc, hexGo (KBw.bInts d) 0 [] = .ok acc ∧ KBw.bInts b = hexPairs acc) → ¬ hexGo (KBw.bInts d) 0 [] = .error k := by
  rintro b k ⟨a1, e1, e2⟩ h
  rw [e1] at h; cases h
theorem hexE (d : Array UInt8) : ∀ k k' : Int, hexGo (KBw.bInts d) 0 [] = .error k → hexGo (KBw.bInts d) 0 [] = .error k' → k = k' := fun k k' h h' => by
  rw [h] at h'; cases h'; rfl
theorem b85R (d : Array UInt8) : ∀ b b' : Array UInt8, (∃ os, b85Dec (KBw.bInts d) = .ok os ∧ KBw.bInts b = os) → (∃ os, b85Dec (KBw.bInts d) = .ok os ∧ KBw.bInts b' = os) → b = b' := by
  rintro b b' ⟨a1, e1, e2⟩ ⟨a2, e3, e4⟩
  rw [e1] at e3; cases e3
  exact bytes_inj (e2.trans e4.symm)
theorem b85X (d : Array UInt8) : ∀ (b : Array UInt8) (k : Int), (∃ os, b85Dec (KBw.bInts d) = .ok os ∧ KBw.bInts b = os) → ¬ b85Dec (KBw.bInts d) = .error k := by
  rintro b k ⟨a1, e1, e2⟩ h
  rw [e1] at h; cases h
theorem b85E (d : Array UInt8) : ∀ k k' : Int, b85Dec (KBw.bInts d) = .error k → b85Dec (KBw.bInts d) = .error k' → k = k' := fun k k' h h' => by
  rw [h] at h'; cases h'; rfl
theorem readhex_PO {d : Array UInt8} {r : Value} {nw : Led} (h : (∃ acc b' t', hexGo (KBw.bInts d) 0 [] = .ok acc ∧ nw = [] ∧ r = .bytes b' t' ∧ KBw.bInts b' = hexPairs acc) ∨ ∃ k T u v, hexGo (KBw.bInts d) 0 [] = .error k ∧ r = .ref T ∧ nw = [(T, faultTup k u v)]) :
    PO (fun b => ∃ acc, hexGo (KBw.bInts d) 0 [] = .ok acc ∧ KBw.bInts b = hexPairs acc) (fun k => hexGo (KBw.bInts d) 0 [] = .error k) r nw := by
  rcases h with ⟨acc, b', t', h1, h2, h3, h4⟩ | h
  · exact .inl ⟨h2, b', t', h3, acc, h1, h4⟩
  · exact .inr h
theorem readb85_PO {d : Array UInt8} {r : Value} {nw : Led} (h : (∃ os b' t', b85Dec (KBw.bInts d) = .ok os ∧ nw = [] ∧ r = .bytes b' t' ∧ KBw.bInts b' = os) ∨ ∃ k T u v, b85Dec (KBw.bInts d) = .error k ∧ r = .ref T ∧ nw = [(T, faultTup k u v)]) :
    PO (fun b => ∃ os, b85Dec (KBw.bInts d) = .ok os ∧ KBw.bInts b = os) (fun k => b85Dec (KBw.bInts d) = .error k) r nw := by
  rcases h with ⟨acc, b', t', h1, h2, h3, h4⟩ | h
  · exact .inl ⟨h2, b', t', h3, acc, h1, h4⟩
  · exact .inr h
end Mine
namespace Mine
open PySem.Calls PySem.Spec PySem.W PyProof.Rows
section
variable {w : World} {f : Addr} {dn : Nat} {vs : List Value} {rd news : Led} {post : Value → Led → Prop}
    {dp un : Nat} {gd : Option (List Code)} {cn : Str} {cs : Scope} {a : Addr} {ccd : Value} {cl : List (Str × Addr)} {outer : List Env} {A₀ : Around} {base h₀ : Heap} {L : Addr} {m : Str → Option Value} {s : Shared} {Q E : Value → Shared → Prop}
    {p : Program} {loose : List Str} {mean : ExcName → Option Value} {mg mb : Str → Option Value}
/-- the contract's answer is octets: the continuation is told so by plain arguments -/
theorem MSpec.useB {Φ : Array UInt8 → Prop} (S : MSpec w f dn vs rd [] (fun r n => n = [] ∧ ∃ b t, r = .bytes b t ∧ Φ b))
    (B : Below A₀ base outer h₀) (F : Fr h₀ L s.heap m) (X : (hd.heap_1 w.params).In h₀) (N : News h₀ L s.heap news) (T : Top p loose mean mg mb h₀) (hk : cs.kind = .function)
    (hr : dp + dn < recursionLimit) (hu : un + 8 * dn < cLine) (hrd : ∀ p ∈ rd, p ∈ news)
    (ret : ∀ b t h' tk', Fr h₀ L h' m → News h₀ L h' news → Φ b → Q (.bytes b t) { s with heap := h', toks := tk' }) :
      wpAny (model PySem.Challenge.rw_nn0196_01.row.prog w) (ktrTop dp un gd cn cs L a ccd cl outer) (call (.ref f) vs) Q E s :=
  MSpec.use S B F X N T hk hr hu hrd (fun r n' h' tk' F' N' _ hp => by
    obtain ⟨rfl, b, t, rfl, hb⟩ := hp
    exact ret b t h' tk' F' N' hb)
theorem MSpec.useE {b : Array UInt8} (S : MSpec w f dn vs rd [] (fun r n => n = [] ∧ ∃ t, r = .bytes b t))
    (B : Below A₀ base outer h₀) (F : Fr h₀ L s.heap m) (X : (hd.heap_1 w.params).In h₀) (N : News h₀ L s.heap news) (T : Top p loose mean mg mb h₀) (hk : cs.kind = .function)
    (hr : dp + dn < recursionLimit) (hu : un + 8 * dn < cLine) (hrd : ∀ p ∈ rd, p ∈ news)
    (ret : ∀ t h' tk', Fr h₀ L h' m → News h₀ L h' news → Q (.bytes b t) { s with heap := h', toks := tk' }) :
      wpAny (model PySem.Challenge.rw_nn0196_01.row.prog w) (ktrTop dp un gd cn cs L a ccd cl outer) (call (.ref f) vs) Q E s :=
  MSpec.use S B F X N T hk hr hu hrd (fun r n' h' tk' F' N' _ hp => by
    obtain ⟨rfl, t, rfl⟩ := hp
    exact ret t h' tk' F' N')
theorem MSpec.useL {ks : List Int} (S : MSpec w f dn vs rd [] (fun r n => ∃ l vs k, r = .ref l ∧ n = [(l, W.listOf (List.toArray vs) k)] ∧ IntsAre vs ks))
    (B : Below A₀ base outer h₀) (F : Fr h₀ L s.heap m) (X : (hd.heap_1 w.params).In h₀) (N : News h₀ L s.heap news) (T : Top p loose mean mg mb h₀) (hk : cs.kind = .function)
    (hr : dp + dn < recursionLimit) (hu : un + 8 * dn < cLine) (hrd : ∀ p ∈ rd, p ∈ news)
    (ret : ∀ l vs k h' tk', Fr h₀ L h' m → News h₀ L h' ((l, W.listOf (List.toArray vs) k) :: news) → IntsAre vs ks → Q (.ref l) { s with heap := h', toks := tk' }) :
      wpAny (model PySem.Challenge.rw_nn0196_01.row.prog w) (ktrTop dp un gd cn cs L a ccd cl outer) (call (.ref f) vs) Q E s :=
  MSpec.use S B F X N T hk hr hu hrd (fun r n' h' tk' F' N' _ hp => by
    obtain ⟨l, v, k, rfl, rfl, hi⟩ := hp
    exact ret l v k h' tk' F' N' hi)
end
theorem MSpec.mono {w : World} {f : Addr} {dn : Nat} {vs : List Value} {rd mu : Led} {post post' : Value → Led → Prop} (S : MSpec w f dn vs rd mu post) (h : ∀ r n, post r n → post' r n) : MSpec w f dn vs rd mu post' :=
  fun dp un gd cn cs a ccd cl outer A₀ base h₀ L m s Q E p loose mean mg mb B F X N T hk hr hu hrd hret =>
    S dp un gd cn cs a ccd cl outer A₀ base h₀ L m s Q E p loose mean mg mb B F X N T hk hr hu hrd (fun r n' h' tk' F' N' kp fr hp => hret r n' h' tk' F' N' kp fr (h _ _ hp))
section
variable (w : World) {b : Array UInt8} {ks : List Int} (tb : Tok) (hb : b.size ≤ 20) (hks : KBw.bInts b = ks)
include hb hks
theorem enc_hex (width : Int) (tw : Tok) (h0 : 0 ≤ width) (h1 : width < 10) : MSpec w 77 3 [.bytes b tb, .int width tw] [] [] (fun r n => n = [] ∧ ∃ b' t, r = .bytes b' t ∧ KBw.bInts b' = hexEnc ks width) := by
  subst hks
  exact (hex_encoded_spec w b tb width tw (by omega) h0 (by omega)).mono fun _ _ ⟨h, t, b', e, e2⟩ => ⟨h, b', t, e, e2⟩
theorem enc_hex0 : MSpec w 77 3 [.bytes b tb] [] [] (fun r n => n = [] ∧ ∃ b' t, r = .bytes b' t ∧ KBw.bInts b' = hexEnc ks 0) := by
  subst hks
  exact (hex_encoded_spec0 w b tb (by omega)).mono fun _ _ ⟨h, t, b', e, e2⟩ => ⟨h, b', t, e, e2⟩
theorem enc_b85 : MSpec w 101 20 [.bytes b tb] [] [] (fun r n => n = [] ∧ ∃ b' t, r = .bytes b' t ∧ KBw.bInts b' = b85Enc ks) := by
  subst hks
  exact (base85_encoded_spec w b tb (by omega)).mono fun _ _ ⟨h, t, b', e, e2⟩ => ⟨h, b', t, e, e2⟩
theorem law_hex (width : Int) (tw : Tok) (h0 : 0 ≤ width) (h1 : width < 10) : MSpec w 156 20 [.bytes b tb, .int width tw] [] [] (fun r n => ∃ l vs k, r = .ref l ∧ n = [(l, W.listOf (List.toArray vs) k)] ∧ IntsAre vs (hexEnc ks width)) := by
  subst hks
  exact (lawhex_spec w b tb width tw hb h0 h1).m.mono fun _ _ ⟨l, v, k, e, e2, e3⟩ => ⟨l, v, k, e, e2, by rw [← hex_same, Int.toNat_of_nonneg h0] at e3; exact e3⟩
theorem law_b85 : MSpec w 161 20 [.bytes b tb] [] [] (fun r n => ∃ l vs k, r = .ref l ∧ n = [(l, W.listOf (List.toArray vs) k)] ∧ IntsAre vs (b85Enc ks)) := by
  subst hks
  exact (lawb85_spec w b tb hb).m.mono fun _ _ ⟨l, v, k, e, e2, e3⟩ => ⟨l, v, k, e, e2, by
    rw [← b85_same (fun x hx => KBw.ints_in hx) (KBw.ints_length b).symm] at e3; exact e3⟩
theorem hex_size {rb : Array UInt8} {width : Int} (h : KBw.bInts rb = hexEnc ks width) : rb.size ≤ 81 := by
  subst hks
  have := hexEnc_len (KBw.bInts b) width
  have e := KBw.ints_length b
  rw [← KBw.ints_length rb, h]; omega
theorem b85_size {sb : Array UInt8} (h : KBw.bInts sb = b85Enc ks) : sb.size ≤ 27 := by
  subst hks
  have := b85Enc_len (KBw.bInts b)
  have e := KBw.ints_length b
  rw [← KBw.ints_length sb, h]; omega
theorem bent_size {x : Array UInt8} {width : Int} (h : bentOf (hexEnc ks width) 1 (KBw.bInts x)) : x.size ≤ 100 := by
  subst hks
  have h1 := bentOf_len h
  have h2 := hexEnc_len (KBw.bInts b) width
  have e := KBw.ints_length b
  rw [← KBw.ints_length x]; omega
theorem bent_size2 {x : Array UInt8} (h : bentOf (b85Enc ks) 2 (KBw.bInts x)) : x.size ≤ 100 := by
  subst hks
  have h1 := bentOf_len h
  have h2 := b85Enc_len (KBw.bInts b)
  have e := KBw.ints_length b
  rw [← KBw.ints_length x]; omega
end
theorem ints_of {b : Array UInt8} {ks : List Int} (hks : KBw.bInts b = ks) : KBa.In ks := fun _ hx => KBw.ints_in (hks ▸ hx)
section
variable (w : World) {b rb : Array UInt8} {ks : List Int} (t : Tok) (hks : KBw.bInts b = ks) (hz : rb.size ≤ 100)
include hks hz
theorem dec_hex (h : ∃ acc, hexGo (KBw.bInts rb) 0 [] = .ok acc ∧ hexPairs acc = ks) : MSpec w 89 20 [.bytes rb t] [] [] (fun r n => n = [] ∧ ∃ t, r = .bytes b t) := by
  subst hks
  obtain ⟨acc, h1, h2⟩ := h
  refine ((hex_decoded_spec w rb t (by omega)).m (fun k hk => by rw [h1] at hk; cases hk)).mono ?_
  rintro r n ⟨e, acc', b', t', e1, e2, e3⟩
  rw [h1] at e1; cases e1
  rw [h2] at e3
  rw [bytes_inj e3] at e2
  exact ⟨e, t', e2⟩
theorem dec_b85 (h : b85Dec (KBw.bInts rb) = .ok ks) : MSpec w 122 40 [.bytes rb t] [] [] (fun r n => n = [] ∧ ∃ t, r = .bytes b t) := by
  subst hks
  refine ((base85_decoded_spec w rb t (by omega)).m (fun k hk => by rw [h] at hk; cases hk)).mono ?_
  rintro r n ⟨e, os, b', t', e1, e2, e3⟩
  rw [h] at e1; cases e1
  rw [bytes_inj e3] at e2
  exact ⟨e, t', e2⟩
end
end Mine
namespace Mine
open PySem.Calls PySem.Spec PySem.W PyProof.Rows
/-- the ints of a display of int constants -/
inductive ConstInts : List Expr → List Int → Prop where
  | nil : ConstInts [] []
  | cons {i : Int} {k : Tok} {p : Pos} {r : List Expr} {ks : List Int} : ConstInts r ks → ConstInts (.Constant (.int i) k p :: r) (i :: ks)
section
variable {prog : Program} {w : World} {A : Around} {E : Value → Shared → Prop} {env : Env} {h₀ : Heap} {L : Addr} {m : Str → Option Value} {news : Led}
theorem consts_args {pos : Pos} {es : List Expr} {ks : List Int} (hk : ConstInts es ks) : ∀ {s : Shared} {Q : List Value → Shared → Prop}, (∀ vs tk, IntsAre vs ks → Q vs { s with toks := tk }) →
    wpAny (model prog w) A (spliced (backTo pos (starEach es env))) Q E s := by
  induction hk with
  | nil => exact fun {s} {Q} h => args_nil (h [] s.toks .nil)
  | cons _ ih => exact fun h => args_cons (wpAny_Constant_int (ih fun vs tk hi => h _ tk (.cons _ _ hi)))
theorem List_consts {es : List Expr} {ks : List Int} {pos : Pos} {s : Shared} {Q : Value → Shared → Prop} (hk : ConstInts es ks) (hl : ks.length ≤ sizeLine) (F : Fr h₀ L s.heap m) (N : News h₀ L s.heap news)
    (h : ∀ l h' vs tk, IntsAre vs ks → Fr h₀ L h' m → News h₀ L h' ((l, W.listOf vs.toArray 0) :: news) → (∀ p ∈ news, p.1 < l) → Q (.ref l) { s with heap := h', toks := tk }) :
    wpAny (model prog w) A (eval (.List es pos) env) Q E s :=
  List_ (consts_args hk fun vs tk hi => newList_K (s := { s with toks := tk }) F N (fun l h' F' N' l1 => h l h' vs tk hi F' N' l1) (by rw [hi.length]; exact hl))
end
end Mine
theorem Mine.words_P39 : True := by
  (k_with "eval List" => (k_here; (with_reducible show wpAny _ _ (eval (Expr.List (Expr.Constant _ _ _ :: Expr.Constant _ _ _ :: Expr.Constant _ _ _ :: Expr.Constant _ _ _ :: Expr.Constant _ _ _ :: Expr.Constant _ _ _ :: _) _) _) _ _ _); k_dflt (refine' Mine.List_consts ?hk ?hl ?F ?N ?_; (case hk => repeat constructor); (case hl => decide); (case F => k_asm); (case N => k_asm)); intro l9_w h9_w vs9_w tk9_w hI9_w F9_w N9_w l1_w; (try k_lt l1_w); (try k_sweep)))
  trivial
set_option maxHeartbeats 8000000 in
theorem PySem.Challenge.cw_nn0196_01_holds : PySem.Challenge.rw_nn0196_01.Holds :=
  have H : PySem.Challenge.rw_nn0196_01.row.Holds := Mine.hd (by
  k_go0
  all_goals try k_fold
  w_top on
  k_steps
  refine Mine.Lock.into ?_
  (rename Fr _ _ _ _ => F1)
  (rename News _ _ _ _ => N1)
  have N2 := Mine.News.pick4 N1
  clear N1
  obtain ⟨o, hpn, hsn, N1⟩ := Mine.pen_init N2 (by k_asm) (by omega)
  clear N2
  refine' Mine.pen_use (Φ := fun b => b.size ≤ 20) (Mine.octets_spec _ _ _ _ _ _ _ _ _ hsn hpn ?bb) ?B ?F ?X ?N ?T ?K ?R ?U ?UU hpn hsn (.tail _ (.head _)) (fun _ h => nomatch h) ?_
  case bb => omega
  walk_at "mine call"
  case UU => k_updF
  intro b tb o2 h2 tk2 F2 N2 hpn2 hb
  clear F1 N1 hpn
  try dsimp only at hb N2
  w_top on
  k_steps
  refine Mine.Lock.into ?_
  (rename Fr _ _ _ _ => Fc)
  (rename News _ _ _ _ => Nc)
  refine' Mine.draw_use ?B ?F ?X ?N ?T ?K ?R ?U ?UU hpn2 hsn.areInts (.inr (.tail _ (.head _))) hsn.len ?bb (by decide) (by decide) ?_
  case bb => omega
  walk_at "mine call"
  case UU => k_updF
  intro width tw o3 h3 tk3 F3 N3 hpn3 hw0 hw1
  clear Fc Nc hpn2
  try dsimp only at N3
  w_top on
  k_steps
  refine Mine.Lock.into ?_
  (rename Fr _ _ _ _ => Fc)
  (rename News _ _ _ _ => Nc)
  obtain ⟨ks, hks⟩ : ∃ ks, KBw.bInts b = ks := ⟨_, rfl⟩
  (try walk_at "mine fold")
  refine' Mine.MSpec.useB (Mine.enc_hex _ tb hb hks width tw hw0 hw1) ?B ?F ?X ?N ?T ?K ?R ?U (fun _ h => nomatch h) ?_
  walk_at "mine call"
  intro rb t4 h4 tk4 F4 N4 hrb
  clear Fc Nc
  w_top on
  k_steps
  refine Mine.Lock.into ?_
  (rename Fr _ _ _ _ => Fc)
  (rename News _ _ _ _ => Nc)
  (try walk_at "mine fold")
  refine' Mine.MSpec.useB (Mine.enc_b85 _ tb hb hks) ?B ?F ?X ?N ?T ?K ?R ?U (fun _ h => nomatch h) ?_
  walk_at "mine call"
  intro sb t5 h5 tk5 F5 N5 hsb
  clear Fc Nc
  have hrz : rb.size ≤ 100 := Nat.le_trans (Mine.hex_size hb hks hrb) (by decide)
  have hsz : sb.size ≤ 100 := Nat.le_trans (Mine.b85_size hb hks hsb) (by decide)
  have hrl : (Mine.hexEnc ks width).length ≤ 100 := by rw [← hrb, KBw.ints_length]; exact hrz
  have hsl : (Mine.b85Enc ks).length ≤ 100 := by rw [← hsb, KBw.ints_length]; exact hsz
  w_top on
  k_steps
  refine Mine.Lock.into ?_
  (rename Fr _ _ _ _ => Fc)
  (rename News _ _ _ _ => Nc)
  (try walk_at "mine fold")
  refine' Mine.MSpec.useL (Mine.law_hex _ tb hb hks width tw hw0 hw1) ?B ?F ?X ?N ?T ?K ?R ?U (fun _ h => nomatch h) ?_
  walk_at "mine call"
  intro l6 v6 m6 h6 tk6 F6 N6 hI6
  clear Fc Nc
  w_top on
  k_steps
  refine Mine.Lock.into ?_
  (rename Fr _ _ _ _ => Fc)
  (rename News _ _ _ _ => Nc)
  (try walk_at "mine fold")
  refine' Mine.MSpec.useL (Mine.law_b85 _ tb hb hks) ?B ?F ?X ?N ?T ?K ?R ?U (fun _ h => nomatch h) ?_
  walk_at "mine call"
  intro l7 v7 m7 h7 tk7 F7 N7 hI7
  clear Fc Nc
  w_top on
  k_steps
  refine Mine.Lock.into ?_
  (rename Fr _ _ _ _ => Fc)
  (rename News _ _ _ _ => Nc)
  (try walk_at "mine fold")
  refine' Mine.MSpec.useB (Mine.enc_hex0 _ tb hb hks) ?B ?F ?X ?N ?T ?K ?R ?U (fun _ h => nomatch h) ?_
  walk_at "mine call"
  intro rb8 t8 h8 tk8 F8 N8 hrb8
  clear Fc Nc
  have hrl8 : (Mine.hexEnc ks 0).length ≤ 100 := by rw [← hrb8, KBw.ints_length]; exact Nat.le_trans (Mine.hex_size hb hks hrb8) (by decide)
  w_top on
  k_steps
  refine Mine.Lock.into ?_
  (rename Fr _ _ _ _ => Fc)
  (rename News _ _ _ _ => Nc)
  (try walk_at "mine fold")
  refine' Mine.MSpec.useL (Mine.law_hex _ tb hb hks 0 _ (by decide) (by decide)) ?B ?F ?X ?N ?T ?K ?R ?U (fun _ h => nomatch h) ?_
  walk_at "mine call"
  intro l9 v9 m9 h9 tk9 F9 N9 hI9
  clear Fc Nc
  w_top on
  k_steps
  refine Mine.Lock.into ?_
  (rename Fr _ _ _ _ => Fc)
  (rename News _ _ _ _ => Nc)
  (try walk_at "mine fold")
  refine' Mine.MSpec.useE (Mine.dec_hex _ t4 hks hrz (by rw [hrb]; exact Mine.hex_round width (Mine.ints_of hks))) ?B ?F ?X ?N ?T ?K ?R ?U (fun _ h => nomatch h) ?_
  walk_at "mine call"
  intro ta h6 tk6 F6 N6
  clear Fc Nc
  w_top on
  k_steps
  refine Mine.Lock.into ?_
  (rename Fr _ _ _ _ => Fc)
  (rename News _ _ _ _ => Nc)
  (try walk_at "mine fold")
  refine' Mine.MSpec.useE (Mine.dec_b85 _ t5 hks hsz (by rw [hsb]; exact Mine.b85_round (Mine.ints_of hks))) ?B ?F ?X ?N ?T ?K ?R ?U (fun _ h => nomatch h) ?_
  walk_at "mine call"
  intro tc h6 tk6 F6 N6
  clear Fc Nc
  w_top on
  k_steps
  refine Mine.Lock.into ?_
  (rename Fr _ _ _ _ => Fc)
  (rename News _ _ _ _ => Nc)
  replace Nc := Mine.News.drop7 Nc
  refine Mine.bent_use (ks := Mine.hexEnc ks width) (by k_asm) Fc (by k_asm) Nc (by k_asm) (by first | exact rfl | assumption) (by walk_at "mine room") (by walk_at "mine units") (by k_updF) hpn3 hsn (by k_mem) (by decide) (by k_asm) (Nat.le_trans hrl (by decide)) (Mine.hexEnc_in _ _) (by decide) (by decide) (Int.ofNat_le.mpr (Mine.hexEnc_len _ _).1) ?_
  intro b9 tb9 o9 h9 tk9 F9 N9 hpn4 hbent
  clear Fc Nc hpn3
  w_top on
  k_steps
  refine Mine.Lock.into ?_
  (rename Fr _ _ _ _ => Fc)
  (rename News _ _ _ _ => Nc)
  (try walk_at "mine fold")
  refine' Mine.MSpec.useE (Mine.dec_hex _ tb9 hks (Mine.bent_size hb hks hbent) (Mine.hex_bent width (Mine.ints_of hks) hbent)) ?B ?F ?X ?N ?T ?K ?R ?U (fun _ h => nomatch h) ?_
  walk_at "mine call"
  intro td h6 tk6 F6 N6
  clear Fc Nc hbent
  w_top on
  k_steps
  refine Mine.Lock.into ?_
  (rename Fr _ _ _ _ => Fc)
  (rename News _ _ _ _ => Nc)
  refine Mine.bent_use (ks := Mine.b85Enc ks) (by k_asm) Fc (by k_asm) Nc (by k_asm) (by first | exact rfl | assumption) (by walk_at "mine room") (by walk_at "mine units") (by k_updF) hpn4 hsn (by k_mem) (by decide) (by k_asm) (Nat.le_trans hsl (by decide)) (Mine.b85Enc_in _ _) (by decide) (by decide) (Int.ofNat_le.mpr (Mine.b85Enc_len _).1) ?_
  intro b10 tb10 o10 h9 tk9 F9 N9 hpn5 hbent
  clear Fc Nc hpn4
  w_top on
  k_steps
  refine Mine.Lock.into ?_
  (rename Fr _ _ _ _ => Fc)
  (rename News _ _ _ _ => Nc)
  (try walk_at "mine fold")
  refine' Mine.MSpec.useE (Mine.dec_b85 _ tb10 hks (Mine.bent_size2 hb hks hbent) (Mine.b85_bent (Mine.ints_of hks) hbent)) ?B ?F ?X ?N ?T ?K ?R ?U (fun _ h => nomatch h) ?_
  walk_at "mine call"
  intro te h6 tk6 F6 N6
  clear Fc Nc hbent
  w_top on
  k_steps
  refine Mine.Lock.into ?_
  (rename Fr _ _ _ _ => Fc)
  (rename News _ _ _ _ => Nc)
  refine Mine.data_use (ks := [48, 57, 65, 70, 97, 102, 50, 10, 32, 0, 13, 62, 71, 103, 64, 96, 47, 58, 200, 51, 52]) (by k_asm) Fc (by k_asm) Nc (by k_asm) (by first | exact rfl | assumption) (by walk_at "mine room") (by walk_at "mine units") (by k_updF) hpn5 hsn (by k_mem) (by decide) (by k_asm) (by decide) (by decide) (by unfold KBa.In; decide) ?_
  intro d1 td1 o9 h9 tk9 F9 N9 hpn6 hd1
  clear Fc Nc hpn5
  w_top on
  k_steps
  refine Mine.Lock.into ?_
  (rename Fr _ _ _ _ => Fc)
  (rename News _ _ _ _ => Nc)
  refine Mine.cmp_same (Mine.hexR d1) (Mine.hexX d1) (Mine.hexE d1) (fun Q9 hq9 => Mine.hear_hex Nc (by k_mem) (by k_mem) (by k_asm) (by k_asm) (by k_asm) hd1 (by k_asm) Fc (by k_asm) (by k_asm) (by first | exact rfl | assumption) (by walk_at "mine room") (by walk_at "mine units") Q9 hq9) ?hread1 (by ke_room) ?_
  case hread1 =>
    intro n1 h1 tk1 Q9 F1 N1 hq
    clear Fc Nc
    simp only [List.cons_append, List.nil_append] at N1
    w_top on
    k_steps
    refine Mine.Lock.into ?_
    (try walk_at "mine fold")
    refine' Mine.MSpec.use (Mine.readhex_spec _ d1 td1 hd1).m ?B ?F ?X ?N ?T ?K ?R ?U (fun _ h => nomatch h) ?_
    walk_at "mine call"
    intro r6 n6 h6 tk6 F6 N6 _ hp
    exact hq _ _ _ _ F6 N6 (Mine.readhex_PO hp)
  intro h6 tk6 F6 N6
  clear Fc Nc
  w_top on
  k_steps
  refine Mine.Lock.into ?_
  (rename Fr _ _ _ _ => Fc)
  (rename News _ _ _ _ => Nc)
  replace Nc := Mine.News.pickA Nc
  refine Mine.data_use (ks := [33, 117, 56, 87, 45, 33, 115, 122, 122, 126, 62, 10, 32, 118, 53, 116, 117, 33, 84, 40, 32, 121, 9]) (by k_asm) Fc (by k_asm) Nc (by k_asm) (by first | exact rfl | assumption) (by walk_at "mine room") (by walk_at "mine units") (by k_updF) hpn6 hsn (by k_mem) (by decide) (by k_asm) (by decide) (by decide) (by unfold KBa.In; decide) ?_
  intro d2 td2 o9 h9 tk9 F9 N9 hpn7 hd2
  clear Fc Nc hpn6
  w_top on
  k_steps
  refine Mine.Lock.into ?_
  (rename Fr _ _ _ _ => Fc)
  (rename News _ _ _ _ => Nc)
  refine Mine.cmp_same (Mine.b85R d2) (Mine.b85X d2) (Mine.b85E d2) (fun Q9 hq9 => Mine.hear_b85 Nc (by k_mem) (by k_mem) (by k_asm) (by k_asm) (by k_asm) hd2 (by k_asm) Fc (by k_asm) (by k_asm) (by first | exact rfl | assumption) (by walk_at "mine room") (by walk_at "mine units") Q9 hq9) ?hread2 (by ke_room) ?_
  case hread2 =>
    intro n1 h1 tk1 Q9 F1 N1 hq
    clear Fc Nc
    simp only [List.cons_append, List.nil_append] at N1
    w_top on
    k_steps
    refine Mine.Lock.into ?_
    (try walk_at "mine fold")
    refine' Mine.MSpec.use (Mine.readb85_spec _ d2 td2 hd2).m ?B ?F ?X ?N ?T ?K ?R ?U (fun _ h => nomatch h) ?_
    walk_at "mine call"
    intro r6 n6 h6 tk6 F6 N6 _ hp
    exact hq _ _ _ _ F6 N6 (Mine.readb85_PO hp)
  intro h6 tk6 F6 N6
  clear Fc Nc
  w_top on
  k_steps
  refine Mine.Lock.into ?_
  (rename Fr _ _ _ _ => Fc)
  (rename News _ _ _ _ => Nc)
  refine Mine.data_use (ks := [48, 57, 65, 70, 97, 102, 50, 10, 32, 0, 13, 62, 71, 103, 64, 96, 47, 58, 200, 51, 52]) (by k_asm) Fc (by k_asm) Nc (by k_asm) (by first | exact rfl | assumption) (by walk_at "mine room") (by walk_at "mine units") (by k_updF) hpn7 hsn (by k_mem) (by decide) (by k_asm) (by decide) (by decide) (by unfold KBa.In; decide) ?_
  intro d3 td3 o9 h9 tk9 F9 N9 hpn8 hd3
  clear Fc Nc hpn7
  w_top on
  k_steps
  refine Mine.Lock.into ?_
  (rename Fr _ _ _ _ => Fc)
  (rename News _ _ _ _ => Nc)
  refine Mine.cmp_same (Mine.hexR d3) (Mine.hexX d3) (Mine.hexE d3) (fun Q9 hq9 => Mine.hear_hex Nc (by k_mem) (by k_mem) (by k_asm) (by k_asm) (by k_asm) hd3 (by k_asm) Fc (by k_asm) (by k_asm) (by first | exact rfl | assumption) (by walk_at "mine room") (by walk_at "mine units") Q9 hq9) ?hread3 (by ke_room) ?_
  case hread3 =>
    intro n1 h1 tk1 Q9 F1 N1 hq
    clear Fc Nc
    simp only [List.cons_append, List.nil_append] at N1
    w_top on
    k_steps
    refine Mine.Lock.into ?_
    (try walk_at "mine fold")
    refine' Mine.MSpec.use (Mine.readhex_spec _ d3 td3 hd3).m ?B ?F ?X ?N ?T ?K ?R ?U (fun _ h => nomatch h) ?_
    walk_at "mine call"
    intro r6 n6 h6 tk6 F6 N6 _ hp
    exact hq _ _ _ _ F6 N6 (Mine.readhex_PO hp)
  intro h6 tk6 F6 N6
  clear Fc Nc
  w_top on
  k_steps
  refine Mine.Lock.into ?_
  (rename Fr _ _ _ _ => Fc)
  (rename News _ _ _ _ => Nc)
  refine Mine.data_use (ks := [33, 117, 56, 87, 45, 33, 115, 122, 122, 126, 62, 10, 32, 118, 53, 116, 117, 33, 84, 40, 32, 121, 9]) (by k_asm) Fc (by k_asm) Nc (by k_asm) (by first | exact rfl | assumption) (by walk_at "mine room") (by walk_at "mine units") (by k_updF) hpn8 hsn (by k_mem) (by decide) (by k_asm) (by decide) (by decide) (by unfold KBa.In; decide) ?_
  intro d4 td4 o9 h9 tk9 F9 N9 hpn9 hd4
  clear Fc Nc hpn8
  w_top on
  k_steps
  refine Mine.Lock.into ?_
  (rename Fr _ _ _ _ => Fc)
  (rename News _ _ _ _ => Nc)
  refine Mine.cmp_same (Mine.b85R d4) (Mine.b85X d4) (Mine.b85E d4) (fun Q9 hq9 => Mine.hear_b85 Nc (by k_mem) (by k_mem) (by k_asm) (by k_asm) (by k_asm) hd4 (by k_asm) Fc (by k_asm) (by k_asm) (by first | exact rfl | assumption) (by walk_at "mine room") (by walk_at "mine units") Q9 hq9) ?hread4 (by ke_room) ?_
  case hread4 =>
    intro n1 h1 tk1 Q9 F1 N1 hq
    clear Fc Nc
    simp only [List.cons_append, List.nil_append] at N1
    w_top on
    k_steps
    refine Mine.Lock.into ?_
    (try walk_at "mine fold")
    refine' Mine.MSpec.use (Mine.readb85_spec _ d4 td4 hd4).m ?B ?F ?X ?N ?T ?K ?R ?U (fun _ h => nomatch h) ?_
    walk_at "mine call"
    intro r6 n6 h6 tk6 F6 N6 _ hp
    exact hq _ _ _ _ F6 N6 (Mine.readb85_PO hp)
  intro h6 tk6 F6 N6
  clear Fc Nc
  k_with_none
  w_top on
  k_steps)
  ⟨Mine.look H.1, H⟩
