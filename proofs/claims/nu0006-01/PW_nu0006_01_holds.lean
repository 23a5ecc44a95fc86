import PyProof.Rows.All
import Wide.All
import OpenK.AllK
import Wide.FinOn
import Lean
import PySem.Challenge.RW_nu0006_01
open PySem PySem.W PyProof.Rows PySem.Calls
set_option Elab.async false
namespace Mine
section
/-- The statements of the text that the law's view keeps: all but the four that set a name of the text. -/
def view : Program :=
  let p := PySem.Challenge.pw_nu0006_01
  { p with main := { p.main with body := (p.main.body.drop 1).take 2 ++ (p.main.body.drop 4).take 6 ++ (p.main.body.drop 11).take 6 ++ p.main.body.drop 18 } }
set_option hygiene false in
local macro_rules | `(tactic| o_head $H) => `(tactic| (
  refine holds_open (q := Mine.view) (loose := []) (Xt := fun s => xlAt Mine.view [] s && recOk (RowW.records PySem.Challenge.rw_nu0006_01.row.toRowW) s) (XP := XL Mine.view []) (Yf := Hook.obs $H) (Ya := Hook.val $H) (YP := Hook.says $H) (N := 3192) ?hl (Hook.of $H) (Hook.keeps $H)
    (fun s e => xl_of s (Bool.and_eq_true_iff.mp e).1) XL.keeps (by rfl) (by rfl) (by rfl) (fun s e => recFacts_of (Bool.and_eq_true_iff.mp e).2) (by rfl) (by first | assumption | decide +kernel) (by decide +kernel) ⟨rfl, rfl, rfl, rfl, rfl, by decide +kernel⟩ ?hw ?hc
  case hl => (intro w; kernel_rfl)))
set_option maxRecDepth 100000 in
set_option maxHeartbeats 8000000 in
open_top hd for PySem.Challenge.rw_nu0006_01
end
set_option maxRecDepth 100000
local macro_rules | `(tactic| walk_at $s:str) => `(tactic| k_extra $s)
local macro_rules | `(tactic| ktr_room) => `(tactic| k_extra "ktr_room")
local macro_rules | `(tactic| ktr_units) => `(tactic| k_extra "ktr_units")
local macro_rules | `(tactic| k_room) => `(tactic| k_extra "k_room")
local macro_rules | `(tactic| k_ne) => `(tactic| k_extra "k_ne")
section

/-- What a call of a def gives back, over a written part `sub` of the ledger. -/
def Con (prog : Program) (w : World) (K : Frag) (p : Program) (loose : List Str) (mean : ExcName → Option Value) (mg mb : Str → Option Value)
    (f : Addr) (dk : Nat) (sub : List (Addr × Obj)) (vs : List Value) (Post : Value → List (Addr × Obj) → Prop) : Prop :=
  ∀ (dp un : Nat) (gd : Option (List Code)) (cn : Str) (cs : Scope) (a : Addr) (ccd : Value) (cl : List (Str × Addr)) (outer : List Env) (A₀ : Around) (base h₀ : Heap) (L : Addr) (m : Str → Option Value)
    (news : List (Addr × Obj)) (s : Shared) (Q E : Value → Shared → Prop),
    Below A₀ base outer h₀ → Fr h₀ L s.heap m → K.In h₀ → News h₀ L s.heap news → Top p loose mean mg mb h₀ → cs.kind = .function →
    (∀ q ∈ sub, q ∈ news) → dp + dk < recursionLimit → un + 8 * dk < cLine →
    (∀ v h' tk' sub', Post v sub' → Fr h₀ L h' m → News h₀ L h' sub' → (∀ q ∈ news, q.1 ∉ sub.map (·.1) → h'.get? q.1 = some q.2) →
      (∀ q ∈ sub', q.1 ∉ sub.map (·.1) → ∀ r ∈ news, r.1 ≠ q.1) → Q v { s with heap := h', toks := tk' }) →
    wpAny (model prog w) (ktrTop dp un gd cn cs L a ccd cl outer) (call (.ref f) vs) Q E s

section
variable {prog : Program} {w : World} {A₀ A : Around} {E : Value → Shared → Prop} {s : Shared} {K : Frag} {L : Addr} {h₀ base : Heap} {m mg mb : Str → Option Value} {news sub : List (Addr × Obj)} {p : Program} {loose : List Str} {mean : ExcName → Option Value}

/-- Enter a def with a part of the ledger alone written out; the rest lies in the callee's ground. -/
theorem code_sub {env : Env} {outer : List Env} {R : Result → Shared → Prop} {name qual : Str} {params : Arguments} {body : List Stmt} {scope : Scope} {dV kV doc pm cdv ct oc : Value} {an od : Option Addr} {osl : Array (Option Value)} {f : Addr} {args : Args} {binds : List (Str × Value)}
    (B : Below A₀ base outer h₀) (F : Fr h₀ L s.heap m) (X₀ : K.In h₀) (N : News h₀ L s.heap news) (T : Top p loose mean mg mb h₀) (hsub : ∀ q ∈ sub, q ∈ news) (hA : A.frames = some (env :: outer)) (hf : env.frame = some L) (hke : env.scope.kind = .function)
    (ho : K.lookup f = some ⟨oc, od, .func (fnOf name qual params body scope dV kV doc pm an cdv ct), osl⟩) (hcd : codeIn K cdv qual = true) (hroom : A.depth < recursionLimit)
    (hbind : BindsTo s (fnOf name qual params body scope dV kV doc pm an cdv ct) args binds) (hloc : ∀ y ∈ binds, scope.names.lookup y.1 = some .local)
    (h : ∀ g L' h₁, Fr h₀ L g m → Fr g L' h₁ (fun y => binds.reverse.lookup y) → News g L' h₁ sub → Below A base (env :: outer) g → K.In g → Top p loose mean mg mb g → (∀ q ∈ news, q.1 ∉ sub.map (·.1) → g.get? q.1 = some q.2) →
      wpAny (model prog w) (A.deeper (envOf qual scope L' f cdv)) (execs body (envOf qual scope L' f cdv))
        (fun fl s' => LeaveK h₀ L m g R (match fl with | .ret v => v | _ => .none) s')
        (fun e s' => wpAny (model prog w) (A.deeper (envOf qual scope L' f cdv)) (leaving (envOf qual scope L' f cdv) e) (fun _ s'' => R (.error e) s'') (fun e' s'' => R (.error e') s'') s')
        { s with heap := h₁, toks := s.toks + binds.length })
    (hco : scope.isCoroutine = false) (hgen : scope.isGenerator = false) (hk : scope.kind = .function)
    (hcell : ∀ x ∈ scope.names, x.2 ≠ .cell) : codeAny (model prog w) A (.call (.ref f) args) R s := by
  have Ns : News h₀ L s.heap sub := fun q hq => N q (hsub q hq)
  obtain ⟨FG, BG, st, lv⟩ := groundX (R := R) B F Ns hA hf hke
  have stX := X₀.keeps st
  have stT := T.keeps st
  refine codeAny_call_def (fd := fnOf name qual params body scope dV kV doc pm an cdv ct) (body := body) (binds := binds) hroom ((X₀.keeps F.keep) _ _ ho) rfl (T.nolimit.keeps F.keep) (codeRec_of (X₀.keeps F.keep) hcd) rfl hbind hcell hloc (fun h₁ hns hk₁ => ?_) hco hgen hk
  refine wpAny_mono (h (hideAll s.heap (sub.map (·.1))) s.heap.objs.size h₁ FG ⟨hns, fun b o e => hk₁ b o (of_hideAll _ e), Nat.le_of_eq (hideAll_size _ _)⟩ (fun q hq => ?_) BG stX stT fun q hq hn => ?_)
    (fun fl s' hl => lv _ _ hl) fun _ _ y => y
  · exact ⟨hk₁ _ _ (Ns q hq).1, Nat.ne_of_lt (Heap.lt_size (Ns q hq).1), hideAll_none _ (List.mem_map_of_mem hq)⟩
  · exact hideAll_get _ (N q hq).1 hn

/-- The same for a def with cells of its own. -/
theorem code_subC {env : Env} {outer : List Env} {R : Result → Shared → Prop} {name qual : Str} {params : Arguments} {body : List Stmt} {scope : Scope} {dV kV doc pm cdv ct oc : Value} {an od : Option Addr} {osl : Array (Option Value)} {f : Addr} {args : Args} {binds : List (Str × Value)}
    (B : Below A₀ base outer h₀) (F : Fr h₀ L s.heap m) (X₀ : K.In h₀) (N : News h₀ L s.heap news) (T : Top p loose mean mg mb h₀) (hsub : ∀ q ∈ sub, q ∈ news) (hA : A.frames = some (env :: outer)) (hf : env.frame = some L) (hke : env.scope.kind = .function)
    (ho : K.lookup f = some ⟨oc, od, .func (fnOf name qual params body scope dV kV doc pm an cdv ct), osl⟩) (hcd : codeIn K cdv qual = true) (hroom : A.depth < recursionLimit)
    (hbind : BindsTo s (fnOf name qual params body scope dV kV doc pm an cdv ct) args binds) (hkind : (binds.all fun y => scope.names.lookup y.1 == some .local || scope.names.lookup y.1 == some .cell) = true)
    (hnd : ((cellsFrom 0 scope.names []).map (·.1)).Nodup)
    (h : ∀ g L' h₁ tk cells, Fr h₀ L g m → Fr g L' h₁ (bindL (envOfC qual scope L' f cdv).kindOf binds fun _ => none) → News g L' h₁ (cells ++ sub) →
      CellsAre (bindC (envOfC qual scope L' f cdv).kindOf binds fun _ => none) (cellsFrom (L' + 1) scope.names []) cells → Below A base (env :: outer) g → K.In g → Top p loose mean mg mb g → (∀ q ∈ sub, q.1 < L') → (∀ q ∈ news, q.1 ∉ sub.map (·.1) → g.get? q.1 = some q.2) →
      wpAny (model prog w) (A.deeper (envOfC qual scope L' f cdv)) (execs body (envOfC qual scope L' f cdv))
        (fun fl s' => LeaveK h₀ L m g R (match fl with | .ret v => v | _ => .none) s')
        (fun e s' => wpAny (model prog w) (A.deeper (envOfC qual scope L' f cdv)) (leaving (envOfC qual scope L' f cdv) e) (fun _ s'' => R (.error e) s'') (fun e' s'' => R (.error e') s'') s')
        { s with heap := h₁, toks := tk })
    (hco : scope.isCoroutine = false) (hgen : scope.isGenerator = false) (hk : scope.kind = .function) : codeAny (model prog w) A (.call (.ref f) args) R s := by
  have Ns : News h₀ L s.heap sub := fun q hq => N q (hsub q hq)
  obtain ⟨FG, BG, st, lv⟩ := groundX (R := R) B F Ns hA hf hke
  have stX := X₀.keeps st
  have stT := T.keeps st
  refine codeAny_call_function (fd := fnOf name qual params body scope dV kV doc pm an cdv ct) (body := body) hroom ((X₀.keeps F.keep) _ _ ho) rfl hco hgen rfl (codeRec_of (X₀.keeps F.keep) hcd) (hbind _ _ _ _ ?_)
  refine wpAny_newFunctionEnv_cells hk (kindsX hkind _) fun env' he s' x => ?_
  subst he
  refine ⟨(T.nolimit.keeps F.keep).keeps x.toInCall.keep, codeAny_func ?_⟩
  obtain ⟨h₁, tk, rfl, _⟩ := x.done
  have hk₁ := x.toInCall.keep
  obtain ⟨cells, NC, Y⟩ := Cl.news (h₀ := s.heap) (Nat.le_refl _) fun n c hm => ⟨x.cell n c (lookup_of_mem_nodup (cellsFrom_names scope.names 0 (s.heap.objs.size + 1) [] [] rfl ▸ hnd) hm), x.above n c hm⟩
  refine wpAny_mono (h (hideAll s.heap (sub.map (·.1))) s.heap.objs.size h₁ tk cells FG ⟨x.toInCall.ns, fun b o e => hk₁ b o (of_hideAll _ e), Nat.le_of_eq (hideAll_size _ _)⟩ (fun q hq => ?_) Y BG stX stT (fun q hq => Heap.lt_size (Ns q hq).1) fun q hq hn => hideAll_get _ (N q hq).1 hn)
    (fun fl s' hl => lv _ _ hl) fun _ _ y => y
  rcases List.mem_append.mp hq with hq | hq
  · refine ⟨(NC q hq).1, (NC q hq).2.1, ?_⟩
    cases e : (hideAll s.heap (sub.map (·.1))).get? q.1 with
    | none => rfl
    | some o => have := of_hideAll _ e; rw [(NC q hq).2.2] at this; cases this
  · exact ⟨hk₁ _ _ (Ns q hq).1, Nat.ne_of_lt (Heap.lt_size (Ns q hq).1), hideAll_none _ (List.mem_map_of_mem hq)⟩

/-- The end of a contract's proof. -/
theorem con_end {Q : Value → Shared → Prop} {Post : Value → List (Addr × Obj) → Prop} {g h' : Heap} {L' : Addr} {m' : Str → Option Value} {v : Value} {tk' : Nat} {sub' led : List (Addr × Obj)}
    (hret : ∀ v h' tk' sub', Post v sub' → Fr h₀ L h' m → News h₀ L h' sub' → (∀ q ∈ news, q.1 ∉ sub.map (·.1) → h'.get? q.1 = some q.2) →
      (∀ q ∈ sub', q.1 ∉ sub.map (·.1) → ∀ r ∈ news, r.1 ≠ q.1) → Q v { s with heap := h', toks := tk' })
    (hrest : ∀ q ∈ news, q.1 ∉ sub.map (·.1) → g.get? q.1 = some q.2) (F' : Fr g L' h' m') (N' : News g L' h' led) (kF : Fr h₀ L h' m) (kN : News h₀ L h' led)
    (hpost : Post v sub') (hle : ∀ q ∈ sub', q ∈ led) : Q v { s with heap := h', toks := tk' } := by
  refine hret v h' tk' sub' hpost kF (fun q hq => kN q (hle q hq)) (fun q hq hn => F'.keep _ _ (hrest q hq hn)) fun q hq hn r hr e => ?_
  by_cases hm : r.1 ∈ sub.map (·.1)
  · exact hn (e ▸ hm)
  · have h1 := hrest r hr hm
    have h2 := (N' q (hle q hq)).2.2
    rw [e, h2] at h1
    cases h1
end

/-- What comes back where nothing of the ledger is changed: what is new, and the value. -/
def PureP (sub : List (Addr × Obj)) (P : Value → List (Addr × Obj) → Prop) (v : Value) (sub' : List (Addr × Obj)) : Prop :=
  ∃ new, sub' = new ++ sub ∧ (∀ q ∈ new, q.1 ∉ sub.map (·.1)) ∧ P v new
/-- What comes back where the first object alone is changed. -/
def MutP (l : Addr) (o : Obj) (sub : List (Addr × Obj)) (P : Value → Obj → List (Addr × Obj) → Prop) (v : Value) (sub' : List (Addr × Obj)) : Prop :=
  ∃ o' new, sub' = new ++ (l, o') :: sub ∧ (∀ q ∈ new, q.1 ∉ ((l, o) :: sub).map (·.1)) ∧ P v o' new

/-- A contract used where nothing of the ledger is changed. -/
theorem con_pure {prog : Program} {w : World} {K : Frag} {p : Program} {loose : List Str} {mean : ExcName → Option Value} {mg mb : Str → Option Value} {f : Addr} {dk : Nat} {sub : List (Addr × Obj)} {vs : List Value} {P : Value → List (Addr × Obj) → Prop}
    {dp un : Nat} {gd : Option (List Code)} {cn : Str} {cs : Scope} {a : Addr} {ccd : Value} {cl : List (Str × Addr)} {outer : List Env} {A₀ : Around} {base h₀ : Heap} {L : Addr} {m : Str → Option Value} {news : List (Addr × Obj)} {s : Shared} {Q E : Value → Shared → Prop}
    (B : Below A₀ base outer h₀) (F : Fr h₀ L s.heap m) (X : K.In h₀) (N : News h₀ L s.heap news) (T : Top p loose mean mg mb h₀) (hk : cs.kind = .function)
    (C : Con prog w K p loose mean mg mb f dk sub vs (PureP sub P))
    (hsub : ∀ q ∈ sub, q ∈ news) (hd : dp + dk < recursionLimit) (hu : un + 8 * dk < cLine)
    (ret : ∀ v new h' tk', P v new → Fr h₀ L h' m → News h₀ L h' (new ++ news) → (∀ q ∈ new, ∀ r ∈ news, r.1 ≠ q.1) → Q v { s with heap := h', toks := tk' }) :
    wpAny (model prog w) (ktrTop dp un gd cn cs L a ccd cl outer) (call (.ref f) vs) Q E s := by
  refine C _ _ _ _ _ _ _ _ _ _ _ _ _ _ _ _ _ _ B F X N T hk hsub hd hu fun v h' tk' sub' hp F' N' hr hf => ?_
  obtain ⟨new, rfl, hn, hp⟩ := hp
  refine ret v new h' tk' hp F' (fun q hq => ?_) fun q hq r hr => hf q (List.mem_append_left _ hq) (hn q hq) r hr
  rcases List.mem_append.mp hq with hq | hq
  · exact N' q (List.mem_append_left _ hq)
  · refine ⟨?_, (N q hq).2⟩
    by_cases hm : q.1 ∈ sub.map (·.1)
    · obtain ⟨r, hr', e⟩ := List.mem_map.mp hm
      have h1 := (N r (hsub r hr')).1
      have h2 := (N q hq).1
      rw [e, h2] at h1
      have h3 := (N' r (List.mem_append_right _ hr')).1
      rw [e] at h3
      rw [h3]
      exact h1.symm
    · exact hr q hq hm

/-- A contract used where one object of the ledger, the head of the written part, is changed. -/
theorem con_mut {prog : Program} {w : World} {K : Frag} {p : Program} {loose : List Str} {mean : ExcName → Option Value} {mg mb : Str → Option Value} {f : Addr} {dk : Nat} {l : Addr} {o : Obj} {sub : List (Addr × Obj)} {vs : List Value} {P : Value → Obj → List (Addr × Obj) → Prop}
    {dp un : Nat} {gd : Option (List Code)} {cn : Str} {cs : Scope} {a : Addr} {ccd : Value} {cl : List (Str × Addr)} {outer : List Env} {A₀ : Around} {base h₀ : Heap} {L : Addr} {m : Str → Option Value} {news : List (Addr × Obj)} {s : Shared} {Q E : Value → Shared → Prop}
    (B : Below A₀ base outer h₀) (F : Fr h₀ L s.heap m) (X : K.In h₀) (N : News h₀ L s.heap news) (T : Top p loose mean mg mb h₀) (hk : cs.kind = .function)
    (C : Con prog w K p loose mean mg mb f dk ((l, o) :: sub) vs (MutP l o sub P))
    {upd : Obj → List (Addr × Obj)} (U : ∀ o', Upd l o o' news (upd o')) (hsub : ∀ q ∈ (l, o) :: sub, q ∈ news) (hd : dp + dk < recursionLimit) (hu : un + 8 * dk < cLine)
    (ret : ∀ v o' new h' tk', P v o' new → Fr h₀ L h' m → News h₀ L h' (new ++ upd o') → (∀ q ∈ new, ∀ r ∈ upd o', r.1 ≠ q.1) → Q v { s with heap := h', toks := tk' }) :
    wpAny (model prog w) (ktrTop dp un gd cn cs L a ccd cl outer) (call (.ref f) vs) Q E s := by
  refine C _ _ _ _ _ _ _ _ _ _ _ _ _ _ _ _ _ _ B F X N T hk hsub hd hu fun v h' tk' sub' hp F' N' hr hf => ?_
  obtain ⟨o', new, rfl, hn, hp⟩ := hp
  obtain ⟨pre, post, e1, e2, n1, n2⟩ := (U o').split
  have key : ∀ q ∈ news, q.1 ≠ l → h'.get? q.1 = some q.2 := fun q hq hne => by
    by_cases hm : q.1 ∈ ((l, o) :: sub).map (·.1)
    · obtain ⟨r, hr', e⟩ := List.mem_map.mp hm
      have h1 := (N r (hsub r hr')).1
      have h2 := (N q hq).1
      rw [e, h2] at h1
      rcases List.mem_cons.mp hr' with rfl | hr'
      · exact absurd e.symm hne
      · have h3 := (N' r (List.mem_append_right _ (List.mem_cons_of_mem _ hr'))).1
        rw [e] at h3
        rw [h3]
        exact h1.symm
    · exact hr q hq hm
  have adr : ∀ r ∈ upd o', ∃ r' ∈ news, r'.1 = r.1 := fun r hr => by
    rw [e2] at hr
    rcases List.mem_append.mp hr with hr | hr
    · exact ⟨r, by rw [e1]; exact List.mem_append_left _ hr, rfl⟩
    · rcases List.mem_cons.mp hr with rfl | hr
      · exact ⟨(l, o), by rw [e1]; exact List.mem_append_right _ (.head _), rfl⟩
      · exact ⟨r, by rw [e1]; exact List.mem_append_right _ (.tail _ hr), rfl⟩
  refine ret v o' new h' tk' hp F' (fun q hq => ?_) fun q hq r hr => ?_
  · rcases List.mem_append.mp hq with hq | hq
    · exact N' q (List.mem_append_left _ hq)
    · rw [e2] at hq
      rcases List.mem_append.mp hq with hq | hq
      · have hq' : q ∈ news := by rw [e1]; exact List.mem_append_left _ hq
        exact ⟨key q hq' (n1 q hq), (N q hq').2⟩
      · rcases List.mem_cons.mp hq with rfl | hq
        · exact N' _ (List.mem_append_right _ (.head _))
        · have hq' : q ∈ news := by rw [e1]; exact List.mem_append_right _ (.tail _ hq)
          exact ⟨key q hq' (n2 q hq), (N q hq').2⟩
  · obtain ⟨r', hr', e⟩ := adr r hr
    rw [← e]
    exact hf q (List.mem_append_left _ hq) (hn q hq) r' hr'

/-- A contract of this text's def. -/
abbrev CC (w : World) (loose : List Str) (mean : ExcName → Option Value) (mg mb : Str → Option Value) (f : Addr) (dk : Nat) (sub : List (Addr × Obj)) (vs : List Value) (Post : Value → List (Addr × Obj) → Prop) : Prop :=
  Con PySem.Challenge.rw_nu0006_01.row.prog w (hd.heap_39 w.params) view loose mean mg mb f dk sub vs Post

/-- The law's source of draws. -/
def Src (o : Obj) : Prop := ∃ (x y : Int) (t1 t2 : Tok) (c : Nat), o = W.listOf #[.int x t1, .int y t2] c ∧ 0 ≤ x ∧ 0 ≤ y ∧ y < 2147483647
/-- What take gives. -/
def TakeP (top : Int) (v : Value) (o' : Obj) (new : List (Addr × Obj)) : Prop := new = [] ∧ ∃ r t, v = .int r t ∧ 0 ≤ r ∧ r < top ∧ Src o'
/-- What one gives. -/
def OneP (vs : List Value) (v : Value) (o' : Obj) (new : List (Addr × Obj)) : Prop := new = [] ∧ v ∈ vs ∧ Src o'

theorem item_led {prog : Program} {w : World} {A : Around} {E : Value → Shared → Prop} {s : Shared} {h₀ : Heap} {L l : Addr} {news : List (Addr × Obj)} {value slice : Expr} {vs : List Value} {n : Nat} {k : Int} {u : Tok} {v : Value} {Q : Value → Shared → Prop}
    (N : News h₀ L s.heap news) (hm : (l, W.listOf vs.toArray n) ∈ news) (h0 : 0 ≤ k) (hhi : k < 2 ^ 63) (hx : vs[k.toNat]? = some v) (h : Q v s)
    (hs : subscripted slice false (.ref l) (.int k u) = operate [.ref l, .int k u] (getItem (.ref l) (.int k u)) := by with_unfolding_all rfl) :
    wpAny (model prog w) A (subscriptTail value slice (.ref l) (.int k u)) Q E s :=
  have hl : s.heap.IsList l vs.toArray := ⟨_, (N _ hm).1, rfl, n, rfl⟩
  tail_any hl.typeIs slot_list_getitem.lookup (wpAny_getItem_list hl h0 hhi (by simpa using hx) h) hs
/-- An item at a place that is not written: some item of the list. -/
theorem item_some {prog : Program} {w : World} {A : Around} {E : Value → Shared → Prop} {s : Shared} {h₀ : Heap} {L l : Addr} {news : List (Addr × Obj)} {value slice : Expr} {vs : List Value} {n : Nat} {k : Int} {u : Tok} {Q : Value → Shared → Prop}
    (N : News h₀ L s.heap news) (hm : (l, W.listOf vs.toArray n) ∈ news) (h0 : 0 ≤ k) (hk : k < vs.length) (hhi : k < 2 ^ 63) (h : ∀ v, v ∈ vs → Q v s)
    (hs : subscripted slice false (.ref l) (.int k u) = operate [.ref l, .int k u] (getItem (.ref l) (.int k u)) := by with_unfolding_all rfl) :
    wpAny (model prog w) A (subscriptTail value slice (.ref l) (.int k u)) Q E s :=
  have hb : k.toNat < vs.length := by omega
  item_led N hm h0 hhi (List.getElem?_eq_getElem hb) (h _ (List.getElem_mem hb)) hs
theorem len_led {prog : Program} {w : World} {A : Around} {E : Value → Shared → Prop} {s : Shared} {h₀ : Heap} {L l : Addr} {news : List (Addr × Obj)} {vs : List Value} {n : Nat} {Q : Value → Shared → Prop}
    (N : News h₀ L s.heap news) (hm : (l, W.listOf vs.toArray n) ∈ news) (hf : vs.length < 2 ^ 62) (h : ∀ t tk, Q (.int (vs.length : Nat) t) { s with toks := tk }) :
    wpAny (model prog w) A (call (.builtin "len") [.ref l]) Q E s := by
  refine PyProof.Rows.len_list (items := vs.toArray) ⟨_, (N _ hm).1, rfl, n, rfl⟩ (by rw [List.size_toArray]; omega) ?_
  rw [List.size_toArray]
  exact h _ _
theorem mem_int4 {v : Value} {a b c d M : Int} {t1 t2 t3 t4 : Tok} (h : v ∈ [Value.int a t1, .int b t2, .int c t3, .int d t4]) (ha : 0 ≤ a ∧ a ≤ M) (hb : 0 ≤ b ∧ b ≤ M) (hc : 0 ≤ c ∧ c ≤ M) (hd : 0 ≤ d ∧ d ≤ M) :
    ∃ x t, v = .int x t ∧ 0 ≤ x ∧ x ≤ M := by
  simp only [List.mem_cons, List.not_mem_nil, or_false] at h
  rcases h with rfl | rfl | rfl | rfl
  · exact ⟨_, _, rfl, ha⟩
  · exact ⟨_, _, rfl, hb⟩
  · exact ⟨_, _, rfl, hc⟩
  · exact ⟨_, _, rfl, hd⟩
theorem mem_int7 {v : Value} {a b c d e f g M : Int} {t1 t2 t3 t4 t5 t6 t7 : Tok} (h : v ∈ [Value.int a t1, .int b t2, .int c t3, .int d t4, .int e t5, .int f t6, .int g t7]) (ha : 0 ≤ a ∧ a ≤ M) (hb : 0 ≤ b ∧ b ≤ M) (hc : 0 ≤ c ∧ c ≤ M) (hd : 0 ≤ d ∧ d ≤ M)
    (he : 0 ≤ e ∧ e ≤ M) (hf : 0 ≤ f ∧ f ≤ M) (hg : 0 ≤ g ∧ g ≤ M) :
    ∃ x t, v = .int x t ∧ 0 ≤ x ∧ x ≤ M := by
  simp only [List.mem_cons, List.not_mem_nil, or_false] at h
  rcases h with rfl | rfl | rfl | rfl | rfl | rfl | rfl
  · exact ⟨_, _, rfl, ha⟩
  · exact ⟨_, _, rfl, hb⟩
  · exact ⟨_, _, rfl, hc⟩
  · exact ⟨_, _, rfl, hd⟩
  · exact ⟨_, _, rfl, he⟩
  · exact ⟨_, _, rfl, hf⟩
  · exact ⟨_, _, rfl, hg⟩
theorem mem_part {v : Value} {b d : Int} {t1 t2 t3 t4 : Tok} (h : v ∈ [Value.int 0 t1, .int b t2, .int (b.fdiv 2) t3, .int d t4]) (hb : 0 ≤ b) (hd : 0 ≤ d) (hd' : d < b + 1) :
    ∃ x t, v = .int x t ∧ 0 ≤ x ∧ x ≤ b := by
  have e : b.fdiv 2 = b / 2 := Int.fdiv_eq_ediv_of_nonneg b (by decide)
  exact mem_int4 h ⟨by omega, by omega⟩ ⟨by omega, by omega⟩ ⟨by omega, by omega⟩ ⟨by omega, by omega⟩
theorem mem_alpha {v : Value} {r : Int} {t1 t2 t3 t4 t5 t6 t7 : Tok} (h : v ∈ [Value.int 0 t1, .int 1 t2, .int 127 t3, .int 128 t4, .int 254 t5, .int 255 t6, .int r t7]) (h0 : 0 ≤ r) (h1 : r < 256) :
    ∃ x t, v = .int x t ∧ 0 ≤ x ∧ x ≤ 255 :=
  mem_int7 h ⟨by omega, by omega⟩ ⟨by omega, by omega⟩ ⟨by omega, by omega⟩ ⟨by omega, by omega⟩ ⟨by omega, by omega⟩ ⟨by omega, by omega⟩ ⟨by omega, by omega⟩
/-- A colour, as the law holds it. -/
abbrev tup4 (x y z a : Int) (t1 t2 t3 t4 : Tok) (n : Nat) : Obj := { cls := .type "tuple", data := .seq #[.int x t1, .int y t2, .int z t3, .int a t4] n }
def ColP (v : Value) (o' : Obj) (new : List (Addr × Obj)) : Prop :=
  Src o' ∧ ∃ (D : Addr) (x y z a : Int) (t1 t2 t3 t4 : Tok) (n : Nat), v = .ref D ∧ new = [(D, tup4 x y z a t1 t2 t3 t4 n)] ∧ (0 ≤ x ∧ x ≤ a) ∧ (0 ≤ y ∧ y ≤ a) ∧ (0 ≤ z ∧ z ≤ a) ∧ a ≤ 255
theorem fmod_in (a : Int) {b : Int} (hb : 0 < b) : 0 ≤ a.fmod b ∧ a.fmod b < b := by
  rw [Int.fmod_eq_emod_of_nonneg a (by omega)]
  exact ⟨Int.emod_nonneg a (by omega), Int.emod_lt_of_pos a hb⟩
theorem fdiv_nn {a b : Int} (ha : 0 ≤ a) (hb : 0 < b) : 0 ≤ a.fdiv b := by
  rw [Int.fdiv_eq_ediv_of_nonneg a (by omega)]
  exact Int.ediv_nonneg ha (by omega)

/-- Rounded half up, over 255. -/
def rnd (t : Int) : Int := (2 * t + 255).fdiv 510
abbrev S (x : String) : Str := Str.ofString x
/-- Of each operator: what it takes of both, by the alphas. -/
def opT : List (Str × (Int → Int → Int) × (Int → Int → Int)) :=
  [(S "clear", fun _ _ => 0, fun _ _ => 0), (S "src", fun _ _ => 255, fun _ _ => 0), (S "dst", fun _ _ => 0, fun _ _ => 255), (S "over", fun _ _ => 255, fun a _ => 255 - a), (S "dst-over", fun _ b => 255 - b, fun _ _ => 255),
   (S "in", fun _ b => b, fun _ _ => 0), (S "dst-in", fun _ _ => 0, fun a _ => a), (S "out", fun _ b => 255 - b, fun _ _ => 0), (S "dst-out", fun _ _ => 0, fun a _ => 255 - a), (S "atop", fun _ b => b, fun a _ => 255 - a),
   (S "dst-atop", fun _ b => 255 - b, fun a _ => a), (S "xor", fun _ b => 255 - b, fun a _ => 255 - a)]
def IntP (x : Int) (v : Value) (new : List (Addr × Obj)) : Prop := new = [] ∧ ∃ t, v = .int x t
def BoolP (x : Bool) (v : Value) (new : List (Addr × Obj)) : Prop := new = [] ∧ v = .bool x
abbrev tup2 (u v : Value) (n : Nat) : Obj := { cls := .type "tuple", data := .seq #[u, v] n }
def Tup2I (x y : Int) (v : Value) (new : List (Addr × Obj)) : Prop := ∃ (D : Addr) (t1 t2 : Tok) (n : Nat), v = .ref D ∧ new = [(D, tup2 (.int x t1) (.int y t2) n)]
def Tup2S (x y : Str) (v : Value) (new : List (Addr × Obj)) : Prop := ∃ (D : Addr) (t1 t2 : Tok) (n : Nat), v = .ref D ∧ new = [(D, tup2 (.str x t1) (.str y t2) n)]
def Tup4I (x y z a : Int) (v : Value) (new : List (Addr × Obj)) : Prop := ∃ (D : Addr) (t1 t2 t3 t4 : Tok) (n : Nat), v = .ref D ∧ new = [(D, tup4 x y z a t1 t2 t3 t4 n)]

/-- The end of a pure contract: one object is new, and it is what comes back. -/
theorem con_end_one {s : Shared} {L : Addr} {h₀ : Heap} {m : Str → Option Value} {news sub : List (Addr × Obj)} {P : Value → List (Addr × Obj) → Prop} {Q : Value → Shared → Prop} {g h' : Heap} {L' D : Addr} {m' : Str → Option Value} {tk' : Nat} {o : Obj} {led : List (Addr × Obj)}
    (hret : ∀ v h' tk' sub', PureP sub P v sub' → Fr h₀ L h' m → News h₀ L h' sub' → (∀ q ∈ news, q.1 ∉ sub.map (·.1) → h'.get? q.1 = some q.2) →
      (∀ q ∈ sub', q.1 ∉ sub.map (·.1) → ∀ r ∈ news, r.1 ≠ q.1) → Q v { s with heap := h', toks := tk' })
    (hrest : ∀ q ∈ news, q.1 ∉ sub.map (·.1) → g.get? q.1 = some q.2) (F' : Fr g L' h' m') (N' : News g L' h' led) (kF : Fr h₀ L h' m) (kN : News h₀ L h' led)
    (hm : (D, o) ∈ led) (hP : P (.ref D) [(D, o)]) (hD : ∀ q ∈ sub, q.1 ≠ D) (hs : ∀ q ∈ sub, q ∈ led) : Q (.ref D) { s with heap := h', toks := tk' } :=
  con_end (sub' := [(D, o)] ++ sub) hret hrest F' N' kF kN ⟨[(D, o)], rfl, (fun q hq hn => by
    rw [List.mem_singleton.mp hq] at hn
    obtain ⟨r, hr, e⟩ := List.mem_map.mp hn
    exact hD r hr e), hP⟩ fun q hq => (List.mem_append.mp hq).elim (fun h => by rw [List.mem_singleton.mp h]; exact hm) (hs q)
/-- The end of a pure contract: nothing is new. -/
theorem con_end_val {s : Shared} {L : Addr} {h₀ : Heap} {m : Str → Option Value} {news sub : List (Addr × Obj)} {P : Value → List (Addr × Obj) → Prop} {Q : Value → Shared → Prop} {g h' : Heap} {L' : Addr} {m' : Str → Option Value} {v : Value} {tk' : Nat} {led : List (Addr × Obj)}
    (hret : ∀ v h' tk' sub', PureP sub P v sub' → Fr h₀ L h' m → News h₀ L h' sub' → (∀ q ∈ news, q.1 ∉ sub.map (·.1) → h'.get? q.1 = some q.2) →
      (∀ q ∈ sub', q.1 ∉ sub.map (·.1) → ∀ r ∈ news, r.1 ≠ q.1) → Q v { s with heap := h', toks := tk' })
    (hrest : ∀ q ∈ news, q.1 ∉ sub.map (·.1) → g.get? q.1 = some q.2) (F' : Fr g L' h' m') (N' : News g L' h' led) (kF : Fr h₀ L h' m) (kN : News h₀ L h' led)
    (hP : P v []) (hs : ∀ q ∈ sub, q ∈ led) : Q v { s with heap := h', toks := tk' } :=
  con_end (sub' := [] ++ sub) hret hrest F' N' kF kN ⟨[], rfl, (fun _ h => nomatch h), hP⟩ fun q hq => hs q hq

def AllNe (d : Addr) : List (Addr × Obj) → Prop
  | [] => True
  | p :: r => @Ne Nat p.1 d ∧ AllNe d r
theorem allNe_of {d : Addr} : ∀ {l : List (Addr × Obj)}, (∀ p ∈ l, p.1 ≠ d) → AllNe d l
  | [], _ => trivial
  | p :: _, h => ⟨h p (.head _), allNe_of fun q hq => h q (.tail _ hq)⟩

theorem kysD_at {K : Type} {enc : K → PyData} {k : K} {D : List (PyData × PyData)} {C : PyData → Prop} {N : Prop} {dv : PyData} (e : PySem.Spec.lookup (enc k) D = some dv) (h : C dv) : KysD enc k D C N := by
  unfold KysD; rw [e]; exact h
theorem look_f (a b : Int) {op : Str} {f g : Int → Int → Int} (hop : (op, f, g) ∈ opT) :
    PySem.Spec.lookup (PyData.str op) [(.str (S "clear"), .int (0)), (.str (S "src"), .int (255)), (.str (S "dst"), .int (0)), (.str (S "over"), .int (255)), (.str (S "dst-over"), .int (255 - b)), (.str (S "in"), .int (b)), (.str (S "dst-in"), .int (0)), (.str (S "out"), .int (255 - b)), (.str (S "dst-out"), .int (0)), (.str (S "atop"), .int (b)), (.str (S "dst-atop"), .int (255 - b)), (.str (S "xor"), .int (255 - b))] = some (.int (f a b)) := by
  simp only [opT, List.mem_cons, List.not_mem_nil, or_false, Prod.mk.injEq] at hop
  rcases hop with ⟨rfl, rfl, rfl⟩ | ⟨rfl, rfl, rfl⟩ | ⟨rfl, rfl, rfl⟩ | ⟨rfl, rfl, rfl⟩ | ⟨rfl, rfl, rfl⟩ | ⟨rfl, rfl, rfl⟩ | ⟨rfl, rfl, rfl⟩ | ⟨rfl, rfl, rfl⟩ | ⟨rfl, rfl, rfl⟩ | ⟨rfl, rfl, rfl⟩ | ⟨rfl, rfl, rfl⟩ | ⟨rfl, rfl, rfl⟩ <;> kernel_rfl
theorem look_g (a b : Int) {op : Str} {f g : Int → Int → Int} (hop : (op, f, g) ∈ opT) :
    PySem.Spec.lookup (PyData.str op) (ktMergeD [(.str (S "clear"), .int (0)), (.str (S "src"), .int (0)), (.str (S "dst"), .int (255)), (.str (S "over"), .int (255 - a)), (.str (S "dst-over"), .int (255)), (.str (S "in"), .int (0)), (.str (S "dst-in"), .int (a))] [(.str (S "out"), .int (0)), (.str (S "dst-out"), .int (255 - a)), (.str (S "atop"), .int (255 - a)), (.str (S "dst-atop"), .int (a)), (.str (S "xor"), .int (255 - a))]) = some (.int (g a b)) := by
  simp only [opT, List.mem_cons, List.not_mem_nil, or_false, Prod.mk.injEq] at hop
  rcases hop with ⟨rfl, rfl, rfl⟩ | ⟨rfl, rfl, rfl⟩ | ⟨rfl, rfl, rfl⟩ | ⟨rfl, rfl, rfl⟩ | ⟨rfl, rfl, rfl⟩ | ⟨rfl, rfl, rfl⟩ | ⟨rfl, rfl, rfl⟩ | ⟨rfl, rfl, rfl⟩ | ⟨rfl, rfl, rfl⟩ | ⟨rfl, rfl, rfl⟩ | ⟨rfl, rfl, rfl⟩ | ⟨rfl, rfl, rfl⟩ <;> kernel_rfl

/-- Of each operator: the words of its shares. -/
def shT : List (Str × Str × Str) :=
  [(S "clear", S "none", S "none"), (S "src", S "all", S "none"), (S "dst", S "none", S "all"), (S "over", S "all", S "rest"), (S "dst-over", S "rest", S "all"), (S "in", S "other", S "none"), (S "dst-in", S "none", S "other"), (S "out", S "rest", S "none"), (S "dst-out", S "none", S "rest"), (S "atop", S "other", S "rest"), (S "dst-atop", S "rest", S "other"), (S "xor", S "rest", S "rest")]

/-- Of each word: the share. -/
def wordT : List (Str × (Int → Int)) := [(S "none", fun _ => 0), (S "all", fun _ => 255), (S "other", fun x => x), (S "rest", fun x => 255 - x)]
theorem word_in {u : Str} {h : Int → Int} (hu : (u, h) ∈ wordT) (x : Int) (hx : 0 ≤ x ∧ x ≤ 255) : 0 ≤ h x ∧ h x ≤ 255 := by
  simp only [wordT, List.mem_cons, List.not_mem_nil, or_false, Prod.mk.injEq] at hu
  rcases hu with ⟨rfl, rfl⟩ | ⟨rfl, rfl⟩ | ⟨rfl, rfl⟩ | ⟨rfl, rfl⟩ <;> (dsimp only; omega)
theorem op_words {op : Str} {f g : Int → Int → Int} (hop : (op, f, g) ∈ opT) : ∃ u v hu hv, (op, u, v) ∈ shT ∧ (u, hu) ∈ wordT ∧ (v, hv) ∈ wordT ∧ (∀ a b, f a b = hu b) ∧ (∀ a b, g a b = hv a) ∧ op ≠ S "plus" := by
  simp only [opT, List.mem_cons, List.not_mem_nil, or_false, Prod.mk.injEq] at hop
  rcases hop with ⟨rfl, rfl, rfl⟩ | ⟨rfl, rfl, rfl⟩ | ⟨rfl, rfl, rfl⟩ | ⟨rfl, rfl, rfl⟩ | ⟨rfl, rfl, rfl⟩ | ⟨rfl, rfl, rfl⟩ | ⟨rfl, rfl, rfl⟩ | ⟨rfl, rfl, rfl⟩ | ⟨rfl, rfl, rfl⟩ | ⟨rfl, rfl, rfl⟩ | ⟨rfl, rfl, rfl⟩ | ⟨rfl, rfl, rfl⟩
  · exact ⟨S "none", S "none", (fun _ => 0), (fun _ => 0), by simp [shT], by simp [wordT], by simp [wordT], fun _ _ => rfl, fun _ _ => rfl, by decide +kernel⟩
  · exact ⟨S "all", S "none", (fun _ => 255), (fun _ => 0), by simp [shT], by simp [wordT], by simp [wordT], fun _ _ => rfl, fun _ _ => rfl, by decide +kernel⟩
  · exact ⟨S "none", S "all", (fun _ => 0), (fun _ => 255), by simp [shT], by simp [wordT], by simp [wordT], fun _ _ => rfl, fun _ _ => rfl, by decide +kernel⟩
  · exact ⟨S "all", S "rest", (fun _ => 255), (fun x => 255 - x), by simp [shT], by simp [wordT], by simp [wordT], fun _ _ => rfl, fun _ _ => rfl, by decide +kernel⟩
  · exact ⟨S "rest", S "all", (fun x => 255 - x), (fun _ => 255), by simp [shT], by simp [wordT], by simp [wordT], fun _ _ => rfl, fun _ _ => rfl, by decide +kernel⟩
  · exact ⟨S "other", S "none", (fun x => x), (fun _ => 0), by simp [shT], by simp [wordT], by simp [wordT], fun _ _ => rfl, fun _ _ => rfl, by decide +kernel⟩
  · exact ⟨S "none", S "other", (fun _ => 0), (fun x => x), by simp [shT], by simp [wordT], by simp [wordT], fun _ _ => rfl, fun _ _ => rfl, by decide +kernel⟩
  · exact ⟨S "rest", S "none", (fun x => 255 - x), (fun _ => 0), by simp [shT], by simp [wordT], by simp [wordT], fun _ _ => rfl, fun _ _ => rfl, by decide +kernel⟩
  · exact ⟨S "none", S "rest", (fun _ => 0), (fun x => 255 - x), by simp [shT], by simp [wordT], by simp [wordT], fun _ _ => rfl, fun _ _ => rfl, by decide +kernel⟩
  · exact ⟨S "other", S "rest", (fun x => x), (fun x => 255 - x), by simp [shT], by simp [wordT], by simp [wordT], fun _ _ => rfl, fun _ _ => rfl, by decide +kernel⟩
  · exact ⟨S "rest", S "other", (fun x => 255 - x), (fun x => x), by simp [shT], by simp [wordT], by simp [wordT], fun _ _ => rfl, fun _ _ => rfl, by decide +kernel⟩
  · exact ⟨S "rest", S "rest", (fun x => 255 - x), (fun x => 255 - x), by simp [shT], by simp [wordT], by simp [wordT], fun _ _ => rfl, fun _ _ => rfl, by decide +kernel⟩
/-- What each mode makes of one part where both are: the part above, its alpha, the part below, its alpha. -/
def modeT : List (Str × (Int → Int → Int → Int → Int)) :=
  [(S "normal", fun s _ _ b => s * b), (S "multiply", fun s _ d _ => s * d), (S "screen", fun s a d b => s * b + d * a - s * d), (S "darken", fun s a d b => if d * a < s * b then d * a else s * b), (S "lighten", fun s a d b => if s * b < d * a then d * a else s * b),
   (S "hard-light", fun s a d b => if 2 * s ≤ a then 2 * (s * d) else a * b - 2 * (a - s) * (b - d)), (S "overlay", fun s a d b => if 2 * d ≤ b then 2 * (d * s) else b * a - 2 * (b - d) * (a - s)),
   (S "difference", fun s a d b => if s * b - d * a < 0 then -(s * b - d * a) else s * b - d * a), (S "exclusion", fun s a d b => s * b + d * a - 2 * (s * d))]
theorem room1 {d a k R : Nat} (h : d + k < R) (e : Nat.ble a k = true) : d + a < R := by have := Nat.le_of_ble_eq_true e; omega
theorem room2 {d a b k R : Nat} (h : d + k < R) (e : Nat.ble (a + b) k = true) : d + a + b < R := by have := Nat.le_of_ble_eq_true e; omega
theorem room3 {d a b c k R : Nat} (h : d + k < R) (e : Nat.ble (a + b + c) k = true) : d + a + b + c < R := by have := Nat.le_of_ble_eq_true e; omega
theorem room4 {d a b c f k R : Nat} (h : d + k < R) (e : Nat.ble (a + b + c + f) k = true) : d + a + b + c + f < R := by have := Nat.le_of_ble_eq_true e; omega
theorem room0 {d k R : Nat} (h : d + k < R) : d < R := by omega
theorem b255 {x a : Int} (h : 0 ≤ x ∧ x ≤ a) (ha : a ≤ 255) : 0 ≤ x ∧ x ≤ 255 := ⟨h.1, Int.le_trans h.2 ha⟩
theorem a255 {x a : Int} (h : 0 ≤ x ∧ x ≤ a) (ha : a ≤ 255) : 0 ≤ a ∧ a ≤ 255 := ⟨Int.le_trans h.1 h.2, ha⟩
theorem c255 {x a : Int} (h : 0 ≤ x ∧ x ≤ a) (ha : a ≤ 255) : 0 ≤ 255 - a ∧ 255 - a ≤ 255 := by omega
theorem k255 : (0 : Int) ≤ 255 ∧ (255 : Int) ≤ 255 := by decide
theorem eq_str_ne {prog : Program} {w : World} {A : Around} {E : Value → Shared → Prop} {s : Shared} {x y : Str} {t u : Tok} {Q : Value → Shared → Prop} (hne : x ≠ y) (h : Q (.bool false) s) : wpAny (model prog w) A (compareOp .Eq (.str x t) (.str y u)) Q E s := by
  refine eq_str ?_
  rw [beq_false_of_ne hne]
  exact h
def ModeV (v : Value) : Prop := ∃ mode f t, v = .str mode t ∧ (mode, f) ∈ modeT
section
variable {prog : Program} {w : World} {K : Frag} {p : Program} {loose : List Str} {mean : ExcName → Option Value} {mg mb : Str → Option Value} {f : Addr} {dk : Nat} {sub : List (Addr × Obj)} {vs : List Value}
    {dp un : Nat} {gd : Option (List Code)} {cn : Str} {cs : Scope} {a : Addr} {ccd : Value} {cl : List (Str × Addr)} {outer : List Env} {A₀ : Around} {base h₀ : Heap} {L : Addr} {m : Str → Option Value} {news : List (Addr × Obj)} {s : Shared} {Q E : Value → Shared → Prop}
theorem con_int {x : Int}
    (B : Below A₀ base outer h₀) (F : Fr h₀ L s.heap m) (X : K.In h₀) (N : News h₀ L s.heap news) (T : Top p loose mean mg mb h₀) (hk : cs.kind = .function)
    (C : Con prog w K p loose mean mg mb f dk sub vs (PureP sub (IntP x)))
    (hsub : ∀ q ∈ sub, q ∈ news) (hd : dp + dk < recursionLimit) (hu : un + 8 * dk < cLine)
    (ret : ∀ t h' tk', Fr h₀ L h' m → News h₀ L h' news → Q (.int x t) { s with heap := h', toks := tk' }) :
    wpAny (model prog w) (ktrTop dp un gd cn cs L a ccd cl outer) (call (.ref f) vs) Q E s :=
  con_pure B F X N T hk C hsub hd hu fun v new h' tk' hP F' N' _ => by
    obtain ⟨rfl, t, rfl⟩ := hP
    exact ret t h' tk' F' N'
theorem con_bool {x : Bool}
    (B : Below A₀ base outer h₀) (F : Fr h₀ L s.heap m) (X : K.In h₀) (N : News h₀ L s.heap news) (T : Top p loose mean mg mb h₀) (hk : cs.kind = .function)
    (C : Con prog w K p loose mean mg mb f dk sub vs (PureP sub (BoolP x)))
    (hsub : ∀ q ∈ sub, q ∈ news) (hd : dp + dk < recursionLimit) (hu : un + 8 * dk < cLine)
    (ret : ∀ h' tk', Fr h₀ L h' m → News h₀ L h' news → Q (.bool x) { s with heap := h', toks := tk' }) :
    wpAny (model prog w) (ktrTop dp un gd cn cs L a ccd cl outer) (call (.ref f) vs) Q E s :=
  con_pure B F X N T hk C hsub hd hu fun v new h' tk' hP F' N' _ => by
    obtain ⟨rfl, rfl⟩ := hP
    exact ret h' tk' F' N'
theorem con_tup2i {x y : Int}
    (B : Below A₀ base outer h₀) (F : Fr h₀ L s.heap m) (X : K.In h₀) (N : News h₀ L s.heap news) (T : Top p loose mean mg mb h₀) (hk : cs.kind = .function)
    (C : Con prog w K p loose mean mg mb f dk sub vs (PureP sub (Tup2I x y)))
    (hsub : ∀ q ∈ sub, q ∈ news) (hd : dp + dk < recursionLimit) (hu : un + 8 * dk < cLine)
    (ret : ∀ D t1 t2 n h' tk', Fr h₀ L h' m → News h₀ L h' ((D, tup2 (.int x t1) (.int y t2) n) :: news) → AllNe D news → Q (.ref D) { s with heap := h', toks := tk' }) :
    wpAny (model prog w) (ktrTop dp un gd cn cs L a ccd cl outer) (call (.ref f) vs) Q E s :=
  con_pure B F X N T hk C hsub hd hu fun v new h' tk' hP F' N' hA => by
    obtain ⟨D, t1, t2, n, rfl, rfl⟩ := hP
    exact ret D t1 t2 n h' tk' F' N' (allNe_of (hA _ (List.Mem.head _)))
theorem con_tup2s {x y : Str}
    (B : Below A₀ base outer h₀) (F : Fr h₀ L s.heap m) (X : K.In h₀) (N : News h₀ L s.heap news) (T : Top p loose mean mg mb h₀) (hk : cs.kind = .function)
    (C : Con prog w K p loose mean mg mb f dk sub vs (PureP sub (Tup2S x y)))
    (hsub : ∀ q ∈ sub, q ∈ news) (hd : dp + dk < recursionLimit) (hu : un + 8 * dk < cLine)
    (ret : ∀ D t1 t2 n h' tk', Fr h₀ L h' m → News h₀ L h' ((D, tup2 (.str x t1) (.str y t2) n) :: news) → AllNe D news → Q (.ref D) { s with heap := h', toks := tk' }) :
    wpAny (model prog w) (ktrTop dp un gd cn cs L a ccd cl outer) (call (.ref f) vs) Q E s :=
  con_pure B F X N T hk C hsub hd hu fun v new h' tk' hP F' N' hA => by
    obtain ⟨D, t1, t2, n, rfl, rfl⟩ := hP
    exact ret D t1 t2 n h' tk' F' N' (allNe_of (hA _ (List.Mem.head _)))
theorem con_tup4 {x y z al : Int}
    (B : Below A₀ base outer h₀) (F : Fr h₀ L s.heap m) (X : K.In h₀) (N : News h₀ L s.heap news) (T : Top p loose mean mg mb h₀) (hk : cs.kind = .function)
    (C : Con prog w K p loose mean mg mb f dk sub vs (PureP sub (Tup4I x y z al)))
    (hsub : ∀ q ∈ sub, q ∈ news) (hd : dp + dk < recursionLimit) (hu : un + 8 * dk < cLine)
    (ret : ∀ D t1 t2 t3 t4 n h' tk', Fr h₀ L h' m → News h₀ L h' ((D, tup4 x y z al t1 t2 t3 t4 n) :: news) → AllNe D news → Q (.ref D) { s with heap := h', toks := tk' }) :
    wpAny (model prog w) (ktrTop dp un gd cn cs L a ccd cl outer) (call (.ref f) vs) Q E s :=
  con_pure B F X N T hk C hsub hd hu fun v new h' tk' hP F' N' hA => by
    obtain ⟨D, t1, t2, t3, t4, n, rfl, rfl⟩ := hP
    exact ret D t1 t2 t3 t4 n h' tk' F' N' (allNe_of (hA _ (List.Mem.head _)))
theorem mut_take {l : Addr} {o : Obj} {top : Int} {upd : Obj → List (Addr × Obj)}
    (B : Below A₀ base outer h₀) (F : Fr h₀ L s.heap m) (X : K.In h₀) (N : News h₀ L s.heap news) (T : Top p loose mean mg mb h₀) (hk : cs.kind = .function)
    (C : Con prog w K p loose mean mg mb f dk ((l, o) :: sub) vs (MutP l o sub (TakeP top)))
    (U : ∀ o', Upd l o o' news (upd o')) (hsub : ∀ q ∈ (l, o) :: sub, q ∈ news) (hd : dp + dk < recursionLimit) (hu : un + 8 * dk < cLine)
    (ret : ∀ r t o' h' tk', 0 ≤ r → r < top → Src o' → Fr h₀ L h' m → News h₀ L h' (upd o') → Q (.int r t) { s with heap := h', toks := tk' }) :
    wpAny (model prog w) (ktrTop dp un gd cn cs L a ccd cl outer) (call (.ref f) vs) Q E s :=
  con_mut B F X N T hk C U hsub hd hu fun v o' new h' tk' hP F' N' _ => by
    obtain ⟨rfl, r, t, rfl, r0, r1, hs⟩ := hP
    exact ret r t o' h' tk' r0 r1 hs F' N'
theorem mut_one {l : Addr} {o : Obj} {vs' : List Value} {upd : Obj → List (Addr × Obj)}
    (B : Below A₀ base outer h₀) (F : Fr h₀ L s.heap m) (X : K.In h₀) (N : News h₀ L s.heap news) (T : Top p loose mean mg mb h₀) (hk : cs.kind = .function)
    (C : Con prog w K p loose mean mg mb f dk ((l, o) :: sub) vs (MutP l o sub (OneP vs')))
    (U : ∀ o', Upd l o o' news (upd o')) (hsub : ∀ q ∈ (l, o) :: sub, q ∈ news) (hd : dp + dk < recursionLimit) (hu : un + 8 * dk < cLine)
    (ret : ∀ v o' h' tk', v ∈ vs' → Src o' → Fr h₀ L h' m → News h₀ L h' (upd o') → Q v { s with heap := h', toks := tk' }) :
    wpAny (model prog w) (ktrTop dp un gd cn cs L a ccd cl outer) (call (.ref f) vs) Q E s :=
  con_mut B F X N T hk C U hsub hd hu fun v o' new h' tk' hP F' N' _ => by
    obtain ⟨rfl, hv, hs⟩ := hP
    exact ret v o' h' tk' hv hs F' N'
theorem mut_oneI {l : Addr} {o : Obj} {vs' : List Value} {M : Int} {upd : Obj → List (Addr × Obj)}
    (B : Below A₀ base outer h₀) (F : Fr h₀ L s.heap m) (X : K.In h₀) (N : News h₀ L s.heap news) (T : Top p loose mean mg mb h₀) (hk : cs.kind = .function)
    (C : Con prog w K p loose mean mg mb f dk ((l, o) :: sub) vs (MutP l o sub (OneP vs')))
    (U : ∀ o', Upd l o o' news (upd o')) (hsub : ∀ q ∈ (l, o) :: sub, q ∈ news) (hd : dp + dk < recursionLimit) (hu : un + 8 * dk < cLine)
    (hM : ∀ v, v ∈ vs' → ∃ x t, v = .int x t ∧ 0 ≤ x ∧ x ≤ M)
    (ret : ∀ x t o' h' tk', 0 ≤ x → x ≤ M → Src o' → Fr h₀ L h' m → News h₀ L h' (upd o') → Q (.int x t) { s with heap := h', toks := tk' }) :
    wpAny (model prog w) (ktrTop dp un gd cn cs L a ccd cl outer) (call (.ref f) vs) Q E s :=
  mut_one B F X N T hk C U hsub hd hu fun v o' h' tk' hv hs F' N' => by
    obtain ⟨x, t, rfl, x0, x1⟩ := hM v hv
    exact ret x t o' h' tk' x0 x1 hs F' N'
theorem mut_col {l : Addr} {o : Obj} {upd : Obj → List (Addr × Obj)}
    (B : Below A₀ base outer h₀) (F : Fr h₀ L s.heap m) (X : K.In h₀) (N : News h₀ L s.heap news) (T : Top p loose mean mg mb h₀) (hk : cs.kind = .function)
    (C : Con prog w K p loose mean mg mb f dk ((l, o) :: sub) vs (MutP l o sub ColP))
    (U : ∀ o', Upd l o o' news (upd o')) (hsub : ∀ q ∈ (l, o) :: sub, q ∈ news) (hd : dp + dk < recursionLimit) (hu : un + 8 * dk < cLine)
    (ret : ∀ o' D x y z al t1 t2 t3 t4 n h' tk', Src o' → (0 ≤ x ∧ x ≤ al) → (0 ≤ y ∧ y ≤ al) → (0 ≤ z ∧ z ≤ al) → al ≤ 255 → Fr h₀ L h' m → News h₀ L h' ((D, tup4 x y z al t1 t2 t3 t4 n) :: upd o') → AllNe D (upd o') → Q (.ref D) { s with heap := h', toks := tk' }) :
    wpAny (model prog w) (ktrTop dp un gd cn cs L a ccd cl outer) (call (.ref f) vs) Q E s :=
  con_mut B F X N T hk C U hsub hd hu fun v o' new h' tk' hP F' N' hA => by
    obtain ⟨hs, D, x, y, z, al, t1, t2, t3, t4, n, rfl, rfl, hx, hy, hz, ha⟩ := hP
    exact ret o' D x y z al t1 t2 t3 t4 n h' tk' hs hx hy hz ha F' N' (allNe_of (hA _ (List.Mem.head _)))
end
/-- All of a list stand in another. -/
def AllIn (big : List (Addr × Obj)) : List (Addr × Obj) → Prop
  | [] => True
  | p :: r => p ∈ big ∧ AllIn big r
theorem allIn_of {big : List (Addr × Obj)} : ∀ {l : List (Addr × Obj)}, (∀ p ∈ l, p ∈ big) → AllIn big l
  | [], _ => trivial
  | p :: _, h => ⟨h p (.head _), allIn_of fun q hq => h q (.tail _ hq)⟩
theorem eq_str_cases {prog : Program} {w : World} {A : Around} {E : Value → Shared → Prop} {s : Shared} {x y : Str} {t u : Tok} {Q : Value → Shared → Prop} (h1 : x = y → Q (.bool true) s) (h2 : x ≠ y → Q (.bool false) s) : wpAny (model prog w) A (compareOp .Eq (.str x t) (.str y u)) Q E s := by
  refine eq_str ?_
  by_cases h : x = y
  · rw [beq_iff_eq.mpr h]; exact h1 h
  · rw [beq_false_of_ne h]; exact h2 h
/-- The function of a mode, by its name. -/
def modeF (n : Str) : List (Str × (Int → Int → Int → Int → Int)) → Option (Int → Int → Int → Int → Int)
  | [] => none
  | (k, f) :: r => if n = k then some f else modeF n r
theorem modeF_of {mode : Str} {f : Int → Int → Int → Int → Int} (h : (mode, f) ∈ modeT) : modeF mode modeT = some f := by
  simp only [modeT, List.mem_cons, List.not_mem_nil, or_false, Prod.mk.injEq] at h
  rcases h with ⟨rfl, rfl⟩ | ⟨rfl, rfl⟩ | ⟨rfl, rfl⟩ | ⟨rfl, rfl⟩ | ⟨rfl, rfl⟩ | ⟨rfl, rfl⟩ | ⟨rfl, rfl⟩ | ⟨rfl, rfl⟩ | ⟨rfl, rfl⟩ <;> kernel_rfl
theorem mode_is {mode n : Str} {f g : Int → Int → Int → Int → Int} (h : (mode, f) ∈ modeT) (e : mode = n) (k : modeF n modeT = some g) : f = g := by
  subst e
  exact Option.some.inj ((modeF_of h).symm.trans k)
theorem no_mode {mode : Str} {f : Int → Int → Int → Int → Int} (h : (mode, f) ∈ modeT) (h1 : mode ≠ S "normal") (h2 : mode ≠ S "multiply") (h3 : mode ≠ S "screen") (h4 : mode ≠ S "darken") (h5 : mode ≠ S "lighten") (h6 : mode ≠ S "hard-light")
    (h7 : mode ≠ S "overlay") (h8 : mode ≠ S "difference") (h9 : mode ≠ S "exclusion") : False := by
  simp only [modeT, List.mem_cons, List.not_mem_nil, or_false, Prod.mk.injEq] at h
  rcases h with ⟨h, _⟩ | ⟨h, _⟩ | ⟨h, _⟩ | ⟨h, _⟩ | ⟨h, _⟩ | ⟨h, _⟩ | ⟨h, _⟩ | ⟨h, _⟩ | ⟨h, _⟩ <;> contradiction
end
section

section zip
open PySem.Builtin
variable {prog : Program} {w : World} {A : Around} {E : Value → Shared → Prop} {s : Shared}

abbrev itObj (t : Addr) (i : Nat) : Obj := { cls := .type "tuple_iterator", dict := none, data := .fields #[.ref t, .int i 0], slots := #[] }
abbrev ItAt (h : Heap) (a t : Addr) (i : Nat) : Prop := h.get? a = some (itObj t i)

theorem nextT_item {it t : Addr} {i : Nat} {items : Array Value} {x : Value} {Q : Value → Shared → Prop} (hit : ItAt s.heap it t i) (ht : s.heap.IsTuple t items) (hx : items[i]? = some x)
    (hQ : ∀ h', ItAt h' it t (i + 1) → Heap.SameBut it s.heap h' → Q x { s with heap := h' }) :
    wpAny (model prog w) A (SmallTypes.nextOf (.ref it)) Q E s := by
  obtain ⟨ol, hol, _, nl, hdl⟩ := ht
  have hT : s.TypeIs (.ref it) "tuple_iterator" := ⟨_, hit, rfl⟩
  unfold SmallTypes.nextOf
  refine wpAny_bind (wpAny_callSpecial?_slot (name := Str.ofString "__next__") hT slot_tupleiter_next (wpAny_call_entry slot_tupleiter_next hT entry_tupleiter_next ?_ (args_tupleiter_next _)))
  show wpAny _ _ (field (.ref it) 0 >>= _) _ _ s
  refine wpAny_bind (wpAny_field hit rfl (x := .ref t) rfl ?_)
  show wpAny _ _ (if (Value.ref t == Value.none) = true then _ else _) _ _ s
  rw [if_neg (show ¬ ((Value.ref t == Value.none) = true) from Bool.false_ne_true)]
  show wpAny _ _ (field (.ref it) 1 >>= _) _ _ s
  refine wpAny_bind (wpAny_field hit rfl (x := .int i 0) rfl ?_)
  show wpAny _ _ (seqItems? (.ref t) >>= _) _ _ s
  refine wpAny_bind (wpAny_seqItems hol hdl ?_)
  simp only [Int.toNat_natCast, hx]
  exact wpAny_bind (wpAny_setField_rec hit (by simp) fun h' h1 hs => wpAny_pure ⟨x, rfl, wpAny_pure (hQ h' (show ItAt h' it t (i + 1) from by
    have e : ((i + 1 : Nat) : Int) = (i : Int) + 1 := rfl
    show h'.get? it = some { cls := .type "tuple_iterator", dict := none, data := .fields #[.ref t, .int ((i + 1 : Nat) : Int) 0], slots := #[] }
    rw [e]
    simpa [rawInt] using h1) hs)⟩)

theorem nextT_end {it t : Addr} {i : Nat} {items : Array Value} {Q : Value → Shared → Prop} (hh : A.handled = none) (hit : ItAt s.heap it t i) (ht : s.heap.IsTuple t items) (hx : items[i]? = none)
    (hE : ∀ h' e, Heap.ExtBut it s.heap h' → (∃ o, h'.get? e = some o ∧ o.cls = .type "StopIteration") → E (.ref e) { s with heap := h' }) :
    wpAny (model prog w) A (SmallTypes.nextOf (.ref it)) Q E s := by
  obtain ⟨ol, hol, _, nl, hdl⟩ := ht
  have hT : s.TypeIs (.ref it) "tuple_iterator" := ⟨_, hit, rfl⟩
  unfold SmallTypes.nextOf
  refine wpAny_bind (wpAny_callSpecial?_slot (name := Str.ofString "__next__") hT slot_tupleiter_next (wpAny_call_entry slot_tupleiter_next hT entry_tupleiter_next ?_ (args_tupleiter_next _)))
  show wpAny _ _ (field (.ref it) 0 >>= _) _ _ s
  refine wpAny_bind (wpAny_field hit rfl (x := .ref t) rfl ?_)
  show wpAny _ _ (if (Value.ref t == Value.none) = true then _ else _) _ _ s
  rw [if_neg (show ¬ ((Value.ref t == Value.none) = true) from Bool.false_ne_true)]
  show wpAny _ _ (field (.ref it) 1 >>= _) _ _ s
  refine wpAny_bind (wpAny_field hit rfl (x := .int i 0) rfl ?_)
  show wpAny _ _ (seqItems? (.ref t) >>= _) _ _ s
  refine wpAny_bind (wpAny_seqItems hol hdl ?_)
  simp only [Int.toNat_natCast, hx]
  refine wpAny_bind (wpAny_rule (wpAny_bind (wpAny_setField hit rfl (by simp) ?_)))
  show wpAny _ _ (newExc (.type "StopIteration") [] >>= _) _ _ _
  refine wpAny_bind ?_
  simp only [newExc, newTuple]
  refine wpAny_bind (wpAny_newObj_type ?_ (by size_fits))
  refine wpAny_bind (m := firstArgMember _ _) (wpAny_of_eq (a := Value.none) (by first | rfl | (simp only [firstArgMember]; rfl)) ?_)
  refine wpAny_newObj_type ?_ (by size_fits)
  simp only [raiseNew]
  refine wpAny_bind (wpAny_handled ?_)
  first | rw [show A.in1.handled = none from hh] | rw [hh]
  refine wpAny_bind (wpAny_pure (wpAny_throw ?_))
  exact hE _ _ (((Heap.SameBut.update ..).extBut.push _).push _) ⟨_, Heap.get?_push_size _ rfl, rfl⟩

/-- A zip of two tuples, i items on. -/
structure ZSt (z TI TO i1 i2 t1 t2 : Addr) (xs ys : Array Value) (f : Value) (i : Nat) (h : Heap) : Prop where
  z : IsZip h z TI TO f
  TI : IsPair h TI (.ref i1) (.ref i2)
  TO : ∃ a b, IsPair h TO a b
  i1 : ItAt h i1 t1 i
  i2 : ItAt h i2 t2 i
  t1 : h.IsTuple t1 xs
  t2 : h.IsTuple t2 ys

theorem tuple_at {h h' : Heap} {t : Addr} {xs : Array Value} (x : h.IsTuple t xs) (e : ∀ o, h.get? t = some o → h'.get? t = some o) : h'.IsTuple t xs := let ⟨o, ho, r⟩ := x; ⟨o, e o ho, r⟩

theorem ZSt.keeps {z TI TO i1 i2 t1 t2 : Addr} {xs ys : Array Value} {f : Value} {i : Nat} {h h' : Heap} (Z : ZSt z TI TO i1 i2 t1 t2 xs ys f i h)
    (k : ∀ b ∈ [z, TI, TO, i1, i2, t1, t2], ∀ o, h.get? b = some o → h'.get? b = some o) : ZSt z TI TO i1 i2 t1 t2 xs ys f i h' :=
  ⟨k _ (by simp) _ Z.z, k _ (by simp) _ Z.TI, let ⟨a, b, e⟩ := Z.TO; ⟨a, b, k _ (by simp) _ e⟩, k _ (by simp) _ Z.i1, k _ (by simp) _ Z.i2, tuple_at Z.t1 (k _ (by simp)), tuple_at Z.t2 (k _ (by simp))⟩

theorem zipT_next {z TI TO i1 i2 t1 t2 : Addr} {i : Nat} {xs ys : Array Value} {x y : Value} {Q : Value → Shared → Prop} (D : ZipApart z TI TO i1 i2 t1 t2) (Z : ZSt z TI TO i1 i2 t1 t2 xs ys .none i s.heap)
    (hx : xs[i]? = some x) (hy : ys[i]? = some y)
    (hQ : ∀ h', ZSt z TI TO i1 i2 t1 t2 xs ys (rawInt s.heap.objs.size) (i + 1) h' → IsPair h' s.heap.objs.size x y →
      (∀ c o, c ≠ z → c ≠ TO → c ≠ i1 → c ≠ i2 → s.heap.get? c = some o → h'.get? c = some o) → Q (.ref s.heap.objs.size) { s with heap := h' }) :
    wpAny (model prog w) A (Builtin.«zip.__next__» ⟨[.ref z], []⟩) (fun fin s' => ∃ v, fin = .done (.ret v) ∧ Q v s') E s := by
  obtain ⟨hz, hTI, ⟨a, b, hTO⟩, h1, h2, hl1, hl2⟩ := Z
  show wpAny _ _ (field (.ref z) 2 >>= _) _ _ _
  refine wpAny_bind (wpAny_field hz rfl (x := .bool false) rfl ?_)
  show wpAny _ _ (field (.ref z) 3 >>= _) _ _ _
  refine wpAny_bind (wpAny_field hz rfl (x := .ref TI) rfl ?_)
  refine wpAny_bind (wpAny_seqItems hTI rfl ?_)
  show wpAny _ _ (SmallTypes.ownedTupleIsFree (.ref z) >>= _) _ _ _
  refine wpAny_bind ?_
  unfold SmallTypes.ownedTupleIsFree
  refine wpAny_bind (wpAny_field hz rfl (x := .none) rfl (wpAny_pure ?_))
  simp only [if_true]
  refine wpAny_bind (wpAny_rule ?_)
  refine wpAny_bind (wpAny_field hz rfl (x := .ref TO) rfl ?_)
  refine wpAny_bind (wpAny_setField_rec hz (by simp) fun h₁ hz₁ hs₁ => ?_)
  replace hz₁ : IsZip h₁ z TI TO .ellipsis := hz₁
  refine wpAny_bind ?_
  simp only [List.zipIdx_cons, List.zipIdx_nil, List.forIn_cons, List.forIn_nil]
  refine wpAny_bind (wpAny_bind (wpAny_onRaise ?_))
  show wpAny _ _ (SmallTypes.nextOf (.ref i1) >>= _) _ _ _
  refine wpAny_bind (nextT_item (hs₁.extBut _ _ D.i1z h1) (tuple_at hl1 fun o e => hs₁.extBut _ _ D.l1z e) hx fun h₂ h1₂ hs₂ => wpAny_pure ?_)
  have hTO₂ : IsPair h₂ TO a b := hs₂.extBut _ _ D.TOi1 (hs₁.extBut _ _ D.TOz hTO)
  refine wpAny_bind (wpAny_seqItems hTO₂ rfl ?_)
  refine wpAny_bind (wpAny_updateSeq_pair hTO₂ fun h₃ hTO₃ hs₃ => ?_)
  replace hTO₃ : IsPair h₃ TO x b := hTO₃
  refine wpAny_bind (wpAny_letGo (wpAny_pure ?_))
  refine wpAny_bind (wpAny_bind (wpAny_onRaise ?_))
  show wpAny _ _ (SmallTypes.nextOf (.ref i2) >>= _) _ _ _
  refine wpAny_bind (nextT_item (hs₃.extBut _ _ D.TOi2.symm (hs₂.extBut _ _ D.i12.symm (hs₁.extBut _ _ D.i2z h2)))
    (tuple_at hl2 fun o e => hs₃.extBut _ _ D.l2TO (hs₂.extBut _ _ D.l2i1 (hs₁.extBut _ _ D.l2z e))) hy fun h₄ h2₄ hs₄ => wpAny_pure ?_)
  have hTO₄ : IsPair h₄ TO x b := hs₄.extBut _ _ D.TOi2 hTO₃
  refine wpAny_bind (wpAny_seqItems hTO₄ rfl ?_)
  refine wpAny_bind (wpAny_updateSeq_pair hTO₄ fun h₅ hTO₅ hs₅ => ?_)
  replace hTO₅ : IsPair h₅ TO x y := hTO₅
  refine wpAny_bind (wpAny_letGo (wpAny_pure (wpAny_pure ?_)))
  refine wpAny_bind (wpAny_seqItems hTO₅ rfl ?_)
  refine wpAny_bind (wpAny_newTuple ?_)
  have hsz : h₅.objs.size = s.heap.objs.size := by rw [hs₅.1, hs₄.1, hs₃.1, hs₂.1, hs₁.1]
  have hz₅ : IsZip h₅ z TI TO .ellipsis := hs₅.extBut _ _ D.TOz.symm (hs₄.extBut _ _ D.i2z.symm (hs₃.extBut _ _ D.TOz.symm (hs₂.extBut _ _ D.i1z.symm hz₁)))
  have hk₅ : ∀ c o, c ≠ z → c ≠ TO → c ≠ i1 → c ≠ i2 → s.heap.get? c = some o → h₅.get? c = some o := fun c o c1 c2 c3 c4 e =>
    hs₅.extBut _ _ c2 (hs₄.extBut _ _ c4 (hs₃.extBut _ _ c2 (hs₂.extBut _ _ c3 (hs₁.extBut _ _ c1 e))))
  have h1₅ : ItAt h₅ i1 t1 (i + 1) := hs₅.extBut _ _ D.TOi1.symm (hs₄.extBut _ _ D.i12 (hs₃.extBut _ _ D.TOi1.symm h1₂))
  have h2₅ : ItAt h₅ i2 t2 (i + 1) := hs₅.extBut _ _ D.TOi2.symm h2₄
  have hzlt : z < h₅.objs.size := Heap.lt_size hz₅
  show wpAny _ _ (SmallTypes.ownedTupleHandOut (.ref z) (.ref h₅.objs.size) >>= _) _ _ _
  refine wpAny_bind ?_
  unfold SmallTypes.ownedTupleHandOut
  have hz₆ : IsZip (h₅.push { cls := .type "tuple", data := .seq #[x, y] }) z TI TO .ellipsis := Heap.get?_push_of_some _ hz₅
  refine wpAny_bind (wpAny_setField_rec hz₆ (by simp) fun h₇ hz₇ hs₇ => ?_)
  replace hz₇ : IsZip h₇ z TI TO (rawInt h₅.objs.size) := hz₇
  refine wpAny_setField_rec hz₇ (by simp) fun h₈ hz₈ hs₈ => ?_
  replace hz₈ : IsZip h₈ z TI TO (rawInt h₅.objs.size) := hz₈
  have up : ∀ c o, c ≠ z → h₅.get? c = some o → h₈.get? c = some o := fun c o c1 e => hs₈.extBut _ _ c1 (hs₇.extBut _ _ c1 (Heap.get?_push_of_some _ e))
  have hT₈ : IsPair h₈ h₅.objs.size x y := hs₈.extBut _ _ (Nat.ne_of_gt hzlt) (hs₇.extBut _ _ (Nat.ne_of_gt hzlt) (Heap.get?_push_size _ rfl))
  rw [hsz] at hz₈ hT₈
  refine wpAny_pure ⟨_, rfl, ?_⟩
  show Q (.ref h₅.objs.size) _
  rw [hsz]
  exact hQ h₈ ⟨hz₈, up _ _ D.TIz (hk₅ _ _ D.TIz D.TITO D.TIi1 D.TIi2 hTI), ⟨_, _, up _ _ D.TOz hTO₅⟩, up _ _ D.i1z h1₅, up _ _ D.i2z h2₅,
    tuple_at hl1 fun o e => up _ _ D.l1z (hk₅ _ _ D.l1z D.l1TO D.l1i1 D.l1i2 e), tuple_at hl2 fun o e => up _ _ D.l2z (hk₅ _ _ D.l2z D.l2TO D.l2i1 D.l2i2 e)⟩
    hT₈ fun c o c1 c2 c3 c4 e => up c o c1 (hk₅ c o c1 c2 c3 c4 e)

theorem zipT_stop {z TI TO i1 i2 t1 t2 : Addr} {i : Nat} {xs ys : Array Value} {Q : Fin → Shared → Prop} (hh : A.handled = none) (D : ZipApart z TI TO i1 i2 t1 t2) (Z : ZSt z TI TO i1 i2 t1 t2 xs ys .none i s.heap)
    (hx : xs[i]? = none)
    (hE : ∀ h' e, (∀ c o, c ≠ z → c ≠ TO → c ≠ i1 → c ≠ i2 → s.heap.get? c = some o → h'.get? c = some o) → (∃ o, h'.get? e = some o ∧ o.cls = .type "StopIteration") → E (.ref e) { s with heap := h' }) :
    wpAny (model prog w) A (Builtin.«zip.__next__» ⟨[.ref z], []⟩) Q E s := by
  obtain ⟨hz, hTI, ⟨a, b, hTO⟩, h1, h2, hl1, hl2⟩ := Z
  show wpAny _ _ (field (.ref z) 2 >>= _) _ _ _
  refine wpAny_bind (wpAny_field hz rfl (x := .bool false) rfl ?_)
  show wpAny _ _ (field (.ref z) 3 >>= _) _ _ _
  refine wpAny_bind (wpAny_field hz rfl (x := .ref TI) rfl ?_)
  refine wpAny_bind (wpAny_seqItems hTI rfl ?_)
  show wpAny _ _ (SmallTypes.ownedTupleIsFree (.ref z) >>= _) _ _ _
  refine wpAny_bind ?_
  unfold SmallTypes.ownedTupleIsFree
  refine wpAny_bind (wpAny_field hz rfl (x := .none) rfl (wpAny_pure ?_))
  simp only [if_true]
  refine wpAny_bind (wpAny_rule ?_)
  refine wpAny_bind (wpAny_field hz rfl (x := .ref TO) rfl ?_)
  refine wpAny_bind (wpAny_setField_rec hz (by simp) fun h₁ hz₁ hs₁ => ?_)
  replace hz₁ : IsZip h₁ z TI TO .ellipsis := hz₁
  refine wpAny_bind ?_
  simp only [List.zipIdx_cons, List.zipIdx_nil, List.forIn_cons, List.forIn_nil]
  refine wpAny_bind (wpAny_bind (wpAny_onRaise ?_))
  show wpAny _ _ (SmallTypes.nextOf (.ref i1) >>= _) _ _ _
  refine wpAny_bind (nextT_end hh (hs₁.extBut _ _ D.i1z h1) (tuple_at hl1 fun o e => hs₁.extBut _ _ D.l1z e) hx fun h₂ e hs₂ he => ?_)
  obtain ⟨oe, hoe, hce⟩ := he
  have hz₂ : IsZip h₂ z TI TO .ellipsis := hs₂ _ _ D.i1z.symm hz₁
  have hez : e ≠ z := fun x => by subst x; rw [hz₂] at hoe; cases hoe; simp at hce
  refine wpAny_setField_rec hz₂ (by simp) fun h₃ _ hs₃ => hE h₃ e (fun c o c1 _ c3 _ x => hs₃.extBut _ _ c1 (hs₂ _ _ c3 (hs₁.extBut _ _ c1 x))) ⟨oe, hs₃.extBut _ _ hez hoe, hce⟩

theorem zipT_pyNext {z TI TO i1 i2 t1 t2 : Addr} {i : Nat} {xs ys : Array Value} {x y : Value} {Q : Option Value → Shared → Prop} (D : ZipApart z TI TO i1 i2 t1 t2) (Z : ZSt z TI TO i1 i2 t1 t2 xs ys .none i s.heap)
    (hx : xs[i]? = some x) (hy : ys[i]? = some y)
    (hQ : ∀ h', ZSt z TI TO i1 i2 t1 t2 xs ys (rawInt s.heap.objs.size) (i + 1) h' → IsPair h' s.heap.objs.size x y →
      (∀ c o, c ≠ z → c ≠ TO → c ≠ i1 → c ≠ i2 → s.heap.get? c = some o → h'.get? c = some o) → Q (some (.ref s.heap.objs.size)) { s with heap := h' }) :
    wpAny (model prog w) A (pyNext (.ref z)) Q E s := by
  have hT : s.TypeIs (.ref z) "zip" := ⟨_, Z.z, rfl⟩
  unfold pyNext
  exact wpAny_bind (wpAny_attempt (wpAny_callSpecial?_slot (name := Str.ofString "__next__") hT F.slot_zip_next
    (wpAny_call_entry F.slot_zip_next hT F.entry_zip_next (zipT_next D Z hx hy fun h' a1 a2 a3 => wpAny_pure (hQ h' a1 a2 a3)) (F.args_zip_next_1 _))))

theorem zipT_pyStop {z TI TO i1 i2 t1 t2 : Addr} {i : Nat} {xs ys : Array Value} {Q : Option Value → Shared → Prop} (hh : A.handled = none) (D : ZipApart z TI TO i1 i2 t1 t2) (Z : ZSt z TI TO i1 i2 t1 t2 xs ys .none i s.heap) (hx : xs[i]? = none)
    (hQ : ∀ h', (∀ c o, c ≠ z → c ≠ TO → c ≠ i1 → c ≠ i2 → s.heap.get? c = some o → h'.get? c = some o) → Q none { s with heap := h' }) : wpAny (model prog w) A (pyNext (.ref z)) Q E s := by
  have hT : s.TypeIs (.ref z) "zip" := ⟨_, Z.z, rfl⟩
  unfold pyNext
  refine wpAny_bind (wpAny_attempt (wpAny_callSpecial?_slot (name := Str.ofString "__next__") hT F.slot_zip_next
    (wpAny_call_entry F.slot_zip_next hT F.entry_zip_next (zipT_stop hh D Z hx fun h' e hk he => ?_) (F.args_zip_next_1 _))))
  obtain ⟨o, ho, hc⟩ := he
  refine wpAny_bind (wpAny_isInstance (T := "StopIteration") (b := true) ⟨o, ho, hc⟩ isSubtype_stop ?_)
  exact wpAny_pure (hQ _ hk)

abbrev zT1 (h : Heap) (t1 : Addr) : Heap := h.push { cls := .type "tuple_iterator", data := .fields #[.ref t1, .int 0 0] }
abbrev zT2 (h : Heap) (t1 t2 : Addr) : Heap := (zT1 h t1).push { cls := .type "tuple_iterator", data := .fields #[.ref t2, .int 0 0] }
abbrev zT3 (h : Heap) (t1 t2 : Addr) : Heap := (zT2 h t1 t2).push { cls := .type "tuple", data := .seq #[.ref h.objs.size, .ref (zT1 h t1).objs.size] }
abbrev zT4 (h : Heap) (t1 t2 : Addr) : Heap := (zT3 h t1 t2).push { cls := .type "tuple", data := .seq #[.none, .none] }
abbrev zT5 (h : Heap) (t1 t2 : Addr) : Heap := (zT4 h t1 t2).push { cls := .type "zip", data := .fields #[.none, .bool false, .bool false, .ref (zT2 h t1 t2).objs.size, .ref (zT3 h t1 t2).objs.size] }

theorem meets_zipT (t1 t2 : Addr) (xs ys : Array Value) :
    Meets (Builtin.«zip.__new__» ⟨[.type "zip", .ref t1, .ref t2], []⟩) (fun _ R s => s.heap.IsTuple t1 xs ∧ s.heap.IsTuple t2 ys ∧
      R (.ok (.ret (.ref (zT4 s.heap t1 t2).objs.size))) { s with heap := zT5 s.heap t1 t2 }) :=
  .of_wp fun prog w A R s h => by
    obtain ⟨hp, g, d, tk, os⟩ := s; obtain ⟨hl1, hl2, h⟩ := h
    have hsub := sub_zip
    have hL1 : Heap.IsTuple (Shared.heap ⟨hp, g, d, tk, os⟩) t1 xs := hl1
    have hL2 : Heap.IsTuple (Shared.heap ⟨hp.push { cls := .type "tuple_iterator", data := .fields #[.ref t1, .int 0 0] }, g, d, tk, os⟩) t2 ys := tuple_at hl2 fun o e => Heap.get?_push_of_some _ e
    wp_walk using wpAny_pyIter_tuple hL1, wpAny_pyIter_tuple hL2
    exact ⟨_, rfl, h⟩

theorem call_zipT {t1 t2 : Addr} {xs ys : Array Value} {Q : Value → Shared → Prop} (hl1 : s.heap.IsTuple t1 xs) (hl2 : s.heap.IsTuple t2 ys)
    (h : ∀ h', ZSt (s.heap.objs.size + 4) (s.heap.objs.size + 2) (s.heap.objs.size + 3) s.heap.objs.size (s.heap.objs.size + 1) t1 t2 xs ys .none 0 h' → h'.objs.size = s.heap.objs.size + 5 →
      (∀ c o, s.heap.get? c = some o → h'.get? c = some o) → Q (.ref (s.heap.objs.size + 4)) { s with heap := h' }) :
    wpAny (model prog w) A (call (.type "zip") [.ref t1, .ref t2]) Q E s := by
  refine callType_new F.called_zip (by decide) (F.typeCall_zip_2 _ _) (F.newCall_zip_2 _ _) (fun obj => F.args_object_init_3 obj _ _) F.entry_zip_new
    (meets_zipT t1 t2 xs ys) ⟨hl1, hl2, ?_⟩
  have z1 : (zT1 s.heap t1).objs.size = s.heap.objs.size + 1 := Heap.size_push ..
  have z2 : (zT2 s.heap t1 t2).objs.size = s.heap.objs.size + 2 := by rw [Heap.size_push, z1]
  have z3 : (zT3 s.heap t1 t2).objs.size = s.heap.objs.size + 3 := by rw [Heap.size_push, z2]
  have z4 : (zT4 s.heap t1 t2).objs.size = s.heap.objs.size + 4 := by rw [Heap.size_push, z3]
  have z5 : (zT5 s.heap t1 t2).objs.size = s.heap.objs.size + 5 := by rw [Heap.size_push, z4]
  have up : ∀ c o, s.heap.get? c = some o → (zT5 s.heap t1 t2).get? c = some o := fun c o x =>
    Heap.get?_push_of_some _ (Heap.get?_push_of_some _ (Heap.get?_push_of_some _ (Heap.get?_push_of_some _ (Heap.get?_push_of_some _ x))))
  have g5 : (zT5 s.heap t1 t2).get? (zT4 s.heap t1 t2).objs.size = some _ := Heap.get?_push_size _ rfl
  have g4 : (zT5 s.heap t1 t2).get? (zT3 s.heap t1 t2).objs.size = some _ := Heap.get?_push_of_some _ (Heap.get?_push_size _ rfl)
  have g3 : (zT5 s.heap t1 t2).get? (zT2 s.heap t1 t2).objs.size = some _ := Heap.get?_push_of_some _ (Heap.get?_push_of_some _ (Heap.get?_push_size _ rfl))
  have g2 : (zT5 s.heap t1 t2).get? (zT1 s.heap t1).objs.size = some _ := Heap.get?_push_of_some _ (Heap.get?_push_of_some _ (Heap.get?_push_of_some _ (Heap.get?_push_size _ rfl)))
  have g1 : (zT5 s.heap t1 t2).get? s.heap.objs.size = some _ := Heap.get?_push_of_some _ (Heap.get?_push_of_some _ (Heap.get?_push_of_some _ (Heap.get?_push_of_some _ (Heap.get?_push_size _ rfl))))
  show _ ∧ _
  rw [z2, z3, z4] at g5
  rw [z1, z2] at g3
  rw [z3] at g4
  rw [z1] at g2
  rw [z4]
  exact ⟨⟨_, g5, rfl⟩, h _ ⟨g5, g3, ⟨_, _, g4⟩, g1, g2, tuple_at hl1 fun o e => up _ o e, tuple_at hl2 fun o e => up _ o e⟩ z5 up⟩
end zip
end
section

section zip2
open PyProof.Rows.LCg PySem.Spec
variable {prog : Program} {w : World} {A : Around} {E : Value → Shared → Prop} {s : Shared} {h₀ : Heap} {L : Addr} {m : Str → Option Value} {env : Env}

/-- The element of a comprehension over a zip: it reads, and gives one value. -/
def EltOk (prog : Program) (w : World) (A : Around) (h₀ : Heap) (L : Addr) (m : Str → Option Value) (env : Env) (elt : Expr) (a b : Str) (scope : Scope) (cl : List (Str × Addr)) (s : Shared) (xs ys : List Value) (news : List (Addr × Obj)) (R : Nat → Value → Prop) : Prop :=
  ∀ (i : Nat) (x y : Value) (C : Addr) (oC : Obj) (m₂ : Str → Option Value) (big : List (Addr × Obj)) (h : Heap) (tk : Nat) (Q' E' : Value → Shared → Prop),
    xs[i]? = some x → ys[i]? = some y → NsObj oC m₂ → m₂ a = some x → m₂ b = some y → (C, oC) ∈ big → (∀ q ∈ news, q ∈ big) → Fr h₀ L h m → News h₀ L h big →
    (∀ v h' tk', R i v → Fr h₀ L h' m → News h₀ L h' big → Q' v { s with heap := h', toks := tk' }) →
    wpAny (model prog w) A (eval elt (compEnvC scope cl C env)) Q' E' { s with heap := h, toks := tk }

theorem zip_block {elt iter : Expr} {a b : Str} {pa pb tp : Pos} {kk : Nat} {scope : Scope} {cl : List (Str × Addr)} {pos : Pos} {s₂ : Shared} {z TI TO i1 i2 t1 t2 : Addr} {n1 n2 : Nat} {xs ys : List Value} {news : List (Addr × Obj)} {R : Nat → Value → Prop} {RR : Value → Addr → Result → Shared → Prop}
    (hh : A.handled = none) (D₀ : ZipApart z TI TO i1 i2 t1 t2) (Z : ZSt z TI TO i1 i2 t1 t2 xs.toArray ys.toArray .none 0 s₂.heap) (hlen : xs.length = ys.length) (hsz : xs.length ≤ sizeLine)
    (ht1 : (t1, ({ cls := .type "tuple", data := .seq xs.toArray n1 } : Obj)) ∈ news) (ht2 : (t2, ({ cls := .type "tuple", data := .seq ys.toArray n2 } : Obj)) ∈ news)
    (hcell : ∀ y ∈ scope.names, y.2 ≠ .cell) (hkind : scope.kind = .function) (hxa : scope.names.lookup a = some .local) (hxb : scope.names.lookup b = some .local)
    (F : Fr h₀ L s₂.heap m) (N : News h₀ L s₂.heap news) (hw : ∀ c ∈ [z, TI, TO, i1, i2], c ≠ L ∧ h₀.get? c = none ∧ ∀ p ∈ news, p.1 ≠ c)
    (elts : EltOk prog w A h₀ L m env elt a b scope cl s₂ xs ys news R) (hab : ¬ a = b)
    (hRR : ∀ D C h tk m' vs, Fr h₀ L h m → News h₀ L h ((D, lst vs) :: news) → (∀ p ∈ news, p.1 ≠ D) → h.Ns C m' → h₀.get? C = none → C ≠ L → C ≠ D → (∀ p ∈ news, p.1 ≠ C) → vs.length = xs.length → (∀ j v, vs[j]? = some v → R j v) → RR (.ref D) C (.ok .next) { s₂ with heap := h, toks := tk }) :
    wpAny (model prog w) A (newList []) (fun acc s₃ => wpAny (model prog w) A (newFunctionEnv scope env.globals cl [] env.qual none .none (some env)) (fun cenv s₄ =>
      codeAny (model prog w) A (.compStart (.ListComp elt [⟨.Tuple [.Name a pa, .Name b pb] kk tp, iter, [], 0⟩] scope pos) 0 (.ref z) acc { cenv with scope := relabel scope env }) (RR acc cenv.locals) s₄) E s₃) E s₂ := by
  refine wpAny_newObj_type (wpAny_newFunctionEnv hcell (by intro y hy; simp at hy) (fun h₁ hns₁ hsb₁ => ?_) hkind)
  dsimp only at hns₁ hsb₁ ⊢
  generalize hH2 : s₂.heap.push { cls := .type "list", dict := none, data := .seq ([] : List Value).toArray } = H2 at hns₁ hsb₁ ⊢
  generalize hDe : s₂.heap.objs.size = D at *
  have hC : H2.objs.size = D + 1 := by rw [← hH2, Heap.size_push, hDe]
  have hDC : D ≠ H2.objs.size := by rw [hC]; exact Nat.ne_of_lt (Nat.lt_succ_self _)
  have below : ∀ c, c < D → c ≠ H2.objs.size ∧ c ≠ D := fun c hc => ⟨by rw [hC]; exact Nat.ne_of_lt (Nat.lt_succ_of_lt hc), Nat.ne_of_lt hc⟩
  have old : ∀ c o, s₂.heap.get? c = some o → h₁.get? c = some o := fun c o e => hsb₁.extBut c o (below c (hDe ▸ Heap.lt_size e)).1 (Heap.get?_push_of_some _ (hH2 ▸ Heap.get?_push_of_some _ e))
  have hacc : h₁.get? D = some (lst []) := hsb₁.extBut _ _ hDC (Heap.get?_push_of_some _ (by rw [← hH2, ← hDe]; exact Heap.get?_push_size _ rfl))
  have fresh : ∀ c, D ≤ c → s₂.heap.get? c = none := fun c hc => by
    cases e : s₂.heap.get? c with
    | none => rfl
    | some o' => exact absurd (hDe ▸ Heap.lt_size e) (Nat.not_lt.mpr hc)
  have fresh₀ : ∀ c, D ≤ c → h₀.get? c = none := fun c hc => by
    cases e : h₀.get? c with
    | none => rfl
    | some o' => have := F.keep c o' e; rw [fresh c hc] at this; cases this
  have hD₀ : h₀.get? D = none := fresh₀ _ (Nat.le_refl _)
  have hC₀ : h₀.get? H2.objs.size = none := fresh₀ _ (by rw [hC]; exact Nat.le_succ _)
  have hLlt : L < D := hDe ▸ F.ns.lt
  have hDL : D ≠ L := Ne.symm (below L hLlt).2
  have hCL : H2.objs.size ≠ L := Ne.symm (below L hLlt).1
  have zlt : ∀ c ∈ [z, TI, TO, i1, i2, t1, t2], c < D := by
    have l1 := Heap.lt_size Z.z
    have l2 := Heap.lt_size Z.TI
    obtain ⟨_, _, e3⟩ := Z.TO
    have l3 := Heap.lt_size e3
    have l4 := Heap.lt_size Z.i1
    have l5 := Heap.lt_size Z.i2
    obtain ⟨_, e6, _⟩ := Z.t1
    have l6 := Heap.lt_size e6
    obtain ⟨_, e7, _⟩ := Z.t2
    have l7 := Heap.lt_size e7
    rw [hDe] at l1 l2 l3 l4 l5 l6 l7
    intro c hc
    simp only [List.mem_cons, List.not_mem_nil, or_false] at hc
    rcases hc with rfl | rfl | rfl | rfl | rfl | rfl | rfl <;> assumption
  have nlt : ∀ p ∈ news, p.1 < D := fun p hp => hDe ▸ Heap.lt_size (N p hp).1
  generalize hCe : H2.objs.size = C at *
  have hwz := hw z (by simp)
  have hwTI := hw TI (by simp)
  have hwTO := hw TO (by simp)
  have hw1 := hw i1 (by simp)
  have hw2 := hw i2 (by simp)
  have loop : ∀ s₃ : Shared, s₃ = { s₂ with heap := h₁, toks := s₂.toks + ([] : List (Str × Value)).length } →
      codeAny (model prog w) A (.compLoop (.ListComp elt [⟨.Tuple [.Name a pa, .Name b pb] kk tp, iter, [], 0⟩] scope pos) 0 (.ref z) (.ref D) (compEnvC scope cl C env)) (RR (.ref D) C) s₃ := by
    rintro s₃ rfl
    refine kcp_loop
      (fun k s' => ∃ h' tk i vs m', s' = { s₂ with heap := h', toks := tk } ∧ i ≤ xs.length ∧ k = xs.length + 1 - i ∧ vs.length = i ∧ ZSt z TI TO i1 i2 t1 t2 xs.toArray ys.toArray .none i h' ∧ Fr h₀ L h' m ∧ h'.Ns C m' ∧
        News h₀ L h' ((D, lst vs) :: news) ∧ ∀ j v, vs[j]? = some v → R j v) ?_ (xs.length + 1)
      ⟨h₁, _, 0, [], _, rfl, Nat.zero_le _, rfl, rfl, Z.keeps fun c _ o e => old c o e, F.keeps old, hns₁, fun p hp => ?_, fun j v e => by simp at e⟩
    · rintro k s' ⟨h', tk, i, vs, m', rfl, hi, rfl, hvl, Z', F', hn', N', hR⟩
      by_cases hlt : i < xs.length
      · have hlt2 : i < ys.length := hlen ▸ hlt
        have hx : xs[i]? = some xs[i] := List.getElem?_eq_getElem hlt
        have hy : ys[i]? = some ys[i] := List.getElem?_eq_getElem hlt2
        refine zipT_pyNext (x := xs[i]) (y := ys[i]) D₀ Z' (by rw [List.getElem?_toArray]; exact hx) (by rw [List.getElem?_toArray]; exact hy) fun h₂ Z₂ hT hk₂ => ?_
        have hTz : h'.objs.size ≠ z := Nat.ne_of_gt (Heap.lt_size Z'.z)
        refine wpAny_letOwnedTupleGo_zip Z₂.z fun h₃ hz₃ hs₃ => ?_
        have Z₃ : ZSt z TI TO i1 i2 t1 t2 xs.toArray ys.toArray .none (i + 1) h₃ :=
          ⟨hz₃, hs₃.extBut _ _ D₀.TIz Z₂.TI, (let ⟨u, v, e⟩ := Z₂.TO; ⟨u, v, hs₃.extBut _ _ D₀.TOz e⟩), hs₃.extBut _ _ D₀.i1z Z₂.i1, hs₃.extBut _ _ D₀.i2z Z₂.i2, tuple_at Z₂.t1 fun o e => hs₃.extBut _ _ D₀.l1z e, tuple_at Z₂.t2 fun o e => hs₃.extBut _ _ D₀.l2z e⟩
        have hT₃ : h₃.IsTuple h'.objs.size #[xs[i], ys[i]] := ⟨_, hs₃.extBut _ _ hTz hT, rfl, _, rfl⟩
        have up₃ : ∀ c o, c ≠ z → c ≠ TO → c ≠ i1 → c ≠ i2 → h'.get? c = some o → h₃.get? c = some o := fun c o c1 c2 c3 c4 e => hs₃.extBut _ _ c1 (hk₂ c o c1 c2 c3 c4 e)
        have cne : ∀ c ∈ [z, TI, TO, i1, i2, t1, t2], c ≠ C := fun c hc => (below c (zlt c hc)).1
        have dne : ∀ c ∈ [z, TI, TO, i1, i2, t1, t2], c ≠ D := fun c hc => (below c (zlt c hc)).2
        have czs : C ≠ z ∧ C ≠ TO ∧ C ≠ i1 ∧ C ≠ i2 := ⟨(cne z (by simp)).symm, (cne TO (by simp)).symm, (cne i1 (by simp)).symm, (cne i2 (by simp)).symm⟩
        refine kcp_assign (env := compEnvC scope cl C env) hh hT₃ (lookup_relabel_local hxa) (lookup_relabel_local hxb) (by simp [compEnvC, relabel, hkind]) (hn'.at' fun o e => up₃ _ o czs.1 czs.2.1 czs.2.2.1 czs.2.2.2 e) fun h₄ tk₄ hn₄ hs₄ => ?_
        have Z₄ : ZSt z TI TO i1 i2 t1 t2 xs.toArray ys.toArray .none (i + 1) h₄ := Z₃.keeps fun c hc o e => hs₄ c o (cne c hc) e
        have up : ∀ c o, c ≠ z → c ≠ TO → c ≠ i1 → c ≠ i2 → c ≠ C → h'.get? c = some o → h₄.get? c = some o := fun c o c1 c2 c3 c4 c5 e => hs₄ c o c5 (up₃ c o c1 c2 c3 c4 e)
        have F₄ : Fr h₀ L h₄ m := ⟨F'.ns.at' fun o e => up _ o hwz.1.symm hwTO.1.symm hw1.1.symm hw2.1.symm hCL.symm e, fun c o e => up c o (fun q => by rw [q, hwz.2.1] at e; cases e) (fun q => by rw [q, hwTO.2.1] at e; cases e)
          (fun q => by rw [q, hw1.2.1] at e; cases e) (fun q => by rw [q, hw2.2.1] at e; cases e) (fun q => by rw [q, hC₀] at e; cases e) (F'.keep c o e), F'.above⟩
        obtain ⟨oC, heC, hoC⟩ := ns_obj hn₄
        obtain ⟨u, v, hTO₄⟩ := Z₄.TO
        have Nn : ∀ p ∈ (D, lst vs) :: news, h₄.get? p.1 = some p.2 ∧ p.1 ≠ L ∧ h₀.get? p.1 = none := fun p hp => by
          have q := N' p hp
          refine ⟨up _ _ ?_ ?_ ?_ ?_ ?_ q.1, q.2⟩ <;> rcases List.mem_cons.mp hp with rfl | hp
          · exact (dne z (by simp)).symm
          · exact hwz.2.2 p hp
          · exact (dne TO (by simp)).symm
          · exact hwTO.2.2 p hp
          · exact (dne i1 (by simp)).symm
          · exact hw1.2.2 p hp
          · exact (dne i2 (by simp)).symm
          · exact hw2.2.2 p hp
          · exact hDC
          · exact (below _ (nlt p hp)).1
        have N₄ : News h₀ L h₄ ((z, _) :: (TI, _) :: (TO, _) :: (i1, _) :: (i2, _) :: (C, oC) :: (D, lst vs) :: news) := fun p hp => by
          rcases List.mem_cons.mp hp with rfl | hp
          · exact ⟨Z₄.z, hwz.1, hwz.2.1⟩
          rcases List.mem_cons.mp hp with rfl | hp
          · exact ⟨Z₄.TI, hwTI.1, hwTI.2.1⟩
          rcases List.mem_cons.mp hp with rfl | hp
          · exact ⟨hTO₄, hwTO.1, hwTO.2.1⟩
          rcases List.mem_cons.mp hp with rfl | hp
          · exact ⟨Z₄.i1, hw1.1, hw1.2.1⟩
          rcases List.mem_cons.mp hp with rfl | hp
          · exact ⟨Z₄.i2, hw2.1, hw2.2.1⟩
          rcases List.mem_cons.mp hp with rfl | hp
          · exact ⟨heC, hCL, hC₀⟩
          · exact Nn p hp
        refine elts i _ _ C oC _ _ h₄ tk₄ _ _ hx hy hoC (by simp [hab]) (by simp) (by simp) (fun q hq => by simp [hq]) F₄ N₄ fun y h₅ tk₅ hy₅ F₅ N₅ => ?_
        have g5 : ∀ p ∈ (D, lst vs) :: news, h₅.get? p.1 = some p.2 := fun p hp => (N₅ p (List.mem_cons_of_mem _ (List.mem_cons_of_mem _ (List.mem_cons_of_mem _ (List.mem_cons_of_mem _ (List.mem_cons_of_mem _ (List.mem_cons_of_mem _ hp))))))).1
        have Z₅ : ZSt z TI TO i1 i2 t1 t2 xs.toArray ys.toArray .none (i + 1) h₅ :=
          ⟨(N₅ _ (.head _)).1, (N₅ _ (.tail _ (.head _))).1, ⟨u, v, (N₅ _ (.tail _ (.tail _ (.head _)))).1⟩, (N₅ _ (.tail _ (.tail _ (.tail _ (.head _))))).1, (N₅ _ (.tail _ (.tail _ (.tail _ (.tail _ (.head _)))))).1,
            ⟨_, g5 _ (.tail _ ht1), rfl, _, rfl⟩, ⟨_, g5 _ (.tail _ ht2), rfl, _, rfl⟩⟩
        have zC := (N₅ (C, oC) (.tail _ (.tail _ (.tail _ (.tail _ (.tail _ (.head _))))))).1
        refine append_at (hsz := by show vs.toArray.size ≤ sizeLine; rw [List.size_toArray, hvl]; exact Nat.le_trans hi hsz) (g5 _ (.head _)) fun h₆ hs₆ hD₆ => ?_
        refine ⟨xs.length + 1 - (i + 1), by omega, h₆, tk₅, i + 1, vs ++ [y], _, rfl, hlt, rfl, by rw [List.length_append, List.length_singleton, hvl], Z₅.keeps fun c hc o e => hs₆.extBut _ _ (dne c hc) e, F₅.change hs₆ hDL hD₀,
          (hoC.ns zC).sameBut hs₆ (Ne.symm hDC), fun p hp => ?_, fun j v' e => ?_⟩
        · rcases List.mem_cons.mp hp with rfl | hp
          · exact ⟨hD₆.trans (congrArg some (lst_snoc vs y)), hDL, hD₀⟩
          · exact ⟨hs₆.extBut _ _ (below _ (nlt p hp)).2 (g5 p (.tail _ hp)), (N p hp).2⟩
        · by_cases hj : j < vs.length
          · rw [List.getElem?_append_left hj] at e
            exact hR j v' e
          · rw [List.getElem?_append_right (Nat.not_lt.mp hj)] at e
            have hj0 : j - vs.length = 0 := by
              cases hq : j - vs.length with
              | zero => rfl
              | succ q => rw [hq] at e; simp at e
            have hji : j = i := by omega
            rw [hj0] at e
            simp only [List.getElem?_cons_zero, Option.some.injEq] at e
            rw [hji, ← e]
            exact hy₅
      · have hin : i = xs.length := Nat.le_antisymm hi (Nat.not_lt.mp hlt)
        refine zipT_pyStop hh D₀ Z' (by rw [hin]; simp) fun h₂ hk₂ => ?_
        refine hRR _ _ h₂ tk _ vs ⟨F'.ns.at' fun o e => hk₂ _ o hwz.1.symm hwTO.1.symm hw1.1.symm hw2.1.symm e, fun c o e => hk₂ c o (fun q => by rw [q, hwz.2.1] at e; cases e) (fun q => by rw [q, hwTO.2.1] at e; cases e)
          (fun q => by rw [q, hw1.2.1] at e; cases e) (fun q => by rw [q, hw2.2.1] at e; cases e) (F'.keep c o e), F'.above⟩ (fun p hp => ?_) (fun p hp => (below _ (nlt p hp)).2)
          (hn'.at' fun o e => hk₂ _ o (below z (zlt z (by simp))).1.symm (below TO (zlt TO (by simp))).1.symm (below i1 (zlt i1 (by simp))).1.symm (below i2 (zlt i2 (by simp))).1.symm e) hC₀ hCL hDC.symm (fun p hp => (below _ (nlt p hp)).1) (by rw [hvl, hin]) hR
        have q := N' p hp
        refine ⟨hk₂ _ _ ?_ ?_ ?_ ?_ q.1, q.2⟩ <;> rcases List.mem_cons.mp hp with rfl | hp
        · exact (below z (zlt z (by simp))).2.symm
        · exact hwz.2.2 p hp
        · exact (below TO (zlt TO (by simp))).2.symm
        · exact hwTO.2.2 p hp
        · exact (below i1 (zlt i1 (by simp))).2.symm
        · exact hw1.2.2 p hp
        · exact (below i2 (zlt i2 (by simp))).2.symm
        · exact hw2.2.2 p hp
    · rcases List.mem_cons.mp hp with rfl | hp
      · exact ⟨hacc, hDL, hD₀⟩
      · exact ⟨old _ _ (N p hp).1, (N p hp).2⟩
  refine codeAny_compStart_list ?_ ?_
  · exact loop _ rfl
  · exact wpAny_pyIter_zip (Z.keeps fun c _ o e => old c o e).z (loop _ rfl)
end zip2
end
section

section zip3
open PyProof.Rows.LCg PySem.Spec
variable {prog : Program} {w : World} {A : Around} {E : Value → Shared → Prop} {s : Shared} {h₀ : Heap} {L : Addr} {m : Str → Option Value} {env : Env}

def ZSrc (prog : Program) (w : World) (A : Around) (h₀ : Heap) (L : Addr) (m : Str → Option Value) (env : Env) (elt : Expr) (a b : Str) (scope : Scope) (cl : List (Str × Addr)) (Q : Value → Shared → Prop) (xv : Value) (s₁ : Shared) : Prop :=
  ∃ (z TI TO i1 i2 t1 t2 : Addr) (n1 n2 : Nat) (xs ys : List Value) (news : List (Addr × Obj)) (R : Nat → Value → Prop), xv = .ref z ∧ A.handled = none ∧ ZipApart z TI TO i1 i2 t1 t2 ∧ ZSt z TI TO i1 i2 t1 t2 xs.toArray ys.toArray .none 0 s₁.heap ∧ xs.length = ys.length ∧ xs.length ≤ sizeLine ∧
    (t1, ({ cls := .type "tuple", data := .seq xs.toArray n1 } : Obj)) ∈ news ∧ (t2, ({ cls := .type "tuple", data := .seq ys.toArray n2 } : Obj)) ∈ news ∧ Fr h₀ L s₁.heap m ∧ News h₀ L s₁.heap news ∧ (∀ c ∈ [z, TI, TO, i1, i2], c ≠ L ∧ h₀.get? c = none ∧ ∀ p ∈ news, p.1 ≠ c) ∧
    EltOk prog w A h₀ L m env elt a b scope cl s₁ xs ys news R ∧
    ∀ D h tk vs, Fr h₀ L h m → News h₀ L h ((D, lst vs) :: news) → (∀ p ∈ news, p.1 ≠ D) → vs.length = xs.length → (∀ j v, vs[j]? = some v → R j v) → Q (.ref D) { s₁ with heap := h, toks := tk }

theorem ListComp_Z {elt iter : Expr} {a b : Str} {pa pb tp : Pos} {kk : Nat} {scope : Scope} {cl : List (Str × Addr)} {pos : Pos} {Q : Value → Shared → Prop} (F₀ : Fr h₀ L s.heap m)
    (hclos : closureFor scope env = pure cl) (hcell : ∀ y ∈ scope.names, y.2 ≠ .cell) (hkind : scope.kind = .function)
    (hnames : ∀ y ∈ scope.names, y.2 = .local → scope.names.lookup y.1 = some .local) (hxa : scope.names.lookup a = some .local) (hxb : scope.names.lookup b = some .local) (hab : ¬ a = b)
    (h : wpAny (model prog w) A (eval iter env) (ZSrc prog w A h₀ L m env elt a b scope cl Q) E s)
    (hs : ∀ x, foldedSetIterable iter env x = pure x := by intro _; rfl) :
    wpAny (model prog w) A (eval (.ListComp elt [⟨.Tuple [.Name a pa, .Name b pb] kk tp, iter, [], 0⟩] scope pos) env) Q E s := by
  rw [eval_ListComp]
  refine wpAny_comprehension_free (use := none) rfl hs hclos hkind hnames (wpAny_mono h (fun xv s₁ h₁ => ?_) fun _ _ e => e)
  obtain ⟨z, TI, TO, i1, i2, t1, t2, n1, n2, xs, ys, news, R, rfl, hh, D₀, Z, hlen, hsz, ht1, ht2, F, N, hw, elts, fin⟩ := h₁
  refine wpAny_pyIter_zip Z.z ?_
  refine zip_block hh D₀ Z hlen hsz ht1 ht2 hcell hkind hxa hxb F N hw elts hab ?_
  intro D C h tk m' vs F' N' oD hn hC₀ hCL hCD offC hl hR
  refine ⟨m', hn, fun h'' hs'' => fin D h'' tk vs (F'.change hs'' hCL hC₀) (fun p hp => ?_) oD hl hR⟩
  refine ⟨hs''.extBut _ _ ?_ (N' p hp).1, (N' p hp).2⟩
  rcases List.mem_cons.mp hp with rfl | hp
  · exact hCD.symm
  · exact offC p hp

/-- zip of two colours, the element of two ints one int. -/
theorem zip_call4 (G : Int → Int → Int) (P : Int → Int → Prop) {elt : Expr} {a b : Str} {scope : Scope} {cl : List (Str × Addr)} {t1 t2 : Addr} {n1 n2 : Nat} {x1 x2 x3 x4 y1 y2 y3 y4 : Int} {u1 u2 u3 u4 v1 v2 v3 v4 : Tok} {news : List (Addr × Obj)} {Q : Value → Shared → Prop}
    (hh : A.handled = none) (F : Fr h₀ L s.heap m) (N : News h₀ L s.heap news) (ht1 : (t1, tup4 x1 x2 x3 x4 u1 u2 u3 u4 n1) ∈ news) (ht2 : (t2, tup4 y1 y2 y3 y4 v1 v2 v3 v4 n2) ∈ news)
    (hP : P x1 y1 ∧ P x2 y2 ∧ P x3 y3 ∧ P x4 y4)
    (helt : ∀ (x y : Int) (tx ty : Tok) (C : Addr) (oC : Obj) (m₂ : Str → Option Value) (big : List (Addr × Obj)) (s' : Shared) (Q' E' : Value → Shared → Prop),
      P x y → NsObj oC m₂ → m₂ a = some (.int x tx) → m₂ b = some (.int y ty) → (C, oC) ∈ big → (∀ q ∈ news, q ∈ big) → Fr h₀ L s'.heap m → News h₀ L s'.heap big →
      (∀ t h' tk', Fr h₀ L h' m → News h₀ L h' big → Q' (.int (G x y) t) { s' with heap := h', toks := tk' }) →
      wpAny (model prog w) A (eval elt (compEnvC scope cl C env)) Q' E' s')
    (fin : ∀ D h tk w1 w2 w3 w4, Fr h₀ L h m → News h₀ L h ((D, lst [.int (G x1 y1) w1, .int (G x2 y2) w2, .int (G x3 y3) w3, .int (G x4 y4) w4]) :: news) → AllNe D news → Q (.ref D) { s with heap := h, toks := tk }) :
    wpAny (model prog w) A (call (.type "zip") [.ref t1, .ref t2]) (ZSrc prog w A h₀ L m env elt a b scope cl Q) E s := by
  have g1 := (N _ ht1).1
  have g2 := (N _ ht2).1
  have hlt1 := Heap.lt_size g1
  have hlt2 := Heap.lt_size g2
  have D₀ : ZipApart (s.heap.objs.size + 4) (s.heap.objs.size + 2) (s.heap.objs.size + 3) s.heap.objs.size (s.heap.objs.size + 1) t1 t2 := ktu_apart _ _ _ hlt1 hlt2
  refine call_zipT (xs := [Value.int x1 u1, .int x2 u2, .int x3 u3, .int x4 u4].toArray) (ys := [Value.int y1 v1, .int y2 v2, .int y3 v3, .int y4 v4].toArray) ⟨_, g1, rfl, _, rfl⟩ ⟨_, g2, rfl, _, rfl⟩ fun h' Z hsz hk => ?_
  have fr : ∀ c, s.heap.objs.size ≤ c → c ≠ L ∧ h₀.get? c = none ∧ ∀ p ∈ news, p.1 ≠ c := fun c hc =>
    ⟨Nat.ne_of_gt (Nat.lt_of_lt_of_le F.ns.lt hc), Heap.get?_none_of_le (Nat.le_trans F.above (Nat.le_trans (Nat.le_of_lt F.ns.lt) hc)), fun p hp => Nat.ne_of_lt (Nat.lt_of_lt_of_le (Heap.lt_size (N p hp).1) hc)⟩
  refine ⟨_, _, _, _, _, t1, t2, n1, n2, _, _, news, fun i v => ∃ x y t, [(x1, y1), (x2, y2), (x3, y3), (x4, y4)][i]? = some (x, y) ∧ v = .int (G x y) t, rfl, hh, D₀, Z, rfl, Nat.le_of_ble_eq_true rfl, ht1, ht2, F.keeps hk, N.grown hk, ?_, ?_, ?_⟩
  · intro c hc
    simp only [List.mem_cons, List.not_mem_nil, or_false] at hc
    rcases hc with rfl | rfl | rfl | rfl | rfl
    · exact fr _ (Nat.le_add_right _ _)
    · exact fr _ (Nat.le_add_right _ _)
    · exact fr _ (Nat.le_add_right _ _)
    · exact fr _ (Nat.le_refl _)
    · exact fr _ (Nat.le_add_right _ _)
  · intro i x y C oC m₂ big h tk Q' E' hx hy hC ha hb hm hsub F' N' hQ
    have key : ∀ (x' y' : Int) (tx ty : Tok), P x' y' → [(x1, y1), (x2, y2), (x3, y3), (x4, y4)][i]? = some (x', y') → x = .int x' tx → y = .int y' ty → wpAny (model prog w) A (eval elt (compEnvC scope cl C env)) Q' E' { s with heap := h, toks := tk } := by
      intro x' y' tx ty hp hi ex ey
      subst ex; subst ey
      exact helt x' y' tx ty C oC m₂ big { s with heap := h, toks := tk } Q' E' hp hC ha hb hm hsub F' N' fun t h'' tk'' F'' N'' => hQ _ _ _ ⟨x', y', t, hi, rfl⟩ F'' N''
    match i, hx, hy with
    | 0, hx, hy => exact key x1 y1 u1 v1 hP.1 rfl (Option.some.inj hx).symm (Option.some.inj hy).symm
    | 1, hx, hy => exact key x2 y2 u2 v2 hP.2.1 rfl (Option.some.inj hx).symm (Option.some.inj hy).symm
    | 2, hx, hy => exact key x3 y3 u3 v3 hP.2.2.1 rfl (Option.some.inj hx).symm (Option.some.inj hy).symm
    | 3, hx, hy => exact key x4 y4 u4 v4 hP.2.2.2 rfl (Option.some.inj hx).symm (Option.some.inj hy).symm
    | (k + 4), hx, _ => simp at hx
  · intro D h tk vs F' N' oD hl hR
    match vs, hl with
    | [w1, w2, w3, w4], _ =>
      obtain ⟨x, y, t, e1, rfl⟩ := hR 0 _ rfl
      obtain ⟨x', y', t', e2, rfl⟩ := hR 1 _ rfl
      obtain ⟨x'', y'', t'', e3, rfl⟩ := hR 2 _ rfl
      obtain ⟨x''', y''', t''', e4, rfl⟩ := hR 3 _ rfl
      cases e1; cases e2; cases e3; cases e4
      exact fin D h tk t t' t'' t''' F' N' (allNe_of oD)
end zip3
end
section

section tcomp
open PyProof.Rows.LCg PyProof.Rows.LCt PySem.Spec
variable {prog : Program} {w : World} {A : Around} {E : Value → Shared → Prop} {s : Shared} {h₀ : Heap} {L : Addr} {m : Str → Option Value} {env : Env}

/-- A tuple stands in the ledger. -/
def TupIn (ax : Addr) (its : Array Value) (news : List (Addr × Obj)) : Prop := False ∨ ∃ o, (ax, o) ∈ news ∧ o.cls = .type "tuple" ∧ ∃ n, o.data = .seq its n
theorem TupIn.tuple {h : Heap} {ax : Addr} {its : Array Value} {news : List (Addr × Obj)} (x : TupIn ax its news) (N : News h₀ L h news) : h.IsTuple ax its := by
  rcases x with x | ⟨o, hm, hc, n, hd⟩
  · exact x.elim
  · exact ⟨o, (N _ hm).1, hc, n, hd⟩

def TSrc (prog : Program) (w : World) (A : Around) (h₀ : Heap) (L : Addr) (m : Str → Option Value) (env : Env) (ct elt : Expr) (x : Str) (scope : Scope) (cl : List (Str × Addr)) (Fin : Shared → List Value → List (Addr × Obj) → Prop) (xv : Value) (s₁ : Shared) : Prop :=
  ∃ ax its news, xv = .ref ax ∧ A.handled = none ∧ Fr h₀ L s₁.heap m ∧ News h₀ L s₁.heap news ∧ TupIn ax its news ∧ its.size ≤ sizeLine ∧
    ∀ s₂ : Shared, (∃ h, s₂ = { s₁ with heap := h }) → CompRestT prog w A h₀ L m env ct elt x scope cl s₂ (TupIn ax its) (fun i v => its[i]? = some v) (Fin s₂) its.size 0 [] news

theorem tsrc4 {ct elt : Expr} {x : Str} {scope : Scope} {cl : List (Str × Addr)} {Fin : Shared → List Value → List (Addr × Obj) → Prop} {ax : Addr} {v1 v2 v3 v4 : Value} {k : Nat} {news : List (Addr × Obj)} {s₁ : Shared}
    (hh : A.handled = none) (F : Fr h₀ L s₁.heap m) (N : News h₀ L s₁.heap news) (hm : (ax, ({ cls := .type "tuple", data := .seq #[v1, v2, v3, v4] k } : Obj)) ∈ news)
    (h : ∀ g, CompRestT prog w A h₀ L m env ct elt x scope cl { s₁ with heap := g } (TupIn ax #[v1, v2, v3, v4]) (fun i v => #[v1, v2, v3, v4][i]? = some v) (Fin { s₁ with heap := g }) 4 0 [] news) :
    TSrc prog w A h₀ L m env ct elt x scope cl Fin (.ref ax) s₁ := ⟨ax, _, news, rfl, hh, F, N, .inr ⟨_, hm, rfl, _, rfl⟩, Nat.le_of_ble_eq_true rfl, fun _ ⟨g, e⟩ => e ▸ h g⟩

theorem ListComp_TT {ct elt iter : Expr} {x : Str} {px : Pos} {scope : Scope} {cl : List (Str × Addr)} {pos : Pos} {Q : Value → Shared → Prop} (F₀ : Fr h₀ L s.heap m)
    (hclos : closureFor scope env = pure cl) (hcell : ∀ y ∈ scope.names, y.2 ≠ .cell) (hkind : scope.kind = .function)
    (hnames : ∀ y ∈ scope.names, y.2 = .local → scope.names.lookup y.1 = some .local) (hx : scope.names.lookup x = some .local)
    (h : wpAny (model prog w) A (eval iter env) (TSrc prog w A h₀ L m env ct elt x scope cl (fun s₂ => FinE h₀ L m s₂ Q)) E s)
    (hs : ∀ x, foldedSetIterable iter env x = pure x := by intro _; rfl) :
    wpAny (model prog w) A (eval (.ListComp elt [⟨.Name x px, iter, [ct], 0⟩] scope pos) env) Q E s := by
  rw [eval_ListComp]
  refine wpAny_comprehension_free (use := none) rfl hs hclos hkind hnames (wpAny_mono h (fun xv s₁ h₁ => ?_) fun _ _ e => e)
  obtain ⟨ax, its, news, rfl, hh, F, N, S, hsz, R⟩ := h₁
  have hl := S.tuple N
  have hlt : ax < s₁.heap.objs.size := by obtain ⟨_, e, _⟩ := hl; exact Heap.lt_size e
  refine wpAny_pyIter_tuple hl ?_
  have up : ∀ b o, s₁.heap.get? b = some o → (s₁.heap.push { cls := .type "tuple_iterator", data := .fields #[.ref ax, .int 0 0] }).get? b = some o := fun b o e => Heap.get?_push_of_some _ e
  refine block_T (S := TupIn ax its) (Walks.tuple hh s₁.heap.objs.size ax (Nat.ne_of_lt hlt) its) hsz (fun i h st => by obtain ⟨o, e, _⟩ := st.1; exact ⟨o, e⟩) ?_ hcell hkind hx ⟨⟨_, Heap.get?_push_size _ rfl, rfl, rfl⟩, tuple_at hl (up _)⟩ (fun b hb => ?_)
    (F.keeps up) (N.grown up) (Nat.ne_of_lt F.ns.lt) (next_is_new F) (fun p hp => Nat.ne_of_lt (Heap.lt_size (N p hp).1)) S (R _ ⟨_, rfl⟩) ?_
  · intro i h h' o nw st e e' _ N' S'
    obtain ⟨⟨o₁, q1, q2⟩, _⟩ := st
    rw [e] at q1
    cases q1
    exact ⟨⟨o, e', q2⟩, S'.tuple N'⟩
  · show b < (s₁.heap.push _).objs.size
    rw [Heap.size_push]
    rcases List.mem_cons.mp hb with rfl | hb
    · exact Nat.lt_succ_self _
    · rw [List.mem_singleton.mp hb]; exact Nat.lt_succ_of_lt hlt
  · intro D C h tk m' ys news' F' N' o1 hn hC₀ hD₀ hCL hDL hCD offC fin
    refine ⟨m', hn, fun h'' hs'' => fin D h'' tk (F'.change hs'' hCL hC₀) (fun p hp => ?_) o1⟩
    refine ⟨hs''.extBut _ _ ?_ (N' p hp).1, (N' p hp).2⟩
    rcases List.mem_cons.mp hp with rfl | hp
    · exact Ne.symm hCD
    · exact offC p hp
end tcomp

section cmp
open PySem.Spec
variable {prog : Program} {w : World} {A : Around} {E : Value → Shared → Prop} {s : Shared} {h₀ : Heap} {L ta tb : Addr} {news : List (Addr × Obj)} {Q : Value → Shared → Prop}
theorem reads4 {x1 x2 x3 x4 : Int} {t1 t2 t3 t4 : Tok} {n : Nat} (N : News h₀ L s.heap news) (h : (ta, tup4 x1 x2 x3 x4 t1 t2 t3 t4 n) ∈ news) : ∃ as, Reads s.heap (.ref ta) (.tuple [.int x1, .int x2, .int x3, .int x4]) as :=
  ⟨_, reads_tuple_at (N.get h) rfl rfl (.cons (.int _ _) (.cons (.int _ _) (.cons (.int _ _) (.cons (.int _ _) .nil))))⟩
theorem shaped4 (x1 x2 x3 x4 : Int) : SeqAt.shaped (.tuple [.int x1, .int x2, .int x3, .int x4]) = true := by
  simp [SeqAt.shaped, PyData.canLay0, PyData.canLayAll0, PyData.depth, PyData.depthAll]
theorem eqv4 (x1 x2 x3 x4 : Int) : PyData.eqv (.tuple [.int x1, .int x2, .int x3, .int x4]) (.tuple [.int x1, .int x2, .int x3, .int x4]) = true := by
  simp [PyData.eqv, PyData.eqvAll]
theorem tup_eq {x1 x2 x3 x4 y1 y2 y3 y4 : Int} {t1 t2 t3 t4 u1 u2 u3 u4 : Tok} {n k : Nat} (N : News h₀ L s.heap news) (h1 : (ta, tup4 x1 x2 x3 x4 t1 t2 t3 t4 n) ∈ news) (h2 : (tb, tup4 y1 y2 y3 y4 u1 u2 u3 u4 k) ∈ news)
    (e : x1 = y1 ∧ x2 = y2 ∧ x3 = y3 ∧ x4 = y4) (hu : A.units + 64 < cLine) (h : Q (.bool true) s) : wpAny (model prog w) A (compareOp .Eq (.ref ta) (.ref tb)) Q E s := by
  obtain ⟨rfl, rfl, rfl, rfl⟩ := e
  obtain ⟨_, r1⟩ := reads4 N h1
  obtain ⟨_, r2⟩ := reads4 N h2
  refine eq_dataH r1 r2 (shaped4 ..) (shaped4 ..) hu ?_
  rw [eqv4]
  exact h
theorem tup_ne {x1 x2 x3 x4 y1 y2 y3 y4 : Int} {t1 t2 t3 t4 u1 u2 u3 u4 : Tok} {n k : Nat} (N : News h₀ L s.heap news) (h1 : (ta, tup4 x1 x2 x3 x4 t1 t2 t3 t4 n) ∈ news) (h2 : (tb, tup4 y1 y2 y3 y4 u1 u2 u3 u4 k) ∈ news)
    (e : x1 = y1 ∧ x2 = y2 ∧ x3 = y3 ∧ x4 = y4) (hu : A.units + 64 < cLine) (h : Q (.bool false) s) : wpAny (model prog w) A (compareOp .NotEq (.ref ta) (.ref tb)) Q E s := by
  obtain ⟨rfl, rfl, rfl, rfl⟩ := e
  obtain ⟨_, r1⟩ := reads4 N h1
  obtain ⟨_, r2⟩ := reads4 N h2
  refine ne_dataH r1 r2 (shaped4 ..) (shaped4 ..) hu ?_
  rw [eqv4]
  exact h
theorem nil_eq {n k : Nat} (N : News h₀ L s.heap news) (h1 : (ta, ({ cls := .type "list", data := .seq ([] : List Value).toArray n } : Obj)) ∈ news) (h2 : (tb, ({ cls := .type "list", data := .seq ([] : List Value).toArray k } : Obj)) ∈ news)
    (hu : A.units + 64 < cLine) (h : Q (.bool true) s) : wpAny (model prog w) A (compareOp .Eq (.ref ta) (.ref tb)) Q E s := by
  refine eq_dataH (reads_list_at (N.get h1) rfl rfl .nil) (reads_list_at (N.get h2) rfl rfl .nil) rfl rfl hu ?_
  exact h
end cmp
end
section
theorem lines_1 : True := by
  w_top off
  k_with_none
  k_with "con_enter" => (
  unfold CC Con
  k_fill
  intro dp un gd cn cs a ccd cl outer A₀ base h₀ L m news s Q E B F X N T hk hsub hd hu hret
  refine wpAny_call ?_
  k_dflt (refine' code_sub B F X N T hsub ?kA ?kF ?kK ?k6 ?k7 ?k8 ?k9 ?kB ?_ ?c2 ?c3 ?c4 ?c5; (case kA => exact rfl); (case kF => exact rfl); (case kK => assumption); (case k6 => k_is); (case k7 => k_is); (case k8 => ktr_room); (case k9 => exact BindsTo.of_eq rfl); (case c5 => decide); (case kB => exact locs rfl); (case c2 => exact rfl); (case c3 => exact rfl); (case c4 => exact rfl); k_whole; intro g' L' h' FG' F' N' B' X' T' hrest'; (try dsimp only); (try k_fold)))
  k_with "con_enterC" => (
  unfold CC Con
  k_fill
  intro dp un gd cn cs a ccd cl outer A₀ base h₀ L m news s Q E B F X N T hk hsub hd hu hret
  refine wpAny_call ?_
  k_dflt (refine' code_subC B F X N T hsub ?kA ?kF ?kK ?k6 ?k7 ?k8 ?k9 ?kB ?kD ?_ ?c2 ?c3 ?c4; (case kA => exact rfl); (case kF => exact rfl); (case kK => assumption); (case k6 => k_is); (case k7 => k_is); (case k8 => ktr_room); (case k9 => exact BindsTo.of_eq rfl); (case kB => exact rfl); (case kD => decide +kernel); (case c2 => exact rfl); (case c3 => exact rfl); (case c4 => exact rfl); k_whole; intro g' L' h' tk' cells' FG' F' N' Y' B' X' T' l1 hrest'; (try k_lt l1); k_cells Y'; (try simp only [List.cons_append, List.nil_append] at N'); (try dsimp only); (try k_fold)))
  k_with "subscriptTail Name Constant ref int" => (k_here; (with_reducible show wpAny _ _ (subscriptTail _ _ (Value.ref _) (Value.int _ _)) _ _ _); k_dflt (refine' item_led ?zL1N ?zL1m ?zL1a ?zL1b ?zL1d ?_; (case zL1N => k_asm); (case zL1m => k_mem); (case zL1a => decide); (case zL1b => decide); (case zL1d => rfl); k_whole))
  trivial
theorem lines_2 : True := by
  k_with "ktr_room" => ((try simp only [depth_under_make, depth_under_kw, depth_in1, depth_deeper, depth_caller]); (try dsimp only [ktrTop]); first | with_reducible exact room0 hd | with_reducible exact room1 hd rfl | with_reducible exact room2 hd rfl | with_reducible exact room3 hd rfl | with_reducible exact room4 hd rfl | (trace "ROOM by omega"; omega))
  k_with "ktr_units" => ((try simp only [units_in1, units_deeper, Around.mark_units, units_caller]); (try dsimp only [ktrTop]); first | with_reducible exact room1 hu rfl | with_reducible exact room2 hu rfl | with_reducible exact room3 hu rfl | with_reducible exact room4 hu rfl | (have hcL9 := cLine_is; trace "UNITS by omega"; trace_state; omega))
  k_with "in255" => first | with_reducible assumption | with_reducible exact k255 | with_reducible exact b255 (by assumption) (by assumption) | with_reducible exact a255 (by assumption) (by assumption) | with_reducible exact c255 (by assumption) (by assumption) | exact ⟨by omega, by omega⟩ | omega
  trivial
theorem lines_3 : True := by
  k_with "split_ne" => ((repeat (rename (@Ne Nat _ _ ∧ _) ∧ _ => hz9; (have hz8 := hz9.1); (have hz7 := hz9.2); clear hz9)); (repeat (rename @Ne Nat _ _ ∧ _ => hz9; (have hz8 := hz9.1); (have hz7 := hz9.2); clear hz9)))
  k_with "k_ne" => (refine neN ?_; (try dsimp only); first | assumption | exact Ne.symm (by assumption) | ((repeat (rename @Ne Nat _ _ => hz9; clear hz9)); (repeat (rename @Ne Nat _ _ ∧ _ => hz9; clear hz9)); (repeat (rename (@Ne Nat _ _ ∧ _) ∧ _ => hz9; clear hz9)); omega))
  trivial
set_option maxRecDepth 100000 in
set_option maxHeartbeats 8000000 in
theorem con_take {w : World} {loose : List Str} {mean : ExcName → Option Value} {mg mb : Str → Option Value} (l : Addr) (o : Obj) (top : Int) (tt : Tok) (hs : Src o) (ht : 1 ≤ top) (ht' : top ≤ 256) :
    CC w loose mean mg mb 173 3 ((l, o) :: []) [.ref l, .int top tt] (MutP l o [] (TakeP top)) := by
  obtain ⟨x, y, t1, t2, c, rfl, hx, hy, hy'⟩ := hs
  walk_at "con_enter"
  k_steps
  · refine con_end hret hrest' (by k_asm) (by k_asm) (by k_asm) (by k_asm) (sub' := [_]) ?_ (fun q hq => hq)
    exact ⟨_, [], rfl, (fun _ h => nomatch h), rfl, _, _, rfl, (fmod_in _ (by omega)).1, (fmod_in _ (by omega)).2, _, _, _, _, _, rfl, fdiv_nn hx (by omega), hy, hy'⟩
  · refine con_end hret hrest' (by k_asm) (by k_asm) (by k_asm) (by k_asm) (sub' := [_]) ?_ (fun q hq => hq)
    exact ⟨_, [], rfl, (fun _ h => nomatch h), rfl, _, _, rfl, (fmod_in _ (by omega)).1, (fmod_in _ (by omega)).2, _, _, _, _, _, rfl, hx, (fmod_in _ (by omega)).1, (fmod_in _ (by omega)).2⟩
theorem lines_4 : True := by
  k_with "call ref" => (k_here; walk_at "split_ne"; k_dflt (refine' mut_take ?zuk1 ?zuk2 ?zuk3 ?zuk4 ?zuk5 ?zukK (con_take _ _ _ _ ?zua ?zub ?zuc) ?zukU ?zukS ?zukd ?zuku ?_; (case zuk1 => k_asm); (case zuk2 => k_asm); (case zuk3 => k_asm); (case zuk4 => k_asm); (case zuk5 => k_asm); (case zukK => first | exact rfl | assumption); (case zukS => (intro _ h; rcases List.mem_singleton.mp h with rfl; k_mem)); (case zukU => intro _; k_upd); (case zua => assumption); (case zub => omega); (case zuc => omega); (case zukd => ktr_room); (case zuku => ktr_units); k_whole; intro r t o' h' tk' r0 r1 hsrc F' N'))
  trivial
theorem lines_5 : True := by
  k_with "call builtin:len" => (k_here; k_dflt (refine' len_led ?zL5N ?zL5m ?zL5z ?_; (case zL5N => k_asm); (case zL5m => k_mem); (case zL5z => omega); k_whole; intro _ _))
  k_with "subscriptTail Name Call ref int" => (k_here; k_dflt (refine' item_some ?zL6N ?zL6m ?zL6a ?zL6b ?zL6c ?_; (case zL6N => k_asm); (case zL6m => k_mem); (case zL6a => omega); (case zL6b => omega); (case zL6c => omega); k_whole; intro _ _))
  trivial
set_option maxRecDepth 100000 in
set_option maxHeartbeats 8000000 in
theorem con_one {w : World} {loose : List Str} {mean : ExcName → Option Value} {mg mb : Str → Option Value} (l q : Addr) (o : Obj) (vs : List Value) (c : Nat) (hlq : q ≠ l) (hs : Src o) (hv : 1 ≤ vs.length) (hv' : vs.length ≤ 256) :
    CC w loose mean mg mb 180 5 ((l, o) :: [(q, W.listOf vs.toArray c)]) [.ref l, .ref q] (MutP l o [(q, W.listOf vs.toArray c)] (OneP vs)) := by
  walk_at "con_enter"
  k_steps
  refine con_end hret hrest' (by k_asm) (by k_asm) (by k_asm) (by k_asm) (sub' := [_, _]) ?_ (fun q hq => hq)
  refine ⟨_, [], rfl, (fun _ h => nomatch h), rfl, ?_, ?_⟩ <;> assumption
theorem lines_6 : True := by
  k_with "call ref" => (k_here; walk_at "split_ne"; k_dflt (refine' mut_oneI ?zuk1 ?zuk2 ?zuk3 ?zuk4 ?zuk5 ?zukK (con_one _ _ _ _ _ ?zuz ?zua ?zub ?zuc) ?zukU ?zukS ?zukd ?zuku ?zuM ?_; (case zuk1 => k_asm); (case zuk2 => k_asm); (case zuk3 => k_asm); (case zuk4 => k_asm); (case zuk5 => k_asm); (case zukK => first | exact rfl | assumption); (case zukS => (intro _ h; rcases List.mem_cons.mp h with rfl | h; k_mem; rcases List.mem_singleton.mp h with rfl; k_mem)); (case zukU => intro _; k_upd); (case zuz => k_ne); (case zua => assumption); (case zub => exact Nat.le_of_ble_eq_true rfl); (case zuc => exact Nat.le_of_ble_eq_true rfl); (case zukd => ktr_room); (case zuku => ktr_units); (case zuM => first | exact fun _ hv => mem_alpha hv (by assumption) (by assumption) | exact fun _ hv => mem_part hv (by assumption) (by assumption) (by assumption)); k_whole; intro vx vt o' h' tk' v0 v1 hsrc F' N'))
  trivial
theorem lines_7 : True := by
  k_with "CompSrc" => (k_here; k_dflt (first
  | (refine LCg.CompSrc.range (by rfl) (by k_asm) (by k_asm) (by assumption) (by first | decide | rfl) (by first | rfl | decide) (by first | size_fits | exact Nat.le_of_ble_eq_true rfl) ?_; intro g'; lcg_lit)
  | (refine LCg.CompSrc.ledger (by rfl) (by k_asm) (by k_asm) (by k_mem) (by first | size_fits | exact Nat.le_of_ble_eq_true rfl) ?_; intro g'; lcg_lit)))
  trivial
set_option maxRecDepth 100000 in
set_option maxHeartbeats 8000000 in
theorem con_colour {w : World} {loose : List Str} {mean : ExcName → Option Value} {mg mb : Str → Option Value} (l : Addr) (o : Obj) (hs : Src o) :
    CC w loose mean mg mb 185 8 ((l, o) :: []) [.ref l] (MutP l o [] ColP) := by
  walk_at "con_enterC"
  k_steps
  refine' con_end hret hrest' ?F ?N ?kF ?kN (sub' := [_, (l, _)]) ?post ?le
  case F => k_asm
  case N => k_asm
  case kF => k_asm
  case kN => k_asm
  case le =>
    refine List.forall_mem_cons.mpr ⟨?a, ?b⟩
    case a => exact List.Mem.head _
    case b =>
      refine List.forall_mem_cons.mpr ⟨?c, List.forall_mem_nil _⟩
      case c => k_mem
  case post =>
    refine ⟨_, [_], rfl, ?_, ?_, _, _, _, _, _, _, _, _, _, _, rfl, rfl, ⟨?_, ?_⟩, ⟨?_, ?_⟩, ⟨?_, ?_⟩, ?_⟩
    · intro q hq
      rw [List.mem_singleton.mp hq]
      exact fun h => absurd (List.mem_singleton.mp h) (by k_ne)
    all_goals assumption
end
section
theorem lines_8 : True := by
  w_top off
  k_with_none
  k_with "con_sub" => first | exact List.forall_mem_nil _ | (refine' List.forall_mem_cons.mpr ⟨?zL8a, ?zL8b⟩; (case zL8a => k_mem); (case zL8b => walk_at "con_sub"))
  k_with "con_off" => first | exact List.forall_mem_nil _ | (refine' List.forall_mem_cons.mpr ⟨?zL9a, ?zL9b⟩; (case zL9a => k_ne); (case zL9b => walk_at "con_off"))
  k_with "con_one" => (
  refine' con_end_one hret hrest' ?zrF ?zrN ?zrk ?zrn ?zrm ?_ ?zrD ?zrs
  case zrF => k_asm
  case zrN => k_asm
  case zrk => k_asm
  case zrn => k_asm
  case zrm => k_mem
  case zrD => walk_at "con_off"
  case zrs => walk_at "con_sub")
  k_with "con_val" => (
  refine' con_end_val hret hrest' ?zrF ?zrN ?zrk ?zrn ?_ ?zrs
  case zrF => k_asm
  case zrN => k_asm
  case zrk => k_asm
  case zrn => k_asm
  case zrs => walk_at "con_sub")
  trivial
theorem lines_9 : True := by
  k_with "con_enter" => (
  unfold CC Con
  k_fill
  intro dp un gd cn cs a ccd cl outer A₀ base h₀ L m news s Q E B F X N T hk hsub hd hu hret
  refine wpAny_call ?_
  k_dflt (refine' code_sub B F X N T hsub ?kA ?kF ?kK ?k6 ?k7 ?k8 ?k9 ?kB ?_ ?c2 ?c3 ?c4 ?c5; (case kA => exact rfl); (case kF => exact rfl); (case kK => assumption); (case k6 => k_is); (case k7 => k_is); (case k8 => ktr_room); (case k9 => exact BindsTo.of_eq rfl); (case c5 => decide); (case kB => exact locs rfl); (case c2 => exact rfl); (case c3 => exact rfl); (case c4 => exact rfl); k_whole; intro g' L' h' FG' F' N' B' X' T' hrest'; (try dsimp only); (try k_fold)))
  k_with "con_enterC" => (
  unfold CC Con
  k_fill
  intro dp un gd cn cs a ccd cl outer A₀ base h₀ L m news s Q E B F X N T hk hsub hd hu hret
  refine wpAny_call ?_
  k_dflt (refine' code_subC B F X N T hsub ?kA ?kF ?kK ?k6 ?k7 ?k8 ?k9 ?kB ?kD ?_ ?c2 ?c3 ?c4; (case kA => exact rfl); (case kF => exact rfl); (case kK => assumption); (case k6 => k_is); (case k7 => k_is); (case k8 => ktr_room); (case k9 => exact BindsTo.of_eq rfl); (case kB => exact rfl); (case kD => decide +kernel); (case c2 => exact rfl); (case c3 => exact rfl); (case c4 => exact rfl); k_whole; intro g' L' h' tk' cells' FG' F' N' Y' B' X' T' l1 hrest'; (try k_lt l1); k_cells Y'; (try simp only [List.cons_append, List.nil_append] at N'); (try dsimp only); (try k_fold)))
  k_with "subscriptTail Name Constant ref int" => (k_here; (with_reducible show wpAny _ _ (subscriptTail _ _ (Value.ref _) (Value.int _ _)) _ _ _); k_dflt (refine' item_led ?zL10N ?zL10m ?zL10a ?zL10b ?zL10d ?_; (case zL10N => k_asm); (case zL10m => k_mem); (case zL10a => decide); (case zL10b => decide); (case zL10d => rfl); k_whole))
  trivial
theorem lines_10 : True := by
  k_with "ktr_room" => ((try simp only [depth_under_make, depth_under_kw, depth_in1, depth_deeper, depth_caller]); (try dsimp only [ktrTop]); first | with_reducible exact room0 hd | with_reducible exact room1 hd rfl | with_reducible exact room2 hd rfl | with_reducible exact room3 hd rfl | with_reducible exact room4 hd rfl | (trace "ROOM by omega"; omega))
  k_with "ktr_units" => ((try simp only [units_in1, units_deeper, Around.mark_units, units_caller]); (try dsimp only [ktrTop]); first | with_reducible exact room1 hu rfl | with_reducible exact room2 hu rfl | with_reducible exact room3 hu rfl | with_reducible exact room4 hu rfl | (have hcL9 := cLine_is; trace "UNITS by omega"; trace_state; omega))
  k_with "in255" => first | with_reducible assumption | with_reducible exact k255 | with_reducible exact b255 (by assumption) (by assumption) | with_reducible exact a255 (by assumption) (by assumption) | with_reducible exact c255 (by assumption) (by assumption) | exact ⟨by omega, by omega⟩ | omega
  trivial
set_option maxHeartbeats 8000000 in
theorem con_rounded {w : World} {loose : List Str} {mean : ExcName → Option Value} {mg mb : Str → Option Value} (x : Int) (t u : Tok) :
    CC w loose mean mg mb 192 3 [] [.int x t, .int 255 u] (PureP [] (IntP (rnd x))) := by
  walk_at "con_enter"
  k_steps
  walk_at "con_val"
  exact ⟨rfl, _, rfl⟩
set_option maxHeartbeats 8000000 in
theorem con_mixed {w : World} {loose : List Str} {mean : ExcName → Option Value} {mg mb : Str → Option Value} (x f y g : Int) (t1 t2 t3 t4 : Tok) (hx : 0 ≤ x ∧ x ≤ 255) (hf : 0 ≤ f ∧ f ≤ 255) (hy : 0 ≤ y ∧ y ≤ 255) (hg : 0 ≤ g ∧ g ≤ 255) :
    CC w loose mean mg mb 67 3 [] [.int x t1, .int f t2, .int y t3, .int g t4] (PureP [] (IntP (rnd (x * f + y * g)))) := by
  walk_at "con_enter"
  k_steps
  walk_at "con_val"
  exact ⟨rfl, _, rfl⟩
end
section
theorem lines_11 : True := by
  w_top off
  k_with_none
  k_with "con_sub" => first | exact List.forall_mem_nil _ | (refine' List.forall_mem_cons.mpr ⟨?zL12a, ?zL12b⟩; (case zL12a => k_mem); (case zL12b => walk_at "con_sub"))
  k_with "con_off" => first | exact List.forall_mem_nil _ | (refine' List.forall_mem_cons.mpr ⟨?zL13a, ?zL13b⟩; (case zL13a => k_ne); (case zL13b => walk_at "con_off"))
  k_with "con_one" => (
  refine' con_end_one hret hrest' ?zrF ?zrN ?zrk ?zrn ?zrm ?_ ?zrD ?zrs
  case zrF => k_asm
  case zrN => k_asm
  case zrk => k_asm
  case zrn => k_asm
  case zrm => k_mem
  case zrD => walk_at "con_off"
  case zrs => walk_at "con_sub")
  k_with "con_val" => (
  refine' con_end_val hret hrest' ?zrF ?zrN ?zrk ?zrn ?_ ?zrs
  case zrF => k_asm
  case zrN => k_asm
  case zrk => k_asm
  case zrn => k_asm
  case zrs => walk_at "con_sub")
  trivial
theorem lines_12 : True := by
  k_with "con_enter" => (
  unfold CC Con
  k_fill
  intro dp un gd cn cs a ccd cl outer A₀ base h₀ L m news s Q E B F X N T hk hsub hd hu hret
  refine wpAny_call ?_
  k_dflt (refine' code_sub B F X N T hsub ?kA ?kF ?kK ?k6 ?k7 ?k8 ?k9 ?kB ?_ ?c2 ?c3 ?c4 ?c5; (case kA => exact rfl); (case kF => exact rfl); (case kK => assumption); (case k6 => k_is); (case k7 => k_is); (case k8 => ktr_room); (case k9 => exact BindsTo.of_eq rfl); (case c5 => decide); (case kB => exact locs rfl); (case c2 => exact rfl); (case c3 => exact rfl); (case c4 => exact rfl); k_whole; intro g' L' h' FG' F' N' B' X' T' hrest'; (try dsimp only); (try k_fold)))
  k_with "con_enterC" => (
  unfold CC Con
  k_fill
  intro dp un gd cn cs a ccd cl outer A₀ base h₀ L m news s Q E B F X N T hk hsub hd hu hret
  refine wpAny_call ?_
  k_dflt (refine' code_subC B F X N T hsub ?kA ?kF ?kK ?k6 ?k7 ?k8 ?k9 ?kB ?kD ?_ ?c2 ?c3 ?c4; (case kA => exact rfl); (case kF => exact rfl); (case kK => assumption); (case k6 => k_is); (case k7 => k_is); (case k8 => ktr_room); (case k9 => exact BindsTo.of_eq rfl); (case kB => exact rfl); (case kD => decide +kernel); (case c2 => exact rfl); (case c3 => exact rfl); (case c4 => exact rfl); k_whole; intro g' L' h' tk' cells' FG' F' N' Y' B' X' T' l1 hrest'; (try k_lt l1); k_cells Y'; (try simp only [List.cons_append, List.nil_append] at N'); (try dsimp only); (try k_fold)))
  k_with "subscriptTail Name Constant ref int" => (k_here; (with_reducible show wpAny _ _ (subscriptTail _ _ (Value.ref _) (Value.int _ _)) _ _ _); k_dflt (refine' item_led ?zL14N ?zL14m ?zL14a ?zL14b ?zL14d ?_; (case zL14N => k_asm); (case zL14m => k_mem); (case zL14a => decide); (case zL14b => decide); (case zL14d => rfl); k_whole))
  trivial
theorem lines_13 : True := by
  k_with "ktr_room" => ((try simp only [depth_under_make, depth_under_kw, depth_in1, depth_deeper, depth_caller]); (try dsimp only [ktrTop]); first | with_reducible exact room0 hd | with_reducible exact room1 hd rfl | with_reducible exact room2 hd rfl | with_reducible exact room3 hd rfl | with_reducible exact room4 hd rfl | (trace "ROOM by omega"; omega))
  k_with "ktr_units" => ((try simp only [units_in1, units_deeper, Around.mark_units, units_caller]); (try dsimp only [ktrTop]); first | with_reducible exact room1 hu rfl | with_reducible exact room2 hu rfl | with_reducible exact room3 hu rfl | with_reducible exact room4 hu rfl | (have hcL9 := cLine_is; trace "UNITS by omega"; trace_state; omega))
  k_with "in255" => first | with_reducible assumption | with_reducible exact k255 | with_reducible exact b255 (by assumption) (by assumption) | with_reducible exact a255 (by assumption) (by assumption) | with_reducible exact c255 (by assumption) (by assumption) | exact ⟨by omega, by omega⟩ | omega
  trivial
set_option maxHeartbeats 8000000 in
theorem con_share {w : World} {loose : List Str} {mean : ExcName → Option Value} {mg mb : Str → Option Value} (u : Str) (h : Int → Int) (x : Int) (t1 t2 : Tok) (hop : (u, h) ∈ wordT) :
    CC w loose mean mg mb 60 3 [] [.str u t1, .int x t2] (PureP [] (IntP (h x))) := by
  simp only [wordT, List.mem_cons, List.not_mem_nil, or_false, Prod.mk.injEq] at hop
  rcases hop with ⟨rfl, rfl⟩ | ⟨rfl, rfl⟩ | ⟨rfl, rfl⟩ | ⟨rfl, rfl⟩
  all_goals (
    walk_at "con_enter"
    k_steps
    walk_at "con_val"
    exact ⟨rfl, _, rfl⟩)
end
section
theorem lines_14 : True := by
  w_top off
  k_with_none
  k_with "con_sub" => first | exact List.forall_mem_nil _ | (refine' List.forall_mem_cons.mpr ⟨?zL16a, ?zL16b⟩; (case zL16a => k_mem); (case zL16b => walk_at "con_sub"))
  k_with "con_off" => first | exact List.forall_mem_nil _ | (refine' List.forall_mem_cons.mpr ⟨?zL17a, ?zL17b⟩; (case zL17a => k_ne); (case zL17b => walk_at "con_off"))
  k_with "con_one" => (
  refine' con_end_one hret hrest' ?zrF ?zrN ?zrk ?zrn ?zrm ?_ ?zrD ?zrs
  case zrF => k_asm
  case zrN => k_asm
  case zrk => k_asm
  case zrn => k_asm
  case zrm => k_mem
  case zrD => walk_at "con_off"
  case zrs => walk_at "con_sub")
  k_with "con_val" => (
  refine' con_end_val hret hrest' ?zrF ?zrN ?zrk ?zrn ?_ ?zrs
  case zrF => k_asm
  case zrN => k_asm
  case zrk => k_asm
  case zrn => k_asm
  case zrs => walk_at "con_sub")
  trivial
theorem lines_15 : True := by
  k_with "con_enter" => (
  unfold CC Con
  k_fill
  intro dp un gd cn cs a ccd cl outer A₀ base h₀ L m news s Q E B F X N T hk hsub hd hu hret
  refine wpAny_call ?_
  k_dflt (refine' code_sub B F X N T hsub ?kA ?kF ?kK ?k6 ?k7 ?k8 ?k9 ?kB ?_ ?c2 ?c3 ?c4 ?c5; (case kA => exact rfl); (case kF => exact rfl); (case kK => assumption); (case k6 => k_is); (case k7 => k_is); (case k8 => ktr_room); (case k9 => exact BindsTo.of_eq rfl); (case c5 => decide); (case kB => exact locs rfl); (case c2 => exact rfl); (case c3 => exact rfl); (case c4 => exact rfl); k_whole; intro g' L' h' FG' F' N' B' X' T' hrest'; (try dsimp only); (try k_fold)))
  k_with "con_enterC" => (
  unfold CC Con
  k_fill
  intro dp un gd cn cs a ccd cl outer A₀ base h₀ L m news s Q E B F X N T hk hsub hd hu hret
  refine wpAny_call ?_
  k_dflt (refine' code_subC B F X N T hsub ?kA ?kF ?kK ?k6 ?k7 ?k8 ?k9 ?kB ?kD ?_ ?c2 ?c3 ?c4; (case kA => exact rfl); (case kF => exact rfl); (case kK => assumption); (case k6 => k_is); (case k7 => k_is); (case k8 => ktr_room); (case k9 => exact BindsTo.of_eq rfl); (case kB => exact rfl); (case kD => decide +kernel); (case c2 => exact rfl); (case c3 => exact rfl); (case c4 => exact rfl); k_whole; intro g' L' h' tk' cells' FG' F' N' Y' B' X' T' l1 hrest'; (try k_lt l1); k_cells Y'; (try simp only [List.cons_append, List.nil_append] at N'); (try dsimp only); (try k_fold)))
  k_with "subscriptTail Name Constant ref int" => (k_here; (with_reducible show wpAny _ _ (subscriptTail _ _ (Value.ref _) (Value.int _ _)) _ _ _); k_dflt (refine' item_led ?zL18N ?zL18m ?zL18a ?zL18b ?zL18d ?_; (case zL18N => k_asm); (case zL18m => k_mem); (case zL18a => decide); (case zL18b => decide); (case zL18d => rfl); k_whole))
  trivial
theorem lines_16 : True := by
  k_with "ktr_room" => ((try simp only [depth_under_make, depth_under_kw, depth_in1, depth_deeper, depth_caller]); (try dsimp only [ktrTop]); first | with_reducible exact room0 hd | with_reducible exact room1 hd rfl | with_reducible exact room2 hd rfl | with_reducible exact room3 hd rfl | with_reducible exact room4 hd rfl | (trace "ROOM by omega"; omega))
  k_with "ktr_units" => ((try simp only [units_in1, units_deeper, Around.mark_units, units_caller]); (try dsimp only [ktrTop]); first | with_reducible exact room1 hu rfl | with_reducible exact room2 hu rfl | with_reducible exact room3 hu rfl | with_reducible exact room4 hu rfl | (have hcL9 := cLine_is; trace "UNITS by omega"; trace_state; omega))
  k_with "in255" => first | with_reducible assumption | with_reducible exact k255 | with_reducible exact b255 (by assumption) (by assumption) | with_reducible exact a255 (by assumption) (by assumption) | with_reducible exact c255 (by assumption) (by assumption) | exact ⟨by omega, by omega⟩ | omega
  trivial
theorem lines_17 : True := by
  k_with "split_ne" => ((repeat (rename (@Ne Nat _ _ ∧ _) ∧ _ => hz9; (have hz8 := hz9.1); (have hz7 := hz9.2); clear hz9)); (repeat (rename @Ne Nat _ _ ∧ _ => hz9; (have hz8 := hz9.1); (have hz7 := hz9.2); clear hz9)))
  k_with "k_ne" => (refine neN ?_; (try dsimp only); first | assumption | exact Ne.symm (by assumption) | ((repeat (rename @Ne Nat _ _ => hz9; clear hz9)); (repeat (rename @Ne Nat _ _ ∧ _ => hz9; clear hz9)); (repeat (rename (@Ne Nat _ _ ∧ _) ∧ _ => hz9; clear hz9)); omega))
  trivial
theorem lines_18 : True := by
  k_with "eval Dict" => (k_here; k_dflt (refine' kdn_str ?zL22q ?zL22F ?zL22N ?zL22b ?zL22a ?zL22l ?zL22e ?zL22n ?_; (case zL22q => rfl); (case zL22F => k_asm); (case zL22N => first | k_asm | exact News.nil); (case zL22b => exact Top.nolimit (by k_asm)); (case zL22a => rfl); (case zL22l => rfl); (case zL22e => exact List.cons_ne_nil _ _); (case zL22n => exact Nat.le_of_ble_eq_true rfl)); intro d' h' o' F' N' l1 lo' hd'; (try k_lt l1); (try k_fold))
  trivial
theorem lines_19 : True := by
  k_with "compareOp NotIn str ref" => (k_here; rcases hop with ⟨rfl, rfl, rfl⟩ | ⟨rfl, rfl, rfl⟩ | ⟨rfl, rfl, rfl⟩ | ⟨rfl, rfl, rfl⟩ | ⟨rfl, rfl, rfl⟩ | ⟨rfl, rfl, rfl⟩ | ⟨rfl, rfl, rfl⟩ | ⟨rfl, rfl, rfl⟩ | ⟨rfl, rfl, rfl⟩ | ⟨rfl, rfl, rfl⟩ | ⟨rfl, rfl, rfl⟩ | ⟨rfl, rfl, rfl⟩)
  trivial
set_option maxHeartbeats 8000000 in
theorem con_shares {w : World} {loose : List Str} {mean : ExcName → Option Value} {mg mb : Str → Option Value} (op u v : Str) (t1 : Tok) (hop : (op, u, v) ∈ shT) :
    CC w loose mean mg mb 53 3 [] [.str op t1] (PureP [] (Tup2S u v)) := by
  simp only [shT, List.mem_cons, List.not_mem_nil, or_false, Prod.mk.injEq] at hop
  walk_at "con_enter"
  k_steps
  all_goals (walk_at "con_one"; exact ⟨_, _, _, _, rfl, rfl⟩)
end
section

theorem rnd_ediv (t : Int) : rnd t = (2 * t + 255) / 510 := Int.fdiv_eq_ediv_of_nonneg _ (by decide)
theorem rnd_le {x y : Int} (h : x ≤ y) : rnd x ≤ rnd y := by rw [rnd_ediv, rnd_ediv]; omega
theorem rnd_nn {x : Int} (h : 0 ≤ x) : 0 ≤ rnd x := by rw [rnd_ediv]; omega
theorem rnd_255 {x : Int} (h : x ≤ 65025) : rnd x ≤ 255 := by rw [rnd_ediv]; omega
theorem mode_in {mode : Str} {f : Int → Int → Int → Int → Int} (hop : (mode, f) ∈ modeT) {s a d b : Int} (hs : 0 ≤ s ∧ s ≤ a) (hd : 0 ≤ d ∧ d ≤ b) : 0 ≤ f s a d b ∧ f s a d b ≤ a * b := by
  have h1 : 0 ≤ s * d := Int.mul_nonneg hs.1 hd.1
  have h2 : 0 ≤ s * (b - d) := Int.mul_nonneg hs.1 (by omega)
  have h3 : 0 ≤ (a - s) * d := Int.mul_nonneg (by omega) hd.1
  have h4 : 0 ≤ (a - s) * (b - d) := Int.mul_nonneg (by omega) (by omega)
  have k1 : 2 * s ≤ a → 0 ≤ (a - 2 * s) * d := fun h => Int.mul_nonneg (by omega) hd.1
  have k2 : ¬ 2 * s ≤ a → 0 ≤ (2 * s - a) * (b - d) := fun h => Int.mul_nonneg (by omega) (by omega)
  have k3 : 2 * d ≤ b → 0 ≤ s * (b - 2 * d) := fun h => Int.mul_nonneg hs.1 (by omega)
  have k4 : ¬ 2 * d ≤ b → 0 ≤ (a - s) * (2 * d - b) := fun h => Int.mul_nonneg (by omega) (by omega)
  have e1 : d * a = a * d := Int.mul_comm ..
  have e2 : d * s = s * d := Int.mul_comm ..
  have e3 : b * a = a * b := Int.mul_comm ..
  have e4 : b * s = s * b := Int.mul_comm ..
  simp only [Int.sub_mul, Int.mul_sub, Int.mul_assoc, Int.mul_left_comm _ 2] at h2 h3 h4 k1 k2 k3 k4
  simp only [modeT, List.mem_cons, List.not_mem_nil, or_false, Prod.mk.injEq] at hop
  rcases hop with ⟨rfl, rfl⟩ | ⟨rfl, rfl⟩ | ⟨rfl, rfl⟩ | ⟨rfl, rfl⟩ | ⟨rfl, rfl⟩ | ⟨rfl, rfl⟩ | ⟨rfl, rfl⟩ | ⟨rfl, rfl⟩ | ⟨rfl, rfl⟩
  all_goals (try simp only [Int.sub_mul, Int.mul_sub, Int.mul_assoc, Int.mul_left_comm _ 2, e1, e2, e3, e4])
  · omega
  · omega
  · omega
  · split <;> omega
  · split <;> omega
  · split
    · have := k1 ‹_›; omega
    · have := k2 ‹_›; omega
  · split
    · have := k3 ‹_›; omega
    · have := k4 ‹_›; omega
  · split <;> omega
  · omega
/-- One part of what a mode makes, ahead of the rounding. -/
theorem blend_in {mode : Str} {f : Int → Int → Int → Int → Int} (hop : (mode, f) ∈ modeT) {s a d b : Int} (hs : 0 ≤ s ∧ s ≤ a) (ha : a ≤ 255) (hd : 0 ≤ d ∧ d ≤ b) (hb : b ≤ 255) :
    0 ≤ rnd (f s a d b + s * (255 - b) + d * (255 - a)) ∧ rnd (f s a d b + s * (255 - b) + d * (255 - a)) ≤ rnd (a * 255 + b * (255 - a)) := by
  have h := mode_in hop hs hd
  have h1 : 0 ≤ s * (255 - b) := Int.mul_nonneg hs.1 (by omega)
  have h2 : 0 ≤ d * (255 - a) := Int.mul_nonneg hd.1 (by omega)
  have h3 : 0 ≤ (a - s) * (255 - b) := Int.mul_nonneg (by omega) (by omega)
  have h4 : 0 ≤ (b - d) * (255 - a) := Int.mul_nonneg (by omega) (by omega)
  refine ⟨rnd_nn (by omega), rnd_le ?_⟩
  have e : b * a = a * b := Int.mul_comm ..
  simp only [Int.sub_mul, Int.mul_sub] at *
  omega
theorem over_255 {a b : Int} (ha : a ≤ 255) (hb : b ≤ 255) : rnd (a * 255 + b * (255 - a)) ≤ 255 := by
  refine rnd_255 ?_
  have h : 0 ≤ (255 - b) * (255 - a) := Int.mul_nonneg (by omega) (by omega)
  have e : b * a = a * b := Int.mul_comm ..
  simp only [Int.sub_mul, Int.mul_sub] at *
  omega
theorem op_in {op : Str} {f g : Int → Int → Int} (hop : (op, f, g) ∈ opT) {a b : Int} (ha : 0 ≤ a ∧ a ≤ 255) (hb : 0 ≤ b ∧ b ≤ 255) : (0 ≤ f a b ∧ f a b ≤ 255) ∧ (0 ≤ g a b ∧ g a b ≤ 255) ∧ a * f a b + b * g a b ≤ 65025 := by
  have h : 0 ≤ (255 - b) * (255 - a) := Int.mul_nonneg (by omega) (by omega)
  have h1 : 0 ≤ a * b := Int.mul_nonneg ha.1 hb.1
  have h2 : 0 ≤ a * (255 - b) := Int.mul_nonneg ha.1 (by omega)
  have h3 : 0 ≤ b * (255 - a) := Int.mul_nonneg hb.1 (by omega)
  have e : b * a = a * b := Int.mul_comm ..
  simp only [Int.sub_mul, Int.mul_sub] at h h2 h3
  simp only [opT, List.mem_cons, List.not_mem_nil, or_false, Prod.mk.injEq] at hop
  rcases hop with ⟨rfl, rfl, rfl⟩ | ⟨rfl, rfl, rfl⟩ | ⟨rfl, rfl, rfl⟩ | ⟨rfl, rfl, rfl⟩ | ⟨rfl, rfl, rfl⟩ | ⟨rfl, rfl, rfl⟩ | ⟨rfl, rfl, rfl⟩ | ⟨rfl, rfl, rfl⟩ | ⟨rfl, rfl, rfl⟩ | ⟨rfl, rfl, rfl⟩ | ⟨rfl, rfl, rfl⟩ | ⟨rfl, rfl, rfl⟩
  all_goals (simp only [Int.mul_sub]; omega)
/-- One part of what an operator makes. -/
theorem sum_in {x y a b f g : Int} (hx : 0 ≤ x ∧ x ≤ a) (hy : 0 ≤ y ∧ y ≤ b) (hf : 0 ≤ f) (hg : 0 ≤ g) : 0 ≤ rnd (x * f + y * g) ∧ rnd (x * f + y * g) ≤ rnd (a * f + b * g) := by
  have h1 : 0 ≤ x * f := Int.mul_nonneg hx.1 hf
  have h2 : 0 ≤ y * g := Int.mul_nonneg hy.1 hg
  have h3 : x * f ≤ a * f := Int.mul_le_mul_of_nonneg_right hx.2 hf
  have h4 : y * g ≤ b * g := Int.mul_le_mul_of_nonneg_right hy.2 hg
  exact ⟨rnd_nn (by omega), rnd_le (by omega)⟩
/-- An operator and its contrary. -/
def conT : List (Str × Str) := [(S "src", S "dst"), (S "over", S "dst-over"), (S "in", S "dst-in"), (S "out", S "dst-out"), (S "atop", S "dst-atop"), (S "xor", S "xor")]
theorem con_of {op op' : Str} {f g : Int → Int → Int} (hop : (op, f, g) ∈ opT) (hc : (op, op') ∈ conT) : ∃ f' g', (op', f', g') ∈ opT ∧ (∀ a b, f' b a = g a b) ∧ (∀ a b, g' b a = f a b) := by
  simp only [conT, List.mem_cons, List.not_mem_nil, or_false, Prod.mk.injEq] at hc
  have key : ∀ (o : String) (f₁ g₁ : Int → Int → Int), (op, f, g) ∈ opT → op = S o → (S o, f₁, g₁) ∈ opT → f = f₁ ∧ g = g₁ := by
    intro o f₁ g₁ h1 e h2
    subst e
    have nd : (opT.map (·.1)).Nodup := by decide +kernel
    have : ∀ (l : List (Str × (Int → Int → Int) × (Int → Int → Int))), (l.map (·.1)).Nodup → ∀ k p q, (k, p) ∈ l → (k, q) ∈ l → p = q := by
      intro l
      induction l with
      | nil => intro _ k p q h; exact nomatch h
      | cons z r ih =>
        intro hn k p q hp hq
        simp only [List.map_cons, List.nodup_cons] at hn
        rcases List.mem_cons.mp hp with hp | hp <;> rcases List.mem_cons.mp hq with hq | hq
        · have := hp.trans hq.symm; cases this; rfl
        · exact absurd (List.mem_map_of_mem (f := (·.1)) hq) (by rw [← hp] at hn; exact hn.1)
        · exact absurd (List.mem_map_of_mem (f := (·.1)) hp) (by rw [← hq] at hn; exact hn.1)
        · exact ih hn.2 k p q hp hq
    have e := this _ nd _ _ _ h1 h2
    cases e
    exact ⟨rfl, rfl⟩
  rcases hc with ⟨e, rfl⟩ | ⟨e, rfl⟩ | ⟨e, rfl⟩ | ⟨e, rfl⟩ | ⟨e, rfl⟩ | ⟨e, rfl⟩
  · obtain ⟨rfl, rfl⟩ := key _ (fun _ _ => 255) (fun _ _ => 0) hop e (by simp [opT]); exact ⟨fun _ _ => 0, fun _ _ => 255, by simp [opT], fun _ _ => rfl, fun _ _ => rfl⟩
  · obtain ⟨rfl, rfl⟩ := key _ (fun _ _ => 255) (fun a _ => 255 - a) hop e (by simp [opT]); exact ⟨fun _ b => 255 - b, fun _ _ => 255, by simp [opT], fun _ _ => rfl, fun _ _ => rfl⟩
  · obtain ⟨rfl, rfl⟩ := key _ (fun _ b => b) (fun _ _ => 0) hop e (by simp [opT]); exact ⟨fun _ _ => 0, fun a _ => a, by simp [opT], fun _ _ => rfl, fun _ _ => rfl⟩
  · obtain ⟨rfl, rfl⟩ := key _ (fun _ b => 255 - b) (fun _ _ => 0) hop e (by simp [opT]); exact ⟨fun _ _ => 0, fun a _ => 255 - a, by simp [opT], fun _ _ => rfl, fun _ _ => rfl⟩
  · obtain ⟨rfl, rfl⟩ := key _ (fun _ b => b) (fun a _ => 255 - a) hop e (by simp [opT]); exact ⟨fun _ b => 255 - b, fun a _ => a, by simp [opT], fun _ _ => rfl, fun _ _ => rfl⟩
  · obtain ⟨rfl, rfl⟩ := key _ (fun _ b => 255 - b) (fun a _ => 255 - a) hop e (by simp [opT]); exact ⟨fun _ b => 255 - b, fun a _ => 255 - a, by simp [opT], fun _ _ => rfl, fun _ _ => rfl⟩
theorem cap_in {x y a b : Int} (hx : 0 ≤ x ∧ x ≤ a) (hy : 0 ≤ y ∧ y ≤ b) : 0 ≤ (if 255 < x + y then 255 else x + y) ∧ (if 255 < x + y then 255 else x + y) ≤ (if 255 < a + b then 255 else a + b) := by
  split <;> split <;> omega
theorem cap_255 (a b : Int) : (if 255 < a + b then 255 else a + b) ≤ 255 := by
  split <;> omega
theorem over_hop : (S "over", (fun _ _ => 255 : Int → Int → Int), (fun a _ => 255 - a : Int → Int → Int)) ∈ opT := by simp [opT]
theorem normal_hop : (S "normal", (fun s _ _ b => s * b : Int → Int → Int → Int → Int)) ∈ modeT := by simp [modeT]
theorem normal_over (x a y b : Int) : rnd (x * 255 + y * (255 - a)) = rnd (x * b + x * (255 - b) + y * (255 - a)) := by
  have h : x * b + x * (255 - b) = x * 255 := by rw [← Int.mul_add]; congr 1; omega
  rw [h]
theorem ct_src {op : Str} (h : op = Str.ofString "src") : (op, S "dst") ∈ conT := by subst h; simp [conT]
theorem ct_over {op : Str} (h : op = Str.ofString "over") : (op, S "dst-over") ∈ conT := by subst h; simp [conT]
theorem ct_in {op : Str} (h : op = Str.ofString "in") : (op, S "dst-in") ∈ conT := by subst h; simp [conT]
theorem ct_out {op : Str} (h : op = Str.ofString "out") : (op, S "dst-out") ∈ conT := by subst h; simp [conT]
theorem ct_atop {op : Str} (h : op = Str.ofString "atop") : (op, S "dst-atop") ∈ conT := by subst h; simp [conT]
theorem ct_xor {op : Str} (h : op = Str.ofString "xor") : (op, S "xor") ∈ conT := by subst h; simp [conT]
theorem no_con {op : Str} (h : (PySem.Spec.lookup (PyData.str op) [(.str (S "src"), .str (S "dst")), (.str (S "over"), .str (S "dst-over")), (.str (S "in"), .str (S "dst-in")), (.str (S "out"), .str (S "dst-out")), (.str (S "atop"), .str (S "dst-atop")), (.str (S "xor"), .str (S "xor"))]).isSome = true)
    (h1 : ¬ op = S "src") (h2 : ¬ op = S "over") (h3 : ¬ op = S "in") (h4 : ¬ op = S "out") (h5 : ¬ op = S "atop") (h6 : ¬ op = S "xor") : False := by
  have k : ∀ x : Str, ¬ op = x → ¬ x = op := fun _ h e => h e.symm
  have e1 := k _ h1
  have e2 := k _ h2
  have e3 := k _ h3
  have e4 := k _ h4
  have e5 := k _ h5
  have e6 := k _ h6
  simp only [PySem.Spec.lookup, PySem.Spec.same, beq_iff_eq, if_neg e1, if_neg e2, if_neg e3, if_neg e4, if_neg e5, if_neg e6] at h
  exact absurd h (by decide)
end
section

section loop
variable {prog : Program} {w : World} {A : Around} {E : Value → Shared → Prop} {s : Shared} {env : Env} {h₀ : Heap} {x : Str} {body : List Stmt} {Q : Flow → Shared → Prop}
theorem unrPost_mono {L I : Addr} {it : Obj} {s₁ : Shared} {R R' : (Str → Option Value) → List (Addr × Obj) → Prop} (h : ∀ m n, R m n → R' m n) (f : Flow) (s₂ : Shared) (p : UnrPost h₀ L s₁ I it R Q f s₂) : UnrPost h₀ L s₁ I it R' Q f s₂ := by
  have k : UnrEnd h₀ L s₁ I it R s₂ → UnrEnd h₀ L s₁ I it R' s₂ := fun ⟨h', tk, m', n', e, F, N, o, r⟩ => ⟨h', tk, m', n', e, F, N, o, h _ _ r⟩
  cases f with
  | ret v => exact p
  | brk => exact p
  | next => exact k p
  | cont => exact k p
/-- A loop over a list of the ledger by what holds between the turns. -/
theorem listRest_inv {I : Addr} {lp : Addr × Obj} (P : Value → Prop) (J : (Str → Option Value) → List (Addr × Obj) → Prop) (hJ : ∀ m n, J m n → lp ∈ n)
    (turn : ∀ v it h tk m₁ n₁, P v → it.cls = .type "list_iterator" → J m₁ n₁ → Fr h₀ env.locals h (fun y => if y = x then some v else m₁ y) → News h₀ env.locals h ((I, it) :: n₁) →
      wpAny (model prog w) A (execs body env) (UnrPost h₀ env.locals { s with heap := h, toks := tk } I it J Q) E { s with heap := h, toks := tk })
    (done : ∀ m₁ n₁ h tk, J m₁ n₁ → Fr h₀ env.locals h m₁ → News h₀ env.locals h n₁ → Q .next { s with heap := h, toks := tk }) :
    ∀ (vs : List Value) m₁ n₁, (∀ v ∈ vs, P v) → J m₁ n₁ → ListRest prog w A E h₀ env x body Q s I lp vs m₁ n₁
  | [], m₁, n₁, _, j => fun h tk F N => done m₁ n₁ h tk j F N
  | v :: r, m₁, n₁, hv, j => fun it h tk hc F N =>
    wpAny_mono (turn v it h tk m₁ n₁ (hv v (.head _)) hc j F N) (unrPost_mono fun m n j' => ⟨hJ m n j', listRest_inv P J hJ turn done r m n (fun u hu => hv u (.tail _ hu)) j'⟩) fun _ _ e => e
/-- The ledger stands, and two names of the frame alone are turned. -/
theorem iter_same {ax : Addr} {vs : List Value} {c : Nat} {m₀ : Str → Option Value} {news : List (Addr × Obj)} (y : Str) (P : Value → Prop)
    (hh : A.handled = none) (F : Fr h₀ env.locals s.heap m₀) (N : News h₀ env.locals s.heap news) (hm : (ax, W.listOf vs.toArray c) ∈ news) (hv : ∀ v ∈ vs, P v)
    (turn : ∀ (I : Addr) v it h tk u u', (∀ p ∈ news, p.1 < I) → P v → it.cls = .type "list_iterator" → Fr h₀ env.locals h (fun z => if z = x then some v else if z = y then u else if z = x then u' else m₀ z) → News h₀ env.locals h ((I, it) :: news) →
      wpAny (model prog w) A (execs body env) (UnrPost h₀ env.locals { s with heap := h, toks := tk } I it (fun m n => n = news ∧ ∀ z, z ≠ x → z ≠ y → m z = m₀ z) Q) E { s with heap := h, toks := tk })
    (done : ∀ u u' h tk, Fr h₀ env.locals h (fun z => if z = y then u else if z = x then u' else m₀ z) → News h₀ env.locals h news → Q .next { s with heap := h, toks := tk }) :
    wpAny (model prog w) A (pyIter (.ref ax)) (fun it s₂ => LoopAtV prog w A h₀ env x body Q E it s₂) E s := by
  have e : ∀ m : Str → Option Value, (∀ z, z ≠ x → z ≠ y → m z = m₀ z) → m = fun z => if z = y then m y else if z = x then m x else m₀ z := by
    intro m hm
    funext z
    by_cases h1 : z = y
    · simp [h1]
    · by_cases h2 : z = x
      · subst h2; simp [h1]
      · simp [h1, h2, hm z h2 h1]
  refine iter_listUnr hh F N hm rfl rfl fun I hI => listRest_inv P (fun m n => n = news ∧ ∀ z, z ≠ x → z ≠ y → m z = m₀ z) (fun m n j => j.1 ▸ hm) (fun v it h tk m₁ n₁ hp hc j F' N' => ?_) (fun m₁ n₁ h tk j F' N' => ?_) vs m₀ news hv ⟨rfl, fun _ _ _ => rfl⟩
  · obtain ⟨rfl, j⟩ := j
    rw [e m₁ j] at F'
    exact turn I v it h tk _ _ hI hp hc F' N'
  · obtain ⟨rfl, j⟩ := j
    rw [e m₁ j] at F'
    exact done _ _ h tk F' N'
/-- The end of a turn of such a loop. -/
theorem unrEnd_same {L I : Addr} {it : Obj} {s₁ : Shared} {h' : Heap} {tk : Nat} {m' m₀ : Str → Option Value} {y : Str} {all news : List (Addr × Obj)} (F : Fr h₀ L h' m') (N : News h₀ L h' all) (hs : ∀ p ∈ (I, it) :: news, p ∈ all) (ho : ∀ p ∈ news, p.1 < I)
    (hm : ∀ z, z ≠ x → z ≠ y → m' z = m₀ z) : UnrEnd h₀ L s₁ I it (fun m n => n = news ∧ ∀ z, z ≠ x → z ≠ y → m z = m₀ z) { s₁ with heap := h', toks := tk } :=
  UnrEnd.intro F N news hs (fun p hp => Nat.ne_of_lt (ho p hp)) ⟨rfl, hm⟩
/-- One object of the ledger is turned, and two names of the frame. -/
theorem iter_upd {ax l : Addr} {o : Obj} {upd : Obj → List (Addr × Obj)} {vs : List Value} {c : Nat} {m₀ : Str → Option Value} {news : List (Addr × Obj)} (y : Str) (P : Value → Prop) (C : Obj → Prop)
    (hh : A.handled = none) (F : Fr h₀ env.locals s.heap m₀) (N : News h₀ env.locals s.heap news) (U : ∀ o', Upd l o o' news (upd o')) (hC : C o) (hm : ∀ o', (ax, W.listOf vs.toArray c) ∈ upd o') (hv : ∀ v ∈ vs, P v)
    (turn : ∀ (I : Addr) v it h tk u u' o', (∀ o', ∀ p ∈ upd o', p.1 < I) → P v → it.cls = .type "list_iterator" → C o' → Fr h₀ env.locals h (fun z => if z = x then some v else if z = y then u else if z = x then u' else m₀ z) → News h₀ env.locals h ((I, it) :: upd o') →
      wpAny (model prog w) A (execs body env) (UnrPost h₀ env.locals { s with heap := h, toks := tk } I it (fun m n => (∃ o', C o' ∧ n = upd o') ∧ ∀ z, z ≠ x → z ≠ y → m z = m₀ z) Q) E { s with heap := h, toks := tk })
    (done : ∀ u u' o' h tk, C o' → Fr h₀ env.locals h (fun z => if z = y then u else if z = x then u' else m₀ z) → News h₀ env.locals h (upd o') → Q .next { s with heap := h, toks := tk }) :
    wpAny (model prog w) A (pyIter (.ref ax)) (fun it s₂ => LoopAtV prog w A h₀ env x body Q E it s₂) E s := by
  have e : ∀ m : Str → Option Value, (∀ z, z ≠ x → z ≠ y → m z = m₀ z) → m = fun z => if z = y then m y else if z = x then m x else m₀ z := by
    intro m hm
    funext z
    by_cases h1 : z = y
    · simp [h1]
    · by_cases h2 : z = x
      · subst h2; simp [h1]
      · simp [h1, h2, hm z h2 h1]
  have eo : upd o = news := by
    obtain ⟨pre, post, e1, e2, _, _⟩ := (U o).split
    rw [e1, e2]
  have ad : ∀ I : Addr, (∀ p ∈ news, p.1 < I) → ∀ o', ∀ p ∈ upd o', p.1 < I := by
    intro I hI o' p hp
    obtain ⟨pre, post, e1, e2, _, _⟩ := (U o').split
    rw [e2] at hp
    rw [e1] at hI
    rcases List.mem_append.mp hp with hp | hp
    · exact hI _ (List.mem_append_left _ hp)
    · rcases List.mem_cons.mp hp with rfl | hp
      · exact hI (l, o) (List.mem_append_right _ (.head _))
      · exact hI _ (List.mem_append_right _ (.tail _ hp))
  refine iter_listUnr hh F N (eo ▸ hm o) rfl rfl fun I hI => listRest_inv P (fun m n => (∃ o', C o' ∧ n = upd o') ∧ ∀ z, z ≠ x → z ≠ y → m z = m₀ z) (fun m n j => by obtain ⟨⟨o', _, rfl⟩, _⟩ := j; exact hm o') (fun v it h tk m₁ n₁ hp hc j F' N' => ?_) (fun m₁ n₁ h tk j F' N' => ?_) vs m₀ news hv ⟨⟨o, hC, eo.symm⟩, fun _ _ _ => rfl⟩
  · obtain ⟨⟨o', hC', rfl⟩, j⟩ := j
    rw [e m₁ j] at F'
    exact turn I v it h tk _ _ o' (ad I hI) hp hc hC' F' N'
  · obtain ⟨⟨o', hC', rfl⟩, j⟩ := j
    rw [e m₁ j] at F'
    exact done _ _ o' h tk hC' F' N'
theorem unrEnd_upd {L I : Addr} {it : Obj} {s₁ : Shared} {h' : Heap} {tk : Nat} {m' m₀ : Str → Option Value} {y : Str} {all : List (Addr × Obj)} {upd : Obj → List (Addr × Obj)} {C : Obj → Prop} (o' : Obj) (F : Fr h₀ L h' m') (N : News h₀ L h' all) (hC : C o')
    (hs : ∀ p ∈ (I, it) :: upd o', p ∈ all) (ho : ∀ o', ∀ p ∈ upd o', p.1 < I) (hm : ∀ z, z ≠ x → z ≠ y → m' z = m₀ z) : UnrEnd h₀ L s₁ I it (fun m n => (∃ o', C o' ∧ n = upd o') ∧ ∀ z, z ≠ x → z ≠ y → m z = m₀ z) { s₁ with heap := h', toks := tk } :=
  UnrEnd.intro F N (upd o') hs (fun p hp => Nat.ne_of_lt (ho o' p hp)) ⟨⟨o', hC, rfl⟩, hm⟩
end loop
def CellW (o : Obj) : Prop := ∃ v, o.data = Data.cell v
def OpV (v : Value) : Prop := ∃ op f g t, v = .str op t ∧ (op, f, g) ∈ opT
theorem opV_of {op : Str} {t : Tok} (h : op ∈ opT.map (·.1)) : OpV (.str op t) := by
  obtain ⟨q, hq, rfl⟩ := List.mem_map.mp h
  exact ⟨_, _, _, _, rfl, hq⟩
theorem news_drop4 {h₀ h : Heap} {L : Addr} {a b c d : Addr × Obj} {r : List (Addr × Obj)} (N : News h₀ L h (a :: b :: c :: d :: r)) : News h₀ L h r := fun q hq => N q (.tail _ (.tail _ (.tail _ (.tail _ hq))))
theorem news_drop3 {h₀ h : Heap} {L : Addr} {a b c : Addr × Obj} {r : List (Addr × Obj)} (N : News h₀ L h (a :: b :: c :: r)) : News h₀ L h r := fun q hq => N q (.tail _ (.tail _ (.tail _ hq)))
theorem news_drop23 {h₀ h : Heap} {L : Addr} {a b c : Addr × Obj} {r : List (Addr × Obj)} (N : News h₀ L h (a :: b :: c :: r)) : News h₀ L h (a :: r) := fun q hq => (List.mem_cons.mp hq).elim (fun e => N q (e ▸ .head _)) fun hq => N q (.tail _ (.tail _ (.tail _ hq)))
end
section

section rcomp
open PyProof.Rows.LCg PySem.Spec
variable {prog : Program} {w : World} {A : Around} {E : Value → Shared → Prop} {s : Shared} {h₀ : Heap} {L : Addr} {m : Str → Option Value} {env : Env}

/-- The element of a comprehension over a range at one place: it reads, and gives one int. -/
def EltI (prog : Program) (w : World) (A : Around) (h₀ : Heap) (L : Addr) (m : Str → Option Value) (env : Env) (elt : Expr) (x : Str) (scope : Scope) (cl : List (Str × Addr)) (news : List (Addr × Obj)) (k g : Int) : Prop :=
  ∀ (tx : Tok) (C : Addr) (oC : Obj) (m₂ : Str → Option Value) (big : List (Addr × Obj)) (s' : Shared) (Q' E' : Value → Shared → Prop),
    NsObj oC m₂ → m₂ x = some (.int k tx) → (C, oC) ∈ big → (∀ q ∈ news, q ∈ big) → Fr h₀ L s'.heap m → News h₀ L s'.heap big →
    (∀ t h' tk', Fr h₀ L h' m → News h₀ L h' big → Q' (.int g t) { s' with heap := h', toks := tk' }) →
    wpAny (model prog w) A (eval elt (compEnvC scope cl C env)) Q' E' s'

theorem rest_elt {elt : Expr} {x : Str} {scope : Scope} {cl : List (Str × Addr)} {Fin : List Value → List (Addr × Obj) → Prop} {news : List (Addr × Obj)} (G : Nat → Int) (n : Nat)
    (helt : ∀ i, i < n → EltI prog w A h₀ L m env elt x scope cl news (0 + (i : Int)) (G i))
    (fin : ∀ ys, ys.length = n → (∀ j y, ys[j]? = some y → ∃ t, y = Value.int (G j) t) → Fin ys news) :
    ∀ k i ys, i + k = n → ys.length = i → (∀ j y, ys[j]? = some y → ∃ t, y = Value.int (G j) t) →
      CompRest prog w A h₀ L m env elt x scope cl s (fun _ => True) (fun i v => ∃ t, v = Value.int (0 + (i : Int)) t) Fin k i ys news
  | 0, i, ys, hi, hl, hy => fin ys (by omega) hy
  | k + 1, i, ys, hi, hl, hy => by
    refine CompRest.succ fun v I oI C oC D m₂ h tk E' hP hC hx F N off ne => ?_
    obtain ⟨tv, rfl⟩ := hP
    refine helt i (by omega) tv C oC m₂ ((I, oI) :: (C, oC) :: (D, lst ys) :: news) _ _ _ hC hx (.tail _ (.head _)) (fun q hq => .tail _ (.tail _ (.tail _ hq))) F N fun t h' tk' F' N' => ?_
    refine CompEnd.intro F' N' news (fun p hp => hp) off trivial (rest_elt G n helt fin k (i + 1) (ys ++ [.int (G i) t]) (by omega) (by simp [hl]) fun j y e => ?_)
    by_cases hj : j < ys.length
    · rw [List.getElem?_append_left hj] at e
      exact hy j y e
    · rw [List.getElem?_append_right (Nat.not_lt.mp hj)] at e
      have hj0 : j - ys.length = 0 := by
        cases hq : j - ys.length with
        | zero => rfl
        | succ q => rw [hq] at e; simp at e
      have hji : j = i := by omega
      rw [hj0] at e
      simp only [List.getElem?_cons_zero, Option.some.injEq] at e
      exact ⟨t, by rw [hji, ← e]⟩

theorem src_range4 (g0 g1 g2 g3 : Int) {elt : Expr} {x : Str} {scope : Scope} {cl : List (Str × Addr)} {Fin : Shared → List Value → List (Addr × Obj) → Prop} {r : Addr} {t u v : Tok} {news : List (Addr × Obj)} {s₁ : Shared}
    (hh : A.handled = none) (F : Fr h₀ L s₁.heap m) (N : News h₀ L s₁.heap news) (hr : IsRange s₁.heap r 0 4 1 t u v)
    (e0 : EltI prog w A h₀ L m env elt x scope cl news 0 g0) (e1 : EltI prog w A h₀ L m env elt x scope cl news 1 g1) (e2 : EltI prog w A h₀ L m env elt x scope cl news 2 g2) (e3 : EltI prog w A h₀ L m env elt x scope cl news 3 g3)
    (fin : ∀ g w0 w1 w2 w3, Fin { s₁ with heap := g } [Value.int g0 w0, .int g1 w1, .int g2 w2, .int g3 w3] news) :
    CompSrc prog w A h₀ L m env elt x scope cl Fin (.ref r) s₁ := by
  refine CompSrc.range (n := 4) hh F N hr (by decide) (by rfl) (Nat.le_of_ble_eq_true rfl) fun g => ?_
  refine rest_elt (fun i => [g0, g1, g2, g3].getD i 0) 4 (fun i hi => ?_) (fun ys hl hy => ?_) 4 0 [] rfl rfl (fun j y e => by simp at e)
  · match i, hi with
    | 0, _ => exact e0
    | 1, _ => exact e1
    | 2, _ => exact e2
    | 3, _ => exact e3
  · match ys, hl with
    | [a, b, c, d], _ =>
      obtain ⟨w0, q0⟩ := hy 0 a rfl
      obtain ⟨w1, q1⟩ := hy 1 b rfl
      obtain ⟨w2, q2⟩ := hy 2 c rfl
      obtain ⟨w3, q3⟩ := hy 3 d rfl
      subst q0; subst q1; subst q2; subst q3
      exact fin g w0 w1 w2 w3
theorem src_range3 (g0 g1 g2 : Int) {elt : Expr} {x : Str} {scope : Scope} {cl : List (Str × Addr)} {Fin : Shared → List Value → List (Addr × Obj) → Prop} {r : Addr} {t u v : Tok} {news : List (Addr × Obj)} {s₁ : Shared}
    (hh : A.handled = none) (F : Fr h₀ L s₁.heap m) (N : News h₀ L s₁.heap news) (hr : IsRange s₁.heap r 0 3 1 t u v)
    (e0 : EltI prog w A h₀ L m env elt x scope cl news 0 g0) (e1 : EltI prog w A h₀ L m env elt x scope cl news 1 g1) (e2 : EltI prog w A h₀ L m env elt x scope cl news 2 g2)
    (fin : ∀ g w0 w1 w2, Fin { s₁ with heap := g } [Value.int g0 w0, .int g1 w1, .int g2 w2] news) :
    CompSrc prog w A h₀ L m env elt x scope cl Fin (.ref r) s₁ := by
  refine CompSrc.range (n := 3) hh F N hr (by decide) (by rfl) (Nat.le_of_ble_eq_true rfl) fun g => ?_
  refine rest_elt (fun i => [g0, g1, g2].getD i 0) 3 (fun i hi => ?_) (fun ys hl hy => ?_) 3 0 [] rfl rfl (fun j y e => by simp at e)
  · match i, hi with
    | 0, _ => exact e0
    | 1, _ => exact e1
    | 2, _ => exact e2
  · match ys, hl with
    | [a, b, c], _ =>
      obtain ⟨w0, q0⟩ := hy 0 a rfl
      obtain ⟨w1, q1⟩ := hy 1 b rfl
      obtain ⟨w2, q2⟩ := hy 2 c rfl
      subst q0; subst q1; subst q2
      exact fin g w0 w1 w2
end rcomp
end
section
theorem lines_20 : True := by
  w_top off
  k_with_none
  k_with "con_sub" => first | exact List.forall_mem_nil _ | (refine' List.forall_mem_cons.mpr ⟨?zL23a, ?zL23b⟩; (case zL23a => k_mem); (case zL23b => walk_at "con_sub"))
  k_with "con_off" => first | exact List.forall_mem_nil _ | (refine' List.forall_mem_cons.mpr ⟨?zL24a, ?zL24b⟩; (case zL24a => k_ne); (case zL24b => walk_at "con_off"))
  k_with "con_one" => (
  refine' con_end_one hret hrest' ?zrF ?zrN ?zrk ?zrn ?zrm ?_ ?zrD ?zrs
  case zrF => k_asm
  case zrN => k_asm
  case zrk => k_asm
  case zrn => k_asm
  case zrm => k_mem
  case zrD => walk_at "con_off"
  case zrs => walk_at "con_sub")
  k_with "con_val" => (
  refine' con_end_val hret hrest' ?zrF ?zrN ?zrk ?zrn ?_ ?zrs
  case zrF => k_asm
  case zrN => k_asm
  case zrk => k_asm
  case zrn => k_asm
  case zrs => walk_at "con_sub")
  trivial
theorem lines_21 : True := by
  k_with "con_enter" => (
  unfold CC Con
  k_fill
  intro dp un gd cn cs a ccd cl outer A₀ base h₀ L m news s Q E B F X N T hk hsub hd hu hret
  refine wpAny_call ?_
  k_dflt (refine' code_sub B F X N T hsub ?kA ?kF ?kK ?k6 ?k7 ?k8 ?k9 ?kB ?_ ?c2 ?c3 ?c4 ?c5; (case kA => exact rfl); (case kF => exact rfl); (case kK => assumption); (case k6 => k_is); (case k7 => k_is); (case k8 => ktr_room); (case k9 => exact BindsTo.of_eq rfl); (case c5 => decide); (case kB => exact locs rfl); (case c2 => exact rfl); (case c3 => exact rfl); (case c4 => exact rfl); k_whole; intro g' L' h' FG' F' N' B' X' T' hrest'; (try dsimp only); (try k_fold)))
  k_with "con_enterC" => (
  unfold CC Con
  k_fill
  intro dp un gd cn cs a ccd cl outer A₀ base h₀ L m news s Q E B F X N T hk hsub hd hu hret
  refine wpAny_call ?_
  k_dflt (refine' code_subC B F X N T hsub ?kA ?kF ?kK ?k6 ?k7 ?k8 ?k9 ?kB ?kD ?_ ?c2 ?c3 ?c4; (case kA => exact rfl); (case kF => exact rfl); (case kK => assumption); (case k6 => k_is); (case k7 => k_is); (case k8 => ktr_room); (case k9 => exact BindsTo.of_eq rfl); (case kB => exact rfl); (case kD => decide +kernel); (case c2 => exact rfl); (case c3 => exact rfl); (case c4 => exact rfl); k_whole; intro g' L' h' tk' cells' FG' F' N' Y' B' X' T' l1 hrest'; (try k_lt l1); k_cells Y'; (try simp only [List.cons_append, List.nil_append] at N'); (try dsimp only); (try k_fold)))
  k_with "subscriptTail Name Constant ref int" => (k_here; (with_reducible show wpAny _ _ (subscriptTail _ _ (Value.ref _) (Value.int _ _)) _ _ _); k_dflt (refine' item_led ?zL25N ?zL25m ?zL25a ?zL25b ?zL25d ?_; (case zL25N => k_asm); (case zL25m => k_mem); (case zL25a => decide); (case zL25b => decide); (case zL25d => rfl); k_whole))
  trivial
theorem lines_22 : True := by
  k_with "ktr_room" => ((try simp only [depth_under_make, depth_under_kw, depth_in1, depth_deeper, depth_caller]); (try dsimp only [ktrTop]); first | with_reducible exact room0 hd | with_reducible exact room1 hd rfl | with_reducible exact room2 hd rfl | with_reducible exact room3 hd rfl | with_reducible exact room4 hd rfl | (trace "ROOM by omega"; omega))
  k_with "ktr_units" => ((try simp only [units_in1, units_deeper, Around.mark_units, units_caller]); (try dsimp only [ktrTop]); first | with_reducible exact room1 hu rfl | with_reducible exact room2 hu rfl | with_reducible exact room3 hu rfl | with_reducible exact room4 hu rfl | (have hcL9 := cLine_is; trace "UNITS by omega"; trace_state; omega))
  k_with "in255" => first | with_reducible assumption | with_reducible exact k255 | with_reducible exact b255 (by assumption) (by assumption) | with_reducible exact a255 (by assumption) (by assumption) | with_reducible exact c255 (by assumption) (by assumption) | exact ⟨by omega, by omega⟩ | omega
  trivial
theorem lines_23 : True := by
  k_with "split_ne" => ((repeat (rename (@Ne Nat _ _ ∧ _) ∧ _ => hz9; (have hz8 := hz9.1); (have hz7 := hz9.2); clear hz9)); (repeat (rename @Ne Nat _ _ ∧ _ => hz9; (have hz8 := hz9.1); (have hz7 := hz9.2); clear hz9)))
  k_with "k_ne" => (refine neN ?_; (try dsimp only); first | assumption | exact Ne.symm (by assumption) | ((repeat (rename @Ne Nat _ _ => hz9; clear hz9)); (repeat (rename @Ne Nat _ _ ∧ _ => hz9; clear hz9)); (repeat (rename (@Ne Nat _ _ ∧ _) ∧ _ => hz9; clear hz9)); omega))
  trivial
theorem lines_24 : True := by
  k_with "k_room" => ktr_room
  trivial
abbrev pairD (P : Params) (x al y be : Int) (k1 k2 k3 k4 t1 t2 t3 t4 : Tok) : Obj :=
  dictOf [⟨PyData.keyHash P (S "one"), .str (S "one") k1, .int x t1⟩, ⟨PyData.keyHash P (S "alpha"), .str (S "alpha") k2, .int al t2⟩, ⟨PyData.keyHash P (S "other"), .str (S "other") k3, .int y t3⟩, ⟨PyData.keyHash P (S "beta"), .str (S "beta") k4, .int be t4⟩] 4
theorem con_first {w : World} {loose : List Str} {mean : ExcName → Option Value} {mg mb : Str → Option Value} (pi pd : Addr) (hne : @Ne Nat pd pi) (x al y be : Int) (k1 k2 k3 k4 t1 t2 t3 t4 : Tok) (hx : 0 ≤ x ∧ x ≤ 255) (hal : 0 ≤ al ∧ al ≤ 255) (hy : 0 ≤ y ∧ y ≤ 255) (hbe : 0 ≤ be ∧ be ≤ 255) :
    CC w loose mean mg mb 98 1 [(pi, instObj 129 pd), (pd, pairD w.params x al y be k1 k2 k3 k4 t1 t2 t3 t4)] [.ref pi] (PureP [(pi, instObj 129 pd), (pd, pairD w.params x al y be k1 k2 k3 k4 t1 t2 t3 t4)] (IntP (x * be))) := by
  walk_at "con_enter"
  k_steps
  walk_at "con_val"
  exact ⟨rfl, _, rfl⟩
theorem con_second {w : World} {loose : List Str} {mean : ExcName → Option Value} {mg mb : Str → Option Value} (pi pd : Addr) (hne : @Ne Nat pd pi) (x al y be : Int) (k1 k2 k3 k4 t1 t2 t3 t4 : Tok) (hx : 0 ≤ x ∧ x ≤ 255) (hal : 0 ≤ al ∧ al ≤ 255) (hy : 0 ≤ y ∧ y ≤ 255) (hbe : 0 ≤ be ∧ be ≤ 255) :
    CC w loose mean mg mb 105 1 [(pi, instObj 129 pd), (pd, pairD w.params x al y be k1 k2 k3 k4 t1 t2 t3 t4)] [.ref pi] (PureP [(pi, instObj 129 pd), (pd, pairD w.params x al y be k1 k2 k3 k4 t1 t2 t3 t4)] (IntP (y * al))) := by
  walk_at "con_enter"
  k_steps
  walk_at "con_val"
  exact ⟨rfl, _, rfl⟩
theorem con_product {w : World} {loose : List Str} {mean : ExcName → Option Value} {mg mb : Str → Option Value} (pi pd : Addr) (hne : @Ne Nat pd pi) (x al y be : Int) (k1 k2 k3 k4 t1 t2 t3 t4 : Tok) (hx : 0 ≤ x ∧ x ≤ 255) (hal : 0 ≤ al ∧ al ≤ 255) (hy : 0 ≤ y ∧ y ≤ 255) (hbe : 0 ≤ be ∧ be ≤ 255) :
    CC w loose mean mg mb 112 1 [(pi, instObj 129 pd), (pd, pairD w.params x al y be k1 k2 k3 k4 t1 t2 t3 t4)] [.ref pi] (PureP [(pi, instObj 129 pd), (pd, pairD w.params x al y be k1 k2 k3 k4 t1 t2 t3 t4)] (IntP (x * y))) := by
  walk_at "con_enter"
  k_steps
  walk_at "con_val"
  exact ⟨rfl, _, rfl⟩
end
section
theorem lines_25 : True := by
  w_top off
  k_with_none
  k_with "con_sub" => first | exact List.forall_mem_nil _ | (refine' List.forall_mem_cons.mpr ⟨?zL30a, ?zL30b⟩; (case zL30a => k_mem); (case zL30b => walk_at "con_sub"))
  k_with "con_off" => first | exact List.forall_mem_nil _ | (refine' List.forall_mem_cons.mpr ⟨?zL31a, ?zL31b⟩; (case zL31a => k_ne); (case zL31b => walk_at "con_off"))
  k_with "con_one" => (
  refine' con_end_one hret hrest' ?zrF ?zrN ?zrk ?zrn ?zrm ?_ ?zrD ?zrs
  case zrF => k_asm
  case zrN => k_asm
  case zrk => k_asm
  case zrn => k_asm
  case zrm => k_mem
  case zrD => walk_at "con_off"
  case zrs => walk_at "con_sub")
  k_with "con_val" => (
  refine' con_end_val hret hrest' ?zrF ?zrN ?zrk ?zrn ?_ ?zrs
  case zrF => k_asm
  case zrN => k_asm
  case zrk => k_asm
  case zrn => k_asm
  case zrs => walk_at "con_sub")
  trivial
theorem lines_26 : True := by
  k_with "con_enter" => (
  unfold CC Con
  k_fill
  intro dp un gd cn cs a ccd cl outer A₀ base h₀ L m news s Q E B F X N T hk hsub hd hu hret
  refine wpAny_call ?_
  k_dflt (refine' code_sub B F X N T hsub ?kA ?kF ?kK ?k6 ?k7 ?k8 ?k9 ?kB ?_ ?c2 ?c3 ?c4 ?c5; (case kA => exact rfl); (case kF => exact rfl); (case kK => assumption); (case k6 => k_is); (case k7 => k_is); (case k8 => ktr_room); (case k9 => exact BindsTo.of_eq rfl); (case c5 => decide); (case kB => exact locs rfl); (case c2 => exact rfl); (case c3 => exact rfl); (case c4 => exact rfl); k_whole; intro g' L' h' FG' F' N' B' X' T' hrest'; (try dsimp only); (try k_fold)))
  k_with "con_enterC" => (
  unfold CC Con
  k_fill
  intro dp un gd cn cs a ccd cl outer A₀ base h₀ L m news s Q E B F X N T hk hsub hd hu hret
  refine wpAny_call ?_
  k_dflt (refine' code_subC B F X N T hsub ?kA ?kF ?kK ?k6 ?k7 ?k8 ?k9 ?kB ?kD ?_ ?c2 ?c3 ?c4; (case kA => exact rfl); (case kF => exact rfl); (case kK => assumption); (case k6 => k_is); (case k7 => k_is); (case k8 => ktr_room); (case k9 => exact BindsTo.of_eq rfl); (case kB => exact rfl); (case kD => decide +kernel); (case c2 => exact rfl); (case c3 => exact rfl); (case c4 => exact rfl); k_whole; intro g' L' h' tk' cells' FG' F' N' Y' B' X' T' l1 hrest'; (try k_lt l1); k_cells Y'; (try simp only [List.cons_append, List.nil_append] at N'); (try dsimp only); (try k_fold)))
  k_with "subscriptTail Name Constant ref int" => (k_here; (with_reducible show wpAny _ _ (subscriptTail _ _ (Value.ref _) (Value.int _ _)) _ _ _); k_dflt (refine' item_led ?zL32N ?zL32m ?zL32a ?zL32b ?zL32d ?_; (case zL32N => k_asm); (case zL32m => k_mem); (case zL32a => decide); (case zL32b => decide); (case zL32d => rfl); k_whole))
  trivial
theorem lines_27 : True := by
  k_with "ktr_room" => ((try simp only [depth_under_make, depth_under_kw, depth_in1, depth_deeper, depth_caller]); (try dsimp only [ktrTop]); first | with_reducible exact room0 hd | with_reducible exact room1 hd rfl | with_reducible exact room2 hd rfl | with_reducible exact room3 hd rfl | with_reducible exact room4 hd rfl | (trace "ROOM by omega"; omega))
  k_with "ktr_units" => ((try simp only [units_in1, units_deeper, Around.mark_units, units_caller]); (try dsimp only [ktrTop]); first | with_reducible exact room1 hu rfl | with_reducible exact room2 hu rfl | with_reducible exact room3 hu rfl | with_reducible exact room4 hu rfl | (have hcL9 := cLine_is; trace "UNITS by omega"; trace_state; omega))
  k_with "in255" => first | with_reducible assumption | with_reducible exact k255 | with_reducible exact b255 (by assumption) (by assumption) | with_reducible exact a255 (by assumption) (by assumption) | with_reducible exact c255 (by assumption) (by assumption) | exact ⟨by omega, by omega⟩ | omega
  trivial
theorem lines_28 : True := by
  k_with "split_ne" => ((repeat (rename (@Ne Nat _ _ ∧ _) ∧ _ => hz9; (have hz8 := hz9.1); (have hz7 := hz9.2); clear hz9)); (repeat (rename @Ne Nat _ _ ∧ _ => hz9; (have hz8 := hz9.1); (have hz7 := hz9.2); clear hz9)))
  k_with "k_ne" => (refine neN ?_; (try dsimp only); first | assumption | exact Ne.symm (by assumption) | ((repeat (rename @Ne Nat _ _ => hz9; clear hz9)); (repeat (rename @Ne Nat _ _ ∧ _ => hz9; clear hz9)); (repeat (rename (@Ne Nat _ _ ∧ _) ∧ _ => hz9; clear hz9)); omega))
  trivial
theorem lines_29 : True := by
  k_with "k_room" => ktr_room
  trivial
theorem lines_30 : True := by
  k_with "con_use" => (
  (case zuk1 => k_asm); (case zuk2 => k_asm); (case zuk3 => k_asm); (case zuk4 => k_asm); (case zuk5 => k_asm); (case zukK => first | exact rfl | assumption); (case zukS => walk_at "con_sub"); (case zukd => ktr_room); (case zuku => ktr_units))
  k_with "call ref" => (k_here; k_dflt (refine' con_int ?zuk1 ?zuk2 ?zuk3 ?zuk4 ?zuk5 ?zukK (con_rounded _ _ _) ?zukS ?zukd ?zuku ?_; walk_at "con_use"; k_whole; intro t h' tk' F' N'))
  k_with "call ref" => (k_here; k_dflt (refine' con_int ?zuk1 ?zuk2 ?zuk3 ?zuk4 ?zuk5 ?zukK (con_mixed _ _ _ _ _ _ _ _ ?zua ?zub ?zuc ?zud) ?zukS ?zukd ?zuku ?_; walk_at "con_use"; (case zua => walk_at "in255"); (case zub => walk_at "in255"); (case zuc => walk_at "in255"); (case zud => walk_at "in255"); k_whole; intro t h' tk' F' N'))
  trivial
theorem lines_31 : True := by
  k_with "call ref" => (k_here; k_dflt (refine' con_int ?zuk1 ?zuk2 ?zuk3 ?zuk4 ?zuk5 ?zukK (con_first _ _ ?zuh _ _ _ _ _ _ _ _ _ _ _ _ ?zu1 ?zu2 ?zu3 ?zu4) ?zukS ?zukd ?zuku ?_; walk_at "con_use"; (case zuh => k_ne); (case zu1 => walk_at "in255"); (case zu2 => walk_at "in255"); (case zu3 => walk_at "in255"); (case zu4 => walk_at "in255"); k_whole; intro t h' tk' F' N'))
  k_with "call ref" => (k_here; k_dflt (refine' con_int ?zuk1 ?zuk2 ?zuk3 ?zuk4 ?zuk5 ?zukK (con_second _ _ ?zuh _ _ _ _ _ _ _ _ _ _ _ _ ?zu1 ?zu2 ?zu3 ?zu4) ?zukS ?zukd ?zuku ?_; walk_at "con_use"; (case zuh => k_ne); (case zu1 => walk_at "in255"); (case zu2 => walk_at "in255"); (case zu3 => walk_at "in255"); (case zu4 => walk_at "in255"); k_whole; intro t h' tk' F' N'))
  k_with "call ref" => (k_here; k_dflt (refine' con_int ?zuk1 ?zuk2 ?zuk3 ?zuk4 ?zuk5 ?zukK (con_product _ _ ?zuh _ _ _ _ _ _ _ _ _ _ _ _ ?zu1 ?zu2 ?zu3 ?zu4) ?zukS ?zukd ?zuku ?_; walk_at "con_use"; (case zuh => k_ne); (case zu1 => walk_at "in255"); (case zu2 => walk_at "in255"); (case zu3 => walk_at "in255"); (case zu4 => walk_at "in255"); k_whole; intro t h' tk' F' N'))
  trivial
theorem con_hard {w : World} {loose : List Str} {mean : ExcName → Option Value} {mg mb : Str → Option Value} (pi pd : Addr) (hne : @Ne Nat pd pi) (x al y be : Int) (k1 k2 k3 k4 t1 t2 t3 t4 : Tok) (hx : 0 ≤ x ∧ x ≤ 255) (hal : 0 ≤ al ∧ al ≤ 255) (hy : 0 ≤ y ∧ y ≤ 255) (hbe : 0 ≤ be ∧ be ≤ 255) :
    CC w loose mean mg mb 119 3 [(pi, instObj 129 pd), (pd, pairD w.params x al y be k1 k2 k3 k4 t1 t2 t3 t4)] [.ref pi] (PureP [(pi, instObj 129 pd), (pd, pairD w.params x al y be k1 k2 k3 k4 t1 t2 t3 t4)] (IntP (if 2 * x ≤ al then 2 * (x * y) else al * be - 2 * (al - x) * (be - y)))) := by
  by_cases hc : 2 * x ≤ al
  · rw [if_pos hc]
    walk_at "con_enter"
    k_steps
    walk_at "con_val"
    exact ⟨rfl, _, rfl⟩
  · rw [if_neg hc]
    walk_at "con_enter"
    k_steps
    walk_at "con_val"
    exact ⟨rfl, _, rfl⟩
end
section
theorem lines_32 : True := by
  w_top off
  k_with_none
  k_with "con_sub" => first | exact List.forall_mem_nil _ | (refine' List.forall_mem_cons.mpr ⟨?zL37a, ?zL37b⟩; (case zL37a => k_mem); (case zL37b => walk_at "con_sub"))
  k_with "con_off" => first | exact List.forall_mem_nil _ | (refine' List.forall_mem_cons.mpr ⟨?zL38a, ?zL38b⟩; (case zL38a => k_ne); (case zL38b => walk_at "con_off"))
  k_with "con_one" => (
  refine' con_end_one hret hrest' ?zrF ?zrN ?zrk ?zrn ?zrm ?_ ?zrD ?zrs
  case zrF => k_asm
  case zrN => k_asm
  case zrk => k_asm
  case zrn => k_asm
  case zrm => k_mem
  case zrD => walk_at "con_off"
  case zrs => walk_at "con_sub")
  k_with "con_val" => (
  refine' con_end_val hret hrest' ?zrF ?zrN ?zrk ?zrn ?_ ?zrs
  case zrF => k_asm
  case zrN => k_asm
  case zrk => k_asm
  case zrn => k_asm
  case zrs => walk_at "con_sub")
  trivial
theorem lines_33 : True := by
  k_with "con_enter" => (
  unfold CC Con
  k_fill
  intro dp un gd cn cs a ccd cl outer A₀ base h₀ L m news s Q E B F X N T hk hsub hd hu hret
  refine wpAny_call ?_
  k_dflt (refine' code_sub B F X N T hsub ?kA ?kF ?kK ?k6 ?k7 ?k8 ?k9 ?kB ?_ ?c2 ?c3 ?c4 ?c5; (case kA => exact rfl); (case kF => exact rfl); (case kK => assumption); (case k6 => k_is); (case k7 => k_is); (case k8 => ktr_room); (case k9 => exact BindsTo.of_eq rfl); (case c5 => decide); (case kB => exact locs rfl); (case c2 => exact rfl); (case c3 => exact rfl); (case c4 => exact rfl); k_whole; intro g' L' h' FG' F' N' B' X' T' hrest'; (try dsimp only); (try k_fold)))
  k_with "con_enterC" => (
  unfold CC Con
  k_fill
  intro dp un gd cn cs a ccd cl outer A₀ base h₀ L m news s Q E B F X N T hk hsub hd hu hret
  refine wpAny_call ?_
  k_dflt (refine' code_subC B F X N T hsub ?kA ?kF ?kK ?k6 ?k7 ?k8 ?k9 ?kB ?kD ?_ ?c2 ?c3 ?c4; (case kA => exact rfl); (case kF => exact rfl); (case kK => assumption); (case k6 => k_is); (case k7 => k_is); (case k8 => ktr_room); (case k9 => exact BindsTo.of_eq rfl); (case kB => exact rfl); (case kD => decide +kernel); (case c2 => exact rfl); (case c3 => exact rfl); (case c4 => exact rfl); k_whole; intro g' L' h' tk' cells' FG' F' N' Y' B' X' T' l1 hrest'; (try k_lt l1); k_cells Y'; (try simp only [List.cons_append, List.nil_append] at N'); (try dsimp only); (try k_fold)))
  k_with "subscriptTail Name Constant ref int" => (k_here; (with_reducible show wpAny _ _ (subscriptTail _ _ (Value.ref _) (Value.int _ _)) _ _ _); k_dflt (refine' item_led ?zL39N ?zL39m ?zL39a ?zL39b ?zL39d ?_; (case zL39N => k_asm); (case zL39m => k_mem); (case zL39a => decide); (case zL39b => decide); (case zL39d => rfl); k_whole))
  trivial
theorem lines_34 : True := by
  k_with "ktr_room" => ((try simp only [depth_under_make, depth_under_kw, depth_in1, depth_deeper, depth_caller]); (try dsimp only [ktrTop]); first | with_reducible exact room0 hd | with_reducible exact room1 hd rfl | with_reducible exact room2 hd rfl | with_reducible exact room3 hd rfl | with_reducible exact room4 hd rfl | (trace "ROOM by omega"; omega))
  k_with "ktr_units" => ((try simp only [units_in1, units_deeper, Around.mark_units, units_caller]); (try dsimp only [ktrTop]); first | with_reducible exact room1 hu rfl | with_reducible exact room2 hu rfl | with_reducible exact room3 hu rfl | with_reducible exact room4 hu rfl | (have hcL9 := cLine_is; trace "UNITS by omega"; trace_state; omega))
  k_with "in255" => first | with_reducible assumption | with_reducible exact k255 | with_reducible exact b255 (by assumption) (by assumption) | with_reducible exact a255 (by assumption) (by assumption) | with_reducible exact c255 (by assumption) (by assumption) | exact ⟨by omega, by omega⟩ | omega
  trivial
theorem lines_35 : True := by
  k_with "split_ne" => ((repeat (rename (@Ne Nat _ _ ∧ _) ∧ _ => hz9; (have hz8 := hz9.1); (have hz7 := hz9.2); clear hz9)); (repeat (rename @Ne Nat _ _ ∧ _ => hz9; (have hz8 := hz9.1); (have hz7 := hz9.2); clear hz9)))
  k_with "k_ne" => (refine neN ?_; (try dsimp only); first | assumption | exact Ne.symm (by assumption) | ((repeat (rename @Ne Nat _ _ => hz9; clear hz9)); (repeat (rename @Ne Nat _ _ ∧ _ => hz9; clear hz9)); (repeat (rename (@Ne Nat _ _ ∧ _) ∧ _ => hz9; clear hz9)); omega))
  trivial
theorem lines_36 : True := by
  k_with "k_room" => ktr_room
  trivial
theorem lines_37 : True := by
  k_with "con_use" => (
  (case zuk1 => k_asm); (case zuk2 => k_asm); (case zuk3 => k_asm); (case zuk4 => k_asm); (case zuk5 => k_asm); (case zukK => first | exact rfl | assumption); (case zukS => walk_at "con_sub"); (case zukd => ktr_room); (case zuku => ktr_units))
  k_with "call ref" => (k_here; k_dflt (refine' con_int ?zuk1 ?zuk2 ?zuk3 ?zuk4 ?zuk5 ?zukK (con_rounded _ _ _) ?zukS ?zukd ?zuku ?_; walk_at "con_use"; k_whole; intro t h' tk' F' N'))
  k_with "call ref" => (k_here; k_dflt (refine' con_int ?zuk1 ?zuk2 ?zuk3 ?zuk4 ?zuk5 ?zukK (con_mixed _ _ _ _ _ _ _ _ ?zua ?zub ?zuc ?zud) ?zukS ?zukd ?zuku ?_; walk_at "con_use"; (case zua => walk_at "in255"); (case zub => walk_at "in255"); (case zuc => walk_at "in255"); (case zud => walk_at "in255"); k_whole; intro t h' tk' F' N'))
  trivial
theorem lines_38 : True := by
  k_with "call ref" => (k_here; k_dflt (refine' con_int ?zuk1 ?zuk2 ?zuk3 ?zuk4 ?zuk5 ?zukK (con_first _ _ ?zuh _ _ _ _ _ _ _ _ _ _ _ _ ?zu1 ?zu2 ?zu3 ?zu4) ?zukS ?zukd ?zuku ?_; walk_at "con_use"; (case zuh => k_ne); (case zu1 => walk_at "in255"); (case zu2 => walk_at "in255"); (case zu3 => walk_at "in255"); (case zu4 => walk_at "in255"); k_whole; intro t h' tk' F' N'))
  k_with "call ref" => (k_here; k_dflt (refine' con_int ?zuk1 ?zuk2 ?zuk3 ?zuk4 ?zuk5 ?zukK (con_second _ _ ?zuh _ _ _ _ _ _ _ _ _ _ _ _ ?zu1 ?zu2 ?zu3 ?zu4) ?zukS ?zukd ?zuku ?_; walk_at "con_use"; (case zuh => k_ne); (case zu1 => walk_at "in255"); (case zu2 => walk_at "in255"); (case zu3 => walk_at "in255"); (case zu4 => walk_at "in255"); k_whole; intro t h' tk' F' N'))
  k_with "call ref" => (k_here; k_dflt (refine' con_int ?zuk1 ?zuk2 ?zuk3 ?zuk4 ?zuk5 ?zukK (con_product _ _ ?zuh _ _ _ _ _ _ _ _ _ _ _ _ ?zu1 ?zu2 ?zu3 ?zu4) ?zukS ?zukd ?zuku ?_; walk_at "con_use"; (case zuh => k_ne); (case zu1 => walk_at "in255"); (case zu2 => walk_at "in255"); (case zu3 => walk_at "in255"); (case zu4 => walk_at "in255"); k_whole; intro t h' tk' F' N'))
  trivial
theorem lines_39 : True := by
  k_with "call ref" => (k_here; k_dflt (refine' con_int ?zuk1 ?zuk2 ?zuk3 ?zuk4 ?zuk5 ?zukK (con_hard _ _ ?zuh _ _ _ _ _ _ _ _ _ _ _ _ ?zu1 ?zu2 ?zu3 ?zu4) ?zukS ?zukd ?zuku ?_; walk_at "con_use"; (case zuh => k_ne); (case zu1 => walk_at "in255"); (case zu2 => walk_at "in255"); (case zu3 => walk_at "in255"); (case zu4 => walk_at "in255"); k_whole; intro t h' tk' F' N'))
  trivial
theorem lines_40 : True := by
  k_with "compareOp Eq str str" => (k_here; (refine eq_str_cases ?_ ?_) <;> intro hq)
  k_with "exec Raise some none" => (k_here; exfalso; exact no_mode hop (by assumption) (by assumption) (by assumption) (by assumption) (by assumption) (by assumption) (by assumption) (by assumption) (by assumption))
  trivial
set_option maxHeartbeats 8000000 in
theorem con_inner {w : World} {loose : List Str} {mean : ExcName → Option Value} {mg mb : Str → Option Value} (mode : Str) (f : Int → Int → Int → Int → Int) (t0 : Tok) (hop : (mode, f) ∈ modeT) (pi pd : Addr) (hne : @Ne Nat pd pi) (x al y be : Int) (k1 k2 k3 k4 t1 t2 t3 t4 : Tok) (hx : 0 ≤ x ∧ x ≤ 255) (hal : 0 ≤ al ∧ al ≤ 255) (hy : 0 ≤ y ∧ y ≤ 255) (hbe : 0 ≤ be ∧ be ≤ 255) :
    CC w loose mean mg mb 140 6 [(pi, instObj 129 pd), (pd, pairD w.params x al y be k1 k2 k3 k4 t1 t2 t3 t4)] [.str mode t0, .ref pi] (PureP [(pi, instObj 129 pd), (pd, pairD w.params x al y be k1 k2 k3 k4 t1 t2 t3 t4)] (IntP (f x al y be))) := by
  walk_at "con_enter"
  k_steps
  all_goals
    walk_at "con_val"
    refine ⟨rfl, _, congrArg (fun q => Value.int q _) ?_⟩
    rw [mode_is hop (by assumption) (by kernel_rfl)]
    try dsimp only
  all_goals first
    | exact rfl
    | (rw [if_pos (by omega)]; done)
    | (rw [if_neg (by omega)]; done)
    | (rw [if_pos (by omega)]; exact rfl)
    | (rw [if_neg (by omega)]; exact rfl)
end
section
theorem lines_41 : True := by
  w_top off
  k_with_none
  k_with "con_sub" => first | exact List.forall_mem_nil _ | (refine' List.forall_mem_cons.mpr ⟨?zL45a, ?zL45b⟩; (case zL45a => k_mem); (case zL45b => walk_at "con_sub"))
  k_with "con_off" => first | exact List.forall_mem_nil _ | (refine' List.forall_mem_cons.mpr ⟨?zL46a, ?zL46b⟩; (case zL46a => k_ne); (case zL46b => walk_at "con_off"))
  k_with "con_one" => (
  refine' con_end_one hret hrest' ?zrF ?zrN ?zrk ?zrn ?zrm ?_ ?zrD ?zrs
  case zrF => k_asm
  case zrN => k_asm
  case zrk => k_asm
  case zrn => k_asm
  case zrm => k_mem
  case zrD => walk_at "con_off"
  case zrs => walk_at "con_sub")
  k_with "con_val" => (
  refine' con_end_val hret hrest' ?zrF ?zrN ?zrk ?zrn ?_ ?zrs
  case zrF => k_asm
  case zrN => k_asm
  case zrk => k_asm
  case zrn => k_asm
  case zrs => walk_at "con_sub")
  trivial
theorem lines_42 : True := by
  k_with "con_enter" => (
  unfold CC Con
  k_fill
  intro dp un gd cn cs a ccd cl outer A₀ base h₀ L m news s Q E B F X N T hk hsub hd hu hret
  refine wpAny_call ?_
  k_dflt (refine' code_sub B F X N T hsub ?kA ?kF ?kK ?k6 ?k7 ?k8 ?k9 ?kB ?_ ?c2 ?c3 ?c4 ?c5; (case kA => exact rfl); (case kF => exact rfl); (case kK => assumption); (case k6 => k_is); (case k7 => k_is); (case k8 => ktr_room); (case k9 => exact BindsTo.of_eq rfl); (case c5 => decide); (case kB => exact locs rfl); (case c2 => exact rfl); (case c3 => exact rfl); (case c4 => exact rfl); k_whole; intro g' L' h' FG' F' N' B' X' T' hrest'; (try dsimp only); (try k_fold)))
  k_with "con_enterC" => (
  unfold CC Con
  k_fill
  intro dp un gd cn cs a ccd cl outer A₀ base h₀ L m news s Q E B F X N T hk hsub hd hu hret
  refine wpAny_call ?_
  k_dflt (refine' code_subC B F X N T hsub ?kA ?kF ?kK ?k6 ?k7 ?k8 ?k9 ?kB ?kD ?_ ?c2 ?c3 ?c4; (case kA => exact rfl); (case kF => exact rfl); (case kK => assumption); (case k6 => k_is); (case k7 => k_is); (case k8 => ktr_room); (case k9 => exact BindsTo.of_eq rfl); (case kB => exact rfl); (case kD => decide +kernel); (case c2 => exact rfl); (case c3 => exact rfl); (case c4 => exact rfl); k_whole; intro g' L' h' tk' cells' FG' F' N' Y' B' X' T' l1 hrest'; (try k_lt l1); k_cells Y'; (try simp only [List.cons_append, List.nil_append] at N'); (try dsimp only); (try k_fold)))
  k_with "subscriptTail Name Constant ref int" => (k_here; (with_reducible show wpAny _ _ (subscriptTail _ _ (Value.ref _) (Value.int _ _)) _ _ _); k_dflt (refine' item_led ?zL47N ?zL47m ?zL47a ?zL47b ?zL47d ?_; (case zL47N => k_asm); (case zL47m => k_mem); (case zL47a => decide); (case zL47b => decide); (case zL47d => rfl); k_whole))
  trivial
theorem lines_43 : True := by
  k_with "ktr_room" => ((try simp only [depth_under_make, depth_under_kw, depth_in1, depth_deeper, depth_caller]); (try dsimp only [ktrTop]); first | with_reducible exact room0 hd | with_reducible exact room1 hd rfl | with_reducible exact room2 hd rfl | with_reducible exact room3 hd rfl | with_reducible exact room4 hd rfl | (trace "ROOM by omega"; omega))
  k_with "ktr_units" => ((try simp only [units_in1, units_deeper, Around.mark_units, units_caller]); (try dsimp only [ktrTop]); first | with_reducible exact room1 hu rfl | with_reducible exact room2 hu rfl | with_reducible exact room3 hu rfl | with_reducible exact room4 hu rfl | (have hcL9 := cLine_is; trace "UNITS by omega"; trace_state; omega))
  k_with "in255" => first | with_reducible assumption | with_reducible exact k255 | with_reducible exact b255 (by assumption) (by assumption) | with_reducible exact a255 (by assumption) (by assumption) | with_reducible exact c255 (by assumption) (by assumption) | exact ⟨by omega, by omega⟩ | omega
  trivial
theorem lines_44 : True := by
  k_with "split_ne" => ((repeat (rename (@Ne Nat _ _ ∧ _) ∧ _ => hz9; (have hz8 := hz9.1); (have hz7 := hz9.2); clear hz9)); (repeat (rename @Ne Nat _ _ ∧ _ => hz9; (have hz8 := hz9.1); (have hz7 := hz9.2); clear hz9)))
  k_with "k_ne" => (refine neN ?_; (try dsimp only); first | assumption | exact Ne.symm (by assumption) | ((repeat (rename @Ne Nat _ _ => hz9; clear hz9)); (repeat (rename @Ne Nat _ _ ∧ _ => hz9; clear hz9)); (repeat (rename (@Ne Nat _ _ ∧ _) ∧ _ => hz9; clear hz9)); omega))
  trivial
theorem lines_45 : True := by
  k_with "k_room" => ktr_room
  trivial
theorem lines_46 : True := by
  k_with "con_use" => (
  (case zuk1 => k_asm); (case zuk2 => k_asm); (case zuk3 => k_asm); (case zuk4 => k_asm); (case zuk5 => k_asm); (case zukK => first | exact rfl | assumption); (case zukS => walk_at "con_sub"); (case zukd => ktr_room); (case zuku => ktr_units))
  k_with "call ref" => (k_here; k_dflt (refine' con_int ?zuk1 ?zuk2 ?zuk3 ?zuk4 ?zuk5 ?zukK (con_rounded _ _ _) ?zukS ?zukd ?zuku ?_; walk_at "con_use"; k_whole; intro t h' tk' F' N'))
  k_with "call ref" => (k_here; k_dflt (refine' con_int ?zuk1 ?zuk2 ?zuk3 ?zuk4 ?zuk5 ?zukK (con_mixed _ _ _ _ _ _ _ _ ?zua ?zub ?zuc ?zud) ?zukS ?zukd ?zuku ?_; walk_at "con_use"; (case zua => walk_at "in255"); (case zub => walk_at "in255"); (case zuc => walk_at "in255"); (case zud => walk_at "in255"); k_whole; intro t h' tk' F' N'))
  trivial
theorem lines_47 : True := by
  k_with "call ref" => (k_here; k_dflt (refine' con_int ?zuk1 ?zuk2 ?zuk3 ?zuk4 ?zuk5 ?zukK (con_inner _ _ _ ?zuo _ _ ?zuh _ _ _ _ _ _ _ _ _ _ _ _ ?zu1 ?zu2 ?zu3 ?zu4) ?zukS ?zukd ?zuku ?_; walk_at "con_use"; (case zuo => assumption); (case zuh => k_ne); (case zu1 => walk_at "in255"); (case zu2 => walk_at "in255"); (case zu3 => walk_at "in255"); (case zu4 => walk_at "in255"); k_whole; intro t h' tk' F' N'))
  trivial
set_option maxHeartbeats 8000000 in
theorem con_bpart {w : World} {loose : List Str} {mean : ExcName → Option Value} {mg mb : Str → Option Value} (mode : Str) (f : Int → Int → Int → Int → Int) (xs xa xd xb : Int) (t0 t1 t2 t3 t4 : Tok) (hop : (mode, f) ∈ modeT)
    (hs : 0 ≤ xs ∧ xs ≤ xa) (ha : xa ≤ 255) (hd : 0 ≤ xd ∧ xd ≤ xb) (hb : xb ≤ 255) :
    CC w loose mean mg mb 147 8 [] [.str mode t0, .int xs t1, .int xa t2, .int xd t3, .int xb t4] (PureP [] (IntP (rnd (f xs xa xd xb + xs * (255 - xb) + xd * (255 - xa))))) := by
  walk_at "con_enter"
  k_steps
  all_goals
    walk_at "con_val"
    exact ⟨rfl, _, congrArg (fun q => Value.int q _) rfl⟩
end
section
theorem lines_48 : True := by
  w_top off
  k_with_none
  k_with "con_sub" => first | exact List.forall_mem_nil _ | (refine' List.forall_mem_cons.mpr ⟨?zL52a, ?zL52b⟩; (case zL52a => k_mem); (case zL52b => walk_at "con_sub"))
  k_with "con_off" => first | exact List.forall_mem_nil _ | (refine' List.forall_mem_cons.mpr ⟨?zL53a, ?zL53b⟩; (case zL53a => k_ne); (case zL53b => walk_at "con_off"))
  k_with "con_one" => (
  refine' con_end_one hret hrest' ?zrF ?zrN ?zrk ?zrn ?zrm ?_ ?zrD ?zrs
  case zrF => k_asm
  case zrN => k_asm
  case zrk => k_asm
  case zrn => k_asm
  case zrm => k_mem
  case zrD => walk_at "con_off"
  case zrs => walk_at "con_sub")
  k_with "con_val" => (
  refine' con_end_val hret hrest' ?zrF ?zrN ?zrk ?zrn ?_ ?zrs
  case zrF => k_asm
  case zrN => k_asm
  case zrk => k_asm
  case zrn => k_asm
  case zrs => walk_at "con_sub")
  trivial
theorem lines_49 : True := by
  k_with "con_enter" => (
  unfold CC Con
  k_fill
  intro dp un gd cn cs a ccd cl outer A₀ base h₀ L m news s Q E B F X N T hk hsub hd hu hret
  refine wpAny_call ?_
  k_dflt (refine' code_sub B F X N T hsub ?kA ?kF ?kK ?k6 ?k7 ?k8 ?k9 ?kB ?_ ?c2 ?c3 ?c4 ?c5; (case kA => exact rfl); (case kF => exact rfl); (case kK => assumption); (case k6 => k_is); (case k7 => k_is); (case k8 => ktr_room); (case k9 => exact BindsTo.of_eq rfl); (case c5 => decide); (case kB => exact locs rfl); (case c2 => exact rfl); (case c3 => exact rfl); (case c4 => exact rfl); k_whole; intro g' L' h' FG' F' N' B' X' T' hrest'; (try dsimp only); (try k_fold)))
  k_with "con_enterC" => (
  unfold CC Con
  k_fill
  intro dp un gd cn cs a ccd cl outer A₀ base h₀ L m news s Q E B F X N T hk hsub hd hu hret
  refine wpAny_call ?_
  k_dflt (refine' code_subC B F X N T hsub ?kA ?kF ?kK ?k6 ?k7 ?k8 ?k9 ?kB ?kD ?_ ?c2 ?c3 ?c4; (case kA => exact rfl); (case kF => exact rfl); (case kK => assumption); (case k6 => k_is); (case k7 => k_is); (case k8 => ktr_room); (case k9 => exact BindsTo.of_eq rfl); (case kB => exact rfl); (case kD => decide +kernel); (case c2 => exact rfl); (case c3 => exact rfl); (case c4 => exact rfl); k_whole; intro g' L' h' tk' cells' FG' F' N' Y' B' X' T' l1 hrest'; (try k_lt l1); k_cells Y'; (try simp only [List.cons_append, List.nil_append] at N'); (try dsimp only); (try k_fold)))
  k_with "subscriptTail Name Constant ref int" => (k_here; (with_reducible show wpAny _ _ (subscriptTail _ _ (Value.ref _) (Value.int _ _)) _ _ _); k_dflt (refine' item_led ?zL54N ?zL54m ?zL54a ?zL54b ?zL54d ?_; (case zL54N => k_asm); (case zL54m => k_mem); (case zL54a => decide); (case zL54b => decide); (case zL54d => rfl); k_whole))
  trivial
theorem lines_50 : True := by
  k_with "ktr_room" => ((try simp only [depth_under_make, depth_under_kw, depth_in1, depth_deeper, depth_caller]); (try dsimp only [ktrTop]); first | with_reducible exact room0 hd | with_reducible exact room1 hd rfl | with_reducible exact room2 hd rfl | with_reducible exact room3 hd rfl | with_reducible exact room4 hd rfl | (trace "ROOM by omega"; omega))
  k_with "ktr_units" => ((try simp only [units_in1, units_deeper, Around.mark_units, units_caller]); (try dsimp only [ktrTop]); first | with_reducible exact room1 hu rfl | with_reducible exact room2 hu rfl | with_reducible exact room3 hu rfl | with_reducible exact room4 hu rfl | (have hcL9 := cLine_is; trace "UNITS by omega"; trace_state; omega))
  k_with "in255" => first | with_reducible assumption | with_reducible exact k255 | with_reducible exact b255 (by assumption) (by assumption) | with_reducible exact a255 (by assumption) (by assumption) | with_reducible exact c255 (by assumption) (by assumption) | exact ⟨by omega, by omega⟩ | omega
  trivial
theorem lines_51 : True := by
  k_with "split_ne" => ((repeat (rename (@Ne Nat _ _ ∧ _) ∧ _ => hz9; (have hz8 := hz9.1); (have hz7 := hz9.2); clear hz9)); (repeat (rename @Ne Nat _ _ ∧ _ => hz9; (have hz8 := hz9.1); (have hz7 := hz9.2); clear hz9)))
  k_with "k_ne" => (refine neN ?_; (try dsimp only); first | assumption | exact Ne.symm (by assumption) | ((repeat (rename @Ne Nat _ _ => hz9; clear hz9)); (repeat (rename @Ne Nat _ _ ∧ _ => hz9; clear hz9)); (repeat (rename (@Ne Nat _ _ ∧ _) ∧ _ => hz9; clear hz9)); omega))
  trivial
theorem lines_52 : True := by
  k_with "con_use" => (
  (case zuk1 => k_asm); (case zuk2 => k_asm); (case zuk3 => k_asm); (case zuk4 => k_asm); (case zuk5 => k_asm); (case zukK => first | exact rfl | assumption); (case zukS => walk_at "con_sub"); (case zukd => ktr_room); (case zuku => ktr_units))
  k_with "call ref" => (k_here; k_dflt (refine' con_int ?zuk1 ?zuk2 ?zuk3 ?zuk4 ?zuk5 ?zukK (con_rounded _ _ _) ?zukS ?zukd ?zuku ?_; walk_at "con_use"; k_whole; intro t h' tk' F' N'))
  k_with "call ref" => (k_here; k_dflt (refine' con_int ?zuk1 ?zuk2 ?zuk3 ?zuk4 ?zuk5 ?zukK (con_mixed _ _ _ _ _ _ _ _ ?zua ?zub ?zuc ?zud) ?zukS ?zukd ?zuku ?_; walk_at "con_use"; (case zua => walk_at "in255"); (case zub => walk_at "in255"); (case zuc => walk_at "in255"); (case zud => walk_at "in255"); k_whole; intro t h' tk' F' N'))
  trivial
theorem lines_53 : True := by
  k_with "call ref" => (k_here; k_dflt (refine' con_int ?zuk1 ?zuk2 ?zuk3 ?zuk4 ?zuk5 ?zukK (con_bpart _ _ _ _ _ _ _ _ _ _ _ ?zuh ?zua ?zub ?zuc ?zuq) ?zukS ?zukd ?zuku ?_; walk_at "con_use"; (case zuh => assumption); (case zua => walk_at "in255"); (case zub => walk_at "in255"); (case zuc => walk_at "in255"); (case zuq => walk_at "in255"); k_whole; intro t h' tk' F' N'))
  trivial
theorem lines_54 : True := by
  k_with "elt_in" => (unfold EltI; intro tx C oC m₂ big sE QE EE hC hx hCm hsub FE NE hQE; (have hsb := allIn_of hsub); clear hsub; dsimp only [AllIn] at hsb; (repeat (have hmm := hsb.1; replace hsb := hsb.2)); clear hsb; (try dsimp only))
  k_with "range_4" => ((case zrh => exact rfl); (case zrF => k_asm); (case zrN => k_asm); (case zrr => assumption); (case' zr0 => walk_at "elt_in"); (case' zr1 => walk_at "elt_in"); (case' zr2 => walk_at "elt_in"); (case' zr3 => walk_at "elt_in"); (case' zrf => (intro gH w0 w1 w2 w3)))
  k_with "range_3" => ((case zrh => exact rfl); (case zrF => k_asm); (case zrN => k_asm); (case zrr => assumption); (case' zr0 => walk_at "elt_in"); (case' zr1 => walk_at "elt_in"); (case' zr2 => walk_at "elt_in"); (case' zrf => (intro gH w0 w1 w2)))
  trivial
theorem lines_55 : True := by
  k_with "CompSrc" => (k_here; k_dflt (refine' src_range3 (rnd (f x1 al y1 be + x1 * (255 - be) + y1 * (255 - al))) (rnd (f x2 al y2 be + x2 * (255 - be) + y2 * (255 - al))) (rnd (f x3 al y3 be + x3 * (255 - be) + y3 * (255 - al))) ?zrh ?zrF ?zrN ?zrr ?zr0 ?zr1 ?zr2 ?zrf; walk_at "range_3"))
  trivial
set_option maxHeartbeats 8000000 in
theorem con_blended {w : World} {loose : List Str} {mean : ExcName → Option Value} {mg mb : Str → Option Value} (mode : Str) (f : Int → Int → Int → Int → Int) (t : Tok) (ta tb : Addr) (x1 x2 x3 al y1 y2 y3 be : Int) (t1 t2 t3 t4 t1' t2' t3' t4' : Tok) (n n' : Nat) (hop : (mode, f) ∈ modeT)
    (hx1 : 0 ≤ x1 ∧ x1 ≤ al) (hx2 : 0 ≤ x2 ∧ x2 ≤ al) (hx3 : 0 ≤ x3 ∧ x3 ≤ al) (hal : al ≤ 255) (hy1 : 0 ≤ y1 ∧ y1 ≤ be) (hy2 : 0 ≤ y2 ∧ y2 ≤ be) (hy3 : 0 ≤ y3 ∧ y3 ≤ be) (hbe : be ≤ 255) (hne : ta ≠ tb) :
    CC w loose mean mg mb 152 10 [(ta, tup4 x1 x2 x3 al t1 t2 t3 t4 n), (tb, tup4 y1 y2 y3 be t1' t2' t3' t4' n')] [.str mode t, .ref ta, .ref tb]
      (PureP [(ta, tup4 x1 x2 x3 al t1 t2 t3 t4 n), (tb, tup4 y1 y2 y3 be t1' t2' t3' t4' n')] (Tup4I (rnd (f x1 al y1 be + x1 * (255 - be) + y1 * (255 - al))) (rnd (f x2 al y2 be + x2 * (255 - be) + y2 * (255 - al))) (rnd (f x3 al y3 be + x3 * (255 - be) + y3 * (255 - al))) (rnd (al * 255 + be * (255 - al))))) := by
  walk_at "con_enterC"
  k_steps
  all_goals first
    | exact hQE _ _ _ (by k_asm) (by k_asm)
    | (walk_at "con_one"; exact ⟨_, _, _, _, _, _, rfl, rfl⟩)
end
section
theorem lines_56 : True := by
  w_top off
  k_with_none
  k_with "con_sub" => first | exact List.forall_mem_nil _ | (refine' List.forall_mem_cons.mpr ⟨?zL58a, ?zL58b⟩; (case zL58a => k_mem); (case zL58b => walk_at "con_sub"))
  k_with "con_off" => first | exact List.forall_mem_nil _ | (refine' List.forall_mem_cons.mpr ⟨?zL59a, ?zL59b⟩; (case zL59a => k_ne); (case zL59b => walk_at "con_off"))
  k_with "con_one" => (
  refine' con_end_one hret hrest' ?zrF ?zrN ?zrk ?zrn ?zrm ?_ ?zrD ?zrs
  case zrF => k_asm
  case zrN => k_asm
  case zrk => k_asm
  case zrn => k_asm
  case zrm => k_mem
  case zrD => walk_at "con_off"
  case zrs => walk_at "con_sub")
  k_with "con_val" => (
  refine' con_end_val hret hrest' ?zrF ?zrN ?zrk ?zrn ?_ ?zrs
  case zrF => k_asm
  case zrN => k_asm
  case zrk => k_asm
  case zrn => k_asm
  case zrs => walk_at "con_sub")
  trivial
theorem lines_57 : True := by
  k_with "con_enter" => (
  unfold CC Con
  k_fill
  intro dp un gd cn cs a ccd cl outer A₀ base h₀ L m news s Q E B F X N T hk hsub hd hu hret
  refine wpAny_call ?_
  k_dflt (refine' code_sub B F X N T hsub ?kA ?kF ?kK ?k6 ?k7 ?k8 ?k9 ?kB ?_ ?c2 ?c3 ?c4 ?c5; (case kA => exact rfl); (case kF => exact rfl); (case kK => assumption); (case k6 => k_is); (case k7 => k_is); (case k8 => ktr_room); (case k9 => exact BindsTo.of_eq rfl); (case c5 => decide); (case kB => exact locs rfl); (case c2 => exact rfl); (case c3 => exact rfl); (case c4 => exact rfl); k_whole; intro g' L' h' FG' F' N' B' X' T' hrest'; (try dsimp only); (try k_fold)))
  k_with "con_enterC" => (
  unfold CC Con
  k_fill
  intro dp un gd cn cs a ccd cl outer A₀ base h₀ L m news s Q E B F X N T hk hsub hd hu hret
  refine wpAny_call ?_
  k_dflt (refine' code_subC B F X N T hsub ?kA ?kF ?kK ?k6 ?k7 ?k8 ?k9 ?kB ?kD ?_ ?c2 ?c3 ?c4; (case kA => exact rfl); (case kF => exact rfl); (case kK => assumption); (case k6 => k_is); (case k7 => k_is); (case k8 => ktr_room); (case k9 => exact BindsTo.of_eq rfl); (case kB => exact rfl); (case kD => decide +kernel); (case c2 => exact rfl); (case c3 => exact rfl); (case c4 => exact rfl); k_whole; intro g' L' h' tk' cells' FG' F' N' Y' B' X' T' l1 hrest'; (try k_lt l1); k_cells Y'; (try simp only [List.cons_append, List.nil_append] at N'); (try dsimp only); (try k_fold)))
  k_with "subscriptTail Name Constant ref int" => (k_here; (with_reducible show wpAny _ _ (subscriptTail _ _ (Value.ref _) (Value.int _ _)) _ _ _); k_dflt (refine' item_led ?zL60N ?zL60m ?zL60a ?zL60b ?zL60d ?_; (case zL60N => k_asm); (case zL60m => k_mem); (case zL60a => decide); (case zL60b => decide); (case zL60d => rfl); k_whole))
  trivial
theorem lines_58 : True := by
  k_with "ktr_room" => ((try simp only [depth_under_make, depth_under_kw, depth_in1, depth_deeper, depth_caller]); (try dsimp only [ktrTop]); first | with_reducible exact room0 hd | with_reducible exact room1 hd rfl | with_reducible exact room2 hd rfl | with_reducible exact room3 hd rfl | with_reducible exact room4 hd rfl | (trace "ROOM by omega"; omega))
  k_with "ktr_units" => ((try simp only [units_in1, units_deeper, Around.mark_units, units_caller]); (try dsimp only [ktrTop]); first | with_reducible exact room1 hu rfl | with_reducible exact room2 hu rfl | with_reducible exact room3 hu rfl | with_reducible exact room4 hu rfl | (have hcL9 := cLine_is; trace "UNITS by omega"; trace_state; omega))
  k_with "in255" => first | with_reducible assumption | with_reducible exact k255 | with_reducible exact b255 (by assumption) (by assumption) | with_reducible exact a255 (by assumption) (by assumption) | with_reducible exact c255 (by assumption) (by assumption) | exact ⟨by omega, by omega⟩ | omega
  trivial
theorem lines_59 : True := by
  k_with "split_ne" => ((repeat (rename (@Ne Nat _ _ ∧ _) ∧ _ => hz9; (have hz8 := hz9.1); (have hz7 := hz9.2); clear hz9)); (repeat (rename @Ne Nat _ _ ∧ _ => hz9; (have hz8 := hz9.1); (have hz7 := hz9.2); clear hz9)))
  k_with "k_ne" => (refine neN ?_; (try dsimp only); first | assumption | exact Ne.symm (by assumption) | ((repeat (rename @Ne Nat _ _ => hz9; clear hz9)); (repeat (rename @Ne Nat _ _ ∧ _ => hz9; clear hz9)); (repeat (rename (@Ne Nat _ _ ∧ _) ∧ _ => hz9; clear hz9)); omega))
  trivial
theorem lines_60 : True := by
  k_with "k_room" => ktr_room
  trivial
theorem made_screen (s a d b : Int) : a * b - (a - s) * (b - d) = s * b + d * a - s * d := by
  rw [Int.sub_mul, Int.mul_sub, Int.mul_sub, Int.mul_comm d a]; omega
theorem made_excl (s a d b : Int) : s * b + d * a - 2 * s * d = s * b + d * a - 2 * (s * d) := by rw [Int.mul_assoc]
theorem made_two (s d : Int) : 2 * s * d = 2 * (s * d) := Int.mul_assoc _ _ _
theorem made_two' (s d : Int) : 2 * s * d = 2 * (d * s) := by rw [Int.mul_assoc, Int.mul_comm s d]
theorem made_turn (s a d b : Int) : -(s * b - d * a) = d * a - s * b := by omega
theorem made_turn' (s a d b : Int) : a * b - 2 * (a - s) * (b - d) = b * a - 2 * (b - d) * (a - s) := by
  rw [Int.mul_assoc, Int.mul_assoc, Int.mul_comm a b, Int.mul_comm (a - s)]
set_option maxHeartbeats 8000000 in
theorem con_made {w : World} {loose : List Str} {mean : ExcName → Option Value} {mg mb : Str → Option Value} (mode : Str) (f : Int → Int → Int → Int → Int) (xs xa xd xb : Int) (t0 t1 t2 t3 t4 : Tok) (hop : (mode, f) ∈ modeT)
    (hs : 0 ≤ xs ∧ xs ≤ xa) (ha : xa ≤ 255) (hd : 0 ≤ xd ∧ xd ≤ xb) (hb : xb ≤ 255) :
    CC w loose mean mg mb 206 8 [] [.str mode t0, .int xs t1, .int xa t2, .int xd t3, .int xb t4] (PureP [] (IntP (f xs xa xd xb))) := by
  simp only [modeT, List.mem_cons, List.not_mem_nil, or_false, Prod.mk.injEq] at hop
  rcases hop with ⟨rfl, rfl⟩ | ⟨rfl, rfl⟩ | ⟨rfl, rfl⟩ | ⟨rfl, rfl⟩ | ⟨rfl, rfl⟩ | ⟨rfl, rfl⟩ | ⟨rfl, rfl⟩ | ⟨rfl, rfl⟩ | ⟨rfl, rfl⟩
  all_goals
    walk_at "con_enter"
    k_steps
  all_goals
    walk_at "con_val"
    refine ⟨rfl, _, congrArg (fun q => Value.int q _) ?_⟩
    try dsimp only
  all_goals first
    | exact rfl
    | exact made_screen ..
    | exact made_excl ..
    | (rw [if_pos (by omega)]; exact made_two ..)
    | (rw [if_pos (by omega)]; exact made_two' ..)
    | (rw [if_pos (by omega)]; exact made_turn ..)
    | (rw [if_neg (by omega)]; exact rfl)
    | (rw [if_neg (by omega)]; exact made_turn' ..)
    | (split <;> omega)
end
section
theorem lines_61 : True := by
  w_top off
  k_with_none
  k_with "con_sub" => first | exact List.forall_mem_nil _ | (refine' List.forall_mem_cons.mpr ⟨?zL65a, ?zL65b⟩; (case zL65a => k_mem); (case zL65b => walk_at "con_sub"))
  k_with "con_off" => first | exact List.forall_mem_nil _ | (refine' List.forall_mem_cons.mpr ⟨?zL66a, ?zL66b⟩; (case zL66a => k_ne); (case zL66b => walk_at "con_off"))
  k_with "con_one" => (
  refine' con_end_one hret hrest' ?zrF ?zrN ?zrk ?zrn ?zrm ?_ ?zrD ?zrs
  case zrF => k_asm
  case zrN => k_asm
  case zrk => k_asm
  case zrn => k_asm
  case zrm => k_mem
  case zrD => walk_at "con_off"
  case zrs => walk_at "con_sub")
  k_with "con_val" => (
  refine' con_end_val hret hrest' ?zrF ?zrN ?zrk ?zrn ?_ ?zrs
  case zrF => k_asm
  case zrN => k_asm
  case zrk => k_asm
  case zrn => k_asm
  case zrs => walk_at "con_sub")
  trivial
theorem lines_62 : True := by
  k_with "con_enter" => (
  unfold CC Con
  k_fill
  intro dp un gd cn cs a ccd cl outer A₀ base h₀ L m news s Q E B F X N T hk hsub hd hu hret
  refine wpAny_call ?_
  k_dflt (refine' code_sub B F X N T hsub ?kA ?kF ?kK ?k6 ?k7 ?k8 ?k9 ?kB ?_ ?c2 ?c3 ?c4 ?c5; (case kA => exact rfl); (case kF => exact rfl); (case kK => assumption); (case k6 => k_is); (case k7 => k_is); (case k8 => ktr_room); (case k9 => exact BindsTo.of_eq rfl); (case c5 => decide); (case kB => exact locs rfl); (case c2 => exact rfl); (case c3 => exact rfl); (case c4 => exact rfl); k_whole; intro g' L' h' FG' F' N' B' X' T' hrest'; (try dsimp only); (try k_fold)))
  k_with "con_enterC" => (
  unfold CC Con
  k_fill
  intro dp un gd cn cs a ccd cl outer A₀ base h₀ L m news s Q E B F X N T hk hsub hd hu hret
  refine wpAny_call ?_
  k_dflt (refine' code_subC B F X N T hsub ?kA ?kF ?kK ?k6 ?k7 ?k8 ?k9 ?kB ?kD ?_ ?c2 ?c3 ?c4; (case kA => exact rfl); (case kF => exact rfl); (case kK => assumption); (case k6 => k_is); (case k7 => k_is); (case k8 => ktr_room); (case k9 => exact BindsTo.of_eq rfl); (case kB => exact rfl); (case kD => decide +kernel); (case c2 => exact rfl); (case c3 => exact rfl); (case c4 => exact rfl); k_whole; intro g' L' h' tk' cells' FG' F' N' Y' B' X' T' l1 hrest'; (try k_lt l1); k_cells Y'; (try simp only [List.cons_append, List.nil_append] at N'); (try dsimp only); (try k_fold)))
  k_with "subscriptTail Name Constant ref int" => (k_here; (with_reducible show wpAny _ _ (subscriptTail _ _ (Value.ref _) (Value.int _ _)) _ _ _); k_dflt (refine' item_led ?zL67N ?zL67m ?zL67a ?zL67b ?zL67d ?_; (case zL67N => k_asm); (case zL67m => k_mem); (case zL67a => decide); (case zL67b => decide); (case zL67d => rfl); k_whole))
  trivial
theorem lines_63 : True := by
  k_with "ktr_room" => ((try simp only [depth_under_make, depth_under_kw, depth_in1, depth_deeper, depth_caller]); (try dsimp only [ktrTop]); first | with_reducible exact room0 hd | with_reducible exact room1 hd rfl | with_reducible exact room2 hd rfl | with_reducible exact room3 hd rfl | with_reducible exact room4 hd rfl | (trace "ROOM by omega"; omega))
  k_with "ktr_units" => ((try simp only [units_in1, units_deeper, Around.mark_units, units_caller]); (try dsimp only [ktrTop]); first | with_reducible exact room1 hu rfl | with_reducible exact room2 hu rfl | with_reducible exact room3 hu rfl | with_reducible exact room4 hu rfl | (have hcL9 := cLine_is; trace "UNITS by omega"; trace_state; omega))
  k_with "in255" => first | with_reducible assumption | with_reducible exact k255 | with_reducible exact b255 (by assumption) (by assumption) | with_reducible exact a255 (by assumption) (by assumption) | with_reducible exact c255 (by assumption) (by assumption) | exact ⟨by omega, by omega⟩ | omega
  trivial
theorem lines_64 : True := by
  k_with "split_ne" => ((repeat (rename (@Ne Nat _ _ ∧ _) ∧ _ => hz9; (have hz8 := hz9.1); (have hz7 := hz9.2); clear hz9)); (repeat (rename @Ne Nat _ _ ∧ _ => hz9; (have hz8 := hz9.1); (have hz7 := hz9.2); clear hz9)))
  k_with "k_ne" => (refine neN ?_; (try dsimp only); first | assumption | exact Ne.symm (by assumption) | ((repeat (rename @Ne Nat _ _ => hz9; clear hz9)); (repeat (rename @Ne Nat _ _ ∧ _ => hz9; clear hz9)); (repeat (rename (@Ne Nat _ _ ∧ _) ∧ _ => hz9; clear hz9)); omega))
  trivial
theorem lines_65 : True := by
  k_with "con_use" => (
  (case zuk1 => k_asm); (case zuk2 => k_asm); (case zuk3 => k_asm); (case zuk4 => k_asm); (case zuk5 => k_asm); (case zukK => first | exact rfl | assumption); (case zukS => walk_at "con_sub"); (case zukd => ktr_room); (case zuku => ktr_units))
  k_with "call ref" => (k_here; k_dflt (refine' con_int ?zuk1 ?zuk2 ?zuk3 ?zuk4 ?zuk5 ?zukK (con_rounded _ _ _) ?zukS ?zukd ?zuku ?_; walk_at "con_use"; k_whole; intro t h' tk' F' N'))
  k_with "call ref" => (k_here; k_dflt (refine' con_int ?zuk1 ?zuk2 ?zuk3 ?zuk4 ?zuk5 ?zukK (con_mixed _ _ _ _ _ _ _ _ ?zua ?zub ?zuc ?zud) ?zukS ?zukd ?zuku ?_; walk_at "con_use"; (case zua => walk_at "in255"); (case zub => walk_at "in255"); (case zuc => walk_at "in255"); (case zud => walk_at "in255"); k_whole; intro t h' tk' F' N'))
  trivial
theorem lines_66 : True := by
  k_with "call ref" => (k_here; k_dflt (refine' con_int ?zuk1 ?zuk2 ?zuk3 ?zuk4 ?zuk5 ?zukK (con_made _ _ _ _ _ _ _ _ _ _ _ ?zuh ?zua ?zub ?zuc ?zuq) ?zukS ?zukd ?zuku ?_; walk_at "con_use"; (case zuh => assumption); (case zua => walk_at "in255"); (case zub => walk_at "in255"); (case zuc => walk_at "in255"); (case zuq => walk_at "in255"); k_whole; intro t h' tk' F' N'))
  trivial
set_option maxHeartbeats 8000000 in
theorem con_lblended {w : World} {loose : List Str} {mean : ExcName → Option Value} {mg mb : Str → Option Value} (mode : Str) (f : Int → Int → Int → Int → Int) (t : Tok) (ta tb : Addr) (x1 x2 x3 al y1 y2 y3 be : Int) (t1 t2 t3 t4 t1' t2' t3' t4' : Tok) (n n' : Nat) (hop : (mode, f) ∈ modeT)
    (hx1 : 0 ≤ x1 ∧ x1 ≤ al) (hx2 : 0 ≤ x2 ∧ x2 ≤ al) (hx3 : 0 ≤ x3 ∧ x3 ≤ al) (hal : al ≤ 255) (hy1 : 0 ≤ y1 ∧ y1 ≤ be) (hy2 : 0 ≤ y2 ∧ y2 ≤ be) (hy3 : 0 ≤ y3 ∧ y3 ≤ be) (hbe : be ≤ 255) (hne : ta ≠ tb) :
    CC w loose mean mg mb 213 10 [(ta, tup4 x1 x2 x3 al t1 t2 t3 t4 n), (tb, tup4 y1 y2 y3 be t1' t2' t3' t4' n')] [.str mode t, .ref ta, .ref tb]
      (PureP [(ta, tup4 x1 x2 x3 al t1 t2 t3 t4 n), (tb, tup4 y1 y2 y3 be t1' t2' t3' t4' n')] (Tup4I (rnd (f x1 al y1 be + x1 * (255 - be) + y1 * (255 - al))) (rnd (f x2 al y2 be + x2 * (255 - be) + y2 * (255 - al))) (rnd (f x3 al y3 be + x3 * (255 - be) + y3 * (255 - al))) (rnd (al * 255 + be * (255 - al))))) := by
  rw [Int.mul_comm al 255]
  walk_at "con_enter"
  k_steps
  · walk_at "con_one"
    exact ⟨_, _, _, _, _, _, rfl, rfl⟩
end
section
theorem lines_67 : True := by
  w_top off
  k_with_none
  k_with "con_sub" => first | exact List.forall_mem_nil _ | (refine' List.forall_mem_cons.mpr ⟨?zL71a, ?zL71b⟩; (case zL71a => k_mem); (case zL71b => walk_at "con_sub"))
  k_with "con_off" => first | exact List.forall_mem_nil _ | (refine' List.forall_mem_cons.mpr ⟨?zL72a, ?zL72b⟩; (case zL72a => k_ne); (case zL72b => walk_at "con_off"))
  k_with "con_one" => (
  refine' con_end_one hret hrest' ?zrF ?zrN ?zrk ?zrn ?zrm ?_ ?zrD ?zrs
  case zrF => k_asm
  case zrN => k_asm
  case zrk => k_asm
  case zrn => k_asm
  case zrm => k_mem
  case zrD => walk_at "con_off"
  case zrs => walk_at "con_sub")
  k_with "con_val" => (
  refine' con_end_val hret hrest' ?zrF ?zrN ?zrk ?zrn ?_ ?zrs
  case zrF => k_asm
  case zrN => k_asm
  case zrk => k_asm
  case zrn => k_asm
  case zrs => walk_at "con_sub")
  trivial
theorem lines_68 : True := by
  k_with "con_enter" => (
  unfold CC Con
  k_fill
  intro dp un gd cn cs a ccd cl outer A₀ base h₀ L m news s Q E B F X N T hk hsub hd hu hret
  refine wpAny_call ?_
  k_dflt (refine' code_sub B F X N T hsub ?kA ?kF ?kK ?k6 ?k7 ?k8 ?k9 ?kB ?_ ?c2 ?c3 ?c4 ?c5; (case kA => exact rfl); (case kF => exact rfl); (case kK => assumption); (case k6 => k_is); (case k7 => k_is); (case k8 => ktr_room); (case k9 => exact BindsTo.of_eq rfl); (case c5 => decide); (case kB => exact locs rfl); (case c2 => exact rfl); (case c3 => exact rfl); (case c4 => exact rfl); k_whole; intro g' L' h' FG' F' N' B' X' T' hrest'; (try dsimp only); (try k_fold)))
  k_with "con_enterC" => (
  unfold CC Con
  k_fill
  intro dp un gd cn cs a ccd cl outer A₀ base h₀ L m news s Q E B F X N T hk hsub hd hu hret
  refine wpAny_call ?_
  k_dflt (refine' code_subC B F X N T hsub ?kA ?kF ?kK ?k6 ?k7 ?k8 ?k9 ?kB ?kD ?_ ?c2 ?c3 ?c4; (case kA => exact rfl); (case kF => exact rfl); (case kK => assumption); (case k6 => k_is); (case k7 => k_is); (case k8 => ktr_room); (case k9 => exact BindsTo.of_eq rfl); (case kB => exact rfl); (case kD => decide +kernel); (case c2 => exact rfl); (case c3 => exact rfl); (case c4 => exact rfl); k_whole; intro g' L' h' tk' cells' FG' F' N' Y' B' X' T' l1 hrest'; (try k_lt l1); k_cells Y'; (try simp only [List.cons_append, List.nil_append] at N'); (try dsimp only); (try k_fold)))
  k_with "subscriptTail Name Constant ref int" => (k_here; (with_reducible show wpAny _ _ (subscriptTail _ _ (Value.ref _) (Value.int _ _)) _ _ _); k_dflt (refine' item_led ?zL73N ?zL73m ?zL73a ?zL73b ?zL73d ?_; (case zL73N => k_asm); (case zL73m => k_mem); (case zL73a => decide); (case zL73b => decide); (case zL73d => rfl); k_whole))
  trivial
theorem lines_69 : True := by
  k_with "ktr_room" => ((try simp only [depth_under_make, depth_under_kw, depth_in1, depth_deeper, depth_caller]); (try dsimp only [ktrTop]); first | with_reducible exact room0 hd | with_reducible exact room1 hd rfl | with_reducible exact room2 hd rfl | with_reducible exact room3 hd rfl | with_reducible exact room4 hd rfl | (trace "ROOM by omega"; omega))
  k_with "ktr_units" => ((try simp only [units_in1, units_deeper, Around.mark_units, units_caller]); (try dsimp only [ktrTop]); first | with_reducible exact room1 hu rfl | with_reducible exact room2 hu rfl | with_reducible exact room3 hu rfl | with_reducible exact room4 hu rfl | (have hcL9 := cLine_is; trace "UNITS by omega"; trace_state; omega))
  k_with "in255" => first | with_reducible assumption | with_reducible exact k255 | with_reducible exact b255 (by assumption) (by assumption) | with_reducible exact a255 (by assumption) (by assumption) | with_reducible exact c255 (by assumption) (by assumption) | exact ⟨by omega, by omega⟩ | omega
  trivial
theorem lines_70 : True := by
  k_with "split_ne" => ((repeat (rename (@Ne Nat _ _ ∧ _) ∧ _ => hz9; (have hz8 := hz9.1); (have hz7 := hz9.2); clear hz9)); (repeat (rename @Ne Nat _ _ ∧ _ => hz9; (have hz8 := hz9.1); (have hz7 := hz9.2); clear hz9)))
  k_with "k_ne" => (refine neN ?_; (try dsimp only); first | assumption | exact Ne.symm (by assumption) | ((repeat (rename @Ne Nat _ _ => hz9; clear hz9)); (repeat (rename @Ne Nat _ _ ∧ _ => hz9; clear hz9)); (repeat (rename (@Ne Nat _ _ ∧ _) ∧ _ => hz9; clear hz9)); omega))
  trivial
theorem lines_71 : True := by
  k_with "callWith" => (k_here; (with_reducible show wpAny _ _ (callWith _ (Value.builtin _) [_] (backTo _ (starEach (_ :: _) _)) []) _ _ _); k_dflt (refine callWith_method1 ?_))
  k_with "KysD" => (k_here; first | with_reducible refine kysD_at look1 ?_ | with_reducible refine kysD_at look2 ?_)
  trivial
set_option maxHeartbeats 8000000 in
theorem con_weights {w : World} {loose : List Str} {mean : ExcName → Option Value} {mg mb : Str → Option Value} (op : Str) (f g : Int → Int → Int) (al be : Int) (t1 t2 t3 : Tok) (hop : (op, f, g) ∈ opT) :
    CC w loose mean mg mb 199 3 [] [.str op t1, .int al t2, .int be t3] (PureP [] (Tup2I (f al be) (g al be))) := by
  have look1 := look_f al be hop
  have look2 := look_g al be hop
  walk_at "con_enter"
  k_steps
  walk_at "con_one"
  exact ⟨_, _, _, _, rfl, rfl⟩
end
section
theorem lines_72 : True := by
  w_top off
  k_with_none
  k_with "con_sub" => first | exact List.forall_mem_nil _ | (refine' List.forall_mem_cons.mpr ⟨?zL78a, ?zL78b⟩; (case zL78a => k_mem); (case zL78b => walk_at "con_sub"))
  k_with "con_off" => first | exact List.forall_mem_nil _ | (refine' List.forall_mem_cons.mpr ⟨?zL79a, ?zL79b⟩; (case zL79a => k_ne); (case zL79b => walk_at "con_off"))
  k_with "con_one" => (
  refine' con_end_one hret hrest' ?zrF ?zrN ?zrk ?zrn ?zrm ?_ ?zrD ?zrs
  case zrF => k_asm
  case zrN => k_asm
  case zrk => k_asm
  case zrn => k_asm
  case zrm => k_mem
  case zrD => walk_at "con_off"
  case zrs => walk_at "con_sub")
  k_with "con_val" => (
  refine' con_end_val hret hrest' ?zrF ?zrN ?zrk ?zrn ?_ ?zrs
  case zrF => k_asm
  case zrN => k_asm
  case zrk => k_asm
  case zrn => k_asm
  case zrs => walk_at "con_sub")
  trivial
theorem lines_73 : True := by
  k_with "con_enter" => (
  unfold CC Con
  k_fill
  intro dp un gd cn cs a ccd cl outer A₀ base h₀ L m news s Q E B F X N T hk hsub hd hu hret
  refine wpAny_call ?_
  k_dflt (refine' code_sub B F X N T hsub ?kA ?kF ?kK ?k6 ?k7 ?k8 ?k9 ?kB ?_ ?c2 ?c3 ?c4 ?c5; (case kA => exact rfl); (case kF => exact rfl); (case kK => assumption); (case k6 => k_is); (case k7 => k_is); (case k8 => ktr_room); (case k9 => exact BindsTo.of_eq rfl); (case c5 => decide); (case kB => exact locs rfl); (case c2 => exact rfl); (case c3 => exact rfl); (case c4 => exact rfl); k_whole; intro g' L' h' FG' F' N' B' X' T' hrest'; (try dsimp only); (try k_fold)))
  k_with "con_enterC" => (
  unfold CC Con
  k_fill
  intro dp un gd cn cs a ccd cl outer A₀ base h₀ L m news s Q E B F X N T hk hsub hd hu hret
  refine wpAny_call ?_
  k_dflt (refine' code_subC B F X N T hsub ?kA ?kF ?kK ?k6 ?k7 ?k8 ?k9 ?kB ?kD ?_ ?c2 ?c3 ?c4; (case kA => exact rfl); (case kF => exact rfl); (case kK => assumption); (case k6 => k_is); (case k7 => k_is); (case k8 => ktr_room); (case k9 => exact BindsTo.of_eq rfl); (case kB => exact rfl); (case kD => decide +kernel); (case c2 => exact rfl); (case c3 => exact rfl); (case c4 => exact rfl); k_whole; intro g' L' h' tk' cells' FG' F' N' Y' B' X' T' l1 hrest'; (try k_lt l1); k_cells Y'; (try simp only [List.cons_append, List.nil_append] at N'); (try dsimp only); (try k_fold)))
  k_with "subscriptTail Name Constant ref int" => (k_here; (with_reducible show wpAny _ _ (subscriptTail _ _ (Value.ref _) (Value.int _ _)) _ _ _); k_dflt (refine' item_led ?zL80N ?zL80m ?zL80a ?zL80b ?zL80d ?_; (case zL80N => k_asm); (case zL80m => k_mem); (case zL80a => decide); (case zL80b => decide); (case zL80d => rfl); k_whole))
  trivial
theorem lines_74 : True := by
  k_with "ktr_room" => ((try simp only [depth_under_make, depth_under_kw, depth_in1, depth_deeper, depth_caller]); (try dsimp only [ktrTop]); first | with_reducible exact room0 hd | with_reducible exact room1 hd rfl | with_reducible exact room2 hd rfl | with_reducible exact room3 hd rfl | with_reducible exact room4 hd rfl | (trace "ROOM by omega"; omega))
  k_with "ktr_units" => ((try simp only [units_in1, units_deeper, Around.mark_units, units_caller]); (try dsimp only [ktrTop]); first | with_reducible exact room1 hu rfl | with_reducible exact room2 hu rfl | with_reducible exact room3 hu rfl | with_reducible exact room4 hu rfl | (have hcL9 := cLine_is; trace "UNITS by omega"; trace_state; omega))
  k_with "in255" => first | with_reducible assumption | with_reducible exact k255 | with_reducible exact b255 (by assumption) (by assumption) | with_reducible exact a255 (by assumption) (by assumption) | with_reducible exact c255 (by assumption) (by assumption) | exact ⟨by omega, by omega⟩ | omega
  trivial
theorem lines_75 : True := by
  k_with "split_ne" => ((repeat (rename (@Ne Nat _ _ ∧ _) ∧ _ => hz9; (have hz8 := hz9.1); (have hz7 := hz9.2); clear hz9)); (repeat (rename @Ne Nat _ _ ∧ _ => hz9; (have hz8 := hz9.1); (have hz7 := hz9.2); clear hz9)))
  k_with "k_ne" => (refine neN ?_; (try dsimp only); first | assumption | exact Ne.symm (by assumption) | ((repeat (rename @Ne Nat _ _ => hz9; clear hz9)); (repeat (rename @Ne Nat _ _ ∧ _ => hz9; clear hz9)); (repeat (rename (@Ne Nat _ _ ∧ _) ∧ _ => hz9; clear hz9)); omega))
  trivial
theorem lines_76 : True := by
  k_with "con_use" => (
  (case zuk1 => k_asm); (case zuk2 => k_asm); (case zuk3 => k_asm); (case zuk4 => k_asm); (case zuk5 => k_asm); (case zukK => first | exact rfl | assumption); (case zukS => walk_at "con_sub"); (case zukd => ktr_room); (case zuku => ktr_units))
  k_with "call ref" => (k_here; k_dflt (refine' con_int ?zuk1 ?zuk2 ?zuk3 ?zuk4 ?zuk5 ?zukK (con_rounded _ _ _) ?zukS ?zukd ?zuku ?_; walk_at "con_use"; k_whole; intro t h' tk' F' N'))
  k_with "call ref" => (k_here; k_dflt (refine' con_int ?zuk1 ?zuk2 ?zuk3 ?zuk4 ?zuk5 ?zukK (con_mixed _ _ _ _ _ _ _ _ ?zua ?zub ?zuc ?zud) ?zukS ?zukd ?zuku ?_; walk_at "con_use"; (case zua => walk_at "in255"); (case zub => walk_at "in255"); (case zuc => walk_at "in255"); (case zud => walk_at "in255"); k_whole; intro t h' tk' F' N'))
  trivial
theorem lines_77 : True := by
  k_with "call ref" => (k_here; k_dflt (refine' con_int ?zuk1 ?zuk2 ?zuk3 ?zuk4 ?zuk5 ?zukK (con_share _ _ _ _ _ ?zua) ?zukS ?zukd ?zuku ?_; walk_at "con_use"; (case zua => assumption); k_whole; intro t h' tk' F' N'))
  k_with "call ref" => (k_here; k_dflt (refine' con_tup2s ?zuk1 ?zuk2 ?zuk3 ?zuk4 ?zuk5 ?zukK (con_shares _ _ _ _ ?zua) ?zukS ?zukd ?zuku ?_; walk_at "con_use"; (case zua => assumption); k_whole; intro D tA tB nn h' tk' F' N' hA; (try dsimp only [AllNe] at hA)))
  k_with "compareOp Eq str str" => (k_here; refine eq_str_ne (by with_reducible assumption) ?_)
  trivial
theorem lines_78 : True := by
  k_with "eval ListComp" => (k_here; (with_reducible show wpAny _ _ (eval (Expr.ListComp _ [⟨Expr.Tuple _ _ _, Expr.Call _ _ _ _, _, _⟩] _ _) _) _ _ _); k_dflt (refine ListComp_Z (F₀ := by k_asm) (by with_unfolding_all rfl) (by decide) (by rfl) (by decide) (by rfl) (by rfl) (by decide) ?_))
  k_with "zip_two" => (
  (case zqh => exact rfl)
  (case zqF => k_asm)
  (case zqN => k_asm)
  (case zqa => k_mem)
  (case zqb => k_mem)
  (case zqp => exact ⟨⟨⟨by omega, by omega⟩, by omega, by omega⟩, ⟨⟨by omega, by omega⟩, by omega, by omega⟩, ⟨⟨by omega, by omega⟩, by omega, by omega⟩, ⟨by omega, by omega⟩, by omega, by omega⟩)
  (case' zqe => (intro x y tx ty C oC m₂ big sE QE EE hxy hC hma hmb hCm hsub FE NE hQE; (have hxy1 := hxy.1.1); (have hxy2 := hxy.1.2); (have hxy3 := hxy.2.1); (have hxy4 := hxy.2.2); clear hxy; (have hsb := allIn_of hsub); clear hsub; dsimp only [AllIn] at hsb; (repeat (have hmm := hsb.1; replace hsb := hsb.2)); clear hsb; (try dsimp only)))
  (case' zqf => (intro D h tk w1 w2 w3 w4 F' N' hA; (try dsimp only at N'); (try dsimp only [AllNe] at hA))))
  trivial
theorem lines_79 : True := by
  k_with "call type:zip" => (k_here; k_dflt (refine' zip_call4 (fun x y => rnd (x * wf be + y * wg al)) (fun x y => (0 ≤ x ∧ x ≤ 255) ∧ (0 ≤ y ∧ y ≤ 255)) ?zqh ?zqF ?zqN ?zqa ?zqb ?zqp ?zqe ?zqf; walk_at "zip_two"))
  trivial
set_option maxHeartbeats 2000000 in
theorem con_composed {w : World} {loose : List Str} {mean : ExcName → Option Value} {mg mb : Str → Option Value} (op : Str) (f g : Int → Int → Int) (t : Tok) (ta tb : Addr) (x1 x2 x3 al y1 y2 y3 be : Int) (t1 t2 t3 t4 t1' t2' t3' t4' : Tok) (n n' : Nat) (hop : (op, f, g) ∈ opT)
    (hx1 : 0 ≤ x1 ∧ x1 ≤ al) (hx2 : 0 ≤ x2 ∧ x2 ≤ al) (hx3 : 0 ≤ x3 ∧ x3 ≤ al) (hal : al ≤ 255) (hy1 : 0 ≤ y1 ∧ y1 ≤ be) (hy2 : 0 ≤ y2 ∧ y2 ≤ be) (hy3 : 0 ≤ y3 ∧ y3 ≤ be) (hbe : be ≤ 255) (hne : ta ≠ tb) :
    CC w loose mean mg mb 72 7 [(ta, tup4 x1 x2 x3 al t1 t2 t3 t4 n), (tb, tup4 y1 y2 y3 be t1' t2' t3' t4' n')] [.str op t, .ref ta, .ref tb]
      (PureP [(ta, tup4 x1 x2 x3 al t1 t2 t3 t4 n), (tb, tup4 y1 y2 y3 be t1' t2' t3' t4' n')] (Tup4I (rnd (x1 * f al be + y1 * g al be)) (rnd (x2 * f al be + y2 * g al be)) (rnd (x3 * f al be + y3 * g al be)) (rnd (al * f al be + be * g al be)))) := by
  obtain ⟨u, v, wf, wg, hsh, hwu, hwv, ef, eg, hplus⟩ := op_words hop
  have hub := word_in hwu be ⟨by omega, hbe⟩
  have hva := word_in hwv al ⟨by omega, hal⟩
  rw [ef al be, eg al be]
  walk_at "con_enterC"
  k_steps
  · walk_at "con_one"
    exact ⟨_, _, _, _, _, _, rfl, rfl⟩
  · exact hQE _ _ _ (by k_asm) (by k_asm)
end
section
theorem lines_80 : True := by
  w_top off
  k_with_none
  k_with "con_sub" => first | exact List.forall_mem_nil _ | (refine' List.forall_mem_cons.mpr ⟨?zL86a, ?zL86b⟩; (case zL86a => k_mem); (case zL86b => walk_at "con_sub"))
  k_with "con_off" => first | exact List.forall_mem_nil _ | (refine' List.forall_mem_cons.mpr ⟨?zL87a, ?zL87b⟩; (case zL87a => k_ne); (case zL87b => walk_at "con_off"))
  k_with "con_one" => (
  refine' con_end_one hret hrest' ?zrF ?zrN ?zrk ?zrn ?zrm ?_ ?zrD ?zrs
  case zrF => k_asm
  case zrN => k_asm
  case zrk => k_asm
  case zrn => k_asm
  case zrm => k_mem
  case zrD => walk_at "con_off"
  case zrs => walk_at "con_sub")
  k_with "con_val" => (
  refine' con_end_val hret hrest' ?zrF ?zrN ?zrk ?zrn ?_ ?zrs
  case zrF => k_asm
  case zrN => k_asm
  case zrk => k_asm
  case zrn => k_asm
  case zrs => walk_at "con_sub")
  trivial
theorem lines_81 : True := by
  k_with "con_enter" => (
  unfold CC Con
  k_fill
  intro dp un gd cn cs a ccd cl outer A₀ base h₀ L m news s Q E B F X N T hk hsub hd hu hret
  refine wpAny_call ?_
  k_dflt (refine' code_sub B F X N T hsub ?kA ?kF ?kK ?k6 ?k7 ?k8 ?k9 ?kB ?_ ?c2 ?c3 ?c4 ?c5; (case kA => exact rfl); (case kF => exact rfl); (case kK => assumption); (case k6 => k_is); (case k7 => k_is); (case k8 => ktr_room); (case k9 => exact BindsTo.of_eq rfl); (case c5 => decide); (case kB => exact locs rfl); (case c2 => exact rfl); (case c3 => exact rfl); (case c4 => exact rfl); k_whole; intro g' L' h' FG' F' N' B' X' T' hrest'; (try dsimp only); (try k_fold)))
  k_with "con_enterC" => (
  unfold CC Con
  k_fill
  intro dp un gd cn cs a ccd cl outer A₀ base h₀ L m news s Q E B F X N T hk hsub hd hu hret
  refine wpAny_call ?_
  k_dflt (refine' code_subC B F X N T hsub ?kA ?kF ?kK ?k6 ?k7 ?k8 ?k9 ?kB ?kD ?_ ?c2 ?c3 ?c4; (case kA => exact rfl); (case kF => exact rfl); (case kK => assumption); (case k6 => k_is); (case k7 => k_is); (case k8 => ktr_room); (case k9 => exact BindsTo.of_eq rfl); (case kB => exact rfl); (case kD => decide +kernel); (case c2 => exact rfl); (case c3 => exact rfl); (case c4 => exact rfl); k_whole; intro g' L' h' tk' cells' FG' F' N' Y' B' X' T' l1 hrest'; (try k_lt l1); k_cells Y'; (try simp only [List.cons_append, List.nil_append] at N'); (try dsimp only); (try k_fold)))
  k_with "subscriptTail Name Constant ref int" => (k_here; (with_reducible show wpAny _ _ (subscriptTail _ _ (Value.ref _) (Value.int _ _)) _ _ _); k_dflt (refine' item_led ?zL88N ?zL88m ?zL88a ?zL88b ?zL88d ?_; (case zL88N => k_asm); (case zL88m => k_mem); (case zL88a => decide); (case zL88b => decide); (case zL88d => rfl); k_whole))
  trivial
theorem lines_82 : True := by
  k_with "ktr_room" => ((try simp only [depth_under_make, depth_under_kw, depth_in1, depth_deeper, depth_caller]); (try dsimp only [ktrTop]); first | with_reducible exact room0 hd | with_reducible exact room1 hd rfl | with_reducible exact room2 hd rfl | with_reducible exact room3 hd rfl | with_reducible exact room4 hd rfl | (trace "ROOM by omega"; omega))
  k_with "ktr_units" => ((try simp only [units_in1, units_deeper, Around.mark_units, units_caller]); (try dsimp only [ktrTop]); first | with_reducible exact room1 hu rfl | with_reducible exact room2 hu rfl | with_reducible exact room3 hu rfl | with_reducible exact room4 hu rfl | (have hcL9 := cLine_is; trace "UNITS by omega"; trace_state; omega))
  k_with "in255" => first | with_reducible assumption | with_reducible exact k255 | with_reducible exact b255 (by assumption) (by assumption) | with_reducible exact a255 (by assumption) (by assumption) | with_reducible exact c255 (by assumption) (by assumption) | exact ⟨by omega, by omega⟩ | omega
  trivial
theorem lines_83 : True := by
  k_with "split_ne" => ((repeat (rename (@Ne Nat _ _ ∧ _) ∧ _ => hz9; (have hz8 := hz9.1); (have hz7 := hz9.2); clear hz9)); (repeat (rename @Ne Nat _ _ ∧ _ => hz9; (have hz8 := hz9.1); (have hz7 := hz9.2); clear hz9)))
  k_with "k_ne" => (refine neN ?_; (try dsimp only); first | assumption | exact Ne.symm (by assumption) | ((repeat (rename @Ne Nat _ _ => hz9; clear hz9)); (repeat (rename @Ne Nat _ _ ∧ _ => hz9; clear hz9)); (repeat (rename (@Ne Nat _ _ ∧ _) ∧ _ => hz9; clear hz9)); omega))
  trivial
theorem lines_84 : True := by
  k_with "con_use" => (
  (case zuk1 => k_asm); (case zuk2 => k_asm); (case zuk3 => k_asm); (case zuk4 => k_asm); (case zuk5 => k_asm); (case zukK => first | exact rfl | assumption); (case zukS => walk_at "con_sub"); (case zukd => ktr_room); (case zuku => ktr_units))
  k_with "call ref" => (k_here; k_dflt (refine' con_int ?zuk1 ?zuk2 ?zuk3 ?zuk4 ?zuk5 ?zukK (con_rounded _ _ _) ?zukS ?zukd ?zuku ?_; walk_at "con_use"; k_whole; intro t h' tk' F' N'))
  k_with "call ref" => (k_here; k_dflt (refine' con_int ?zuk1 ?zuk2 ?zuk3 ?zuk4 ?zuk5 ?zukK (con_mixed _ _ _ _ _ _ _ _ ?zua ?zub ?zuc ?zud) ?zukS ?zukd ?zuku ?_; walk_at "con_use"; (case zua => walk_at "in255"); (case zub => walk_at "in255"); (case zuc => walk_at "in255"); (case zud => walk_at "in255"); k_whole; intro t h' tk' F' N'))
  trivial
theorem lines_85 : True := by
  k_with "eval ListComp" => (k_here; (with_reducible show wpAny _ _ (eval (Expr.ListComp _ [⟨Expr.Tuple _ _ _, Expr.Call _ _ _ _, _, _⟩] _ _) _) _ _ _); k_dflt (refine ListComp_Z (F₀ := by k_asm) (by with_unfolding_all rfl) (by decide) (by rfl) (by decide) (by rfl) (by rfl) (by decide) ?_))
  k_with "zip_two" => (
  (case zqh => exact rfl)
  (case zqF => k_asm)
  (case zqN => k_asm)
  (case zqa => k_mem)
  (case zqb => k_mem)
  (case zqp => exact ⟨⟨⟨by omega, by omega⟩, by omega, by omega⟩, ⟨⟨by omega, by omega⟩, by omega, by omega⟩, ⟨⟨by omega, by omega⟩, by omega, by omega⟩, ⟨by omega, by omega⟩, by omega, by omega⟩)
  (case' zqe => (intro x y tx ty C oC m₂ big sE QE EE hxy hC hma hmb hCm hsub FE NE hQE; (have hxy1 := hxy.1.1); (have hxy2 := hxy.1.2); (have hxy3 := hxy.2.1); (have hxy4 := hxy.2.2); clear hxy; (have hsb := allIn_of hsub); clear hsub; dsimp only [AllIn] at hsb; (repeat (have hmm := hsb.1; replace hsb := hsb.2)); clear hsb; (try dsimp only)))
  (case' zqf => (intro D h tk w1 w2 w3 w4 F' N' hA; (try dsimp only at N'); (try dsimp only [AllNe] at hA))))
  trivial
theorem lines_86 : True := by
  k_with "call type:zip" => (k_here; k_dflt (refine' zip_call4 (fun x y => if 255 < x + y then 255 else x + y) (fun x y => (0 ≤ x ∧ x ≤ 255) ∧ (0 ≤ y ∧ y ≤ 255)) ?zqh ?zqF ?zqN ?zqa ?zqb ?zqp ?zqe ?zqf; walk_at "zip_two"))
  trivial
set_option maxHeartbeats 2000000 in
theorem con_plus {w : World} {loose : List Str} {mean : ExcName → Option Value} {mg mb : Str → Option Value} (t : Tok) (ta tb : Addr) (x1 x2 x3 al y1 y2 y3 be : Int) (t1 t2 t3 t4 t1' t2' t3' t4' : Tok) (n n' : Nat)
    (hx1 : 0 ≤ x1 ∧ x1 ≤ al) (hx2 : 0 ≤ x2 ∧ x2 ≤ al) (hx3 : 0 ≤ x3 ∧ x3 ≤ al) (hal : al ≤ 255) (hy1 : 0 ≤ y1 ∧ y1 ≤ be) (hy2 : 0 ≤ y2 ∧ y2 ≤ be) (hy3 : 0 ≤ y3 ∧ y3 ≤ be) (hbe : be ≤ 255) (hne : ta ≠ tb) :
    CC w loose mean mg mb 72 7 [(ta, tup4 x1 x2 x3 al t1 t2 t3 t4 n), (tb, tup4 y1 y2 y3 be t1' t2' t3' t4' n')] [.str (S "plus") t, .ref ta, .ref tb]
      (PureP [(ta, tup4 x1 x2 x3 al t1 t2 t3 t4 n), (tb, tup4 y1 y2 y3 be t1' t2' t3' t4' n')] (Tup4I (if 255 < x1 + y1 then 255 else x1 + y1) (if 255 < x2 + y2 then 255 else x2 + y2) (if 255 < x3 + y3 then 255 else x3 + y3) (if 255 < al + be then 255 else al + be))) := by
  walk_at "con_enterC"
  k_steps
  · walk_at "con_one"
    exact ⟨_, _, _, _, _, _, rfl, rfl⟩
  · exact hQE _ _ _ (by k_asm) (by k_asm)
end
section
theorem lines_87 : True := by
  w_top off
  k_with_none
  k_with "con_sub" => first | exact List.forall_mem_nil _ | (refine' List.forall_mem_cons.mpr ⟨?zL93a, ?zL93b⟩; (case zL93a => k_mem); (case zL93b => walk_at "con_sub"))
  k_with "con_off" => first | exact List.forall_mem_nil _ | (refine' List.forall_mem_cons.mpr ⟨?zL94a, ?zL94b⟩; (case zL94a => k_ne); (case zL94b => walk_at "con_off"))
  k_with "con_one" => (
  refine' con_end_one hret hrest' ?zrF ?zrN ?zrk ?zrn ?zrm ?_ ?zrD ?zrs
  case zrF => k_asm
  case zrN => k_asm
  case zrk => k_asm
  case zrn => k_asm
  case zrm => k_mem
  case zrD => walk_at "con_off"
  case zrs => walk_at "con_sub")
  k_with "con_val" => (
  refine' con_end_val hret hrest' ?zrF ?zrN ?zrk ?zrn ?_ ?zrs
  case zrF => k_asm
  case zrN => k_asm
  case zrk => k_asm
  case zrn => k_asm
  case zrs => walk_at "con_sub")
  trivial
theorem lines_88 : True := by
  k_with "con_enter" => (
  unfold CC Con
  k_fill
  intro dp un gd cn cs a ccd cl outer A₀ base h₀ L m news s Q E B F X N T hk hsub hd hu hret
  refine wpAny_call ?_
  k_dflt (refine' code_sub B F X N T hsub ?kA ?kF ?kK ?k6 ?k7 ?k8 ?k9 ?kB ?_ ?c2 ?c3 ?c4 ?c5; (case kA => exact rfl); (case kF => exact rfl); (case kK => assumption); (case k6 => k_is); (case k7 => k_is); (case k8 => ktr_room); (case k9 => exact BindsTo.of_eq rfl); (case c5 => decide); (case kB => exact locs rfl); (case c2 => exact rfl); (case c3 => exact rfl); (case c4 => exact rfl); k_whole; intro g' L' h' FG' F' N' B' X' T' hrest'; (try dsimp only); (try k_fold)))
  k_with "con_enterC" => (
  unfold CC Con
  k_fill
  intro dp un gd cn cs a ccd cl outer A₀ base h₀ L m news s Q E B F X N T hk hsub hd hu hret
  refine wpAny_call ?_
  k_dflt (refine' code_subC B F X N T hsub ?kA ?kF ?kK ?k6 ?k7 ?k8 ?k9 ?kB ?kD ?_ ?c2 ?c3 ?c4; (case kA => exact rfl); (case kF => exact rfl); (case kK => assumption); (case k6 => k_is); (case k7 => k_is); (case k8 => ktr_room); (case k9 => exact BindsTo.of_eq rfl); (case kB => exact rfl); (case kD => decide +kernel); (case c2 => exact rfl); (case c3 => exact rfl); (case c4 => exact rfl); k_whole; intro g' L' h' tk' cells' FG' F' N' Y' B' X' T' l1 hrest'; (try k_lt l1); k_cells Y'; (try simp only [List.cons_append, List.nil_append] at N'); (try dsimp only); (try k_fold)))
  k_with "subscriptTail Name Constant ref int" => (k_here; (with_reducible show wpAny _ _ (subscriptTail _ _ (Value.ref _) (Value.int _ _)) _ _ _); k_dflt (refine' item_led ?zL95N ?zL95m ?zL95a ?zL95b ?zL95d ?_; (case zL95N => k_asm); (case zL95m => k_mem); (case zL95a => decide); (case zL95b => decide); (case zL95d => rfl); k_whole))
  trivial
theorem lines_89 : True := by
  k_with "ktr_room" => ((try simp only [depth_under_make, depth_under_kw, depth_in1, depth_deeper, depth_caller]); (try dsimp only [ktrTop]); first | with_reducible exact room0 hd | with_reducible exact room1 hd rfl | with_reducible exact room2 hd rfl | with_reducible exact room3 hd rfl | with_reducible exact room4 hd rfl | (trace "ROOM by omega"; omega))
  k_with "ktr_units" => ((try simp only [units_in1, units_deeper, Around.mark_units, units_caller]); (try dsimp only [ktrTop]); first | with_reducible exact room1 hu rfl | with_reducible exact room2 hu rfl | with_reducible exact room3 hu rfl | with_reducible exact room4 hu rfl | (have hcL9 := cLine_is; trace "UNITS by omega"; trace_state; omega))
  k_with "in255" => first | with_reducible assumption | with_reducible exact k255 | with_reducible exact b255 (by assumption) (by assumption) | with_reducible exact a255 (by assumption) (by assumption) | with_reducible exact c255 (by assumption) (by assumption) | exact ⟨by omega, by omega⟩ | omega
  trivial
theorem lines_90 : True := by
  k_with "split_ne" => ((repeat (rename (@Ne Nat _ _ ∧ _) ∧ _ => hz9; (have hz8 := hz9.1); (have hz7 := hz9.2); clear hz9)); (repeat (rename @Ne Nat _ _ ∧ _ => hz9; (have hz8 := hz9.1); (have hz7 := hz9.2); clear hz9)))
  k_with "k_ne" => (refine neN ?_; (try dsimp only); first | assumption | exact Ne.symm (by assumption) | ((repeat (rename @Ne Nat _ _ => hz9; clear hz9)); (repeat (rename @Ne Nat _ _ ∧ _ => hz9; clear hz9)); (repeat (rename (@Ne Nat _ _ ∧ _) ∧ _ => hz9; clear hz9)); omega))
  trivial
theorem lines_91 : True := by
  k_with "con_use" => (
  (case zuk1 => k_asm); (case zuk2 => k_asm); (case zuk3 => k_asm); (case zuk4 => k_asm); (case zuk5 => k_asm); (case zukK => first | exact rfl | assumption); (case zukS => walk_at "con_sub"); (case zukd => ktr_room); (case zuku => ktr_units))
  k_with "call ref" => (k_here; k_dflt (refine' con_int ?zuk1 ?zuk2 ?zuk3 ?zuk4 ?zuk5 ?zukK (con_rounded _ _ _) ?zukS ?zukd ?zuku ?_; walk_at "con_use"; k_whole; intro t h' tk' F' N'))
  k_with "call ref" => (k_here; k_dflt (refine' con_int ?zuk1 ?zuk2 ?zuk3 ?zuk4 ?zuk5 ?zukK (con_mixed _ _ _ _ _ _ _ _ ?zua ?zub ?zuc ?zud) ?zukS ?zukd ?zuku ?_; walk_at "con_use"; (case zua => walk_at "in255"); (case zub => walk_at "in255"); (case zuc => walk_at "in255"); (case zud => walk_at "in255"); k_whole; intro t h' tk' F' N'))
  trivial
theorem lines_92 : True := by
  k_with "eval ListComp" => (k_here; (with_reducible show wpAny _ _ (eval (Expr.ListComp _ [⟨Expr.Tuple _ _ _, Expr.Call _ _ _ _, _, _⟩] _ _) _) _ _ _); k_dflt (refine ListComp_Z (F₀ := by k_asm) (by with_unfolding_all rfl) (by decide) (by rfl) (by decide) (by rfl) (by rfl) (by decide) ?_))
  k_with "zip_two" => (
  (case zqh => exact rfl)
  (case zqF => k_asm)
  (case zqN => k_asm)
  (case zqa => k_mem)
  (case zqb => k_mem)
  (case zqp => exact ⟨⟨⟨by omega, by omega⟩, by omega, by omega⟩, ⟨⟨by omega, by omega⟩, by omega, by omega⟩, ⟨⟨by omega, by omega⟩, by omega, by omega⟩, ⟨by omega, by omega⟩, by omega, by omega⟩)
  (case' zqe => (intro x y tx ty C oC m₂ big sE QE EE hxy hC hma hmb hCm hsub FE NE hQE; (have hxy1 := hxy.1.1); (have hxy2 := hxy.1.2); (have hxy3 := hxy.2.1); (have hxy4 := hxy.2.2); clear hxy; (have hsb := allIn_of hsub); clear hsub; dsimp only [AllIn] at hsb; (repeat (have hmm := hsb.1; replace hsb := hsb.2)); clear hsb; (try dsimp only)))
  (case' zqf => (intro D h tk w1 w2 w3 w4 F' N' hA; (try dsimp only at N'); (try dsimp only [AllNe] at hA))))
  trivial
theorem lines_93 : True := by
  k_with "call type:zip" => (k_here; k_dflt (refine' zip_call4 (fun x y => rnd (x * 255 + y * (255 - al))) (fun x y => (0 ≤ x ∧ x ≤ 255) ∧ (0 ≤ y ∧ y ≤ 255)) ?zqh ?zqF ?zqN ?zqa ?zqb ?zqp ?zqe ?zqf; walk_at "zip_two"))
  trivial
set_option maxHeartbeats 2000000 in
theorem con_over {w : World} {loose : List Str} {mean : ExcName → Option Value} {mg mb : Str → Option Value} (ta tb : Addr) (x1 x2 x3 al y1 y2 y3 be : Int) (t1 t2 t3 t4 t1' t2' t3' t4' : Tok) (n n' : Nat)
    (hx1 : 0 ≤ x1 ∧ x1 ≤ al) (hx2 : 0 ≤ x2 ∧ x2 ≤ al) (hx3 : 0 ≤ x3 ∧ x3 ≤ al) (hal : al ≤ 255) (hy1 : 0 ≤ y1 ∧ y1 ≤ be) (hy2 : 0 ≤ y2 ∧ y2 ≤ be) (hy3 : 0 ≤ y3 ∧ y3 ≤ be) (hbe : be ≤ 255) (hne : ta ≠ tb) :
    CC w loose mean mg mb 77 7 [(ta, tup4 x1 x2 x3 al t1 t2 t3 t4 n), (tb, tup4 y1 y2 y3 be t1' t2' t3' t4' n')] [.ref ta, .ref tb]
      (PureP [(ta, tup4 x1 x2 x3 al t1 t2 t3 t4 n), (tb, tup4 y1 y2 y3 be t1' t2' t3' t4' n')] (Tup4I (rnd (x1 * 255 + y1 * (255 - al))) (rnd (x2 * 255 + y2 * (255 - al))) (rnd (x3 * 255 + y3 * (255 - al))) (rnd (al * 255 + be * (255 - al))))) := by
  walk_at "con_enterC"
  k_steps
  · walk_at "con_one"
    exact ⟨_, _, _, _, _, _, rfl, rfl⟩
  · exact hQE _ _ _ (by k_asm) (by k_asm)
end
section
theorem con_contrary {w : World} {loose : List Str} {mean : ExcName → Option Value} {mg mb : Str → Option Value} (op op' : Str) (f g : Int → Int → Int) (t : Tok) (ta tb : Addr) (x1 x2 x3 al y1 y2 y3 be : Int) (t1 t2 t3 t4 t1' t2' t3' t4' : Tok) (n n' : Nat) (hop : (op, f, g) ∈ opT) (hc : (op, op') ∈ conT)
    (hx1 : 0 ≤ x1 ∧ x1 ≤ al) (hx2 : 0 ≤ x2 ∧ x2 ≤ al) (hx3 : 0 ≤ x3 ∧ x3 ≤ al) (hal : al ≤ 255) (hy1 : 0 ≤ y1 ∧ y1 ≤ be) (hy2 : 0 ≤ y2 ∧ y2 ≤ be) (hy3 : 0 ≤ y3 ∧ y3 ≤ be) (hbe : be ≤ 255) (hne : ta ≠ tb) :
    CC w loose mean mg mb 72 7 [(tb, tup4 y1 y2 y3 be t1' t2' t3' t4' n'), (ta, tup4 x1 x2 x3 al t1 t2 t3 t4 n)] [.str op' t, .ref tb, .ref ta]
      (PureP [(tb, tup4 y1 y2 y3 be t1' t2' t3' t4' n'), (ta, tup4 x1 x2 x3 al t1 t2 t3 t4 n)] (Tup4I (rnd (x1 * f al be + y1 * g al be)) (rnd (x2 * f al be + y2 * g al be)) (rnd (x3 * f al be + y3 * g al be)) (rnd (al * f al be + be * g al be)))) := by
  obtain ⟨f', g', h', e1, e2⟩ := con_of hop hc
  have h := con_composed (w := w) (loose := loose) (mean := mean) (mg := mg) (mb := mb) op' f' g' t tb ta y1 y2 y3 be x1 x2 x3 al t1' t2' t3' t4' t1 t2 t3 t4 n' n h' hy1 hy2 hy3 hbe hx1 hx2 hx3 hal hne.symm
  simp only [e1, e2] at h
  rw [Int.add_comm (y1 * _), Int.add_comm (y2 * _), Int.add_comm (y3 * _), Int.add_comm (be * _)] at h
  exact h
end
section
theorem lines_94 : True := by
  w_top off
  k_with_none
  k_with "con_sub" => first | exact List.forall_mem_nil _ | (refine' List.forall_mem_cons.mpr ⟨?zL100a, ?zL100b⟩; (case zL100a => k_mem); (case zL100b => walk_at "con_sub"))
  k_with "con_off" => first | exact List.forall_mem_nil _ | (refine' List.forall_mem_cons.mpr ⟨?zL101a, ?zL101b⟩; (case zL101a => k_ne); (case zL101b => walk_at "con_off"))
  k_with "con_one" => (
  refine' con_end_one hret hrest' ?zrF ?zrN ?zrk ?zrn ?zrm ?_ ?zrD ?zrs
  case zrF => k_asm
  case zrN => k_asm
  case zrk => k_asm
  case zrn => k_asm
  case zrm => k_mem
  case zrD => walk_at "con_off"
  case zrs => walk_at "con_sub")
  k_with "con_val" => (
  refine' con_end_val hret hrest' ?zrF ?zrN ?zrk ?zrn ?_ ?zrs
  case zrF => k_asm
  case zrN => k_asm
  case zrk => k_asm
  case zrn => k_asm
  case zrs => walk_at "con_sub")
  trivial
theorem lines_95 : True := by
  k_with "con_enter" => (
  unfold CC Con
  k_fill
  intro dp un gd cn cs a ccd cl outer A₀ base h₀ L m news s Q E B F X N T hk hsub hd hu hret
  refine wpAny_call ?_
  k_dflt (refine' code_sub B F X N T hsub ?kA ?kF ?kK ?k6 ?k7 ?k8 ?k9 ?kB ?_ ?c2 ?c3 ?c4 ?c5; (case kA => exact rfl); (case kF => exact rfl); (case kK => assumption); (case k6 => k_is); (case k7 => k_is); (case k8 => ktr_room); (case k9 => exact BindsTo.of_eq rfl); (case c5 => decide); (case kB => exact locs rfl); (case c2 => exact rfl); (case c3 => exact rfl); (case c4 => exact rfl); k_whole; intro g' L' h' FG' F' N' B' X' T' hrest'; (try dsimp only); (try k_fold)))
  k_with "con_enterC" => (
  unfold CC Con
  k_fill
  intro dp un gd cn cs a ccd cl outer A₀ base h₀ L m news s Q E B F X N T hk hsub hd hu hret
  refine wpAny_call ?_
  k_dflt (refine' code_subC B F X N T hsub ?kA ?kF ?kK ?k6 ?k7 ?k8 ?k9 ?kB ?kD ?_ ?c2 ?c3 ?c4; (case kA => exact rfl); (case kF => exact rfl); (case kK => assumption); (case k6 => k_is); (case k7 => k_is); (case k8 => ktr_room); (case k9 => exact BindsTo.of_eq rfl); (case kB => exact rfl); (case kD => decide +kernel); (case c2 => exact rfl); (case c3 => exact rfl); (case c4 => exact rfl); k_whole; intro g' L' h' tk' cells' FG' F' N' Y' B' X' T' l1 hrest'; (try k_lt l1); k_cells Y'; (try simp only [List.cons_append, List.nil_append] at N'); (try dsimp only); (try k_fold)))
  k_with "subscriptTail Name Constant ref int" => (k_here; (with_reducible show wpAny _ _ (subscriptTail _ _ (Value.ref _) (Value.int _ _)) _ _ _); k_dflt (refine' item_led ?zL102N ?zL102m ?zL102a ?zL102b ?zL102d ?_; (case zL102N => k_asm); (case zL102m => k_mem); (case zL102a => decide); (case zL102b => decide); (case zL102d => rfl); k_whole))
  trivial
theorem lines_96 : True := by
  k_with "ktr_room" => ((try simp only [depth_under_make, depth_under_kw, depth_in1, depth_deeper, depth_caller]); (try dsimp only [ktrTop]); first | with_reducible exact room0 hd | with_reducible exact room1 hd rfl | with_reducible exact room2 hd rfl | with_reducible exact room3 hd rfl | with_reducible exact room4 hd rfl | (trace "ROOM by omega"; omega))
  k_with "ktr_units" => ((try simp only [units_in1, units_deeper, Around.mark_units, units_caller]); (try dsimp only [ktrTop]); first | with_reducible exact room1 hu rfl | with_reducible exact room2 hu rfl | with_reducible exact room3 hu rfl | with_reducible exact room4 hu rfl | (have hcL9 := cLine_is; trace "UNITS by omega"; trace_state; omega))
  k_with "in255" => first | with_reducible assumption | with_reducible exact k255 | with_reducible exact b255 (by assumption) (by assumption) | with_reducible exact a255 (by assumption) (by assumption) | with_reducible exact c255 (by assumption) (by assumption) | exact ⟨by omega, by omega⟩ | omega
  trivial
theorem lines_97 : True := by
  k_with "split_ne" => ((repeat (rename (@Ne Nat _ _ ∧ _) ∧ _ => hz9; (have hz8 := hz9.1); (have hz7 := hz9.2); clear hz9)); (repeat (rename @Ne Nat _ _ ∧ _ => hz9; (have hz8 := hz9.1); (have hz7 := hz9.2); clear hz9)))
  k_with "k_ne" => (refine neN ?_; (try dsimp only); first | assumption | exact Ne.symm (by assumption) | ((repeat (rename @Ne Nat _ _ => hz9; clear hz9)); (repeat (rename @Ne Nat _ _ ∧ _ => hz9; clear hz9)); (repeat (rename (@Ne Nat _ _ ∧ _) ∧ _ => hz9; clear hz9)); omega))
  trivial
theorem lines_98 : True := by
  k_with "eval ListComp" => (k_here; (with_reducible show wpAny _ _ (eval (Expr.ListComp _ [⟨Expr.Name _ _, Expr.Name _ _, [_], _⟩] _ _) _) _ _ _); k_dflt (refine ListComp_TT (F₀ := by k_asm) (by with_unfolding_all rfl) (by decide) (by rfl) (by decide) (by rfl) ?_))
  k_with "TSrc" => (k_here; k_dflt (refine tsrc4 (by rfl) (by k_asm) (by k_asm) (by k_mem) ?_; intro g'))
  trivial
theorem lines_99 : True := by
  k_with "compareOp Eq ref ref" => (k_here; k_dflt (refine' nil_eq ?zL108N ?zL108a ?zL108b ?zL108u ?_; (case zL108N => k_asm); (case zL108a => k_mem); (case zL108b => k_mem); (case zL108u => ktr_units)))
  trivial
set_option maxHeartbeats 1000000 in
theorem con_iscol {w : World} {loose : List Str} {mean : ExcName → Option Value} {mg mb : Str → Option Value} (ta : Addr) (x1 x2 x3 al : Int) (t1 t2 t3 t4 : Tok) (n : Nat)
    (hx1 : 0 ≤ x1 ∧ x1 ≤ al) (hx2 : 0 ≤ x2 ∧ x2 ≤ al) (hx3 : 0 ≤ x3 ∧ x3 ≤ al) (hal : al ≤ 255) :
    CC w loose mean mg mb 218 10 [(ta, tup4 x1 x2 x3 al t1 t2 t3 t4 n)] [.ref ta] (PureP [(ta, tup4 x1 x2 x3 al t1 t2 t3 t4 n)] (BoolP true)) := by
  walk_at "con_enterC"
  k_steps
  walk_at "con_val"
  exact ⟨rfl, rfl⟩
end
section
theorem lines_100 : True := by
  w_top off
  k_with_none
  k_with "con_sub" => first | exact List.forall_mem_nil _ | (refine' List.forall_mem_cons.mpr ⟨?zL109a, ?zL109b⟩; (case zL109a => k_mem); (case zL109b => walk_at "con_sub"))
  k_with "con_off" => first | exact List.forall_mem_nil _ | (refine' List.forall_mem_cons.mpr ⟨?zL110a, ?zL110b⟩; (case zL110a => k_ne); (case zL110b => walk_at "con_off"))
  k_with "con_one" => (
  refine' con_end_one hret hrest' ?zrF ?zrN ?zrk ?zrn ?zrm ?_ ?zrD ?zrs
  case zrF => k_asm
  case zrN => k_asm
  case zrk => k_asm
  case zrn => k_asm
  case zrm => k_mem
  case zrD => walk_at "con_off"
  case zrs => walk_at "con_sub")
  k_with "con_val" => (
  refine' con_end_val hret hrest' ?zrF ?zrN ?zrk ?zrn ?_ ?zrs
  case zrF => k_asm
  case zrN => k_asm
  case zrk => k_asm
  case zrn => k_asm
  case zrs => walk_at "con_sub")
  trivial
theorem lines_101 : True := by
  k_with "con_enter" => (
  unfold CC Con
  k_fill
  intro dp un gd cn cs a ccd cl outer A₀ base h₀ L m news s Q E B F X N T hk hsub hd hu hret
  refine wpAny_call ?_
  k_dflt (refine' code_sub B F X N T hsub ?kA ?kF ?kK ?k6 ?k7 ?k8 ?k9 ?kB ?_ ?c2 ?c3 ?c4 ?c5; (case kA => exact rfl); (case kF => exact rfl); (case kK => assumption); (case k6 => k_is); (case k7 => k_is); (case k8 => ktr_room); (case k9 => exact BindsTo.of_eq rfl); (case c5 => decide); (case kB => exact locs rfl); (case c2 => exact rfl); (case c3 => exact rfl); (case c4 => exact rfl); k_whole; intro g' L' h' FG' F' N' B' X' T' hrest'; (try dsimp only); (try k_fold)))
  k_with "con_enterC" => (
  unfold CC Con
  k_fill
  intro dp un gd cn cs a ccd cl outer A₀ base h₀ L m news s Q E B F X N T hk hsub hd hu hret
  refine wpAny_call ?_
  k_dflt (refine' code_subC B F X N T hsub ?kA ?kF ?kK ?k6 ?k7 ?k8 ?k9 ?kB ?kD ?_ ?c2 ?c3 ?c4; (case kA => exact rfl); (case kF => exact rfl); (case kK => assumption); (case k6 => k_is); (case k7 => k_is); (case k8 => ktr_room); (case k9 => exact BindsTo.of_eq rfl); (case kB => exact rfl); (case kD => decide +kernel); (case c2 => exact rfl); (case c3 => exact rfl); (case c4 => exact rfl); k_whole; intro g' L' h' tk' cells' FG' F' N' Y' B' X' T' l1 hrest'; (try k_lt l1); k_cells Y'; (try simp only [List.cons_append, List.nil_append] at N'); (try dsimp only); (try k_fold)))
  k_with "subscriptTail Name Constant ref int" => (k_here; (with_reducible show wpAny _ _ (subscriptTail _ _ (Value.ref _) (Value.int _ _)) _ _ _); k_dflt (refine' item_led ?zL111N ?zL111m ?zL111a ?zL111b ?zL111d ?_; (case zL111N => k_asm); (case zL111m => k_mem); (case zL111a => decide); (case zL111b => decide); (case zL111d => rfl); k_whole))
  trivial
theorem lines_102 : True := by
  k_with "ktr_room" => ((try simp only [depth_under_make, depth_under_kw, depth_in1, depth_deeper, depth_caller]); (try dsimp only [ktrTop]); first | with_reducible exact room0 hd | with_reducible exact room1 hd rfl | with_reducible exact room2 hd rfl | with_reducible exact room3 hd rfl | with_reducible exact room4 hd rfl | (trace "ROOM by omega"; omega))
  k_with "ktr_units" => ((try simp only [units_in1, units_deeper, Around.mark_units, units_caller]); (try dsimp only [ktrTop]); first | with_reducible exact room1 hu rfl | with_reducible exact room2 hu rfl | with_reducible exact room3 hu rfl | with_reducible exact room4 hu rfl | (have hcL9 := cLine_is; trace "UNITS by omega"; trace_state; omega))
  k_with "in255" => first | with_reducible assumption | with_reducible exact k255 | with_reducible exact b255 (by assumption) (by assumption) | with_reducible exact a255 (by assumption) (by assumption) | with_reducible exact c255 (by assumption) (by assumption) | exact ⟨by omega, by omega⟩ | omega
  trivial
theorem lines_103 : True := by
  k_with "split_ne" => ((repeat (rename (@Ne Nat _ _ ∧ _) ∧ _ => hz9; (have hz8 := hz9.1); (have hz7 := hz9.2); clear hz9)); (repeat (rename @Ne Nat _ _ ∧ _ => hz9; (have hz8 := hz9.1); (have hz7 := hz9.2); clear hz9)))
  k_with "k_ne" => (refine neN ?_; (try dsimp only); first | assumption | exact Ne.symm (by assumption) | ((repeat (rename @Ne Nat _ _ => hz9; clear hz9)); (repeat (rename @Ne Nat _ _ ∧ _ => hz9; clear hz9)); (repeat (rename (@Ne Nat _ _ ∧ _) ∧ _ => hz9; clear hz9)); omega))
  trivial
theorem lines_104 : True := by
  k_with "con_use" => (
  (case zuk1 => k_asm); (case zuk2 => k_asm); (case zuk3 => k_asm); (case zuk4 => k_asm); (case zuk5 => k_asm); (case zukK => first | exact rfl | assumption); (case zukS => walk_at "con_sub"); (case zukd => ktr_room); (case zuku => ktr_units))
  k_with "call ref" => (k_here; k_dflt (refine' con_int ?zuk1 ?zuk2 ?zuk3 ?zuk4 ?zuk5 ?zukK (con_rounded _ _ _) ?zukS ?zukd ?zuku ?_; walk_at "con_use"; k_whole; intro t h' tk' F' N'))
  k_with "call ref" => (k_here; k_dflt (refine' con_int ?zuk1 ?zuk2 ?zuk3 ?zuk4 ?zuk5 ?zukK (con_mixed _ _ _ _ _ _ _ _ ?zua ?zub ?zuc ?zud) ?zukS ?zukd ?zuku ?_; walk_at "con_use"; (case zua => walk_at "in255"); (case zub => walk_at "in255"); (case zuc => walk_at "in255"); (case zud => walk_at "in255"); k_whole; intro t h' tk' F' N'))
  trivial
theorem lines_105 : True := by
  k_with "con_tup4" => (k_whole; intro D tA tB tC tD nn h' tk' F' N' hA; (try dsimp only [AllNe] at hA))
  k_with "con_cols" => ((case zu1 => walk_at "in255"); (case zu2 => walk_at "in255"); (case zu3 => walk_at "in255"); (case zu4 => walk_at "in255"); (case zu5 => walk_at "in255"); (case zu6 => walk_at "in255"); (case zu7 => walk_at "in255"); (case zu8 => walk_at "in255"); (case zu9 => k_ne))
  k_with "call ref" => (k_here; k_dflt (refine' con_tup4 ?zuk1 ?zuk2 ?zuk3 ?zuk4 ?zuk5 ?zukK (con_blended _ _ _ _ _ _ _ _ _ _ _ _ _ _ _ _ _ _ _ _ _ _ _ ?zuh ?zu1 ?zu2 ?zu3 ?zu4 ?zu5 ?zu6 ?zu7 ?zu8 ?zu9) ?zukS ?zukd ?zuku ?_; walk_at "con_use"; (case zuh => walk_at "con_hop"); walk_at "con_cols"; walk_at "con_tup4"))
  k_with "call ref" => (k_here; k_dflt (refine' con_tup4 ?zuk1 ?zuk2 ?zuk3 ?zuk4 ?zuk5 ?zukK (con_lblended _ _ _ _ _ _ _ _ _ _ _ _ _ _ _ _ _ _ _ _ _ _ _ ?zuh ?zu1 ?zu2 ?zu3 ?zu4 ?zu5 ?zu6 ?zu7 ?zu8 ?zu9) ?zukS ?zukd ?zuku ?_; walk_at "con_use"; (case zuh => walk_at "con_hop"); walk_at "con_cols"; walk_at "con_tup4"))
  trivial
theorem lines_106 : True := by
  k_with "call ref" => (k_here; k_dflt (refine' con_bool ?zuk1 ?zuk2 ?zuk3 ?zuk4 ?zuk5 ?zukK (con_iscol _ _ _ _ _ _ _ _ _ _ ?zu1 ?zu2 ?zu3 ?zu4) ?zukS ?zukd ?zuku ?_; walk_at "con_use"; (case zu1 => walk_at "col_in"); (case zu2 => walk_at "col_in"); (case zu3 => walk_at "col_in"); (case zu4 => walk_at "col_in"); k_whole; intro h' tk' F' N'))
  k_with "compareOp NotEq ref ref" => (k_here; k_dflt (refine' tup_ne ?zL115N ?zL115a ?zL115b ?zL115e ?zL115u ?_; (case zL115N => k_asm); (case zL115a => k_mem); (case zL115b => k_mem); (case zL115e => exact ⟨rfl, rfl, rfl, rfl⟩); (case zL115u => ktr_units)))
  trivial
theorem lines_107 : True := by
  k_with "con_hop" => assumption
  k_with "col_in" => first | exact blend_in (by assumption) ⟨by omega, by omega⟩ (by omega) ⟨by omega, by omega⟩ (by omega) | exact over_255 (by omega) (by omega)
  k_with "exec For Name Name cons nil" => (k_here; (rename Fr _ _ _ _ => lF'); (with_unfolding_all refine' For_invVF lF' ?zL118k1 ?zL118k2 ?_; (case zL118k1 => exact rfl); (case zL118k2 => exact rfl); k_whole))
  k_with "pyIter ref" => (k_here; k_dflt (refine' iter_same (S "told") ModeV ?zih ?ziF ?ziN ?zim ?ziv ?zit ?zid; (case zih => exact rfl); (case ziF => k_asm); (case ziN => k_asm); (case zim => k_mem); (case ziv => assumption); (case' zit => (intro I v it h tk u u' hI hv hc F' N'; obtain ⟨mode, f, t, rfl, hop⟩ := hv; have l1 := hI; k_lt l1)); (case' zid => (intro u u' h tk F' N'))))
  k_with "UnrEnd" => (refine' unrEnd_same ?zL119F ?zL119N ?zL119s ?zL119o ?zL119m; (case zL119F => k_asm); (case zL119N => k_asm); (case zL119s => walk_at "con_sub"); (case zL119o => assumption); (case zL119m => k_same2))
  trivial
set_option maxHeartbeats 8000000 in
theorem con_modes {w : World} {loose : List Str} {mean : ExcName → Option Value} {mg mb : Str → Option Value} (ta tb q : Addr) (x1 x2 x3 al y1 y2 y3 be : Int) (t1 t2 t3 t4 t1' t2' t3' t4' : Tok) (n n' : Nat) (vs : List Value) (c : Nat) (hv : ∀ v ∈ vs, ModeV v)
    (hx1 : 0 ≤ x1 ∧ x1 ≤ al) (hx2 : 0 ≤ x2 ∧ x2 ≤ al) (hx3 : 0 ≤ x3 ∧ x3 ≤ al) (hal : al ≤ 255) (hy1 : 0 ≤ y1 ∧ y1 ≤ be) (hy2 : 0 ≤ y2 ∧ y2 ≤ be) (hy3 : 0 ≤ y3 ∧ y3 ≤ be) (hbe : be ≤ 255) (hne : ta ≠ tb) :
    CC w loose mean mg mb 237 13 [(ta, tup4 x1 x2 x3 al t1 t2 t3 t4 n), (tb, tup4 y1 y2 y3 be t1' t2' t3' t4' n'), (q, W.listOf vs.toArray c)] [.ref ta, .ref tb, .ref q]
      (PureP [(ta, tup4 x1 x2 x3 al t1 t2 t3 t4 n), (tb, tup4 y1 y2 y3 be t1' t2' t3' t4' n'), (q, W.listOf vs.toArray c)] (BoolP true)) := by
  walk_at "con_enter"
  k_steps
  walk_at "con_val"
  exact ⟨rfl, rfl⟩
end
section
theorem lines_108 : True := by
  w_top off
  k_with_none
  k_with "con_sub" => first | exact List.forall_mem_nil _ | (refine' List.forall_mem_cons.mpr ⟨?zL120a, ?zL120b⟩; (case zL120a => k_mem); (case zL120b => walk_at "con_sub"))
  k_with "con_off" => first | exact List.forall_mem_nil _ | (refine' List.forall_mem_cons.mpr ⟨?zL121a, ?zL121b⟩; (case zL121a => k_ne); (case zL121b => walk_at "con_off"))
  k_with "con_one" => (
  refine' con_end_one hret hrest' ?zrF ?zrN ?zrk ?zrn ?zrm ?_ ?zrD ?zrs
  case zrF => k_asm
  case zrN => k_asm
  case zrk => k_asm
  case zrn => k_asm
  case zrm => k_mem
  case zrD => walk_at "con_off"
  case zrs => walk_at "con_sub")
  k_with "con_val" => (
  refine' con_end_val hret hrest' ?zrF ?zrN ?zrk ?zrn ?_ ?zrs
  case zrF => k_asm
  case zrN => k_asm
  case zrk => k_asm
  case zrn => k_asm
  case zrs => walk_at "con_sub")
  trivial
theorem lines_109 : True := by
  k_with "con_enter" => (
  unfold CC Con
  k_fill
  intro dp un gd cn cs a ccd cl outer A₀ base h₀ L m news s Q E B F X N T hk hsub hd hu hret
  refine wpAny_call ?_
  k_dflt (refine' code_sub B F X N T hsub ?kA ?kF ?kK ?k6 ?k7 ?k8 ?k9 ?kB ?_ ?c2 ?c3 ?c4 ?c5; (case kA => exact rfl); (case kF => exact rfl); (case kK => assumption); (case k6 => k_is); (case k7 => k_is); (case k8 => ktr_room); (case k9 => exact BindsTo.of_eq rfl); (case c5 => decide); (case kB => exact locs rfl); (case c2 => exact rfl); (case c3 => exact rfl); (case c4 => exact rfl); k_whole; intro g' L' h' FG' F' N' B' X' T' hrest'; (try dsimp only); (try k_fold)))
  k_with "con_enterC" => (
  unfold CC Con
  k_fill
  intro dp un gd cn cs a ccd cl outer A₀ base h₀ L m news s Q E B F X N T hk hsub hd hu hret
  refine wpAny_call ?_
  k_dflt (refine' code_subC B F X N T hsub ?kA ?kF ?kK ?k6 ?k7 ?k8 ?k9 ?kB ?kD ?_ ?c2 ?c3 ?c4; (case kA => exact rfl); (case kF => exact rfl); (case kK => assumption); (case k6 => k_is); (case k7 => k_is); (case k8 => ktr_room); (case k9 => exact BindsTo.of_eq rfl); (case kB => exact rfl); (case kD => decide +kernel); (case c2 => exact rfl); (case c3 => exact rfl); (case c4 => exact rfl); k_whole; intro g' L' h' tk' cells' FG' F' N' Y' B' X' T' l1 hrest'; (try k_lt l1); k_cells Y'; (try simp only [List.cons_append, List.nil_append] at N'); (try dsimp only); (try k_fold)))
  k_with "subscriptTail Name Constant ref int" => (k_here; (with_reducible show wpAny _ _ (subscriptTail _ _ (Value.ref _) (Value.int _ _)) _ _ _); k_dflt (refine' item_led ?zL122N ?zL122m ?zL122a ?zL122b ?zL122d ?_; (case zL122N => k_asm); (case zL122m => k_mem); (case zL122a => decide); (case zL122b => decide); (case zL122d => rfl); k_whole))
  trivial
theorem lines_110 : True := by
  k_with "ktr_room" => ((try simp only [depth_under_make, depth_under_kw, depth_in1, depth_deeper, depth_caller]); (try dsimp only [ktrTop]); first | with_reducible exact room0 hd | with_reducible exact room1 hd rfl | with_reducible exact room2 hd rfl | with_reducible exact room3 hd rfl | with_reducible exact room4 hd rfl | (trace "ROOM by omega"; omega))
  k_with "ktr_units" => ((try simp only [units_in1, units_deeper, Around.mark_units, units_caller]); (try dsimp only [ktrTop]); first | with_reducible exact room1 hu rfl | with_reducible exact room2 hu rfl | with_reducible exact room3 hu rfl | with_reducible exact room4 hu rfl | (have hcL9 := cLine_is; trace "UNITS by omega"; trace_state; omega))
  k_with "in255" => first | with_reducible assumption | with_reducible exact k255 | with_reducible exact b255 (by assumption) (by assumption) | with_reducible exact a255 (by assumption) (by assumption) | with_reducible exact c255 (by assumption) (by assumption) | exact ⟨by omega, by omega⟩ | omega
  trivial
theorem lines_111 : True := by
  k_with "split_ne" => ((repeat (rename (@Ne Nat _ _ ∧ _) ∧ _ => hz9; (have hz8 := hz9.1); (have hz7 := hz9.2); clear hz9)); (repeat (rename @Ne Nat _ _ ∧ _ => hz9; (have hz8 := hz9.1); (have hz7 := hz9.2); clear hz9)))
  k_with "k_ne" => (refine neN ?_; (try dsimp only); first | assumption | exact Ne.symm (by assumption) | ((repeat (rename @Ne Nat _ _ => hz9; clear hz9)); (repeat (rename @Ne Nat _ _ ∧ _ => hz9; clear hz9)); (repeat (rename (@Ne Nat _ _ ∧ _) ∧ _ => hz9; clear hz9)); omega))
  trivial
theorem lines_112 : True := by
  k_with "con_use" => (
  (case zuk1 => k_asm); (case zuk2 => k_asm); (case zuk3 => k_asm); (case zuk4 => k_asm); (case zuk5 => k_asm); (case zukK => first | exact rfl | assumption); (case zukS => walk_at "con_sub"); (case zukd => ktr_room); (case zuku => ktr_units))
  k_with "call ref" => (k_here; k_dflt (refine' con_int ?zuk1 ?zuk2 ?zuk3 ?zuk4 ?zuk5 ?zukK (con_rounded _ _ _) ?zukS ?zukd ?zuku ?_; walk_at "con_use"; k_whole; intro t h' tk' F' N'))
  k_with "call ref" => (k_here; k_dflt (refine' con_int ?zuk1 ?zuk2 ?zuk3 ?zuk4 ?zuk5 ?zukK (con_mixed _ _ _ _ _ _ _ _ ?zua ?zub ?zuc ?zud) ?zukS ?zukd ?zuku ?_; walk_at "con_use"; (case zua => walk_at "in255"); (case zub => walk_at "in255"); (case zuc => walk_at "in255"); (case zud => walk_at "in255"); k_whole; intro t h' tk' F' N'))
  trivial
theorem lines_113 : True := by
  k_with "con_tup4" => (k_whole; intro D tA tB tC tD nn h' tk' F' N' hA; (try dsimp only [AllNe] at hA))
  k_with "con_cols" => ((case zu1 => walk_at "in255"); (case zu2 => walk_at "in255"); (case zu3 => walk_at "in255"); (case zu4 => walk_at "in255"); (case zu5 => walk_at "in255"); (case zu6 => walk_at "in255"); (case zu7 => walk_at "in255"); (case zu8 => walk_at "in255"); (case zu9 => k_ne))
  k_with "call ref" => (k_here; k_dflt (refine' con_tup4 ?zuk1 ?zuk2 ?zuk3 ?zuk4 ?zuk5 ?zukK (con_blended _ _ _ _ _ _ _ _ _ _ _ _ _ _ _ _ _ _ _ _ _ _ _ ?zuh ?zu1 ?zu2 ?zu3 ?zu4 ?zu5 ?zu6 ?zu7 ?zu8 ?zu9) ?zukS ?zukd ?zuku ?_; walk_at "con_use"; (case zuh => walk_at "con_hop"); walk_at "con_cols"; walk_at "con_tup4"))
  k_with "call ref" => (k_here; k_dflt (refine' con_tup4 ?zuk1 ?zuk2 ?zuk3 ?zuk4 ?zuk5 ?zukK (con_lblended _ _ _ _ _ _ _ _ _ _ _ _ _ _ _ _ _ _ _ _ _ _ _ ?zuh ?zu1 ?zu2 ?zu3 ?zu4 ?zu5 ?zu6 ?zu7 ?zu8 ?zu9) ?zukS ?zukd ?zuku ?_; walk_at "con_use"; (case zuh => walk_at "con_hop"); walk_at "con_cols"; walk_at "con_tup4"))
  trivial
theorem lines_114 : True := by
  k_with "call ref" => (k_here; k_dflt (refine' con_bool ?zuk1 ?zuk2 ?zuk3 ?zuk4 ?zuk5 ?zukK (con_iscol _ _ _ _ _ _ _ _ _ _ ?zu1 ?zu2 ?zu3 ?zu4) ?zukS ?zukd ?zuku ?_; walk_at "con_use"; (case zu1 => walk_at "col_in"); (case zu2 => walk_at "col_in"); (case zu3 => walk_at "col_in"); (case zu4 => walk_at "col_in"); k_whole; intro h' tk' F' N'))
  k_with "compareOp NotEq ref ref" => (k_here; k_dflt (refine' tup_ne ?zL126N ?zL126a ?zL126b ?zL126e ?zL126u ?_; (case zL126N => k_asm); (case zL126a => k_mem); (case zL126b => k_mem); (case zL126e => exact ⟨rfl, rfl, rfl, rfl⟩); (case zL126u => ktr_units)))
  trivial
theorem lines_115 : True := by
  k_with "elt_in" => (unfold EltI; intro tx C oC m₂ big sE QE EE hC hx hCm hsub FE NE hQE; (have hsb := allIn_of hsub); clear hsub; dsimp only [AllIn] at hsb; (repeat (have hmm := hsb.1; replace hsb := hsb.2)); clear hsb; (try dsimp only))
  k_with "range_4" => ((case zrh => exact rfl); (case zrF => k_asm); (case zrN => k_asm); (case zrr => assumption); (case' zr0 => walk_at "elt_in"); (case' zr1 => walk_at "elt_in"); (case' zr2 => walk_at "elt_in"); (case' zr3 => walk_at "elt_in"); (case' zrf => (intro gH w0 w1 w2 w3)))
  k_with "range_3" => ((case zrh => exact rfl); (case zrF => k_asm); (case zrN => k_asm); (case zrr => assumption); (case' zr0 => walk_at "elt_in"); (case' zr1 => walk_at "elt_in"); (case' zr2 => walk_at "elt_in"); (case' zrf => (intro gH w0 w1 w2)))
  trivial
theorem lines_116 : True := by
  k_with "call ref" => (k_here; k_dflt (refine' con_tup2i ?zuk1 ?zuk2 ?zuk3 ?zuk4 ?zuk5 ?zukK (con_weights _ _ _ _ _ _ _ _ ?zuh) ?zukS ?zukd ?zuku ?_; walk_at "con_use"; (case zuh => assumption); k_whole; intro D tA tB nn h' tk' F' N' hA; (try dsimp only [AllNe] at hA)))
  k_with "call ref" => (k_here; k_dflt (refine' con_tup4 ?zuk1 ?zuk2 ?zuk3 ?zuk4 ?zuk5 ?zukK (con_over _ _ _ _ _ _ _ _ _ _ _ _ _ _ _ _ _ _ _ _ ?zu1 ?zu2 ?zu3 ?zu4 ?zu5 ?zu6 ?zu7 ?zu8 ?zu9) ?zukS ?zukd ?zuku ?_; walk_at "con_use"; walk_at "con_cols"; walk_at "con_tup4"))
  k_with "call ref" => (k_here; k_dflt (refine' con_tup4 ?zuk1 ?zuk2 ?zuk3 ?zuk4 ?zuk5 ?zukK (con_composed _ _ _ _ _ _ _ _ _ _ _ _ _ _ _ _ _ _ _ _ _ _ _ _ ?zuh ?zu1 ?zu2 ?zu3 ?zu4 ?zu5 ?zu6 ?zu7 ?zu8 ?zu9) ?zukS ?zukd ?zuku ?_; walk_at "con_use"; (case zuh => walk_at "con_hop"); walk_at "con_cols"; walk_at "con_tup4"))
  k_with "call ref" => (k_here; k_dflt (refine' con_tup4 ?zuk1 ?zuk2 ?zuk3 ?zuk4 ?zuk5 ?zukK (con_plus _ _ _ _ _ _ _ _ _ _ _ _ _ _ _ _ _ _ _ _ _ ?zu1 ?zu2 ?zu3 ?zu4 ?zu5 ?zu6 ?zu7 ?zu8 ?zu9) ?zukS ?zukd ?zuku ?_; walk_at "con_use"; walk_at "con_cols"; walk_at "con_tup4"))
  k_with "con_hop" => first | assumption | exact over_hop | exact normal_hop
  k_with "con_same" => first | exact rfl | exact normal_over _ _ _ _
  k_with "compareOp Eq ref ref" => (k_here; k_dflt (refine' tup_eq ?zL129N ?zL129a ?zL129b ?zL129e ?zL129u ?_; (case zL129N => k_asm); (case zL129a => k_mem); (case zL129b => k_mem); (case zL129e => exact ⟨by walk_at "con_same", by walk_at "con_same", by walk_at "con_same", by walk_at "con_same"⟩); (case zL129u => ktr_units)))
  trivial
theorem lines_117 : True := by
  k_with "call ref" => (k_here; k_dflt (refine' con_tup4 ?zuk1 ?zuk2 ?zuk3 ?zuk4 ?zuk5 ?zukK (con_contrary _ _ _ _ _ _ _ _ _ _ _ _ _ _ _ _ _ _ _ _ _ _ _ _ _ ?zuh ?zuhc ?zu1 ?zu2 ?zu3 ?zu4 ?zu5 ?zu6 ?zu7 ?zu8 ?zu9) ?zukS ?zukd ?zuku ?_; (case zuh => exact hop); (case zuhc => first | exact ct_src (by with_reducible assumption) | exact ct_over (by with_reducible assumption) | exact ct_in (by with_reducible assumption) | exact ct_out (by with_reducible assumption) | exact ct_atop (by with_reducible assumption) | exact ct_xor (by with_reducible assumption)); walk_at "con_use"; walk_at "con_cols"; walk_at "con_tup4"))
  trivial
theorem lines_118 : True := by
  k_with "exec For Name BinOp cons nil" => (k_here; (rename Fr _ _ _ _ => lF'); (with_unfolding_all refine' For_invVF lF' ?zL130k1 ?zL130k2 ?_; (case zL130k1 => exact rfl); (case zL130k2 => exact rfl); k_whole))
  k_with "opvs" => first | exact List.forall_mem_nil _ | (refine List.forall_mem_cons.mpr ⟨opV_of (by decide +kernel), ?_⟩; walk_at "opvs")
  k_with "pyIter ref" => (k_here; k_dflt (refine' iter_upd (l := L' + 1 + 1 + 1) (S "due") OpV CellW ?zih ?ziF ?ziN ?ziU ?ziC ?zim ?ziv ?zit ?zid; (case zih => exact rfl); (case ziF => k_asm); (case ziN => exact news_drop23 (by k_asm)); (case ziU => intro _; k_upd); (case ziC => exact ⟨_, by assumption⟩); (case zim => (intro _; (try dsimp only); k_mem)); (case ziv => walk_at "opvs"); (case' zit => (intro I v it h tk u u' oW hI hv hc hW F' N'; obtain ⟨op, f, g, t, rfl, hop⟩ := hv; obtain ⟨vW, dW⟩ := hW; (try dsimp only at N'); have l1 := hI oW; (try dsimp only at l1); k_lt l1)); (case' zid => (intro u u' oW h tk hW F' N'; (try dsimp only at N'); replace N' := news_drop3 N'; clear hW))); (case zid => (k_steps; all_goals first | exact hQE _ _ _ (by k_asm) (by k_asm) | (walk_at "con_val"; exact ⟨rfl, rfl⟩))))
  k_with "UnrEnd" => (refine' unrEnd_upd _ ?zL132F ?zL132N ?zL132c ?zL132s ?zL132o ?zL132m; (case zL132F => k_asm); (case zL132N => k_asm); (case zL132s => ((try dsimp only); walk_at "con_sub")); (case zL132c => exact ⟨_, by assumption⟩); (case zL132o => assumption); (case zL132m => k_same2))
  k_with "col_in" => first | (with_reducible exact cap_in (by assumption) (by assumption)) | (with_reducible exact cap_255 _ _) | (refine sum_in (by assumption) (by assumption) ?_ ?_ <;> first | exact (op_in (by assumption) (by walk_at "in255") (by walk_at "in255")).1.1 | exact (op_in (by assumption) (by walk_at "in255") (by walk_at "in255")).2.1.1) | exact rnd_255 (op_in (by assumption) (by walk_at "in255") (by walk_at "in255")).2.2
  trivial
theorem lines_119 : True := by
  k_with "range_4y" => ((case yrh => exact rfl); (case yrF => k_asm); (case yrN => k_asm); (case yrr => assumption); (case' yr0 => walk_at "elt_in"); (case' yr1 => walk_at "elt_in"); (case' yr2 => walk_at "elt_in"); (case' yr3 => walk_at "elt_in"); (case' yrf => (intro gH w0 w1 w2 w3)))
  k_with "CompSrc" => (k_here; k_dflt (refine' src_range4 (if 255 < x1 + y1 then 255 else x1 + y1) (if 255 < x2 + y2 then 255 else x2 + y2) (if 255 < x3 + y3 then 255 else x3 + y3) (if 255 < al + be then 255 else al + be) ?yrh ?yrF ?yrN ?yrr ?yr0 ?yr1 ?yr2 ?yr3 ?yrf; walk_at "range_4y"))
  k_with "CompSrc" => (k_here; k_dflt (refine' src_range4 (rnd (x1 * f al be + y1 * g al be)) (rnd (x2 * f al be + y2 * g al be)) (rnd (x3 * f al be + y3 * g al be)) (rnd (al * f al be + be * g al be)) ?zrh ?zrF ?zrN ?zrr ?zr0 ?zr1 ?zr2 ?zr3 ?zrf; walk_at "range_4"))
  trivial
set_option maxHeartbeats 8000000 in
theorem con_ops {w : World} {loose : List Str} {mean : ExcName → Option Value} {mg mb : Str → Option Value} (ta tb : Addr) (x1 x2 x3 al y1 y2 y3 be : Int) (t1 t2 t3 t4 t1' t2' t3' t4' : Tok) (n n' : Nat)
    (hx1 : 0 ≤ x1 ∧ x1 ≤ al) (hx2 : 0 ≤ x2 ∧ x2 ≤ al) (hx3 : 0 ≤ x3 ∧ x3 ≤ al) (hal : al ≤ 255) (hy1 : 0 ≤ y1 ∧ y1 ≤ be) (hy2 : 0 ≤ y2 ∧ y2 ≤ be) (hy3 : 0 ≤ y3 ∧ y3 ≤ be) (hbe : be ≤ 255) (hne : ta ≠ tb) :
    CC w loose mean mg mb 230 13 [(ta, tup4 x1 x2 x3 al t1 t2 t3 t4 n), (tb, tup4 y1 y2 y3 be t1' t2' t3' t4' n')] [.ref ta, .ref tb]
      (PureP [(ta, tup4 x1 x2 x3 al t1 t2 t3 t4 n), (tb, tup4 y1 y2 y3 be t1' t2' t3' t4' n')] (BoolP true)) := by
  walk_at "con_enterC"
  k_steps
  all_goals first
    | exact hQE _ _ _ (by k_asm) (by k_asm)
    | (walk_at "con_val"; exact ⟨rfl, rfl⟩)
    | (exfalso; exact no_con (by assumption) (by assumption) (by assumption) (by assumption) (by assumption) (by assumption) (by assumption))
end
section
section
open Sem (wp)
open Builtin Builtin.ObjectAttr
/-- Two own classes over a built-in one: `C` over `D` over what stands in `bm`; with what lies in the namespaces of both. -/
structure Chain (h : Heap) (C D N N' : Addr) (bm : List Value) (newId : String) (mN mN' : Str → Option Value) : Prop where
  top : ∃ nm q bs sn sub ab col dd k0 k1 k2 k3 k5, h.get? C = some (excClassObj nm q C N bs (.ref D :: bm) true sn sub ab col dd k0 k1 k2 k3 k5 newId)
  low : ∃ nm q bs sn sub ab col dd k0 k1 k2 k3 k5, h.get? D = some (excClassObj nm q D N' bs bm true sn sub ab col dd k0 k1 k2 k3 k5 newId)
  nsTop : h.Ns N mN
  nsLow : h.Ns N' mN'
theorem ns_keeps {h h' : Heap} {N : Addr} {m : Str → Option Value} (x : h.Ns N m) (k : ∀ b o, h.get? b = some o → h'.get? b = some o) : h'.Ns N m :=
  let ⟨o, es, ep, e, r⟩ := x; ⟨o, es, ep, k _ _ e, r⟩
theorem Chain.keeps {h h' : Heap} {C D N N' : Addr} {bm : List Value} {newId : String} {mN mN' : Str → Option Value} (x : Chain h C D N N' bm newId mN mN') (k : ∀ b o, h.get? b = some o → h'.get? b = some o) :
    Chain h' C D N N' bm newId mN mN' := by
  obtain ⟨⟨a1, a2, a3, a4, a5, a6, a7, a8, a9, a10, a11, a12, a13, ha⟩, ⟨b1, b2, b3, b4, b5, b6, b7, b8, b9, b10, b11, b12, b13, hb⟩, n1, n2⟩ := x
  exact ⟨⟨_, _, _, _, _, _, _, _, _, _, _, _, _, k _ _ ha⟩, ⟨_, _, _, _, _, _, _, _, _, _, _, _, _, k _ _ hb⟩, ns_keeps n1 k, ns_keeps n2 k⟩

section
variable {M : Model} {A : Around} {E : Value → Shared → Prop} {h : Heap} {g : Array GenState} {d : Drawn} {t : Nat} {os : OsState}
variable {C D N N' : Addr} {bm : List Value} {B newId initId : String} {mN mN' : Str → Option Value}

/-- A name looked up along such a chain. -/
theorem chain_lookup {name : Str} {y : Option Value} {Q : Option Value → Shared → Prop} (K : Chain h C D N N' bm newId mN mN') (hbm : mroOf (.type B) = pure bm) (hB : typeLookup (.type B) name = pure y)
    (hq : Q (match mN name with | some v => some v | none => match mN' name with | some v => some v | none => y) ⟨h, g, d, t, os⟩) : wpAny M A (typeLookup (.ref C) name) Q E ⟨h, g, d, t, os⟩ := by
  obtain ⟨_, _, _, _, _, _, _, _, _, _, _, _, _, hC⟩ := K.top
  obtain ⟨_, _, _, _, _, _, _, _, _, _, _, _, _, hD⟩ := K.low
  have hr : lookupAlong bm name = pure y := by rw [typeLookup_eq, hbm] at hB; exact hB
  rw [typeLookup_eq]
  refine wpAny_bind (wpAny_mroOf_exc hC ?_)
  rw [lookupAlong_cons]
  refine wpAny_bind (wpAny_classOwn_exc hC K.nsTop ?_)
  cases hv : mN name with
  | some v => rw [hv] at hq; exact wpAny_pure hq
  | none =>
    rw [hv] at hq
    dsimp only at hq ⊢
    rw [lookupAlong_cons]
    refine wpAny_bind (wpAny_classOwn_exc hD K.nsLow ?_)
    cases hw : mN' name with
    | some v => rw [hw] at hq; exact wpAny_pure hq
    | none => rw [hw] at hq; dsimp only at hq ⊢; rw [hr]; exact wpAny_pure hq

theorem mem_two {C D : Addr} {bm : List Value} {T : String} {b : Bool} (hb : bm.contains (.type T) = b) : (Value.ref C :: .ref D :: bm).contains (.type T) = b := by
  rw [List.contains_cons, List.contains_cons, hb]; rfl

/-- The arguments of `__new__`, for the class at the head of the chain. -/
theorem chain_new_check (F : ExcBaseFacts B newId initId bm) (K : Chain h C D N N' bm newId mN mN') {rest : List Value} {Q : Unit → Shared → Prop} (hq : Q () ⟨h, g, d, t, os⟩) :
    wpAny M A (checkBuiltinCall newId ⟨.ref C :: rest, []⟩) Q E ⟨h, g, d, t, os⟩ := by
  obtain ⟨_, _, _, _, _, _, _, _, _, _, _, _, _, hC⟩ := K.top
  have hm := mem_two (C := C) (D := D) F.hasB
  have hs := F.noStar
  simp only [checkBuiltinCall, F.newKind, F.newSplit, F.newRow]
  repeat (first | refine wpAny_loadPart_at hC ?_ | (refine wpAny_isSubtype_exc hC ?_; rw [hm]) | refine wpAny_staticBase_exc hC ?_ | refine wpAny_madeBy_exc hC ?_ | simp only [bne_self_eq_false, Bool.false_eq_true, if_false] | wp_step)
  exact hq
end

section
variable {prog : Program} {w : World} {A : Around} {E : Value → Shared → Prop} {h : Heap} {g : Array GenState} {d : Drawn} {t : Nat} {os : OsState}
variable {C D N N' : Addr} {bm : List Value} {B newId initId : String} {mN mN' : Str → Option Value}

/-- The two objects that `__new__` lays down. -/
abbrev newTwo (h : Heap) (C : Addr) (rest : List Value) : Heap :=
  (h.push { cls := .type "tuple", data := .seq rest.toArray }).push { cls := .ref C, data := .fields #[.ref h.objs.size, .none, .none, .none, .bool false, .none] }
theorem newTwo_keeps {C : Addr} {rest : List Value} (b : Addr) (o : Obj) (e : h.get? b = some o) : (newTwo h C rest).get? b = some o := Heap.get?_push_of_some _ (Heap.get?_push_of_some _ e)
theorem newTwo_there {C : Addr} {rest : List Value} : (newTwo h C rest).get? (h.objs.size + 1) = some { cls := .ref C, data := .fields #[.ref h.objs.size, .none, .none, .none, .bool false, .none] } := by heap_get
theorem newTwo_made {C : Addr} {rest : List Value} : Heap.MadeExcOf h (newTwo h C rest) (h.objs.size + 1) (.ref C) rest :=
  ⟨newTwo_keeps, Heap.get?_none_of_le (Nat.le_succ _), h.objs.size, newTwo_there, Heap.get?_none_of_le (Nat.le_refl _), Heap.get?_push_of_some _ (Heap.get?_push_at rfl rfl)⟩

theorem chain_new (F : ExcBaseFacts B newId initId bm) (K : Chain h C D N N' bm newId mN mN') {rest : List Value} {R : Result → Shared → Prop} (hrest : rest.length ≤ sizeLine)
    (hq : R (.ok (.ret (.ref (h.objs.size + 1)))) ⟨newTwo h C rest, g, d, t, os⟩) :
    codeAny (model prog w) A (.builtin newId ⟨.ref C :: rest, []⟩) R ⟨h, g, d, t, os⟩ := by
  obtain ⟨_, _, _, _, _, _, _, _, _, _, _, _, _, hC⟩ := K.top
  have he := F.ends
  have m1 := mem_two (C := C) (D := D) F.hasB
  have m2 := mem_two (C := C) (D := D) F.noAttr
  have m3 := mem_two (C := C) (D := D) F.noName
  refine codeAny_builtinAt F.entry ?_
  unfold Builtin.«BaseException.__new__»
  refine PySem.wpAt_bind ?_
  show PySem.wpAt _ _ _ (stack >>= _) _ _ _
  refine PySem.wpAt_bind (PySem.wpAt_stack fun p below => PySem.wpAt_of_wpAny ?_)
  wp_walk
  refine PySem.wpAt_of_wpAny ?_
  rw [F.owner]
  repeat (first | with_reducible refine wpAny_madeHere_exc F.canon hC ?_ | with_reducible refine wpAny_loadPart_at hC ?_ | (with_reducible refine wpAny_isSubtype_exc hC ?_; first | rw [m1] | rw [m2] | rw [m3]) | wp_step)
  show R _ _
  rw [Heap.size_push]
  exact hq

/-- Such a class called, where `__init__` is the lower class's own def. -/
theorem chain_type_call (F : ExcBaseFacts B newId initId bm) (K : Chain h C D N N' bm newId mN mN') {rest : List Value} {fI : Addr} {oI : Obj} {Q : Fin → Shared → Prop}
    (hn : mN "__init__" = none) (hi : mN' "__init__" = some (.ref fI)) (hfI : h.get? fI = some oI) (hfc : oI.cls = .type "function") (hrest : rest.length ≤ sizeLine)
    (hq : ∀ h' e, Heap.MadeExcOf h h' e (.ref C) rest →
      wpAny (model prog w) A (call (.ref fI) (.ref e :: rest)) (fun r s' => r = .none ∧ Q (.done (.ret (.ref e))) s') E ⟨h', g, d, t, os⟩) :
    wpAny (model prog w) A (Builtin.«type.__call__» ⟨.ref C :: rest, []⟩) Q E ⟨h, g, d, t, os⟩ := by
  obtain ⟨_, _, _, _, _, _, _, _, _, _, _, _, _, hC⟩ := K.top
  repeat (first | with_reducible refine wpAny_loadPart_at hC ?_ | with_reducible refine wpAny_madeBy_exc hC ?_ | wp_step)
  refine codeAny_call_builtin_code (Code.quiet_builtin _ F.quiet) (chain_new_check F K ?_)
  refine chain_new F K hrest ?_
  show wpAny _ _ _ _ _ _
  have K₁ := K.keeps (h' := newTwo h C rest) newTwo_keeps
  have hC₁ := newTwo_keeps (C := C) (rest := rest) _ _ hC
  have hget := newTwo_there (h := h) (C := C) (rest := rest)
  have hcC : (Value.ref C :: .ref D :: bm).contains (.ref C) = true := by simp
  unfold isInstance
  repeat (first | with_reducible refine wpAny_loadPart_at hget ?_ | (with_reducible refine wpAny_isSubtype_exc hC₁ ?_; rw [hcC]) | wp_step)
  show wpAny _ _ (typeLookup (.ref C) _) _ _ _
  refine chain_lookup K₁ F.mroIs F.init.lookup ?_
  rw [hn, hi]
  refine wpAny_holding (wpAny_bind ?_)
  unfold bindSpecial
  refine wpAny_bind (wpAny_typeOf (T := "function") ⟨_, newTwo_keeps _ _ hfI, hfc⟩ ?_)
  rw [if_pos (by decide)]
  refine wpAny_pure (wpAny_bind (wpAny_mono (hq _ (h.objs.size + 1) newTwo_made) (fun r s' hr => ?_) fun _ _ x => x))
  obtain ⟨rfl, hQ⟩ := hr
  wp_walk
  exact hQ

theorem chain_call (F : ExcBaseFacts B newId initId bm) (K : Chain h C D N N' bm newId mN mN') {rest : List Value} {fI : Addr} {oI : Obj} {Q : Value → Shared → Prop}
    (hn : mN "__init__" = none) (hi : mN' "__init__" = some (.ref fI)) (hfI : h.get? fI = some oI) (hfc : oI.cls = .type "function") (hrest : rest.length ≤ sizeLine)
    (hq : ∀ h' e, Heap.MadeExcOf h h' e (.ref C) rest →
      wpAny (model prog w) (A.under (.builtin "type.__call__" ⟨.ref C :: rest, []⟩)) (call (.ref fI) (.ref e :: rest)) (fun r s' => r = .none ∧ Q (.ref e) s') E ⟨h', g, d, t, os⟩) :
    wpAny (model prog w) A (call (.ref C) rest) Q E ⟨h, g, d, t, os⟩ := by
  obtain ⟨_, _, _, _, _, _, _, _, _, _, _, _, _, hC⟩ := K.top
  have f1 := tc_lookup
  have f2 := tc_bind (.ref C)
  have hT : (⟨h, g, d, t, os⟩ : Shared).TypeIs (.ref C) "type" := ⟨_, hC, rfl⟩
  refine wpAny_call (codeAny_of_tree ?_)
  show wpAny _ _ (callAny (.ref C) _) _ _ _
  repeat (any_goals (first | assumption | with_reducible refine wpAny_loadPart_at hC ?_ | wp_step))
  refine ⟨rfl, ?_⟩
  exact codeAny_call_builtin_at (Code.quiet_builtin _ (by decide +kernel)) entry_typeCall (wpAny_check_type_call_sub hC (chain_type_call F K hn hi hfI hfc hrest fun h' e hm => hq h' e hm))
end
end
end
section
section
open Sem (wp)
open Builtin Builtin.ObjectAttr
section
variable {prog : Program} {w : World} {A : Around} {E : Value → Shared → Prop} {h : Heap} {g : Array GenState} {d : Drawn} {t : Nat} {os : OsState}
variable {C D N N' e : Addr} {bm : List Value} {B newId sa owner : String} {mN mN' : Str → Option Value} {name : Str} {v : Value} {vs : Array Value} {tk : Tok}

theorem chain_store_check {M : Model} {nameV : Value} {Q : Unit → Shared → Prop} (SF : StoreFacts B bm sa owner) (K : Chain h C D N N' bm newId mN mN') (he : h.get? e = some { cls := .ref C, data := .fields vs })
    (hq : Q () ⟨h, g, d, t, os⟩) : wpAny M A (checkBuiltinCall sa ⟨[.ref e, nameV, v], []⟩) Q E ⟨h, g, d, t, os⟩ := by
  obtain ⟨_, _, _, _, _, _, _, _, _, _, _, _, _, hC⟩ := K.top
  have hm := mem_two (C := C) (D := D) SF.hasOwner
  have ha := SF.args (.ref e) nameV v
  simp only [checkBuiltinCall, SF.kind, SF.split]
  refine wpAny_bind ?_
  unfold isInstance
  repeat (first | with_reducible refine wpAny_loadPart_at he ?_ | (with_reducible refine wpAny_isSubtype_exc hC ?_; rw [hm]) | wp_step)
  cases hsig : Manifest.signature? sa with
  | none => exact wpAny_pure hq
  | some sig =>
    simp only [argsOk, hsig] at ha
    have h2 : Bind.checkArgs sa sig ⟨[.ref e, nameV, v], []⟩ = pure () := ha
    show wpAny M A (Bind.checkArgs sa sig ⟨[.ref e, nameV, v], []⟩) Q E _
    rw [h2]; exact wpAny_pure hq

theorem chain_store_body {Q : Fin → Shared → Prop} (SF : StoreFacts B bm sa owner) (K : Chain h C D N N' bm newId mN mN') (hna : mN name = none) (hna' : mN' name = none) (hB : typeLookup (.type B) name = pure none)
    {o : Obj} (he : h.get? e = some o) (hc : o.cls = .ref C) (hdn : o.dict = none) (hdd : o.data = .fields vs)
    (hq : ∀ h' tk' dx, h'.get? e = some { o with dict := some dx } → (∀ b o, b ≠ e → h.get? b = some o → h'.get? b = some o) → Q (.done (.ret .none)) ⟨h', g, d, tk', os⟩) :
    wpAny (model prog w) A (Builtin.«object.__setattr__» ⟨[.ref e, .str name tk, v], []⟩) Q E ⟨h, g, d, t, os⟩ := by
  obtain ⟨_, _, _, _, _, _, _, _, _, _, _, _, _, hC⟩ := K.top
  have hpass := SF.passes (.ref e)
  unfold Builtin.«object.__setattr__»
  repeat (first | rw [refuse_eq] | (rw [refuseLoop_ref, refuseLoop_ref, hpass]) | (with_reducible refine wpAny_loadPart_at he ?_; rw [hc]) | with_reducible refine wpAny_mroOf_exc hC ?_ | (with_reducible refine chain_lookup K SF.mro hB ?_; rw [hna, hna']) | wp_step)
  rw [hdn, if_neg (by simp [typeHasDict])]
  split
  · rename_i hcd
    cases hcd
  split
  · rename_i c hcd
    rw [hdd] at hcd
    cases hcd
  have he₁ : (h.push { cls := .type "dict", data := .dict #[] }).get? e = some o := Heap.get?_push_of_some _ he
  have hes : e ≠ h.objs.size := Nat.ne_of_lt (Heap.lt_size he)
  refine wpAny_bind (wpAny_alloc' ?_)
  refine wpAny_bind (wpAny_update' he₁ ?_)
  refine wpAny_pure ?_
  have hgd : ((h.push { cls := .type "dict", data := .dict #[] }).update e fun o => { cls := o.cls, dict := some h.objs.size, data := o.data, slots := o.slots }).get? h.objs.size
      = some { cls := .type "dict", data := .dict #[] } :=
    (Heap.get?_update_ne _ _ _ _ hes.symm).trans (Heap.get?_push_at rfl rfl)
  have hnd : ((h.push { cls := .type "dict", data := .dict #[] }).update e fun o => { cls := o.cls, dict := some h.objs.size, data := o.data, slots := o.slots }).Ns h.objs.size (fun _ => none) :=
    ⟨_, #[], _, hgd, rfl, fun e he => absurd he (by simp), fun _ => rfl⟩
  show wpAny _ _ (storeInDict h.objs.size (.str name tk) name v) _ _ _
  unfold storeInDict newKeyGuard
  refine wpAny_bind (wpAny_pure (wpAny_bind (wpAny_nsSet1 (Heap.Ns1.of_empty hnd) fun h' hn' hs => ?_)))
  obtain ⟨oD, esD, epD, hoD, hdD, hcD⟩ := hn'.count (Within.cons name v Within.nil)
  refine wpAny_bind (wpAny_lookBehind hoD (by rw [hdD]; exact pastItsLine_dict (Nat.le_trans hcD (by rw [List.length_cons, List.length_nil, sizeLine_eq]; omega))) ?_)
  wp_walk
  refine hq h' _ h.objs.size ((hs.2 e hes).trans (Heap.get?_update_self _ he₁ (Obj.isFreed_of_fields (vs := vs) hdd))) fun b ob hbe hb => ?_
  exact (hs.2 b (Nat.ne_of_lt (Heap.lt_size hb))).trans ((Heap.get?_update_ne _ _ _ _ hbe).trans (Heap.get?_push_of_some _ hb))

/-- An attribute stored in an object of such a chain that holds none so far. -/
theorem chain_store {Q : Unit → Shared → Prop} (SF : StoreFacts B bm sa owner) (K : Chain h C D N N' bm newId mN mN') (hs : mN "__setattr__" = none) (hs' : mN' "__setattr__" = none) (hna : mN name = none) (hna' : mN' name = none)
    (hB : typeLookup (.type B) name = pure none) (he : h.get? e = some { cls := .ref C, data := .fields vs })
    (hq : ∀ h' tk' dx, h'.get? e = some { cls := .ref C, dict := some dx, data := .fields vs } → (∀ b o, b ≠ e → h.get? b = some o → h'.get? b = some o) → Q () ⟨h', g, d, tk', os⟩) :
    wpAny (model prog w) A (setAttr (.ref e) name v) Q E ⟨h, g, d, t, os⟩ := by
  have f3 := SF.slot.bind (.ref e)
  unfold setAttr callSpecial? specialOf
  repeat (any_goals (first | assumption | with_reducible refine wpAny_loadPart_at he ?_ | (with_reducible refine chain_lookup K SF.mro SF.slot.lookup ?_; rw [hs, hs']) | wp_step))
  refine codeAny_call_builtin SF.slot.plain SF.entry (chain_store_check SF K he (chain_store_body SF K hna hna' hB he rfl rfl rfl fun h' tk' dx hx hk => ?_))
  repeat (any_goals (first | assumption | wp_step))
  exact hq h' tk' dx hx hk
end
end
end
section
section
open Sem (wp)
/-- The built-in tail. -/
abbrev tailE : List Value := [.type "Exception", .type "BaseException", .type "object"]
/-- An exception of an own class, made and given one attribute. -/
structure Made2 (h h' : Heap) (e : Addr) (cls : Value) (args : List Value) : Prop where
  keeps : ∀ b o, h.get? b = some o → h'.get? b = some o
  new : h.get? e = none
  there : ∃ t dx, h'.get? e = some { cls := cls, dict := some dx, data := .fields #[.ref t, .none, .none, .none, .bool false, .none] } ∧ h.get? t = none ∧ h'.get? t = some { cls := .type "tuple", data := .seq args.toArray }

theorem ns_some_of {K : Frag} {h : Heap} {N : Addr} {mg : Str → Option Value} {n : Str} {v : Value} (X : K.In h) (G : h.Ns N mg) (e : nsIn K N n = some (some v)) : mg n = some v := by
  obtain ⟨o, es, ep, ho, hd, _, hf⟩ := G
  unfold nsIn at e
  split at e
  · rename_i c d es' n' sl q
    have := X _ _ q
    rw [ho] at this
    cases this
    cases hd
    split at e
    · rename_i en he
      cases e
      rw [← hf]
      unfold nsFind findBy
      rw [← Array.find?_toList, he]
      rfl
    · split at e <;> cases e
  · cases e

/-- The two own classes of this text. -/
theorem fault_chain {w : World} {h : Heap} (X : (hd.heap_39 w.params).In h) : Chain h 44 31 43 30 tailE "Exception.__new__" (h.nsMap 43) (h.nsMap 30) where
  top := ⟨S "ColourFault", S "ColourFault", [.ref 31], [], [], false, none, none, some (.ref 35), none, some (.str (S "ColourFault") 218), some (.str (S "ColourFault") 226), some (.bool true), X 44 _ (by kernel_rfl)⟩
  low := ⟨S "MillError", S "MillError", [.type "Exception"], [], [.ref 44], false, none, none, some (.ref 15), none, some (.str (S "MillError") 189), some (.str (S "MillError") 197), some (.bool true), X 31 _ (by kernel_rfl)⟩
  nsTop := .of_isNs (isNs_of_in X (by kernel_rfl))
  nsLow := .of_isNs (isNs_of_in X (by kernel_rfl))
theorem fault_none {w : World} {h : Heap} (X : (hd.heap_39 w.params).In h) {x : Str} (e : nsIn (hd.heap_39 w.params) 43 x = some none) : h.nsMap 43 x = none := ns_none_of X (fault_chain X).nsTop e
theorem mill_none {w : World} {h : Heap} (X : (hd.heap_39 w.params).In h) {x : Str} (e : nsIn (hd.heap_39 w.params) 30 x = some none) : h.nsMap 30 x = none := ns_none_of X (fault_chain X).nsLow e
theorem mill_init {w : World} {h : Heap} (X : (hd.heap_39 w.params).In h) : h.nsMap 30 "__init__" = some (.ref 28) := ns_some_of X (fault_chain X).nsLow (by kernel_rfl)
theorem no_message : typeLookup (.type "Exception") ("message" : Str) = pure none := by rw [typeLookup_type, builtinLookup_eq_fast]; kernel_rfl
end
end
section
section
open Sem (wp)
/-- A fault that may be raised: an object of an own class that holds an attribute. -/
def ChainRaisable (E : Value → Shared → Prop) (v : Value) (s : Shared) : Prop :=
  ∃ C D N N' bm newId mN mN' e t dx, v = .ref e ∧ Chain s.heap C D N N' bm newId mN mN' ∧ bm.contains (.type "BaseException") = true ∧
    s.heap.get? e = some { cls := .ref C, dict := some dx, data := .fields #[.ref t, .none, .none, .none, .bool false, .none] } ∧ E (.ref e) s

/-- The fault's class called with its message. -/
theorem call_fault {w : World} {A : Around} {E : Value → Shared → Prop} {s : Shared} {h₀ : Heap} {L : Addr} {m mg mb : Str → Option Value} {loose : List Str} {mean : ExcName → Option Value} {msg : Str} {tk : Tok}
    (F : Fr h₀ L s.heap m) (X : (hd.heap_39 w.params).In h₀) (T : Top view loose mean mg mb h₀) (hroom : A.depth + 1 < recursionLimit)
    (hq : ∀ h' e tk', Made2 s.heap h' e (.ref 44) [.str msg tk] → E (.ref e) { s with heap := h', toks := tk' }) :
    wpAny (model PySem.Challenge.rw_nu0006_01.row.prog w) A (call (.ref 44) [.str msg tk]) (ChainRaisable E) E s := by
  revert X
  k_fill
  intro X
  obtain ⟨h, g, d, t, os⟩ := s
  have Xh := X.keeps F.keep
  refine chain_call PySem.F.excBase_Exception (fault_chain Xh) (fault_none Xh (by kernel_rfl)) (mill_init Xh) (Xh 28 _ (by k_is)) (by rfl) (by size_fits) fun h' e M => ?_
  have X' := Xh.keeps M.keeps
  refine wpAny_call (codeAny_call_def hroom (X' 28 _ (by k_is)) (by rfl) ((T.nolimit.keeps F.keep).keeps M.keeps) (codeRec_of X' (by k_is)) (by rfl) (BindsTo.of_eq (by rfl)) (by decide) (locs (by rfl)) (fun h₁ hns hk₁ => ?_) (by rfl) (by rfl) (by rfl))
  obtain ⟨t₀, he, htn, htt⟩ := M.there
  have X₁ := X'.keeps hk₁
  refine wpAny_execs_cons (plainObj_wpAny_Assign_Attribute (ldc rfl rfl hns rfl (ldc rfl rfl hns rfl ?_)))
  refine chain_store PySem.F.store_Exception (fault_chain X₁) (fault_none X₁ (by kernel_rfl)) (mill_none X₁ (by kernel_rfl)) (fault_none X₁ (by kernel_rfl)) (mill_none X₁ (by kernel_rfl)) no_message (hk₁ _ _ he) fun h₂ tk₂ dx hx hk₂ => wpAny_execs_nil ?_
  have kk : ∀ b o, h.get? b = some o → h₂.get? b = some o := fun b o e₁ => hk₂ b o (fun z => by rw [z, M.new] at e₁; cases e₁) (hk₁ _ _ (M.keeps _ _ e₁))
  exact ⟨rfl, 44, 31, 43, 30, tailE, _, _, _, e, t₀, dx, rfl, fault_chain (Xh.keeps kk), by decide, hx, hq _ _ _ ⟨kk, M.new, t₀, dx, hx, htn, hk₂ _ _ (fun z => by rw [z, he] at htt; cases htt) (hk₁ _ _ htt)⟩⟩
end
end
section
section
open Sem (wp)
theorem Raise_chain {M : Model} {A : Around} {E : Value → Shared → Prop} {s : Shared} {env : Env} {x : Expr} {pos : Pos} {Q : Flow → Shared → Prop} (hh : A.handled = none) (h : wpAny M A (eval x env) (ChainRaisable E) E s) :
    wpAny M A (exec (.Raise (some x) none pos) env) Q E s := by
  show wpAny M A (do standAt pos; raiseStmt env (some (do let v ← eval x env; standAt pos; pure v)) none) Q E s
  refine wpAny_bind (wpAny_standAt ?_)
  unfold raiseStmt
  dsimp only
  refine wpAny_bind (wpAny_bind (wpAny_mono h (fun v s₁ h₁ => wpAny_bind (wpAny_standAt (wpAny_pure ?_))) fun _ _ x => x))
  obtain ⟨C, D, N, N', bm, newId, mN, mN', e, t, dx, rfl, K, hb, he, hE⟩ := h₁
  obtain ⟨_, _, _, _, _, _, _, _, _, _, _, _, _, hC⟩ := K.top
  have hm := mem_two (C := C) (D := D) hb
  obtain ⟨hp, g, d, tk, os⟩ := s₁
  repeat (first | with_reducible refine wpAny_loadPart_at he ?_ | with_reducible refine wpAny_loadPart_at hC ?_ | (with_reducible refine wpAny_isSubtype_exc hC ?_; rw [hm]) | wp_step)
  exact wpAny_raiseNew_none hh hE

section
variable {M : Model} {A : Around} {E : Value → Shared → Prop} {s' : Shared} {base g g₂ h : Heap} {outer : List Env} {L a e t : Addr} {m : Str → Option Value} {name : Str} {scope : Scope} {cd : Value} {Q : Unit → Shared → Prop} {news : List (Addr × Obj)}
/-- The def that raised is left. -/
theorem leave_raise2 {cls : Value} {vs : List Value} (K : Below A base outer g) (hx : Made2 h s'.heap e cls vs) (F : Fr g L h m) (N : News g L h news)
    (hQ : ∀ h' t, RaisedK base outer e cls t vs news h' → g.UpToSlots h' → Q () { s' with heap := h' }) (hk : scope.kind = .function := by rfl) :
    wpAny M (A.deeper (envOf name scope L a cd)) (leaving (envOf name scope L a cd) (.ref e)) Q E s' := by
  have K' := K.push (name := name) (a := a) (cd := cd) F hk
  have hin : ∀ env ∈ (envOf name scope L a cd :: outer), ∀ b, env.frame = some b → b ∈ (envOf name scope L a cd :: outer).filterMap (·.frame) := fun env he b hb => List.mem_filterMap.mpr ⟨env, he, hb⟩
  obtain ⟨t₀, dx, he, htn, htt⟩ := hx.there
  generalize hB : hideAll h ((envOf name scope L a cd :: outer).filterMap (·.frame)) = B
  have st : base.StaysIn B := fun b o q => by
    rw [← hB]
    exact hideAll_get _ (K'.stays b o q) fun hm => by rw [(K'.frames.mem hm).1] at q; cases q
  have hl : ∀ q ∈ news, B.get? q.1 = some q.2 ∧ base.get? q.1 = none := fun q hq => by
    rw [← hB]
    refine ⟨hideAll_get _ (N q hq).1 fun hm => ?_, fresh_of_stays K.stays (N q hq).2.2⟩
    obtain ⟨env, he, hf⟩ := List.mem_filterMap.mp hm
    rcases List.mem_cons.mp he with rfl | he
    · exact (N q hq).2.1 (Option.some.inj hf).symm
    · obtain ⟨o, ho, _⟩ := (K.frames.mem (List.mem_filterMap.mpr ⟨env, he, hf⟩)).2
      rw [(N q hq).2.2] at ho; cases ho
  have kB : ∀ b o, B.get? b = some o → h.get? b = some o := fun b o q => by rw [← hB] at q; exact of_hideAll _ q
  have fB : ∀ b, h.get? b = none → B.get? b = none := fun b hb => by
    cases hq : B.get? b with
    | none => rfl
    | some o => have := kB b o hq; rw [hb] at this; cases this
  have fr : h.FunFrames B (envOf name scope L a cd :: outer) := by rw [← hB]; exact funFrames_hide K'.frames hin
  refine wpAny_leaving_firstW (base := B) (a0 := .ref t₀) K'.stack (fr.of_keeps fun b o hb _ => ⟨o, hx.keeps b o hb, rfl⟩) rfl he (fun b o hb => hx.keeps b o (kB b o hb)) (fB e hx.new) rfl rfl rfl fun h' hL => ?_
  obtain ⟨k1, ⟨_, _, k2⟩, k3, k4⟩ := hL
  exact hQ h' t₀ ⟨⟨B, st, hl, ⟨k1, fB e hx.new, k2, k3⟩, fB t₀ htn⟩, Heap.TupAt.of_slots ⟨_, _, htt, rfl, rfl⟩ k4⟩ (((Heap.UpToSlots.of_keeps F.keep).trans (Heap.UpToSlots.of_keeps hx.keeps)).trans k4)
end

/-- A def that did not raise it is left, whatever its environment. -/
theorem leave_on2 {M : Model} {A : Around} {E : Value → Shared → Prop} {s' : Shared} {base g g₂ : Heap} {outer : List Env} {env : Env} {L e t : Addr} {m : Str → Option Value} {Q : Unit → Shared → Prop} {news : List (Addr × Obj)} {cls : Value} {vs : List Value}
    (hf : env.frame = some L) (K : Below A base outer g) (F : Fr g L g₂ m) (R : RaisedK base (env :: outer) e cls t vs news s'.heap) (hsm : g₂.UpToSlots s'.heap)
    (hQ : ∀ h', RaisedK base outer e cls t vs news h' → g.UpToSlots h' → Q () { s' with heap := h' }) :
    wpAny M (A.deeper env) (leaving env (.ref e)) Q E s' := by
  obtain ⟨⟨B, hB, hl, hfl, hnew⟩, htup⟩ := R
  exact wpAny_leaves_onW (Around.frames_deeper K.stack) hf hfl fun h' x1 x2 => hQ h' ⟨⟨B, hB, hl, x1, hnew⟩, htup.of_slots x2⟩ ((Heap.UpToSlots.of_keeps F.keep).trans (hsm.trans x2))

end
end
section
section
open Sem (wp)
open PyProof.Rows.LCg PySem.Spec
/-- A fault flies; the frames of `l` are still to be left. -/
def Flies (base : Heap) (l : List Env) (e : Addr) (h : Heap) : Prop := ∃ t : Addr, Heap.FlyingW base l e (.ref 44) (.ref t) h
/-- A fault that a comprehension of the frame at the head has let go. -/
def Helds (base : Heap) (l : List Env) (e : Addr) (h : Heap) : Prop :=
  base.StaysIn h ∧ base.get? e = none ∧ h.FunFrames base l ∧ ∃ (t : Addr) (fl : Value), h.TracedAtW base e (.ref 44) (.ref t) fl
theorem flies_of {base h : Heap} {l : List Env} {e t : Addr} {vs : List Value} {news : List (Addr × Obj)} (R : RaisedK base l e (.ref 44) t vs news h) : Flies base l e h := by
  obtain ⟨⟨B, hB, _, hfl, _⟩, _⟩ := R
  exact ⟨t, flyingW_base hB hfl⟩

theorem funFrames_on {base h h' : Heap} : ∀ {l : List Env}, h.FunFrames base l → (∀ env ∈ l, ∀ a, env.frame = some a → h'.get? a = h.get? a) → h'.FunFrames base l
  | [], _, _ => trivial
  | env :: _, ⟨hk, ⟨L, o, hf, hn, ho, hd⟩, hr⟩, hin => ⟨hk, ⟨L, o, hf, hn, (hin env (.head _) L hf).trans ho, hd⟩, funFrames_on hr fun e he => hin e (.tail _ he)⟩

section
variable {M : Model} {A : Around} {E : Value → Shared → Prop} {s : Shared} {base g g₂ h : Heap} {outer : List Env} {env : Env} {L e : Addr} {m : Str → Option Value} {Q : Unit → Shared → Prop}
theorem frames_push (K : Below A base outer g) (F : Fr g L h m) (hf : env.frame = some L) (hk : env.scope.kind = .function) : h.FunFrames base (env :: outer) := by
  obtain ⟨o, es, ep, ho, hd, _⟩ := F.ns
  refine ⟨by rw [hk]; decide, ⟨L, o, hf, fresh_of_stays K.stays (Heap.get?_none_of_le F.above), ho, ?_⟩, K.frames.of_keeps fun b o hb _ => ⟨o, F.keep _ _ hb, rfl⟩⟩
  intro vs q
  rw [hd] at q
  cases q

theorem leave_raise3 {vs : List Value} {name : Str} {scope : Scope} {a : Addr} {cd : Value} (K : Below A base outer g) (hx : Made2 h s.heap e (.ref 44) vs) (F : Fr g L h m)
    (hQ : ∀ h', Flies base outer e h' → g.UpToSlots h' → Q () { s with heap := h' }) (hk : scope.kind = .function := by rfl) :
    wpAny M (A.deeper (envOf name scope L a cd)) (leaving (envOf name scope L a cd) (.ref e)) Q E s :=
  leave_raise2 K hx F News.nil (fun h' _ R U => hQ h' (flies_of R) U) hk
theorem leave_on3 (hf : env.frame = some L) (K : Below A base outer g) (F : Fr g L g₂ m) (R : Flies base (env :: outer) e s.heap) (hsm : g₂.UpToSlots s.heap)
    (hQ : ∀ h', Flies base outer e h' → g.UpToSlots h' → Q () { s with heap := h' }) : wpAny M (A.deeper env) (leaving env (.ref e)) Q E s := by
  obtain ⟨t, hfl⟩ := R
  exact wpAny_leaves_onW (Around.frames_deeper K.stack) hf hfl fun h' x1 x2 => hQ h' ⟨t, x1⟩ ((Heap.UpToSlots.of_keeps F.keep).trans (hsm.trans x2))

/-- The frame noted, whatever the traceback's head says of the flight. -/
theorem note_any {cls a0 fl : Value} (hfr : A.frames = some (env :: outer)) (hl : s.heap.FunFrames base (env :: outer)) (hf : env.frame = some L) (ht : s.heap.TracedAtW base e cls a0 fl) (hkb : base.StaysIn s.heap) (hen : base.get? e = none)
    (hQ : ∀ h', Heap.HeldW base (env :: outer) e cls a0 L h' → s.heap.UpToSlots h' → Q () { s with heap := h' }) : wpAny M A (noteFrame (.ref e) env) Q E s := by
  by_cases hq : (fl == rawInt L) = true
  · obtain rfl := eq_of_beq hq
    exact wpAny_noteFrame_againW hf ht (hQ s.heap ⟨hkb, hen, hl, ht⟩ (Heap.UpToSlots.refl _))
  · obtain ⟨oe, vs, T, oT, ts, he, ⟨hcls, h0⟩, hd, h1, hnT, hTe, hT, hdT, h3⟩ := ht
    subst hcls
    unfold noteFrame
    simp only [hf]
    refine wpAny_bind (wpAny_field he hd h1 ?_)
    rw [if_pos (show (Value.ref T != Value.none) = true from by simp)]
    refine wpAny_bind (wpAny_field hT hdT h3 ?_)
    rw [if_neg hq]
    refine wpAny_bind (wpAny_setField hT hdT (Array.getElem?_eq_some_iff.mp h3).1 ?_)
    have other : ∀ b, b ≠ T → (s.heap.update T (Obj.mapFields (·.setIfInBounds 3 Value.none))).get? b = s.heap.get? b := fun b hb => Heap.get?_update_other _ _ (Ne.symm hb)
    have noRecord : ∀ b o, s.heap.get? b = some o → (∀ vs, o.data ≠ .fields vs) → b ≠ T := fun b o hb hnf q => by
      rw [q, hT] at hb; injection hb with hb; subst hb; exact hnf ts hdT
    refine wpAny_entryW hfr (hl.of_keeps fun b o hb hnf => ⟨o, (other b (noRecord b o hb hnf)).trans hb, rfl⟩) hf ((other e (Ne.symm hTe)).trans he)
      (fun b o hbo => (other b fun q => by rw [q, hnT] at hbo; cases hbo).trans (hkb b o hbo)) hen hd (Array.getElem?_eq_some_iff.mp h1).1 h0
      fun h' ⟨x1, x2, x3, x4⟩ => hQ h' ⟨x1, hen, x2, x3⟩ fun b o hb hnf => x4 b o ((other b (noRecord b o hb hnf)).trans hb) hnf

/-- The frame of the comprehension is left. -/
theorem leave_held (hf : env.frame = some L) (K : Below A base outer g) (F : Fr g L g₂ m) (R : Helds base (env :: outer) e s.heap) (hsm : g₂.UpToSlots s.heap)
    (hQ : ∀ h', Flies base outer e h' → g.UpToSlots h' → Q () { s with heap := h' }) : wpAny M (A.deeper env) (leaving env (.ref e)) Q E s := by
  obtain ⟨hkb, hen, hl, t, fl, ht⟩ := R
  unfold leaving
  refine wpAny_bind (note_any (Around.frames_deeper K.stack) hl hf ht hkb hen fun h₁ held u₁ => ?_)
  refine wpAny_landsW held fun h₂ hfl u₂ => ?_
  obtain ⟨k1, k2, ⟨_, _, k3⟩, k4⟩ := hfl
  exact hQ h₂ ⟨t, k1, k2, k3, k4⟩ ((Heap.UpToSlots.of_keeps F.keep).trans (hsm.trans (u₁.trans u₂)))

/-- The fault passed on by a comprehension. -/
theorem passOn_any {what : String} {cenv : Env} {l : List Env} {P : Value → Shared → Prop} (R : Helds base l e s.heap) (hE : ∀ h', Helds base l e h' → s.heap.UpToSlots h' → E (.ref e) { s with heap := h' }) :
    wpAny M A (PySem.passOn what (.ref e) cenv : Sem Value) P E s := by
  obtain ⟨hkb, hen, hl, t, fl, oe, vs, T, oT, ts, he, hcls, hd, h1, hnT, hTe, hT, hdT, h3⟩ := R
  have hsz3 : 3 < ts.size := (Array.getElem?_eq_some_iff.mp h3).1
  have other : ∀ b, b ≠ T → (s.heap.update T (Obj.mapFields (·.setIfInBounds 3 (cenv.frame.elim Value.none fun f => rawInt f)))).get? b = s.heap.get? b :=
    fun b hb => Heap.get?_update_other _ _ (Ne.symm hb)
  have noRecord : ∀ b o, s.heap.get? b = some o → (∀ vs, o.data ≠ .fields vs) → b ≠ T := fun b o hb hnf q => by
    rw [q, hT] at hb; injection hb with hb; subst hb; exact hnf ts hdT
  unfold PySem.passOn setFlight
  refine wpAny_bind (wpAny_field he hd h1 ?_)
  rw [if_neg (show ¬ (Value.ref T == Value.none) = true from by simp)]
  refine wpAny_bind (wpAny_bind (wpAny_field he hd h1 ?_))
  rw [if_pos (show (Value.ref T != Value.none) = true from by simp)]
  refine wpAny_setField hT hdT hsz3 (wpAny_throw ?_)
  refine hE _ ⟨fun b o hbo => (other b fun q => by rw [q, hnT] at hbo; cases hbo).trans (hkb b o hbo), hen, hl.of_keeps fun b o hb hnf => ⟨o, (other b (noRecord b o hb hnf)).trans hb, rfl⟩, t, _,
    oe, vs, T, _, _, (other e (Ne.symm hTe)).trans he, hcls, hd, h1, hnT, hTe, Heap.get?_update_self _ hT (Obj.isFreed_of_fields (Obj.data_mapFields hdT _)), Obj.data_mapFields hdT _, by simp [hsz3]; rfl⟩
    fun b o hb hnf => ⟨o.slots, (other b (noRecord b o hb hnf)).trans hb⟩
end
end
end
section
section
open Sem (wp)
open PyProof.Rows.LCg PySem.Spec
section
variable {prog : Program} {w : World} {A : Around} {E : Value → Shared → Prop} {s : Shared} {base h₀ : Heap} {L : Addr} {m : Str → Option Value} {env : Env} {outer : List Env}

/-- The element of a comprehension's first turn raises a fault. -/
def EltR (prog : Program) (w : World) (A : Around) (base h₀ : Heap) (L : Addr) (m : Str → Option Value) (env : Env) (outer : List Env) (elt : Expr) (x : Str) (scope : Scope) (cl : List (Str × Addr)) (news : List (Addr × Obj)) (s : Shared) : Prop :=
  ∀ (tv : Tok) (C : Addr) (oC : Obj) (m₂ : Str → Option Value) (big : List (Addr × Obj)) (h : Heap) (tk : Nat) (Q' E' : Value → Shared → Prop),
    NsObj oC m₂ → m₂ x = some (.int 0 tv) → (C, oC) ∈ big → (∀ q ∈ news, q ∈ big) → Fr h₀ L h m → News h₀ L h big →
    (∀ (e : Addr) (h' : Heap) (tk' : Nat), Flies base (env :: outer) e h' → h.UpToSlots h' → E' (.ref e) { s with heap := h', toks := tk' }) →
    wpAny (model prog w) A (eval elt (compEnvC scope cl C env)) Q' E' { s with heap := h, toks := tk }

theorem block_raise {elt iter : Expr} {x : Str} {px : Pos} {scope : Scope} {cl : List (Str × Addr)} {pos : Pos} {s₂ : Shared} {I : Addr} {news : List (Addr × Obj)} {RR : Value → Addr → Result → Shared → Prop}
    (hh : A.handled = none) (hfr : A.frames = some (env :: outer)) (hf : env.frame = some L) (hst : IsRangeIter s₂.heap I (0 + ((0 : Nat) : Int) * 1) (((3 : Nat) : Int) - ((0 : Nat) : Int)) 1)
    (hcell : ∀ y ∈ scope.names, y.2 ≠ .cell) (hkind : scope.kind = .function) (hx : scope.names.lookup x = some .local)
    (F : Fr h₀ L s₂.heap m) (N : News h₀ L s₂.heap news) (hIL : L ≠ I) (hI₀ : h₀.get? I = none) (off : ∀ p ∈ news, p.1 ≠ I)
    (R : EltR prog w A base h₀ L m env outer elt x scope cl news s₂)
    (hRR : ∀ (e C D : Addr) (h₁ h' : Heap) (tk' : Nat) (m' : Str → Option Value), s₂.heap.get? C = none → (∀ b o, s₂.heap.get? b = some o → b ≠ I → h₁.get? b = some o) → h₁.Ns C m' → h₁.UpToSlots h' → (∃ t, Heap.HeldW base (env :: outer) e (.ref 44) (.ref t) L h') → RR (.ref D) C (.error (.ref e)) { s₂ with heap := h', toks := tk' }) :
    wpAny (model prog w) A (newList []) (fun acc s₃ => wpAny (model prog w) A (newFunctionEnv scope env.globals cl [] env.qual none .none (some env)) (fun cenv s₄ =>
      codeAny (model prog w) A (.compStart (.ListComp elt [⟨.Name x px, iter, [], 0⟩] scope pos) 0 (.ref I) acc { cenv with scope := relabel scope env }) (RR acc cenv.locals) s₄) E s₃) E s₂ := by
  have W := range_walks (prog := prog) (w := w) (I := I) hh 0 3
  refine wpAny_newObj_type (wpAny_newFunctionEnv hcell (by intro y hy; simp at hy) (fun h₁ hns₁ hsb₁ => ?_) hkind)
  dsimp only at hns₁ hsb₁ ⊢
  generalize hH2 : s₂.heap.push { cls := .type "list", dict := none, data := .seq ([] : List Value).toArray } = H2 at hns₁ hsb₁ ⊢
  have hC : H2.objs.size = s₂.heap.objs.size + 1 := by rw [← hH2, Heap.size_push]
  have hIlt : I < s₂.heap.objs.size := Heap.lt_size (show s₂.heap.get? I = some _ from hst)
  have below : ∀ b, b < s₂.heap.objs.size → b ≠ H2.objs.size := fun b hb => by rw [hC]; exact Nat.ne_of_lt (Nat.lt_succ_of_lt hb)
  have old : ∀ b o, s₂.heap.get? b = some o → h₁.get? b = some o := fun b o e => hsb₁.extBut b o (below b (Heap.lt_size e)) (Heap.get?_push_of_some _ (hH2 ▸ Heap.get?_push_of_some _ e))
  have hst₁ : IsRangeIter h₁ I (0 + ((0 : Nat) : Int) * 1) (((3 : Nat) : Int) - ((0 : Nat) : Int)) 1 := old _ _ hst
  have hCn : s₂.heap.get? H2.objs.size = none := by
    cases e : s₂.heap.get? H2.objs.size with
    | none => rfl
    | some o' => exact absurd (Heap.lt_size e) (Nat.not_lt.mpr (by rw [hC]; exact Nat.le_succ _))
  have hC₀ : h₀.get? H2.objs.size = none := by
    cases e : h₀.get? H2.objs.size with
    | none => rfl
    | some o' => have := F.keep _ o' e; rw [hCn] at this; cases this
  have hCL : H2.objs.size ≠ L := Ne.symm (below L F.ns.lt)
  have hCI : I ≠ H2.objs.size := below I hIlt
  have loop : ∀ s₃ : Shared, s₃ = { s₂ with heap := h₁, toks := s₂.toks + ([] : List (Str × Value)).length } →
      codeAny (model prog w) A (.compLoop (.ListComp elt [⟨.Name x px, iter, [], 0⟩] scope pos) 0 (.ref I) (.ref s₂.heap.objs.size) (compEnvC scope cl H2.objs.size env))
        (RR (.ref s₂.heap.objs.size) H2.objs.size) s₃ := by
    rintro s₃ rfl
    refine codeAny_compLoop_tests (fun k s' => k = 0 ∧ s' = { s₂ with heap := h₁, toks := s₂.toks + ([] : List (Str × Value)).length }) ?_ 0 ⟨rfl, rfl⟩
    rintro k s' ⟨rfl, rfl⟩
    refine W.item 0 _ _ _ (by decide) hst₁ fun v h₂ tk₂ hPv hst₂ hk₂ => ?_
    obtain ⟨tv, rfl⟩ := hPv
    refine wpAny_assign_Name (wpAny_storeName_local (lookup_relabel_local hx) (hns₁.at' fun o e => hk₂ _ o (by simpa using Ne.symm hCI) e) (fun h₃ hn₃ hs₃ => ?_) (by simp [compEnvC, relabel, hkind]))
    refine wpAny_tests_nil ?_
    simp only [if_true]
    obtain ⟨oC, heC, hoC⟩ := ns_obj hn₃
    have k3 : ∀ b o, s₂.heap.get? b = some o → b ≠ I → h₃.get? b = some o := fun b o e hb => hs₃.extBut b o (below b (Heap.lt_size e)) (hk₂ b o (by simpa using hb) (old b o e))
    have F₃ : Fr h₀ L h₃ m := (fr_but (F.keeps old) hk₂ hIL hI₀).change hs₃ hCL hC₀
    refine R tv H2.objs.size oC _ ((H2.objs.size, oC) :: news) h₃ _ _ _ hoC (by simp) (.head _) (fun q hq => .tail _ hq) F₃ (fun p hp => ?_) (fun e h' tk' fl up => ?_)
    · rcases List.mem_cons.mp hp with rfl | hp
      · exact ⟨heC, hCL, hC₀⟩
      · exact ⟨k3 _ _ (N p hp).1 (off p hp), (N p hp).2⟩
    · obtain ⟨t, hfl⟩ := fl
      show wpAny (model prog w) A (noteFrame (.ref e) env) _ _ _
      exact wpAny_looks_onW hfr hf hfl fun h₅ held u₅ => hRR e H2.objs.size s₂.heap.objs.size h₃ h₅ _ _ hCn k3 (hn₃) (up.trans u₅) ⟨t, held⟩
  exact codeAny_compStart_list (loop _ rfl) (W.self 0 _ _ _ hst₁ (loop _ rfl))

/-- What the range of such a comprehension is to be. -/
def RSrc (prog : Program) (w : World) (A : Around) (base h₀ : Heap) (L : Addr) (m : Str → Option Value) (env : Env) (outer : List Env) (elt : Expr) (x : Str) (scope : Scope) (cl : List (Str × Addr)) (E : Value → Shared → Prop) (xv : Value) (s₁ : Shared) : Prop :=
  ∃ r t u v news, xv = .ref r ∧ A.handled = none ∧ A.frames = some (env :: outer) ∧ env.frame = some L ∧ s₁.heap.FunFrames base (env :: outer) ∧ base.StaysIn s₁.heap ∧ Fr h₀ L s₁.heap m ∧ News h₀ L s₁.heap news ∧ IsRange s₁.heap r 0 3 1 t u v ∧
    EltR prog w A base h₀ L m env outer elt x scope cl news s₁ ∧
    ∀ (e : Addr) (h' : Heap) (tk' : Nat), Helds base (env :: outer) e h' → s₁.heap.UpToSlots h' → E (.ref e) { s₁ with heap := h', toks := tk' }

theorem rsrc_of {A₀ : Around} {elt : Expr} {x : Str} {scope : Scope} {cl : List (Str × Addr)} {r : Addr} {t u v : Tok} {news : List (Addr × Obj)} {s₁ : Shared}
    (K : Below A₀ base outer h₀) (F : Fr h₀ L s₁.heap m) (N : News h₀ L s₁.heap news) (hr : IsRange s₁.heap r 0 3 1 t u v) (hf : env.frame = some L) (hk : env.scope.kind = .function) (hh : (A₀.deeper env).handled = none)
    (R : EltR prog w (A₀.deeper env) base h₀ L m env outer elt x scope cl news s₁)
    (hE : ∀ (e : Addr) (h' : Heap) (tk' : Nat), Helds base (env :: outer) e h' → s₁.heap.UpToSlots h' → E (.ref e) { s₁ with heap := h', toks := tk' }) :
    RSrc prog w (A₀.deeper env) base h₀ L m env outer elt x scope cl E (.ref r) s₁ :=
  ⟨r, t, u, v, news, rfl, hh, Around.frames_deeper K.stack, hf, frames_push K F hf hk, fun b o q => F.keep b o (K.stays b o q), F, N, hr, R, hE⟩

theorem Assign_ListComp_raise {A₀ : Around} {elt iter : Expr} {x y : Str} {px py : Pos} {scope : Scope} {cl : List (Str × Addr)} {pos spos : Pos} {Q : Flow → Shared → Prop}
    (K₀ : Below A₀ base outer h₀) (F₀ : Fr h₀ L s.heap m)
    (hsw : swapsWith (.ListComp elt [⟨.Name x px, iter, [], 0⟩] scope pos) (some (.Name y py)) spos.line env = pure true)
    (hclos : closureFor scope env = pure cl) (hcell : ∀ z ∈ scope.names, z.2 ≠ .cell) (hkind : scope.kind = .function)
    (hnames : ∀ z ∈ scope.names, z.2 = .local → scope.names.lookup z.1 = some .local) (hx : scope.names.lookup x = some .local)
    (h : wpAny (model prog w) (A₀.deeper env) (eval iter env) (RSrc prog w (A₀.deeper env) base h₀ L m env outer elt x scope cl E) E s)
    (hs : ∀ x, foldedSetIterable iter env x = pure x := by intro _; rfl) :
    wpAny (model prog w) (A₀.deeper env) (exec (.Assign [.Name y py] (.ListComp elt [⟨.Name x px, iter, [], 0⟩] scope pos) spos) env) Q E s := by
  rw [exec_Assign_Name_used _ _ _ _ hsw]
  refine wpAny_bind (wpAny_standAt (wpAny_bind ?_))
  show wpAny _ (A₀.deeper env) (do let _ ← comprehension (.ListComp elt [⟨.Name x px, iter, [], 0⟩] scope pos) scope env _ (newList []) false (eval iter env) (some (assign (.Name y py) env))) _ _ s
  refine wpAny_bind (wpAny_mono (wpAny_comprehension_free (use := some (assign (.Name y py) env)) (Q := fun _ s' => Q .next s') rfl hs hclos hkind hnames
    (wpAny_mono h (fun xv s₁ h₁ => ?_) fun _ _ e => e)) (fun _ s' hq => wpAny_pure (wpAny_pure hq)) fun _ _ e => e)
  obtain ⟨r, t, u, v, news, rfl, hh, hfr, hf, hfs, hbs, F, N, hr, R, hE⟩ := h₁
  refine wpAny_pyIter_range hr (by decide) ?_
  have up : ∀ b o, s₁.heap.get? b = some o → (s₁.heap.push { cls := .type "range_iterator", data := .fields #[rawInt 0, rawInt (Builtin.Range.rangeSize 0 3 1), rawInt 1] }).get? b = some o := fun b o e => Heap.get?_push_of_some _ e
  refine block_raise (news := news) hh hfr hf (Heap.get?_push_size _ rfl) hcell hkind hx (F.keeps up) (N.grown up) (Nat.ne_of_lt F.ns.lt) (next_is_new F) (fun p hp => Nat.ne_of_lt (Heap.lt_size (N p hp).1)) R ?_
  intro e C D h₁ h' tk' m' hCn hk hn hup ⟨t, held⟩
  refine ⟨m', hup.ns hn, fun h'' hs'' cenv _ => ?_⟩
  have hCs : ∀ b o, s₁.heap.get? b = some o → b ≠ C := fun b o q z => by
    have := up b o q
    rw [z] at this
    rw [this] at hCn
    cases hCn
  have U1 : s₁.heap.UpToSlots h'' := fun b o hb hnf => by
    obtain ⟨sl, q⟩ := hup b o (hk b o (up b o hb) (Nat.ne_of_lt (Heap.lt_size hb))) hnf
    exact ⟨sl, (hs''.2 b (hCs b o hb)).trans q⟩
  have hnC : ∀ b o vs, h'.get? b = some o → o.data = .fields vs → b ≠ C := fun b o vs q qd z => by
    obtain ⟨o', es, ep, ho', hd', _⟩ := hup.ns hn
    rw [z, ho'] at q
    cases q
    rw [hd'] at qd
    cases qd
  obtain ⟨f1, f2, f3, oe, vs, T, oT, ts, he, hc, hd, h1, hnT, hTe, hT, hdT, h3⟩ := held
  have H : Helds base (env :: outer) e h'' := by
    refine ⟨fun b o q => (hs''.2 b (hCs b o (hbs b o q))).trans (f1 b o q), f2, funFrames_on f3 fun en hen a ha => hs''.2 a ?_, t, _, oe, vs, T, oT, ts, (hs''.2 e (hnC _ _ _ he hd)).trans he, hc, hd, h1, hnT, hTe, (hs''.2 T (hnC _ _ _ hT hdT)).trans hT, hdT, h3⟩
    obtain ⟨o, ho, _⟩ := (hfs.mem (List.mem_filterMap.mpr ⟨en, hen, ha⟩)).2
    exact hCs a o ho
  exact passOn_any (s := { s₁ with heap := h'', toks := tk' }) H fun h3 H3 u3 => hE e h3 tk' H3 (U1.trans u3)
end
end
/-- A def that raises the fault, whatever it is called from. -/
def ConX (w : World) (loose : List Str) (mean : ExcName → Option Value) (mg mb : Str → Option Value) (f : Addr) (dk : Nat) (vs : List Value) : Prop :=
  ∀ (dp un : Nat) (gd : Option (List Code)) (cn : Str) (cs : Scope) (a : Addr) (ccd : Value) (cl : List (Str × Addr)) (outer : List Env) (A₀ : Around) (base h₀ : Heap) (L : Addr) (m : Str → Option Value) (s : Shared) (Q E : Value → Shared → Prop),
    Below A₀ base outer h₀ → Fr h₀ L s.heap m → (hd.heap_39 w.params).In h₀ → Top view loose mean mg mb h₀ → cs.kind = .function → dp + dk < recursionLimit → un + 8 * dk < cLine →
    (∀ e h' tk', Flies base (envX cn cs L a ccd cl :: outer) e h' → s.heap.UpToSlots h' → E (.ref e) { s with heap := h', toks := tk' }) →
    wpAny (model PySem.Challenge.rw_nu0006_01.row.prog w) (ktrTop dp un gd cn cs L a ccd cl outer) (call (.ref f) vs) Q E s
end
section
section
open Sem (wp)
section
variable {w : World} {A₀ : Around} {E : Value → Shared → Prop} {s' : Shared} {h₀ g h : Heap} {outer : List Env} {L Lc a e : Addr} {m mc : Str → Option Value} {name : Str} {scope : Scope} {cd : Value}
  {b₀ : Stmt} {suite : List Stmt} {pos np : Pos} {rest : List ExceptHandler} {Q : Flow → Shared → Prop}
  {loose : List Str} {mean : ExcName → Option Value} {mg mb : Str → Option Value} {x : Str}
/-- The fault is caught by its own name, in a def that the law itself called: the ground is the law's again. -/
theorem caught_fault (K : Below A₀ h₀ outer g) (FL : Fr h₀ Lc g mc) (F : Fr g L h m) (hsm : h.UpToSlots s'.heap) (R : Flies h₀ (envOf name scope L a cd :: outer) e s'.heap)
    (X : (hd.heap_39 w.params).In h₀) (T : TopRead view loose mg mb h₀) (ex : nsIn (hd.heap_39 w.params) mainGlobals x = some (some (.ref 44)))
    (k : ∀ h', Fr h₀ L h' m → Fr h₀ Lc h' mc →
      wpAny (model PySem.Challenge.rw_nu0006_01.row.prog w) ((A₀.deeper (envOf name scope L a cd)).mark (some (.ref e))) (execs (b₀ :: suite) (envOf name scope L a cd)) Q E { s' with heap := h' })
    (hk : scope.kind = .function := by rfl) (hx : (envOf name scope L a cd).kindOf x = some .globalImplicit := by rfl) (hd' : (x == ("__debug__" : Str)) = false := by decide)
    (hE : PassesOwnAt (model PySem.Challenge.rw_nu0006_01.row.prog w) ((A₀.deeper (envOf name scope L a cd)).mark (some (.ref e))) (A₀.deeper (envOf name scope L a cd)) (envOf name scope L a cd) E := by passes_own) :
    wpAny (model PySem.Challenge.rw_nu0006_01.row.prog w) (A₀.deeper (envOf name scope L a cd)) (noteFrame (.ref e) (envOf name scope L a cd))
      (fun _ s₂ => wpAny (model PySem.Challenge.rw_nu0006_01.row.prog w) (A₀.deeper (envOf name scope L a cd)) (setFlight (.ref e) none) (fun _ s₃ =>
        wpAny (model PySem.Challenge.rw_nu0006_01.row.prog w) (A₀.deeper (envOf name scope L a cd)) (handleBy (.ref e) (envOf name scope L a cd) (.ExceptHandler (some (.Name x np)) none (b₀ :: suite) pos :: rest)) Q E s₃) E s₂) E s' := by
  obtain ⟨t, hfl⟩ := R
  have hup : g.UpToSlots s'.heap := (Heap.UpToSlots.of_keeps F.keep).trans hsm
  have hle : h₀.objs.size ≤ L := Nat.le_trans FL.above (Nat.le_trans (Nat.le_of_lt FL.ns.lt) F.above)
  refine wpAny_looks_onW (Around.frames_deeper K.stack) rfl hfl fun h₄ hheld₄ hsm₄ => ?_
  refine wpAny_landsW hheld₄ fun h₅ hheld hsm₅' => ?_
  have hsm₅ := hsm₄.trans hsm₅'
  have F₅ : Fr h₀ L h₅ m := ⟨(hsm.trans hsm₅).ns F.ns, hheld.1, hle⟩
  obtain ⟨ob, hob, hobc⟩ := hheld.there
  refine wpAny_handleBy_cons (codeAny_handlers_test (name_K F₅ X T ex ?_ hk hx hd')) (by intro q; cases q)
  obtain ⟨_, _, _, _, _, _, _, _, _, _, _, _, _, hC⟩ := (fault_chain (X.keeps F₅.keep)).top
  refine wpAny_excMatches_sub_self hC hob hobc (by decide) (codeAny_handlers_suite ?_)
  refine lands_againW hheld fun h₆ hfl₆ hsm₆ => ?_
  have st₆ := hfl₆.1
  exact wpAny_passesOwnAt hE (k h₆ ⟨(hsm₅.trans hsm₆).ns ((hsm).ns F.ns), st₆, hle⟩ ⟨((hup.trans hsm₅).trans hsm₆).ns FL.ns, st₆, FL.above⟩)
end

/-- What a call of a def gives back that catches a fault: called by the law itself, the ledger is let go. -/
def ConR (w : World) (loose : List Str) (mean : ExcName → Option Value) (mg mb : Str → Option Value) (f : Addr) (dk : Nat) (vs : List Value) (v : Value) : Prop :=
  ∀ (dp un : Nat) (gd : Option (List Code)) (cn : Str) (cs : Scope) (a : Addr) (ccd : Value) (cl : List (Str × Addr)) (A₀ : Around) (h₀ : Heap) (L : Addr) (m : Str → Option Value) (s : Shared) (Q E : Value → Shared → Prop),
    Below A₀ h₀ [] h₀ → Fr h₀ L s.heap m → (hd.heap_39 w.params).In h₀ → Top view loose mean mg mb h₀ → cs.kind = .function → dp + dk < recursionLimit → un + 8 * dk < cLine →
    (∀ h' tk', Fr h₀ L h' m → Q v { s with heap := h', toks := tk' }) →
    wpAny (model PySem.Challenge.rw_nu0006_01.row.prog w) (ktrTop dp un gd cn cs L a ccd cl []) (call (.ref f) vs) Q E s

/-- Enter such a def. -/
theorem code_ref {prog : Program} {w : World} {A₀ A : Around} {s : Shared} {K : Frag} {L : Addr} {h₀ base : Heap} {m mg mb : Str → Option Value} {p : Program} {loose : List Str} {mean : ExcName → Option Value}
    {env : Env} {outer : List Env} {R : Result → Shared → Prop} {name qual : Str} {params : Arguments} {body : List Stmt} {scope : Scope} {dV kV doc pm cdv ct oc : Value} {an od : Option Addr} {osl : Array (Option Value)} {f : Addr} {args : Args} {binds : List (Str × Value)}
    (B : Below A₀ base outer h₀) (F : Fr h₀ L s.heap m) (X₀ : K.In h₀) (T : Top p loose mean mg mb h₀) (hA : A.frames = some (env :: outer)) (hf : env.frame = some L) (hke : env.scope.kind = .function)
    (ho : K.lookup f = some ⟨oc, od, .func (fnOf name qual params body scope dV kV doc pm an cdv ct), osl⟩) (hcd : codeIn K cdv qual = true) (hroom : A.depth < recursionLimit)
    (hbind : BindsTo s (fnOf name qual params body scope dV kV doc pm an cdv ct) args binds) (hloc : ∀ y ∈ binds, scope.names.lookup y.1 = some .local)
    (h : ∀ g L' h₁, Fr h₀ L g m → Fr g L' h₁ (fun y => binds.reverse.lookup y) → Below A base (env :: outer) g → K.In g → Top p loose mean mg mb g → News g L' h₁ [] → s.heap.UpToSlots g →
      wpAny (model prog w) (A.deeper (envOf qual scope L' f cdv)) (execs body (envOf qual scope L' f cdv))
        (fun fl s' => R (.ok (.ret (match fl with | .ret v => v | _ => .none))) s')
        (fun e s' => wpAny (model prog w) (A.deeper (envOf qual scope L' f cdv)) (leaving (envOf qual scope L' f cdv) e) (fun _ s'' => R (.error e) s'') (fun e' s'' => R (.error e') s'') s')
        { s with heap := h₁, toks := s.toks + binds.length })
    (hco : scope.isCoroutine = false) (hgen : scope.isGenerator = false) (hk : scope.kind = .function)
    (hcell : ∀ x ∈ scope.names, x.2 ≠ .cell) : codeAny (model prog w) A (.call (.ref f) args) R s := by
  obtain ⟨FG, BG, st, _⟩ := groundX (R := R) B F (News.nil) hA hf hke
  refine codeAny_call_def (fd := fnOf name qual params body scope dV kV doc pm an cdv ct) (body := body) (binds := binds) hroom ((X₀.keeps F.keep) _ _ ho) rfl (T.nolimit.keeps F.keep) (codeRec_of (X₀.keeps F.keep) hcd) rfl hbind hcell hloc (fun h₁ hns hk₁ => ?_) hco hgen hk
  exact h (hideAll s.heap []) s.heap.objs.size h₁ FG ⟨hns, fun b o e => hk₁ b o (of_hideAll _ e), Nat.le_of_eq (hideAll_size _ _)⟩ BG (X₀.keeps st) (T.keeps st) News.nil (Heap.UpToSlots.of_keeps fun b o e => hideAll_get _ e (fun h => nomatch h))
end
end
section
theorem lines_120 : True := by
  w_top off
  k_with_none
  k_with "con_sub" => first | exact List.forall_mem_nil _ | (refine' List.forall_mem_cons.mpr ⟨?zL134a, ?zL134b⟩; (case zL134a => k_mem); (case zL134b => walk_at "con_sub"))
  k_with "con_off" => first | exact List.forall_mem_nil _ | (refine' List.forall_mem_cons.mpr ⟨?zL135a, ?zL135b⟩; (case zL135a => k_ne); (case zL135b => walk_at "con_off"))
  k_with "con_one" => (
  refine' con_end_one hret hrest' ?zrF ?zrN ?zrk ?zrn ?zrm ?_ ?zrD ?zrs
  case zrF => k_asm
  case zrN => k_asm
  case zrk => k_asm
  case zrn => k_asm
  case zrm => k_mem
  case zrD => walk_at "con_off"
  case zrs => walk_at "con_sub")
  k_with "con_val" => (
  refine' con_end_val hret hrest' ?zrF ?zrN ?zrk ?zrn ?_ ?zrs
  case zrF => k_asm
  case zrN => k_asm
  case zrk => k_asm
  case zrn => k_asm
  case zrs => walk_at "con_sub")
  trivial
theorem lines_121 : True := by
  k_with "con_enter" => (
  unfold CC Con
  k_fill
  intro dp un gd cn cs a ccd cl outer A₀ base h₀ L m news s Q E B F X N T hk hsub hd hu hret
  refine wpAny_call ?_
  k_dflt (refine' code_sub B F X N T hsub ?kA ?kF ?kK ?k6 ?k7 ?k8 ?k9 ?kB ?_ ?c2 ?c3 ?c4 ?c5; (case kA => exact rfl); (case kF => exact rfl); (case kK => assumption); (case k6 => k_is); (case k7 => k_is); (case k8 => ktr_room); (case k9 => exact BindsTo.of_eq rfl); (case c5 => decide); (case kB => exact locs rfl); (case c2 => exact rfl); (case c3 => exact rfl); (case c4 => exact rfl); k_whole; intro g' L' h' FG' F' N' B' X' T' hrest'; (try dsimp only); (try k_fold)))
  k_with "con_enterC" => (
  unfold CC Con
  k_fill
  intro dp un gd cn cs a ccd cl outer A₀ base h₀ L m news s Q E B F X N T hk hsub hd hu hret
  refine wpAny_call ?_
  k_dflt (refine' code_subC B F X N T hsub ?kA ?kF ?kK ?k6 ?k7 ?k8 ?k9 ?kB ?kD ?_ ?c2 ?c3 ?c4; (case kA => exact rfl); (case kF => exact rfl); (case kK => assumption); (case k6 => k_is); (case k7 => k_is); (case k8 => ktr_room); (case k9 => exact BindsTo.of_eq rfl); (case kB => exact rfl); (case kD => decide +kernel); (case c2 => exact rfl); (case c3 => exact rfl); (case c4 => exact rfl); k_whole; intro g' L' h' tk' cells' FG' F' N' Y' B' X' T' l1 hrest'; (try k_lt l1); k_cells Y'; (try simp only [List.cons_append, List.nil_append] at N'); (try dsimp only); (try k_fold)))
  k_with "subscriptTail Name Constant ref int" => (k_here; (with_reducible show wpAny _ _ (subscriptTail _ _ (Value.ref _) (Value.int _ _)) _ _ _); k_dflt (refine' item_led ?zL136N ?zL136m ?zL136a ?zL136b ?zL136d ?_; (case zL136N => k_asm); (case zL136m => k_mem); (case zL136a => decide); (case zL136b => decide); (case zL136d => rfl); k_whole))
  trivial
theorem lines_122 : True := by
  k_with "ktr_room" => ((try simp only [depth_under_make, depth_under_kw, depth_in1, depth_deeper, depth_caller]); (try dsimp only [ktrTop]); first | with_reducible exact room0 hd | with_reducible exact room1 hd rfl | with_reducible exact room2 hd rfl | with_reducible exact room3 hd rfl | with_reducible exact room4 hd rfl | (trace "ROOM by omega"; omega))
  k_with "ktr_units" => ((try simp only [units_in1, units_deeper, Around.mark_units, units_caller]); (try dsimp only [ktrTop]); first | with_reducible exact room1 hu rfl | with_reducible exact room2 hu rfl | with_reducible exact room3 hu rfl | with_reducible exact room4 hu rfl | (have hcL9 := cLine_is; trace "UNITS by omega"; trace_state; omega))
  k_with "in255" => first | with_reducible assumption | with_reducible exact k255 | with_reducible exact b255 (by assumption) (by assumption) | with_reducible exact a255 (by assumption) (by assumption) | with_reducible exact c255 (by assumption) (by assumption) | exact ⟨by omega, by omega⟩ | omega
  trivial
theorem lines_123 : True := by
  k_with "k_room" => ktr_room
  trivial
theorem lines_124 : True := by
  k_with "exec Raise some none" => (k_here; k_dflt (refine' Raise_chain ?zL139h ?_; (case zL139h => first | rfl | assumption); k_whole))
  k_with "call ref" => (k_here; (with_reducible show wpAny _ _ (call (Value.ref 44) [Value.str _ _]) _ _ _); k_dflt (refine' call_fault ?zL140F ?zL140X ?zL140T ?zL140r ?_; (case zL140F => k_asm); (case zL140X => k_asm); (case zL140T => k_asm); (case zL140r => ktr_room); k_whole); intro h' e' tk' M')
  k_with "leaving ref" => (k_here; (refine' leave_raise3 ?zL141k1 ?zL141k0 ?zL141k2 ?_; (case zL141k0 => assumption); (case zL141k1 => assumption); (case zL141k2 => assumption); k_whole; intro h' R' U'; (try dsimp only at R' U' ⊢)))
  k_with "leaving ref" => (k_here; (rename Flies _ _ _ _ => rkX); (refine' leave_on3 ?zL142k0 ?zL142k1 ?zL142k2 ?zL142k3 ?zL142k4 ?_; (case zL142k0 => exact rfl); (case zL142k3 => exact rkX); (case zL142k1 => assumption); (case zL142k4 => assumption); (case zL142k2 => assumption); k_whole; intro h' R' U'; (try dsimp only at R' U' ⊢)))
  k_with "leaving ref" => (k_here; (rename Helds _ _ _ _ => rkX); (refine' leave_held ?zL143k0 ?zL143k1 ?zL143k2 ?zL143k3 ?zL143k4 ?_; (case zL143k0 => exact rfl); (case zL143k3 => exact rkX); (case zL143k1 => assumption); (case zL143k4 => assumption); (case zL143k2 => assumption); k_whole; intro h' R' U'; (try dsimp only at R' U' ⊢)))
  k_with "noteFrame ref" => (k_here; (rename Flies _ _ _ _ => rkX); k_dflt (refine' caught_fault ?K FG' ?F ?U rkX X (topRead_of T) ?ex ?_; (case K => assumption); (case F => assumption); (case U => assumption); (case ex => k_is); k_whole); intro h' F' FL')
  k_with "con_ref2" => (
  k_fill
  intro B F X T hk hd hu hret
  refine wpAny_call ?_
  k_dflt (refine' code_ref B F X T ?kA ?kF ?kK ?k6 ?k7 ?k8 ?k9 ?kB ?_ ?c2 ?c3 ?c4 ?c5; (case kA => exact rfl); (case kF => exact rfl); (case kK => assumption); (case k6 => k_is); (case k7 => k_is); (case k8 => ktr_room); (case k9 => exact BindsTo.of_eq rfl); (case c5 => decide); (case kB => exact locs rfl); (case c2 => exact rfl); (case c3 => exact rfl); (case c4 => exact rfl); k_whole; intro g' L' h' FG' F' B' X' T' N' UG'; (try dsimp only); (try k_fold)))
  k_with "con_ref" => (unfold ConR; intro dp un gd cn cs a ccd cl A₀ h₀ L m s Q E; walk_at "con_ref2")
  k_with "con_x" => (unfold ConX; intro dp un gd cn cs a ccd cl outer A₀ base h₀ L m s Q E; walk_at "con_ref2")
  trivial
set_option maxHeartbeats 8000000 in
theorem con_part_x {w : World} {loose : List Str} {mean : ExcName → Option Value} {mg mb : Str → Option Value} (t t1 t2 t3 t4 : Tok) :
    ConX w loose mean mg mb 147 5 [.str (S "dark") t, .int 0 t1, .int 0 t2, .int 0 t3, .int 0 t4] := by
  walk_at "con_x"
  k_steps
  all_goals exact hret _ _ _ (by assumption) (UG'.trans (by assumption))
end
section
theorem lines_125 : True := by
  w_top off
  k_with_none
  k_with "con_sub" => first | exact List.forall_mem_nil _ | (refine' List.forall_mem_cons.mpr ⟨?zL144a, ?zL144b⟩; (case zL144a => k_mem); (case zL144b => walk_at "con_sub"))
  k_with "con_off" => first | exact List.forall_mem_nil _ | (refine' List.forall_mem_cons.mpr ⟨?zL145a, ?zL145b⟩; (case zL145a => k_ne); (case zL145b => walk_at "con_off"))
  k_with "con_one" => (
  refine' con_end_one hret hrest' ?zrF ?zrN ?zrk ?zrn ?zrm ?_ ?zrD ?zrs
  case zrF => k_asm
  case zrN => k_asm
  case zrk => k_asm
  case zrn => k_asm
  case zrm => k_mem
  case zrD => walk_at "con_off"
  case zrs => walk_at "con_sub")
  k_with "con_val" => (
  refine' con_end_val hret hrest' ?zrF ?zrN ?zrk ?zrn ?_ ?zrs
  case zrF => k_asm
  case zrN => k_asm
  case zrk => k_asm
  case zrn => k_asm
  case zrs => walk_at "con_sub")
  trivial
theorem lines_126 : True := by
  k_with "con_enter" => (
  unfold CC Con
  k_fill
  intro dp un gd cn cs a ccd cl outer A₀ base h₀ L m news s Q E B F X N T hk hsub hd hu hret
  refine wpAny_call ?_
  k_dflt (refine' code_sub B F X N T hsub ?kA ?kF ?kK ?k6 ?k7 ?k8 ?k9 ?kB ?_ ?c2 ?c3 ?c4 ?c5; (case kA => exact rfl); (case kF => exact rfl); (case kK => assumption); (case k6 => k_is); (case k7 => k_is); (case k8 => ktr_room); (case k9 => exact BindsTo.of_eq rfl); (case c5 => decide); (case kB => exact locs rfl); (case c2 => exact rfl); (case c3 => exact rfl); (case c4 => exact rfl); k_whole; intro g' L' h' FG' F' N' B' X' T' hrest'; (try dsimp only); (try k_fold)))
  k_with "con_enterC" => (
  unfold CC Con
  k_fill
  intro dp un gd cn cs a ccd cl outer A₀ base h₀ L m news s Q E B F X N T hk hsub hd hu hret
  refine wpAny_call ?_
  k_dflt (refine' code_subC B F X N T hsub ?kA ?kF ?kK ?k6 ?k7 ?k8 ?k9 ?kB ?kD ?_ ?c2 ?c3 ?c4; (case kA => exact rfl); (case kF => exact rfl); (case kK => assumption); (case k6 => k_is); (case k7 => k_is); (case k8 => ktr_room); (case k9 => exact BindsTo.of_eq rfl); (case kB => exact rfl); (case kD => decide +kernel); (case c2 => exact rfl); (case c3 => exact rfl); (case c4 => exact rfl); k_whole; intro g' L' h' tk' cells' FG' F' N' Y' B' X' T' l1 hrest'; (try k_lt l1); k_cells Y'; (try simp only [List.cons_append, List.nil_append] at N'); (try dsimp only); (try k_fold)))
  k_with "subscriptTail Name Constant ref int" => (k_here; (with_reducible show wpAny _ _ (subscriptTail _ _ (Value.ref _) (Value.int _ _)) _ _ _); k_dflt (refine' item_led ?zL146N ?zL146m ?zL146a ?zL146b ?zL146d ?_; (case zL146N => k_asm); (case zL146m => k_mem); (case zL146a => decide); (case zL146b => decide); (case zL146d => rfl); k_whole))
  trivial
theorem lines_127 : True := by
  k_with "ktr_room" => ((try simp only [depth_under_make, depth_under_kw, depth_in1, depth_deeper, depth_caller]); (try dsimp only [ktrTop]); first | with_reducible exact room0 hd | with_reducible exact room1 hd rfl | with_reducible exact room2 hd rfl | with_reducible exact room3 hd rfl | with_reducible exact room4 hd rfl | (trace "ROOM by omega"; omega))
  k_with "ktr_units" => ((try simp only [units_in1, units_deeper, Around.mark_units, units_caller]); (try dsimp only [ktrTop]); first | with_reducible exact room1 hu rfl | with_reducible exact room2 hu rfl | with_reducible exact room3 hu rfl | with_reducible exact room4 hu rfl | (have hcL9 := cLine_is; trace "UNITS by omega"; trace_state; omega))
  k_with "in255" => first | with_reducible assumption | with_reducible exact k255 | with_reducible exact b255 (by assumption) (by assumption) | with_reducible exact a255 (by assumption) (by assumption) | with_reducible exact c255 (by assumption) (by assumption) | exact ⟨by omega, by omega⟩ | omega
  trivial
theorem lines_128 : True := by
  k_with "k_room" => ktr_room
  trivial
theorem lines_129 : True := by
  k_with "exec Raise some none" => (k_here; k_dflt (refine' Raise_chain ?zL149h ?_; (case zL149h => first | rfl | assumption); k_whole))
  k_with "call ref" => (k_here; (with_reducible show wpAny _ _ (call (Value.ref 44) [Value.str _ _]) _ _ _); k_dflt (refine' call_fault ?zL150F ?zL150X ?zL150T ?zL150r ?_; (case zL150F => k_asm); (case zL150X => k_asm); (case zL150T => k_asm); (case zL150r => ktr_room); k_whole); intro h' e' tk' M')
  k_with "leaving ref" => (k_here; (refine' leave_raise3 ?zL151k1 ?zL151k0 ?zL151k2 ?_; (case zL151k0 => assumption); (case zL151k1 => assumption); (case zL151k2 => assumption); k_whole; intro h' R' U'; (try dsimp only at R' U' ⊢)))
  k_with "leaving ref" => (k_here; (rename Flies _ _ _ _ => rkX); (refine' leave_on3 ?zL152k0 ?zL152k1 ?zL152k2 ?zL152k3 ?zL152k4 ?_; (case zL152k0 => exact rfl); (case zL152k3 => exact rkX); (case zL152k1 => assumption); (case zL152k4 => assumption); (case zL152k2 => assumption); k_whole; intro h' R' U'; (try dsimp only at R' U' ⊢)))
  k_with "leaving ref" => (k_here; (rename Helds _ _ _ _ => rkX); (refine' leave_held ?zL153k0 ?zL153k1 ?zL153k2 ?zL153k3 ?zL153k4 ?_; (case zL153k0 => exact rfl); (case zL153k3 => exact rkX); (case zL153k1 => assumption); (case zL153k4 => assumption); (case zL153k2 => assumption); k_whole; intro h' R' U'; (try dsimp only at R' U' ⊢)))
  k_with "noteFrame ref" => (k_here; (rename Flies _ _ _ _ => rkX); k_dflt (refine' caught_fault ?K FG' ?F ?U rkX X (topRead_of T) ?ex ?_; (case K => assumption); (case F => assumption); (case U => assumption); (case ex => k_is); k_whole); intro h' F' FL')
  k_with "con_ref2" => (
  k_fill
  intro B F X T hk hd hu hret
  refine wpAny_call ?_
  k_dflt (refine' code_ref B F X T ?kA ?kF ?kK ?k6 ?k7 ?k8 ?k9 ?kB ?_ ?c2 ?c3 ?c4 ?c5; (case kA => exact rfl); (case kF => exact rfl); (case kK => assumption); (case k6 => k_is); (case k7 => k_is); (case k8 => ktr_room); (case k9 => exact BindsTo.of_eq rfl); (case c5 => decide); (case kB => exact locs rfl); (case c2 => exact rfl); (case c3 => exact rfl); (case c4 => exact rfl); k_whole; intro g' L' h' FG' F' B' X' T' N' UG'; (try dsimp only); (try k_fold)))
  k_with "con_ref" => (unfold ConR; intro dp un gd cn cs a ccd cl A₀ h₀ L m s Q E; walk_at "con_ref2")
  k_with "con_x" => (unfold ConX; intro dp un gd cn cs a ccd cl outer A₀ base h₀ L m s Q E; walk_at "con_ref2")
  trivial
theorem lines_130 : True := by
  k_with "exec Assign cons ListComp" => (k_here; k_dflt (refine Assign_ListComp_raise (K₀ := by assumption) (F₀ := by k_asm) (by with_unfolding_all rfl) (by with_unfolding_all rfl) (by decide) (by rfl) (by decide) (by rfl) ?_))
  k_with "RSrc" => (k_here; k_dflt (refine' rsrc_of ?zsK ?zsF ?zsN ?zsr ?zsf ?zsk ?zsh ?zsR ?zsE; (case zsK => assumption); (case zsF => k_asm); (case zsN => k_asm); (case zsr => assumption); (case zsf => exact rfl); (case zsk => exact rfl); (case zsh => exact rfl); (case' zsR => (unfold EltR; intro tx C oC m₂ big hX tkX QX EX hC hx hCm hsub FE NE hEE; (have hsb := allIn_of hsub); clear hsub; dsimp only [AllIn] at hsb; (repeat (have hmm := hsb.1; replace hsb := hsb.2)); clear hsb; (try dsimp only))); (case' zsE => (intro eX hX tkX RH UH; (try dsimp only at RH UH ⊢)))))
  k_with "call ref" => (k_here; k_dflt (refine' con_part_x _ _ _ _ _ _ _ _ _ _ _ _ _ _ _ _ _ _ _ _ _ _ ?zxB ?zxF ?zxX ?zxT ?zxk ?zxd ?zxu ?_; (case zxB => assumption); (case zxF => k_asm); (case zxX => assumption); (case zxT => assumption); (case zxk => exact rfl); (case zxd => ktr_room); (case zxu => ktr_units); k_whole); intro e' h' tk' R' U'; k_dflt (exact hEE _ _ _ R' U'))
  trivial
set_option maxHeartbeats 8000000 in
theorem con_refused_d {w : World} {loose : List Str} {mean : ExcName → Option Value} {mg mb : Str → Option Value} :
    ConR w loose mean mg mb 225 9 [.bool true] (.bool true) := by
  walk_at "con_ref"
  k_steps
  all_goals exact hret _ _ (by assumption)
end
section
theorem lines_131 : True := by
  w_top off
  k_with_none
  k_with "con_sub" => first | exact List.forall_mem_nil _ | (refine' List.forall_mem_cons.mpr ⟨?zL154a, ?zL154b⟩; (case zL154a => k_mem); (case zL154b => walk_at "con_sub"))
  k_with "con_off" => first | exact List.forall_mem_nil _ | (refine' List.forall_mem_cons.mpr ⟨?zL155a, ?zL155b⟩; (case zL155a => k_ne); (case zL155b => walk_at "con_off"))
  k_with "con_one" => (
  refine' con_end_one hret hrest' ?zrF ?zrN ?zrk ?zrn ?zrm ?_ ?zrD ?zrs
  case zrF => k_asm
  case zrN => k_asm
  case zrk => k_asm
  case zrn => k_asm
  case zrm => k_mem
  case zrD => walk_at "con_off"
  case zrs => walk_at "con_sub")
  k_with "con_val" => (
  refine' con_end_val hret hrest' ?zrF ?zrN ?zrk ?zrn ?_ ?zrs
  case zrF => k_asm
  case zrN => k_asm
  case zrk => k_asm
  case zrn => k_asm
  case zrs => walk_at "con_sub")
  trivial
theorem lines_132 : True := by
  k_with "con_enter" => (
  unfold CC Con
  k_fill
  intro dp un gd cn cs a ccd cl outer A₀ base h₀ L m news s Q E B F X N T hk hsub hd hu hret
  refine wpAny_call ?_
  k_dflt (refine' code_sub B F X N T hsub ?kA ?kF ?kK ?k6 ?k7 ?k8 ?k9 ?kB ?_ ?c2 ?c3 ?c4 ?c5; (case kA => exact rfl); (case kF => exact rfl); (case kK => assumption); (case k6 => k_is); (case k7 => k_is); (case k8 => ktr_room); (case k9 => exact BindsTo.of_eq rfl); (case c5 => decide); (case kB => exact locs rfl); (case c2 => exact rfl); (case c3 => exact rfl); (case c4 => exact rfl); k_whole; intro g' L' h' FG' F' N' B' X' T' hrest'; (try dsimp only); (try k_fold)))
  k_with "con_enterC" => (
  unfold CC Con
  k_fill
  intro dp un gd cn cs a ccd cl outer A₀ base h₀ L m news s Q E B F X N T hk hsub hd hu hret
  refine wpAny_call ?_
  k_dflt (refine' code_subC B F X N T hsub ?kA ?kF ?kK ?k6 ?k7 ?k8 ?k9 ?kB ?kD ?_ ?c2 ?c3 ?c4; (case kA => exact rfl); (case kF => exact rfl); (case kK => assumption); (case k6 => k_is); (case k7 => k_is); (case k8 => ktr_room); (case k9 => exact BindsTo.of_eq rfl); (case kB => exact rfl); (case kD => decide +kernel); (case c2 => exact rfl); (case c3 => exact rfl); (case c4 => exact rfl); k_whole; intro g' L' h' tk' cells' FG' F' N' Y' B' X' T' l1 hrest'; (try k_lt l1); k_cells Y'; (try simp only [List.cons_append, List.nil_append] at N'); (try dsimp only); (try k_fold)))
  k_with "subscriptTail Name Constant ref int" => (k_here; (with_reducible show wpAny _ _ (subscriptTail _ _ (Value.ref _) (Value.int _ _)) _ _ _); k_dflt (refine' item_led ?zL156N ?zL156m ?zL156a ?zL156b ?zL156d ?_; (case zL156N => k_asm); (case zL156m => k_mem); (case zL156a => decide); (case zL156b => decide); (case zL156d => rfl); k_whole))
  trivial
theorem lines_133 : True := by
  k_with "ktr_room" => ((try simp only [depth_under_make, depth_under_kw, depth_in1, depth_deeper, depth_caller]); (try dsimp only [ktrTop]); first | with_reducible exact room0 hd | with_reducible exact room1 hd rfl | with_reducible exact room2 hd rfl | with_reducible exact room3 hd rfl | with_reducible exact room4 hd rfl | (trace "ROOM by omega"; omega))
  k_with "ktr_units" => ((try simp only [units_in1, units_deeper, Around.mark_units, units_caller]); (try dsimp only [ktrTop]); first | with_reducible exact room1 hu rfl | with_reducible exact room2 hu rfl | with_reducible exact room3 hu rfl | with_reducible exact room4 hu rfl | (have hcL9 := cLine_is; trace "UNITS by omega"; trace_state; omega))
  k_with "in255" => first | with_reducible assumption | with_reducible exact k255 | with_reducible exact b255 (by assumption) (by assumption) | with_reducible exact a255 (by assumption) (by assumption) | with_reducible exact c255 (by assumption) (by assumption) | exact ⟨by omega, by omega⟩ | omega
  trivial
theorem lines_134 : True := by
  k_with "k_room" => ktr_room
  trivial
theorem lines_135 : True := by
  k_with "eval Dict" => (k_here; k_dflt (refine' kdn_str ?zL159q ?zL159F ?zL159N ?zL159b ?zL159a ?zL159l ?zL159e ?zL159n ?_; (case zL159q => rfl); (case zL159F => k_asm); (case zL159N => first | k_asm | exact News.nil); (case zL159b => exact Top.nolimit (by k_asm)); (case zL159a => rfl); (case zL159l => rfl); (case zL159e => exact List.cons_ne_nil _ _); (case zL159n => exact Nat.le_of_ble_eq_true rfl)); intro d' h' o' F' N' l1 lo' hd'; (try k_lt l1); (try k_fold))
  trivial
theorem lines_136 : True := by
  k_with "exec Raise some none" => (k_here; k_dflt (refine' Raise_chain ?zL160h ?_; (case zL160h => first | rfl | assumption); k_whole))
  k_with "call ref" => (k_here; (with_reducible show wpAny _ _ (call (Value.ref 44) [Value.str _ _]) _ _ _); k_dflt (refine' call_fault ?zL161F ?zL161X ?zL161T ?zL161r ?_; (case zL161F => k_asm); (case zL161X => k_asm); (case zL161T => k_asm); (case zL161r => ktr_room); k_whole); intro h' e' tk' M')
  k_with "leaving ref" => (k_here; (refine' leave_raise3 ?zL162k1 ?zL162k0 ?zL162k2 ?_; (case zL162k0 => assumption); (case zL162k1 => assumption); (case zL162k2 => assumption); k_whole; intro h' R' U'; (try dsimp only at R' U' ⊢)))
  k_with "leaving ref" => (k_here; (rename Flies _ _ _ _ => rkX); (refine' leave_on3 ?zL163k0 ?zL163k1 ?zL163k2 ?zL163k3 ?zL163k4 ?_; (case zL163k0 => exact rfl); (case zL163k3 => exact rkX); (case zL163k1 => assumption); (case zL163k4 => assumption); (case zL163k2 => assumption); k_whole; intro h' R' U'; (try dsimp only at R' U' ⊢)))
  k_with "leaving ref" => (k_here; (rename Helds _ _ _ _ => rkX); (refine' leave_held ?zL164k0 ?zL164k1 ?zL164k2 ?zL164k3 ?zL164k4 ?_; (case zL164k0 => exact rfl); (case zL164k3 => exact rkX); (case zL164k1 => assumption); (case zL164k4 => assumption); (case zL164k2 => assumption); k_whole; intro h' R' U'; (try dsimp only at R' U' ⊢)))
  k_with "noteFrame ref" => (k_here; (rename Flies _ _ _ _ => rkX); k_dflt (refine' caught_fault ?K FG' ?F ?U rkX X (topRead_of T) ?ex ?_; (case K => assumption); (case F => assumption); (case U => assumption); (case ex => k_is); k_whole); intro h' F' FL')
  k_with "con_ref2" => (
  k_fill
  intro B F X T hk hd hu hret
  refine wpAny_call ?_
  k_dflt (refine' code_ref B F X T ?kA ?kF ?kK ?k6 ?k7 ?k8 ?k9 ?kB ?_ ?c2 ?c3 ?c4 ?c5; (case kA => exact rfl); (case kF => exact rfl); (case kK => assumption); (case k6 => k_is); (case k7 => k_is); (case k8 => ktr_room); (case k9 => exact BindsTo.of_eq rfl); (case c5 => decide); (case kB => exact locs rfl); (case c2 => exact rfl); (case c3 => exact rfl); (case c4 => exact rfl); k_whole; intro g' L' h' FG' F' B' X' T' N' UG'; (try dsimp only); (try k_fold)))
  k_with "con_ref" => (unfold ConR; intro dp un gd cn cs a ccd cl A₀ h₀ L m s Q E; walk_at "con_ref2")
  k_with "con_x" => (unfold ConX; intro dp un gd cn cs a ccd cl outer A₀ base h₀ L m s Q E; walk_at "con_ref2")
  trivial
set_option maxHeartbeats 8000000 in
theorem con_refused_u {w : World} {loose : List Str} {mean : ExcName → Option Value} {mg mb : Str → Option Value} :
    ConR w loose mean mg mb 225 9 [.bool false] (.bool true) := by
  walk_at "con_ref"
  k_steps
  all_goals exact hret _ _ (by assumption)
end
section
theorem lines_137 : True := by
  w_top off
  k_with_none
  k_with "con_sub" => first | exact List.forall_mem_nil _ | (refine' List.forall_mem_cons.mpr ⟨?zL165a, ?zL165b⟩; (case zL165a => k_mem); (case zL165b => walk_at "con_sub"))
  k_with "con_off" => first | exact List.forall_mem_nil _ | (refine' List.forall_mem_cons.mpr ⟨?zL166a, ?zL166b⟩; (case zL166a => k_ne); (case zL166b => walk_at "con_off"))
  k_with "con_one" => (
  refine' con_end_one hret hrest' ?zrF ?zrN ?zrk ?zrn ?zrm ?_ ?zrD ?zrs
  case zrF => k_asm
  case zrN => k_asm
  case zrk => k_asm
  case zrn => k_asm
  case zrm => k_mem
  case zrD => walk_at "con_off"
  case zrs => walk_at "con_sub")
  k_with "con_val" => (
  refine' con_end_val hret hrest' ?zrF ?zrN ?zrk ?zrn ?_ ?zrs
  case zrF => k_asm
  case zrN => k_asm
  case zrk => k_asm
  case zrn => k_asm
  case zrs => walk_at "con_sub")
  trivial
theorem lines_138 : True := by
  k_with "con_enter" => (
  unfold CC Con
  k_fill
  intro dp un gd cn cs a ccd cl outer A₀ base h₀ L m news s Q E B F X N T hk hsub hd hu hret
  refine wpAny_call ?_
  k_dflt (refine' code_sub B F X N T hsub ?kA ?kF ?kK ?k6 ?k7 ?k8 ?k9 ?kB ?_ ?c2 ?c3 ?c4 ?c5; (case kA => exact rfl); (case kF => exact rfl); (case kK => assumption); (case k6 => k_is); (case k7 => k_is); (case k8 => ktr_room); (case k9 => exact BindsTo.of_eq rfl); (case c5 => decide); (case kB => exact locs rfl); (case c2 => exact rfl); (case c3 => exact rfl); (case c4 => exact rfl); k_whole; intro g' L' h' FG' F' N' B' X' T' hrest'; (try dsimp only); (try k_fold)))
  k_with "con_enterC" => (
  unfold CC Con
  k_fill
  intro dp un gd cn cs a ccd cl outer A₀ base h₀ L m news s Q E B F X N T hk hsub hd hu hret
  refine wpAny_call ?_
  k_dflt (refine' code_subC B F X N T hsub ?kA ?kF ?kK ?k6 ?k7 ?k8 ?k9 ?kB ?kD ?_ ?c2 ?c3 ?c4; (case kA => exact rfl); (case kF => exact rfl); (case kK => assumption); (case k6 => k_is); (case k7 => k_is); (case k8 => ktr_room); (case k9 => exact BindsTo.of_eq rfl); (case kB => exact rfl); (case kD => decide +kernel); (case c2 => exact rfl); (case c3 => exact rfl); (case c4 => exact rfl); k_whole; intro g' L' h' tk' cells' FG' F' N' Y' B' X' T' l1 hrest'; (try k_lt l1); k_cells Y'; (try simp only [List.cons_append, List.nil_append] at N'); (try dsimp only); (try k_fold)))
  k_with "subscriptTail Name Constant ref int" => (k_here; (with_reducible show wpAny _ _ (subscriptTail _ _ (Value.ref _) (Value.int _ _)) _ _ _); k_dflt (refine' item_led ?zL167N ?zL167m ?zL167a ?zL167b ?zL167d ?_; (case zL167N => k_asm); (case zL167m => k_mem); (case zL167a => decide); (case zL167b => decide); (case zL167d => rfl); k_whole))
  trivial
theorem lines_139 : True := by
  k_with "ktr_room" => ((try simp only [depth_under_make, depth_under_kw, depth_in1, depth_deeper, depth_caller]); (try dsimp only [ktrTop]); first | with_reducible exact room0 hd | with_reducible exact room1 hd rfl | with_reducible exact room2 hd rfl | with_reducible exact room3 hd rfl | with_reducible exact room4 hd rfl | (trace "ROOM by omega"; omega))
  k_with "ktr_units" => ((try simp only [units_in1, units_deeper, Around.mark_units, units_caller]); (try dsimp only [ktrTop]); first | with_reducible exact room1 hu rfl | with_reducible exact room2 hu rfl | with_reducible exact room3 hu rfl | with_reducible exact room4 hu rfl | (have hcL9 := cLine_is; trace "UNITS by omega"; trace_state; omega))
  k_with "in255" => first | with_reducible assumption | with_reducible exact k255 | with_reducible exact b255 (by assumption) (by assumption) | with_reducible exact a255 (by assumption) (by assumption) | with_reducible exact c255 (by assumption) (by assumption) | exact ⟨by omega, by omega⟩ | omega
  trivial
def NamesP (v : Value) (new : List (Addr × Obj)) : Prop := ∃ (D : Addr) (vs : List Value) (c : Nat), v = .ref D ∧ new = [(D, W.listOf vs.toArray c)] ∧ vs.length = 9 ∧ ∀ u ∈ vs, ModeV u
theorem modeV_of {op : Str} {t : Tok} (h : op ∈ modeT.map (·.1)) : ModeV (.str op t) := by
  obtain ⟨q, hq, rfl⟩ := List.mem_map.mp h
  exact ⟨_, _, _, rfl, hq⟩
theorem lines_140 : True := by
  k_with "modevs" => first | exact List.forall_mem_nil _ | (refine List.forall_mem_cons.mpr ⟨modeV_of (by decide +kernel), ?_⟩; walk_at "modevs")
  trivial
set_option maxHeartbeats 2000000 in
theorem con_names {w : World} {loose : List Str} {mean : ExcName → Option Value} {mg mb : Str → Option Value} :
    CC w loose mean mg mb 159 5 [] [] (PureP [] NamesP) := by
  walk_at "con_enter"
  k_steps
  walk_at "con_one"
  exact ⟨_, [_, _, _, _, _, _, _, _, _], _, rfl, rfl, rfl, by walk_at "modevs"⟩
end
section
theorem lines_141 : True := by
  w_top off
  k_with_none
  k_with "con_sub" => first | exact List.forall_mem_nil _ | (refine' List.forall_mem_cons.mpr ⟨?zL170a, ?zL170b⟩; (case zL170a => k_mem); (case zL170b => walk_at "con_sub"))
  k_with "con_off" => first | exact List.forall_mem_nil _ | (refine' List.forall_mem_cons.mpr ⟨?zL171a, ?zL171b⟩; (case zL171a => k_ne); (case zL171b => walk_at "con_off"))
  k_with "con_one" => (
  refine' con_end_one hret hrest' ?zrF ?zrN ?zrk ?zrn ?zrm ?_ ?zrD ?zrs
  case zrF => k_asm
  case zrN => k_asm
  case zrk => k_asm
  case zrn => k_asm
  case zrm => k_mem
  case zrD => walk_at "con_off"
  case zrs => walk_at "con_sub")
  k_with "con_val" => (
  refine' con_end_val hret hrest' ?zrF ?zrN ?zrk ?zrn ?_ ?zrs
  case zrF => k_asm
  case zrN => k_asm
  case zrk => k_asm
  case zrn => k_asm
  case zrs => walk_at "con_sub")
  trivial
theorem lines_142 : True := by
  k_with "con_enter" => (
  unfold CC Con
  k_fill
  intro dp un gd cn cs a ccd cl outer A₀ base h₀ L m news s Q E B F X N T hk hsub hd hu hret
  refine wpAny_call ?_
  k_dflt (refine' code_sub B F X N T hsub ?kA ?kF ?kK ?k6 ?k7 ?k8 ?k9 ?kB ?_ ?c2 ?c3 ?c4 ?c5; (case kA => exact rfl); (case kF => exact rfl); (case kK => assumption); (case k6 => k_is); (case k7 => k_is); (case k8 => ktr_room); (case k9 => exact BindsTo.of_eq rfl); (case c5 => decide); (case kB => exact locs rfl); (case c2 => exact rfl); (case c3 => exact rfl); (case c4 => exact rfl); k_whole; intro g' L' h' FG' F' N' B' X' T' hrest'; (try dsimp only); (try k_fold)))
  k_with "con_enterC" => (
  unfold CC Con
  k_fill
  intro dp un gd cn cs a ccd cl outer A₀ base h₀ L m news s Q E B F X N T hk hsub hd hu hret
  refine wpAny_call ?_
  k_dflt (refine' code_subC B F X N T hsub ?kA ?kF ?kK ?k6 ?k7 ?k8 ?k9 ?kB ?kD ?_ ?c2 ?c3 ?c4; (case kA => exact rfl); (case kF => exact rfl); (case kK => assumption); (case k6 => k_is); (case k7 => k_is); (case k8 => ktr_room); (case k9 => exact BindsTo.of_eq rfl); (case kB => exact rfl); (case kD => decide +kernel); (case c2 => exact rfl); (case c3 => exact rfl); (case c4 => exact rfl); k_whole; intro g' L' h' tk' cells' FG' F' N' Y' B' X' T' l1 hrest'; (try k_lt l1); k_cells Y'; (try simp only [List.cons_append, List.nil_append] at N'); (try dsimp only); (try k_fold)))
  k_with "subscriptTail Name Constant ref int" => (k_here; (with_reducible show wpAny _ _ (subscriptTail _ _ (Value.ref _) (Value.int _ _)) _ _ _); k_dflt (refine' item_led ?zL172N ?zL172m ?zL172a ?zL172b ?zL172d ?_; (case zL172N => k_asm); (case zL172m => k_mem); (case zL172a => decide); (case zL172b => decide); (case zL172d => rfl); k_whole))
  trivial
theorem lines_143 : True := by
  k_with "ktr_room" => ((try simp only [depth_under_make, depth_under_kw, depth_in1, depth_deeper, depth_caller]); (try dsimp only [ktrTop]); first | with_reducible exact room0 hd | with_reducible exact room1 hd rfl | with_reducible exact room2 hd rfl | with_reducible exact room3 hd rfl | with_reducible exact room4 hd rfl | (trace "ROOM by omega"; omega))
  k_with "ktr_units" => ((try simp only [units_in1, units_deeper, Around.mark_units, units_caller]); (try dsimp only [ktrTop]); first | with_reducible exact room1 hu rfl | with_reducible exact room2 hu rfl | with_reducible exact room3 hu rfl | with_reducible exact room4 hu rfl | (have hcL9 := cLine_is; trace "UNITS by omega"; trace_state; omega))
  k_with "in255" => first | with_reducible assumption | with_reducible exact k255 | with_reducible exact b255 (by assumption) (by assumption) | with_reducible exact a255 (by assumption) (by assumption) | with_reducible exact c255 (by assumption) (by assumption) | exact ⟨by omega, by omega⟩ | omega
  trivial
theorem lines_144 : True := by
  k_with "k_room" => ktr_room
  trivial
def PoolP (v : Value) (new : List (Addr × Obj)) : Prop := ∃ (D : Addr) (o : Obj), v = .ref D ∧ new = [(D, o)] ∧ Src o
theorem ret_of {s : Shared} {L : Addr} {h₀ : Heap} {m : Str → Option Value} {news : List (Addr × Obj)} {P : Value → List (Addr × Obj) → Prop} {Q : Value → Shared → Prop} (N : News h₀ L s.heap news)
    (ret : ∀ v new h' tk', P v new → Fr h₀ L h' m → News h₀ L h' (new ++ news) → (∀ q ∈ new, ∀ r ∈ news, r.1 ≠ q.1) → Q v { s with heap := h', toks := tk' }) :
    ∀ v h' tk' sub', PureP [] P v sub' → Fr h₀ L h' m → News h₀ L h' sub' → (∀ q ∈ news, q.1 ∉ ([] : List (Addr × Obj)).map (·.1) → h'.get? q.1 = some q.2) →
      (∀ q ∈ sub', q.1 ∉ ([] : List (Addr × Obj)).map (·.1) → ∀ r ∈ news, r.1 ≠ q.1) → Q v { s with heap := h', toks := tk' } := by
  intro v h' tk' sub' hp F' N' hr hf
  obtain ⟨new, rfl, hn, hp⟩ := hp
  refine ret v new h' tk' hp F' (fun q hq => ?_) fun q hq r hr => hf q (List.mem_append_left _ hq) (hn q hq) r hr
  rcases List.mem_append.mp hq with hq | hq
  · exact N' q (List.mem_append_left _ hq)
  · exact ⟨hr q hq (fun h => nomatch h), (N q hq).2⟩
theorem lines_145 : True := by
  k_with "con_enter2" => (
  k_fill
  intro B F X N T hk hd hu ret
  have hret := ret_of N ret
  refine wpAny_call ?_
  k_dflt (refine' code_sub (sub := []) B F X N T (fun _ h => nomatch h) ?kA ?kF ?kK ?k6 ?k7 ?k8 ?k9 ?kB ?_ ?c2 ?c3 ?c4 ?c5; (case kA => exact rfl); (case kF => exact rfl); (case kK => assumption); (case k6 => k_is); (case k7 => k_is); (case k8 => ktr_room); (case k9 => exact BindsTo.of_eq rfl); (case c5 => decide); (case kB => exact locs rfl); (case c2 => exact rfl); (case c3 => exact rfl); (case c4 => exact rfl); k_whole; intro g' L' h' FG' F' N' B' X' T' hrest'; (try dsimp only); (try k_fold)))
  trivial
theorem pool_src {b x : Int} {t1 t2 : Tok} {c : Nat} (h : 0 ≤ b) (h0 : 0 ≤ x) (h1 : x < 2147483647) : Src (W.listOf #[.int b t1, .int x t2] c) := ⟨_, _, _, _, _, rfl, h, h0, h1⟩
set_option maxHeartbeats 4000000 in
theorem con_pool {w : World} {loose : List Str} {mean : ExcName → Option Value} {mg mb : Str → Option Value} {dp un : Nat} {gd : Option (List Code)} {cn : Str} {cs : Scope} {a : Addr} {ccd : Value} {cl : List (Str × Addr)} {outer : List Env} {A₀ : Around} {base h₀ : Heap} {L : Addr} {m : Str → Option Value} {news : List (Addr × Obj)} {s : Shared} {Q E : Value → Shared → Prop}
    {sa : Addr} {vs : List Value} {xs : List Int} (k : Int) (t : Tok) (hl : h₀.IsList sa vs.toArray) (hI : IntsAre vs xs) (hlen : ¬ 63 < xs.length) (hk0 : 0 ≤ k) (hk1 : k < 2) :
    Below A₀ base outer h₀ → Fr h₀ L s.heap m → (hd.heap_39 w.params).In h₀ → News h₀ L s.heap news → Top view loose mean mg mb h₀ → cs.kind = .function → dp + 3 < recursionLimit → un + 8 * 3 < cLine →
    (∀ v new h' tk', PoolP v new → Fr h₀ L h' m → News h₀ L h' (new ++ news) → (∀ q ∈ new, ∀ r ∈ news, r.1 ≠ q.1) → Q v { s with heap := h', toks := tk' }) →
    wpAny (model PySem.Challenge.rw_nu0006_01.row.prog w) (ktrTop dp un gd cn cs L a ccd cl outer) (call (.ref 166) [.ref sa, .int k t]) Q E s := by
  walk_at "con_enter2"
  replace hl : g'.IsList sa vs.toArray := by obtain ⟨o, q, r⟩ := hl; exact ⟨o, FG'.keep _ _ q, r⟩
  k_steps
  all_goals (walk_at "con_one"; refine ⟨_, _, rfl, rfl, pool_src (Int.mul_nonneg ?_ ?_) (fmod_in _ (by decide)).1 (fmod_in _ (by decide)).2⟩)
  all_goals (split <;> omega)
end
section
section lawloop
variable {prog : Program} {w : World} {A : Around} {E : Value → Shared → Prop} {s : Shared} {env : Env} {h₀ : Heap} {x : Str} {body : List Stmt} {Q : Flow → Shared → Prop}
/-- A loop over a range by what holds between the turns. -/
theorem rangeRest_inv {I : Addr} {a : Int} {n : Nat} (J : (Str → Option Value) → List (Addr × Obj) → Prop)
    (turn : ∀ (i : Nat) t it h tk m₁ n₁, i < n → J m₁ n₁ → Fr h₀ env.locals h (fun y => if y = x then some (.int (a + (i : Int)) t) else m₁ y) → News h₀ env.locals h ((I, it) :: n₁) →
      wpAny (model prog w) A (execs body env) (UnrPost h₀ env.locals { s with heap := h, toks := tk } I it J Q) E { s with heap := h, toks := tk })
    (done : ∀ m₁ n₁ h tk, J m₁ n₁ → Fr h₀ env.locals h m₁ → News h₀ env.locals h n₁ → Q .next { s with heap := h, toks := tk }) :
    ∀ (k i : Nat) m₁ n₁, i + k = n → J m₁ n₁ → RangeRest prog w A E h₀ env x body Q s I a n k i m₁ n₁
  | 0, _, m₁, n₁, _, j => fun h tk F N => done m₁ n₁ h tk j F N
  | k + 1, i, m₁, n₁, e, j => fun t h tk F N =>
    wpAny_mono (turn i t _ h tk m₁ n₁ (by omega) j F N) (unrPost_mono fun m n j' => rangeRest_inv J turn done k (i + 1) m n (by omega) j') fun _ _ e => e
/-- The law's loop: the ledger of the loop is the names, the cell of the source and the cell of the names. -/
def LawJ (m₀ : Str → Option Value) (x y1 y2 y3 : Str) (DN : Nat) (oN : Obj) (L : Nat) (oC : Obj) (m : Str → Option Value) (n : List (Addr × Obj)) : Prop :=
  (∃ o, CellW o ∧ n = [(DN, oN), (L + 1 + 1, o), (L + 1, oC)]) ∧ ∀ z, z ≠ x → z ≠ y1 → z ≠ y2 → z ≠ y3 → m z = m₀ z
theorem iter_law {r : Addr} {b : Int} {t₀ u₀ v₀ : Tok} {p1 p2 p3 : Addr × Obj} {DN : Nat} {oN o oC : Obj} {m₀ : Str → Option Value} {L : Nat} (y1 y2 y3 : Str) (hL : env.locals = L)
    (hh : A.handled = none) (hr : IsRange s.heap r 0 b 1 t₀ u₀ v₀) (hb : b = 1 ∨ b = 2) (F : Fr h₀ L s.heap m₀)
    (N : News h₀ L s.heap [p1, p2, p3, (DN, oN), (L + 1 + 1, o), (L + 1, oC)]) (hC : CellW o)
    (turn : ∀ (I : Nat) (i : Int) t it h tk u u1 u2 u3 o', 0 ≤ i → i < 2 → (DN < I ∧ L + 1 + 1 < I ∧ L + 1 < I) → CellW o' →
      Fr h₀ L h (fun z => if z = x then some (.int i t) else if z = y1 then u1 else if z = y2 then u2 else if z = y3 then u3 else if z = x then u else m₀ z) → News h₀ L h [(I, it), (DN, oN), (L + 1 + 1, o'), (L + 1, oC)] →
      wpAny (model prog w) A (execs body env) (UnrPost h₀ L { s with heap := h, toks := tk } I it (LawJ m₀ x y1 y2 y3 DN oN L oC) Q) E { s with heap := h, toks := tk })
    (done : ∀ m₁ h tk, Fr h₀ L h m₁ → Q .next { s with heap := h, toks := tk }) :
    wpAny (model prog w) A (pyIter (.ref r)) (fun it s₂ => LoopAtV prog w A h₀ env x body Q E it s₂) E s := by
  subst hL
  have e : ∀ m : Str → Option Value, (∀ z, z ≠ x → z ≠ y1 → z ≠ y2 → z ≠ y3 → m z = m₀ z) → m = fun z => if z = y1 then m y1 else if z = y2 then m y2 else if z = y3 then m y3 else if z = x then m x else m₀ z := by
    intro m hm
    funext z
    by_cases h1 : z = y1
    · simp [h1]
    · by_cases h2 : z = y2
      · subst h2; simp [h1]
      · by_cases h3 : z = y3
        · subst h3; simp [h1, h2]
        · by_cases h4 : z = x
          · subst h4; simp [h1, h2, h3]
          · simp [h1, h2, h3, h4, hm z h4 h1 h2 h3]
  have N₁ : News h₀ env.locals s.heap [(DN, oN), (env.locals + 1 + 1, o), (env.locals + 1, oC)] := fun q hq => N q (.tail _ (.tail _ (.tail _ hq)))
  have key : ∀ n : Nat, n ≤ 2 → ∀ I : Nat, (∀ p ∈ [(DN, oN), (env.locals + 1 + 1, o), (env.locals + 1, oC)], p.1 < I) → RangeRest prog w A E h₀ env x body Q s I 0 n n 0 m₀ [(DN, oN), (env.locals + 1 + 1, o), (env.locals + 1, oC)] := by
    intro n hn I hI
    have hI' : DN < I ∧ env.locals + 1 + 1 < I ∧ env.locals + 1 < I := ⟨hI _ (.head _), hI _ (.tail _ (.head _)), hI _ (.tail _ (.tail _ (.head _)))⟩
    refine rangeRest_inv (LawJ m₀ x y1 y2 y3 DN oN env.locals oC) (fun i t it h tk m₁ n₁ hi j F' N' => ?_) (fun m₁ n₁ h tk j F' N' => done m₁ h tk F') n 0 m₀ _ (by omega) ⟨⟨o, hC, rfl⟩, fun _ _ _ _ _ => rfl⟩
    obtain ⟨⟨o', hC', rfl⟩, j⟩ := j
    rw [e m₁ j] at F'
    exact turn I (0 + (i : Int)) t it h tk _ _ _ _ o' (by omega) (by omega) hI' hC' F' N'
  rcases hb with rfl | rfl
  · exact iter_rangeUnr (n := 1) hh hr (by decide) (by decide) F N₁ (key 1 (by decide))
  · exact iter_rangeUnr (n := 2) hh hr (by decide) (by decide) F N₁ (key 2 (by decide))
theorem unrEnd_law {L I : Nat} {it : Obj} {s₁ : Shared} {h' : Heap} {tk : Nat} {m' m₀ : Str → Option Value} {y1 y2 y3 : Str} {all : List (Addr × Obj)} {DN : Nat} {oN oC : Obj} (o' : Obj) (F : Fr h₀ L h' m') (N : News h₀ L h' all) (hC : CellW o')
    (hs : ∀ p ∈ [(I, it), (DN, oN), (L + 1 + 1, o'), (L + 1, oC)], p ∈ all) (ho : DN < I ∧ L + 1 + 1 < I ∧ L + 1 < I) (hm : ∀ z, z ≠ x → z ≠ y1 → z ≠ y2 → z ≠ y3 → m' z = m₀ z) :
    UnrEnd h₀ L s₁ I it (LawJ m₀ x y1 y2 y3 DN oN L oC) { s₁ with heap := h', toks := tk } :=
  UnrEnd.intro F N [(DN, oN), (L + 1 + 1, o'), (L + 1, oC)] hs (fun p hp => by
    simp only [List.mem_cons, List.not_mem_nil, or_false] at hp
    rcases hp with rfl | rfl | rfl
    · exact Nat.ne_of_lt ho.1
    · exact Nat.ne_of_lt ho.2.1
    · exact Nat.ne_of_lt ho.2.2) ⟨⟨o', hC, rfl⟩, hm⟩
end lawloop
end
section
theorem lines_146 : True := by
  w_top off
  k_with_none
  k_with "con_sub" => first | exact List.forall_mem_nil _ | (refine' List.forall_mem_cons.mpr ⟨?zL175a, ?zL175b⟩; (case zL175a => k_mem); (case zL175b => walk_at "con_sub"))
  k_with "con_off" => first | exact List.forall_mem_nil _ | (refine' List.forall_mem_cons.mpr ⟨?zL176a, ?zL176b⟩; (case zL176a => k_ne); (case zL176b => walk_at "con_off"))
  k_with "con_one" => (
  refine' con_end_one hret hrest' ?zrF ?zrN ?zrk ?zrn ?zrm ?_ ?zrD ?zrs
  case zrF => k_asm
  case zrN => k_asm
  case zrk => k_asm
  case zrn => k_asm
  case zrm => k_mem
  case zrD => walk_at "con_off"
  case zrs => walk_at "con_sub")
  k_with "con_val" => (
  refine' con_end_val hret hrest' ?zrF ?zrN ?zrk ?zrn ?_ ?zrs
  case zrF => k_asm
  case zrN => k_asm
  case zrk => k_asm
  case zrn => k_asm
  case zrs => walk_at "con_sub")
  trivial
theorem lines_147 : True := by
  k_with "con_use" => (
  (case zuk1 => k_asm); (case zuk2 => k_asm); (case zuk3 => k_asm); (case zuk4 => k_asm); (case zuk5 => k_asm); (case zukK => first | exact rfl | assumption); (case zukS => walk_at "con_sub"); (case zukd => ktr_room); (case zuku => ktr_units))
  trivial
theorem lines_148 : True := by
  k_with "in255" => first | with_reducible assumption | exact ⟨by decide, by decide⟩ | exact ⟨by omega, by omega⟩ | omega
  k_with "con_cols" => ((case zu1 => walk_at "in255"); (case zu2 => walk_at "in255"); (case zu3 => walk_at "in255"); (case zu4 => walk_at "in255"); (case zu5 => walk_at "in255"); (case zu6 => walk_at "in255"); (case zu7 => walk_at "in255"); (case zu8 => walk_at "in255"); (case zu9 => k_ne))
  trivial
theorem lines_149 : True := by
  k_with "CompSrc" => (k_here; k_dflt (first
  | (refine LCg.CompSrc.range (by rfl) (by k_asm) (by k_asm) (by assumption) (by first | decide | rfl) (by first | rfl | decide) (by first | size_fits | exact Nat.le_of_ble_eq_true rfl) ?_; intro g'; lcg_lit)
  | (refine LCg.CompSrc.ledger (by rfl) (by k_asm) (by k_asm) (by k_mem) (by first | size_fits | exact Nat.le_of_ble_eq_true rfl) ?_; intro g'; lcg_lit)))
  trivial
theorem lines_150 : True := by
  k_with "split_ne" => ((repeat (rename (@Ne Nat _ _ ∧ _) ∧ _ => hz9; (have hz8 := hz9.1); (have hz7 := hz9.2); clear hz9)); (repeat (rename @Ne Nat _ _ ∧ _ => hz9; (have hz8 := hz9.1); (have hz7 := hz9.2); clear hz9)))
  k_with "k_ne" => (refine neN ?_; (try dsimp only); first | assumption | exact Ne.symm (by assumption) | ((repeat (rename @Ne Nat _ _ => hz9; clear hz9)); (repeat (rename @Ne Nat _ _ ∧ _ => hz9; clear hz9)); (repeat (rename (@Ne Nat _ _ ∧ _) ∧ _ => hz9; clear hz9)); omega))
  trivial
theorem lines_151 : True := by
  k_with "ktr_units" => (have hcL9 := cLine_is; ((try simp only [units_in1, units_deeper, Around.mark_units, units_caller]); (try dsimp only [ktrTop]); omega))
  k_with "call ref" => (k_here; k_dflt (refine' con_pure ?zuk1 ?zuk2 ?zuk3 ?zuk4 ?zuk5 ?zukK con_names ?zukS ?zukd ?zuku ?_; walk_at "con_use"; k_whole; intro v new h' tk' hP F' N' hA; obtain ⟨DN, vsN, cN, rfl, rfl, hlN, hvN⟩ := hP; (try simp only [List.cons_append, List.nil_append] at N'); replace hA := allNe_of (hA _ (List.Mem.head _)); (try dsimp only [AllNe] at hA); walk_at "split_ne"))
  k_with "call ref" => (k_here; k_dflt (refine' con_bool ?zuk1 ?zuk2 ?zuk3 ?zuk4 ?zuk5 ?zukK (con_ops _ _ _ _ _ _ _ _ _ _ _ _ _ _ _ _ _ _ _ _ ?zu1 ?zu2 ?zu3 ?zu4 ?zu5 ?zu6 ?zu7 ?zu8 ?zu9) ?zukS ?zukd ?zuku ?_; walk_at "con_use"; walk_at "con_cols"; k_whole; intro h' tk' F' N'))
  k_with "call ref" => (k_here; k_dflt (refine' con_bool ?zuk1 ?zuk2 ?zuk3 ?zuk4 ?zuk5 ?zukK (con_modes _ _ _ _ _ _ _ _ _ _ _ _ _ _ _ _ _ _ _ _ _ _ _ ?zuh ?zu1 ?zu2 ?zu3 ?zu4 ?zu5 ?zu6 ?zu7 ?zu8 ?zu9) ?zukS ?zukd ?zuku ?_; walk_at "con_use"; (case zuh => walk_at "modevs2"); walk_at "con_cols"; k_whole; intro h' tk' F' N'))
  k_with "call builtin:len" => (k_here; k_dflt (refine' len_led ?zL182N ?zL182m ?zL182z ?_; (case zL182N => k_asm); (case zL182m => k_mem); (case zL182z => omega); k_whole; intro _ _))
  k_with "call ref" => (k_here; k_dflt (refine' con_refused_d _ _ _ _ _ _ _ _ _ _ _ _ _ _ _ ?zxB ?zxF ?zxX ?zxT ?zxk ?zxd ?zxu ?_; (case zxB => assumption); (case zxF => k_asm); (case zxX => assumption); (case zxT => assumption); (case zxk => exact rfl); (case zxd => ktr_room); (case zxu => ktr_units); k_whole); intro h' tk' F')
  k_with "call ref" => (k_here; k_dflt (refine' con_refused_u _ _ _ _ _ _ _ _ _ _ _ _ _ _ _ ?zxB ?zxF ?zxX ?zxT ?zxk ?zxd ?zxu ?_; (case zxB => assumption); (case zxF => k_asm); (case zxX => assumption); (case zxT => assumption); (case zxk => exact rfl); (case zxd => ktr_room); (case zxu => ktr_units); k_whole); intro h' tk' F')
  k_with "call ref" => (k_here; k_dflt (refine' con_pool _ _ ?zl ?zI ?zn ?z0 ?z1 ?zxB ?zxF ?zxX ?zxN ?zxT ?zxk ?zxd ?zxu ?_; (case zl => assumption); (case zI => assumption); (case zn => omega); (case z0 => omega); (case z1 => omega); (case zxB => assumption); (case zxF => k_asm); (case zxX => assumption); (case zxN => k_asm); (case zxT => assumption); (case zxk => exact rfl); (case zxd => ktr_room); (case zxu => ktr_units); k_whole; intro v new h' tk' hP F' N' hA; obtain ⟨DS, oS, rfl, rfl, hS⟩ := hP; (try simp only [List.cons_append, List.nil_append] at N'); replace hA := allNe_of (hA _ (List.Mem.head _)); (try dsimp only [AllNe] at hA); walk_at "split_ne"))
  k_with "call ref" => (k_here; k_dflt (refine' mut_col ?zuk1 ?zuk2 ?zuk3 ?zuk4 ?zuk5 ?zukK (con_colour _ _ ?zua) ?zukU ?zukS ?zukd ?zuku ?_; (case zuk1 => k_asm); (case zuk2 => k_asm); (case zuk3 => k_asm); (case zuk4 => k_asm); (case zuk5 => k_asm); (case zukK => first | exact rfl | assumption); (case zukS => (intro _ h; rcases List.mem_singleton.mp h with rfl; k_mem)); (case zukU => intro _; k_upd); (case zua => assumption); (case zukd => ktr_room); (case zuku => ktr_units); k_whole; intro oS DC cx cy cz ca ct1 ct2 ct3 ct4 cn' h' tk' hS hcx hcy hcz hca F' N' hA; (try dsimp only [AllNe] at hA); walk_at "split_ne"))
  k_with "call ref" => (k_here; walk_at "split_ne"; k_dflt (refine' mut_one ?zuk1 ?zuk2 ?zuk3 ?zuk4 ?zuk5 ?zukK (con_one _ _ _ _ _ ?zuz ?zua ?zub ?zuc) ?zukU ?zukS ?zukd ?zuku ?_; (case zuk1 => k_asm); (case zuk2 => k_asm); (case zuk3 => k_asm); (case zuk4 => k_asm); (case zuk5 => k_asm); (case zukK => first | exact rfl | assumption); (case zukS => (intro _ h; rcases List.mem_cons.mp h with rfl | h; k_mem; rcases List.mem_singleton.mp h with rfl; k_mem)); (case zukU => intro _; k_upd); (case zuz => k_ne); (case zua => assumption); (case zub => omega); (case zuc => omega); (case zukd => ktr_room); (case zuku => ktr_units); k_whole; intro v oS h' tk' hv hS F' N'; replace hv := hvN _ hv))
  k_with "exec For Name Call cons nil" => (k_here; (rename Fr _ _ _ _ => lF'); (with_unfolding_all refine' For_invVF lF' ?zL183k1 ?zL183k2 ?_; (case zL183k1 => exact rfl); (case zL183k2 => exact rfl); k_whole))
  k_with "one_two" => first | omega | (split <;> first | omega | (split <;> first | omega | (split <;> omega)))
  k_with "pyIter ref" => (k_here; k_dflt (refine' iter_law (S "above") (S "below") (S "some") ?ziL ?zih ?zir ?zib ?ziF ?ziN ?ziC ?zit ?zid; (case zih => exact rfl); (case zir => assumption); (case zib => walk_at "one_two"); (case ziF => k_asm); (case ziL => exact rfl); (case ziN => k_asm); (case ziC => exact ⟨_, by assumption⟩); (case' zit => (intro I i t it h tk u u1 u2 u3 oW hi0 hi2 hI hW F' N'; obtain ⟨vW, dW⟩ := hW; have l1 := hI)); (case' zid => (intro mW h tk F'))))
  k_with "UnrEnd" => (refine' unrEnd_law _ ?zL185F ?zL185N ?zL185c ?zL185s ?zL185o ?zL185m; (case zL185F => k_asm); (case zL185N => k_asm); (case zL185s => ((try dsimp only); walk_at "con_sub")); (case zL185c => exact ⟨_, by assumption⟩); (case zL185o => assumption); (case zL185m => (intro z h1 h2 h3 h4; first | rfl | (simp [h1, h2, h3, h4]; done) | (simp_all; done))))
  k_with "modevs2" => first | assumption | exact List.forall_mem_nil _ | (refine List.forall_mem_cons.mpr ⟨by assumption, ?_⟩; walk_at "modevs2")
  trivial
set_option maxHeartbeats 4000000 in
theorem law_holds : PySem.Challenge.rw_nu0006_01.Holds := hd (by
  k_go0
  all_goals try k_fold
  k_steps)
end
end Mine
theorem PySem.Challenge.cw_nu0006_01_holds : PySem.Challenge.rw_nu0006_01.Holds := by
  exact Mine.law_holds
