import PyProof.Rows.All
import Wide.All
import OpenK.AllK
import Wide.FinOn
import Lean
import PySem.Challenge.RW_og0135_01
open PySem PySem.W PyProof.Rows PySem.Calls
set_option Elab.async false
set_option maxRecDepth 100000
namespace Mine
set_option maxHeartbeats 8000000 in
open_top hd for PySem.Challenge.rw_og0135_01
local macro_rules | `(tactic| omega) => `(tactic| lia)
noncomputable abbrev myLoose : List PySem.Str := looseW Mine.hd.view_39 [PySem.Str.ofString "PaperError"]
noncomputable abbrev myProg : Program := PySem.Challenge.rw_og0135_01.prog
abbrev MyTop (mean : ExcName → Option Value) (mg mb : PySem.Str → Option Value) (h : Heap) : Prop := Top Mine.hd.view_39 myLoose mean mg mb h

/-- what stands behind a call: the state is as it was but for the heap and the tokens -/
structure CallEnd (h₀ : Heap) (L : Addr) (m : PySem.Str → Option Value) (s : Shared) (Post : Value → List (Addr × Obj) → Prop) (r : Value) (s' : Shared) : Prop where
  ex : ∃ news' h' tk', s' = { s with heap := h', toks := tk' } ∧ Fr h₀ L h' m ∧ News h₀ L h' news' ∧ Post r news'

/-- the contract of a def at address f -/
def Fn (w : World) (lv : Nat) (f : Addr) (args : List Value) (news : List (Addr × Obj)) (Post : Value → List (Addr × Obj) → Prop) : Prop :=
  ∀ (mean : ExcName → Option Value) (mg mb : PySem.Str → Option Value) (A : Around) (env : Env) (outer : List Env) (A₀ : Around) (base h₀ : Heap) (L : Addr) (m : PySem.Str → Option Value) (s : Shared),
    A.handled = none → A.frames = some (env :: outer) → env.frame = some L → env.scope.kind = .function → A.depth + lv < 500 → A.units + 4 * lv < 4000 →
    Below A₀ base outer h₀ → Fr h₀ L s.heap m → (Mine.hd.heap_39 w.params).In h₀ → News h₀ L s.heap news → MyTop mean mg mb h₀ →
    wpAny (model myProg w) A (call (.ref f) args) (CallEnd h₀ L m s Post) (fun _ _ => False) s

theorem Fn.use {w : World} {lv : Nat} {f : Addr} {args : List Value} {news : List (Addr × Obj)} {Post : Value → List (Addr × Obj) → Prop} (C : Fn w lv f args news Post)
    {mean : ExcName → Option Value} {mg mb : PySem.Str → Option Value} {A : Around} {env : Env} {outer : List Env} {A₀ : Around} {base h₀ : Heap} {L : Addr} {m : PySem.Str → Option Value} {s : Shared} {Q E : Value → Shared → Prop}
    (hh : A.handled = none) (hA : A.frames = some (env :: outer)) (hf : env.frame = some L) (hk : env.scope.kind = .function) (hd : A.depth + lv < 500) (hu : A.units + 4 * lv < 4000)
    (B : Below A₀ base outer h₀) (F : Fr h₀ L s.heap m) (X : (Mine.hd.heap_39 w.params).In h₀) (N : News h₀ L s.heap news) (T : MyTop mean mg mb h₀)
    (h : ∀ r news' h' tk', Fr h₀ L h' m → News h₀ L h' news' → Post r news' → Q r { s with heap := h', toks := tk' }) :
    wpAny (model myProg w) A (call (.ref f) args) Q E s :=
  wpAny_mono (C mean mg mb A env outer A₀ base h₀ L m s hh hA hf hk hd hu B F X N T) (fun r s' e => by obtain ⟨news', h', tk', rfl, F', N', P'⟩ := e.ex; exact h r news' h' tk' F' N' P') (fun _ _ e => e.elim)

/-- the end of a body -/
structure BodyEnd (g : Heap) (L' : Addr) (s : Shared) (Post : Value → List (Addr × Obj) → Prop) (fl : Flow) (s' : Shared) : Prop where
  ex : ∃ m' news' h' tk', s' = { s with heap := h', toks := tk' } ∧ Fr g L' h' m' ∧ News g L' h' news' ∧ Post (match fl with | .ret v => v | _ => .none) news'

theorem fn_enter {w : World} {lv : Nat} {f : Addr} {args : List Value} {news : List (Addr × Obj)} {Post : Value → List (Addr × Obj) → Prop} {name qual : PySem.Str} {params : Arguments} {body : List Stmt} {scope : Scope} {dV kV doc pm cdv ct oc : Value} {an od : Option Addr} {osl : Array (Option Value)}
    (binds : List (PySem.Str × Value))
    (ho : (Mine.hd.heap_39 w.params).lookup f = some ⟨oc, od, .func (fnOf name qual params body scope dV kV doc pm an cdv ct), osl⟩) (hcd : codeIn (Mine.hd.heap_39 w.params) cdv qual = true)
    (hbind : ∀ s, BindsTo s (fnOf name qual params body scope dV kV doc pm an cdv ct) ⟨args, []⟩ binds) (hloc : ∀ y ∈ binds, scope.names.lookup y.1 = some .local)
    (hco : scope.isCoroutine = false) (hgen : scope.isGenerator = false) (hk : scope.kind = .function) (hcell : ∀ x ∈ scope.names, x.2 ≠ .cell)
    (h : ∀ (mean : ExcName → Option Value) (mg mb : PySem.Str → Option Value) (dp un : Nat) (gd : Option (List Code)) (outer : List Env) (A₀ : Around) (base : Heap) (g : Heap) (L' : Addr) (h₁ : Heap) (s : Shared),
      dp + lv < 501 → un + 4 * lv < 4003 → Below A₀ base outer g → Fr g L' h₁ (fun y => binds.reverse.lookup y) → News g L' h₁ news → (∀ p ∈ news, p.1 < L') → (Mine.hd.heap_39 w.params).In g → MyTop mean mg mb g →
      wpAny (model myProg w) { handled := none, depth := dp, frames := some (envOf qual scope L' f cdv :: outer), guards := gd, units := un } (execs body (envOf qual scope L' f cdv)) (BodyEnd g L' s Post) (fun _ _ => False) { s with heap := h₁ }) :
    Fn w lv f args news Post := by
  intro mean mg mb A env outer A₀ base h₀ L m s hh hA hf hke hd hu B F X N T
  obtain ⟨hd', dp, fr, gd, un⟩ := A
  cases hh; cases hA
  refine wpAny_call (callX_plain (cl := []) B F N T.nolimit rfl hf hke ((X.keeps F.keep) _ _ ho) rfl (codeRec_of (X.keeps F.keep) hcd) (by have hd2 : dp + lv < 500 := hd; show dp < 1000; omega) (hbind s) hloc ?_ hcell hco hgen hk)
  intro g L' h₁ FG F' N' B' st l1
  refine wpAny_mono (h mean mg mb (dp + 1) (un + 3) gd (env :: outer) _ _ g L' h₁ { s with toks := s.toks + binds.length } (by have hd2 : dp + lv < 500 := hd; omega) (by have hu2 : un + 4 * lv < 4000 := hu; omega) B' F' N' l1 (X.keeps st) (T.keeps st)) (fun fl s' e => ?_) (fun _ _ e => e.elim)
  obtain ⟨m', news', h', tk', rfl, F₂, N₂, P₂⟩ := e.ex
  exact ⟨L', m', news', F₂, N₂, fun F₃ N₃ => ⟨news', h', tk', rfl, F₃, N₃, P₂⟩⟩

theorem fn_enterC {w : World} {lv : Nat} {f : Addr} {args : List Value} {news : List (Addr × Obj)} {Post : Value → List (Addr × Obj) → Prop} {name qual : PySem.Str} {params : Arguments} {body : List Stmt} {scope : Scope} {dV kV doc pm cdv ct oc : Value} {an od : Option Addr} {osl : Array (Option Value)}
    (binds : List (PySem.Str × Value)) (m₁ : PySem.Str → Option Value)
    (ho : (Mine.hd.heap_39 w.params).lookup f = some ⟨oc, od, .func (fnOf name qual params body scope dV kV doc pm an cdv ct), osl⟩) (hcd : codeIn (Mine.hd.heap_39 w.params) cdv qual = true)
    (hbind : ∀ s, BindsTo s (fnOf name qual params body scope dV kV doc pm an cdv ct) ⟨args, []⟩ binds)
    (hkind : (binds.all fun y => scope.names.lookup y.1 == some .local || scope.names.lookup y.1 == some .cell) = true) (hnd : ((cellsFrom 0 scope.names []).map (·.1)).Nodup)
    (hm : ∀ L', bindL (envOfC qual scope L' f cdv).kindOf binds (fun _ => none) = m₁)
    (hco : scope.isCoroutine = false) (hgen : scope.isGenerator = false) (hk : scope.kind = .function)
    (h : ∀ (mean : ExcName → Option Value) (mg mb : PySem.Str → Option Value) (dp un : Nat) (gd : Option (List Code)) (outer : List Env) (A₀ : Around) (base : Heap) (g : Heap) (L' : Addr) (h₁ : Heap) (s : Shared) (tk : Nat) (cells : List (Addr × Obj)),
      dp + lv < 501 → un + 4 * lv < 4003 → Below A₀ base outer g → Fr g L' h₁ m₁ → News g L' h₁ (cells ++ news) → (∀ p ∈ news, p.1 < L') → CellsAre (bindC (envOfC qual scope L' f cdv).kindOf binds fun _ => none) (cellsFrom (L' + 1) scope.names []) cells → (Mine.hd.heap_39 w.params).In g → MyTop mean mg mb g →
      wpAny (model myProg w) { handled := none, depth := dp, frames := some (envOfC qual scope L' f cdv :: outer), guards := gd, units := un } (execs body (envOfC qual scope L' f cdv)) (BodyEnd g L' s Post) (fun _ _ => False) { s with heap := h₁, toks := tk }) :
    Fn w lv f args news Post := by
  intro mean mg mb A env outer A₀ base h₀ L m s hh hA hf hke hd hu B F X N T
  obtain ⟨hd', dp, fr, gd, un⟩ := A
  cases hh; cases hA
  refine wpAny_call (code_defC B F X N T rfl hf hke ho hcd (by have hd2 : dp + lv < 500 := hd; show dp < 1000; omega) (hbind s) hkind hnd ?_ hco hgen hk)
  intro g L' h₁ tk cells FG F' N' Y B' X' T' l1
  rw [hm] at F'
  refine wpAny_mono (h mean mg mb (dp + 1) (un + 3) gd (env :: outer) _ _ g L' h₁ s tk cells (by have hd2 : dp + lv < 500 := hd; omega) (by have hu2 : un + 4 * lv < 4000 := hu; omega) B' F' N' l1 Y X' T') (fun fl s' e => ?_) (fun _ _ e => e.elim)
  obtain ⟨m', news', h', tk', rfl, F₂, N₂, P₂⟩ := e.ex
  exact ⟨L', m', news', F₂, N₂, fun F₃ N₃ => ⟨news', h', tk', rfl, F₃, N₃, P₂⟩⟩

theorem dep {dp lv LV : Nat} (h : dp + LV < 501) (e : lv + 1 ≤ LV) : dp + lv < 500 := by omega
theorem dep4 {un lv LV : Nat} (h : un + 4 * LV < 4003) (e : lv + 1 ≤ LV) : un + 4 * lv < 4000 := by omega
/-- a division by _pylong has room -/
theorem room {w : World} {mean : ExcName → Option Value} {mg mb : PySem.Str → Option Value} {dp un : Nat} {gd : Option (List Code)} {env : Env} {outer : List Env} {h₀ : Heap} {L : Addr} {m : PySem.Str → Option Value} {s : Shared}
    (F : Fr h₀ L s.heap m) (T : MyTop mean mg mb h₀) (hd : dp < 800)
    (h1 : env.scope.isGenerator = false) (h2 : env.scope.isCoroutine = false) (h3 : env.builtins = builtinsNs) (h4 : env.globals = mainGlobals) :
    PylongRoom (model myProg w) { handled := none, depth := dp, frames := some (env :: outer), guards := gd, units := un } s :=
  PylongRoom.of (T.nolimit.keeps F.keep) (by show dp + 100 < 1000; omega) (SeerAt.of ((T.seer (by decide +kernel)).keeps F.keep) rfl rfl h1 h2 h3 h4)

theorem execs_cons_gen {prog : Program} {w : World} {A : Around} {env : Env} {st : Stmt} {rest : List Stmt} {Q : Flow → Shared → Prop} {E : Value → Shared → Prop} {s : Shared}
    (h : ∀ tk, wpAny (model prog w) A (exec st env) (fun f s' => match f with | .next => wpAny (model prog w) A (execs rest env) Q E s' | f => Q f s') E { heap := s.heap, gens := s.gens, drawn := s.drawn, toks := tk, os := s.os }) :
    wpAny (model prog w) A (execs (st :: rest) env) Q E s := wpAny_execs_cons (h s.toks)

theorem fdiv_nn {a b : Int} (ha : 0 ≤ a) (hb : 0 < b) : 0 ≤ a.fdiv b := by
  rw [Int.fdiv_eq_ediv_of_nonneg a (by omega)]; exact Int.ediv_nonneg ha (by omega)

def Ten (P : Int) : Prop := (10 : Int) ^ (Int.toNat 18) = P
theorem pow_ten {prog : Program} {w : World} {A : Around} {E : Value → Shared → Prop} {s : Shared} {P : Int} {t u : Tok} {Q : Value → Shared → Prop} (hT : Ten P) (h : Q (.int P s.toks) { s with toks := s.toks + 1 }) :
    wpAny (model prog w) A (binaryOp .Pow (.int 10 t) (.int 18 u)) Q E s := pow_int_small (by decide) (by decide) (by decide) (by rw [show ((10 : Int) ^ (Int.toNat 18)) = P from hT]; exact h)

/-- the pen: the script's list, the place, the carry, the salt -/
def PenIn (q : Addr) (k : Nat) (ob : Obj) : Prop := ∃ spot carry salt t1 t2 t3 n, ob = listOf #[.ref q, .int spot t1, .int carry t2, .int salt t3] n ∧ 0 ≤ spot ∧ spot ≤ (k : Int) ∧ 0 ≤ carry ∧ 0 ≤ salt ∧ salt < 1009
/-- no entry stands at I -/
def AllNe (I : Addr) : List (Addr × Obj) → Prop
  | [] => True
  | p :: r => @Ne Nat p.1 I ∧ AllNe I r
theorem AllNe.mem {I : Addr} {l : List (Addr × Obj)} (h : AllNe I l) : ∀ p ∈ l, p.1 ≠ I := by
  induction l with
  | nil => intro p hp; exact nomatch hp
  | cons q r ih =>
    intro p hp
    rcases List.mem_cons.mp hp with e | hp
    · rw [e]; exact h.1
    · exact ih h.2 p hp
theorem AllNe.of {I : Addr} : ∀ {l : List (Addr × Obj)}, (∀ p ∈ l, p.1 ≠ I) → AllNe I l
  | [], _ => trivial
  | _ :: _, h => ⟨h _ List.mem_cons_self, AllNe.of fun p hp => h p (List.mem_cons_of_mem _ hp)⟩
theorem AllLt.ne {I : Addr} : ∀ {l : List (Addr × Obj)}, AllLt I l → AllNe I l
  | [], _ => trivial
  | _ :: _, h => ⟨Nat.ne_of_lt h.1, AllLt.ne h.2⟩
theorem AllLt.mono {I J : Addr} (hij : @LE.le Nat _ I J) : ∀ {l : List (Addr × Obj)}, AllLt I l → AllLt J l
  | [], _ => trivial
  | _ :: _, h => ⟨Nat.lt_of_lt_of_le h.1 hij, AllLt.mono hij h.2⟩
theorem ints_snoc {vs : List Value} {ns : List Int} {n : Int} {t : Tok} (h : IntsAre vs ns) : IntsAre (vs ++ [.int n t]) (ns ++ [n]) := h.append (.cons _ _ .nil)
def TurnEnd (h₀ : Heap) (L : Addr) (I : Addr) (oI : Obj) (Jn : (PySem.Str → Option Value) → List (Addr × Obj) → Prop) (s₁ : Shared) (Q : Flow → Shared → Prop) (f : Flow) (s₂ : Shared) : Prop :=
  match f with
  | .ret v => Q (.ret v) s₂
  | .brk => Q .next s₂
  | _ => ∃ h' tk m' news', s₂ = { s₁ with heap := h', toks := tk } ∧ Fr h₀ L h' m' ∧ News h₀ L h' ((I, oI) :: news') ∧ AllNe I news' ∧ Jn m' news'

def JSt {σ : Type} (Led : σ → List (Addr × Obj)) (ps : σ → List (PySem.Str × Value)) (x : PySem.Str) (stored : List PySem.Str) (m₀ : PySem.Str → Option Value) (P : σ → Prop) (m : PySem.Str → Option Value) (nw : List (Addr × Obj)) : Prop :=
  ∃ c : σ, nw = Led c ∧ (∀ p ∈ ps c, m p.1 = some p.2) ∧ (∀ z, z ≠ x → (∀ p ∈ ps c, z ≠ p.1) → stored.contains z = false → m z = m₀ z) ∧ P c

section
variable {prog : Program} {w : World} {A : Around} {E : Value → Shared → Prop} {s : Shared} {env : Env} {h₀ : Heap} {x : PySem.Str} {body : List Stmt} {Q : Flow → Shared → Prop} {m₀ : PySem.Str → Option Value}

/-- the frame in a turn, the frame behind the loop -/
abbrev turnM (x : PySem.Str) (v : Value) (ps : List (PySem.Str × Value)) (stored : List PySem.Str) (u m₀ : PySem.Str → Option Value) : PySem.Str → Option Value :=
  fun y => if y = x then some v else kstB (fun z => if stored.contains z then u z else m₀ z) ps y
abbrev doneM (x : PySem.Str) (ps : List (PySem.Str × Value)) (stored : List PySem.Str) (u m₀ : PySem.Str → Option Value) : PySem.Str → Option Value :=
  fun y => if y = x then u y else kstB (fun z => if stored.contains z then u z else m₀ z) ps y

theorem loop_core {σ : Type} {I : Addr} {fp : List Addr} {n : Nat} {Pv : Nat → Value → Prop} {St : Nat → Heap → Prop} (src : List (Addr × Obj)) (Led : σ → List (Addr × Obj)) (ps : σ → List (PySem.Str × Value)) (stored : List PySem.Str) (P : Nat → σ → Prop) (c₀ : σ)
    (W : Walks prog w A I fp [I] n Pv St) (hLf : env.locals ∉ fp) (hI : h₀.get? I = none) (hfp : ∀ b ∈ fp, b = I ∨ ∃ o, (b, o) ∈ src) (hsrc : ∀ i c, P i c → ∀ p ∈ src, p ∈ Led c)
    (hIo : ∀ i h, St i h → ∃ o, h.get? I = some o)
    (hst : St 0 s.heap) (F : Fr h₀ env.locals s.heap m₀) (N : News h₀ env.locals s.heap (Led c₀)) (hoff : ∀ p ∈ Led c₀, p.1 ≠ I) (hk : ∀ p ∈ ps c₀, m₀ p.1 = some p.2) (hp : P 0 c₀)
    (turn : ∀ (i : Nat) (c : σ) (v : Value) (u : PySem.Str → Option Value) (h : Heap) (tk : Nat) (oI : Obj), i < n → Pv i v → P i c → AllNe I (Led c) → Fr h₀ env.locals h (turnM x v (ps c) stored u m₀) → News h₀ env.locals h ((I, oI) :: Led c) →
      wpAny (model prog w) A (execs body env) (TurnEnd h₀ env.locals I oI (JSt Led ps x stored m₀ (P (i + 1))) { s with heap := h, toks := tk } Q) E { s with heap := h, toks := tk })
    (done : ∀ (c : σ) (u : PySem.Str → Option Value) (h : Heap) (tk : Nat), P n c → Fr h₀ env.locals h (doneM x (ps c) stored u m₀) → News h₀ env.locals h (Led c) → Q .next { s with heap := h, toks := tk }) :
    LoopAtV prog w A h₀ env x body Q E (.ref I) s := by
  refine ⟨I, fp, [I], n, Pv, St, m₀, Led c₀, fun i m nw => JSt Led ps x stored m₀ (P i) m nw, rfl, W, hLf, ?_, ?_, hst, F, N, ⟨c₀, rfl, hk, fun _ _ _ _ => rfl, hp⟩, ?_, ?_⟩
  · intro b hb; rw [List.mem_singleton.mp hb]; exact hI
  · intro p hp' hm; exact hoff p hp' (List.mem_singleton.mp hm)
  · rintro i v m₁ news₁ s₁ own ⟨hh, tk, rfl⟩ hi hPv ⟨c, rfl, h1, h2, hP⟩ hnw hown hget hall hSt F₁ N₁
    obtain ⟨oI, hoI⟩ := hIo _ _ hSt
    have hIfp : I ∈ fp := W.sub I (List.mem_singleton.mpr rfl)
    have mI : (I, oI) ∈ own := hall I hIfp hI oI hoI
    have hnw' : ∀ p ∈ Led c, p.1 ≠ I := fun p hp' e => hnw p hp' (List.mem_singleton.mpr e)
    have N₂ : News h₀ env.locals hh ((I, oI) :: Led c) := fun p hp' => by
      rcases List.mem_cons.mp hp' with rfl | hp'
      · exact N₁ _ (List.mem_append_left _ mI)
      · exact N₁ _ (List.mem_append_right _ hp')
    refine wpAny_mono (turn i c v m₁ hh tk oI hi hPv hP (AllNe.of hnw') (kst_fr h1 h2 F₁) N₂) (fun f s₂ t => ?_) fun _ _ e => e
    have fin : (∃ h' tk' m' news', s₂ = { ({ s with heap := hh, toks := tk } : Shared) with heap := h', toks := tk' } ∧ Fr h₀ env.locals h' m' ∧ News h₀ env.locals h' ((I, oI) :: news') ∧ AllNe I news' ∧ JSt Led ps x stored m₀ (P (i + 1)) m' news') →
        LoopStepU h₀ env.locals [I] own (JSt Led ps x stored m₀ (P (i + 1))) { s with heap := hh, toks := tk } .next s₂ := by
      rintro ⟨h', tk', m', news', e, F', N', off', J'⟩
      refine ⟨rfl, h', tk', m', news', e, F', fun p hp' => ?_, fun p hp' hm => off'.mem p hp' (List.mem_singleton.mp hm), J'⟩
      rcases List.mem_append.mp hp' with h3 | h3
      · rcases hfp p.1 (hown p h3) with e1 | ⟨o, ho⟩
        · have g := hget p h3
          rw [e1, hoI] at g
          have : p = (I, oI) := by cases p; cases g; cases e1; rfl
          rw [this]; exact N' _ List.mem_cons_self
        · have g := hget p h3
          have g2 := (N₂ _ (List.mem_cons_of_mem _ (hsrc i c hP _ ho))).1
          rw [g] at g2
          have e2 : p = (p.1, o) := by cases p; cases g2; rfl
          obtain ⟨c', rfl, _, _, hP'⟩ := J'
          rw [e2]; exact N' _ (List.mem_cons_of_mem _ (hsrc _ _ hP' _ ho))
      · exact N' p (List.mem_cons_of_mem _ h3)
    cases f with
    | ret v => exact .ret t
    | brk => exact .brk t
    | next => exact .next (fin t)
    | cont => exact .cont (fin t)
  · rintro h' tk m' news' F' N' _ ⟨c, rfl, h1, h2, hP⟩
    exact done c m' h' tk hP (kst_frOut h1 h2 F') N'

theorem kfor_range {σ : Type} {r : Addr} {a b d : Int} {t₁ t₂ t₃ : Tok} (n : Nat) (val : Nat → Int) (hval : ∀ i, i < n → a + i * d = val i) (Led : σ → List (Addr × Obj)) (ps : σ → List (PySem.Str × Value)) (stored : List PySem.Str) (P : Nat → σ → Prop) (c₀ : σ)
    (hh : A.handled = none) (hr : IsRange s.heap r a b d t₁ t₂ t₃) (hsm : Builtin.Range.small a b d = true) (hn : Builtin.Range.rangeSize a b d = (n : Int))
    (F : Fr h₀ env.locals s.heap m₀) (N : News h₀ env.locals s.heap (Led c₀)) (hk : ∀ p ∈ ps c₀, m₀ p.1 = some p.2) (hp : P 0 c₀)
    (turn : ∀ (i : Nat) (c : σ) (t : Tok) (u : PySem.Str → Option Value) (h : Heap) (tk : Nat) (I : Addr) (oI : Obj), i < n → P i c → AllNe I (Led c) → Fr h₀ env.locals h (turnM x (.int (val i) t) (ps c) stored u m₀) → News h₀ env.locals h ((I, oI) :: Led c) →
      wpAny (model prog w) A (execs body env) (TurnEnd h₀ env.locals I oI (JSt Led ps x stored m₀ (P (i + 1))) { s with heap := h, toks := tk } Q) E { s with heap := h, toks := tk })
    (done : ∀ (c : σ) (u : PySem.Str → Option Value) (h : Heap) (tk : Nat), P n c → Fr h₀ env.locals h (doneM x (ps c) stored u m₀) → News h₀ env.locals h (Led c) → Q .next { s with heap := h, toks := tk }) :
    wpAny (model prog w) A (pyIter (.ref r)) (fun it s₂ => LoopAtV prog w A h₀ env x body Q E it s₂) E s := by
  refine wpAny_pyIter_range hr hsm ?_
  refine loop_core (s := { s with heap := s.heap.push _ }) [] Led ps stored P c₀ (Walks.range hh _ a d n) ?_ (next_is_new F) (fun b hb => .inl (List.mem_singleton.mp hb)) (fun _ _ _ p hp' => nomatch hp') (fun i h st => ⟨_, st⟩) ?_ (F.push _) (fun p hp' => ⟨Heap.get?_push_of_some _ (N p hp').1, (N p hp').2⟩) ?_ hk hp ?_ ?_
  · intro hm; exact absurd F.ns.lt ((List.mem_singleton.mp hm) ▸ Nat.lt_irrefl _)
  · show IsRangeIter _ _ _ _ _
    rw [hn]; simpa using Heap.get?_push_size _ rfl
  · intro p hp' e; exact absurd (Heap.lt_size (N p hp').1) (e ▸ Nat.lt_irrefl _)
  · rintro i c v u h tk oI hi ⟨t, rfl⟩ hP off F₁ N₁
    rw [hval i hi] at F₁
    exact turn i c t u h tk _ oI hi hP off F₁ N₁
  · exact fun c u h tk hP F₁ N₁ => done c u h tk hP F₁ N₁

theorem kfor_bytes {σ : Type} {b : Array UInt8} {tb : Tok} (Led : σ → List (Addr × Obj)) (ps : σ → List (PySem.Str × Value)) (stored : List PySem.Str) (P : Nat → σ → Prop) (c₀ : σ)
    (hh : A.handled = none) (F : Fr h₀ env.locals s.heap m₀) (N : News h₀ env.locals s.heap (Led c₀)) (hk : ∀ p ∈ ps c₀, m₀ p.1 = some p.2) (hp : P 0 c₀)
    (turn : ∀ (i : Nat) (c : σ) (k : Int) (t : Tok) (u : PySem.Str → Option Value) (h : Heap) (tk : Nat) (I : Addr) (oI : Obj), (KBw.bInts b)[i]? = some k → 0 ≤ k → k < 256 → P i c → AllNe I (Led c) → Fr h₀ env.locals h (turnM x (.int k t) (ps c) stored u m₀) → News h₀ env.locals h ((I, oI) :: Led c) →
      wpAny (model prog w) A (execs body env) (TurnEnd h₀ env.locals I oI (JSt Led ps x stored m₀ (P (i + 1))) { s with heap := h, toks := tk } Q) E { s with heap := h, toks := tk })
    (done : ∀ (c : σ) (u : PySem.Str → Option Value) (h : Heap) (tk : Nat), P (KBw.bInts b).length c → Fr h₀ env.locals h (doneM x (ps c) stored u m₀) → News h₀ env.locals h (Led c) → Q .next { s with heap := h, toks := tk }) :
    wpAny (model prog w) A (pyIter (.bytes b tb)) (fun it s₂ => LoopAtV prog w A h₀ env x body Q E it s₂) E s := by
  refine KBw.pyIter_bytes ?_
  have W := KBw.walks (prog := prog) (w := w) hh s.heap.objs.size b tb
  refine loop_core (s := { s with heap := s.heap.push _ }) [] Led ps stored P c₀ W ?_ (next_is_new F) (fun b' hb => .inl (List.mem_singleton.mp hb)) (fun _ _ _ p hp' => nomatch hp') ?_ ⟨_, Heap.get?_push_size _ rfl, rfl, rfl⟩ (F.push _) (fun p hp' => ⟨Heap.get?_push_of_some _ (N p hp').1, (N p hp').2⟩) ?_ hk hp ?_ ?_
  · intro hm; exact absurd F.ns.lt ((List.mem_singleton.mp hm) ▸ Nat.lt_irrefl _)
  · rintro i h ⟨o, ho, _⟩; exact ⟨o, ho⟩
  · intro p hp' e; exact absurd (Heap.lt_size (N p hp').1) (e ▸ Nat.lt_irrefl _)
  · rintro i c v u h tk oI hi ⟨k, t, hn, rfl⟩ hP off F₁ N₁
    have hn' := KBw.ints_get hn
    have hb := KBw.ints_in (List.mem_of_getElem? hn')
    exact turn i c _ t u h tk _ oI hn' hb.1 hb.2 hP off F₁ N₁
  · exact fun c u h tk hP F₁ N₁ => done c u h tk (by rw [KBw.ints_length]; exact hP) F₁ N₁

theorem kfor_list {σ : Type} {l : Addr} {vs : List Value} {nn : Nat} (Led : σ → List (Addr × Obj)) (ps : σ → List (PySem.Str × Value)) (stored : List PySem.Str) (P : Nat → σ → Prop) (c₀ : σ)
    (hh : A.handled = none) (hsrc : ∀ i c, P i c → (l, listOf vs.toArray nn) ∈ Led c) (F : Fr h₀ env.locals s.heap m₀) (N : News h₀ env.locals s.heap (Led c₀)) (hk : ∀ p ∈ ps c₀, m₀ p.1 = some p.2) (hp : P 0 c₀)
    (turn : ∀ (i : Nat) (c : σ) (v : Value) (u : PySem.Str → Option Value) (h : Heap) (tk : Nat) (I : Addr) (oI : Obj), vs[i]? = some v → P i c → AllNe I (Led c) → Fr h₀ env.locals h (turnM x v (ps c) stored u m₀) → News h₀ env.locals h ((I, oI) :: Led c) →
      wpAny (model prog w) A (execs body env) (TurnEnd h₀ env.locals I oI (JSt Led ps x stored m₀ (P (i + 1))) { s with heap := h, toks := tk } Q) E { s with heap := h, toks := tk })
    (done : ∀ (c : σ) (u : PySem.Str → Option Value) (h : Heap) (tk : Nat), P vs.length c → Fr h₀ env.locals h (doneM x (ps c) stored u m₀) → News h₀ env.locals h (Led c) → Q .next { s with heap := h, toks := tk }) :
    wpAny (model prog w) A (pyIter (.ref l)) (fun it s₂ => LoopAtV prog w A h₀ env x body Q E it s₂) E s := by
  have ml := N _ (hsrc 0 c₀ hp)
  have hls : s.heap.IsList l vs.toArray := ⟨_, ml.1, rfl, _, rfl⟩
  have hne : l ≠ s.heap.objs.size := Nat.ne_of_lt (Heap.lt_size ml.1)
  refine wpAny_pyIter_list hls ?_
  refine loop_core (s := { s with heap := s.heap.push _ }) [(l, listOf vs.toArray nn)] Led ps stored P c₀ (Walks.list hh s.heap.objs.size l hne vs.toArray) ?_ (next_is_new F) (fun b' hb => ?_) (fun i c hP p hp' => by rw [List.mem_singleton.mp hp']; exact hsrc i c hP) ?_ ⟨⟨_, Heap.get?_push_size _ rfl, rfl, rfl⟩, hls.at fun o e => Heap.get?_push_of_some _ e⟩ (F.push _) (fun p hp' => ⟨Heap.get?_push_of_some _ (N p hp').1, (N p hp').2⟩) ?_ hk hp ?_ ?_
  · intro hm
    rcases List.mem_cons.mp hm with e | hm
    · exact absurd F.ns.lt (e ▸ Nat.lt_irrefl _)
    · exact ml.2.1 (List.mem_singleton.mp hm).symm
  · rcases List.mem_cons.mp hb with e | hm
    · exact .inl e
    · exact .inr ⟨_, List.mem_singleton.mpr (by rw [List.mem_singleton.mp hm])⟩
  · rintro i h ⟨⟨o, ho, _⟩, _⟩; exact ⟨o, ho⟩
  · intro p hp' e; exact absurd (Heap.lt_size (N p hp').1) (e ▸ Nat.lt_irrefl _)
  · rintro i c v u h tk oI hi hv hP off F₁ N₁
    exact turn i c v u h tk _ oI (by simpa using hv) hP off F₁ N₁
  · exact fun c u h tk hP F₁ N₁ => done c u h tk (by simpa using hP) F₁ N₁
end

theorem small_unf (a b c : Int) : Builtin.Range.small a b c = (Builtin.Range.rangeFitsLong a && Builtin.Range.rangeFitsLong b && Builtin.Range.rangeFitsLong c && Builtin.Range.rangeFitsLong (Builtin.Range.rangeSize a b c) &&
    (Builtin.Range.rangeSize a b c == 0 || if c > 0 then Builtin.Range.rangeFitsLong (b + (c - 1)) else Builtin.Range.rangeFitsLong (b + (c + 1)))) := rfl
theorem small_step {a b c : Int} (ha : 0 ≤ a) (ha' : a ≤ 1000000) (hb : -1000000 ≤ b) (hb' : b ≤ 1000000) (hc : 1 ≤ c) (hc' : c ≤ 1000000) : Builtin.Range.small a b c = true := by
  have h1 := rangeSize_toNat_le a b c
  have h2 := rangeSize_toNat a b c
  rw [small_unf]
  have e1 : (b + (c - 1) : Int) ≤ 2000000 := by omega
  simp only [Builtin.Range.rangeFitsLong, Bool.and_eq_true, Bool.or_eq_true, decide_eq_true_eq]
  refine ⟨⟨⟨⟨by omega, by omega⟩, by omega⟩, by omega⟩, .inr ?_⟩
  rw [if_pos (by omega)]
  simp only [Builtin.Range.rangeFitsLong, Bool.and_eq_true, decide_eq_true_eq]
  omega
theorem rsize_one {n : Nat} : Builtin.Range.rangeSize 0 (n : Int) 1 = (n : Int) := by
  rw [rangeSize_one]; split <;> omega

/-- a place where the walk stands still -/
structure Halt (p : Prop) : Prop where
  go :: (here : p)
theorem halt_of {p : Prop} (h : Halt p) : p := h.here
section
variable {prog : Program} {w : World} {A : Around} {E : Value → Shared → Prop} {s : Shared} {env : Env} {h₀ : Heap} {L : Addr} {m : PySem.Str → Option Value} {elt : PySem.Expr} {x : PySem.Str} {scope : PySem.Scope} {cl : List (PySem.Str × Addr)} {Q : Value → Shared → Prop}

def CompAtM (prog : Program) (w : World) (A : Around) (h₀ : Heap) (L : Addr) (m : PySem.Str → Option Value) (env : Env) (elt : PySem.Expr) (x : PySem.Str) (scope : PySem.Scope) (cl : List (PySem.Str × Addr)) (Q : Value → Shared → Prop) (it : Value) (s₂ : Shared) : Prop :=
  ∃ (I : Addr) (fp : List Addr) (n : Nat) (P : Nat → Value → Prop) (St : Nat → Heap → Prop) (S : List (Addr × Obj) → Prop) (news : List (Addr × Obj)),
    it = .ref I ∧ Walks prog w A I fp [I] n P St ∧ n ≤ sizeLine ∧ (∀ i h, St i h → ∃ o, h.get? I = some o) ∧
    (∀ i h h' o nw, St i h → h.get? I = some o → h'.get? I = some o → (∀ b o, h₀.get? b = some o → h'.get? b = some o) → News h₀ L h' nw → S nw → St i h') ∧
    St 0 s₂.heap ∧ (∀ b ∈ fp, b < s₂.heap.objs.size) ∧ Fr h₀ L s₂.heap m ∧ News h₀ L s₂.heap news ∧ L ≠ I ∧ h₀.get? I = none ∧ (∀ p ∈ news, p.1 ≠ I) ∧ S news ∧
    LCg.CompRest prog w A h₀ L m env elt x scope cl s₂ S P (LCg.FinE h₀ L m s₂ Q) n 0 [] news

theorem ListComp_my {iter : PySem.Expr} {px : Pos} {pos : Pos} (_F : Fr h₀ L s.heap m)
    (hclos : closureFor scope env = pure cl) (hcell : ∀ y ∈ scope.names, y.2 ≠ .cell) (hkind : scope.kind = .function)
    (hnames : ∀ y ∈ scope.names, y.2 = .local → scope.names.lookup y.1 = some .local) (hx : scope.names.lookup x = some .local)
    (hs : ∀ x, foldedSetIterable iter env x = pure x)
    (h : wpAny (model prog w) A (eval iter env) (fun xv s₁ => wpAny (model prog w) A (pyIter xv) (fun it s₂ => CompAtM prog w A h₀ L m env elt x scope cl Q it s₂) E s₁) E s) :
    wpAny (model prog w) A (eval (.ListComp elt [⟨.Name x px, iter, [], 0⟩] scope pos) env) Q E s := by
  rw [eval_ListComp]
  refine wpAny_comprehension_free (use := none) rfl hs hclos hkind hnames (wpAny_mono h (fun xv s₁ h₁ => wpAny_mono h₁ (fun it s₂ h₂ => ?_) fun _ _ e => e) fun _ _ e => e)
  obtain ⟨I, fp, n, P, St, S, news, rfl, W, hsz, hIo, hSt, hst, hfp, F, N, hLI, hI₀, off, hS, R⟩ := h₂
  refine LCg.block_U W hsz hIo hSt hcell hkind hx hst hfp F N hLI hI₀ off hS R ?_
  intro D C h' tk m' ys news' F' N' o1 hn hC₀ hD₀ hCL hDL hCD offC fin
  refine ⟨m', hn, fun h'' hs'' => fin D h'' tk (F'.change hs'' hCL hC₀) (fun p hp => ?_) o1⟩
  refine ⟨hs''.extBut _ _ ?_ (N' p hp).1, (N' p hp).2⟩
  rcases List.mem_cons.mp hp with rfl | hp
  · exact Ne.symm hCD
  · exact offC p hp

/-- behind an element -/
structure EltEnd (h₀ : Heap) (L : Addr) (m : PySem.Str → Option Value) (s : Shared) (I : Addr) (oI : Obj) (C : Addr) (oC : Obj) (D : Addr) (ys : List Value) (J : List Value → List (Addr × Obj) → Prop) (y : Value) (s₂ : Shared) : Prop where
  ex : ∃ h' tk' nw', s₂ = { s with heap := h', toks := tk' } ∧ Fr h₀ L h' m ∧ News h₀ L h' ((I, oI) :: (C, oC) :: (D, LCg.lst ys) :: nw') ∧ AllNe I nw' ∧ AllNe C nw' ∧ AllNe D nw' ∧ J (ys ++ [y]) nw'

theorem off3_of {I C D : Addr} {l : List (Addr × Obj)} (h1 : AllNe I l) (h2 : AllNe C l) (h3 : AllNe D l) : LCg.Off3 I C D l := LCg.Off3.of fun p hp => ⟨h1.mem p hp, h2.mem p hp, h3.mem p hp⟩

theorem comp_rest {n : Nat} {P : Nat → Value → Prop} {S : List (Addr × Obj) → Prop} (J : Nat → List Value → List (Addr × Obj) → Prop) (hS : ∀ i ys nw, J i ys nw → S nw)
    (turn : ∀ (i : Nat) (ys : List Value) (nw : List (Addr × Obj)) (v : Value) (I : Addr) (oI : Obj) (C : Addr) (oC : Obj) (D : Addr) (m₂ : PySem.Str → Option Value) (h : Heap) (tk : Nat), i < n → P i v → J i ys nw → LCg.NsObj oC m₂ → m₂ x = some v →
      Fr h₀ L h m → News h₀ L h ((I, oI) :: (C, oC) :: (D, LCg.lst ys) :: nw) → AllNe I nw → AllNe C nw → AllNe D nw → @Ne Nat I C → @Ne Nat I D → @Ne Nat C D →
      wpAny (model prog w) A (eval elt (compEnvC scope cl C env)) (EltEnd h₀ L m { s with heap := h, toks := tk } I oI C oC D ys (J (i + 1))) (fun _ _ => False) { s with heap := h, toks := tk })
    (done : ∀ (ys : List Value) (nw : List (Addr × Obj)) (D : Addr) (h : Heap) (tk : Nat), J n ys nw → Fr h₀ L h m → News h₀ L h ((D, LCg.lst ys) :: nw) → AllNe D nw → Q (.ref D) { s with heap := h, toks := tk }) :
    ∀ (k i : Nat) (ys : List Value) (nw : List (Addr × Obj)), i + k = n → J i ys nw → LCg.CompRest prog w A h₀ L m env elt x scope cl s S P (LCg.FinE h₀ L m s Q) k i ys nw := by
  intro k
  induction k with
  | zero =>
    intro i ys nw e hJ
    have e' : i = n := e
    subst e'
    refine LCg.CompRest.zero ?_
    intro D h tk F N o1
    refine done ys nw D h tk hJ F N ?_
    clear N F hJ
    induction nw with
    | nil => trivial
    | cons p r ih => exact ⟨o1.1, ih o1.2⟩
  | succ k ih =>
    intro i ys nw e hJ
    refine LCg.CompRest.succ ?_
    intro v I oI C oC D m₂ h tk E' hP hC hx F N off ne
    have off3 := off.mem
    refine wpAny_mono (turn i ys nw v I oI C oC D m₂ h tk (by omega) hP hJ hC hx F N (AllNe.of fun p hp => (off3 p hp).1) (AllNe.of fun p hp => (off3 p hp).2.1) (AllNe.of fun p hp => (off3 p hp).2.2) ne.1 ne.2.1 ne.2.2) (fun y s₂ t => ?_) (fun _ _ z => z.elim)
    obtain ⟨h', tk', nw', rfl, F', N', o1, o2, o3, hJ'⟩ := t.ex
    exact ⟨h', tk', nw', rfl, F', N', off3_of o1 o2 o3, hS _ _ _ hJ', ih _ _ _ (by omega) hJ'⟩

theorem kcomp_range {r : Addr} {a b d : Int} {t₁ t₂ t₃ : Tok} {news : List (Addr × Obj)} (n : Nat) (val : Nat → Int) (hval : ∀ i, i < n → a + i * d = val i) (J : Nat → List Value → List (Addr × Obj) → Prop)
    (hh : A.handled = none) (hr : IsRange s.heap r a b d t₁ t₂ t₃) (hsm : Builtin.Range.small a b d = true) (hn : Builtin.Range.rangeSize a b d = (n : Int)) (hsz : n ≤ sizeLine)
    (F : Fr h₀ L s.heap m) (N : News h₀ L s.heap news) (hj : J 0 [] news)
    (turn : ∀ (i : Nat) (ys : List Value) (nw : List (Addr × Obj)) (t : Tok) (I : Addr) (oI : Obj) (C : Addr) (oC : Obj) (D : Addr) (m₂ : PySem.Str → Option Value) (h : Heap) (tk : Nat), i < n → J i ys nw → LCg.NsObj oC m₂ → m₂ x = some (.int (val i) t) →
      Fr h₀ L h m → News h₀ L h ((I, oI) :: (C, oC) :: (D, LCg.lst ys) :: nw) → AllNe I nw → AllNe C nw → AllNe D nw → @Ne Nat I C → @Ne Nat I D → @Ne Nat C D →
      wpAny (model prog w) A (eval elt (compEnvC scope cl C env)) (EltEnd h₀ L m { s with heap := h, toks := tk } I oI C oC D ys (J (i + 1))) (fun _ _ => False) { s with heap := h, toks := tk })
    (done : ∀ (ys : List Value) (nw : List (Addr × Obj)) (D : Addr) (h : Heap) (tk : Nat), J n ys nw → Fr h₀ L h m → News h₀ L h ((D, LCg.lst ys) :: nw) → AllNe D nw → Q (.ref D) { s with heap := h, toks := tk }) :
    wpAny (model prog w) A (pyIter (.ref r)) (fun it s₂ => CompAtM prog w A h₀ L m env elt x scope cl Q it s₂) E s := by
  refine wpAny_pyIter_range hr hsm ?_
  refine ⟨s.heap.objs.size, _, n, _, _, fun _ => True, news, rfl, Walks.range hh _ a d n, hsz, (fun i h st => ⟨_, st⟩), ?_, ?_, ?_, F.push _, (fun p hp' => ⟨Heap.get?_push_of_some _ (N p hp').1, (N p hp').2⟩), Nat.ne_of_lt F.ns.lt, next_is_new F, (fun p hp => Nat.ne_of_lt (Heap.lt_size (N p hp).1)), trivial, ?_⟩
  · intro i h h' o nw st e e' _ _ _
    have st' : h.get? s.heap.objs.size = some _ := st
    show h'.get? s.heap.objs.size = some _
    rw [e', ← e]; exact st'
  · show IsRangeIter _ _ _ _ _
    rw [hn]; simpa using Heap.get?_push_size _ rfl
  · intro b hb
    rw [List.mem_singleton.mp hb]
    show s.heap.objs.size < (s.heap.push _).objs.size
    rw [Heap.size_push]; exact Nat.lt_succ_self _
  · refine comp_rest (s := { s with heap := s.heap.push _ }) J (fun _ _ _ _ => trivial) ?_ ?_ n 0 [] news (Nat.zero_add n) hj
    · rintro i ys nw v I oI C oC D m₂ h tk hi ⟨t, rfl⟩ hJ hC hx F' N' o1 o2 o3 n1 n2 n3
      rw [hval i hi] at hx
      exact turn i ys nw t I oI C oC D m₂ h tk hi hJ hC hx F' N' o1 o2 o3 n1 n2 n3
    · exact fun ys nw D h tk hJ F' N' o => done ys nw D h tk hJ F' N' o

theorem ld_cell {h₀ : Heap} {M : Model} {A : Around} {E : Value → Shared → Prop} {s : Shared} {news : List (Addr × Obj)} {y : PySem.Str} {pos : Pos} {c C : Addr} {v : Value} {oc : Obj} (N : News h₀ L s.heap news) (hc : cl.lookup y = some c) (hm : (c, oc) ∈ news) (ho : oc.data = .cell (some v)) (h : Q v s)
    (hk : (compEnvC scope cl C env).scope.kind = .function) (hl : (compEnvC scope cl C env).kindOf y = some .cell) (hd : (y == ("__debug__" : PySem.Str)) = false) :
    wpAny M A (eval (.Name y pos) (compEnvC scope cl C env)) Q E s := ldCellK hc ⟨oc, N.get hm, ho⟩ h hk hl hd
end

/-- a new list of ints at the ledger's head -/
def NewList (ns : List Int) (news : List (Addr × Obj)) (r : Value) (news' : List (Addr × Obj)) : Prop := ∃ l vs n, r = .ref l ∧ IntsAre vs ns ∧ AllNe l news ∧ news' = (l, listOf vs.toArray n) :: news
theorem Fn.useL {w : World} {lv : Nat} {f : Addr} {args : List Value} {news : List (Addr × Obj)} {ks : List Int} (C : Fn w lv f args news (NewList ks news))
    {mean : ExcName → Option Value} {mg mb : PySem.Str → Option Value} {A : Around} {env : Env} {outer : List Env} {A₀ : Around} {base h₀ : Heap} {L : Addr} {m : PySem.Str → Option Value} {s : Shared} {Q E : Value → Shared → Prop}
    (hh : A.handled = none) (hA : A.frames = some (env :: outer)) (hf : env.frame = some L) (hk : env.scope.kind = .function) (hd : A.depth + lv < 500) (hu : A.units + 4 * lv < 4000)
    (B : Below A₀ base outer h₀) (F : Fr h₀ L s.heap m) (X : (Mine.hd.heap_39 w.params).In h₀) (N : News h₀ L s.heap news) (T : MyTop mean mg mb h₀)
    (h : ∀ (l : Addr) (vs : List Value) (n : Nat), IntsAre vs ks → AllNe l news → ∀ h' tk', Fr h₀ L h' m → News h₀ L h' ((l, listOf vs.toArray n) :: news) → Q (.ref l) { s with heap := h', toks := tk' }) :
    wpAny (model myProg w) A (call (.ref f) args) Q E s :=
  Fn.use C hh hA hf hk hd hu B F X N T fun r news' h' tk' F' N' P' => by obtain ⟨l, vs, n, rfl, hi, ne, rfl⟩ := P'; exact h l vs n hi ne h' tk' F' N'
theorem news_drop2 {h₀ h : Heap} {L : Addr} {p q : Addr × Obj} {news : List (Addr × Obj)} (N : News h₀ L h (p :: q :: news)) : News h₀ L h (p :: news) := fun x hx => N x (by
  rcases List.mem_cons.mp hx with rfl | hx
  · exact List.mem_cons_self
  · exact List.mem_cons_of_mem _ (List.mem_cons_of_mem _ hx))
theorem news_tail {h₀ h : Heap} {L : Addr} {p : Addr × Obj} {news : List (Addr × Obj)} (N : News h₀ L h (p :: news)) : News h₀ L h news := fun x hx => N x (List.mem_cons_of_mem _ hx)

theorem extend_my {prog : Program} {w : World} {A : Around} {E : Value → Shared → Prop} {s : Shared} {h₀ : Heap} {L D b : Addr} {m : PySem.Str → Option Value} {news news' : List (Addr × Obj)} {vs vs2 : List Value} {n n2 : Nat} {Q : Value → Shared → Prop}
    (F : Fr h₀ L s.heap m) (N : News h₀ L s.heap news) (hb : (b, listOf vs2.toArray n2) ∈ news) (hne : 1 ≤ vs2.length) (U : Upd D (listOf vs.toArray n) (listOf (vs ++ vs2).toArray (n + 1)) news news') (hz : vs.length + vs2.length ≤ 1000000)
    (h : ∀ h', Fr h₀ L h' m → News h₀ L h' news' → Q .none { s with heap := h' }) : wpAny (model prog w) A (call (.builtin "list.extend") [.ref D, .ref b]) Q E s := by
  have e := sizeLine_eq
  refine kl_extend F N hb (by simp) (fun h0 => by have h0' : vs2.length = 0 := h0; omega) U ?_ (show vs.length ≤ sizeLine by omega) (by simp only [List.size_toArray]; omega) h
  have : Builtin.List.listTooLong (vs.toArray.size + vs2.toArray.size) = false := by
    unfold Builtin.List.listTooLong
    simp only [List.size_toArray, decide_eq_false_iff_not]; omega
  rw [this]; simp

/-- an object of the class Shape, with its dict -/
def shapeDict (h1 h2 h3 h4 h5 : Int) (k1 k2 k3 k4 k5 : Tok) (c b l r p : Int) (t1 t2 t3 t4 t5 : Tok) : Obj :=
  dictOf [⟨h1, .str (PySem.Str.ofString "colors") k1, .int c t1⟩, ⟨h2, .str (PySem.Str.ofString "bits") k2, .int b t2⟩, ⟨h3, .str (PySem.Str.ofString "columns") k3, .int l t3⟩,
    ⟨h4, .str (PySem.Str.ofString "row_octets") k4, .int r t4⟩, ⟨h5, .str (PySem.Str.ofString "pixel_octets") k5, .int p t5⟩] 5
structure ShapeIs (news : List (Addr × Obj)) (sx : Addr) (c b l r p : Int) : Prop where
  ex : ∃ sd h1 h2 h3 h4 h5 k1 k2 k3 k4 k5 t1 t2 t3 t4 t5, (sx, instObj 78 sd) ∈ news ∧ (sd, shapeDict h1 h2 h3 h4 h5 k1 k2 k3 k4 k5 c b l r p t1 t2 t3 t4 t5) ∈ news
section
variable {prog : Program} {w : World} {A : Around} {E : Value → Shared → Prop} {s : Shared}
theorem bytes_len_look : typeLookup (.type "bytes") "__len__" = pure (some (.builtin "bytes.__len__")) := by rw [typeLookup_type, builtinLookup_eq_fast]; kernel_rfl

theorem ints_of_items {b : Array UInt8} (l : List UInt8) : ∀ (vs : List Value) (k : Nat), vs.length = l.length → (∀ j c, l[j]? = some c → b[k + j]? = some c) → (∀ j v, vs[j]? = some v → ∃ c u, b[k + j]? = some c ∧ v = .int (c.toNat : Int) u) → IntsAre vs (l.map fun c => (c.toNat : Int)) := by
  induction l with
  | nil => intro vs k e _ _; rw [List.eq_nil_of_length_eq_zero e]; exact .nil
  | cons c l ih =>
    intro vs k e h1 h2
    cases vs with
    | nil => exact absurd e (Nat.ne_of_lt (Nat.succ_pos _))
    | cons v vs =>
      obtain ⟨c', u, h3, rfl⟩ := h2 0 v rfl
      have h4 := h1 0 c rfl
      rw [h3] at h4; cases h4
      refine .cons _ _ (ih vs (k + 1) (Nat.succ.inj e) (fun j d hd => ?_) (fun j d hd => ?_))
      · rw [Nat.add_right_comm]; exact h1 (j + 1) d hd
      · rw [Nat.add_right_comm]; exact h2 (j + 1) d hd

/-- list(b) of a bytes: its ints, in a new list -/
theorem list_of_bytes {h₀ : Heap} {L : Addr} {m : PySem.Str → Option Value} {news : List (Addr × Obj)} {b : Array UInt8} {t : Tok} {Q : Value → Shared → Prop} (hh : A.handled = none) (hz : b.size ≤ 1000000)
    (FF : Fr h₀ L s.heap m) (N : News h₀ L s.heap news)
    (hQ : ∀ D vs n h' tk, Fr h₀ L h' m → News h₀ L h' ((D, listOf vs.toArray n) :: news) → AllLt D news → IntsAre vs (KBw.bInts b) → Q (.ref D) { s with heap := h', toks := tk }) :
    wpAny (model prog w) A (call (.type "list") [.bytes b t]) Q E s := by
  have hsz : b.size ≤ sizeLine := by rw [sizeLine_eq]; omega
  have fin : ∀ (H : Heap) (tk : Nat) (acc : Array Value) (c : Nat), (∀ a o, s.heap.get? a = some o → H.get? a = some o) → H.get? s.heap.objs.size = some { cls := .type "list", dict := none, data := .seq acc c, slots := #[] } →
      PySem.ItemsOf (fun i v => ∃ k u, b[i]? = some k ∧ v = .int (k.toNat : Int) u) acc b.size → Q (.ref s.heap.objs.size) { s with heap := H, toks := tk } := by
    intro H tk acc c hk hD hI
    refine hQ _ acc.toList c H tk (FF.keeps hk) (fun p hp => ?_) (allLt_of fun p hp => Heap.lt_size (N p hp).1) ?_
    · rcases List.mem_cons.mp hp with rfl | hp
      · refine ⟨by rw [hD, Array.toArray_toList], Ne.symm (Nat.ne_of_lt FF.ns.lt), next_is_new FF⟩
      · exact ⟨hk _ _ (N p hp).1, (N p hp).2⟩
    · refine ints_of_items (b := b) b.toList acc.toList 0 (by simpa using hI.1) (fun j d hd => ?_) (fun j v hv => ?_)
      · rw [Nat.zero_add]; simpa using hd
      · rw [Nat.zero_add]; exact hI.2 j v (by simpa using hv)
  refine callType_codes (Q₁ := fun obj s₁ => obj = .ref s.heap.objs.size ∧ s₁ = { s with heap := s.heap.push { cls := .type "list", data := .seq #[] } }) PySem.F.called_list (PySem.F.typeCall_list_1 _) PySem.F.entry_list_init
    (code_list_new _ ⟨rfl, rfl⟩) fun obj s₁ e => ?_
  obtain ⟨rfl, rfl⟩ := e
  have hD : (s.heap.push { cls := .type "list", data := .seq #[] }).get? s.heap.objs.size = some { cls := .type "list", data := .seq #[] } := Heap.get?_push_size _ rfl
  refine ⟨⟨_, hD, rfl⟩, PySem.F.args_list_init_2 _ _, ?_⟩
  -- the new list is emptied: nothing stands in it
  show wpAny _ _ (do let old ← Builtin.List.listItems (.ref s.heap.objs.size); Builtin.List.listUpdate (.ref s.heap.objs.size) (fun _ => #[]); letGo old.toList.reverse; Builtin.List.listExtendWith (.ref s.heap.objs.size) (.bytes b t) .none) _ _ _
  unfold Builtin.List.listItems
  refine wpAny_bind (wpAny_bind (wpAny_seqItems hD rfl (wpAny_pure ?_)))
  refine wpAny_bind (m := updateSeq s.heap.objs.size (fun _ => #[])) (wpAny_updateSeq hD rfl ?_)
  have hD2 := Heap.get?_update_self (Obj.mapSeq (fun _ => (#[] : Array Value))) hD rfl
  generalize hH : (s.heap.push { cls := .type "list", data := .seq #[] }).update s.heap.objs.size (Obj.mapSeq (fun _ => (#[] : Array Value))) = H at hD2
  have old : ∀ a o, s.heap.get? a = some o → H.get? a = some o := fun a o e => by
    rw [← hH]; exact (Heap.get?_update_other _ _ (Ne.symm (Nat.ne_of_lt (Heap.lt_size e)))).trans (Heap.get?_push_of_some _ e)
  refine wpAny_bind (wpAny_letGo ?_)
  -- the extension by an iterator of the bytes
  unfold Builtin.List.listExtendWith
  refine wpAny_bind (wpAny_typeOf (T := "bytes") (v := .bytes b t) rfl ?_)
  have n1 : Builtin.List.listSameRef (.ref s.heap.objs.size) (.bytes b t) = false := rfl
  have n2 : (Value.type "bytes" == Value.type "list") = false := by decide
  have n3 : (Value.type "bytes" == Value.type "tuple") = false := by decide
  simp only [n1, n2, n3, Bool.or_false, Bool.false_eq_true, if_false]
  refine wpAny_bind (KBw.pyIter_bytes ?_)
  refine wpAny_bind (wpAny_holding ?_)
  unfold Builtin.List.listLengthHint
  refine wpAny_bind (wpAny_specialOf (T := "bytes") (v := .bytes b t) rfl bytes_len_look ?_)
  wp_delta
  refine wpAny_bind (wpAny_isInstance (T := "bytes") (v := .bytes b t) (b := true) rfl (by rw [isSubtype_type]; kernel_rfl) ?_)
  show wpAny _ _ (typeOf (Value.bytes b t) >>= _) _ _ _
  refine wpAny_bind (wpAny_typeOf (T := "bytes") (v := .bytes b t) rfl ?_)
  refine wpAny_pure ?_
  rw [if_neg (by decide)]
  have hDI : s.heap.objs.size ∉ [H.objs.size] := fun hm => by
    have := Heap.lt_size hD2
    rw [List.mem_singleton.mp hm] at this; exact Nat.lt_irrefl _ this
  refine wpAny_pure ⟨plainId_quiet PySem.F.plain_extend_loop _, codeAny_extend_loopS (KBw.walks (A := A.in1.in1) hh H.objs.size b t).toS hsz _ hDI _ b.size 0 _ _ _ rfl (Nat.zero_le _) ⟨_, Heap.get?_push_size _ rfl, rfl, rfl⟩ (Heap.get?_push_of_some _ hD2) (PySem.ItemsOf.nil _) fun s' acc c hm hS' hI => ?_⟩
  rw [Moved.eq_with hm]
  refine ⟨rfl, fin s'.heap s'.toks acc c (fun a o e => hm.heap a o (fun hmem => ?_) (Heap.get?_push_of_some _ (old a o e))) hS' hI⟩
  rcases List.mem_cons.mp hmem with e' | hmem
  · exact absurd (Heap.lt_size e) (by rw [e']; exact Nat.lt_irrefl _)
  · exact absurd (Heap.lt_size (old a o e)) (by rw [List.mem_singleton.mp hmem]; exact Nat.lt_irrefl _)
end
section
variable {prog : Program} {w : World} {A : Around} {E : Value → Shared → Prop} {s : Shared} {h₀ : Heap} {L : Addr} {m : PySem.Str → Option Value} {env : Env} {scope : PySem.Scope} {cl : List (PySem.Str × Addr)}

theorem store_end {y : PySem.Str} {py : Pos} {h' : Heap} {tk : Nat} {C D : Addr} {m' : PySem.Str → Option Value} {ys : List Value} {news : List (Addr × Obj)} {Q : Flow → Shared → Prop}
    (hLe : env.locals = L) (hy : env.kindOf y = some .local) (hp : (env.scope.kind == .class || (env.scope.kind == .module && env.locals != env.globals)) = false)
    (F' : Fr h₀ L h' m) (N' : News h₀ L h' ((D, LCg.lst ys) :: news)) (hn : h'.Ns C m') (hC₀ : h₀.get? C = none) (hCL : C ≠ L) (hCD : C ≠ D) (offC : ∀ p ∈ news, p.1 ≠ C)
    (fin : ∀ h'' tk', Fr h₀ L h'' (fun z => if z = y then some (.ref D) else m z) → News h₀ L h'' ((D, LCg.lst ys) :: news) → Q .next { s with heap := h'', toks := tk' }) :
    wpAny (model prog w) A (assign (.Name y py) env (.ref D)) (fun _ s'' => ∃ m, s''.heap.Ns C m ∧ ∀ h', Heap.SameBut C s''.heap h' → Q .next { s'' with heap := h' }) E { s with heap := h', toks := tk } := by
  subst hLe
  refine wpAny_assign_Name (wpAny_storeName_local hy F'.ns (fun h₂ hn₂ hs₂ => ?_) hp)
  have hL₀ : h₀.get? env.locals = none := Heap.get?_none_of_le F'.above
  have F₂ : Fr h₀ env.locals h₂ (fun z => if z = y then some (.ref D) else m z) := ⟨hn₂, fun b o e => hs₂.extBut b o (fun q => by rw [q, hL₀] at e; cases e) (F'.keep b o e), F'.above⟩
  refine ⟨m', hn.sameBut hs₂ hCL, fun h'' hs'' => fin h'' _ (F₂.change hs'' hCL hC₀) (fun p hp => ?_)⟩
  have z : h₂.get? p.1 = some p.2 := hs₂.extBut _ _ (N' p hp).2.1 (N' p hp).1
  refine ⟨hs''.extBut _ _ ?_ z, (N' p hp).2⟩
  rcases List.mem_cons.mp hp with rfl | hp
  · exact Ne.symm hCD
  · exact offC p hp

theorem pair_block {elt iter : PySem.Expr} {a b : PySem.Str} {pa pb tp : Pos} {kk : Nat} {pos : Pos} {s₂ : Shared} {I : Addr} {fp wr : List Addr} {n : Nat} {Pt : Nat → Array Value → Prop} {St : Nat → Heap → Prop} {Mid : Nat → Addr → Heap → Prop} {news : List (Addr × Obj)} {val : Nat → Int} {RR : Value → Addr → Result → Shared → Prop}
    (hh : A.handled = none) (W : WalksT prog w A I fp wr n Pt St Mid) (hsz : n ≤ sizeLine) (hst : St 0 s₂.heap) (hfp : ∀ b ∈ fp, b < s₂.heap.objs.size)
    (hcell : ∀ y ∈ scope.names, y.2 ≠ .cell) (hkind : scope.kind = .function) (hxa : scope.names.lookup a = some .local) (hxb : scope.names.lookup b = some .local) (hab : ¬ a = b)
    (F : Fr h₀ L s₂.heap m) (N : News h₀ L s₂.heap news) (hLw : L ∉ wr) (hw₀ : ∀ b ∈ wr, h₀.get? b = none) (off : ∀ p ∈ news, p.1 ∉ wr)
    (hPt : ∀ i vals, Pt i vals → ∃ x y, vals = #[x, y])
    (turn : ∀ (i : Nat) (x y : Value) (C : Addr) (oC : Obj) (m₂ : PySem.Str → Option Value) (h : Heap) (tk : Nat), i < n → Pt i #[x, y] → LCg.NsObj oC m₂ → m₂ a = some x → m₂ b = some y → Fr h₀ L h m → News h₀ L h ((C, oC) :: news) →
      wpAny (model prog w) A (eval elt (compEnvC scope cl C env)) (fun r s' => ∃ t tk', r = .int (val i) t ∧ s' = { s₂ with heap := h, toks := tk' }) (fun _ _ => False) { s₂ with heap := h, toks := tk })
    (hRR : ∀ D C h tk m' ys, Fr h₀ L h m → News h₀ L h ((D, LCg.lst ys) :: news) → AllNe D news → h.Ns C m' → h₀.get? C = none → h₀.get? D = none → C ≠ L → D ≠ L → C ≠ D → (∀ p ∈ news, p.1 ≠ C) → IntsAre ys ((List.range n).map val) → RR (.ref D) C (.ok .next) { s₂ with heap := h, toks := tk }) :
    wpAny (model prog w) A (newList []) (fun acc s₃ => wpAny (model prog w) A (newFunctionEnv scope env.globals cl [] env.qual none .none (some env)) (fun cenv s₄ =>
      codeAny (model prog w) A (.compStart (.ListComp elt [⟨.Tuple [.Name a pa, .Name b pb] kk tp, iter, [], 0⟩] scope pos) 0 (.ref I) acc { cenv with scope := relabel scope env }) (RR acc cenv.locals) s₄) E s₃) E s₂ := by
  refine wpAny_newObj_type (wpAny_newFunctionEnv hcell (by intro y hy; simp at hy) (fun h₁ hns₁ hsb₁ => ?_) hkind)
  dsimp only at hns₁ hsb₁ ⊢
  generalize hH2 : s₂.heap.push { cls := .type "list", dict := none, data := .seq ([] : List Value).toArray } = H2 at hns₁ hsb₁ ⊢
  have hC : H2.objs.size = s₂.heap.objs.size + 1 := by rw [← hH2, Heap.size_push]
  have hDC : s₂.heap.objs.size ≠ H2.objs.size := by rw [hC]; exact Nat.ne_of_lt (Nat.lt_succ_self _)
  have below : ∀ b, b < s₂.heap.objs.size → b ≠ H2.objs.size ∧ b ≠ s₂.heap.objs.size := fun b hb => ⟨by rw [hC]; exact Nat.ne_of_lt (Nat.lt_succ_of_lt hb), Nat.ne_of_lt hb⟩
  have old : ∀ b o, s₂.heap.get? b = some o → h₁.get? b = some o := fun b o e => hsb₁.extBut b o (below b (Heap.lt_size e)).1 (Heap.get?_push_of_some _ (hH2 ▸ Heap.get?_push_of_some _ e))
  have hacc : h₁.get? s₂.heap.objs.size = some (LCg.lst []) := hsb₁.extBut _ _ hDC (Heap.get?_push_of_some _ (hH2 ▸ Heap.get?_push_size _ rfl))
  have hst₁ : St 0 h₁ := W.frame _ _ _ hst fun b _ o e => old b o e
  have fresh : ∀ a, s₂.heap.objs.size ≤ a → s₂.heap.get? a = none := fun a ha => by
    cases e : s₂.heap.get? a with
    | none => rfl
    | some o' => exact absurd (Heap.lt_size e) (Nat.not_lt.mpr ha)
  have fresh₀ : ∀ a, s₂.heap.objs.size ≤ a → h₀.get? a = none := fun a ha => by
    cases e : h₀.get? a with
    | none => rfl
    | some o' => have := F.keep a o' e; rw [fresh a ha] at this; cases this
  have hD₀ : h₀.get? s₂.heap.objs.size = none := fresh₀ _ (Nat.le_refl _)
  have hC₀ : h₀.get? H2.objs.size = none := fresh₀ _ (by rw [hC]; exact Nat.le_succ _)
  have hLlt : L < s₂.heap.objs.size := F.ns.lt
  have hDL : s₂.heap.objs.size ≠ L := Ne.symm (below L hLlt).2
  have hCL : H2.objs.size ≠ L := Ne.symm (below L hLlt).1
  have hDf : s₂.heap.objs.size ∉ fp := fun hm => Nat.lt_irrefl _ (hfp _ hm)
  have hCf : H2.objs.size ∉ fp := fun hm => by have := hfp _ hm; rw [hC] at this; exact Nat.lt_irrefl _ (Nat.lt_of_succ_lt this)
  have hDw : s₂.heap.objs.size ∉ wr := fun hm => hDf (W.sub _ hm)
  have hCw : H2.objs.size ∉ wr := fun hm => hCf (W.sub _ hm)
  have newsD : ∀ p ∈ news, p.1 ≠ s₂.heap.objs.size := fun p hp => (below _ (Heap.lt_size (N p hp).1)).2
  have newsC : ∀ p ∈ news, p.1 ≠ H2.objs.size := fun p hp => (below _ (Heap.lt_size (N p hp).1)).1
  have loop : ∀ s₃ : Shared, s₃ = { s₂ with heap := h₁, toks := s₂.toks + ([] : List (PySem.Str × Value)).length } →
      codeAny (model prog w) A (.compLoop (.ListComp elt [⟨.Tuple [.Name a pa, .Name b pb] kk tp, iter, [], 0⟩] scope pos) 0 (.ref I) (.ref s₂.heap.objs.size) (compEnvC scope cl H2.objs.size env))
        (RR (.ref s₂.heap.objs.size) H2.objs.size) s₃ := by
    rintro s₃ rfl
    refine kcp_loop
      (fun k s' => ∃ h' tk i ys m', s' = { s₂ with heap := h', toks := tk } ∧ i ≤ n ∧ k = n + 1 - i ∧ IntsAre ys ((List.range i).map val) ∧ St i h' ∧ Fr h₀ L h' m ∧ h'.Ns H2.objs.size m' ∧
        News h₀ L h' ((s₂.heap.objs.size, LCg.lst ys) :: news)) ?_ (n + 1)
      ⟨h₁, _, 0, [], _, rfl, Nat.zero_le _, rfl, .nil, hst₁, F.keeps old, hns₁, fun p hp => ?_⟩
    · rintro k s' ⟨h', tk, i, ys, m', rfl, hi, rfl, hyI, hst', F', hn', N'⟩
      have hyl : ys.length = i := by rw [hyI.length]; simp
      by_cases hlt : i < n
      · refine W.item i _ _ _ hlt hst' fun T vals h₂ tk₂ hP hsT hT hMd hk₂ => ?_
        obtain ⟨x, y, rfl⟩ := hPt i vals hP
        refine W.go _ _ _ i T _ _ _ hMd fun h₃ hst₃ hk₃ => ?_
        have up₃ : ∀ c o, c ∉ wr → h'.get? c = some o → h₃.get? c = some o := fun c o hc e => hk₃ c o hc (hk₂ c o hc e)
        refine kcp_assign (env := compEnvC scope cl H2.objs.size env) hh (hT.at fun o e => hk₃ T o (W.apart i T _ hMd) e) (lookup_relabel_local hxa) (lookup_relabel_local hxb) (by simp [compEnvC, relabel, hkind]) (hn'.at' fun o e => up₃ _ o hCw e) fun h₄ tk₄ hn₄ hs₄ => ?_
        have up : ∀ c o, c ∉ wr → c ≠ H2.objs.size → h'.get? c = some o → h₄.get? c = some o := fun c o h1 h2 e => hs₄ c o h2 (up₃ c o h1 e)
        obtain ⟨oC, heC, hoC⟩ := LCg.ns_obj hn₄
        have hst₄ : St (i + 1) h₄ := W.frame _ _ _ hst₃ fun b hb o e => hs₄ b o (fun q => hCf (by have q' : b = H2.objs.size := q; rw [← q']; exact hb)) e
        have F₄ : Fr h₀ L h₄ m := ⟨F'.ns.at' fun o e => up _ o hLw (Ne.symm hCL) e, fun c o e => up c o (fun q => by rw [hw₀ _ q] at e; cases e) (fun q => by rw [q, hC₀] at e; cases e) (F'.keep c o e), F'.above⟩
        have N₄ : News h₀ L h₄ ((s₂.heap.objs.size, LCg.lst ys) :: news) := fun q hq => by
          have z := N' q hq
          refine ⟨up _ _ ?_ ?_ z.1, z.2⟩
          · rcases List.mem_cons.mp hq with rfl | hq
            · exact hDw
            · exact off q hq
          · rcases List.mem_cons.mp hq with rfl | hq
            · exact hDC
            · exact newsC q hq
        have N₄' : News h₀ L h₄ ((H2.objs.size, oC) :: news) := fun q hq => by
          rcases List.mem_cons.mp hq with rfl | hq
          · exact ⟨heC, hCL, hC₀⟩
          · exact N₄ q (List.mem_cons_of_mem _ hq)
        refine wpAny_mono (turn i x y H2.objs.size oC _ h₄ _ hlt hP hoC (by simp [hab]) (by simp) F₄ N₄') (fun v s₅ h₅ => ?_) fun _ _ e => e.elim
        obtain ⟨t, tk₅, rfl, rfl⟩ := h₅
        have zD := (N₄ (s₂.heap.objs.size, LCg.lst ys) List.mem_cons_self).1
        refine append_at (hsz := by show ys.toArray.size ≤ sizeLine; rw [List.size_toArray, hyl]; exact Nat.le_trans hi hsz) zD fun h₆ hs₆ hD₆ => ?_
        refine ⟨n + 1 - (i + 1), by omega, h₆, tk₅, i + 1, ys ++ [.int (val i) t], _, rfl, hlt, rfl, ?_, W.frame _ _ _ hst₄ fun b hb o e => hs₆.extBut b o (fun q => hDf (q ▸ hb)) e, F₄.change hs₆ hDL hD₀,
          (hoC.ns heC).sameBut hs₆ (Ne.symm hDC), fun q hq => ?_⟩
        · rw [List.range_succ, List.map_append, List.map_singleton]; exact ints_snoc hyI
        rcases List.mem_cons.mp hq with rfl | hq
        · exact ⟨hD₆.trans (congrArg some (LCg.lst_snoc ys _)), hDL, hD₀⟩
        · exact ⟨hs₆.extBut _ _ (newsD q hq) (N₄ q (List.mem_cons_of_mem _ hq)).1, (N₄ q (List.mem_cons_of_mem _ hq)).2⟩
      · have hin : i = n := Nat.le_antisymm hi (Nat.not_lt.mp hlt)
        subst hin
        refine W.done _ _ _ hst' fun h₂ tk₂ hk₂ => ?_
        refine hRR _ _ h₂ tk₂ _ ys ⟨F'.ns.at' fun o e => hk₂ _ o hLw e, fun c o e => hk₂ c o (fun q => by rw [hw₀ _ q] at e; cases e) (F'.keep c o e), F'.above⟩ (fun p hp => ⟨hk₂ _ _ ?_ (N' p hp).1, (N' p hp).2⟩) (AllNe.of newsD) (hn'.at' fun o e => hk₂ _ o hCw e) hC₀ hD₀ hCL hDL (Ne.symm hDC) newsC hyI
        rcases List.mem_cons.mp hp with rfl | hp
        · exact hDw
        · exact off p hp
    · rcases List.mem_cons.mp hp with rfl | hp
      · exact ⟨hacc, hDL, hD₀⟩
      · exact ⟨old _ _ (N p hp).1, (N p hp).2⟩
  exact codeAny_compStart_list (loop _ rfl) (W.self 0 _ _ _ hst₁ (loop _ rfl))

def PairAtM (prog : Program) (w : World) (A : Around) (h₀ : Heap) (L : Addr) (m : PySem.Str → Option Value) (env : Env) (elt : PySem.Expr) (a b : PySem.Str) (scope : PySem.Scope) (cl : List (PySem.Str × Addr)) (y : PySem.Str) (Q : Flow → Shared → Prop) (xv : Value) (s₂ : Shared) : Prop :=
  ∃ (I : Addr) (fp wr : List Addr) (n : Nat) (Pt : Nat → Array Value → Prop) (St : Nat → Heap → Prop) (Mid : Nat → Addr → Heap → Prop) (news : List (Addr × Obj)) (val : Nat → Int),
    xv = .ref I ∧ A.handled = none ∧ WalksT prog w A I fp wr n Pt St Mid ∧ n ≤ sizeLine ∧ St 0 s₂.heap ∧ (∀ b ∈ fp, b < s₂.heap.objs.size) ∧
    Fr h₀ L s₂.heap m ∧ News h₀ L s₂.heap news ∧ (L ∉ wr) ∧ (∀ b ∈ wr, h₀.get? b = none) ∧ (∀ p ∈ news, p.1 ∉ wr) ∧
    (∀ i vals, Pt i vals → ∃ x y, vals = #[x, y]) ∧
    (∀ (i : Nat) (x y : Value) (C : Addr) (oC : Obj) (m₂ : PySem.Str → Option Value) (h : Heap) (tk : Nat), i < n → Pt i #[x, y] → LCg.NsObj oC m₂ → m₂ a = some x → m₂ b = some y → Fr h₀ L h m → News h₀ L h ((C, oC) :: news) →
      wpAny (model prog w) A (eval elt (compEnvC scope cl C env)) (fun r s' => ∃ t tk', r = .int (val i) t ∧ s' = { s₂ with heap := h, toks := tk' }) (fun _ _ => False) { s₂ with heap := h, toks := tk }) ∧
    (∀ D ys, AllNe D news → IntsAre ys ((List.range n).map val) → ∀ h tk, Fr h₀ L h (fun z => if z = y then some (.ref D) else m z) → News h₀ L h ((D, LCg.lst ys) :: news) → Q .next { s₂ with heap := h, toks := tk })

theorem Assign_ListComp_pair {elt iter : PySem.Expr} {a b y : PySem.Str} {pa pb tp py : Pos} {kk : Nat} {pos spos : Pos} {Q : Flow → Shared → Prop} (_F : Fr h₀ L s.heap m) (hLe : env.locals = L)
    (hsw : swapsWith (.ListComp elt [⟨.Tuple [.Name a pa, .Name b pb] kk tp, iter, [], 0⟩] scope pos) (some (.Name y py)) spos.line env = pure true)
    (hclos : closureFor scope env = pure cl) (hcell : ∀ z ∈ scope.names, z.2 ≠ .cell) (hkind : scope.kind = .function)
    (hnames : ∀ z ∈ scope.names, z.2 = .local → scope.names.lookup z.1 = some .local) (hxa : scope.names.lookup a = some .local) (hxb : scope.names.lookup b = some .local) (hab : ¬ a = b)
    (hy : env.kindOf y = some .local) (hp : (env.scope.kind == .class || (env.scope.kind == .module && env.locals != env.globals)) = false)
    (hs : ∀ x, foldedSetIterable iter env x = pure x)
    (h : wpAny (model prog w) A (eval iter env) (PairAtM prog w A h₀ L m env elt a b scope cl y Q) E s) :
    wpAny (model prog w) A (exec (.Assign [.Name y py] (.ListComp elt [⟨.Tuple [.Name a pa, .Name b pb] kk tp, iter, [], 0⟩] scope pos) spos) env) Q E s := by
  rw [exec_Assign_Name_used _ _ _ _ hsw]
  refine wpAny_bind (wpAny_standAt (wpAny_bind ?_))
  show wpAny _ A (do let _ ← comprehension (.ListComp elt [⟨.Tuple [.Name a pa, .Name b pb] kk tp, iter, [], 0⟩] scope pos) scope env _ (newList []) false (eval iter env) (some (assign (.Name y py) env))) _ _ s
  refine wpAny_bind (wpAny_mono (wpAny_comprehension_free (use := some (assign (.Name y py) env)) (Q := fun _ s' => Q .next s') rfl hs hclos hkind hnames
    (wpAny_mono h (fun xv s₁ h₁ => ?_) fun _ _ e => e)) (fun _ s' hq => wpAny_pure (wpAny_pure hq)) fun _ _ e => e)
  obtain ⟨I, fp, wr, n, Pt, St, Mid, news, val, rfl, hh, W, hsz, hst, hfp, F, N, hLw, hw₀, off, hPt, turn, fin⟩ := h₁
  refine W.self 0 _ _ _ hst ?_
  refine pair_block hh W hsz hst hfp hcell hkind hxa hxb hab F N hLw hw₀ off hPt turn ?_
  intro D C h' tk m' ys F' N' o1 hn hC₀ hD₀ hCL hDL hCD offC hyI
  show wpAny _ A (assign (.Name y py) env (.ref D)) _ _ _
  exact store_end hLe hy hp F' N' hn hC₀ hCL hCD offC fun h'' tk' F'' N'' => fin D ys o1 hyI h'' tk' F'' N''

theorem zip_my {elt : PySem.Expr} {a b y : PySem.Str} {Q : Flow → Shared → Prop} {l1 l2 : Addr} {vs1 vs2 : List Value} {n1 n2 : Nat} {as bs : List Int} {news : List (Addr × Obj)} (val : Nat → Int)
    (hh : A.handled = none) (F : Fr h₀ L s.heap m) (N : News h₀ L s.heap news) (h1 : (l1, listOf vs1.toArray n1) ∈ news) (h2 : (l2, listOf vs2.toArray n2) ∈ news) (hi1 : IntsAre vs1 as) (hi2 : IntsAre vs2 bs) (hlen : as.length = bs.length) (hsz : as.length ≤ 1000000)
    (turn : ∀ (i : Nat) (kx ky : Int) (tx ty : Tok) (C : Addr) (oC : Obj) (m₂ : PySem.Str → Option Value) (h : Heap) (tk : Nat), as[i]? = some kx → bs[i]? = some ky → LCg.NsObj oC m₂ → m₂ a = some (.int kx tx) → m₂ b = some (.int ky ty) → Fr h₀ L h m → News h₀ L h ((C, oC) :: news) →
      wpAny (model prog w) A (eval elt (compEnvC scope cl C env)) (fun r s' => ∃ t tk', r = .int (val i) t ∧ s' = { s with heap := h, toks := tk' }) (fun _ _ => False) { s with heap := h, toks := tk })
    (done : ∀ D ys, AllNe D news → IntsAre ys ((List.range as.length).map val) → ∀ h tk, Fr h₀ L h (fun z => if z = y then some (.ref D) else m z) → News h₀ L h ((D, LCg.lst ys) :: news) → Q .next { s with heap := h, toks := tk }) :
    wpAny (model prog w) A (call (.type "zip") [.ref l1, .ref l2]) (PairAtM prog w A h₀ L m env elt a b scope cl y Q) E s := by
  have hls1 := News.isList N h1
  have hls2 := News.isList N h2
  have hLs : L < s.heap.objs.size := F.ns.lt
  have hab : h₀.objs.size ≤ L := F.above
  have a1 : l1 < s.heap.objs.size := by obtain ⟨_, e, _⟩ := hls1; exact Heap.lt_size e
  have a2 : l2 < s.heap.objs.size := by obtain ⟨_, e, _⟩ := hls2; exact Heap.lt_size e
  refine call_zip_2 hls1 hls2 fun h' hz hTI hTO hit1 hit2 hsz' hk => ?_
  have W := WalksT.zip2 (prog := prog) (w := w) hh _ _ _ _ _ _ _ (zipApart_new a1 a2) vs1.toArray vs2.toArray
  have hmin : min vs1.toArray.size vs2.toArray.size = as.length := by simp [hi1.length, hi2.length, hlen]
  rw [hmin] at W
  refine ⟨_, _, _, _, _, _, _, news, val, rfl, hh, W, by rw [sizeLine_eq]; omega, ⟨hz, hTI, ⟨_, _, hTO⟩, hit1, hit2, hls1.at fun o e => hk _ o e, hls2.at fun o e => hk _ o e⟩, ?_, F.keeps hk, (fun p hp => ⟨hk _ _ (N p hp).1, (N p hp).2⟩), ?_, ?_, ?_, ?_, ?_, ?_⟩
  · intro c hc
    simp only [List.mem_cons, List.not_mem_nil, or_false] at hc
    obtain ⟨_, e1, _⟩ := hit1
    obtain ⟨_, e2, _⟩ := hit2
    rcases hc with rfl | rfl | rfl | rfl | rfl | rfl | rfl
    · exact Heap.lt_size hz
    · exact Heap.lt_size hTI
    · exact Heap.lt_size hTO
    · exact Heap.lt_size e1
    · exact Heap.lt_size e2
    · obtain ⟨_, e, _⟩ := hls1; exact Heap.lt_size (hk _ _ e)
    · obtain ⟨_, e, _⟩ := hls2; exact Heap.lt_size (hk _ _ e)
  · intro hm
    simp only [List.mem_cons, List.not_mem_nil, or_false] at hm
    have up : ∀ k, L ≠ s.heap.objs.size + k := fun k e => Nat.ne_of_lt (Nat.lt_of_lt_of_le hLs (Nat.le_add_right _ k)) e
    rcases hm with e | e | e | e
    · exact up 4 e
    · exact up 3 e
    · exact up 0 e
    · exact up 1 e
  · intro c hc
    simp only [List.mem_cons, List.not_mem_nil, or_false] at hc
    have nw : ∀ k, h₀.get? (s.heap.objs.size + k) = none := fun k => Heap.get?_none_of_le (Nat.le_trans hab (Nat.le_trans (Nat.le_of_lt hLs) (Nat.le_add_right _ k)))
    rcases hc with rfl | rfl | rfl | rfl
    · exact nw 4
    · exact nw 3
    · exact nw 0
    · exact nw 1
  · intro p hp hm
    have hq1 := Heap.lt_size (N p hp).1
    simp only [List.mem_cons, List.not_mem_nil, or_false] at hm
    have dn : ∀ k, p.1 ≠ s.heap.objs.size + k := fun k e => Nat.ne_of_lt (Nat.lt_of_lt_of_le hq1 (Nat.le_add_right _ k)) e
    rcases hm with e | e | e | e
    · exact dn 4 e
    · exact dn 3 e
    · exact dn 0 e
    · exact dn 1 e
  · rintro i vals ⟨x, y, _, _, rfl⟩
    exact ⟨x, y, rfl⟩
  · rintro i x y C oC m₂ h tk hi ⟨x', y', hx, hy, e⟩ hC hxa hyb F' N'
    obtain ⟨e1, e2⟩ : x = x' ∧ y = y' := by simpa using congrArg Array.toList e
    subst e1 e2
    obtain ⟨kx, tx, rfl, hkx⟩ := hi1.at _ _ (by simpa using hx)
    obtain ⟨ky, ty, rfl, hky⟩ := hi2.at _ _ (by simpa using hy)
    exact turn i kx ky tx ty C oC m₂ h tk hkx hky hC hxa hyb F' N'
  · exact done
end
theorem compTurn_nest0 (elt t1 i1 t2 i2 : PySem.Expr) (scope : PySem.Scope) (pos : Pos) (it acc : Value) (env : Env) :
    compTurn (.ListComp elt [⟨t1, i1, [], 0⟩, ⟨t2, i2, [], 0⟩] scope pos) 0 it acc env = (standAt i1.pos >>= fun _ => pyNext it >>= fun r => match r with
      | none => pure (.done .next)
      | some v => letOwnedTupleGo t1 it v >>= fun _ => assign t1 env v >>= fun _ =>
        (eval i2 env >>= fun x => standAt i2.pos >>= fun _ => foldedSetIterable i2 env x >>= fun x => holding [x] (pyIter x) >>= fun it2 => runOwn (.compStart (.ListComp elt [⟨t1, i1, [], 0⟩, ⟨t2, i2, [], 0⟩] scope pos) 1 it2 acc env) env >>= fun _ =>
          again (.compLoop (.ListComp elt [⟨t1, i1, [], 0⟩, ⟨t2, i2, [], 0⟩] scope pos) 0 it acc env))) := by rfl
theorem compTurn_nest1 (elt t1 i1 t2 i2 : PySem.Expr) (scope : PySem.Scope) (pos : Pos) (it acc : Value) (env : Env) :
    compTurn (.ListComp elt [⟨t1, i1, [], 0⟩, ⟨t2, i2, [], 0⟩] scope pos) 1 it acc env = (standAt i2.pos >>= fun _ => pyNext it >>= fun r => match r with
      | none => pure (.done .next)
      | some v => letOwnedTupleGo t2 it v >>= fun _ => assign t2 env v >>= fun _ =>
        (eval elt env >>= fun x => call (.builtin "list.append") [acc, x] >>= fun _ => pure ()) >>= fun _ =>
          again (.compLoop (.ListComp elt [⟨t1, i1, [], 0⟩, ⟨t2, i2, [], 0⟩] scope pos) 1 it acc env)) := by rfl
section
variable {prog : Program} {w : World} {A : Around} {E : Value → Shared → Prop} {s : Shared} {h₀ : Heap} {L : Addr} {m : PySem.Str → Option Value} {env : Env} {scope : PySem.Scope} {cl : List (PySem.Str × Addr)}
theorem wpAny_F {α : Type} {M : Model} {x : Sem α} {Q : α → Shared → Prop} (h : wpAny M A x Q (fun _ _ => False) s) : wpAny M A x Q E s := wpAny_mono h (fun _ _ q => q) fun _ _ e => e.elim

theorem kn_loop1 {elt t1 i1 t2 i2 : PySem.Expr} {pos : Pos} {it acc : Value} {R : Result → Shared → Prop} (I : Nat → Shared → Prop)
    (turn : ∀ n s, I n s → wpAny (model prog w) A (pyNext it) (fun r s₁ => match r with
      | none => R (.ok .next) s₁
      | some v => wpAny (model prog w) A (assign t2 env v) (fun _ s₂ => wpAny (model prog w) A (eval elt env) (fun x s₄ =>
          wpAny (model prog w) A (call (.builtin "list.append") [acc, x]) (fun _ s₅ => ∃ m, m < n ∧ I m s₅) (fun _ _ => False) s₄) (fun _ _ => False) s₂) (fun _ _ => False) s₁) (fun _ _ => False) s)
    (n : Nat) (h : I n s) (ht : ∀ v, letOwnedTupleGo t2 it v = pure ()) : codeAny (model prog w) A (.compLoop (.ListComp elt [⟨t1, i1, [], 0⟩, ⟨t2, i2, [], 0⟩] scope pos) 1 it acc env) R s := by
  refine codeAny_loop rfl I (fun n s hI => ?_) n h
  show wpAny _ A ((compTurn (.ListComp elt [⟨t1, i1, [], 0⟩, ⟨t2, i2, [], 0⟩] scope pos) 1 it acc env).onRaise (fun x => do noteFrame x env; theTreesLotGoes x)) _ _ s
  refine wpAny_noted ?_
  rw [compTurn_nest1]
  refine wpAny_bind (wpAny_standAt (wpAny_bind (wpAny_mono (turn n s hI) (fun r s₁ h₁ => ?_) fun _ _ h' => h'.elim)))
  cases r with
  | none => exact wpAny_pure h₁
  | some v =>
    refine wpAny_bind (wpAny_of_eq (ht v) ?_)
    exact wpAny_bind (wpAny_mono h₁ (fun _ s₂ h₂ => wpAny_bind (wpAny_bind (wpAny_mono h₂ (fun x s₄ h₄ => wpAny_bind (wpAny_mono h₄ (fun _ s₅ h₅ => wpAny_pure (wpAny_pure ⟨rfl, h₅⟩)) fun _ _ h' => h'.elim)) fun _ _ h' => h'.elim))) fun _ _ h' => h'.elim)

theorem kn_start1 {elt t1 i1 t2 i2 : PySem.Expr} {pos : Pos} {it acc : Value} {R : Result → Shared → Prop}
    (h0 : codeAny (model prog w) A (.compLoop (.ListComp elt [⟨t1, i1, [], 0⟩, ⟨t2, i2, [], 0⟩] scope pos) 1 it acc env) R s)
    (h : wpAny (model prog w) A (pyIter it) (fun it' s' => codeAny (model prog w) A (.compLoop (.ListComp elt [⟨t1, i1, [], 0⟩, ⟨t2, i2, [], 0⟩] scope pos) 1 it' acc env) R s')
      (notedBy (model prog w) A env fun x s' => R (.error x) s') s) :
    codeAny (model prog w) A (.compStart (.ListComp elt [⟨t1, i1, [], 0⟩, ⟨t2, i2, [], 0⟩] scope pos) 1 it acc env) R s := by
  refine codeAny_of_tree ?_
  show wpAny _ _ ((compStart (.ListComp elt [⟨t1, i1, [], 0⟩, ⟨t2, i2, [], 0⟩] scope pos) 1 it acc env).onRaise (fun x => do noteFrame x env; standAt theWindowsPlace)) _ _ s
  refine wpAny_notedAt ?_
  unfold compStart
  show wpAny _ _ (ask >>= _) _ _ s
  refine wpAny_bind (wpAny_askSetting (wpAny_ite ?_))
  split
  · first
      | exact wpAny_bind (wpAny_pure (wpAny_pure (And.intro rfl h0)))
      | exact wpAny_pure (And.intro rfl h0)
  · first
      | exact wpAny_bind (wpAny_rule (wpAny_bind (wpAny_standAt (wpAny_bind (wpAny_mono h (fun it' s' h' => wpAny_pure (And.intro rfl h')) fun _ _ x => x)))))
      | (refine wpAny_bind (wpAny_rule ?_); show wpAny _ _ (standAt i2.pos >>= _) _ _ s; exact wpAny_bind (wpAny_standAt (wpAny_bind (wpAny_mono h (fun it' s' h' => wpAny_pure (And.intro rfl h')) fun _ _ x => x))))

/-- the inner clause over a tuple -/
inductive Kn1 (s : Shared) (I T C D : Addr) (ys vals : List Value) (k : Nat) (s' : Shared) : Prop
  | mk (h' : Heap) (tk i : Nat) (m' : PySem.Str → Option Value) (e : s' = { s with heap := h', toks := tk }) (hi : i ≤ vals.length) (hk : k = vals.length + 1 - i) (hst : h'.IsTupleIter I T i ∧ h'.IsTuple T vals.toArray)
    (hD : h'.get? D = some (LCg.lst (ys ++ vals.take i))) (hC : h'.Ns C m') (keep : ∀ b o, b ≠ I → b ≠ C → b ≠ D → s.heap.get? b = some o → h'.get? b = some o)
inductive Kn0 (h₀ : Heap) (L I ax C D : Addr) (m : PySem.Str → Option Value) (s₂ : Shared) (n : Nat) (ls : List Int) (f : Int → List Int) (news : List (Addr × Obj)) (k : Nat) (s' : Shared) : Prop
  | mk (h' : Heap) (tk i : Nat) (ys : List Value) (m' : PySem.Str → Option Value) (e : s' = { s₂ with heap := h', toks := tk }) (hi : i ≤ n) (hk : k = n + 1 - i) (hI : IntsAre ys ((ls.take i).flatMap f)) (hit : h'.IsListIter I ax i)
    (F : Fr h₀ L h' m) (hn : h'.Ns C m') (N : News h₀ L h' ((D, LCg.lst ys) :: news))
theorem kn_inner {y : PySem.Str} {py pe : Pos} {t1 i1 i2 : PySem.Expr} {pos : Pos} {I T C D : Addr} {vals ys : List Value} {m₂ : PySem.Str → Option Value} {R : Result → Shared → Prop} (hh : A.handled = none)
    (hT : s.heap.IsTuple T vals.toArray) (hit : s.heap.IsTupleIter I T 0) (hTI : T ≠ I) (hD : s.heap.get? D = some (LCg.lst ys)) (hC : s.heap.Ns C m₂) (hDC : D ≠ C) (hTD : T ≠ D) (hTC : T ≠ C) (hID : I ≠ D) (hIC : I ≠ C)
    (hkind : scope.kind = .function) (hy : scope.names.lookup y = some .local) (hyd : (y == ("__debug__" : PySem.Str)) = false) (hsz : ys.length + vals.length ≤ sizeLine)
    (fin : ∀ h' tk m', h'.get? D = some (LCg.lst (ys ++ vals)) → h'.Ns C m' → (∀ b o, b ≠ I → b ≠ C → b ≠ D → s.heap.get? b = some o → h'.get? b = some o) → R (.ok .next) { s with heap := h', toks := tk }) :
    codeAny (model prog w) A (.compStart (.ListComp (.Name y pe) [⟨t1, i1, [], 0⟩, ⟨.Name y py, i2, [], 0⟩] scope pos) 1 (.ref I) (.ref D) (compEnvC scope cl C env)) R s := by
  have W := Walks.tuple (prog := prog) (w := w) hh I T hTI vals.toArray
  have loop : codeAny (model prog w) A (.compLoop (.ListComp (.Name y pe) [⟨t1, i1, [], 0⟩, ⟨.Name y py, i2, [], 0⟩] scope pos) 1 (.ref I) (.ref D) (compEnvC scope cl C env)) R s := by
    refine kn_loop1 (Kn1 s I T C D ys vals) ?_ (vals.length + 1)
      ⟨s.heap, s.toks, 0, m₂, rfl, Nat.zero_le _, rfl, ⟨hit, hT⟩, by simpa using hD, hC, fun _ _ _ _ _ e => e⟩ (fun _ => rfl)
    rintro k s' ⟨h', tk, i, m', rfl, hi, rfl, hst, hD', hC', keep⟩
    by_cases hlt : i < vals.length
    · refine W.item i _ _ _ (by simpa using hlt) hst fun v h₂ tk₂ hP hst₂ hk₂ => ?_
      have hDn : D ∉ [I] := by simpa using Ne.symm hID
      have hCn : C ∉ [I] := by simpa using Ne.symm hIC
      refine wpAny_assign_Name (wpAny_storeName_local (lookup_relabel_local hy) (hC'.at' fun o e => hk₂ _ o hCn e) (fun h₃ hn₃ hs₃ => ?_) (by simp [compEnvC, relabel, hkind]))
      refine ldVarK (v := v) hn₃ (by simp) ?_ hkind (lookup_relabel_local hy) hyd
      have hD₃ : h₃.get? D = some (LCg.lst (ys ++ vals.take i)) := hs₃.extBut D _ hDC (hk₂ _ _ hDn hD')
      refine append_at (hsz := by show (ys ++ vals.take i).toArray.size ≤ sizeLine; rw [List.size_toArray, List.length_append, List.length_take]; omega) hD₃ fun h₄ hs₄ hD₄ => ?_
      have hv : vals[i]? = some v := by simpa using hP
      refine ⟨vals.length + 1 - (i + 1), by omega, h₄, _, i + 1, _, rfl, hlt, rfl, ⟨?_, ?_⟩, ?_, hn₃.sameBut hs₄ (Ne.symm hDC), ?_⟩
      · exact (hst₂.1.at fun o e => hs₄.extBut I o hID (hs₃.extBut I o hIC e))
      · exact (hst₂.2.at fun o e => hs₄.extBut T o hTD (hs₃.extBut T o hTC e))
      · rw [hD₄, LCg.lst_snoc, List.take_add_one, hv, Option.toList_some, List.append_assoc]
      · intro b o h1 h2 h3 e
        exact hs₄.extBut b o h3 (hs₃.extBut b o h2 (hk₂ b o (by simpa using h1) (keep b o h1 h2 h3 e)))
    · have hin : i = vals.length := Nat.le_antisymm hi (Nat.not_lt.mp hlt)
      subst hin
      refine W.done _ _ _ (by simpa using hst) fun h₂ tk₂ hk₂ => ?_
      refine fin h₂ tk₂ m' (hk₂ _ _ (by simpa using Ne.symm hID) (by simpa using hD')) (hC'.at' fun o e => hk₂ _ o (by simpa using Ne.symm hIC) e) fun b o h1 h2 h3 e => hk₂ b o (by simpa using h1) (keep b o h1 h2 h3 e)
  exact kn_start1 loop (wpAny_pyIter_tupleiter hit loop)

theorem kn_loop0 {elt t1 i1 t2 i2 : PySem.Expr} {pos : Pos} {it acc : Value} {R : Result → Shared → Prop} (I : Nat → Shared → Prop)
    (turn : ∀ n s, I n s → wpAny (model prog w) A (pyNext it) (fun r s₁ => match r with
      | none => R (.ok .next) s₁
      | some v => wpAny (model prog w) A (assign t1 env v) (fun _ s₂ => wpAny (model prog w) A (eval i2 env) (fun x s₃ =>
          wpAny (model prog w) A (pyIter x) (fun it2 s₄ => codeAny (model prog w) (A.mark none) (.compStart (.ListComp elt [⟨t1, i1, [], 0⟩, ⟨t2, i2, [], 0⟩] scope pos) 1 it2 acc env) (fun r s' => r = .ok .next ∧ ∃ m, m < n ∧ I m s') s₄) (fun _ _ => False) s₃) (fun _ _ => False) s₂) (fun _ _ => False) s₁) (fun _ _ => False) s)
    (n : Nat) (h : I n s) (ht : ∀ v, letOwnedTupleGo t1 it v = pure ()) (hs : ∀ x, foldedSetIterable i2 env x = pure x) : codeAny (model prog w) A (.compLoop (.ListComp elt [⟨t1, i1, [], 0⟩, ⟨t2, i2, [], 0⟩] scope pos) 0 it acc env) R s := by
  refine codeAny_loop rfl I (fun n s hI => ?_) n h
  show wpAny _ A ((compTurn (.ListComp elt [⟨t1, i1, [], 0⟩, ⟨t2, i2, [], 0⟩] scope pos) 0 it acc env).onRaise (fun x => do noteFrame x env; theTreesLotGoes x)) _ _ s
  refine wpAny_noted ?_
  rw [compTurn_nest0]
  refine wpAny_bind (wpAny_standAt (wpAny_bind (wpAny_mono (turn n s hI) (fun r s₁ h₁ => ?_) fun _ _ h' => h'.elim)))
  cases r with
  | none => exact wpAny_pure h₁
  | some v =>
    refine wpAny_bind (wpAny_of_eq (ht v) ?_)
    refine wpAny_bind (wpAny_mono h₁ (fun _ s₂ h₂ => ?_) fun _ _ h' => h'.elim)
    refine wpAny_bind (wpAny_mono h₂ (fun x s₃ h₃ => ?_) fun _ _ h' => h'.elim)
    refine wpAny_bind (wpAny_standAt (wpAny_bind (wpAny_of_eq (hs x) (wpAny_bind (wpAny_holding (wpAny_mono h₃ (fun it2 s₄ h₄ => ?_) fun _ _ h' => h'.elim))))))
    refine wpAny_bind (wpAny_runOwn (codeAny_mono h₄ (fun r s' hr => ?_)))
    obtain ⟨rfl, hr⟩ := hr
    exact wpAny_pure ⟨rfl, hr⟩

/-- behind the inner tuple -/
structure NestEnd (h₀ : Heap) (L : Addr) (m : PySem.Str → Option Value) (s : Shared) (I : Addr) (oI : Obj) (C : Addr) (oC : Obj) (D : Addr) (ys : List Value) (news : List (Addr × Obj)) (ks : List Int) (r : Value) (s₂ : Shared) : Prop where
  ex : ∃ T h' tk' vals, r = .ref T ∧ s₂ = { s with heap := h', toks := tk' } ∧ Fr h₀ L h' m ∧ News h₀ L h' ((I, oI) :: (C, oC) :: (D, LCg.lst ys) :: news) ∧ h'.IsTuple T vals.toArray ∧ IntsAre vals ks

theorem nest_block {x y : PySem.Str} {px py pe : Pos} {i1 i2 : PySem.Expr} {pos : Pos} {s₂ : Shared} {I ax : Addr} {vs : List Value} {nv : Nat} {ls : List Int} {f : Int → List Int} {news : List (Addr × Obj)} {RR : Value → Addr → Result → Shared → Prop}
    (hh : A.handled = none) (hit : s₂.heap.IsListIter I ax 0) (hax : (ax, listOf vs.toArray nv) ∈ news) (hI : IntsAre vs ls)
    (hcell : ∀ y ∈ scope.names, y.2 ≠ .cell) (hkind : scope.kind = .function) (hx : scope.names.lookup x = some .local) (hy : scope.names.lookup y = some .local) (hyd : (y == ("__debug__" : PySem.Str)) = false)
    (hs : ∀ e, ∀ C, foldedSetIterable i2 (compEnvC scope cl C env) e = pure e)
    (F : Fr h₀ L s₂.heap m) (N : News h₀ L s₂.heap news) (hLI : L ≠ I) (hI₀ : h₀.get? I = none) (off : ∀ p ∈ news, p.1 ≠ I) (hsz : (ls.flatMap f).length ≤ sizeLine)
    (turn : ∀ (k : Int) (t : Tok) (I : Addr) (oI : Obj) (C : Addr) (oC : Obj) (D : Addr) (ys : List Value) (m₂ : PySem.Str → Option Value) (h : Heap) (tk : Nat), k ∈ ls → LCg.NsObj oC m₂ → m₂ x = some (.int k t) → Fr h₀ L h m → News h₀ L h ((I, oI) :: (C, oC) :: (D, LCg.lst ys) :: news) →
      wpAny (model prog w) A (eval i2 (compEnvC scope cl C env)) (NestEnd h₀ L m { s₂ with heap := h, toks := tk } I oI C oC D ys news (f k)) (fun _ _ => False) { s₂ with heap := h, toks := tk })
    (hRR : ∀ D C h tk m' ys, Fr h₀ L h m → News h₀ L h ((D, LCg.lst ys) :: news) → AllNe D news → h.Ns C m' → h₀.get? C = none → h₀.get? D = none → C ≠ L → D ≠ L → C ≠ D → (∀ p ∈ news, p.1 ≠ C) → IntsAre ys (ls.flatMap f) → RR (.ref D) C (.ok .next) { s₂ with heap := h, toks := tk }) :
    wpAny (model prog w) A (newList []) (fun acc s₃ => wpAny (model prog w) A (newFunctionEnv scope env.globals cl [] env.qual none .none (some env)) (fun cenv s₄ =>
      codeAny (model prog w) A (.compStart (.ListComp (.Name y pe) [⟨.Name x px, i1, [], 0⟩, ⟨.Name y py, i2, [], 0⟩] scope pos) 0 (.ref I) acc { cenv with scope := relabel scope env }) (RR acc cenv.locals) s₄) E s₃) E s₂ := by
  refine wpAny_newObj_type (wpAny_newFunctionEnv hcell (by intro y hy; simp at hy) (fun h₁ hns₁ hsb₁ => ?_) hkind)
  dsimp only at hns₁ hsb₁ ⊢
  generalize hH2 : s₂.heap.push { cls := .type "list", dict := none, data := .seq ([] : List Value).toArray } = H2 at hns₁ hsb₁ ⊢
  have hC : H2.objs.size = s₂.heap.objs.size + 1 := by rw [← hH2, Heap.size_push]
  have hDC : s₂.heap.objs.size ≠ H2.objs.size := by rw [hC]; exact Nat.ne_of_lt (Nat.lt_succ_self _)
  have below : ∀ b, b < s₂.heap.objs.size → b ≠ H2.objs.size ∧ b ≠ s₂.heap.objs.size := fun b hb => ⟨by rw [hC]; exact Nat.ne_of_lt (Nat.lt_succ_of_lt hb), Nat.ne_of_lt hb⟩
  have old : ∀ b o, s₂.heap.get? b = some o → h₁.get? b = some o := fun b o e => hsb₁.extBut b o (below b (Heap.lt_size e)).1 (Heap.get?_push_of_some _ (hH2 ▸ Heap.get?_push_of_some _ e))
  have hacc : h₁.get? s₂.heap.objs.size = some (LCg.lst []) := hsb₁.extBut _ _ hDC (Heap.get?_push_of_some _ (hH2 ▸ Heap.get?_push_size _ rfl))
  have fresh : ∀ a, s₂.heap.objs.size ≤ a → s₂.heap.get? a = none := fun a ha => by
    cases e : s₂.heap.get? a with
    | none => rfl
    | some o' => exact absurd (Heap.lt_size e) (Nat.not_lt.mpr ha)
  have fresh₀ : ∀ a, s₂.heap.objs.size ≤ a → h₀.get? a = none := fun a ha => by
    cases e : h₀.get? a with
    | none => rfl
    | some o' => have := F.keep a o' e; rw [fresh a ha] at this; cases this
  have hD₀ : h₀.get? s₂.heap.objs.size = none := fresh₀ _ (Nat.le_refl _)
  have hC₀ : h₀.get? H2.objs.size = none := fresh₀ _ (by rw [hC]; exact Nat.le_succ _)
  have hLlt : L < s₂.heap.objs.size := F.ns.lt
  have hDL : s₂.heap.objs.size ≠ L := Ne.symm (below L hLlt).2
  have hCL : H2.objs.size ≠ L := Ne.symm (below L hLlt).1
  have hIlt : I < s₂.heap.objs.size := by obtain ⟨_, e, _⟩ := hit; exact Heap.lt_size e
  have hCI : I ≠ H2.objs.size := (below I hIlt).1
  have hDI : I ≠ s₂.heap.objs.size := (below I hIlt).2
  have newsD : ∀ p ∈ news, p.1 ≠ s₂.heap.objs.size := fun p hp => (below _ (Heap.lt_size (N p hp).1)).2
  have newsC : ∀ p ∈ news, p.1 ≠ H2.objs.size := fun p hp => (below _ (Heap.lt_size (N p hp).1)).1
  have haxI : ax ≠ I := off _ hax
  have W := Walks.list (prog := prog) (w := w) hh I ax haxI vs.toArray
  have loop : ∀ s₃ : Shared, s₃ = { s₂ with heap := h₁, toks := s₂.toks + ([] : List (PySem.Str × Value)).length } →
      codeAny (model prog w) A (.compLoop (.ListComp (.Name y pe) [⟨.Name x px, i1, [], 0⟩, ⟨.Name y py, i2, [], 0⟩] scope pos) 0 (.ref I) (.ref s₂.heap.objs.size) (compEnvC scope cl H2.objs.size env))
        (RR (.ref s₂.heap.objs.size) H2.objs.size) s₃ := by
    rintro s₃ rfl
    refine kn_loop0 (Kn0 h₀ L I ax H2.objs.size s₂.heap.objs.size m s₂ vs.length ls f news) ?_ (vs.length + 1)
      ⟨h₁, _, 0, [], _, rfl, Nat.zero_le _, rfl, by simpa using IntsAre.nil, hit.at fun o e => old _ o e, F.keeps old, hns₁, fun p hp => ?_⟩ (fun _ => rfl) (fun e => hs e _)
    · rintro k s' ⟨h', tk, i, ys, m', rfl, hi, rfl, hyI, hst', F', hn', N'⟩
      have hax' := News.isList N' (List.mem_cons_of_mem _ hax)
      by_cases hlt : i < vs.length
      · refine W.item i _ _ _ (by simpa using hlt) ⟨hst', hax'⟩ fun v h₂ tk₂ hP hst₂ hk₂ => ?_
        obtain ⟨kv, t, rfl, hkv⟩ := hI.at _ _ (by simpa using hP)
        have hCn : H2.objs.size ∉ [I] := by simpa using Ne.symm hCI
        refine wpAny_assign_Name (wpAny_storeName_local (lookup_relabel_local hx) (hn'.at' fun o e => hk₂ _ o hCn e) (fun h₃ hn₃ hs₃ => ?_) (by simp [compEnvC, relabel, hkind]))
        obtain ⟨oC, heC, hoC⟩ := LCg.ns_obj hn₃
        have hit₃ : h₃.IsListIter I ax (i + 1) := hst₂.1.at fun o e => hs₃.extBut I o hCI e
        obtain ⟨oI, heI, rI⟩ := id hit₃
        have F₃ : Fr h₀ L h₃ m := (LCg.fr_but F' hk₂ hLI hI₀).change hs₃ hCL hC₀
        have N₂ : News h₀ L h₂ ((s₂.heap.objs.size, LCg.lst ys) :: news) := LCg.news_but N' hk₂ fun p hp => by
          rcases List.mem_cons.mp hp with rfl | hp
          · exact Ne.symm hDI
          · exact off p hp
        have N₃ : News h₀ L h₃ ((I, oI) :: (H2.objs.size, oC) :: (s₂.heap.objs.size, LCg.lst ys) :: news) := fun p hp => by
          rcases List.mem_cons.mp hp with rfl | hp
          · exact ⟨heI, Ne.symm hLI, hI₀⟩
          · rcases List.mem_cons.mp hp with rfl | hp
            · exact ⟨heC, hCL, hC₀⟩
            · have z := N₂ p hp
              refine ⟨hs₃.extBut _ _ ?_ z.1, z.2⟩
              rcases List.mem_cons.mp hp with rfl | hp
              · exact hDC
              · exact newsC p hp
        refine wpAny_mono (turn kv t I oI H2.objs.size oC s₂.heap.objs.size ys _ h₃ _ (List.mem_of_getElem? hkv) hoC (by simp) F₃ N₃) (fun r s₄ x₄ => ?_) fun _ _ e => e
        obtain ⟨T, h₄, tk₄, vals, rfl, rfl, F₄, N₄, hT, hvI⟩ := x₄.ex
        have zI := (N₄ (I, oI) List.mem_cons_self).1
        have zC := (N₄ (H2.objs.size, oC) (List.mem_cons_of_mem _ List.mem_cons_self)).1
        have zD := (N₄ (s₂.heap.objs.size, LCg.lst ys) (List.mem_cons_of_mem _ (List.mem_cons_of_mem _ List.mem_cons_self))).1
        refine wpAny_pyIter_tuple hT ?_
        have up : ∀ b o, h₄.get? b = some o → (h₄.push { cls := .type "tuple_iterator", data := .fields #[.ref T, .int 0 0] }).get? b = some o := fun b o e => Heap.get?_push_of_some _ e
        obtain ⟨oT, heT, hcT, nT, hdT⟩ := id hT
        have hTlt := Heap.lt_size heT
        have hTD : T ≠ s₂.heap.objs.size := by
          rintro rfl
          rw [zD] at heT
          have heT' := Option.some.inj heT
          rw [← heT'] at hcT
          have : ("list" : String) = "tuple" := by injection hcT
          exact absurd this (by decide)
        have hTC : T ≠ H2.objs.size := by
          rintro rfl
          rw [zC] at heT
          obtain ⟨es, ep, hd, _⟩ := hoC
          rw [← Option.some.inj heT, hd] at hdT
          cases hdT
        have hlenV : ys.length + vals.length ≤ sizeLine := by
          have e1 : (ls.take (i + 1)).flatMap f = (ls.take i).flatMap f ++ f kv := by rw [List.take_add_one, hkv]; simp
          have e2 : ls = ls.take (i + 1) ++ ls.drop (i + 1) := (List.take_append_drop _ _).symm
          have e3 : (ls.flatMap f).length = ((ls.take (i + 1)).flatMap f).length + ((ls.drop (i + 1)).flatMap f).length := by
            conv => lhs; rw [e2]
            rw [List.flatMap_append, List.length_append]
          rw [e1, List.length_append, ← hyI.length, ← hvI.length] at e3
          omega
        refine kn_inner (s := { s₂ with heap := h₄.push _, toks := _ }) (A := A.mark none) (I := h₄.objs.size) (T := T) (C := H2.objs.size) (D := s₂.heap.objs.size) (vals := vals) (ys := ys) hh (hT.push _) ⟨_, Heap.get?_push_size _ rfl, rfl, rfl⟩ (Nat.ne_of_lt hTlt) (up _ _ zD) (hoC.ns (up _ _ zC)) hDC hTD hTC (Nat.ne_of_gt (Heap.lt_size zD)) (Nat.ne_of_gt (Heap.lt_size zC)) hkind hy hyd hlenV ?_
        intro h₅ tk₅ m₅ hD₅ hC₅ keep₅
        have keep₅' : ∀ b o, b ≠ H2.objs.size → b ≠ s₂.heap.objs.size → h₄.get? b = some o → h₅.get? b = some o := fun b o h2 h3 e => keep₅ b o (Nat.ne_of_lt (Heap.lt_size e)) h2 h3 (up _ _ e)
        refine ⟨rfl, vs.length + 1 - (i + 1), by omega, h₅, tk₅, i + 1, ys ++ vals, m₅, rfl, hlt, rfl, ?_, ⟨oI, keep₅' _ _ hCI hDI zI, rI⟩, ?_, hC₅, fun p hp => ?_⟩
        · rw [List.take_add_one, hkv]
          have e1 : (ls.take i ++ (some kv).toList).flatMap f = (ls.take i).flatMap f ++ f kv := by simp
          rw [e1]
          exact hyI.append hvI
        · exact ⟨F₄.ns.at' fun o e => keep₅' _ o (Ne.symm hCL) (Ne.symm hDL) e, fun b o e => keep₅' b o (fun q => by rw [q, hC₀] at e; cases e) (fun q => by rw [q, hD₀] at e; cases e) (F₄.keep b o e), F₄.above⟩
        · rcases List.mem_cons.mp hp with rfl | hp
          · exact ⟨hD₅, hDL, hD₀⟩
          · have z := N₄ p (List.mem_cons_of_mem _ (List.mem_cons_of_mem _ (List.mem_cons_of_mem _ hp)))
            exact ⟨keep₅' _ _ (newsC p hp) (newsD p hp) z.1, z.2⟩
      · have hin : i = vs.length := Nat.le_antisymm hi (Nat.not_lt.mp hlt)
        subst hin
        rw [hI.length, List.take_length] at hyI
        refine W.done _ _ _ (by simpa using And.intro hst' hax') fun h₂ tk₂ hk₂ => ?_
        refine hRR _ _ h₂ tk₂ _ ys (LCg.fr_but F' hk₂ hLI hI₀) (LCg.news_but N' hk₂ fun p hp => ?_) (AllNe.of newsD) (hn'.at' fun o e => hk₂ _ o (by simpa using Ne.symm hCI) e) hC₀ hD₀ hCL hDL (Ne.symm hDC) newsC hyI
        rcases List.mem_cons.mp hp with rfl | hp
        · exact Ne.symm hDI
        · exact off p hp
    · rcases List.mem_cons.mp hp with rfl | hp
      · exact ⟨hacc, hDL, hD₀⟩
      · exact ⟨old _ _ (N p hp).1, (N p hp).2⟩
  exact codeAny_compStart_list (loop _ rfl) (wpAny_pyIter_listiter (hit.at fun o e => old _ o e) (loop _ rfl))

def NestAtM (prog : Program) (w : World) (A : Around) (h₀ : Heap) (L : Addr) (m : PySem.Str → Option Value) (env : Env) (x : PySem.Str) (i2 : PySem.Expr) (scope : PySem.Scope) (cl : List (PySem.Str × Addr)) (Q : Value → Shared → Prop) (xv : Value) (s₁ : Shared) : Prop :=
  ∃ ax vs nv ls news f, xv = .ref ax ∧ A.handled = none ∧ Fr h₀ L s₁.heap m ∧ News h₀ L s₁.heap news ∧ (ax, listOf vs.toArray nv) ∈ news ∧ IntsAre vs ls ∧ (ls.flatMap f).length ≤ sizeLine ∧
      (∀ (k : Int) (t : Tok) (I : Addr) (oI : Obj) (C : Addr) (oC : Obj) (D : Addr) (ys : List Value) (m₂ : PySem.Str → Option Value) (h : Heap) (tk : Nat), k ∈ ls → LCg.NsObj oC m₂ → m₂ x = some (.int k t) → Fr h₀ L h m → News h₀ L h ((I, oI) :: (C, oC) :: (D, LCg.lst ys) :: news) →
        wpAny (model prog w) A (eval i2 (compEnvC scope cl C env)) (NestEnd h₀ L m { s₁ with heap := h, toks := tk } I oI C oC D ys news (f k)) (fun _ _ => False) { s₁ with heap := h, toks := tk }) ∧
      (∀ D ys, AllNe D news → IntsAre ys (ls.flatMap f) → ∀ h tk, Fr h₀ L h m → News h₀ L h ((D, LCg.lst ys) :: news) → Q (.ref D) { s₁ with heap := h, toks := tk })
theorem ListComp_nest {x y : PySem.Str} {px py pe : Pos} {i1 i2 : PySem.Expr} {pos : Pos} {Q : Value → Shared → Prop} (_F : Fr h₀ L s.heap m)
    (hclos : closureFor scope env = pure cl) (hcell : ∀ y ∈ scope.names, y.2 ≠ .cell) (hkind : scope.kind = .function)
    (hnames : ∀ y ∈ scope.names, y.2 = .local → scope.names.lookup y.1 = some .local) (hx : scope.names.lookup x = some .local) (hy : scope.names.lookup y = some .local) (hyd : (y == ("__debug__" : PySem.Str)) = false)
    (hs1 : ∀ x, foldedSetIterable i1 env x = pure x) (hs : ∀ e, ∀ C, foldedSetIterable i2 (compEnvC scope cl C env) e = pure e)
    (h : wpAny (model prog w) A (eval i1 env) (NestAtM prog w A h₀ L m env x i2 scope cl Q) E s) :
    wpAny (model prog w) A (eval (.ListComp (.Name y pe) [⟨.Name x px, i1, [], 0⟩, ⟨.Name y py, i2, [], 0⟩] scope pos) env) Q E s := by
  rw [eval_ListComp]
  refine wpAny_comprehension_free (use := none) rfl hs1 hclos hkind hnames (wpAny_mono h (fun xv s₁ h₁ => ?_) fun _ _ e => e)
  obtain ⟨ax, vs, nv, ls, news, f, rfl, hh, F, N, hax, hI, hsz, turn, fin⟩ := h₁
  have hl := News.isList N hax
  refine wpAny_pyIter_list hl ?_
  refine nest_block (s₂ := { s₁ with heap := s₁.heap.push _ }) (I := s₁.heap.objs.size) (ax := ax) (vs := vs) (ls := ls) (f := f) (news := news) hh ⟨_, Heap.get?_push_size _ rfl, rfl, rfl⟩ hax hI hcell hkind hx hy hyd hs (F.push _) (fun p hp => ⟨Heap.get?_push_of_some _ (N p hp).1, (N p hp).2⟩) (Nat.ne_of_lt F.ns.lt) (next_is_new F) (fun p hp => Nat.ne_of_lt (Heap.lt_size (N p hp).1)) hsz turn ?_
  intro D C h' tk m' ys F' N' o1 hn hC₀ hD₀ hCL hDL hCD offC hyI
  refine ⟨m', hn, fun h'' hs'' => fin D ys o1 hyI h'' tk (F'.change hs'' hCL hC₀) (fun p hp => ?_)⟩
  refine ⟨hs''.extBut _ _ ?_ (N' p hp).1, (N' p hp).2⟩
  rcases List.mem_cons.mp hp with rfl | hp
  · exact Ne.symm hCD
  · exact offC p hp
end
section
variable {prog : Program} {w : World} {A : Around} {E : Value → Shared → Prop} {s : Shared} {env : Env} {h₀ : Heap} {xi xc : PySem.Str} {body : List Stmt} {Q : Flow → Shared → Prop} {m₀ : PySem.Str → Option Value}
abbrev pairM (xi xc : PySem.Str) (v0 v1 : Option Value) (ps : List (PySem.Str × Value)) (m₀ : PySem.Str → Option Value) : PySem.Str → Option Value :=
  fun y => if y = xc then v1 else if y = xi then v0 else kstB m₀ ps y
structure EnumEnd {σ : Type} (h₀ : Heap) (L : Addr) (xi xc : PySem.Str) (ps : σ → List (PySem.Str × Value)) (m₀ : PySem.Str → Option Value) (P : σ → Prop) (K : List (Addr × Obj)) (s₁ : Shared) (f : Flow) (s₂ : Shared) : Prop where
  ex : f = .next ∧ ∃ h' tk m', s₂ = { s₁ with heap := h', toks := tk } ∧ Fr h₀ L h' m' ∧ News h₀ L h' K ∧ ∃ c, (∀ p ∈ ps c, m' p.1 = some p.2) ∧ (∀ z, z ≠ xc → z ≠ xi → (∀ p ∈ ps c, z ≠ p.1) → m' z = m₀ z) ∧ P c
theorem pairM_eq {m₁ m₀ : PySem.Str → Option Value} {ps : List (PySem.Str × Value)} (h1 : ∀ p ∈ ps, m₁ p.1 = some p.2) (h2 : ∀ z, z ≠ xc → z ≠ xi → (∀ p ∈ ps, z ≠ p.1) → m₁ z = m₀ z) (v0 v1 : Option Value) :
    pairM xi xc v0 v1 ps m₀ = fun y => if y = xc then v1 else if y = xi then v0 else m₁ y := by
  funext y
  unfold pairM
  by_cases e1 : y = xc
  · rw [if_pos e1, if_pos e1]
  · rw [if_neg e1, if_neg e1]
    by_cases e2 : y = xi
    · rw [if_pos e2, if_pos e2]
    · rw [if_neg e2, if_neg e2]
      exact kstB_eq h1 fun hz => (h2 y e1 e2 hz).symm

theorem kfor_enum {σ : Type} {l : Addr} {vs : List Value} {nn : Nat} (news : List (Addr × Obj)) (ps : σ → List (PySem.Str × Value)) (P : Nat → σ → Prop) (c₀ : σ)
    (hh : A.handled = none) (hl : (l, listOf vs.toArray nn) ∈ news) (F : Fr h₀ env.locals s.heap m₀) (N : News h₀ env.locals s.heap news) (hk : ∀ p ∈ ps c₀, m₀ p.1 = some p.2) (hp : P 0 c₀)
    (turn : ∀ (i : Nat) (c : σ) (t : Tok) (v : Value) (h : Heap) (tk : Nat) (K : List (Addr × Obj)), vs[i]? = some v → P i c → (∀ p ∈ news, p ∈ K) → Fr h₀ env.locals h (pairM xi xc (some (.int i t)) (some v) (ps c) m₀) → News h₀ env.locals h K →
      wpAny (model prog w) A (execs body env) (EnumEnd h₀ env.locals xi xc ps m₀ (P (i + 1)) K { s with heap := h, toks := tk }) E { s with heap := h, toks := tk })
    (done : ∀ (c : σ) (v0 v1 : Option Value) (h : Heap) (tk : Nat), P vs.length c → Fr h₀ env.locals h (pairM xi xc v0 v1 (ps c) m₀) → News h₀ env.locals h news → Q .next { s with heap := h, toks := tk }) :
    wpAny (model prog w) A (call (.type "enumerate") [.ref l]) (fun xv s₁ => wpAny (model prog w) A (pyIter xv) (fun it s₂ => PairAt3 prog w A h₀ env xi xc body Q E it s₂) E s₁) E s := by
  have hls := News.isList N hl
  have hLs : env.locals < s.heap.objs.size := F.ns.lt
  have hab : h₀.objs.size ≤ env.locals := F.above
  have hlt : l < s.heap.objs.size := by obtain ⟨_, e, _⟩ := hls; exact Heap.lt_size e
  have hlL : env.locals ≠ l := (N _ hl).2.1.symm
  refine call_enumerate_list hls fun h' he hit hsz hk' => ?_
  refine wpAny_pyIter_enum he ?_
  have W := WalksT.enumerate (prog := prog) (w := w) hh (s.heap.objs.size + 1) s.heap.objs.size l (Nat.succ_ne_self _) (Nat.ne_of_lt (Nat.lt_succ_of_lt hlt)) (Nat.ne_of_lt hlt) vs.toArray
  refine ⟨_, _, _, _, _, _, _, (fun i v0 v1 => ∃ t, v0 = .int i t ∧ vs[i]? = some v1), m₀, news, (fun i m nw => nw = news ∧ ∃ c, (∀ p ∈ ps c, m p.1 = some p.2) ∧ (∀ z, z ≠ xc → z ≠ xi → (∀ p ∈ ps c, z ≠ p.1) → m z = m₀ z) ∧ P i c), rfl, W, ?_, ?_, ?_, ?_, ⟨⟨_, he⟩, hit, hls.at fun o e => hk' _ o e⟩, F.keeps hk', (fun p hp => ⟨hk' _ _ (N p hp).1, (N p hp).2⟩), ⟨rfl, c₀, hk, fun _ _ _ _ => rfl, hp⟩, ?_, ?_⟩
  · rintro i vals ⟨t, x, hx, rfl⟩
    exact ⟨_, _, rfl, t, rfl, by simpa using hx⟩
  · intro hm
    simp only [List.mem_cons, List.not_mem_nil, or_false] at hm
    rcases hm with e | e | e
    · exact Nat.ne_of_lt (Nat.lt_succ_of_lt hLs) e
    · exact Nat.ne_of_lt hLs e
    · exact hlL e
  · intro b hb
    simp only [List.mem_cons, List.not_mem_nil, or_false] at hb
    rcases hb with rfl | rfl
    · exact Heap.get?_none_of_le (Nat.le_trans hab (Nat.le_of_lt (Nat.lt_succ_of_lt hLs)))
    · exact Heap.get?_none_of_le (Nat.le_trans hab (Nat.le_of_lt hLs))
  · intro p hp' hb
    have := Heap.lt_size (N p hp').1
    simp only [List.mem_cons, List.not_mem_nil, or_false] at hb
    rcases hb with e | e
    · exact Nat.ne_of_lt (Nat.lt_succ_of_lt this) e
    · exact Nat.ne_of_lt this e
  · rintro i v0 v1 m₁ news₁ s₁ own ⟨hh', tk, rfl⟩ hi ⟨t, rfl, hv⟩ ⟨rfl, c, h1, h2, hP⟩ _ hown F₁ N₁
    rw [← pairM_eq h1 h2 (some (.int i t)) (some v1)] at F₁
    refine wpAny_mono (turn i c t v1 hh' tk (own ++ news₁) hv hP (fun p hp => List.mem_append_right _ hp) F₁ N₁) (fun f s₂ x => ?_) fun _ _ e => e
    obtain ⟨rfl, h', tk', m', rfl, F', N', c', g1, g2, hP'⟩ := x.ex
    exact ⟨rfl, h', tk', m', news₁, rfl, F', N', rfl, rfl, c', g1, g2, hP'⟩
  · rintro h' tk m' news' F' N' _ ⟨rfl, c, h1, h2, hP⟩
    refine done c (m' xi) (m' xc) h' tk (by simpa using hP) ?_ N'
    rw [pairM_eq h1 h2]
    have : (fun y => if y = xc then m' xc else if y = xi then m' xi else m' y) = m' := by
      funext y
      by_cases e1 : y = xc
      · rw [if_pos e1, e1]
      · rw [if_neg e1]
        by_cases e2 : y = xi
        · rw [if_pos e2, e2]
        · rw [if_neg e2]
    rw [this]; exact F'
end
/-- what a loop's test must answer -/
structure WhTest (b want : Bool) (T : Prop) : Prop where
  ok : b = want
  go : T
section
variable {prog : Program} {w : World} {A : Around} {E : Value → Shared → Prop} {s : Shared} {env : Env} {h₀ : Heap} {L : Addr} {test : PySem.Expr} {body : List Stmt} {Q : Flow → Shared → Prop} {m₀ : PySem.Str → Option Value}
abbrev whileM (ps : List (PySem.Str × Value)) (stored : List PySem.Str) (u m₀ : PySem.Str → Option Value) : PySem.Str → Option Value := kstB (fun z => if stored.contains z then u z else m₀ z) ps
structure WhileEnd {σ : Type} (h₀ : Heap) (L : Addr) (Led : σ → List (Addr × Obj)) (ps : σ → List (PySem.Str × Value)) (stored : List PySem.Str) (m₀ : PySem.Str → Option Value) (P : σ → Prop) (s : Shared) (f : Flow) (s₃ : Shared) : Prop where
  ex : f = .next ∧ ∃ h' tk m₂ c, s₃ = { s with heap := h', toks := tk } ∧ Fr h₀ L h' m₂ ∧ News h₀ L h' (Led c) ∧ (∀ p ∈ ps c, m₂ p.1 = some p.2) ∧ (∀ z, (∀ p ∈ ps c, z ≠ p.1) → stored.contains z = false → m₂ z = m₀ z) ∧ P c
theorem kwhile {σ : Type} {pos : Pos} (n : Nat) (Led : σ → List (Addr × Obj)) (ps : σ → List (PySem.Str × Value)) (stored : List PySem.Str) (P : Nat → σ → Prop) (c₀ : σ)
    (F : Fr h₀ L s.heap m₀) (N : News h₀ L s.heap (Led c₀)) (hk : ∀ p ∈ ps c₀, m₀ p.1 = some p.2) (hp : P 0 c₀)
    (turn : ∀ (i : Nat) (c : σ) (u : PySem.Str → Option Value) (h : Heap) (tk : Nat), i < n → P i c → Fr h₀ L h (whileM (ps c) stored u m₀) → News h₀ L h (Led c) →
      wpAny (model prog w) A (isTrue test env (eval test env)) (fun b s₂ => WhTest b true (wpAny (model prog w) A (execs body env) (WhileEnd h₀ L Led ps stored m₀ (P (i + 1)) s) E s₂)) E { s with heap := h, toks := tk })
    (done : ∀ (c : σ) (u : PySem.Str → Option Value) (h : Heap) (tk : Nat), P n c → Fr h₀ L h (whileM (ps c) stored u m₀) → News h₀ L h (Led c) →
      wpAny (model prog w) A (isTrue test env (eval test env)) (fun b s₂ => WhTest b false (Q .next s₂)) E { s with heap := h, toks := tk })
    (hE : PassesOwn (model prog w) A env E := by passes_own) :
    wpAny (model prog w) A (exec (.While test body [] pos) env) Q E s := by
  refine While_inv2 (fun k m nw => ∃ i c, i ≤ n ∧ k = n - i ∧ nw = Led c ∧ (∀ p ∈ ps c, m p.1 = some p.2) ∧ (∀ z, (∀ p ∈ ps c, z ≠ p.1) → stored.contains z = false → m z = m₀ z) ∧ P i c) (n₀ := n) F N
    ⟨0, c₀, Nat.zero_le _, rfl, rfl, hk, fun _ _ _ => rfl, hp⟩ ?_ hE
  rintro k m nw h tk F₁ N₁ ⟨i, c, hi, rfl, rfl, h1, h2, hP⟩
  have em : whileM (ps c) stored m m₀ = m := by
    funext y
    exact kstB_eq h1 fun hz => by
      cases hst : stored.contains y with
      | true => simp
      | false => simp only [Bool.false_eq_true, if_false]; exact (h2 y hz hst).symm
  have F₂ : Fr h₀ L h (whileM (ps c) stored m m₀) := by rw [em]; exact F₁
  by_cases hlt : i < n
  · refine wpAny_mono (turn i c m h tk hlt hP F₂ N₁) (fun b s₂ x => ?_) fun _ _ e => e
    rw [x.ok, if_pos rfl]
    refine wpAny_mono x.go (fun f s₃ y => ?_) fun _ _ e => e
    obtain ⟨rfl, h', tk', m₂, c', rfl, F', N', g1, g2, hP'⟩ := y.ex
    exact ⟨h', tk', m₂, _, n - (i + 1), rfl, F', N', by omega, i + 1, c', hlt, rfl, rfl, g1, g2, hP'⟩
  · have hin : i = n := Nat.le_antisymm hi (Nat.not_lt.mp hlt)
    subst hin
    refine wpAny_mono (done c m h tk hP F₂ N₁) (fun b s₂ x => ?_) fun _ _ e => e
    rw [x.ok, if_neg Bool.false_ne_true]
    exact x.go
end
section
variable {prog : Program} {w : World} {A : Around} {E : Value → Shared → Prop} {s : Shared} {h₀ : Heap} {L D : Addr} {m : PySem.Str → Option Value} {news news' : List (Addr × Obj)}
theorem set_last {t : Tok} {vs : List Value} {v0 v : Value} {n : Nat} {Q : Unit → Shared → Prop} (F : Fr h₀ L s.heap m) (N : News h₀ L s.heap news) (U : Upd D (listOf (vs ++ [v0]).toArray n) (listOf (vs ++ [v]).toArray n) news news')
    (h : ∀ h', Fr h₀ L h' m → News h₀ L h' news' → Q () { s with heap := h' }) : wpAny (model prog w) A (setItem (.ref D) (.int (-1) t) v) Q E s := by
  obtain ⟨pre, post, rfl, rfl, a, b⟩ := U.split
  have z := N (D, listOf (vs ++ [v0]).toArray n) (List.mem_append.mpr (.inr (.head _)))
  refine ki_setBack z.1 (by decide) (by simp; omega) (by decide) (h _ (F.change (Heap.SameBut.update ..) z.2.1 z.2.2) (ki_turn _ N a b ?_ ?_))
  · show (vs ++ [v0]).toArray.setIfInBounds ((-1 : Int) + ((vs ++ [v0]).toArray.size : Int)).toNat v = (vs ++ [v]).toArray
    have e : ((-1 : Int) + ((vs ++ [v0]).toArray.size : Int)).toNat = vs.length := by simp; omega
    rw [e]
    apply Array.toList_inj.mp
    simp
  · simp
end
local macro_rules | `(tactic| k_mem) => `(tactic| k_extra "my mem")
local macro_rules | `(tactic| k_all) => `(tactic| k_extra "my all")
local macro_rules | `(tactic| is_list) => `(tactic| k_extra "my islist")
local macro_rules | `(tactic| k_ne) => `(tactic| k_extra "my kne")
local macro_rules | `(tactic| k_steps) => `(tactic| k_extra "my steps")
local macro_rules | `(tactic| walk_at $s:str) => `(tactic| k_extra $s)
local macro_rules | `(tactic| walk_at "my F") => `(tactic| (rename Fr _ _ _ _ => lF'))
theorem walk_words : True := by
  k_with "my mem" => first | assumption | exact List.mem_cons_self | (refine' List.mem_cons_of_mem _ ?_; k_mem)
  k_with "my all" => first | exact AllNe.mem (AllLt.ne (by assumption)) | exact AllNe.mem (by assumption) | assumption
  k_with "my islist" => exact News.isList (by k_asm) (by k_dflt k_mem)
  k_with "my kne" => (refine neN ?_; (try dsimp only); lia)
  k_with "my steps" => repeat' (first | (k_unfold; (try dsimp only)) | (k_end; wrow_close) | (dsimp only; walk1) | walk1 | (leave1; walk_say "STEP leave1"; try dsimp only) | fail "no step")
  k_with "binaryOp FloorDiv int int" => (k_here; k_dflt (refine' floordiv_int ?kb ?_ (Or.inr ?kp); (case kb => omega); (case kp => exact room (by k_asm) (by k_asm) (by omega) rfl rfl rfl rfl); k_whole))
  k_with "call builtin:len" => (k_here; (with_reducible show wpAny _ _ (call (Value.builtin _) [Value.ref _]) _ _ _); k_dflt (refine' len_ints_fit ?k1 ?k2 ?k3 ?_; (case k1 => is_list); (case k2 => assumption); (case k3 => omega); k_whole))
  k_with "execs cons" => (k_here; with_reducible refine execs_cons_gen ?_; intro _; dsimp only)
  k_with "binaryOp Pow int int" => (k_here; k_dflt (refine' pow_ten ?a ?_; (case a => assumption); k_whole))
  k_with "exec For Name Name cons nil" => (k_here; refine halt_of ?_)
  k_with "exec For Name Call cons nil" => (k_here; refine halt_of ?_)
  k_with "exec For Name Subscript cons nil" => (k_here; refine halt_of ?_)
  k_with "exec For Tuple Call cons nil" => (k_here; refine halt_of ?_)
  k_with "exec For Name Tuple cons nil" => (k_here; refine halt_of ?_)
  k_with "eval ListComp" => (k_here; refine halt_of ?_)
  k_with "exec Assign cons ListComp" => (k_here; refine halt_of ?_)
  k_with "exec While Compare cons nil" => (k_here; refine halt_of ?_)
  k_with "pyIter ref" => (k_here; (with_reducible show wpAny _ _ (pyIter _) (fun it s₂ => LoopAtV _ _ _ _ _ _ _ _ _ it s₂) _ _); refine halt_of ?_)
  k_with "pyIter bytes" => (k_here; (with_reducible show wpAny _ _ (pyIter _) (fun it s₂ => LoopAtV _ _ _ _ _ _ _ _ _ it s₂) _ _); refine halt_of ?_)
  k_with "my for" => (refine Halt.go ?_; (walk_at "my F"); (with_unfolding_all refine' For_invVF ‹Fr _ _ _ _› ?k1 ?k2 ?_; (case k1 => exact rfl); (case k2 => exact rfl); k_whole); k_steps; refine Halt.go ?_)
  k_with "call type:range" => (k_here; k_dflt (first
      | ((with_reducible show wpAny _ _ (call _ [_]) _ _ _); refine' range1_rows ?k1 ?k2 ?_; (case k1 => k_asm); (case k2 => k_asm))
      | ((with_reducible show wpAny _ _ (call _ [_, _]) _ _ _); refine' range2_rows ?k1 ?k2 ?_; (case k1 => k_asm); (case k2 => k_asm))
      | ((with_reducible show wpAny _ _ (call _ [_, _, _]) _ _ _); refine' range3_rows ?k1 ?k2 ?k3 ?_ (Or.inr ?k4); (case k1 => k_asm); (case k2 => k_asm); (case k3 => omega); (case k4 => exact room (by k_asm) (by k_asm) (by omega) rfl rfl rfl rfl))); intro _ _ _ _ _ _ _ _ _; (try k_sweep))
  k_with "my fr" => (intro z h1 h2 h3; (simp only [List.contains_cons, List.contains_nil, Bool.or_false, Bool.or_eq_false_iff, beq_eq_false_iff_ne, ne_eq, List.forall_mem_cons, List.not_mem_nil, false_implies, implies_true, and_true] at h1 h2 h3); simp [doneM, turnM, kstB, h1, h2, h3])
  k_with "my size" => (rw [sizeLine_eq]; (try simp only [List.size_toArray, List.length_append, List.length_cons, List.length_nil, Array.size_push]); omega)
  k_with "call builtin:list.append" => (k_here; (with_reducible show wpAny _ _ (call (Value.builtin _) [Value.ref _, _]) _ _ _); k_dflt (refine' append_K ?k1 ?k2 ?k3 ?_ ?z; (case k1 => k_asm); (case k2 => k_asm); (case k3 => k_upd); (case z => walk_at "my size"); k_whole); intro h' F' N'; (simp only [List.push_toArray] at N'); (try k_sweep); (revert h' F' N'); intro _ _ _)
  k_with "pyIter ref" => (k_here; (with_reducible show wpAny _ _ (pyIter _) (fun it s₂ => CompAtM _ _ _ _ _ _ _ _ _ _ _ _ it s₂) _ _); refine halt_of ?_)
  k_with "my comp" => (refine Halt.go ?_; (with_unfolding_all refine' ListComp_my ?k0 ?c1 ?c2 ?c3 ?c4 ?c5 ?c6 ?_; (case k0 => k_asm); (case c1 => exact rfl); (case c2 => decide); (case c3 => exact rfl); (case c4 => decide); (case c5 => exact rfl); (case c6 => exact fun _ => rfl); k_whole); k_steps; refine Halt.go ?_)
  k_with "eval Name" => (k_here; (with_reducible show wpAny _ _ (eval (Expr.Name _ _) (compEnvC _ _ _ _)) _ _ _); k_dflt (first
      | (refine' LCgL.ld_own ?k1 ?k2 ?k3 ?k4 ?_ ?k5 ?k6 ?k7; (case k5 => exact rfl); (case k6 => exact rfl); (case k7 => decide); (case k1 => k_asm); (case k3 => assumption); (case k2 => k_mem); (case k4 => assumption))
      | (refine' ld_cell ?k1 ?k2 ?k3 ?k4 ?_ ?k5 ?k6 ?k7; (case k5 => exact rfl); (case k6 => exact rfl); (case k7 => decide); (case k1 => k_asm); (case k2 => exact rfl); (case k3 => k_mem); (case k4 => assumption))
      | (refine' LCgL.ld_global ?k1 ?k2 ?k3 ?k4 ?_; (case k1 => k_asm); (case k2 => k_asm); (case k3 => k_asm); (case k4 => k_is))
      | (refine' LCgL.ld_built ?k1 ?k2 ?k3 ?k4 ?k5 ?k6 ?_; (case k1 => k_asm); (case k2 => k_asm); (case k3 => k_asm); (case k4 => k_is); (case k5 => boot_by_name); (case k6 => decide))))
  k_with "subscriptTail" => (k_here; (with_reducible show wpAny _ _ (subscriptTail _ _ (Value.bytes _ _) (Value.int _ _)) _ _ _); k_dflt (refine' KBw.item_K (ks := KBw.bInts _) rfl ?z ?a ?b ?_; (case z => (simp only [KBw.ints_length]; omega)); (case a => omega); (case b => (simp only [KBw.ints_length]; omega))); intro _ _ _ _)
  k_with "my for0" => (refine Halt.go ?_; (walk_at "my F"); (with_unfolding_all refine' For_invVF ‹Fr _ _ _ _› ?k1 ?k2 ?_; (case k1 => exact rfl); (case k2 => exact rfl); k_whole))
  k_with "binaryOp LShift int int" => (k_here; k_dflt (refine' lshift_int_small ?a ?b ?c ?_; (case a => omega); (case b => omega); (case c => first | assumption | omega)))
  k_with "my ps" => ((try dsimp only); first | exact List.forall_mem_nil _ | (refine List.forall_mem_cons.mpr ⟨?_, ?_⟩; (with_unfolding_all exact rfl); walk_at "my ps"))
  k_with "my ne" => ((try simp only [AllNe]); repeat' (first | assumption | (refine And.intro ?_ ?_) | (refine neN ?_; omega) | omega | exact AllLt.ne (by assumption) | exact True.intro | (simp only [AllNe] at *; omega) | (refine AllLt.ne ?_; assumption)))
  k_with "my end" => ((try dsimp only); refine ⟨_, _, _, _, rfl, by k_asm, by k_asm, ?_, ?_⟩; (walk_at "my ne"))
  k_with "call builtin:list.extend" => (k_here; (with_reducible show wpAny _ _ (call (Value.builtin _) [Value.ref _, Value.ref _]) _ _ _); k_dflt (refine' extend_my ?F ?N ?b ?e ?U ?z ?_; (case F => k_asm); (case N => k_asm); (case b => k_mem); (case U => k_upd); (case e => ((try simp only [List.length_cons, List.length_nil]); omega)); (case z => ((try simp only [List.length_cons, List.length_nil]); omega))); intro _ _ _; (try k_sweep))
  k_with "call ref" => (k_here; (first
      | (with_reducible show wpAny _ _ (call (Value.ref 78) _) _ _ _)
      | (with_reducible show wpAny _ _ (call (Value.ref 87) _) _ _ _)
      | (with_reducible show wpAny _ _ (call (Value.ref 92) _) _ _ _)
      | (with_reducible show wpAny _ _ (call (Value.ref 99) _) _ _ _)
      | (with_reducible show wpAny _ _ (call (Value.ref 106) _) _ _ _)
      | (with_reducible show wpAny _ _ (call (Value.ref 113) _) _ _ _)
      | (with_reducible show wpAny _ _ (call (Value.ref 120) _) _ _ _)
      | (with_reducible show wpAny _ _ (call (Value.ref 134) _) _ _ _)
      | (with_reducible show wpAny _ _ (call (Value.ref 141) _) _ _ _)
      | (with_reducible show wpAny _ _ (call (Value.ref 148) _) _ _ _)
      | (with_reducible show wpAny _ _ (call (Value.ref 167) _) _ _ _)
      | (with_reducible show wpAny _ _ (call (Value.ref 172) _) _ _ _)
      | (with_reducible show wpAny _ _ (call (Value.ref 179) _) _ _ _)
      | (with_reducible show wpAny _ _ (call (Value.ref 186) _) _ _ _)); refine halt_of ?_)
  k_with "call type:list" => (k_here; (with_reducible show wpAny _ _ (call (Value.type _) [Value.ref _]) _ _ _); k_dflt (refine' list_copyK ?k1 ?k2 ?k3 ?_ ?z; (case k1 => k_asm); (case k2 => k_asm); (case k3 => is_list); (case z => walk_at "my size")); intro D' c' h' F' N' l1; (replace l1 := allLt_of l1); (try simp only [AllLt] at l1); (try k_sweep); (revert D' c' h' F' N' l1); intro _ _ _ _ _ _)
  k_with "setItem ref int" => (k_here; (with_reducible show wpAny _ _ (setItem (Value.ref _) (Value.int _ _) (Value.int _ _)) _ _ _); k_dflt (refine' ksa_set ?k1 ?k2 ?k3 ?k4 ?k5 ?k6 ?k7 ?_; (case k1 => k_asm); (case k2 => k_asm); (case k3 => k_upd); (case k4 => assumption); (case k5 => omega); (case k6 => omega); (case k7 => omega)); intro _ _ _ _ _ _; (try k_sweep))
  k_with "subscriptTail" => (k_here; (with_reducible show wpAny _ _ (subscriptTail _ (Expr.Slice _ _ none _) (Value.bytes _ _) (Value.ref _)) _ _ _); k_dflt (refine' KBc.slice_K (s := ⟨_, _, _, _, _⟩) ?k1 ?k2 rfl ?k3 ?k4 ?k5 ?_; (case k1 => k_asm); (case k2 => k_asm); (case k3 => constructor); (case k4 => constructor); (case k5 => (rw [KBw.ints_length]; omega))); intro _ _ _ _ _ _; (try k_sweep))
  k_with "call type:list" => (k_here; (with_reducible show wpAny _ _ (call (Value.type _) [Value.bytes _ _]) _ _ _); k_dflt (refine' list_of_bytes ?k0 ?z ?k1 ?k2 ?_; (case k0 => exact rfl); (case z => first | omega | (refine Nat.le_trans (KBc.size_picked_le _ _ _) ?_; omega)); (case k1 => k_asm); (case k2 => k_asm)); intro D' ws' c' h' tk' F' N' l1 hW'; (try simp only [AllLt] at l1); (try k_sweep); (revert D' ws' c' h' tk' F' N' l1 hW'); intro _ _ _ _ _ _ _ _ _)
  k_with "binaryOp Add ref ref" => (k_here; refine halt_of ?_)
  k_with "call type:bytes" => (k_here; (with_reducible show wpAny _ _ (call (Value.type "bytes") [Value.ref _]) _ _ _); refine halt_of ?_)
  k_with "binaryOp Pow int int" => (k_here; (with_reducible show wpAny _ _ (binaryOp _ (Value.int (2 : Int) _) (Value.int _ _)) _ _ _); k_dflt (refine' pow_int_small ?a ?b ?c ?_; (case a => omega); (case b => omega); (case c => decide)))
  k_with "call type:zip" => (k_here; refine halt_of ?_)
  k_with "my pairs" => (refine Halt.go ?_; (walk_at "my F"); (with_unfolding_all refine' Assign_ListComp_pair ‹Fr _ _ _ _› ?c0 ?c1 ?c2 ?c3 ?c4 ?c5 ?c6 ?c7 ?c8 ?c9 ?c10 ?c11 ?_; (case c0 => exact rfl); (case c1 => exact rfl); (case c2 => exact rfl); (case c3 => decide); (case c4 => exact rfl); (case c5 => decide); (case c6 => exact rfl); (case c7 => exact rfl); (case c8 => decide); (case c9 => exact rfl); (case c10 => exact rfl); (case c11 => exact fun _ => rfl); k_whole))
  k_with "my nest" => (refine Halt.go ?_; (walk_at "my F"); (with_unfolding_all refine' ListComp_nest ‹Fr _ _ _ _› ?c1 ?c2 ?c3 ?c4 ?c5 ?c6 ?c7 ?c8 ?c9 ?_; (case c1 => exact rfl); (case c2 => decide); (case c3 => exact rfl); (case c4 => decide); (case c5 => exact rfl); (case c6 => exact rfl); (case c7 => decide); (case c8 => exact fun _ => rfl); (case c9 => exact fun _ _ => rfl); k_whole); k_steps)
  k_with "call type:enumerate" => (k_here; refine halt_of ?_)
  k_with "my forpair" => (refine Halt.go ?_; (walk_at "my F"); (with_unfolding_all refine' For_pair3F ‹Fr _ _ _ _› ?c1 ?c2 ?c3 ?c4 ?_ ?c5; (case c1 => exact rfl); (case c2 => exact rfl); (case c3 => exact rfl); (case c4 => exact rfl); (case c5 => exact fun _ => rfl); k_whole); k_steps)
  k_with "binaryOp Add bytes bytes" => (k_here; (with_reducible show wpAny _ _ (binaryOp Operator.Add (Value.bytes _ _) (Value.bytes _ _)) _ _ _); k_dflt (refine' KBa.add_K (ks := KBw.bInts _) (ls := KBw.bInts _) rfl rfl ?z ?_; (case z => ((simp only [KBw.ints_length, Array.size_append]); first | omega | (refine Nat.le_trans (Nat.add_le_add_left (KBc.size_picked_le _ _ _) _) ?_; omega)))); intro _ _ _)
  k_with "setItem ref int" => (k_here; (with_reducible show wpAny _ _ (setItem (Value.ref _) (Value.int (-1) _) _) _ _ _); k_dflt (refine' set_last ?F ?N ?U ?_; (case F => k_asm); (case N => k_asm); (case U => k_upd)); intro _ _ _; (try k_sweep))
  k_with "my while" => (refine Halt.go ?_)
  k_with "call type:bytes" => (k_here; (with_reducible show wpAny _ _ (call (Value.type "bytes") [Value.int _ _]) _ _ _); refine halt_of ?_)
  trivial
def Drawn (pn q : Addr) (many : Int) (k : Nat) (news : List (Addr × Obj)) (r : Value) (news' : List (Addr × Obj)) : Prop := ∃ d t ob', r = Value.int d t ∧ 0 ≤ d ∧ d < many ∧ PenIn q (k + 1) ob' ∧ news' = (pn, ob') :: news
theorem Fn.useD {w : World} {lv : Nat} {f : Addr} {args : List Value} {news : List (Addr × Obj)} {pn q : Addr} {ob : Obj} {many : Int} {k : Nat} (C : Fn w lv f args ((pn, ob) :: news) (Drawn pn q many k news))
    {mean : ExcName → Option Value} {mg mb : PySem.Str → Option Value} {A : Around} {env : Env} {outer : List Env} {A₀ : Around} {base h₀ : Heap} {L : Addr} {m : PySem.Str → Option Value} {s : Shared} {Q E : Value → Shared → Prop}
    (hh : A.handled = none) (hA : A.frames = some (env :: outer)) (hf : env.frame = some L) (hk : env.scope.kind = .function) (hd : A.depth + lv < 500) (hu : A.units + 4 * lv < 4000)
    (B : Below A₀ base outer h₀) (F : Fr h₀ L s.heap m) (X : (Mine.hd.heap_39 w.params).In h₀) (N : News h₀ L s.heap ((pn, ob) :: news)) (T : MyTop mean mg mb h₀)
    (h : ∀ (d : Int) (t : Tok) (ob' : Obj), 0 ≤ d → d < many → PenIn q (k + 1) ob' → ∀ h' tk', Fr h₀ L h' m → News h₀ L h' ((pn, ob') :: news) → Q (.int d t) { s with heap := h', toks := tk' }) :
    wpAny (model myProg w) A (call (.ref f) args) Q E s :=
  Fn.use C hh hA hf hk hd hu B F X N T fun r news' h' tk' F' N' P' => by obtain ⟨d, t, ob2, rfl, h0, h1, hp, rfl⟩ := P'; exact h d t ob2 h0 h1 hp h' tk' F' N'
set_option maxHeartbeats 8000000 in
theorem draw_spec (w : World) (pn q : Addr) (tm : Tok) (many : Int) (k : Nat) (ob : Obj) (nq : Nat) (vs : List Value) (ns : List Int) (news : List (Addr × Obj)) (hi : IntsAre vs ns) (hm : 1 ≤ many) (hp : PenIn q k ob) (hk9 : k < 1000)
    (hl : ns.length ≤ 63) (hd : ∀ x ∈ news, x.1 ≠ pn) (hq : (q, listOf vs.toArray nq) ∈ news) :
    Fn w 0 148 [.ref pn, .int many tm] ((pn, ob) :: news) (Drawn pn q many k news) := by
  obtain ⟨spot, carry, salt, t1, t2, t3, n, rfl, hs, hs2, hc, hsa, hsa2⟩ := hp
  obtain ⟨P, hP⟩ : ∃ P, Ten P := ⟨_, rfl⟩
  refine' fn_enter [((PySem.Str.ofString "pen"), .ref pn), ((PySem.Str.ofString "many"), .int many tm)] ?ho ?hcd ?hb ?hl ?h1 ?h2 ?h3 ?h4 ?_
  case ho => k_dflt k_is
  case hcd => k_dflt k_is
  case hb => exact fun s => BindsTo.of_eq rfl
  case hl => exact locs rfl
  case h1 => exact rfl
  case h2 => exact rfl
  case h3 => exact rfl
  case h4 => decide
  intro mean mg mb dp un gd outer A₀ base g L h s hdp hun B F N lo X T
  have hret := True.intro
  k_steps
  all_goals
    try dsimp only
    refine ⟨⟨_, _, _, _, rfl, by k_asm, by k_asm, ?_⟩⟩
    refine ⟨_, _, _, rfl, fmod_lo _ (by omega), fmod_hi _ (by omega), ⟨_, _, _, _, _, _, _, rfl, ?_, ?_, ?_, ?_, ?_⟩, rfl⟩
    all_goals first | omega | exact fdiv_nn (by omega) (by omega)
def samp (bits o : Int) (j : Nat) : Int := Builtin.bitAnd (o.fdiv (2 ^ (8 - bits * ((j : Int) + 1)).toNat)) (1 * 2 ^ bits.toNat - 1)
def sampL (bits : Int) (cnt : Nat) (row : List Int) : List Int := row.flatMap fun o => (List.range cnt).map (samp bits o)
theorem samp_eq (bits o : Int) (j : Nat) : samp bits o j = (o.fdiv (2 ^ (8 - bits * ((j : Int) + 1)).toNat)) % 2 ^ bits.toNat := by
  unfold samp; rw [Int.one_mul, kbt_mask]
theorem sampL_range {bits : Int} (hM : (1 : Int) ≤ 2 ^ bits.toNat) {cnt : Nat} {row : List Int} : ∀ x ∈ sampL bits cnt row, 0 ≤ x ∧ x < 2 ^ bits.toNat := by
  intro x hx
  obtain ⟨o, _, hx⟩ := List.mem_flatMap.mp hx
  obtain ⟨j, _, rfl⟩ := List.mem_map.mp hx
  rw [samp_eq]
  exact ⟨Int.emod_nonneg _ (by omega), Int.emod_lt_of_pos _ (by omega)⟩
theorem sampL_length (bits : Int) (cnt : Nat) (row : List Int) : (sampL bits cnt row).length = row.length * cnt := by
  induction row with
  | nil => simp [sampL]
  | cons a r ih => simp only [sampL, List.flatMap_cons, List.length_append, List.length_map, List.length_range, List.length_cons, Nat.add_mul] at *; omega
theorem sampL_snoc {bits : Int} {cnt : Nat} {ks : List Int} {i : Nat} {k : Int} (h : ks[i]? = some k) : sampL bits cnt (ks.take (i + 1)) = sampL bits cnt (ks.take i) ++ (List.range cnt).map (samp bits k) := by
  rw [List.take_add_one, h]; simp [sampL]
def s16 (ks : List Int) (i : Nat) : Int := 256 * ks.getD (2 * i) 0 + ks.getD (2 * i + 1) 0
set_option maxHeartbeats 8000000 in
theorem samples_spec (w : World) (row : Array UInt8) (tr tb : Tok) (bits : Int) (cnt : Nat) (news : List (Addr × Obj)) (hb0 : 1 ≤ bits) (hb8 : bits ≤ 8) (hcnt : Int.fdiv 8 bits = cnt) (hcb : bits * cnt ≤ 8) (hc8 : cnt ≤ 8) (hz : row.size ≤ 1000) :
    Fn w 0 92 [.bytes row tr, .int bits tb] news (NewList (sampL bits cnt (KBw.bInts row)) news) := by
  refine' fn_enterC [((PySem.Str.ofString "row"), .bytes row tr), ((PySem.Str.ofString "bits"), .int bits tb)] (fun y => if y = (PySem.Str.ofString "bits") then some (.int bits tb) else none) ?ho ?hcd ?hb ?hkd ?hnd ?hm ?h1 ?h2 ?h3 ?_
  case ho => k_dflt k_is
  case hcd => k_dflt k_is
  case hb => exact fun s => BindsTo.of_eq rfl
  case hkd => exact rfl
  case hnd => decide +kernel
  case hm => exact fun _ => rfl
  case h1 => exact rfl
  case h2 => exact rfl
  case h3 => exact rfl
  intro mean mg mb dp un gd outer A₀ base g L h s tk cells hdp hun B F N lo Y X T
  have lo2 := allLt_of lo
  k_cells Y
  simp only [List.cons_append, List.nil_append] at N
  have hret := True.intro
  k_steps
  (try (exfalso; omega))
  walk_at "my for"
  rename_i o1 d1 tk1 l1 hh1 lo1 hh2 F1 N1 tk3
  refine kfor_bytes (fun c : List Value × Nat => (l1, listOf c.1.toArray c.2) :: (L + 1, o1) :: news) (fun _ => []) [(PySem.Str.ofString "place")] (fun i c => IntsAre c.1 (sampL bits cnt ((KBw.bInts row).take i))) ([], 0) rfl F1 N1 (fun _ hp => nomatch hp) .nil ?_ ?_
  · intro i c k t u h tk I oI hi hk0 hk1 hP off F2 N2
    clear F1 N1
    simp only [AllNe] at off
    have hlen := hP.length
    have hlen2 := sampL_length bits cnt ((KBw.bInts row).take i)
    have hlen3 : ((KBw.bInts row).take i).length ≤ 1000 := by rw [List.length_take, KBw.ints_length]; omega
    have hlen4 := Nat.mul_le_mul hlen3 hc8
    k_steps
    walk_at "my for"
    rename_i hh3 tk4 r1 r2 r3 R3 F3 N3 G3
    rw [hcnt] at R3
    refine kfor_range cnt (fun j => (j : Int)) (by intros; omega) (fun c : List Value × Nat => (I, oI) :: (l1, listOf c.1.toArray c.2) :: (L + 1, o1) :: news) (fun _ => []) [] (fun j c => IntsAre c.1 (sampL bits cnt ((KBw.bInts row).take i) ++ (List.range j).map (samp bits k))) c rfl R3 (small_step (by omega) (by omega) (by omega) (by omega) (by omega) (by omega)) rsize_one F3 N3 (fun _ hp => nomatch hp) (by simpa using hP) ?_ ?_
    · intro j c t u h tk I2 oI2 hj hP off2 F4 N4
      clear F3 N3 G3
      simp only [AllNe] at off2
      have hsh : 0 ≤ 8 - bits * ((j : Int) + 1) := by
        have := Int.mul_le_mul_of_nonneg_left (show (j : Int) + 1 ≤ cnt by omega) (show 0 ≤ bits by omega)
        omega
      have hl1 : AllLt l1 news := lo1.2
      have hlen := hP.length
      simp only [List.length_append, List.length_map, List.length_range, hlen2] at hlen
      k_steps
      walk_at "my end"
      refine ⟨(c.1 ++ [_], _), rfl, by walk_at "my ps", by walk_at "my fr", ?_⟩
      rw [List.range_succ, List.map_append, ← List.append_assoc]
      exact ints_snoc hP
    · intro c u h tk hP F4 N4
      k_steps
      walk_at "my end"
      refine ⟨(c.1, _), rfl, by walk_at "my ps", by walk_at "my fr", ?_⟩
      rw [sampL_snoc hi]; exact hP
  · intro c u h tk hP F2 N2
    k_steps
    try dsimp only
    rw [List.take_length] at hP
    exact ⟨⟨_, _, _, _, rfl, F2, news_drop2 N2, ⟨l1, c.1, c.2, rfl, hP, AllLt.ne lo1.2, rfl⟩⟩⟩

set_option maxHeartbeats 8000000 in
theorem samples16_spec (w : World) (row : Array UInt8) (tr tb : Tok) (half : Nat) (news : List (Addr × Obj)) (hz : row.size = 2 * half) (hh : half ≤ 500) :
    Fn w 0 92 [.bytes row tr, .int 16 tb] news (NewList ((List.range half).map (s16 (KBw.bInts row))) news) := by
  refine' fn_enterC [((PySem.Str.ofString "row"), .bytes row tr), ((PySem.Str.ofString "bits"), .int 16 tb)] (fun y => if y = (PySem.Str.ofString "bits") then some (.int 16 tb) else none) ?ho ?hcd ?hb ?hkd ?hnd ?hm ?h1 ?h2 ?h3 ?_
  case ho => k_dflt k_is
  case hcd => k_dflt k_is
  case hb => exact fun s => BindsTo.of_eq rfl
  case hkd => exact rfl
  case hnd => decide +kernel
  case hm => exact fun _ => rfl
  case h1 => exact rfl
  case h2 => exact rfl
  case h3 => exact rfl
  intro mean mg mb dp un gd outer A₀ base g L h s tk cells hdp hun B F N lo Y X T
  have lo2 := allLt_of lo
  k_cells Y
  simp only [List.cons_append, List.nil_append] at N
  have hret := True.intro
  k_steps
  walk_at "my comp"
  rename_i o1 d1 tk0 tk1 hh1 tk2 r1 r2 r3 R1 F1 N1 G1
  refine kcomp_range half (fun i => 2 * (i : Int)) (by intros; omega) (fun i ys nw => IntsAre ys ((List.range i).map (s16 (KBw.bInts row))) ∧ nw = (L + 1, o1) :: news) rfl R1 (small_step (by omega) (by omega) (by omega) (by omega) (by omega) (by omega)) ?_ (by rw [sizeLine_eq]; omega) F1 N1 ⟨.nil, rfl⟩ ?_ ?_
  · unfold Builtin.Range.rangeSize; rw [if_pos (by omega)]; split <;> omega
  · intro i ys nw t I oI C oC D m₂ h tk hi hJ hC hx F2 N2 n1 n2 n3 n4 n5 n6
    obtain ⟨hJ, rfl⟩ := hJ
    clear F1 N1 G1
    try dsimp only
    k_steps
    try dsimp only
    refine ⟨⟨_, _, _, rfl, F2, N2, n1, n2, n3, ?_, rfl⟩⟩
    rw [List.range_succ, List.map_append]
    have e : s16 (KBw.bInts row) i = 256 * (KBw.bInts row).getD (2 * (i : Int)).toNat 0 + (KBw.bInts row).getD (2 * (i : Int) + 1).toNat 0 := by
      unfold s16
      rw [show (2 * (i : Int)).toNat = 2 * i by omega, show (2 * (i : Int) + 1).toNat = 2 * i + 1 by omega]
    rw [List.map_cons, List.map_nil, e]
    exact ints_snoc hJ
  · intro ys nw D h tk hJ F2 N2 n1
    obtain ⟨hJ, rfl⟩ := hJ
    try dsimp only
    exact ⟨⟨_, _, _, _, rfl, F2, news_drop2 N2, ⟨D, ys, _, rfl, hJ, n1.2, rfl⟩⟩⟩
def fold8 (bits : Int) (ls : List Int) : Int := ls.foldl (fun t x => t * 2 ^ bits.toNat + x) 0
def chunk (cnt : Nat) (ls : List Int) (i : Nat) : List Int := (ls.drop (i * cnt)).take cnt
def octL (bits : Int) (cnt : Nat) (q : Nat) (ls : List Int) : List Int := (List.range q).map fun i => fold8 bits (chunk cnt ls i)
theorem fold8_snoc (bits : Int) (ls : List Int) (x : Int) : fold8 bits (ls ++ [x]) = fold8 bits ls * 2 ^ bits.toNat + x := by simp [fold8, List.foldl_append]
theorem pow_le_256 {bits : Int} (h0 : 1 ≤ bits) (h8 : bits ≤ 8) : (1 : Int) ≤ 2 ^ bits.toNat ∧ (2 : Int) ^ bits.toNat ≤ 256 := by
  have : bits.toNat ∈ List.range 9 := List.mem_range.mpr (by omega)
  revert this
  generalize bits.toNat = k
  intro h
  have all : ∀ k ∈ List.range 9, (1 : Int) ≤ 2 ^ k ∧ (2 : Int) ^ k ≤ 256 := by decide
  exact all k h
theorem fold8_bound {bits : Int} (h0 : 1 ≤ bits) (h8 : bits ≤ 8) : ∀ (n : Nat) (ls : List Int), ls.length = n → (∀ x ∈ ls, 0 ≤ x ∧ x < 256) → 0 ≤ fold8 bits ls ∧ fold8 bits ls ≤ 256 ^ n - 1 := by
  intro n
  induction n with
  | zero => intro ls h _; cases ls with
    | nil => simp [fold8]
    | cons => cases h
  | succ n ih =>
    intro ls h hr
    obtain ⟨ys, x, rfl⟩ : ∃ ys x, ls = ys ++ [x] := by
      rcases List.eq_nil_or_concat ls with e | ⟨ys, x, e⟩
      · rw [e] at h; cases h
      · exact ⟨ys, x, by rw [e, List.concat_eq_append]⟩
    rw [List.length_append, List.length_singleton] at h
    obtain ⟨i1, i2⟩ := ih ys (by omega) (fun y hy => hr y (List.mem_append_left _ hy))
    obtain ⟨p1, p2⟩ := pow_le_256 h0 h8
    obtain ⟨x1, x2⟩ := hr x (by simp)
    rw [fold8_snoc]
    have q1 := Int.mul_nonneg i1 (show (0 : Int) ≤ 2 ^ bits.toNat by omega)
    have q2 := Int.mul_le_mul i2 p2 (by omega) (show (0 : Int) ≤ 256 ^ n - 1 by omega)
    have e : (256 : Int) ^ (n + 1) = 256 ^ n * 256 := Int.pow_succ ..
    have e2 : ((256 : Int) ^ n - 1) * 256 = 256 ^ n * 256 - 256 := by rw [Int.sub_mul]; rfl
    omega
theorem fold8_small {bits : Int} (h0 : 1 ≤ bits) (h8 : bits ≤ 8) {ls : List Int} (h : ls.length ≤ 8) (hr : ∀ x ∈ ls, 0 ≤ x ∧ x < 256) : (fold8 bits ls).natAbs < 2 ^ 64 := by
  obtain ⟨a, b⟩ := fold8_bound h0 h8 ls.length ls rfl hr
  have all : ∀ k ∈ List.range 9, (256 : Int) ^ k ≤ 18446744073709551616 := by decide
  have := all ls.length (List.mem_range.mpr (by omega))
  omega
theorem chunk_eq {cnt : Nat} {ls : List Int} {q i : Nat} (hq : ls.length = q * cnt) (hi : i < q) : List.take (min ((i : Int) * cnt + cnt).toNat ls.length - ((i : Int) * cnt).toNat) (List.drop ((i : Int) * cnt).toNat ls) = chunk cnt ls i := by
  have e1 : ((i : Int) * cnt).toNat = i * cnt := by rw [← Int.natCast_mul]; rfl
  have e2 : ((i : Int) * cnt + cnt).toNat = i * cnt + cnt := by rw [← Int.natCast_mul, ← Int.natCast_add]; rfl
  have h1 := Nat.mul_le_mul_right cnt (show i + 1 ≤ q from hi)
  rw [Nat.add_mul, Nat.one_mul] at h1
  rw [e1, e2, hq, Nat.min_eq_left h1]
  unfold chunk
  congr 1
  omega
theorem chunk_len {cnt : Nat} {ls : List Int} {q i : Nat} (hq : ls.length = q * cnt) (hi : i < q) : (chunk cnt ls i).length = cnt := by
  have h1 := Nat.mul_le_mul_right cnt (show i + 1 ≤ q from hi)
  rw [Nat.add_mul, Nat.one_mul] at h1
  unfold chunk
  rw [List.length_take, List.length_drop]; omega
theorem chunk_mem {cnt : Nat} {ls : List Int} {i : Nat} {x : Int} (h : x ∈ chunk cnt ls i) : x ∈ ls := List.mem_of_mem_drop (List.mem_of_mem_take h)
theorem rsize_mul {q cnt : Nat} (h : 1 ≤ cnt) : Builtin.Range.rangeSize 0 ((q * cnt : Nat) : Int) cnt = q := by
  rw [rangeSize_pos (by omega) (by omega)]
  rw [show ((q * cnt : Nat) : Int) + (cnt : Int) - 1 = ((cnt : Int) - 1) + (q : Int) * cnt by push_cast; omega]
  rw [Int.add_mul_ediv_right _ _ (by omega), Int.ediv_eq_zero_of_lt (by omega) (by omega)]; omega
set_option maxHeartbeats 8000000 in
theorem octets_spec (w : World) (la : Addr) (tb : Tok) (bits : Int) (cnt q nl : Nat) (vs : List Value) (ls : List Int) (news : List (Addr × Obj)) (hb0 : 1 ≤ bits) (hb8 : bits ≤ 8) (hcnt : Int.fdiv 8 bits = cnt) (hc1 : 1 ≤ cnt) (hc8 : cnt ≤ 8)
    (hi : IntsAre vs ls) (hr : ∀ x ∈ ls, 0 ≤ x ∧ x < 256) (hq : ls.length = q * cnt) (hq2 : q ≤ 1000) (hm : (la, listOf vs.toArray nl) ∈ news) :
    Fn w 0 99 [.ref la, .int bits tb] news (NewList (octL bits cnt q ls) news) := by
  have hqc : q * cnt ≤ 1000 * 8 := Nat.mul_le_mul hq2 hc8
  refine' fn_enter [((PySem.Str.ofString "levels"), .ref la), ((PySem.Str.ofString "bits"), .int bits tb)] ?ho ?hcd ?hb ?hl ?h1 ?h2 ?h3 ?h4 ?_
  case ho => k_dflt k_is
  case hcd => k_dflt k_is
  case hb => exact fun s => BindsTo.of_eq rfl
  case hl => exact locs rfl
  case h1 => exact rfl
  case h2 => exact rfl
  case h3 => exact rfl
  case h4 => decide
  intro mean mg mb dp un gd outer A₀ base g L h s hdp hun B F N lo X T
  have hret := True.intro
  k_steps
  (try (exfalso; omega))
  walk_at "my for"
  rename_i tk2 tk3 hh0 tk4 l1 hh1 lo1 hh2 tk5 hh3 tk6 r1 r2 r3 R1 F1 N1 G1
  rw [hcnt] at F1 R1
  have lo9 : AllLt l1 news := allLt_of lo1
  refine kfor_range q (fun i => (i : Int) * cnt) (by intros; omega) (fun c : List Value × Nat => (l1, listOf c.1.toArray c.2) :: news) (fun _ => []) [(PySem.Str.ofString "total"), (PySem.Str.ofString "sample")] (fun i c => IntsAre c.1 (octL bits cnt i ls)) ([], 0) rfl R1 (small_step (by omega) (by omega) (by omega) (by omega) (by omega) (by omega)) (by rw [hq]; exact rsize_mul hc1) F1 N1 (fun _ hp => nomatch hp) .nil ?_ ?_
  · intro i c t u h tk I oI hi9 hP off F2 N2
    clear F1 N1 G1
    simp only [AllNe] at off
    have hnn : 0 ≤ (i : Int) * cnt := Int.mul_nonneg (by omega) (by omega)
    try dsimp only
    k_steps
    walk_at "my for"
    rename_i tk1 hh1 tk2 D' ws hh2 F3 N3 hI hC hL lo3
    rw [chunk_eq hq hi9] at hI
    clear hC hL
    have hcl := chunk_len hq hi9
    have hP1 := hP.length
    have hP2 : (octL bits cnt i ls).length = i := by simp [octL]
    refine kfor_list (fun c2 : Int × Tok => (D', listOf ws.toArray 0) :: (I, oI) :: (l1, listOf c.1.toArray c.2) :: news) (fun c2 => [((PySem.Str.ofString "total"), .int c2.1 c2.2)]) [] (fun j c2 => c2.1 = fold8 bits ((chunk cnt ls i).take j)) (0, _) rfl (fun _ _ _ => List.mem_cons_self) F3 N3 (by walk_at "my ps") rfl ?_ ?_
    · intro j c2 v u h tk I2 oI2 hv hj off2 F4 N4
      clear F3 N3 F2 N2
      simp only [AllNe] at off2
      obtain ⟨k, t9, rfl, hk⟩ := hI.at _ _ hv
      have hsm : c2.1.natAbs < 2 ^ 64 := by
        rw [hj]
        exact fold8_small hb0 hb8 (by rw [List.length_take]; omega) (fun x hx => hr x (chunk_mem (List.mem_of_mem_take hx)))
      try dsimp only
      k_steps
      walk_at "my end"
      refine ⟨(c2.1 * 2 ^ bits.toNat + k, _), rfl, by walk_at "my ps", by walk_at "my fr", ?_⟩
      try dsimp only
      rw [List.take_add_one, hk, hj, Option.toList_some, fold8_snoc]
    · intro c2 u h tk hj F4 N4
      clear F3 N3 F2 N2
      try dsimp only
      k_steps
      rename_i tk3 hh3 F5 N5
      have N6 := news_tail N5
      clear N5
      walk_at "my end"
      refine ⟨(c.1 ++ [_], _), rfl, by walk_at "my ps", by walk_at "my fr", ?_⟩
      have e : octL bits cnt (i + 1) ls = octL bits cnt i ls ++ [fold8 bits (chunk cnt ls i)] := by simp [octL, List.range_succ]
      rw [e]
      rw [hI.length, List.take_length] at hj
      rw [← hj]
      exact ints_snoc hP
  · intro c u h tk hP F2 N2
    try dsimp only
    k_steps
    try dsimp only
    exact ⟨⟨_, _, _, _, rfl, F2, N2, ⟨l1, c.1, c.2, rfl, hP, AllLt.ne lo9, rfl⟩⟩⟩
def octL16 (ls : List Int) : List Int := ls.flatMap fun x => [x.fdiv 256, x.fmod 256]
theorem octL16_len (ls : List Int) : (octL16 ls).length = 2 * ls.length := by
  induction ls with
  | nil => rfl
  | cons a r ih => simp only [octL16, List.flatMap_cons, List.length_append, List.length_cons, List.length_nil] at *; omega
set_option maxHeartbeats 8000000 in
theorem octets16_spec (w : World) (la : Addr) (tb : Tok) (nl : Nat) (vs : List Value) (ls : List Int) (news : List (Addr × Obj)) 
    (hi : IntsAre vs ls) (hq2 : ls.length ≤ 1000) (hm : (la, listOf vs.toArray nl) ∈ news) :
    Fn w 0 99 [.ref la, .int 16 tb] news (NewList (octL16 ls) news) := by
  refine' fn_enter [((PySem.Str.ofString "levels"), .ref la), ((PySem.Str.ofString "bits"), .int 16 tb)] ?ho ?hcd ?hb ?hl ?h1 ?h2 ?h3 ?h4 ?_
  case ho => k_dflt k_is
  case hcd => k_dflt k_is
  case hb => exact fun s => BindsTo.of_eq rfl
  case hl => exact locs rfl
  case h1 => exact rfl
  case h2 => exact rfl
  case h3 => exact rfl
  case h4 => decide
  intro mean mg mb dp un gd outer A₀ base g L h s hdp hun B F N lo X T
  have hret := True.intro
  k_steps
  walk_at "my for"
  rename_i l1 hh1 lo1 hh2 F1 N1 tk1
  have lo9 : AllLt l1 news := allLt_of lo1
  refine kfor_list (fun c : List Value × Nat => (l1, listOf c.1.toArray c.2) :: news) (fun c => []) [] (fun j c => IntsAre c.1 (octL16 (ls.take j))) ([], 0) rfl (fun _ _ _ => List.mem_cons_of_mem _ hm) F1 N1 (by walk_at "my ps") .nil ?_ ?_
  · intro i c v u h tk I oI hv hP off F2 N2
    clear F1 N1
    simp only [AllNe] at off
    obtain ⟨k, t9, rfl, hk⟩ := hi.at _ _ hv
    have hP1 := hP.length
    rw [octL16_len, List.length_take] at hP1
    try dsimp only
    k_steps
    rename_i tk1 tk2 l2 hh2 lo2 hh3 F3 N3
    have N4 := news_tail N3
    clear N3
    walk_at "my end"
    refine ⟨(c.1 ++ [_, _], _), rfl, by walk_at "my ps", by walk_at "my fr", ?_⟩
    have e : octL16 (ls.take (i + 1)) = octL16 (ls.take i) ++ [k.fdiv 256, k.fmod 256] := by
      rw [List.take_add_one, hk]; simp [octL16]
    rw [e]
    exact hP.append (.cons _ _ (.cons _ _ .nil))
  · intro c u h tk hP F2 N2
    rw [hi.length, List.take_length] at hP
    try dsimp only
    k_steps
    try dsimp only
    exact ⟨⟨_, _, _, _, rfl, F2, N2, ⟨l1, c.1, c.2, rfl, hP, AllLt.ne lo9, rfl⟩⟩⟩
def turnL (ud : Bool) (M : Int) (c : Nat) (ls : List Int) : Nat → List Int
  | 0 => ls
  | k + 1 => (turnL ud M c ls k).set (c + k) (if ud then (ls.getD (c + k) 0 + (turnL ud M c ls k).getD k 0).fmod M else (ls.getD (c + k) 0 - ls.getD k 0).fmod M)
theorem turnL_len (ud : Bool) (M : Int) (c : Nat) (ls : List Int) : ∀ k, (turnL ud M c ls k).length = ls.length
  | 0 => rfl
  | k + 1 => by rw [turnL, List.length_set, turnL_len]
theorem turnL_range (ud : Bool) {M : Int} (hM : 1 ≤ M) (c : Nat) {ls : List Int} (h : ∀ x ∈ ls, 0 ≤ x ∧ x < M) : ∀ k, ∀ x ∈ turnL ud M c ls k, 0 ≤ x ∧ x < M
  | 0, x, hx => h x hx
  | k + 1, x, hx => by
    rw [turnL] at hx
    rcases List.mem_or_eq_of_mem_set hx with hx | rfl
    · exact turnL_range ud hM c h k x hx
    · split <;> exact ⟨fmod_lo _ (by omega), fmod_hi _ (by omega)⟩
set_option maxHeartbeats 8000000 in
/-- the row turned, whatever the depth: `as` its samples, `res` the octets of what the turning makes of them -/
theorem turned_gen (w : World) (row : Array UInt8) (tr : Tok) (sx : Addr) (colors columns : Nat) (bits ro po : Int) (q nn : Nat) (as res : List Int) (ud : Bool) (news : List (Addr × Obj)) (hs : ShapeIs news sx colors bits columns ro po)
    (hb0 : 1 ≤ bits) (hb16 : bits ≤ 16) (hz : row.size ≤ 500) (hq : as.length = q) (hq2 : q ≤ 4000) (hco : 1 ≤ colors) (hco3 : colors ≤ 3) (hcc : colors * columns ≤ 15) (hnn : min (colors * columns) q - colors = nn)
    (hS : ∀ (tb : Tok) (nw : List (Addr × Obj)), Fn w 0 92 [.bytes row tr, .int bits tb] nw (NewList as nw))
    (hO : ∀ (la : Addr) (tb : Tok) (nl : Nat) (vs : List Value) (nw : List (Addr × Obj)), IntsAre vs (turnL ud (1 * 2 ^ bits.toNat) colors as nn) → (la, listOf vs.toArray nl) ∈ nw → Fn w 0 99 [.ref la, .int bits tb] nw (NewList res nw))
    (hres : res.length = row.size) :
    Fn w 1 106 [.bytes row tr, .ref sx, .bool ud] news (NewList res news) := by
  obtain ⟨sd, h1, h2, h3, h4, h5, k1, k2, k3, k4, k5, t1, t2, t3, t4, t5, hsx, hsd⟩ := hs.ex
  unfold shapeDict at hsd
  refine' fn_enter [((PySem.Str.ofString "row"), .bytes row tr), ((PySem.Str.ofString "shape"), .ref sx), ((PySem.Str.ofString "is_undone"), .bool ud)] ?ho ?hcd ?hb ?hl ?h1 ?h2 ?h3 ?h4 ?_
  case ho => k_dflt k_is
  case hcd => k_dflt k_is
  case hb => exact fun s => BindsTo.of_eq rfl
  case hl => exact locs rfl
  case h1 => exact rfl
  case h2 => exact rfl
  case h3 => exact rfl
  case h4 => decide
  intro mean mg mb dp un gd outer A₀ base g L h s hdp hun B F N lo X T
  have hret := True.intro
  k_steps
  refine Halt.go ?_
  refine' Fn.useL (hS _ _) ?c1 ?c2 ?c3 ?c4 ?c5 ?c6 ?cB ?cF ?cX ?cN ?cT ?_
  case c1 => exact rfl
  case c2 => exact rfl
  case c3 => exact rfl
  case c4 => exact rfl
  case c5 => (first | exact dep hdp (Nat.le_of_ble_eq_true rfl) | (dsimp only; omega) | exact Nat.le_of_ble_eq_true rfl)
  case c6 => (first | exact dep4 hun (Nat.le_of_ble_eq_true rfl) | (dsimp only; omega) | exact Nat.le_of_ble_eq_true rfl)
  case cB => assumption
  case cF => k_asm
  case cX => assumption
  case cN => k_asm
  case cT => assumption
  intro l1 vs1 n1 hi1 ne1 h9 tk9 F9 N9
  try dsimp only
  have hl1 := hi1.length
  rw [hq] at hl1
  k_steps
  walk_at "my for"
  rename_i tk1 hh1 tk2 D' c' hh2 lo2 hhA tk3 hh3 tk4 hh4 tk5 r1 r2 r3 R1 F1 N1 G1
  rw [hq] at R1
  generalize hlim : (if (colors : Int) * columns < (q : Nat) then (colors : Int) * columns else (q : Nat)) = lim at R1
  have hlim2 : lim = ((min (colors * columns) q : Nat) : Int) := by
    rw [← hlim, ← Int.natCast_mul]; split <;> omega
  clear hlim
  have hlim0 : 0 ≤ lim := by omega
  have hlim9 : lim ≤ 15 := by omega
  have hM : (1 : Int) ≤ 2 ^ bits.toNat := Int.pow_pos (by decide)
  have hstep : Builtin.Range.rangeSize (colors : Int) lim 1 = (nn : Int) := by rw [rangeSize_one]; split <;> omega
  refine kfor_range nn (fun i => (colors : Int) + i) (fun i _ => by rw [Int.mul_one]) (fun c : List Value => (D', listOf c.toArray c') :: (l1, listOf vs1.toArray n1) :: news) (fun _ => []) [] (fun i c => IntsAre c (turnL ud (1 * 2 ^ bits.toNat) colors as i)) vs1 rfl R1 (small_step (by omega) (by omega) (by omega) (by omega) (by omega) (by omega)) hstep F1 N1 (by walk_at "my ps") hi1 ?_ ?_
  · intro i c t u h tk I oI hi9 hP off F2 N2
    clear F1 N1 G1 R1 hstep
    have hc15 : colors + i < 15 := by omega
    have hcq : colors + i < as.length := by omega
    clear hlim2 hlim0 hlim9 hnn hi9
    simp only [AllNe] at off
    have hP1 := hP.length
    have hP2 : (turnL ud (1 * 2 ^ bits.toNat) colors as i).length = as.length := turnL_len _ _ _ _ i
    try dsimp only
    cases ud
    · k_steps
      rename_i hI3 q1 q2
      walk_at "my end"
      refine ⟨c.set _ _, rfl, by walk_at "my ps", by walk_at "my fr", ?_⟩
      have e1 : ((colors : Int) + i).toNat = colors + i := by rw [← Int.natCast_add, Int.toNat_natCast]
      have e2 : ((colors : Int) + i - colors).toNat = i := by rw [show (colors : Int) + i - colors = i from by omega, Int.toNat_natCast]
      simp only [turnL, Bool.false_eq_true, if_false]
      rw [e1, e2] at hI3
      rw [e1, e2]
      exact hI3
    · k_steps
      rename_i hI3 q1 q2
      walk_at "my end"
      refine ⟨c.set _ _, rfl, by walk_at "my ps", by walk_at "my fr", ?_⟩
      have e1 : ((colors : Int) + i).toNat = colors + i := by rw [← Int.natCast_add, Int.toNat_natCast]
      have e2 : ((colors : Int) + i - colors).toNat = i := by rw [show (colors : Int) + i - colors = i from by omega, Int.toNat_natCast]
      simp only [turnL, if_true]
      rw [e1, e2] at hI3
      rw [e1, e2]
      exact hI3
  · intro c u h tk hP F2 N2
    clear F1 N1 G1 R1 hstep hlim2 hlim0 hlim9 hnn
    try dsimp only
    have hP1 := hP.length
    rw [turnL_len, hq] at hP1
    k_steps
    refine Halt.go ?_
    refine' Fn.useL (hO D' _ c' c _ hP ?hm) ?c1 ?c2 ?c3 ?c4 ?c5 ?c6 ?cB ?cF ?cX ?cN ?cT ?_
    case c1 => exact rfl
    case c2 => exact rfl
    case c3 => exact rfl
    case c4 => exact rfl
    case c5 => (first | exact dep hdp (Nat.le_of_ble_eq_true rfl) | (dsimp only; omega) | exact Nat.le_of_ble_eq_true rfl)
    case c6 => (first | exact dep4 hun (Nat.le_of_ble_eq_true rfl) | (dsimp only; omega) | exact Nat.le_of_ble_eq_true rfl)
    case cB => assumption
    case cF => k_asm
    case cX => assumption
    case cN => k_asm
    case cT => assumption
    case hm => k_mem
    intro l3 vs3 n3 hi3 ne3 h9 tk9 F9 N9
    have hl3 := hi3.length
    rw [hres] at hl3
    simp only [AllNe] at ne3
    try dsimp only
    k_steps
    rename_i tk3 hh3 tk4 hh4 t9 k9 hP9 D2 ws2 c2 hh5 tk5 F5 N5 lo5 hW5
    have e0 : KBw.bInts (KBy.picked row (some (res.length : Int)) none) = [] := by
      rw [hP9, hres]
      simp only [Option.elim, clipAt_nat, KBw.ints_length, Nat.min_self, Nat.sub_self, List.take_zero]
    rw [e0] at hW5
    refine Halt.go (kmk_add_ints F5 N5 (News.isList N5 (by k_mem)) (News.isList N5 (by k_mem)) hi3 hW5 ?_ (by rw [sizeLine_eq, hres]; show row.size + 0 ≤ _; omega))
    intro D3 us hh6 F6 N6 lo6 hU
    rw [List.append_nil] at hU
    have lo7 := allLt_of lo6
    simp only [AllLt] at lo7
    try dsimp only
    exact ⟨⟨_, _, _, _, rfl, F6, fun p hp => N6 p (by
      rcases List.mem_cons.mp hp with rfl | hp
      · exact List.mem_cons_self
      · exact List.mem_cons_of_mem _ (List.mem_cons_of_mem _ (List.mem_cons_of_mem _ (List.mem_cons_of_mem _ (List.mem_cons_of_mem _ hp))))), ⟨D3, us, _, rfl, hU, AllLt.ne lo7.2.2.2.2, rfl⟩⟩⟩
theorem turned_spec (w : World) (row : Array UInt8) (tr : Tok) (sx : Addr) (colors columns : Nat) (bits ro po : Int) (cnt : Nat) (ud : Bool) (news : List (Addr × Obj)) (hs : ShapeIs news sx colors bits columns ro po)
    (hb0 : 1 ≤ bits) (hb8 : bits ≤ 8) (hcnt : Int.fdiv 8 bits = cnt) (hcb : bits * cnt = 8) (hc1 : 1 ≤ cnt) (hc8 : cnt ≤ 8) (hz : row.size ≤ 500) (hco : 1 ≤ colors) (hco3 : colors ≤ 3) (hcl5 : columns ≤ 5) :
    Fn w 1 106 [.bytes row tr, .ref sx, .bool ud] news (NewList (octL bits cnt row.size (turnL ud (1 * 2 ^ bits.toNat) colors (sampL bits cnt (KBw.bInts row)) (min (colors * columns) (row.size * cnt) - colors))) news) := by
  have hsl := sampL_length bits cnt (KBw.bInts row)
  rw [KBw.ints_length] at hsl
  have hl2 : row.size * cnt ≤ 500 * 8 := Nat.mul_le_mul hz hc8
  refine turned_gen w row tr sx colors columns bits ro po _ _ (sampL bits cnt (KBw.bInts row)) _ ud news hs hb0 (by omega) hz hsl hl2 hco hco3 (Nat.mul_le_mul hco3 hcl5) rfl (fun tb nw => samples_spec w row tr tb bits cnt nw hb0 hb8 hcnt (by omega) hc8 (by omega))
    (fun la tb nl vs nw hi hm => octets_spec w la tb bits cnt row.size nl vs _ nw hb0 hb8 hcnt hc1 hc8 hi ?_ (by rw [turnL_len, hsl]) (by omega) hm) (by simp [octL])
  intro x hx
  have hM : (1 : Int) ≤ 2 ^ bits.toNat := (pow_le_256 hb0 hb8).1
  have h9 := turnL_range ud (M := 1 * 2 ^ bits.toNat) (by omega) colors (ls := sampL bits cnt (KBw.bInts row)) (by rw [Int.one_mul]; exact sampL_range hM) _ x hx
  have := (pow_le_256 hb0 hb8).2
  omega
theorem turned16_spec (w : World) (row : Array UInt8) (tr : Tok) (sx : Addr) (colors columns : Nat) (ro po : Int) (half : Nat) (ud : Bool) (news : List (Addr × Obj)) (hs : ShapeIs news sx colors 16 columns ro po)
    (hz : row.size = 2 * half) (hh : half ≤ 250) (hco : 1 ≤ colors) (hco3 : colors ≤ 3) (hcl5 : columns ≤ 5) :
    Fn w 1 106 [.bytes row tr, .ref sx, .bool ud] news (NewList (octL16 (turnL ud (1 * 2 ^ Int.toNat 16) colors ((List.range half).map (s16 (KBw.bInts row))) (min (colors * columns) half - colors))) news) := by
  have hsl : ((List.range half).map (s16 (KBw.bInts row))).length = half := by simp
  exact turned_gen w row tr sx colors columns 16 ro po half _ ((List.range half).map (s16 (KBw.bInts row))) _ ud news hs (by decide) (by decide) (by omega) hsl (by omega) hco hco3 (Nat.mul_le_mul hco3 hcl5) rfl (fun tb nw => samples16_spec w row tr tb half nw hz (by omega))
    (fun la tb nl vs nw hi hm => octets16_spec w la tb nl vs _ nw hi (by rw [turnL_len, hsl]; omega) hm) (by rw [octL16_len, turnL_len, hsl]; omega)
/-- values that are bytes, and what stands in them -/
def BytesAre (ys : List Value) (rs : List (List Int)) : Prop := ys.length = rs.length ∧ ∀ (i : Nat) (v : Value) (r : List Int), ys[i]? = some v → rs[i]? = some r → ∃ b t, v = Value.bytes b t ∧ KBw.bInts b = r
theorem bytesAre_nil : BytesAre [] [] := ⟨rfl, fun _ _ _ h _ => by simp at h⟩
theorem bytesAre_snoc {ys : List Value} {rs : List (List Int)} {b : Array UInt8} {t : Tok} {r : List Int} (h : BytesAre ys rs) (e : KBw.bInts b = r) : BytesAre (ys ++ [Value.bytes b t]) (rs ++ [r]) := by
  refine ⟨by simp [h.1], fun i v q hv hq => ?_⟩
  by_cases hi : i < ys.length
  · rw [List.getElem?_append_left hi] at hv
    rw [List.getElem?_append_left (by rw [← h.1]; exact hi)] at hq
    exact h.2 i v q hv hq
  · have hi2 : i = ys.length := by
      have := (List.getElem?_eq_some_iff.mp hv).1
      simp at this; omega
    subst hi2
    rw [List.getElem?_append_right (Nat.le_refl _)] at hv
    rw [h.1, List.getElem?_append_right (Nat.le_refl _)] at hq
    simp at hv hq
    subst hv hq
    exact ⟨b, t, rfl, e⟩
/-- a new list of bytes at the ledger's head -/
def NewBytesList (rs : List (List Int)) (news : List (Addr × Obj)) (r : Value) (news' : List (Addr × Obj)) : Prop := ∃ l vs n, r = .ref l ∧ BytesAre vs rs ∧ AllNe l news ∧ news' = (l, listOf vs.toArray n) :: news
theorem Fn.useLB {w : World} {lv : Nat} {f : Addr} {args : List Value} {news : List (Addr × Obj)} {rs : List (List Int)} (C : Fn w lv f args news (NewBytesList rs news))
    {mean : ExcName → Option Value} {mg mb : PySem.Str → Option Value} {A : Around} {env : Env} {outer : List Env} {A₀ : Around} {base h₀ : Heap} {L : Addr} {m : PySem.Str → Option Value} {s : Shared} {Q E : Value → Shared → Prop}
    (hh : A.handled = none) (hA : A.frames = some (env :: outer)) (hf : env.frame = some L) (hk : env.scope.kind = .function) (hd : A.depth + lv < 500) (hu : A.units + 4 * lv < 4000)
    (B : Below A₀ base outer h₀) (F : Fr h₀ L s.heap m) (X : (Mine.hd.heap_39 w.params).In h₀) (N : News h₀ L s.heap news) (T : MyTop mean mg mb h₀)
    (h : ∀ (l : Addr) (vs : List Value) (n : Nat), BytesAre vs rs → AllNe l news → ∀ h' tk', Fr h₀ L h' m → News h₀ L h' ((l, listOf vs.toArray n) :: news) → Q (.ref l) { s with heap := h', toks := tk' }) :
    wpAny (model myProg w) A (call (.ref f) args) Q E s :=
  Fn.use C hh hA hf hk hd hu B F X N T fun r news' h' tk' F' N' P' => by obtain ⟨l, vs, n, rfl, hi, ne, rfl⟩ := P'; exact h l vs n hi ne h' tk' F' N'
set_option maxHeartbeats 8000000 in
theorem rows_spec (w : World) (oc : Array UInt8) (to ts : Tok) (size rows : Nat) (news : List (Addr × Obj)) (hs1 : 1 ≤ size) (hs2 : size ≤ 100) (hr : rows ≤ 100) (hz : oc.size = rows * size) :
    Fn w 0 87 [.bytes oc to, .int size ts] news (NewBytesList ((List.range rows).map (chunk size (KBw.bInts oc))) news) := by
  have hrs : rows * size ≤ 100 * 100 := Nat.mul_le_mul hr hs2
  refine' fn_enterC [((PySem.Str.ofString "octets"), .bytes oc to), ((PySem.Str.ofString "size"), .int size ts)] (fun _ => none) ?ho ?hcd ?hb ?hkd ?hnd ?hm ?h1 ?h2 ?h3 ?_
  case ho => k_dflt k_is
  case hcd => k_dflt k_is
  case hb => exact fun s => BindsTo.of_eq rfl
  case hkd => exact rfl
  case hnd => decide +kernel
  case hm => exact fun _ => rfl
  case h1 => exact rfl
  case h2 => exact rfl
  case h3 => exact rfl
  intro mean mg mb dp un gd outer A₀ base g L h s tk cells hdp hun B F N lo Y X T
  have lo2 := allLt_of lo
  k_cells Y
  simp only [List.cons_append, List.nil_append] at N
  have hret := True.intro
  k_steps
  walk_at "my comp"
  rename_i o1 o2 d1 d2 tk1 hh1 tk2 r1 r2 r3 R1 F1 N1 G1
  refine kcomp_range rows (fun i => (i : Int) * size) (by intros; omega) (fun i ys nw => BytesAre ys ((List.range i).map (chunk size (KBw.bInts oc))) ∧ nw = (L + 1 + 1, o1) :: (L + 1, o2) :: news) rfl R1 (small_step (by omega) (by omega) (by omega) (by omega) (by omega) (by omega)) (by rw [hz]; exact rsize_mul hs1) (by rw [sizeLine_eq]; omega) F1 N1 ⟨bytesAre_nil, rfl⟩ ?_ ?_
  · intro i ys nw t I oI C oC D m₂ h tk hi hJ hC hx F2 N2 n1 n2 n3 n4 n5 n6
    obtain ⟨hJ, rfl⟩ := hJ
    clear F1 N1 G1
    try dsimp only
    k_steps
    rename_i hh3 t9 k9 F3 N3 hP3
    try dsimp only
    have hlen : (KBw.bInts oc).length = rows * size := by rw [KBw.ints_length]; exact hz
    have e0 : KBw.bInts (KBy.picked oc (some ((i : Int) * size)) (some ((i : Int) * size + size))) = chunk size (KBw.bInts oc) i := by
      rw [hP3, hlen]
      simp only [Option.elim]
      have h1 := Nat.mul_le_mul_right size (show i + 1 ≤ rows from hi)
      rw [Nat.add_mul, Nat.one_mul] at h1
      have c1 : clipAt (rows * size) ((i : Int) * size) = i * size := by rw [← Int.natCast_mul, clipAt_nat]; omega
      have c2 : clipAt (rows * size) ((i : Int) * size + size) = i * size + size := by rw [← Int.natCast_mul, ← Int.natCast_add, clipAt_nat]; omega
      rw [c1, c2]
      unfold chunk
      congr 1; omega
    refine ⟨⟨_, _, _, rfl, F3, N3, n1, n2, n3, ?_, rfl⟩⟩
    rw [List.range_succ, List.map_append]
    exact bytesAre_snoc hJ e0
  · intro ys nw D h tk hJ F2 N2 n1
    obtain ⟨hJ, rfl⟩ := hJ
    try dsimp only
    exact ⟨⟨_, _, _, _, rfl, F2, news_drop2 (news_drop2 N2), ⟨D, ys, _, rfl, hJ, n1.2.2, rfl⟩⟩⟩
def NewBytes (ks : List Int) (news : List (Addr × Obj)) (r : Value) (news' : List (Addr × Obj)) : Prop := ∃ b t, r = Value.bytes b t ∧ KBw.bInts b = ks ∧ news' = news
theorem Fn.useB {w : World} {lv : Nat} {f : Addr} {args : List Value} {news : List (Addr × Obj)} {ks : List Int} (C : Fn w lv f args news (NewBytes ks news))
    {mean : ExcName → Option Value} {mg mb : PySem.Str → Option Value} {A : Around} {env : Env} {outer : List Env} {A₀ : Around} {base h₀ : Heap} {L : Addr} {m : PySem.Str → Option Value} {s : Shared} {Q E : Value → Shared → Prop}
    (hh : A.handled = none) (hA : A.frames = some (env :: outer)) (hf : env.frame = some L) (hk : env.scope.kind = .function) (hd : A.depth + lv < 500) (hu : A.units + 4 * lv < 4000)
    (B : Below A₀ base outer h₀) (F : Fr h₀ L s.heap m) (X : (Mine.hd.heap_39 w.params).In h₀) (N : News h₀ L s.heap news) (T : MyTop mean mg mb h₀)
    (h : ∀ (b : Array UInt8) (t : Tok), KBw.bInts b = ks → ∀ h' tk', Fr h₀ L h' m → News h₀ L h' news → Q (.bytes b t) { s with heap := h', toks := tk' }) :
    wpAny (model myProg w) A (call (.ref f) args) Q E s :=
  Fn.use C hh hA hf hk hd hu B F X N T fun r news' h' tk' F' N' P' => by obtain ⟨b, t, rfl, hb, rfl⟩ := P'; exact h b t hb h' tk' F' N'
def tiffL (rowT : List Int → List Int) (size rows : Nat) (ks : List Int) : List Int := (List.range rows).flatMap fun i => rowT (chunk size ks i)
theorem tiffL_snoc (rowT : List Int → List Int) (size i : Nat) (ks : List Int) : tiffL rowT size (i + 1) ks = tiffL rowT size i ks ++ rowT (chunk size ks i) := by simp [tiffL, List.range_succ]
structure RowT (w : World) (ud : Bool) (sx : Addr) (colors columns bits po : Int) (size : Nat) (rowT : List Int → List Int) : Prop where
  fn : ∀ (b : Array UInt8) (tr : Tok) (nw : List (Addr × Obj)), b.size = size → ShapeIs nw sx colors bits columns size po → Fn w 1 106 [.bytes b tr, .ref sx, .bool ud] nw (NewList (rowT (KBw.bInts b)) nw)
  len : ∀ ks : List Int, ks.length = size → (rowT ks).length = size
  range : ∀ ks : List Int, ks.length = size → (∀ x ∈ ks, 0 ≤ x ∧ x < 256) → ∀ x ∈ rowT ks, 0 ≤ x ∧ x < 256
theorem ShapeIs.more {news : List (Addr × Obj)} {sx : Addr} {c b l r p : Int} (h : ShapeIs news sx c b l r p) {nw : List (Addr × Obj)} (hs : ∀ q ∈ news, q ∈ nw) : ShapeIs nw sx c b l r p := by
  obtain ⟨sd, h1, h2, h3, h4, h5, k1, k2, k3, k4, k5, t1, t2, t3, t4, t5, a, d⟩ := h.ex
  exact ⟨⟨sd, h1, h2, h3, h4, h5, k1, k2, k3, k4, k5, t1, t2, t3, t4, t5, hs _ a, hs _ d⟩⟩
theorem bInts_range (b : Array UInt8) : ∀ x ∈ KBw.bInts b, 0 ≤ x ∧ x < 256 := fun x hx => KBw.ints_in hx
theorem tiffL_len {rowT : List Int → List Int} {size rows : Nat} {ks : List Int} (hk : ks.length = rows * size) (hl : ∀ r : List Int, r.length = size → (rowT r).length = size) : ∀ i, i ≤ rows → (tiffL rowT size i ks).length = i * size
  | 0, _ => by simp [tiffL]
  | i + 1, hi => by rw [tiffL_snoc, List.length_append, tiffL_len hk hl i (by omega), hl _ (chunk_len hk hi), Nat.add_mul, Nat.one_mul]
theorem tiffL_range {rowT : List Int → List Int} {size rows : Nat} {ks : List Int} (hk : ks.length = rows * size) (hr : ∀ x ∈ ks, 0 ≤ x ∧ x < 256) (hl : ∀ r : List Int, r.length = size → (∀ x ∈ r, 0 ≤ x ∧ x < 256) → ∀ x ∈ rowT r, 0 ≤ x ∧ x < 256) : ∀ x ∈ tiffL rowT size rows ks, 0 ≤ x ∧ x < 256 := by
  intro x hx
  obtain ⟨i, hi, hx⟩ := List.mem_flatMap.mp hx
  exact hl _ (chunk_len hk (List.mem_range.mp hi)) (fun y hy => hr y (chunk_mem hy)) x hx
set_option maxHeartbeats 8000000 in
theorem tiff_applied_spec (w : World) (oc : Array UInt8) (to : Tok) (sx : Addr) (colors columns bits po : Int) (size rows : Nat) (rowT : List Int → List Int) (news : List (Addr × Obj)) (hs : ShapeIs news sx colors bits columns size po)
    (R : RowT w false sx colors columns bits po size rowT) (hs1 : 1 ≤ size) (hs2 : size ≤ 100) (hr : rows ≤ 100) (hz : oc.size = rows * size) :
    Fn w 2 113 [.bytes oc to, .ref sx] news (NewBytes (tiffL rowT size rows (KBw.bInts oc)) news) := by
  have hrs : rows * size ≤ 100 * 100 := Nat.mul_le_mul hr hs2
  obtain ⟨sd, h1, h2, h3, h4, h5, k1, k2, k3, k4, k5, t1, t2, t3, t4, t5, hsx, hsd⟩ := hs.ex
  unfold shapeDict at hsd
  refine' fn_enter [((PySem.Str.ofString "octets"), .bytes oc to), ((PySem.Str.ofString "shape"), .ref sx)] ?ho ?hcd ?hb ?hl ?h1 ?h2 ?h3 ?h4 ?_
  case ho => k_dflt k_is
  case hcd => k_dflt k_is
  case hb => exact fun s => BindsTo.of_eq rfl
  case hl => exact locs rfl
  case h1 => exact rfl
  case h2 => exact rfl
  case h3 => exact rfl
  case h4 => decide
  intro mean mg mb dp un gd outer A₀ base g L h s hdp hun B F N lo X T
  have hret := True.intro
  k_steps
  walk_at "my for0"
  k_steps
  rename_i tk1 l2 hh1 lo1 hh2 F1 N1 tk2
  have lo9 : AllLt l2 news := allLt_of lo1
  refine Halt.go ?_
  refine' Fn.useLB (rows_spec w oc to _ size rows _ hs1 hs2 hr hz) ?c1 ?c2 ?c3 ?c4 ?c5 ?c6 ?cB ?cF ?cX ?cN ?cT ?_
  case c1 => exact rfl
  case c2 => exact rfl
  case c3 => exact rfl
  case c4 => exact rfl
  case c5 => (first | exact dep hdp (Nat.le_of_ble_eq_true rfl) | (dsimp only; omega) | exact Nat.le_of_ble_eq_true rfl)
  case c6 => (first | exact dep4 hun (Nat.le_of_ble_eq_true rfl) | (dsimp only; omega) | exact Nat.le_of_ble_eq_true rfl)
  case cB => assumption
  case cF => k_asm
  case cX => assumption
  case cN => k_asm
  case cT => assumption
  intro l1 vs1 n1 hB ne1 h9 tk9 F9 N9
  clear F1 N1
  simp only [AllNe] at ne1
  have hkl : (KBw.bInts oc).length = rows * size := by rw [KBw.ints_length]; exact hz
  have hvl : vs1.length = rows := by rw [hB.1]; simp
  try dsimp only
  refine kfor_list (fun c : List Value × Nat => (l1, listOf vs1.toArray n1) :: (l2, listOf c.1.toArray c.2) :: news) (fun _ => []) [] (fun i c => IntsAre c.1 (tiffL rowT size i (KBw.bInts oc))) ([], 0) rfl (fun _ _ _ => List.mem_cons_self) F9 N9 (by walk_at "my ps") .nil ?_ ?_
  · intro i c v u h tk I oI hv hP off F2 N2
    clear F9 N9
    simp only [AllNe] at off
    have hi9 : i < rows := by rw [← hvl]; exact (List.getElem?_eq_some_iff.mp hv).1
    obtain ⟨b, tb, rfl, hb⟩ := hB.2 i v (chunk size (KBw.bInts oc) i) hv (by simp [hi9])
    have hbs : b.size = size := by rw [← KBw.ints_length, hb]; exact chunk_len hkl hi9
    have hP1 := hP.length
    rw [tiffL_len hkl R.len i (by omega)] at hP1
    have hP2 := Nat.mul_le_mul (show i ≤ 100 by omega) hs2
    try dsimp only
    k_steps
    refine Halt.go ?_
    refine' Fn.useL (R.fn b _ _ hbs ?hsm) ?c1 ?c2 ?c3 ?c4 ?c5 ?c6 ?cB ?cF ?cX ?cN ?cT ?_
    case c1 => exact rfl
    case c2 => exact rfl
    case c3 => exact rfl
    case c4 => exact rfl
    case c5 => (first | exact dep hdp (Nat.le_of_ble_eq_true rfl) | (dsimp only; omega) | exact Nat.le_of_ble_eq_true rfl)
    case c6 => (first | exact dep4 hun (Nat.le_of_ble_eq_true rfl) | (dsimp only; omega) | exact Nat.le_of_ble_eq_true rfl)
    case cB => assumption
    case cF => k_asm
    case cX => assumption
    case cN => k_asm
    case cT => assumption
    case hsm => exact hs.more fun q hq => by k_mem
    intro l3 vs3 n3 hi3 ne3 h9 tk9 F9 N9
    clear F2 N2
    simp only [AllNe] at ne3
    have hl3 := hi3.length
    rw [hb] at hl3 hi3
    rw [R.len _ (chunk_len hkl hi9)] at hl3
    try dsimp only
    k_steps
    rename_i hh4 F4 N4
    have N5 := news_tail N4
    clear N4
    walk_at "my end"
    refine ⟨(c.1 ++ _, _), rfl, by walk_at "my ps", by walk_at "my fr", ?_⟩
    try dsimp only
    rw [tiffL_snoc]
    exact hP.append hi3
  · intro c u h tk hP F2 N2
    clear F9 N9
    rw [hvl] at hP
    try dsimp only
    k_steps
    have hin := tiffL_range (rowT := rowT) hkl (bInts_range oc) R.range
    refine Halt.go (KBa.make_K F2 N2 rfl (News.isList N2 (by k_mem)) hP hin (by rw [tiffL_len hkl R.len rows (Nat.le_refl _)]; omega) ?_)
    intro h7 t7 k7 F7 N7 hi7
    try dsimp only
    exact ⟨⟨_, _, _, _, rfl, F7, news_tail (news_tail N7), ⟨_, _, rfl, KBa.ints_make hi7, rfl⟩⟩⟩

set_option maxHeartbeats 8000000 in
theorem tiff_undone_spec (w : World) (oc : Array UInt8) (to : Tok) (sx : Addr) (colors columns bits po : Int) (size rows : Nat) (rowT : List Int → List Int) (news : List (Addr × Obj)) (hs : ShapeIs news sx colors bits columns size po)
    (R : RowT w true sx colors columns bits po size rowT) (hs1 : 1 ≤ size) (hs2 : size ≤ 100) (hr : rows ≤ 100) (hz : oc.size = rows * size) :
    Fn w 2 120 [.bytes oc to, .ref sx] news (NewBytes (tiffL rowT size rows (KBw.bInts oc)) news) := by
  have hrs : rows * size ≤ 100 * 100 := Nat.mul_le_mul hr hs2
  obtain ⟨sd, h1, h2, h3, h4, h5, k1, k2, k3, k4, k5, t1, t2, t3, t4, t5, hsx, hsd⟩ := hs.ex
  unfold shapeDict at hsd
  refine' fn_enter [((PySem.Str.ofString "octets"), .bytes oc to), ((PySem.Str.ofString "shape"), .ref sx)] ?ho ?hcd ?hb ?hl ?h1 ?h2 ?h3 ?h4 ?_
  case ho => k_dflt k_is
  case hcd => k_dflt k_is
  case hb => exact fun s => BindsTo.of_eq rfl
  case hl => exact locs rfl
  case h1 => exact rfl
  case h2 => exact rfl
  case h3 => exact rfl
  case h4 => decide
  intro mean mg mb dp un gd outer A₀ base g L h s hdp hun B F N lo X T
  have hret := True.intro
  k_steps
  walk_at "my for0"
  k_steps
  rename_i tk1 l2 hh1 lo1 hh2 F1 N1 tk2
  have lo9 : AllLt l2 news := allLt_of lo1
  refine Halt.go ?_
  refine' Fn.useLB (rows_spec w oc to _ size rows _ hs1 hs2 hr hz) ?c1 ?c2 ?c3 ?c4 ?c5 ?c6 ?cB ?cF ?cX ?cN ?cT ?_
  case c1 => exact rfl
  case c2 => exact rfl
  case c3 => exact rfl
  case c4 => exact rfl
  case c5 => (first | exact dep hdp (Nat.le_of_ble_eq_true rfl) | (dsimp only; omega) | exact Nat.le_of_ble_eq_true rfl)
  case c6 => (first | exact dep4 hun (Nat.le_of_ble_eq_true rfl) | (dsimp only; omega) | exact Nat.le_of_ble_eq_true rfl)
  case cB => assumption
  case cF => k_asm
  case cX => assumption
  case cN => k_asm
  case cT => assumption
  intro l1 vs1 n1 hB ne1 h9 tk9 F9 N9
  clear F1 N1
  simp only [AllNe] at ne1
  have hkl : (KBw.bInts oc).length = rows * size := by rw [KBw.ints_length]; exact hz
  have hvl : vs1.length = rows := by rw [hB.1]; simp
  try dsimp only
  refine kfor_list (fun c : List Value × Nat => (l1, listOf vs1.toArray n1) :: (l2, listOf c.1.toArray c.2) :: news) (fun _ => []) [] (fun i c => IntsAre c.1 (tiffL rowT size i (KBw.bInts oc))) ([], 0) rfl (fun _ _ _ => List.mem_cons_self) F9 N9 (by walk_at "my ps") .nil ?_ ?_
  · intro i c v u h tk I oI hv hP off F2 N2
    clear F9 N9
    simp only [AllNe] at off
    have hi9 : i < rows := by rw [← hvl]; exact (List.getElem?_eq_some_iff.mp hv).1
    obtain ⟨b, tb, rfl, hb⟩ := hB.2 i v (chunk size (KBw.bInts oc) i) hv (by simp [hi9])
    have hbs : b.size = size := by rw [← KBw.ints_length, hb]; exact chunk_len hkl hi9
    have hP1 := hP.length
    rw [tiffL_len hkl R.len i (by omega)] at hP1
    have hP2 := Nat.mul_le_mul (show i ≤ 100 by omega) hs2
    try dsimp only
    k_steps
    refine Halt.go ?_
    refine' Fn.useL (R.fn b _ _ hbs ?hsm) ?c1 ?c2 ?c3 ?c4 ?c5 ?c6 ?cB ?cF ?cX ?cN ?cT ?_
    case c1 => exact rfl
    case c2 => exact rfl
    case c3 => exact rfl
    case c4 => exact rfl
    case c5 => (first | exact dep hdp (Nat.le_of_ble_eq_true rfl) | (dsimp only; omega) | exact Nat.le_of_ble_eq_true rfl)
    case c6 => (first | exact dep4 hun (Nat.le_of_ble_eq_true rfl) | (dsimp only; omega) | exact Nat.le_of_ble_eq_true rfl)
    case cB => assumption
    case cF => k_asm
    case cX => assumption
    case cN => k_asm
    case cT => assumption
    case hsm => exact hs.more fun q hq => by k_mem
    intro l3 vs3 n3 hi3 ne3 h9 tk9 F9 N9
    clear F2 N2
    simp only [AllNe] at ne3
    have hl3 := hi3.length
    rw [hb] at hl3 hi3
    rw [R.len _ (chunk_len hkl hi9)] at hl3
    try dsimp only
    k_steps
    rename_i hh4 F4 N4
    have N5 := news_tail N4
    clear N4
    walk_at "my end"
    refine ⟨(c.1 ++ _, _), rfl, by walk_at "my ps", by walk_at "my fr", ?_⟩
    try dsimp only
    rw [tiffL_snoc]
    exact hP.append hi3
  · intro c u h tk hP F2 N2
    clear F9 N9
    rw [hvl] at hP
    try dsimp only
    k_steps
    have hin := tiffL_range (rowT := rowT) hkl (bInts_range oc) R.range
    refine Halt.go (KBa.make_K F2 N2 rfl (News.isList N2 (by k_mem)) hP hin (by rw [tiffL_len hkl R.len rows (Nat.le_refl _)]; omega) ?_)
    intro h7 t7 k7 F7 N7 hi7
    try dsimp only
    exact ⟨⟨_, _, _, _, rfl, F7, news_tail (news_tail N7), ⟨_, _, rfl, KBa.ints_make hi7, rfl⟩⟩⟩

theorem fold8_lt {bits : Int} (h0 : 1 ≤ bits) (h8 : bits ≤ 8) : ∀ (n : Nat) (ls : List Int), ls.length = n → (∀ x ∈ ls, 0 ≤ x ∧ x < 2 ^ bits.toNat) → 0 ≤ fold8 bits ls ∧ fold8 bits ls < 2 ^ (bits.toNat * n) := by
  intro n
  induction n with
  | zero => intro ls h _; cases ls with
    | nil => simp [fold8]
    | cons => cases h
  | succ n ih =>
    intro ls h hr
    obtain ⟨ys, x, rfl⟩ : ∃ ys x, ls = ys ++ [x] := by
      rcases List.eq_nil_or_concat ls with e | ⟨ys, x, e⟩
      · rw [e] at h; cases h
      · exact ⟨ys, x, by rw [e, List.concat_eq_append]⟩
    rw [List.length_append, List.length_singleton] at h
    obtain ⟨i1, i2⟩ := ih ys (by omega) (fun y hy => hr y (List.mem_append_left _ hy))
    obtain ⟨p1, p2⟩ := pow_le_256 h0 h8
    obtain ⟨x1, x2⟩ := hr x (by simp)
    rw [fold8_snoc]
    have q1 := Int.mul_nonneg i1 (show (0 : Int) ≤ 2 ^ bits.toNat by omega)
    have q2 := Int.mul_le_mul_of_nonneg_right (show fold8 bits ys ≤ 2 ^ (bits.toNat * n) - 1 by omega) (show (0 : Int) ≤ 2 ^ bits.toNat by omega)
    have e : (2 : Int) ^ (bits.toNat * (n + 1)) = 2 ^ (bits.toNat * n) * 2 ^ bits.toNat := by rw [Nat.mul_add, Nat.mul_one, Int.pow_add]
    rw [Int.sub_mul, Int.one_mul] at q2
    omega
def rowN (ud : Bool) (bits : Int) (cnt colors columns size : Nat) (r : List Int) : List Int := octL bits cnt size (turnL ud (1 * 2 ^ bits.toNat) colors (sampL bits cnt r) (min (colors * columns) (size * cnt) - colors))
theorem rowN_is {w : World} {ud : Bool} {sx : Addr} {colors columns cnt size : Nat} {bits po : Int} (hb0 : 1 ≤ bits) (hb8 : bits ≤ 8) (hcnt : Int.fdiv 8 bits = cnt) (hcb : bits * cnt = 8) (hc1 : 1 ≤ cnt) (hc8 : cnt ≤ 8) (hz : size ≤ 100) (hco : 1 ≤ colors) (hco3 : colors ≤ 3) (hcl : 1 ≤ columns) (hcl5 : columns ≤ 5) :
    RowT w ud sx colors columns bits po size (rowN ud bits cnt colors columns size) where
  fn := fun b tr nw e hs => by
    have := turned_spec w b tr sx colors columns bits size po cnt ud nw hs hb0 hb8 hcnt hcb hc1 hc8 (by omega) hco hco3 hcl5
    rw [e] at this
    exact this
  len := fun ks _ => by simp [rowN, octL]
  range := fun ks hk _ => by
    intro x hx
    unfold rowN octL at hx
    obtain ⟨i, hi, rfl⟩ := List.mem_map.mp hx
    have hM := (pow_le_256 hb0 hb8).1
    have hl : (turnL ud (1 * 2 ^ bits.toNat) colors (sampL bits cnt ks) (min (colors * columns) (size * cnt) - colors)).length = size * cnt := by rw [turnL_len, sampL_length, hk]
    have h9 := turnL_range ud (M := 1 * 2 ^ bits.toNat) (by omega) colors (ls := sampL bits cnt ks) (by rw [Int.one_mul]; exact sampL_range hM) (min (colors * columns) (size * cnt) - colors)
    have := fold8_lt hb0 hb8 cnt _ (chunk_len hl (List.mem_range.mp hi)) (fun y hy => by have := h9 y (chunk_mem hy); rw [Int.one_mul] at this; exact this)
    have e : bits.toNat * cnt = 8 := by
      have e2 : ((bits.toNat * cnt : Nat) : Int) = 8 := by rw [Int.natCast_mul, Int.toNat_of_nonneg (by omega)]; exact hcb
      omega
    rw [e] at this
    exact this
def row16 (ud : Bool) (colors columns half : Nat) (r : List Int) : List Int := octL16 (turnL ud (1 * 2 ^ Int.toNat 16) colors ((List.range half).map (s16 r)) (min (colors * columns) half - colors))
theorem s16_range {ks : List Int} (h : ∀ x ∈ ks, 0 ≤ x ∧ x < 256) (i : Nat) : 0 ≤ s16 ks i ∧ s16 ks i < 65536 := by
  have h1 := KBw.getD_in (j := 2 * i) h
  have h2 := KBw.getD_in (j := 2 * i + 1) h
  unfold s16; omega
theorem row16_is {w : World} {ud : Bool} {sx : Addr} {colors columns half size : Nat} {po : Int} (hz : size = 2 * half) (hh : half ≤ 50) (hco : 1 ≤ colors) (hco3 : colors ≤ 3) (hcl : 1 ≤ columns) (hcl5 : columns ≤ 5) :
    RowT w ud sx colors columns 16 po size (row16 ud colors columns half) where
  fn := fun b tr nw e hs => turned16_spec w b tr sx colors columns size po half ud nw hs (by omega) (by omega) hco hco3 hcl5
  len := fun ks _ => by simp [row16, octL16_len, turnL_len]; omega
  range := fun ks hk hr => by
    intro x hx
    unfold row16 octL16 at hx
    obtain ⟨y, hy, hx⟩ := List.mem_flatMap.mp hx
    have h9 := turnL_range ud (M := 1 * 2 ^ Int.toNat 16) (by decide) colors (ls := (List.range half).map (s16 ks)) (fun z hz => by
      obtain ⟨i, _, rfl⟩ := List.mem_map.mp hz
      exact s16_range hr i) (min (colors * columns) half - colors) y hy
    have e : (1 * 2 ^ Int.toNat 16 : Int) = 65536 := by decide
    rw [e] at h9
    have m1 := fmod_lo y (show (0 : Int) < 256 by decide)
    have m2 := fmod_hi y (show (0 : Int) < 256 by decide)
    have d1 := fdiv_nn h9.1 (show (0 : Int) < 256 by decide)
    have d2 : y.fdiv 256 < 256 := by rw [Int.fdiv_eq_ediv_of_nonneg y (by decide)]; omega
    simp only [List.mem_cons, List.not_mem_nil, or_false] at hx
    rcases hx with rfl | rfl
    · exact ⟨d1, d2⟩
    · exact ⟨m1, m2⟩
def big (ks : List Int) : Int := ks.foldl (fun t x => t * 256 + x) 0
theorem big_snoc (ks : List Int) (x : Int) : big (ks ++ [x]) = big ks * 256 + x := by simp [big, List.foldl_append]
def dn (M T : Int) : Nat → Int
  | 0 => T
  | j + 1 => (dn M T j).fdiv M
def lawS (M T : Int) (q : Nat) : List Int := (List.range q).map fun i => (dn M T i).fmod M
set_option maxHeartbeats 8000000 in
theorem lawsamples_spec (w : World) (bl : Array UInt8) (tb tt : Tok) (bits : Int) (q : Nat) (news : List (Addr × Obj)) (hb0 : 1 ≤ bits) (hb8 : bits ≤ 16) (hz : bl.size ≤ 500) (hq : (8 * (bl.size : Int)).fdiv bits = q) (hq2 : q ≤ 4000) :
    Fn w 0 179 [.bytes bl tb, .int bits tt] news (NewList (lawS (2 ^ bits.toNat) (big (KBw.bInts bl)) q).reverse news) := by
  refine' fn_enter [((PySem.Str.ofString "block"), .bytes bl tb), ((PySem.Str.ofString "bits"), .int bits tt)] ?ho ?hcd ?hb ?hl ?h1 ?h2 ?h3 ?h4 ?_
  case ho => k_dflt k_is
  case hcd => k_dflt k_is
  case hb => exact fun s => BindsTo.of_eq rfl
  case hl => exact locs rfl
  case h1 => exact rfl
  case h2 => exact rfl
  case h3 => exact rfl
  case h4 => decide
  intro mean mg mb dp un gd outer A₀ base g L h s hdp hun B F N lo X T
  have hret := True.intro
  k_steps
  walk_at "my for"
  rename_i tk1 l1 hh1 lo1 D1 hh2 lo2 hh3 hh4 hh5 F1 N1 tk2
  have lo9 : AllLt l1 news := allLt_of lo1
  have N0 := news_tail N1
  clear N1
  refine kfor_bytes (fun c : Int × Tok => (l1, listOf #[] 0) :: news) (fun c => [((PySem.Str.ofString "total"), .int c.1 c.2)]) [] (fun i c => c.1 = big ((KBw.bInts bl).take i)) (0, _) rfl F1 N0 (by walk_at "my ps") rfl ?_ ?_
  · intro i c k t u h tk I oI hi hk0 hk1 hP off F2 N2
    clear F1 N0
    simp only [AllNe] at off
    try dsimp only
    k_steps
    walk_at "my end"
    refine ⟨(c.1 * 256 + k, _), rfl, by walk_at "my ps", by walk_at "my fr", ?_⟩
    try dsimp only
    rw [List.take_add_one, hi, hP, Option.toList_some, big_snoc]
  · intro c u h tk hP F2 N2
    clear F1 N0
    try dsimp only
    k_steps
    walk_at "my for"
    rename_i tk3 hh6 tk4 r1 r2 r3 R1 F3 N3 G3
    rw [hq] at R1
    rw [List.take_length] at hP
    have hM : (1 : Int) ≤ 2 ^ bits.toNat := Int.pow_pos (by decide)
    generalize hT : big (KBw.bInts bl) = T at hP
    refine kfor_range q (fun j => (j : Int)) (by intros; omega) (fun c : (List Value × Nat) × (Int × Tok) => (l1, listOf c.1.1.toArray c.1.2) :: news) (fun c => [((PySem.Str.ofString "total"), .int c.2.1 c.2.2)]) [] (fun j c => IntsAre c.1.1 (lawS (2 ^ bits.toNat) T j) ∧ c.2.1 = dn (2 ^ bits.toNat) T j) (([], 0), c.1, c.2) rfl R1 (small_step (by omega) (by omega) (by omega) (by omega) (by omega) (by omega)) rsize_one F3 N3 (by walk_at "my ps") ⟨.nil, hP⟩ ?_ ?_
    · intro j c3 t u h tk I oI hj hP3 off F4 N4
      clear F3 N3 G3
      simp only [AllNe] at off
      obtain ⟨hP3, hP4⟩ := hP3
      have hlen := hP3.length
      simp only [lawS, List.length_map, List.length_range] at hlen
      try dsimp only
      k_steps
      walk_at "my end"
      refine ⟨((c3.1.1 ++ [_], _), (c3.2.1.fdiv (2 ^ bits.toNat), _)), rfl, by walk_at "my ps", by walk_at "my fr", ?_, ?_⟩
      · dsimp only
        have e : lawS (2 ^ bits.toNat) T (j + 1) = lawS (2 ^ bits.toNat) T j ++ [(dn (2 ^ bits.toNat) T j).fmod (2 ^ bits.toNat)] := by simp [lawS, List.range_succ]
        rw [e, ← hP4]
        exact ints_snoc hP3
      · dsimp only
        rw [hP4]; rfl
    · intro c3 u h tk hP3 F4 N4
      clear F3 N3 G3
      obtain ⟨hP3, hP4⟩ := hP3
      have hlen := hP3.length
      have hlen2 : (lawS (2 ^ bits.toNat) T q).length = q := by simp [lawS]
      try dsimp only
      k_steps
      rename_i tk5 D5 ws5 hh5 F5 N5 hI5 hC5 lo5
      try dsimp only
      exact ⟨⟨_, _, _, _, rfl, F5, news_drop2 N5, ⟨D5, ws5, _, rfl, hI5, AllLt.ne lo5.2, rfl⟩⟩⟩
def sumL (M : Int) (as bs : List Int) : List Int := (List.range as.length).map fun i => (as.getD i 0 + bs.getD i 0).fmod M
set_option maxHeartbeats 8000000 in
theorem lawsum_spec (w : World) (b1 b2 : Array UInt8) (t1 t2 tb : Tok) (bits : Int) (cnt size : Nat) (news : List (Addr × Obj)) (hb0 : 1 ≤ bits) (hb8 : bits ≤ 8) (hcnt : Int.fdiv 8 bits = cnt) (hcb : bits * cnt = 8) (hc1 : 1 ≤ cnt) (hc8 : cnt ≤ 8)
    (hz1 : b1.size = size) (hz2 : b2.size = size) (hz : size ≤ 400) (hq : (8 * (size : Int)).fdiv bits = (size * cnt : Nat)) :
    Fn w 1 172 [.bytes b1 t1, .bytes b2 t2, .int bits tb] news (NewBytes (octL bits cnt size (sumL (2 ^ bits.toNat) (lawS (2 ^ bits.toNat) (big (KBw.bInts b1)) (size * cnt)).reverse (lawS (2 ^ bits.toNat) (big (KBw.bInts b2)) (size * cnt)).reverse)) news) := by
  have hsc : size * cnt ≤ 400 * 8 := Nat.mul_le_mul hz hc8
  refine' fn_enterC [((PySem.Str.ofString "one"), .bytes b1 t1), ((PySem.Str.ofString "other"), .bytes b2 t2), ((PySem.Str.ofString "bits"), .int bits tb)] (fun y => if y = (PySem.Str.ofString "other") then some (.bytes b2 t2) else if y = (PySem.Str.ofString "one") then some (.bytes b1 t1) else none) ?ho ?hcd ?hb ?hkd ?hnd ?hm ?h1 ?h2 ?h3 ?_
  case ho => k_dflt k_is
  case hcd => k_dflt k_is
  case hb => exact fun s => BindsTo.of_eq rfl
  case hkd => exact rfl
  case hnd => decide +kernel
  case hm => exact fun _ => rfl
  case h1 => exact rfl
  case h2 => exact rfl
  case h3 => exact rfl
  intro mean mg mb dp un gd outer A₀ base g L h s tk cells hdp hun B F N lo Y X T
  have lo2 := allLt_of lo
  k_cells Y
  simp only [List.cons_append, List.nil_append] at N
  have hret := True.intro
  k_steps
  walk_at "my pairs"
  k_steps
  rename_i lF0 o1 d1 tk1
  refine Halt.go ?_
  refine' Fn.useL (lawsamples_spec w b1 t1 tb bits (size * cnt) _ hb0 (by omega) (by omega) (by rw [hz1]; exact hq) (by omega)) ?c1 ?c2 ?c3 ?c4 ?c5 ?c6 ?cB ?cF ?cX ?cN ?cT ?_
  case c1 => exact rfl
  case c2 => exact rfl
  case c3 => exact rfl
  case c4 => exact rfl
  case c5 => (first | exact dep hdp (Nat.le_of_ble_eq_true rfl) | (dsimp only; omega) | exact Nat.le_of_ble_eq_true rfl)
  case c6 => (first | exact dep4 hun (Nat.le_of_ble_eq_true rfl) | (dsimp only; omega) | exact Nat.le_of_ble_eq_true rfl)
  case cB => assumption
  case cF => k_asm
  case cX => assumption
  case cN => k_asm
  case cT => assumption
  intro l1 vs1 n1 hi1 ne1 h9 tk9 F9 N9
  generalize hA : (lawS (2 ^ bits.toNat) (big (KBw.bInts b1)) (size * cnt)).reverse = as at hi1 ⊢
  have hAl : as.length = size * cnt := by rw [← hA]; simp [lawS]
  simp only [AllNe] at ne1
  try dsimp only
  k_steps
  refine Halt.go ?_
  refine' Fn.useL (lawsamples_spec w b2 t2 tb bits (size * cnt) _ hb0 (by omega) (by omega) (by rw [hz2]; exact hq) (by omega)) ?c1 ?c2 ?c3 ?c4 ?c5 ?c6 ?cB ?cF ?cX ?cN ?cT ?_
  case c1 => exact rfl
  case c2 => exact rfl
  case c3 => exact rfl
  case c4 => exact rfl
  case c5 => (first | exact dep hdp (Nat.le_of_ble_eq_true rfl) | (dsimp only; omega) | exact Nat.le_of_ble_eq_true rfl)
  case c6 => (first | exact dep4 hun (Nat.le_of_ble_eq_true rfl) | (dsimp only; omega) | exact Nat.le_of_ble_eq_true rfl)
  case cB => assumption
  case cF => k_asm
  case cX => assumption
  case cN => k_asm
  case cT => assumption
  intro l2 vs2 n2 hi2 ne2 h8 tk8 F8 N8
  generalize hB : (lawS (2 ^ bits.toNat) (big (KBw.bInts b2)) (size * cnt)).reverse = bs at hi2 ⊢
  have hBl : bs.length = size * cnt := by rw [← hB]; simp [lawS]
  simp only [AllNe] at ne2
  try dsimp only
  k_steps
  have hM : (1 : Int) ≤ 2 ^ bits.toNat := Int.pow_pos (by decide)
  refine Halt.go (zip_my (fun i => (as.getD i 0 + bs.getD i 0).fmod (2 ^ bits.toNat)) rfl F8 N8 (by k_mem) (by k_mem) hi1 hi2 (by rw [hAl, hBl]) (by rw [hAl]; omega) ?_ ?_)
  · intro i kx ky tx ty C oC m₂ h tk hx hy hC hxa hyb F3 N3
    clear N8 F8 F9
    have e1 : as.getD i 0 = kx := by rw [List.getD_eq_getElem?_getD, hx]; rfl
    have e2 : bs.getD i 0 = ky := by rw [List.getD_eq_getElem?_getD, hy]; rfl
    try dsimp only
    rw [e1, e2]
    k_steps
  · intro D ys neD hyI h tk F3 N3'
    have N3 : News g L h ((D, listOf ys.toArray ys.length) :: _) := N3'
    clear N3' N8 F8 F9
    simp only [AllNe] at neD
    generalize hS : (List.range as.length).map (fun i => (as.getD i 0 + bs.getD i 0).fmod (2 ^ bits.toNat)) = ls at hyI
    have hSl : ls.length = size * cnt := by rw [← hS, List.length_map, List.length_range, hAl]
    have hr : ∀ x ∈ ls, 0 ≤ x ∧ x < 2 ^ bits.toNat := by
      intro x hx
      rw [← hS] at hx
      obtain ⟨j, _, rfl⟩ := List.mem_map.mp hx
      exact ⟨fmod_lo _ (by omega), fmod_hi _ (by omega)⟩
    have hM2 := (pow_le_256 hb0 hb8).2
    have hr8 : ∀ x ∈ ls, 0 ≤ x ∧ x < 256 := fun x hx => ⟨(hr x hx).1, by have := (hr x hx).2; omega⟩
    have eS : sumL (2 ^ bits.toNat) as bs = ls := hS
    rw [eS]
    try dsimp only
    k_steps
    (try (exfalso; omega))
    walk_at "my for"
    rename_i tk2 tk3 l9 hh1 lo1 hh2 tk4 hh3 tk5 r1 r2 r3 R1 F1 N1 G1
    rw [hcnt] at R1
    have lo9 : AllLt l9 ((D, listOf ys.toArray ys.length) :: (l2, listOf vs2.toArray n2) :: (l1, listOf vs1.toArray n1) :: (L + 1, o1) :: news) := lo1
    have hlo9 : AllNe l9 news := AllLt.ne lo9.2.2.2.2
    refine kfor_range size (fun i => (i : Int) * cnt) (by intros; omega) (fun c : List Value × Nat => (l9, listOf c.1.toArray c.2) :: (D, listOf ys.toArray ys.length) :: (l2, listOf vs2.toArray n2) :: (l1, listOf vs1.toArray n1) :: (L + 1, o1) :: news) (fun _ => []) [(PySem.Str.ofString "total"), (PySem.Str.ofString "level")] (fun i c => IntsAre c.1 (octL bits cnt i ls)) ([], 0) rfl R1 (small_step (by omega) (by omega) (by omega) (by omega) (by omega) (by omega)) (by rw [hSl]; exact rsize_mul hc1) F1 N1 (fun _ hp => nomatch hp) .nil ?_ ?_
    · intro i c t u h tk I oI hi9 hP off F2 N2
      clear F1 N1 G1
      simp only [AllNe] at off
      have hnn : 0 ≤ (i : Int) * cnt := Int.mul_nonneg (by omega) (by omega)
      try dsimp only
      k_steps
      walk_at "my for"
      rename_i tk1 hh1 tk2 D' ws hh2 F3 N3 hI hC hL lo3
      rw [hcnt, chunk_eq hSl hi9] at hI
      clear hC hL
      have hcl := chunk_len hSl hi9
      have hP1 := hP.length
      have hP2 : (octL bits cnt i ls).length = i := by simp [octL]
      refine kfor_list (fun c2 : Int × Tok => (D', listOf ws.toArray 0) :: (I, oI) :: (l9, listOf c.1.toArray c.2) :: (D, listOf ys.toArray ys.length) :: (l2, listOf vs2.toArray n2) :: (l1, listOf vs1.toArray n1) :: (L + 1, o1) :: news) (fun c2 => [((PySem.Str.ofString "total"), .int c2.1 c2.2)]) [] (fun j c2 => c2.1 = fold8 bits ((chunk cnt ls i).take j)) (0, _) rfl (fun _ _ _ => List.mem_cons_self) F3 N3 (by walk_at "my ps") rfl ?_ ?_
      · intro j c2 v u h tk I2 oI2 hv hj off2 F4 N4
        clear F3 N3 F2 N2
        simp only [AllNe] at off2
        obtain ⟨k, t9, rfl, hk⟩ := hI.at _ _ hv
        try dsimp only
        k_steps
        walk_at "my end"
        refine ⟨(c2.1 * 2 ^ bits.toNat + k, _), rfl, by walk_at "my ps", by walk_at "my fr", ?_⟩
        try dsimp only
        rw [List.take_add_one, hk, hj, Option.toList_some, fold8_snoc]
      · intro c2 u h tk hj F4 N4
        clear F3 N3 F2 N2
        try dsimp only
        k_steps
        rename_i tk3 hh3 F5 N5
        have N6 := news_tail N5
        clear N5
        walk_at "my end"
        refine ⟨(c.1 ++ [_], _), rfl, by walk_at "my ps", by walk_at "my fr", ?_⟩
        have e : octL bits cnt (i + 1) ls = octL bits cnt i ls ++ [fold8 bits (chunk cnt ls i)] := by simp [octL, List.range_succ]
        rw [e]
        rw [hI.length, List.take_length] at hj
        rw [← hj]
        exact ints_snoc hP
    · intro c u h tk hP F2 N2
      clear F1 N1 G1
      try dsimp only
      k_steps
      have hin : ∀ x ∈ octL bits cnt size ls, 0 ≤ x ∧ x < 256 := by
        intro x hx
        obtain ⟨i, hi, rfl⟩ := List.mem_map.mp hx
        have := fold8_lt hb0 hb8 cnt _ (chunk_len hSl (List.mem_range.mp hi)) (fun y hy => hr y (chunk_mem hy))
        have e : (2 : Int) ^ (bits.toNat * cnt) ≤ 256 := by
          have e2 : ((bits.toNat * cnt : Nat) : Int) = 8 := by rw [Int.natCast_mul, Int.toNat_of_nonneg (by omega)]; exact hcb
          rw [show bits.toNat * cnt = 8 by omega]; decide
        omega
      refine Halt.go (KBa.make_K F2 N2 rfl (News.isList N2 (by k_mem)) hP hin (by simp [octL]; omega) ?_)
      intro h7 t7 k7 F7 N7 hi7
      try dsimp only
      exact ⟨⟨_, _, _, _, rfl, F7, news_tail (news_tail (news_tail (news_tail (news_tail N7)))), ⟨_, _, rfl, KBa.ints_make hi7, rfl⟩⟩⟩
set_option maxHeartbeats 8000000 in
theorem lawsum16_spec (w : World) (b1 b2 : Array UInt8) (t1 t2 tb : Tok) (half : Nat) (news : List (Addr × Obj)) 
    (hz1 : b1.size = 2 * half) (hz2 : b2.size = 2 * half) (hz : half ≤ 200) :
    Fn w 1 172 [.bytes b1 t1, .bytes b2 t2, .int 16 tb] news (NewBytes (octL16 (sumL (2 ^ Int.toNat 16) (lawS (2 ^ Int.toNat 16) (big (KBw.bInts b1)) half).reverse (lawS (2 ^ Int.toNat 16) (big (KBw.bInts b2)) half).reverse)) news) := by
  have hq : (8 * ((2 * half : Nat) : Int)).fdiv 16 = half := by
    rw [Int.fdiv_eq_ediv_of_nonneg _ (by decide)]; omega
  refine' fn_enterC [((PySem.Str.ofString "one"), .bytes b1 t1), ((PySem.Str.ofString "other"), .bytes b2 t2), ((PySem.Str.ofString "bits"), .int 16 tb)] (fun y => if y = (PySem.Str.ofString "other") then some (.bytes b2 t2) else if y = (PySem.Str.ofString "one") then some (.bytes b1 t1) else none) ?ho ?hcd ?hb ?hkd ?hnd ?hm ?h1 ?h2 ?h3 ?_
  case ho => k_dflt k_is
  case hcd => k_dflt k_is
  case hb => exact fun s => BindsTo.of_eq rfl
  case hkd => exact rfl
  case hnd => decide +kernel
  case hm => exact fun _ => rfl
  case h1 => exact rfl
  case h2 => exact rfl
  case h3 => exact rfl
  intro mean mg mb dp un gd outer A₀ base g L h s tk cells hdp hun B F N lo Y X T
  have lo2 := allLt_of lo
  k_cells Y
  simp only [List.cons_append, List.nil_append] at N
  have hret := True.intro
  k_steps
  walk_at "my pairs"
  k_steps
  rename_i lF0 o1 d1 tk1
  refine Halt.go ?_
  refine' Fn.useL (lawsamples_spec w b1 t1 tb 16 half _ (by omega) (by omega) (by omega) (by rw [hz1]; exact hq) (by omega)) ?c1 ?c2 ?c3 ?c4 ?c5 ?c6 ?cB ?cF ?cX ?cN ?cT ?_
  case c1 => exact rfl
  case c2 => exact rfl
  case c3 => exact rfl
  case c4 => exact rfl
  case c5 => (first | exact dep hdp (Nat.le_of_ble_eq_true rfl) | (dsimp only; omega) | exact Nat.le_of_ble_eq_true rfl)
  case c6 => (first | exact dep4 hun (Nat.le_of_ble_eq_true rfl) | (dsimp only; omega) | exact Nat.le_of_ble_eq_true rfl)
  case cB => assumption
  case cF => k_asm
  case cX => assumption
  case cN => k_asm
  case cT => assumption
  intro l1 vs1 n1 hi1 ne1 h9 tk9 F9 N9
  generalize hA : (lawS (2 ^ Int.toNat 16) (big (KBw.bInts b1)) half).reverse = as at hi1 ⊢
  have hAl : as.length = half := by rw [← hA]; simp [lawS]
  simp only [AllNe] at ne1
  try dsimp only
  k_steps
  refine Halt.go ?_
  refine' Fn.useL (lawsamples_spec w b2 t2 tb 16 half _ (by omega) (by omega) (by omega) (by rw [hz2]; exact hq) (by omega)) ?c1 ?c2 ?c3 ?c4 ?c5 ?c6 ?cB ?cF ?cX ?cN ?cT ?_
  case c1 => exact rfl
  case c2 => exact rfl
  case c3 => exact rfl
  case c4 => exact rfl
  case c5 => (first | exact dep hdp (Nat.le_of_ble_eq_true rfl) | (dsimp only; omega) | exact Nat.le_of_ble_eq_true rfl)
  case c6 => (first | exact dep4 hun (Nat.le_of_ble_eq_true rfl) | (dsimp only; omega) | exact Nat.le_of_ble_eq_true rfl)
  case cB => assumption
  case cF => k_asm
  case cX => assumption
  case cN => k_asm
  case cT => assumption
  intro l2 vs2 n2 hi2 ne2 h8 tk8 F8 N8
  generalize hB : (lawS (2 ^ Int.toNat 16) (big (KBw.bInts b2)) half).reverse = bs at hi2 ⊢
  have hBl : bs.length = half := by rw [← hB]; simp [lawS]
  simp only [AllNe] at ne2
  try dsimp only
  k_steps
  refine Halt.go (zip_my (fun i => (as.getD i 0 + bs.getD i 0).fmod (2 ^ Int.toNat 16)) rfl F8 N8 (by k_mem) (by k_mem) hi1 hi2 (by rw [hAl, hBl]) (by rw [hAl]; omega) ?_ ?_)
  · intro i kx ky tx ty C oC m₂ h tk hx hy hC hxa hyb F3 N3
    clear N8 F8 F9
    have e1 : as.getD i 0 = kx := by rw [List.getD_eq_getElem?_getD, hx]; rfl
    have e2 : bs.getD i 0 = ky := by rw [List.getD_eq_getElem?_getD, hy]; rfl
    try dsimp only
    rw [e1, e2]
    k_steps
  · intro D ys neD hyI h tk F3 N3'
    have N3 : News g L h ((D, listOf ys.toArray ys.length) :: _) := N3'
    clear N3' N8 F8 F9
    simp only [AllNe] at neD
    generalize hS : (List.range as.length).map (fun i => (as.getD i 0 + bs.getD i 0).fmod (2 ^ Int.toNat 16)) = ls at hyI
    have hSl : ls.length = half := by rw [← hS, List.length_map, List.length_range, hAl]
    have eS : sumL (2 ^ Int.toNat 16) as bs = ls := hS
    rw [eS]
    try dsimp only
    k_steps
    walk_at "my nest"
    rename_i lF' tk8 tk9
    have hr : ∀ x ∈ ls, 0 ≤ x ∧ x < 65536 := by
      intro x hx
      rw [← hS] at hx
      obtain ⟨j, _, rfl⟩ := List.mem_map.mp hx
      exact ⟨fmod_lo _ (by decide), fmod_hi _ (by decide)⟩
    have hzl : (ls.flatMap fun k => [k.fdiv 256, k.fmod 256]).length ≤ sizeLine := by
      have := octL16_len ls
      unfold octL16 at this
      rw [this, sizeLine_eq]; omega
    refine ⟨D, ys, ys.length, ls, _, fun k => [k.fdiv 256, k.fmod 256], rfl, rfl, by assumption, N3, List.mem_cons_self, hyI, hzl, ?_, ?_⟩
    · intro k t I oI C oC D2 ys2 m₂ h tk hk hC hx F4 N4
      clear lF' N3
      try dsimp only
      k_steps
      rename_i T hh5 F5 N5 lo5
      refine ⟨⟨T, _, _, [_, _], rfl, rfl, F5, news_tail N5, ⟨_, (N5 _ List.mem_cons_self).1, rfl, _, rfl⟩, .cons _ _ (.cons _ _ .nil)⟩⟩
    · intro D2 zs neD2 hzI h tk F4 N4'
      clear lF' N3
      try dsimp only
      k_steps
      have N4 : News g L h ((D2, listOf zs.toArray zs.length) :: _) := N4'
      have hzI' : IntsAre zs (octL16 ls) := hzI
      have hin : ∀ x ∈ octL16 ls, 0 ≤ x ∧ x < 256 := by
        intro x hx
        unfold octL16 at hx
        obtain ⟨y, hy, hx⟩ := List.mem_flatMap.mp hx
        have h9 := hr y hy
        have m1 := fmod_lo y (show (0 : Int) < 256 by decide)
        have m2 := fmod_hi y (show (0 : Int) < 256 by decide)
        have d1 := fdiv_nn h9.1 (show (0 : Int) < 256 by decide)
        have d2 : y.fdiv 256 < 256 := by rw [Int.fdiv_eq_ediv_of_nonneg y (by decide)]; omega
        simp only [List.mem_cons, List.not_mem_nil, or_false] at hx
        rcases hx with rfl | rfl
        · exact ⟨d1, d2⟩
        · exact ⟨m1, m2⟩
      refine Halt.go (KBa.make_K F4 N4 rfl (News.isList N4 (by k_mem)) hzI' hin (by rw [octL16_len, hSl]; omega) ?_)
      intro h7 t7 k7 F7 N7 hi7
      try dsimp only
      exact ⟨⟨_, _, _, _, rfl, F7, news_tail (news_tail (news_tail (news_tail (news_tail N7)))), ⟨_, _, rfl, KBa.ints_make hi7, rfl⟩⟩⟩
def waysL (ws : List Int) (size : Nat) (ks : List Int) (i : Nat) : List Int := (List.range i).flatMap fun j => ws.getD j 0 :: chunk size ks j
theorem picked_chunk {oc : Array UInt8} {size rows i : Nat} (hlen : (KBw.bInts oc).length = rows * size) (hi : i < rows) : KBw.bInts (KBy.picked oc (some ((i : Int) * size)) (some ((i : Int) * size + size))) = chunk size (KBw.bInts oc) i := by
  rw [KBc.ints_picked rfl, hlen]
  simp only [Option.elim]
  have h1 := Nat.mul_le_mul_right size (show i + 1 ≤ rows from hi)
  rw [Nat.add_mul, Nat.one_mul] at h1
  have c1 : clipAt (rows * size) ((i : Int) * size) = i * size := by rw [← Int.natCast_mul, clipAt_nat]; omega
  have c2 : clipAt (rows * size) ((i : Int) * size + size) = i * size + size := by rw [← Int.natCast_mul, ← Int.natCast_add, clipAt_nat]; omega
  rw [c1, c2]
  unfold chunk
  congr 1; omega
theorem waysL_len {ws : List Int} {size rows : Nat} {ks : List Int} (hk : ks.length = rows * size) : ∀ i, i ≤ rows → (waysL ws size ks i).length = i * (size + 1)
  | 0, _ => by simp [waysL]
  | i + 1, hi => by
    have e : waysL ws size ks (i + 1) = waysL ws size ks i ++ (ws.getD i 0 :: chunk size ks i) := by simp [waysL, List.range_succ]
    rw [e, List.length_append, waysL_len hk i (by omega), List.length_cons, chunk_len hk hi, Nat.add_mul i 1, Nat.one_mul]
set_option maxHeartbeats 8000000 in
theorem withways_spec (w : World) (bl : Array UInt8) (tb ts : Tok) (wl : Addr) (nn size rows : Nat) (vs : List Value) (ws : List Int) (news : List (Addr × Obj)) (hm : (wl, listOf vs.toArray nn) ∈ news) (hi : IntsAre vs ws) (hr : ∀ x ∈ ws, 0 ≤ x ∧ x < 256)
    (hw : ws.length = rows) (hz : bl.size = rows * size) (hs : size ≤ 100) (hrw : rows ≤ 100) :
    Fn w 0 186 [.bytes bl tb, .ref wl, .int size ts] news (NewBytes (waysL ws size (KBw.bInts bl) rows) news) := by
  have hrs : rows * size ≤ 100 * 100 := Nat.mul_le_mul hrw hs
  have hkl : (KBw.bInts bl).length = rows * size := by rw [KBw.ints_length]; exact hz
  refine' fn_enter [((PySem.Str.ofString "block"), .bytes bl tb), ((PySem.Str.ofString "ways"), .ref wl), ((PySem.Str.ofString "size"), .int size ts)] ?ho ?hcd ?hb ?hl ?h1 ?h2 ?h3 ?h4 ?_
  case ho => k_dflt k_is
  case hcd => k_dflt k_is
  case hb => exact fun s => BindsTo.of_eq rfl
  case hl => exact locs rfl
  case h1 => exact rfl
  case h2 => exact rfl
  case h3 => exact rfl
  case h4 => decide
  intro mean mg mb dp un gd outer A₀ base g L h s hdp hun B F N lo X T
  have hret := True.intro
  k_steps
  walk_at "my forpair"
  rename_i tk1 h1 F1 N1 tk2
  refine Halt.go (kfor_enum news (fun c : Array UInt8 × Tok => [((PySem.Str.ofString "found"), .bytes c.1 c.2)]) (fun i c => KBw.bInts c.1 = waysL ws size (KBw.bInts bl) i) (#[], _) rfl hm F1 N1 (by walk_at "my ps") (by simp [waysL, KBw.bInts]) ?_ ?_)
  · intro i c t v h tk K hv hP hK F2 N2
    clear F1 N1
    obtain ⟨k, t9, rfl, hk⟩ := hi.at _ _ hv
    have hk9 := hr _ (List.mem_of_getElem? hk)
    have hir : i < rows := by rw [← hw]; exact (List.getElem?_eq_some_iff.mp hk).1
    have hcs : c.1.size = i * (size + 1) := by
      rw [← KBw.ints_length, hP]; exact waysL_len hkl i (by omega)
    have hcs2 := Nat.mul_le_mul (show i ≤ 100 by omega) (show size + 1 ≤ 101 by omega)
    have his := Nat.mul_le_mul_right size (show i + 1 ≤ rows by omega)
    rw [Nat.add_mul, Nat.one_mul] at his
    have hnn : 0 ≤ (i : Int) * size := Int.mul_nonneg (by omega) (by omega)
    try dsimp only
    k_steps
    rename_i tk3 l9 h3 F3 N3 lo3
    refine Halt.go (KBa.make_K F3 N3 rfl (News.isList N3 (by k_mem)) (.cons k _ .nil) (by intro x hx; rw [List.mem_singleton.mp hx]; exact hk9) (by simp) ?_)
    intro h7 t7 k7 F7 N7 hi7
    have hb7 : KBw.bInts (byteArr [k]) = [k] := KBa.ints_make hi7
    have hs7 : (byteArr [k]).size = 1 := by rw [← KBw.ints_length, hb7]; rfl
    try dsimp only
    k_steps
    rename_i t5 k5 hA5 h5 t6 k6 F6 N6 hP6 t8 k8 hA8 h8 F8 N8
    have e0 : KBw.bInts (KBy.picked bl (some ((i : Int) * size)) (some ((i : Int) * size + size))) = chunk size (KBw.bInts bl) i := picked_chunk hkl hir
    refine ⟨⟨rfl, _, _, _, rfl, F8, news_tail N8, (_, _), by walk_at "my ps", ?_, ?_⟩⟩
    · intro z h1 h2 h3
      simp only [List.forall_mem_cons, List.not_mem_nil, false_implies, implies_true, and_true] at h3
      simp [pairM, kstB, h1, h2, h3]
    · dsimp only
      rw [hA8, hA5, e0, hP, hb7]
      have e1 : ws.getD i 0 = k := by rw [List.getD_eq_getElem?_getD, hk]; rfl
      have e2 : waysL ws size (KBw.bInts bl) (i + 1) = waysL ws size (KBw.bInts bl) i ++ (ws.getD i 0 :: chunk size (KBw.bInts bl) i) := by simp [waysL, List.range_succ]
      rw [e2, e1]; simp
  · intro c v0 v1 h tk hP F2 N2
    clear F1 N1
    try dsimp only
    k_steps
    try dsimp only
    rw [hi.length, hw] at hP
    exact ⟨⟨_, _, _, _, rfl, F2, N2, ⟨_, _, rfl, hP, rfl⟩⟩⟩
def guessL (rs us : List Int) (a st wy : Int) : Int := if wy = 1 then (if st ≤ a then rs.getD (a - st).toNat 0 else 0) else if wy = 2 then (if a < us.length then us.getD a.toNat 0 else 0) else 0
theorem Fn.useG {w : World} {lv : Nat} {f : Addr} {args : List Value} {news : List (Addr × Obj)} {d : Int} (C : Fn w lv f args news (fun r news' => (∃ t, r = .int d t) ∧ news' = news))
    {mean : ExcName → Option Value} {mg mb : PySem.Str → Option Value} {A : Around} {env : Env} {outer : List Env} {A₀ : Around} {base h₀ : Heap} {L : Addr} {m : PySem.Str → Option Value} {s : Shared} {Q E : Value → Shared → Prop}
    (hh : A.handled = none) (hA : A.frames = some (env :: outer)) (hf : env.frame = some L) (hk : env.scope.kind = .function) (hd : A.depth + lv < 500) (hu : A.units + 4 * lv < 4000)
    (B : Below A₀ base outer h₀) (F : Fr h₀ L s.heap m) (X : (Mine.hd.heap_39 w.params).In h₀) (N : News h₀ L s.heap news) (T : MyTop mean mg mb h₀)
    (h : ∀ (t : Tok), ∀ h' tk', Fr h₀ L h' m → News h₀ L h' news → Q (.int d t) { s with heap := h', toks := tk' }) :
    wpAny (model myProg w) A (call (.ref f) args) Q E s :=
  Fn.use C hh hA hf hk hd hu B F X N T fun r news' h' tk' F' N' P' => by obtain ⟨⟨t, rfl⟩, rfl⟩ := P'; exact h t h' tk' F' N'
set_option maxHeartbeats 8000000 in
theorem guess_spec (w : World) (ra aa : Addr) (n1 n2 : Nat) (vs ws : List Value) (rs us : List Int) (a st wy : Int) (ta ts tw : Tok) (news : List (Addr × Obj)) (hm1 : (ra, listOf vs.toArray n1) ∈ news) (hm2 : (aa, listOf ws.toArray n2) ∈ news) (hi1 : IntsAre vs rs) (hi2 : IntsAre ws us)
    (ha : 0 ≤ a) (ha2 : a < rs.length) (hst : 1 ≤ st) (hw0 : 0 ≤ wy) (hw2 : wy ≤ 2) (hl1 : rs.length ≤ 1000) (hl2 : us.length ≤ 1000) :
    Fn w 0 134 [.ref ra, .ref aa, .int a ta, .int st ts, .int wy tw] news (fun r news' => (∃ t, r = .int (guessL rs us a st wy) t) ∧ news' = news) := by
  refine' fn_enter [((PySem.Str.ofString "row"), .ref ra), ((PySem.Str.ofString "above"), .ref aa), ((PySem.Str.ofString "at"), .int a ta), ((PySem.Str.ofString "step"), .int st ts), ((PySem.Str.ofString "way"), .int wy tw)] ?ho ?hcd ?hb ?hl ?h1 ?h2 ?h3 ?h4 ?_
  case ho => k_dflt k_is
  case hcd => k_dflt k_is
  case hb => exact fun s => BindsTo.of_eq rfl
  case hl => exact locs rfl
  case h1 => exact rfl
  case h2 => exact rfl
  case h3 => exact rfl
  case h4 => decide
  intro mean mg mb dp un gd outer A₀ base g L h s hdp hun B F N lo X T
  have hret := True.intro
  k_steps
  all_goals first
    | (exfalso; omega)
    | (try dsimp only
       refine ⟨⟨_, _, _, _, rfl, by k_asm, by k_asm, ⟨_, congrArg (fun z => Value.int z _) ?_⟩, rfl⟩⟩
       unfold guessL
       (repeat' split) <;> first | rfl | omega)
def pngStep (us : List Int) (po wy : Int) (rs : List Int) (k : Int) : List Int := rs ++ [(k + guessL (rs ++ [k]) us rs.length po wy).fmod 256]
def pngRow (us : List Int) (po wy : Int) (ks : List Int) : List Int := ks.foldl (pngStep us po wy) []
def pngA (po : Int) (size : Nat) (ws ks : List Int) : Nat → List Int
  | 0 => []
  | i + 1 => pngRow (pngA po size ws ks i) po (ws.getD i 0) (chunk size ks i)
def pngL (po : Int) (size : Nat) (ws ks : List Int) (i : Nat) : List Int := (List.range i).flatMap fun j => pngA po size ws ks (j + 1)
theorem pngRow_snoc {us : List Int} {po wy : Int} {ks : List Int} {i : Nat} {k : Int} (h : ks[i]? = some k) : pngRow us po wy (ks.take (i + 1)) = pngStep us po wy (pngRow us po wy (ks.take i)) k := by
  unfold pngRow
  rw [List.take_add_one, h, Option.toList_some, List.foldl_append]; rfl
theorem pngRow_len (us : List Int) (po wy : Int) : ∀ (ks : List Int) (rs : List Int), (ks.foldl (pngStep us po wy) rs).length = rs.length + ks.length
  | [], rs => by simp
  | k :: ks, rs => by rw [List.foldl_cons, pngRow_len us po wy ks]; simp [pngStep]; omega
theorem pngRow_range (us : List Int) (po wy : Int) : ∀ (ks : List Int) (rs : List Int), (∀ x ∈ rs, 0 ≤ x ∧ x < 256) → ∀ x ∈ ks.foldl (pngStep us po wy) rs, 0 ≤ x ∧ x < 256
  | [], rs, h => h
  | k :: ks, rs, h => by
    rw [List.foldl_cons]
    refine pngRow_range us po wy ks _ ?_
    intro x hx
    rcases List.mem_append.mp hx with hx | hx
    · exact h x hx
    · rw [List.mem_singleton.mp hx]
      exact ⟨fmod_lo _ (by decide), fmod_hi _ (by decide)⟩
theorem pngL_len {po : Int} {size rows : Nat} {ws ks : List Int} (hks : ks.length = rows * size) : ∀ i, i ≤ rows → (pngL po size ws ks i).length = i * size
  | 0, _ => by simp [pngL]
  | i + 1, hi => by
    have e : pngL po size ws ks (i + 1) = pngL po size ws ks i ++ pngA po size ws ks (i + 1) := by simp [pngL, List.range_succ]
    rw [e, List.length_append, pngL_len hks i (by omega)]
    show _ + (pngRow _ _ _ _).length = _
    unfold pngRow
    rw [pngRow_len, chunk_len hks hi, Nat.add_mul, Nat.one_mul]; simp
theorem waysL_split {ws : List Int} {size : Nat} {ks : List Int} {i : Nat} : ∀ {rows : Nat}, i < rows → ∃ rest, waysL ws size ks rows = waysL ws size ks i ++ (ws.getD i 0 :: chunk size ks i) ++ rest
  | 0, h => by omega
  | rows + 1, h => by
    have e : waysL ws size ks (rows + 1) = waysL ws size ks rows ++ (ws.getD rows 0 :: chunk size ks rows) := by simp [waysL, List.range_succ]
    by_cases hi : i < rows
    · obtain ⟨rest, hr⟩ := waysL_split (rows := rows) hi
      exact ⟨rest ++ (ws.getD rows 0 :: chunk size ks rows), by rw [e, hr, List.append_assoc]⟩
    · obtain rfl : i = rows := by omega
      exact ⟨[], by rw [e, List.append_nil]⟩
theorem ways_at {ws : List Int} {size rows : Nat} {ks : List Int} {i : Nat} (hk : ks.length = rows * size) (hi : i < rows) : (waysL ws size ks rows).getD (i * (size + 1)) 0 = ws.getD i 0 ∧ ((waysL ws size ks rows).drop (i * (size + 1) + 1)).take size = chunk size ks i := by
  obtain ⟨rest, hr⟩ := waysL_split (ws := ws) (size := size) (ks := ks) hi
  have hl := waysL_len (ws := ws) hk i (by omega)
  have hc := chunk_len hk hi
  rw [hr, ← hl]
  constructor
  · simp
  · rw [List.append_assoc, List.drop_append]
    simp only [List.drop_eq_nil_of_le (show (waysL ws size ks i).length ≤ (waysL ws size ks i).length + 1 by omega), List.nil_append, Nat.add_sub_cancel_left, List.cons_append, List.drop_succ_cons, List.drop_zero]
    exact List.take_left' hc
structure PngS where
  fv : List Value
  fn : Nat
  aa : Addr
  av : List Value
  an : Nat
  pt : Int
  tk : Tok
set_option maxHeartbeats 8000000 in
theorem png_spec (w : World) (oc : Array UInt8) (to : Tok) (sx : Addr) (colors columns bits po : Int) (size rows : Nat) (ws ks : List Int) (news : List (Addr × Obj)) (hs : ShapeIs news sx colors bits columns size po)
    (hoc : KBw.bInts oc = waysL ws size ks rows) (hks : ks.length = rows * size) (hws : ws.length = rows) (hw : ∀ x ∈ ws, 0 ≤ x ∧ x ≤ 2) (hpo : 1 ≤ po) (hpo2 : po ≤ 1000) (hs1 : 1 ≤ size) (hs2 : size ≤ 100) (hr : rows ≤ 100) :
    Fn w 1 141 [.bytes oc to, .ref sx] news (NewBytes (pngL po size ws ks rows) news) := by
  have hrs : rows * size ≤ 100 * 100 := Nat.mul_le_mul hr hs2
  have hz : oc.size = rows * (size + 1) := by rw [← KBw.ints_length, hoc]; exact waysL_len hks rows (Nat.le_refl _)
  have hrs2 : rows * (size + 1) ≤ 100 * 101 := Nat.mul_le_mul hr (by omega)
  obtain ⟨sd, h1, h2, h3, h4, h5, k1, k2, k3, k4, k5, t1, t2, t3, t4, t5, hsx, hsd⟩ := hs.ex
  unfold shapeDict at hsd
  refine' fn_enter [((PySem.Str.ofString "octets"), .bytes oc to), ((PySem.Str.ofString "shape"), .ref sx)] ?ho ?hcd ?hb ?hl ?h1 ?h2 ?h3 ?h4 ?_
  case ho => k_dflt k_is
  case hcd => k_dflt k_is
  case hb => exact fun s => BindsTo.of_eq rfl
  case hl => exact locs rfl
  case h1 => exact rfl
  case h2 => exact rfl
  case h3 => exact rfl
  case h4 => decide
  intro mean mg mb dp un gd outer A₀ base g L h s hdp hun B F N lo X T
  have hret := True.intro
  k_steps
  rename_i tk1 fA hh1 lo1 aA hh2 lo2 dA hh3 lo3 hh4 hh5 hh6 hh7 F1 N1' tk2
  have N1 := news_tail N1'
  clear N1'
  have lof : AllNe fA news := AllLt.ne (allLt_of lo1)
  refine Halt.go (kwhile rows (fun c : PngS => (c.aa, listOf c.av.toArray c.an) :: (fA, listOf c.fv.toArray c.fn) :: news) (fun c => [((PySem.Str.ofString "above"), .ref c.aa), ((PySem.Str.ofString "at"), .int c.pt c.tk)]) [(PySem.Str.ofString "way"), (PySem.Str.ofString "row"), (PySem.Str.ofString "octet")]
    (fun i c => IntsAre c.fv (pngL po size ws ks i) ∧ IntsAre c.av (pngA po size ws ks i) ∧ @Ne Nat c.aa fA ∧ AllNe c.aa news ∧ c.pt = (i : Int) * (size + 1)) ⟨[], 0, aA, [], 0, 0, _⟩ F1 N1 (by walk_at "my ps") ⟨.nil, .nil, (Nat.ne_of_lt lo2.1).symm, AllLt.ne lo2.2, by simp⟩ ?_ ?_)
  · rintro i c u h tk hi ⟨hP1, hP2, hP3, hP4, hP5⟩ F2 N2
    clear F1 N1
    try dsimp only
    k_steps
    have his := Nat.mul_le_mul_right (size + 1) (show i + 1 ≤ rows by omega)
    rw [Nat.add_mul, Nat.one_mul] at his
    have e5 : c.pt = ((i * (size + 1) : Nat) : Int) := by rw [hP5]; push_cast; rfl
    have e6 : c.pt.toNat = i * (size + 1) := by rw [e5]; rfl
    have hp0 : 0 ≤ c.pt := by omega
    have hpN : c.pt + (size + 1) ≤ oc.size := by omega
    obtain ⟨hA1, hA2⟩ := ways_at (ws := ws) hks hi
    rw [← hoc, ← e6] at hA1
    have hwl : ws.getD i 0 ∈ ws := by
      rw [List.getD_eq_getElem?_getD, List.getElem?_eq_getElem (by omega)]; exact List.getElem_mem _
    obtain ⟨hw0, hw2⟩ := hw _ hwl
    refine ⟨by simp; omega, ?_⟩
    k_steps
    all_goals (try (exfalso; omega))
    walk_at "my for"
    rename_i tk3 tw k3 itLo itHi hh8 tk4 tk5 rA hh9 lor hh10 tk6 hh11 tb k7 F3 N3 hPick
    have hcl : KBw.bInts (KBy.picked oc (some (c.pt + 1)) (some (c.pt + 1 + size))) = chunk size ks i := by
      have hlen : (KBw.bInts oc).length = rows * (size + 1) := by rw [KBw.ints_length, hz]
      rw [hPick]
      simp only [Option.elim]
      have c1 : clipAt (KBw.bInts oc).length (c.pt + 1) = i * (size + 1) + 1 := by
        rw [hlen, e5, show ((i * (size + 1) : Nat) : Int) + 1 = ((i * (size + 1) + 1 : Nat) : Int) by push_cast; rfl, clipAt_nat]; omega
      have c2 : clipAt (KBw.bInts oc).length (c.pt + 1 + size) = i * (size + 1) + 1 + size := by
        rw [hlen, e5, show ((i * (size + 1) : Nat) : Int) + 1 + size = ((i * (size + 1) + 1 + size : Nat) : Int) by push_cast; rfl, clipAt_nat]; omega
      rw [c1, c2, hoc, Nat.add_sub_cancel_left]
      exact hA2
    rw [hA1] at F3
    generalize hwy : ws.getD i 0 = wy at F3 hw0 hw2
    have hcn : (chunk size ks i).length = size := chunk_len hks hi
    generalize hus : pngA po size ws ks i = us at hP2
    have husl : us.length ≤ 1000 := by
      rw [← hus]
      cases i with
      | zero => simp [pngA]
      | succ j =>
        show (pngRow _ _ _ _).length ≤ 1000
        unfold pngRow
        rw [pngRow_len, chunk_len hks (by omega)]; simp; omega
    refine kfor_bytes (fun c2 : List Value × Nat => (rA, listOf c2.1.toArray c2.2) :: (c.aa, listOf c.av.toArray c.an) :: (fA, listOf c.fv.toArray c.fn) :: news) (fun _ => []) [] (fun j c2 => IntsAre c2.1 (pngRow us po wy ((chunk size ks i).take j))) ([], 0) rfl F3 N3 (by walk_at "my ps") .nil ?_ ?_
    · intro j c2 k t u2 h tk I oI hk hk0 hk1 hQ off F4 N4
      clear F3 N3
      simp only [AllNe] at off
      rw [hcl] at hk
      have hj : j < size := by rw [← hcn]; exact (List.getElem?_eq_some_iff.mp hk).1
      have hRl : (pngRow us po wy ((chunk size ks i).take j)).length = j := by
        unfold pngRow
        rw [pngRow_len, List.length_take]; simp; omega
      have hstep := pngRow_snoc (us := us) (po := po) (wy := wy) hk
      generalize pngRow us po wy ((chunk size ks i).take j) = R at hQ hRl hstep
      have hQl := hQ.length
      have hQ2 : IntsAre (c2.1 ++ [Value.int k t]) (R ++ [k]) := ints_snoc hQ
      have hR2 : (R ++ [k]).length = j + 1 := by simp [hRl]
      try dsimp only
      k_steps
      rename_i tk8 hh12 F5 N5 tk9
      refine Halt.go ?_
      refine' Fn.useG (guess_spec w _ _ _ _ _ _ _ _ _ _ _ _ _ _ _ ?hm1 ?hm2 hQ2 hP2 ?ha ?ha2 hpo hw0 hw2 ?hl1 ?hl2) ?c1 ?c2 ?c3 ?c4 ?c5 ?c6 ?cB ?cF ?cX ?cN ?cT ?_
      case c1 => exact rfl
      case c2 => exact rfl
      case c3 => exact rfl
      case c4 => exact rfl
      case c5 => (first | exact dep hdp (Nat.le_of_ble_eq_true rfl) | (dsimp only; omega) | exact Nat.le_of_ble_eq_true rfl)
      case c6 => (first | exact dep4 hun (Nat.le_of_ble_eq_true rfl) | (dsimp only; omega) | exact Nat.le_of_ble_eq_true rfl)
      case cB => assumption
      case cF => k_asm
      case cX => assumption
      case cN => k_asm
      case cT => assumption
      case hm1 => k_mem
      case hm2 => k_mem
      case ha => omega
      case ha2 => omega
      case hl1 => omega
      case hl2 => exact husl
      intro t9 h9 tk9 F9 N9
      clear F5 N5
      try dsimp only
      k_steps
      walk_at "my end"
      refine ⟨(c2.1 ++ [_], _), rfl, by walk_at "my ps", by walk_at "my fr", ?_⟩
      try dsimp only
      rw [hstep]
      unfold pngStep
      have e9 : ((R ++ [k]).length : Int) - 1 = R.length := by simp
      rw [← e9]
      exact ints_snoc hQ
    · intro c2 u2 h tk hQ F4 N4
      clear F3 N3
      rw [hcl, List.take_length] at hQ
      have hrl : (pngRow us po wy (chunk size ks i)).length = size := by unfold pngRow; rw [pngRow_len, hcn]; simp
      have hPl := hP1.length
      rw [pngL_len hks i (by omega)] at hPl
      have his3 := Nat.mul_le_mul (show i ≤ 100 by omega) hs2
      have hQl := hQ.length
      rw [hrl] at hQl
      try dsimp only
      k_steps
      rename_i tk7 hh13 F5 N5 tk8 hh14 tk9 hh15 F6 N6
      refine ⟨⟨rfl, _, _, _, ⟨c.fv ++ c2.1, c.fn + 1, rA, c2.1, c2.2, c.pt + 1 + size, _⟩, rfl, F6, news_drop2 N6, by walk_at "my ps", ?_, ?_, ?_, ?_, ?_, ?_⟩⟩
      · intro z h1 h2
        simp only [List.contains_cons, List.contains_nil, Bool.or_false, Bool.or_eq_false_iff, beq_eq_false_iff_ne, ne_eq, List.forall_mem_cons, List.not_mem_nil, false_implies, implies_true, and_true] at h1 h2
        simp [doneM, turnM, kstB, h1, h2]
      · have e : pngL po size ws ks (i + 1) = pngL po size ws ks i ++ pngA po size ws ks (i + 1) := by simp [pngL, List.range_succ]
        rw [e]
        have e2 : pngA po size ws ks (i + 1) = pngRow us po wy (chunk size ks i) := by rw [← hus, ← hwy]; rfl
        rw [e2]
        exact hP1.append hQ
      · have e2 : pngA po size ws ks (i + 1) = pngRow us po wy (chunk size ks i) := by rw [← hus, ← hwy]; rfl
        rw [e2]; exact hQ
      · exact Nat.ne_of_gt lor.2.1
      · exact AllLt.ne lor.2.2
      · try dsimp only
        rw [e5]; push_cast; rw [Int.add_mul, Int.one_mul]; omega
  · rintro c u h tk ⟨hP1, hP2, hP3, hP4, hP5⟩ F2 N2
    clear F1 N1
    try dsimp only
    k_steps
    have hrange : ∀ x ∈ pngL po size ws ks rows, 0 ≤ x ∧ x < 256 := by
      intro x hx
      obtain ⟨j, _, hx⟩ := List.mem_flatMap.mp hx
      exact pngRow_range _ _ _ _ [] (fun _ h => nomatch h) x hx
    have e5 : c.pt = ((rows * (size + 1) : Nat) : Int) := by rw [hP5]; push_cast; rfl
    refine ⟨by simp; omega, ?_⟩
    k_steps
    refine Halt.go (KBa.make_K F2 N2 rfl (News.isList N2 (by k_mem)) hP1 hrange (by rw [pngL_len hks rows (Nat.le_refl _)]; omega) ?_)
    intro h7 t7 k7 F7 N7 hi7
    try dsimp only
    exact ⟨⟨_, _, _, _, rfl, F7, news_tail (news_tail N7), ⟨_, _, rfl, KBa.ints_make hi7, rfl⟩⟩⟩
/-- a block of drawn octets, the pen moved on -/
def DrawnBytes (pn q : Addr) (k n : Nat) (news : List (Addr × Obj)) (r : Value) (news' : List (Addr × Obj)) : Prop := ∃ b t ob', r = Value.bytes b t ∧ b.size = n ∧ PenIn q (k + n) ob' ∧ news' = (pn, ob') :: news
theorem Fn.useDB {w : World} {lv : Nat} {f : Addr} {args : List Value} {news : List (Addr × Obj)} {pn q : Addr} {ob : Obj} {k z : Nat} (C : Fn w lv f args ((pn, ob) :: news) (DrawnBytes pn q k z news))
    {mean : ExcName → Option Value} {mg mb : PySem.Str → Option Value} {A : Around} {env : Env} {outer : List Env} {A₀ : Around} {base h₀ : Heap} {L : Addr} {m : PySem.Str → Option Value} {s : Shared} {Q E : Value → Shared → Prop}
    (hh : A.handled = none) (hA : A.frames = some (env :: outer)) (hf : env.frame = some L) (hk : env.scope.kind = .function) (hd : A.depth + lv < 500) (hu : A.units + 4 * lv < 4000)
    (B : Below A₀ base outer h₀) (F : Fr h₀ L s.heap m) (X : (Mine.hd.heap_39 w.params).In h₀) (N : News h₀ L s.heap ((pn, ob) :: news)) (T : MyTop mean mg mb h₀)
    (h : ∀ (b : Array UInt8) (t : Tok) (ob' : Obj), b.size = z → PenIn q (k + z) ob' → ∀ h' tk', Fr h₀ L h' m → News h₀ L h' ((pn, ob') :: news) → Q (.bytes b t) { s with heap := h', toks := tk' }) :
    wpAny (model myProg w) A (call (.ref f) args) Q E s :=
  Fn.use C hh hA hf hk hd hu B F X N T fun r news' h' tk' F' N' P' => by obtain ⟨b, t, ob2, rfl, hz, hp, rfl⟩ := P'; exact h b t ob2 hz hp h' tk' F' N'
set_option maxHeartbeats 8000000 in
theorem block_spec (w : World) (pn q : Addr) (tn : Tok) (n k : Nat) (ob : Obj) (nq : Nat) (vs : List Value) (ns : List Int) (news : List (Addr × Obj)) (hi : IntsAre vs ns) (hp : PenIn q k ob) (hk9 : k + n < 1000) (hn : n ≤ 400)
    (hl : ns.length ≤ 63) (hd : ∀ x ∈ news, x.1 ≠ pn) (hq : (q, listOf vs.toArray nq) ∈ news) :
    Fn w 1 167 [.ref pn, .int n tn] ((pn, ob) :: news) (DrawnBytes pn q k n news) := by
  refine' fn_enterC [((PySem.Str.ofString "pen"), .ref pn), ((PySem.Str.ofString "size"), .int n tn)] (fun y => if y = (PySem.Str.ofString "size") then some (.int n tn) else none) ?ho ?hcd ?hb ?hkd ?hnd ?hm ?h1 ?h2 ?h3 ?_
  case ho => k_dflt k_is
  case hcd => k_dflt k_is
  case hb => exact fun s => BindsTo.of_eq rfl
  case hkd => exact rfl
  case hnd => decide +kernel
  case hm => exact fun _ => rfl
  case h1 => exact rfl
  case h2 => exact rfl
  case h3 => exact rfl
  intro mean mg mb dp un gd outer A₀ base g L h s tk cells hdp hun B F N lo Y X T
  have lo2 := allLt_of lo
  k_cells Y
  simp only [List.cons_append, List.nil_append] at N
  have hret := True.intro
  k_steps
  walk_at "my comp"
  rename_i o1 d1 tk1 hh1 tk2 r1 r2 r3 R1 F1 N1 G1
  have lo3 : @Ne Nat (L + 1) pn := by
    have := lo2.1
    have h9 : (pn : Nat) < L := this
    exact Nat.ne_of_gt (Nat.lt_succ_of_lt h9)
  refine kcomp_range n (fun i => (i : Int)) (by intros; omega) (fun i ys nw => ∃ ob' ks, nw = (L + 1, o1) :: (pn, ob') :: news ∧ PenIn q (k + i) ob' ∧ IntsAre ys ks ∧ ks.length = i ∧ ∀ x ∈ ks, 0 ≤ x ∧ x < 256) rfl R1 (small_step (by omega) (by omega) (by omega) (by omega) (by omega) (by omega)) rsize_one (by rw [sizeLine_eq]; omega) F1 N1 ⟨ob, [], rfl, hp, .nil, rfl, fun _ h => nomatch h⟩ ?_ ?_
  · rintro i ys nw t I oI C oC D m₂ h tk hi9 ⟨ob', ks, rfl, hp', hI, hkl, hkr⟩ hC hx F2 N2 n1 n2 n3 n4 n5 n6
    clear F1 N1 G1
    simp only [AllNe] at n1 n2 n3
    have N3 : News g L h ((pn, ob') :: (I, oI) :: (C, oC) :: (D, LCg.lst ys) :: (L + 1, o1) :: news) := fun p hp => N2 p (by
      simp only [List.mem_cons] at hp ⊢
      rcases hp with h | h | h | h | h | h <;> simp [h])
    clear N2
    try dsimp only
    k_steps
    refine Halt.go ?_
    refine' Fn.useD (draw_spec w pn q _ 256 (k + i) ob' nq vs ns _ hi (by omega) hp' (by omega) hl ?hd ?hq) ?c1 ?c2 ?c3 ?c4 ?c5 ?c6 ?cB ?cF ?cX ?cN ?cT ?_
    case c1 => exact rfl
    case c2 => exact rfl
    case c3 => exact rfl
    case c4 => exact rfl
    case c5 => (first | exact dep hdp (Nat.le_of_ble_eq_true rfl) | (dsimp only; omega) | exact Nat.le_of_ble_eq_true rfl)
    case c6 => (first | exact dep4 hun (Nat.le_of_ble_eq_true rfl) | (dsimp only; omega) | exact Nat.le_of_ble_eq_true rfl)
    case cB => assumption
    case cF => k_asm
    case cX => assumption
    case cN => k_asm
    case cT => assumption
    case hd =>
      intro x hx
      simp only [List.mem_cons] at hx
      rcases hx with rfl | rfl | rfl | rfl | hx
      · exact (Ne.symm n1.2.1)
      · exact (Ne.symm n2.2.1)
      · exact (Ne.symm n3.2.1)
      · exact lo3
      · exact hd x hx
    case hq => k_mem
    intro d t9 ob9 hd0 hd1 hp9 h9 tk9 F9 N9
    try dsimp only
    refine ⟨⟨h9, _, (L + 1, o1) :: (pn, ob9) :: news, rfl, F9, fun p hp => N9 p (by
      simp only [List.mem_cons] at hp ⊢
      rcases hp with h | h | h | h | h | h <;> simp [h]), ?_, ?_, ?_, ob9, ks ++ [d], rfl, by rw [← Nat.add_assoc]; exact hp9, ints_snoc hI, by simp [hkl], ?_⟩⟩
    · exact n1
    · exact n2
    · exact n3
    · intro x hx
      rcases List.mem_append.mp hx with hx | hx
      · exact hkr x hx
      · rw [List.mem_singleton.mp hx]; exact ⟨hd0, hd1⟩
  · rintro ys nw D h tk ⟨ob', ks, rfl, hp', hI, hkl, hkr⟩ F2 N2 n1
    clear F1 N1 G1
    have N3 : News g L h ((D, listOf ys.toArray ys.length) :: _) := N2
    try dsimp only
    k_steps
    refine Halt.go (KBa.make_K F2 N3 rfl (News.isList N3 (by k_mem)) hI hkr (by omega) ?_)
    intro h7 t7 k7 F7 N7 hi7
    try dsimp only
    exact ⟨⟨_, _, _, _, rfl, F7, news_tail (news_tail N7), ⟨_, _, ob', rfl, by rw [← KBw.ints_length, KBa.ints_make hi7]; exact hkl, hp', rfl⟩⟩⟩
/-- a shape made -/
def NewShape (c b l ro po : Int) (news : List (Addr × Obj)) (r : Value) (news' : List (Addr × Obj)) : Prop :=
  ∃ sx sd oD, r = Value.ref sx ∧ (∀ nw : List (Addr × Obj), (sx, instObj 78 sd) ∈ nw → (sd, oD) ∈ nw → ShapeIs nw sx c b l ro po) ∧ (∀ p ∈ news, p.1 < sd) ∧ sd < sx ∧ news' = (sx, instObj 78 sd) :: (sd, oD) :: news
theorem Fn.useS {w : World} {lv : Nat} {f : Addr} {args : List Value} {news : List (Addr × Obj)} {c b l ro po : Int} (C : Fn w lv f args news (NewShape c b l ro po news))
    {mean : ExcName → Option Value} {mg mb : PySem.Str → Option Value} {A : Around} {env : Env} {outer : List Env} {A₀ : Around} {base h₀ : Heap} {L : Addr} {m : PySem.Str → Option Value} {s : Shared} {Q E : Value → Shared → Prop}
    (hh : A.handled = none) (hA : A.frames = some (env :: outer)) (hf : env.frame = some L) (hk : env.scope.kind = .function) (hd : A.depth + lv < 500) (hu : A.units + 4 * lv < 4000)
    (B : Below A₀ base outer h₀) (F : Fr h₀ L s.heap m) (X : (Mine.hd.heap_39 w.params).In h₀) (N : News h₀ L s.heap news) (T : MyTop mean mg mb h₀)
    (h : ∀ (sx sd : Addr) (oD : Obj), (∀ nw : List (Addr × Obj), (sx, instObj 78 sd) ∈ nw → (sd, oD) ∈ nw → ShapeIs nw sx c b l ro po) → (∀ p ∈ news, p.1 < sd) → sd < sx → ∀ h' tk', Fr h₀ L h' m → News h₀ L h' ((sx, instObj 78 sd) :: (sd, oD) :: news) → Q (.ref sx) { s with heap := h', toks := tk' }) :
    wpAny (model myProg w) A (call (.ref f) args) Q E s :=
  Fn.use C hh hA hf hk hd hu B F X N T fun r news' h' tk' F' N' P' => by obtain ⟨sx, sd, oD, rfl, hS, lo, lt, rfl⟩ := P'; exact h sx sd oD hS lo lt h' tk' F' N'
inductive ShapeMark : Prop | mk
theorem shape_words : True := by
  k_with "execs cons" => ((rename ShapeMark => hMk); k_here; with_reducible refine execs_cons_gen ?_; intro _; dsimp only; (rename News _ _ _ _ => N9); (try dsimp only at N9))
  trivial
set_option maxHeartbeats 8000000 in
theorem shape_spec (w : World) (c b l : Int) (tc tb tl : Tok) (news : List (Addr × Obj)) (hc : 1 ≤ c) (hc3 : c ≤ 3) (hb : 1 ≤ b) (hb16 : b ≤ 16) (hl : 1 ≤ l) (hl5 : l ≤ 5) :
    Fn w 1 78 [.int c tc, .int b tb, .int l tl] news (NewShape c b l ((c * b * l + 7).fdiv 8) ((c * b + 7).fdiv 8) news) := by
  intro mean mg mb A env outer A₀ base h₀ L m s hh hA hf hke hd hu B F X N T
  obtain ⟨hd', dp, fr, gd, un⟩ := A
  cases hh; cases hA
  have hdp : dp + 1 < 500 := hd
  have hun : un + 4 * 1 < 4000 := hu
  clear hd hu
  cases env
  rename_i sc lo gl ce qu fu co fr bu
  obtain ⟨ki, na, ig, ic, mo⟩ := sc
  cases hke
  cases hf
  have hret := True.intro
  have hMark : ShapeMark := ShapeMark.mk
  refine' call_cls ?k1 ?k2 ?k3 ?k4 ?k5 ?k6 ?_
  case k1 => exact F
  case k2 => exact X
  case k3 => exact N
  case k4 => k_is
  case k5 => k_is
  case k6 => k_is
  intro x' d' h' F' N' l1 l2
  refine' code_def (binds := [((PySem.Str.ofString "self"), .ref x'), ((PySem.Str.ofString "colors"), .int c tc), ((PySem.Str.ofString "bits"), .int b tb), ((PySem.Str.ofString "columns"), .int l tl)]) ?k1 ?k2 ?k3 ?k4 ?k5 ?kA ?k6a ?k6b ?k6 ?k7 ?k8 ?k9 ?kB ?_ ?cK ?c2 ?c3 ?c4
  case k1 => exact B
  case k2 => exact F'
  case k3 => exact X
  case k4 => exact N'
  case k5 => exact T
  case kA => exact rfl
  case k6a => exact rfl
  case k6b => exact rfl
  case k6 => k_is
  case k7 => k_is
  case k8 => simp only [depth_under_make]; show dp + 1 < 1000; omega
  case k9 => exact BindsTo.of_eq rfl
  case kB => exact locs rfl
  case cK => exact rfl
  case c2 => exact rfl
  case c3 => exact rfl
  case c4 => decide
  intro g' L' h'' FG' F'' N'' B' X' T'
  try dsimp only
  clear F' N' F N X
  have N := N''
  clear N''
  k_steps
  rename_i F9 N9
  refine leaveK_ F9 N9 ?_
  intro kF kN
  dsimp only [InitBack]
  refine ⟨rfl, ?_⟩
  exact ⟨⟨_, _, _, rfl, kF, kN, x', d', _, rfl, fun nw m1 m2 => ⟨⟨d', _, _, _, _, _, _, _, _, _, _, _, _, _, _, _, m1, m2⟩⟩, l1, l2, rfl⟩⟩
/-- all that the law needs to know of a depth of samples -/
structure LawKit (w : World) (bits : Int) (c l size rows : Nat) (S : List Int → List Int) (SUM : List Int → List Int → List Int) (rowF rowB : List Int → List Int) : Prop where
  samp : ∀ (b : Array UInt8) (tr tb : Tok) (nw : List (Addr × Obj)), b.size = rows * size → Fn w 0 92 [.bytes b tr, .int bits tb] nw (NewList (S (KBw.bInts b)) nw)
  lsamp : ∀ (b : Array UInt8) (tr tb : Tok) (nw : List (Addr × Obj)), b.size = rows * size → Fn w 0 179 [.bytes b tr, .int bits tb] nw (NewList (S (KBw.bInts b)) nw)
  slen : ∀ ks : List Int, ks.length = rows * size → (S ks).length ≤ 4000
  sum : ∀ (b1 b2 : Array UInt8) (t1 t2 tb : Tok) (nw : List (Addr × Obj)), b1.size = rows * size → b2.size = rows * size → Fn w 1 172 [.bytes b1 t1, .bytes b2 t2, .int bits tb] nw (NewBytes (SUM (KBw.bInts b1) (KBw.bInts b2)) nw)
  sumlen : ∀ A B : List Int, A.length = rows * size → B.length = rows * size → (SUM A B).length = rows * size
  rf : ∀ (sx : Addr) (po : Int), RowT w false sx c l bits po size rowF
  rb : ∀ (sx : Addr) (po : Int), RowT w true sx c l bits po size rowB
  linF : ∀ A B : List Int, A.length = rows * size → B.length = rows * size → (∀ x ∈ A, 0 ≤ x ∧ x < 256) → (∀ x ∈ B, 0 ≤ x ∧ x < 256) → tiffL rowF size rows (SUM A B) = SUM (tiffL rowF size rows A) (tiffL rowF size rows B)
  linB : ∀ A B : List Int, A.length = rows * size → B.length = rows * size → (∀ x ∈ A, 0 ≤ x ∧ x < 256) → (∀ x ∈ B, 0 ≤ x ∧ x < 256) → tiffL rowB size rows (SUM A B) = SUM (tiffL rowB size rows A) (tiffL rowB size rows B)
  zF : tiffL rowF size rows (List.replicate (rows * size) 0) = List.replicate (rows * size) 0
  zB : tiffL rowB size rows (List.replicate (rows * size) 0) = List.replicate (rows * size) 0
theorem flatMap_congr' {α β : Type} {f g : α → List β} : ∀ {l : List α}, (∀ x ∈ l, f x = g x) → l.flatMap f = l.flatMap g
  | [], _ => rfl
  | x :: l, h => by
    rw [List.flatMap_cons, List.flatMap_cons, h x List.mem_cons_self, flatMap_congr' fun y hy => h y (List.mem_cons_of_mem _ hy)]
theorem tiffL_append (rowT : List Int → List Int) {size rows : Nat} {A B : List Int} (hA : A.length = rows * size) : tiffL rowT size (rows + rows) (A ++ B) = tiffL rowT size rows A ++ tiffL rowT size rows B := by
  unfold tiffL
  rw [List.range_add, List.flatMap_append, List.flatMap_map]
  congr 1
  · refine flatMap_congr' fun i hi => ?_
    have hi := List.mem_range.mp hi
    have h1 := Nat.mul_le_mul_right size (show i + 1 ≤ rows by omega)
    rw [Nat.add_mul, Nat.one_mul] at h1
    congr 1
    unfold chunk
    rw [List.drop_append_of_le_length (by omega), List.take_append_of_le_length (by rw [List.length_drop]; omega)]
  · refine flatMap_congr' fun i hi => ?_
    congr 1
    unfold chunk
    rw [Nat.add_mul, ← hA, List.drop_append, List.drop_eq_nil_of_le (by omega), List.nil_append, Nat.add_sub_cancel_left]
section
variable {prog : Program} {w : World} {A : Around} {E : Value → Shared → Prop} {s : Shared} {env : Env} {h₀ : Heap} {x : PySem.Str} {body : List Stmt} {Q : Flow → Shared → Prop} {m₀ : PySem.Str → Option Value}
theorem kfor_tuple {σ : Type} {l : Addr} {vs : Array Value} {ol : Obj} (Led : σ → List (Addr × Obj)) (ps : σ → List (PySem.Str × Value)) (stored : List PySem.Str) (P : Nat → σ → Prop) (c₀ : σ)
    (hh : A.handled = none) (hol : ol.cls = .type "tuple") (n : Nat) (hol2 : ol.data = .seq vs n) (hsrc : ∀ i c, P i c → (l, ol) ∈ Led c) (F : Fr h₀ env.locals s.heap m₀) (N : News h₀ env.locals s.heap (Led c₀)) (hk : ∀ p ∈ ps c₀, m₀ p.1 = some p.2) (hp : P 0 c₀)
    (turn : ∀ (i : Nat) (c : σ) (v : Value) (u : PySem.Str → Option Value) (h : Heap) (tk : Nat) (I : Addr) (oI : Obj), vs[i]? = some v → P i c → AllNe I (Led c) → Fr h₀ env.locals h (turnM x v (ps c) stored u m₀) → News h₀ env.locals h ((I, oI) :: Led c) →
      wpAny (model prog w) A (execs body env) (TurnEnd h₀ env.locals I oI (JSt Led ps x stored m₀ (P (i + 1))) { s with heap := h, toks := tk } Q) E { s with heap := h, toks := tk })
    (done : ∀ (c : σ) (u : PySem.Str → Option Value) (h : Heap) (tk : Nat), P vs.size c → Fr h₀ env.locals h (doneM x (ps c) stored u m₀) → News h₀ env.locals h (Led c) → Q .next { s with heap := h, toks := tk }) :
    wpAny (model prog w) A (pyIter (.ref l)) (fun it s₂ => LoopAtV prog w A h₀ env x body Q E it s₂) E s := by
  have ml := N _ (hsrc 0 c₀ hp)
  have hls : s.heap.IsTuple l vs := ⟨_, ml.1, hol, _, hol2⟩
  have hne : l ≠ s.heap.objs.size := Nat.ne_of_lt (Heap.lt_size ml.1)
  refine wpAny_pyIter_tuple hls ?_
  refine loop_core (s := { s with heap := s.heap.push _ }) [(l, ol)] Led ps stored P c₀ (Walks.tuple hh s.heap.objs.size l hne vs) ?_ (next_is_new F) (fun b' hb => ?_) (fun i c hP p hp' => by rw [List.mem_singleton.mp hp']; exact hsrc i c hP) ?_ ⟨⟨_, Heap.get?_push_size _ rfl, rfl, rfl⟩, hls.at fun o e => Heap.get?_push_of_some _ e⟩ (F.push _) (fun p hp' => ⟨Heap.get?_push_of_some _ (N p hp').1, (N p hp').2⟩) ?_ hk hp ?_ ?_
  · intro hm
    rcases List.mem_cons.mp hm with e | hm
    · exact absurd F.ns.lt (e ▸ Nat.lt_irrefl _)
    · exact ml.2.1 (List.mem_singleton.mp hm).symm
  · rcases List.mem_cons.mp hb with e | hm
    · exact .inl e
    · exact .inr ⟨_, List.mem_singleton.mpr (by rw [List.mem_singleton.mp hm])⟩
  · rintro i h ⟨⟨o, ho, _⟩, _⟩; exact ⟨o, ho⟩
  · intro p hp' e; exact absurd (Heap.lt_size (N p hp').1) (e ▸ Nat.lt_irrefl _)
  · rintro i c v u h tk oI hi hv hP off F₁ N₁
    exact turn i c v u h tk _ oI hv hP off F₁ N₁
  · exact fun c u h tk hP F₁ N₁ => done c u h tk hP F₁ N₁
end
section
variable {prog : Program} {w : World} {A : Around} {E : Value → Shared → Prop} {s : Shared}
theorem int_no_bytes : typeLookup (.type "int") "__bytes__" = pure none := by rw [typeLookup_type, builtinLookup_eq_fast]; kernel_rfl
theorem int_has_index : typeLookup (.type "int") "__index__" = pure (some (.builtin "int.__index__")) := by rw [typeLookup_type, builtinLookup_eq_fast]; kernel_rfl
theorem bm_new_int {n : Nat} {t : Tok} {Q : Value → Shared → Prop} (hz : n ≤ 1000000)
    (hQ : ∀ t' k, Q (.bytes (Array.replicate n 0) t') { s with toks := k }) :
    codeAny (model prog w) A (.call (.builtin "bytes.__new__") ⟨[.type "bytes", .int (n : Int) t], []⟩) (wants Q E) s := by
  refine codeAny_of_tree ?_
  show wpAny _ A.in1 (do checkBuiltinCall "bytes.__new__" ⟨[.type "bytes", .int (n : Int) t], []⟩; again (.builtin "bytes.__new__" ⟨[.type "bytes", .int (n : Int) t], []⟩)) _ _ s
  refine wpAny_bind (wpAny_of_eq (F.bm_newCall _) (wpAny_pure ⟨plainId_quiet F.bm_plain _, codeAny_builtin F.bm_entry ?_⟩))
  rw [Around.under_plainId F.bm_plain _]
  have hT : s.TypeIs (.int (n : Int) t) "int" := typeIs_int s _ _
  unfold Builtin.«bytes.__new__»
  generalize hN : (n : Int) = N at *
  refine wpAny_bind (wpAny_of_eq (a := true) rfl ?_)
  refine bm_if_false rfl ?_
  refine wpAny_bind (wpAny_of_eq F.bm_sub ?_)
  refine bm_if_false rfl ?_
  refine wpAny_bind (wpAny_of_eq (F.bm_bind _) ?_)
  refine wpAny_bind (wpAny_of_eq (a := ()) rfl ?_)
  refine wpAny_bind (wpAny_of_eq (a := ()) rfl ?_)
  refine bm_if_false rfl ?_
  refine wpAny_bind (wpAny_specialOf hT int_no_bytes ?_)
  refine wpAny_bind (wpAny_bind ?_)
  refine wpAny_of_eq (a := none) rfl ?_
  refine wpAny_pure ?_
  refine bm_if_false rfl ?_
  refine wpAny_bind (wpAny_specialOf hT int_has_index ?_)
  refine bm_if_false rfl ?_
  refine wpAny_bind (wpAny_attempt ?_)
  refine wpAny_of_eq (a := N) rfl ?_
  have h0 : 0 ≤ N := by omega
  have hNn : N.toNat = n := by omega
  have c1 : (!Builtin.Bytes.fitsIndex N) = false := by
    simp only [Builtin.Bytes.fitsIndex, Bool.not_eq_false', Bool.and_eq_true, decide_eq_true_eq]
    omega
  have c2 : Builtin.Bytes.tooLong N.toNat = false := by
    show decide (N.toNat > sizeLine) = false
    rw [decide_eq_false_iff_not, sizeLine_eq]; omega
  try dsimp only
  rw [c1, if_neg Bool.false_ne_true, if_neg (by omega), if_neg (by omega), c2, if_neg Bool.false_ne_true]
  refine wpAny_bind (wpAny_rule (wpAny_bind (wpAny_mkBytes ?_ (by rw [Array.size_replicate, sizeLine_eq]; omega))))
  rw [hNn]
  exact wpAny_pure (hQ _ _)
theorem call_bytes_int {n : Nat} {t : Tok} {Q : Value → Shared → Prop} (hz : n ≤ 1000000) (hQ : ∀ t' k, Q (.bytes (Array.replicate n 0) t') { s with toks := k }) : wpAny (model prog w) A (call (.type "bytes") [.int (n : Int) t]) Q E s := by
  refine callType_codes (Q₁ := fun obj s₁ => s₁.TypeIs obj "bytes" ∧ Q obj s₁) F.bm_called (F.bm_typeCall _) F.entry_object_init
    (bm_new_int hz fun t' k => ⟨PySem.W.typeIs_bytes _ _ _, hQ t' k⟩) fun obj s₁ h₁ => ?_
  exact ⟨h₁.1, F.args_object_init_2 obj _, object_init_meets F.bm_called.init.lookup F.bm_called.made (by decide) prog w A.in1 _ s₁ ⟨h₁.1, rfl, h₁.2⟩⟩
end
theorem bInts_replicate (n : Nat) : KBw.bInts (Array.replicate n 0) = List.replicate n 0 := by
  unfold KBw.bInts
  rw [Array.toList_replicate, List.map_replicate]; rfl
section
variable {prog : Program} {w : World} {A : Around} {E : Value → Shared → Prop} {s : Shared} {h₀ : Heap} {L : Addr} {m : PySem.Str → Option Value} {env : Env} {elt : PySem.Expr} {x : PySem.Str} {scope : PySem.Scope} {cl : List (PySem.Str × Addr)}
def CompAtA (prog : Program) (w : World) (A : Around) (h₀ : Heap) (L : Addr) (m : PySem.Str → Option Value) (env : Env) (elt : PySem.Expr) (x : PySem.Str) (scope : PySem.Scope) (cl : List (PySem.Str × Addr)) (y : PySem.Str) (Q : Flow → Shared → Prop) (it : Value) (s₂ : Shared) : Prop :=
  ∃ (I : Addr) (fp : List Addr) (n : Nat) (P : Nat → Value → Prop) (St : Nat → Heap → Prop) (S : List (Addr × Obj) → Prop) (news : List (Addr × Obj)),
    it = .ref I ∧ Walks prog w A I fp [I] n P St ∧ n ≤ sizeLine ∧ (∀ i h, St i h → ∃ o, h.get? I = some o) ∧
    (∀ i h h' o nw, St i h → h.get? I = some o → h'.get? I = some o → (∀ b o, h₀.get? b = some o → h'.get? b = some o) → News h₀ L h' nw → S nw → St i h') ∧
    St 0 s₂.heap ∧ (∀ b ∈ fp, b < s₂.heap.objs.size) ∧ Fr h₀ L s₂.heap m ∧ News h₀ L s₂.heap news ∧ L ≠ I ∧ h₀.get? I = none ∧ (∀ p ∈ news, p.1 ≠ I) ∧ S news ∧
    LCg.CompRest prog w A h₀ L m env elt x scope cl s₂ S P (LCg.FinA h₀ L m s₂ y Q) n 0 [] news

theorem Assign_ListComp_my {iter : PySem.Expr} {y : PySem.Str} {px py : Pos} {pos spos : Pos} {Q : Flow → Shared → Prop} (_F : Fr h₀ L s.heap m) (hLe : env.locals = L)
    (hsw : swapsWith (.ListComp elt [⟨.Name x px, iter, [], 0⟩] scope pos) (some (.Name y py)) spos.line env = pure true)
    (hclos : closureFor scope env = pure cl) (hcell : ∀ z ∈ scope.names, z.2 ≠ .cell) (hkind : scope.kind = .function)
    (hnames : ∀ z ∈ scope.names, z.2 = .local → scope.names.lookup z.1 = some .local) (hx : scope.names.lookup x = some .local)
    (hy : env.kindOf y = some .local) (hp : (env.scope.kind == .class || (env.scope.kind == .module && env.locals != env.globals)) = false)
    (hs : ∀ x, foldedSetIterable iter env x = pure x)
    (h : wpAny (model prog w) A (eval iter env) (fun xv s₁ => wpAny (model prog w) A (pyIter xv) (fun it s₂ => CompAtA prog w A h₀ L m env elt x scope cl y Q it s₂) E s₁) E s) :
    wpAny (model prog w) A (exec (.Assign [.Name y py] (.ListComp elt [⟨.Name x px, iter, [], 0⟩] scope pos) spos) env) Q E s := by
  rw [exec_Assign_Name_used _ _ _ _ hsw]
  refine wpAny_bind (wpAny_standAt (wpAny_bind ?_))
  show wpAny _ A (do let _ ← comprehension (.ListComp elt [⟨.Name x px, iter, [], 0⟩] scope pos) scope env _ (newList []) false (eval iter env) (some (assign (.Name y py) env))) _ _ s
  refine wpAny_bind (wpAny_mono (wpAny_comprehension_free (use := some (assign (.Name y py) env)) (Q := fun _ s' => Q .next s') rfl hs hclos hkind hnames
    (wpAny_mono h (fun xv s₁ h₁ => wpAny_mono h₁ (fun it s₂ h₂ => ?_) fun _ _ e => e) fun _ _ e => e)) (fun _ s' hq => wpAny_pure (wpAny_pure hq)) fun _ _ e => e)
  obtain ⟨I, fp, n, P, St, S, news, rfl, W, hsz, hIo, hSt, hst, hfp, F, N, hLI, hI₀, off, hS, R⟩ := h₂
  refine LCg.block_U W hsz hIo hSt hcell hkind hx hst hfp F N hLI hI₀ off hS R ?_
  intro D C h' tk m' ys news' F' N' o1 hn hC₀ hD₀ hCL hDL hCD offC fin
  show wpAny _ A (assign (.Name y py) env (.ref D)) _ _ _
  exact store_end hLe hy hp F' N' hn hC₀ hCL hCD offC fun h'' tk' F'' N'' => fin D h'' tk' F'' N'' o1

theorem comp_restA {y : PySem.Str} {Q : Flow → Shared → Prop} {n : Nat} {P : Nat → Value → Prop} {S : List (Addr × Obj) → Prop} (J : Nat → List Value → List (Addr × Obj) → Prop) (hS : ∀ i ys nw, J i ys nw → S nw)
    (turn : ∀ (i : Nat) (ys : List Value) (nw : List (Addr × Obj)) (v : Value) (I : Addr) (oI : Obj) (C : Addr) (oC : Obj) (D : Addr) (m₂ : PySem.Str → Option Value) (h : Heap) (tk : Nat), i < n → P i v → J i ys nw → LCg.NsObj oC m₂ → m₂ x = some v →
      Fr h₀ L h m → News h₀ L h ((I, oI) :: (C, oC) :: (D, LCg.lst ys) :: nw) → AllNe I nw → AllNe C nw → AllNe D nw → @Ne Nat I C → @Ne Nat I D → @Ne Nat C D →
      wpAny (model prog w) A (eval elt (compEnvC scope cl C env)) (EltEnd h₀ L m { s with heap := h, toks := tk } I oI C oC D ys (J (i + 1))) (fun _ _ => False) { s with heap := h, toks := tk })
    (done : ∀ (ys : List Value) (nw : List (Addr × Obj)) (D : Addr) (h : Heap) (tk : Nat), J n ys nw → Fr h₀ L h (fun z => if z = y then some (.ref D) else m z) → News h₀ L h ((D, LCg.lst ys) :: nw) → AllNe D nw → Q .next { s with heap := h, toks := tk }) :
    ∀ (k i : Nat) (ys : List Value) (nw : List (Addr × Obj)), i + k = n → J i ys nw → LCg.CompRest prog w A h₀ L m env elt x scope cl s S P (LCg.FinA h₀ L m s y Q) k i ys nw := by
  intro k
  induction k with
  | zero =>
    intro i ys nw e hJ
    have e' : i = n := e
    subst e'
    refine LCg.CompRest.zero ?_
    intro D h tk F N o1
    refine done ys nw D h tk hJ F N ?_
    clear N F hJ
    induction nw with
    | nil => trivial
    | cons p r ih => exact ⟨o1.1, ih o1.2⟩
  | succ k ih =>
    intro i ys nw e hJ
    refine LCg.CompRest.succ ?_
    intro v I oI C oC D m₂ h tk E' hP hC hx F N off ne
    have off3 := off.mem
    refine wpAny_mono (turn i ys nw v I oI C oC D m₂ h tk (by omega) hP hJ hC hx F N (AllNe.of fun p hp => (off3 p hp).1) (AllNe.of fun p hp => (off3 p hp).2.1) (AllNe.of fun p hp => (off3 p hp).2.2) ne.1 ne.2.1 ne.2.2) (fun y s₂ t => ?_) (fun _ _ z => z.elim)
    obtain ⟨h', tk', nw', rfl, F', N', o1, o2, o3, hJ'⟩ := t.ex
    exact ⟨h', tk', nw', rfl, F', N', off3_of o1 o2 o3, hS _ _ _ hJ', ih _ _ _ (by omega) hJ'⟩

/-- over a tuple of the ledger -/
theorem kcomp_tupleA {y : PySem.Str} {Q : Flow → Shared → Prop} {l : Addr} {vs : Array Value} {ol : Obj} {news : List (Addr × Obj)} (n : Nat) (J : Nat → List Value → List (Addr × Obj) → Prop)
    (hh : A.handled = none) (hol : ol.cls = .type "tuple") (hol2 : ol.data = .seq vs n) (hsz : vs.size ≤ sizeLine) (hsrc : ∀ i ys nw, J i ys nw → (l, ol) ∈ nw)
    (F : Fr h₀ L s.heap m) (N : News h₀ L s.heap news) (hj : J 0 [] news)
    (turn : ∀ (i : Nat) (ys : List Value) (nw : List (Addr × Obj)) (v : Value) (I : Addr) (oI : Obj) (C : Addr) (oC : Obj) (D : Addr) (m₂ : PySem.Str → Option Value) (h : Heap) (tk : Nat), vs[i]? = some v → J i ys nw → LCg.NsObj oC m₂ → m₂ x = some v →
      Fr h₀ L h m → News h₀ L h ((I, oI) :: (C, oC) :: (D, LCg.lst ys) :: nw) → AllNe I nw → AllNe C nw → AllNe D nw → @Ne Nat I C → @Ne Nat I D → @Ne Nat C D →
      wpAny (model prog w) A (eval elt (compEnvC scope cl C env)) (EltEnd h₀ L m { s with heap := h, toks := tk } I oI C oC D ys (J (i + 1))) (fun _ _ => False) { s with heap := h, toks := tk })
    (done : ∀ (ys : List Value) (nw : List (Addr × Obj)) (D : Addr) (h : Heap) (tk : Nat), J vs.size ys nw → Fr h₀ L h (fun z => if z = y then some (.ref D) else m z) → News h₀ L h ((D, LCg.lst ys) :: nw) → AllNe D nw → Q .next { s with heap := h, toks := tk }) :
    wpAny (model prog w) A (pyIter (.ref l)) (fun it s₂ => CompAtA prog w A h₀ L m env elt x scope cl y Q it s₂) E s := by
  have ml := N _ (hsrc _ _ _ hj)
  have hls : s.heap.IsTuple l vs := ⟨_, ml.1, hol, _, hol2⟩
  have hne : l ≠ s.heap.objs.size := Nat.ne_of_lt (Heap.lt_size ml.1)
  refine wpAny_pyIter_tuple hls ?_
  refine ⟨s.heap.objs.size, _, vs.size, _, _, fun nw => (l, ol) ∈ nw, news, rfl, Walks.tuple hh _ l hne vs, hsz, (fun i h st => by obtain ⟨o, e, _⟩ := st.1; exact ⟨o, e⟩), ?_, ⟨⟨_, Heap.get?_push_size _ rfl, rfl, rfl⟩, hls.at fun o e => Heap.get?_push_of_some _ e⟩, ?_, F.push _, (fun p hp' => ⟨Heap.get?_push_of_some _ (N p hp').1, (N p hp').2⟩), Nat.ne_of_lt F.ns.lt, next_is_new F, (fun p hp => Nat.ne_of_lt (Heap.lt_size (N p hp).1)), hsrc _ _ _ hj, ?_⟩
  · intro i h h' o nw st e e' _ N' hS
    obtain ⟨⟨o', g, r⟩, _⟩ := st
    rw [e] at g
    cases g
    exact ⟨⟨_, e', r⟩, ⟨_, (N' _ hS).1, hol, _, hol2⟩⟩
  · intro b hb
    show b < (s.heap.push _).objs.size
    rw [Heap.size_push]
    rcases List.mem_cons.mp hb with rfl | hb
    · exact Nat.lt_succ_self _
    · rw [List.mem_singleton.mp hb]; exact Nat.lt_succ_of_lt (Heap.lt_size ml.1)
  · refine comp_restA (s := { s with heap := s.heap.push _ }) J (fun i ys nw hJ => hsrc i ys nw hJ) ?_ ?_ vs.size 0 [] news (Nat.zero_add _) hj
    · intro i ys nw v I oI C oC D m₂ h tk hi hP hJ hC hx F' N' o1 o2 o3 n1 n2 n3
      exact turn i ys nw v I oI C oC D m₂ h tk hP hJ hC hx F' N' o1 o2 o3 n1 n2 n3
    · exact fun ys nw D h tk hJ F' N' o => done ys nw D h tk hJ F' N' o
end
theorem ext_getD {as bs : List Int} (h : as.length = bs.length) (hi : ∀ i, i < as.length → as.getD i 0 = bs.getD i 0) : as = bs := by
  apply List.ext_getElem h
  intro i h1 h2
  have := hi i h1
  rw [List.getD_eq_getElem?_getD, List.getD_eq_getElem?_getD, List.getElem?_eq_getElem h1, List.getElem?_eq_getElem h2] at this
  exact this
theorem sumL_zip (M : Int) {as bs : List Int} (h : as.length = bs.length) : sumL M as bs = List.zipWith (fun a b => (a + b).fmod M) as bs := by
  apply List.ext_getElem
  · simp [sumL, h]
  · intro i h1 h2
    have h3 : i < as.length := by simpa [sumL] using h1
    simp [sumL, List.getD_eq_getElem?_getD, h3, h ▸ h3]
theorem sumL_len (M : Int) (as bs : List Int) : (sumL M as bs).length = as.length := by simp [sumL]
theorem sumL_range {M : Int} (hM : 1 ≤ M) (as bs : List Int) : ∀ x ∈ sumL M as bs, 0 ≤ x ∧ x < M := by
  intro x hx
  obtain ⟨i, _, rfl⟩ := List.mem_map.mp hx
  exact ⟨fmod_lo _ (by omega), fmod_hi _ (by omega)⟩
theorem sumL_app (M : Int) {as bs as' bs' : List Int} (h : as.length = bs.length) (h' : as'.length = bs'.length) : sumL M (as ++ as') (bs ++ bs') = sumL M as bs ++ sumL M as' bs' := by
  rw [sumL_zip M h, sumL_zip M h', sumL_zip M (by simp [h, h']), List.zipWith_append h]
theorem sumL_chunk (M : Int) {as bs : List Int} (h : as.length = bs.length) (m i : Nat) : chunk m (sumL M as bs) i = sumL M (chunk m as i) (chunk m bs i) := by
  rw [sumL_zip M h, sumL_zip M (by simp [chunk, h])]
  unfold chunk
  rw [List.drop_zipWith, List.take_zipWith]
theorem sumL_getD {M : Int} {as bs : List Int} (h : as.length = bs.length) (i : Nat) : (sumL M as bs).getD i 0 = (as.getD i 0 + bs.getD i 0).fmod M := by
  by_cases hi : i < as.length
  · simp [sumL, List.getD_eq_getElem?_getD, hi]
  · have h2 : ¬ i < bs.length := by omega
    rw [List.getD_eq_getElem?_getD, List.getD_eq_getElem?_getD, List.getD_eq_getElem?_getD, List.getElem?_eq_none (by rw [sumL_len]; omega), List.getElem?_eq_none (by omega), List.getElem?_eq_none (by omega)]
    simp
theorem sumL_set {M : Int} {as bs : List Int} (h : as.length = bs.length) (j : Nat) (x y : Int) : sumL M (as.set j x) (bs.set j y) = (sumL M as bs).set j ((x + y).fmod M) := by
  rw [sumL_zip M h, sumL_zip M (by simp [h])]
  apply List.ext_getElem
  · simp
  · intro i h1 h2
    simp only [List.getElem_zipWith, List.getElem_set]
    split <;> rfl
theorem sumL_flat (M : Int) {R R' : Nat → List Int} : ∀ {n : Nat}, (∀ i < n, (R i).length = (R' i).length) → (List.range n).flatMap (fun i => sumL M (R i) (R' i)) = sumL M ((List.range n).flatMap R) ((List.range n).flatMap R') ∧ ((List.range n).flatMap R).length = ((List.range n).flatMap R').length
  | 0, _ => ⟨rfl, rfl⟩
  | n + 1, h => by
    obtain ⟨h1, h2⟩ := sumL_flat M (n := n) fun i hi => h i (by omega)
    have h3 := h n (by omega)
    simp only [List.range_succ, List.flatMap_append, List.flatMap_cons, List.flatMap_nil, List.append_nil]
    refine ⟨?_, by simp only [List.length_append, h2, h3]⟩
    rw [h1, sumL_app M h2 h3]
theorem fmod_em {M : Int} (hM : 1 ≤ M) (a : Int) : a.fmod M = a % M := Int.fmod_eq_emod_of_nonneg a (by omega)
theorem turnL_sum (ud : Bool) {M : Int} (hM : 1 ≤ M) (c : Nat) {as bs : List Int} (h : as.length = bs.length) : ∀ k, turnL ud M c (sumL M as bs) k = sumL M (turnL ud M c as k) (turnL ud M c bs k)
  | 0 => rfl
  | k + 1 => by
    have hl : (turnL ud M c as k).length = (turnL ud M c bs k).length := by rw [turnL_len, turnL_len, h]
    rw [turnL, turnL, turnL, sumL_set hl, turnL_sum ud hM c h k]
    congr 1
    rw [sumL_getD h, sumL_getD h, sumL_getD hl]
    generalize as.getD (c + k) 0 = a1
    generalize as.getD k 0 = a2
    generalize bs.getD (c + k) 0 = b1
    generalize bs.getD k 0 = b2
    generalize (turnL ud M c as k).getD k 0 = a3
    generalize (turnL ud M c bs k).getD k 0 = b3
    cases ud
    · simp only [Bool.false_eq_true, if_false, fmod_em hM]
      rw [← Int.sub_emod, ← Int.add_emod]
      congr 1; omega
    · simp only [if_true, fmod_em hM]
      rw [← Int.add_emod, ← Int.add_emod]
      congr 1; omega
theorem getD_zero (n i : Nat) : (List.replicate n (0 : Int)).getD i 0 = 0 := by
  rw [List.getD_eq_getElem?_getD, List.getElem?_replicate]; split <;> rfl
theorem turnL_zero (ud : Bool) (M : Int) (c n : Nat) : ∀ k, turnL ud M c (List.replicate n 0) k = List.replicate n 0
  | 0 => rfl
  | k + 1 => by
    rw [turnL, turnL_zero ud M c n k, getD_zero, getD_zero]
    cases ud <;> simp [List.set_replicate_self]
/- a row's law, lifted to a block -/
theorem tiff_lift {S S1 O1 O2 T : List Int → List Int} {size rows m : Nat} {X : List Int}
    (hSl : (S X).length = rows * m)
    (hch : ∀ i < rows, S1 (chunk size X i) = chunk m (S X) i)
    (hO : ∀ R : Nat → List Int, (∀ i < rows, (R i).length = m) → (List.range rows).flatMap (fun i => O1 (R i)) = O2 ((List.range rows).flatMap R))
    (hTl : ∀ as, (T as).length = as.length) :
    tiffL (fun r => O1 (T (S1 r))) size rows X = O2 (tiffL T m rows (S X)) := by
  unfold tiffL
  rw [← hO (fun i => T (chunk m (S X) i)) (fun i hi => by rw [hTl]; exact chunk_len hSl hi)]
  exact flatMap_congr' fun i hi => by show O1 (T (S1 (chunk size X i))) = _; rw [hch i (List.mem_range.mp hi)]
theorem tiff_sum {T : List Int → List Int} {M : Int} {rows m : Nat} {as bs : List Int} (h : as.length = bs.length)
    (hT : ∀ as bs : List Int, as.length = bs.length → T (sumL M as bs) = sumL M (T as) (T bs)) (hTl : ∀ as, (T as).length = as.length) :
    tiffL T m rows (sumL M as bs) = sumL M (tiffL T m rows as) (tiffL T m rows bs) := by
  have hc : ∀ i, (chunk m as i).length = (chunk m bs i).length := fun i => by simp [chunk, h]
  unfold tiffL
  rw [← (sumL_flat M (n := rows) (R := fun i => T (chunk m as i)) (R' := fun i => T (chunk m bs i)) fun i _ => by rw [hTl, hTl, hc]).1]
  exact flatMap_congr' fun i _ => by rw [sumL_chunk M h, hT _ _ (hc i)]
theorem tiff_lin {S S1 O1 O2 T : List Int → List Int} {M : Int} {size rows m : Nat} {A B : List Int} (hM : 1 ≤ M)
    (hSl : ∀ X : List Int, X.length = rows * size → (S X).length = rows * m)
    (hch : ∀ X : List Int, X.length = rows * size → ∀ i < rows, S1 (chunk size X i) = chunk m (S X) i)
    (hO : ∀ R : Nat → List Int, (∀ i < rows, (R i).length = m) → (List.range rows).flatMap (fun i => O1 (R i)) = O2 ((List.range rows).flatMap R))
    (hOl : ∀ Y : List Int, Y.length = rows * m → (O2 Y).length = rows * size)
    (hSO : ∀ Y : List Int, Y.length = rows * m → (∀ x ∈ Y, 0 ≤ x ∧ x < M) → S (O2 Y) = Y)
    (hT : ∀ as bs : List Int, as.length = bs.length → T (sumL M as bs) = sumL M (T as) (T bs)) (hTl : ∀ as, (T as).length = as.length)
    (hTr : ∀ as : List Int, (∀ x ∈ as, 0 ≤ x ∧ x < M) → ∀ x ∈ T as, 0 ≤ x ∧ x < M)
    (hA : A.length = rows * size) (hB : B.length = rows * size) (hrA : ∀ x ∈ S A, 0 ≤ x ∧ x < M) (hrB : ∀ x ∈ S B, 0 ≤ x ∧ x < M) :
    tiffL (fun r => O1 (T (S1 r))) size rows (O2 (sumL M (S A) (S B))) = O2 (sumL M (S (tiffL (fun r => O1 (T (S1 r))) size rows A)) (S (tiffL (fun r => O1 (T (S1 r))) size rows B))) := by
  have hsl : (sumL M (S A) (S B)).length = rows * m := by rw [sumL_len, hSl A hA]
  have hol := hOl _ hsl
  have hSeq : S (O2 (sumL M (S A) (S B))) = sumL M (S A) (S B) := hSO _ hsl (sumL_range hM _ _)
  have tr : ∀ Y : List Int, Y.length = rows * m → (∀ x ∈ Y, 0 ≤ x ∧ x < M) → ∀ x ∈ tiffL T m rows Y, 0 ≤ x ∧ x < M := by
    intro Y _ hr x hx
    obtain ⟨i, _, hx⟩ := List.mem_flatMap.mp hx
    exact hTr _ (fun y hy => hr y (chunk_mem hy)) x hx
  have tl : ∀ Y : List Int, Y.length = rows * m → (tiffL T m rows Y).length = rows * m := fun Y hY => tiffL_len hY (fun r hr => by rw [hTl, hr]) rows (Nat.le_refl _)
  rw [tiff_lift (S := S) (S1 := S1) (O1 := O1) (O2 := O2) (T := T) (hSl _ hol) (hch _ hol) hO hTl, tiff_lift (S := S) (S1 := S1) (O1 := O1) (O2 := O2) (T := T) (hSl _ hA) (hch _ hA) hO hTl, tiff_lift (S := S) (S1 := S1) (O1 := O1) (O2 := O2) (T := T) (hSl _ hB) (hch _ hB) hO hTl, hSeq,
    hSO _ (tl _ (hSl _ hA)) (tr _ (hSl _ hA) hrA), hSO _ (tl _ (hSl _ hB)) (tr _ (hSl _ hB) hrB),
    tiff_sum (by rw [hSl _ hA, hSl _ hB]) hT hTl]
theorem dn_eq {M : Int} (hM : 1 ≤ M) (T : Int) : ∀ i, dn M T i = T / M ^ i
  | 0 => by simp [dn]
  | i + 1 => by
    rw [dn, dn_eq hM T i, Int.fdiv_eq_ediv_of_nonneg _ (by omega), Int.ediv_ediv_of_nonneg (Int.le_of_lt (Int.pow_pos (by omega))), Int.pow_succ]
theorem dn_add (M T : Int) (a : Nat) : ∀ i, dn M T (a + i) = dn M (dn M T a) i
  | 0 => rfl
  | i + 1 => by rw [← Nat.add_assoc, dn, dn_add M T a i, dn]
theorem lawS_add (M T : Int) (a b : Nat) : lawS M T (a + b) = lawS M T a ++ lawS M (dn M T a) b := by
  unfold lawS
  rw [List.range_add, List.map_append, List.map_map]
  congr 1
  refine List.map_congr_left fun i _ => ?_
  rw [Function.comp, dn_add]
theorem snoc_of {ks : List Int} {n : Nat} (h : ks.length = n + 1) : ∃ ys x, ks = ys ++ [x] ∧ ys.length = n := by
  rcases List.eq_nil_or_concat ks with e | ⟨ys, x, e⟩
  · rw [e] at h; cases h
  · refine ⟨ys, x, by rw [e, List.concat_eq_append], ?_⟩
    rw [e, List.length_concat] at h; omega
theorem pow_split {M : Int} {a b : Nat} (h : a ≤ b) : M ^ b = M ^ (b - a) * M ^ a := by
  rw [← Int.pow_add]; congr 1; omega
/- the samples of an octet, by powers of M -/
theorem sub_back {cnt j : Nat} (hj : j < cnt) : cnt = cnt - 1 - j + (j + 1) := by
  rw [Nat.sub_sub, Nat.add_comm 1 j, Nat.sub_add_cancel hj]
theorem div_big {b x : Int} (x0 : 0 ≤ x) (x1 : x < 256) : (b * 256 + x) / 256 = b := by
  rw [Int.add_comm, Int.add_mul_ediv_right _ _ (by decide), Int.ediv_eq_zero_of_lt x0 x1, Int.zero_add]
theorem sub_sub_back {cnt j : Nat} (hj : j < cnt) : cnt - (cnt - 1 - j) = j + 1 := by
  rw [Nat.sub_sub, Nat.add_comm 1 j, Nat.sub_sub_self hj]
theorem sub_step {n j : Nat} (h : j < n + 1) (e : ¬ j = n) : n + 1 - 1 - j = 1 + (n - 1 - j) := by
  rw [Nat.add_sub_cancel, Nat.add_comm 1 (n - 1 - j), Nat.sub_right_comm, Nat.sub_add_cancel (Nat.sub_pos_of_lt (Nat.lt_of_le_of_ne (Nat.le_of_lt_succ h) e))]
theorem samp_pow {bits cnt : Nat} (hb : bits * cnt = 8) {j : Nat} (hj : j < cnt) (o : Int) : samp bits o j = o / (2 ^ bits) ^ (cnt - 1 - j) % 2 ^ bits := by
  have e : (8 - (bits : Int) * ((j : Int) + 1)).toNat = bits * (cnt - 1 - j) := by
    have h1 : bits * cnt = bits * (cnt - 1 - j) + bits * (j + 1) := by rw [← Nat.mul_add]; exact congrArg _ (sub_back hj)
    have h2 : ((bits * (j + 1) : Nat) : Int) = (bits : Int) * ((j : Int) + 1) := by push_cast; rfl
    rw [← h2]; omega
  rw [samp_eq, e, Int.toNat_natCast, Int.pow_mul, Int.fdiv_eq_ediv_of_nonneg _ (Int.le_of_lt (Int.pow_pos (Int.pow_pos (by decide))))]
theorem law_digits {bits cnt : Nat} (hb : bits * cnt = 8) : ∀ (n : Nat) (ks : List Int), ks.length = n → (∀ x ∈ ks, 0 ≤ x ∧ x < 256) → (lawS (2 ^ bits) (big ks) (n * cnt)).reverse = sampL bits cnt ks := by
  have hM : (1 : Int) ≤ 2 ^ bits := Int.pow_pos (by decide)
  have hMc : ((2 : Int) ^ bits) ^ cnt = 256 := by rw [← Int.pow_mul, hb]; rfl
  intro n
  induction n with
  | zero =>
    intro ks h _
    rw [List.length_eq_zero_iff.mp h]
    simp [lawS, sampL]
  | succ n ih =>
    intro ks h hr
    obtain ⟨ys, x, rfl, hy⟩ := snoc_of h
    obtain ⟨x0, x1⟩ := hr x (by simp)
    rw [big_snoc, Nat.add_mul, Nat.one_mul, Nat.add_comm, lawS_add, List.reverse_append, dn_eq hM, hMc, div_big (b := big ys) x0 x1, ih ys hy fun y hy => hr y (List.mem_append_left _ hy)]
    have e : sampL bits cnt (ys ++ [x]) = sampL bits cnt ys ++ (List.range cnt).map (samp bits x) := by simp [sampL]
    rw [e]
    congr 1
    apply List.ext_getElem
    · simp [lawS]
    · intro j h1 h2
      have hj : j < cnt := by simpa using h2
      rw [List.getElem_reverse, List.getElem_map, List.getElem_range, samp_pow hb hj]
      simp only [lawS, List.getElem_map, List.getElem_range, List.length_map, List.length_range]
      rw [dn_eq hM, fmod_em hM]
      have e1 : (256 : Int) = 2 ^ bits * (2 ^ bits) ^ j * (2 ^ bits) ^ (cnt - 1 - j) := by
        rw [← hMc, pow_split (M := 2 ^ bits) (Nat.le_trans (Nat.sub_le _ _) (Nat.sub_le _ _)), sub_sub_back hj, Int.pow_succ, Int.mul_comm ((2 ^ bits) ^ j)]
      have e2 : big ys * 256 + x = x + (big ys * (2 ^ bits) ^ j * 2 ^ bits) * (2 ^ bits) ^ (cnt - 1 - j) := by
        have : big ys * (256 : Int) = big ys * (2 ^ bits * (2 ^ bits) ^ j * (2 ^ bits) ^ (cnt - 1 - j)) := by rw [← e1]
        rw [this, Int.add_comm, Int.mul_comm (2 ^ bits) ((2 ^ bits) ^ j)]
        simp only [Int.mul_assoc]
      rw [e2, Int.add_mul_ediv_right _ _ (by have : (0 : Int) < (2 ^ bits) ^ (cnt - 1 - j) := Int.pow_pos (Int.pow_pos (by decide)); omega), Int.add_mul_emod_self_right]
theorem law_digits16 : ∀ (n : Nat) (ks : List Int), ks.length = 2 * n → (∀ x ∈ ks, 0 ≤ x ∧ x < 256) → (lawS 65536 (big ks) n).reverse = (List.range n).map (s16 ks) := by
  intro n
  induction n with
  | zero => intro ks _ _; rfl
  | succ n ih =>
    intro ks h hr
    obtain ⟨zs, y, rfl, hz⟩ := snoc_of (n := 2 * n + 1) (by omega)
    obtain ⟨ys, x, rfl, hy⟩ := snoc_of hz
    obtain ⟨x0, x1⟩ := hr x (by simp)
    obtain ⟨y0, y1⟩ := hr y (by simp)
    have e : lawS 65536 (big (ys ++ [x] ++ [y])) (n + 1) = (256 * x + y) :: lawS 65536 (big ys) n := by
      rw [Nat.add_comm, lawS_add]
      simp only [lawS, dn, big_snoc, List.range_one, List.map_cons, List.map_nil, List.cons_append, List.nil_append]
      rw [fmod_em (by decide), Int.fdiv_eq_ediv_of_nonneg _ (by decide)]
      rw [show ((big ys * 256 + x) * 256 + y) / 65536 = big ys by omega, show ((big ys * 256 + x) * 256 + y) % 65536 = 256 * x + y by omega]
    rw [e, List.reverse_cons, ih ys hy fun z hz => hr z (by simp [hz]), List.range_succ, List.map_append]
    have e2 : ∀ i, i < 2 * n → (ys ++ [x] ++ [y]).getD i 0 = ys.getD i 0 := fun i hi => by
      rw [List.append_assoc, List.getD_eq_getElem?_getD, List.getElem?_append_left (by omega), ← List.getD_eq_getElem?_getD]
    have e3 : (ys ++ [x] ++ [y]).getD (2 * n) 0 = x := by
      rw [List.append_assoc, List.getD_eq_getElem?_getD, List.getElem?_append_right (by omega), hy, Nat.sub_self]; rfl
    have e4 : (ys ++ [x] ++ [y]).getD (2 * n + 1) 0 = y := by
      rw [List.append_assoc, List.getD_eq_getElem?_getD, List.getElem?_append_right (by omega), hy, Nat.add_sub_cancel_left]; rfl
    congr 1
    · refine List.map_congr_left fun i hi => ?_
      have hi := List.mem_range.mp hi
      unfold s16
      rw [e2 _ (by omega), e2 _ (by omega)]
    · simp only [List.map_cons, List.map_nil, s16, e3, e4]
/- octets put together and taken apart again -/
theorem fold_digit {bits : Nat} : ∀ (n : Nat) (c : List Int), c.length = n → (∀ x ∈ c, 0 ≤ x ∧ x < (2 : Int) ^ bits) → ∀ j, j < n → fold8 bits c / (2 ^ bits) ^ (n - 1 - j) % 2 ^ bits = c.getD j 0 := by
  have hM : (0 : Int) < 2 ^ bits := Int.pow_pos (by decide)
  intro n
  induction n with
  | zero => intro c _ _ j h; omega
  | succ n ih =>
    intro c h hr j hj
    obtain ⟨d, x, rfl, hd⟩ := snoc_of h
    obtain ⟨x0, x1⟩ := hr x (by simp)
    rw [fold8_snoc, Int.toNat_natCast]
    by_cases e : j = n
    · subst e
      rw [Nat.add_sub_cancel, Nat.sub_self, Int.pow_zero, Int.ediv_one, Int.add_comm, Int.add_mul_emod_self_right, Int.emod_eq_of_lt x0 x1, List.getD_eq_getElem?_getD, List.getElem?_append_right (by omega), hd, Nat.sub_self]; rfl
    · rw [sub_step hj e, Int.pow_add, Int.pow_one, ← Int.ediv_ediv_of_nonneg (Int.le_of_lt hM), Int.add_comm, Int.add_mul_ediv_right _ _ (by omega), Int.ediv_eq_zero_of_lt x0 x1, Int.zero_add,
        ih d hd (fun y hy => hr y (by simp [hy])) j (by omega), List.getD_eq_getElem?_getD, List.getD_eq_getElem?_getD, List.getElem?_append_left (by omega)]
theorem chunks_all (m : Nat) : ∀ (q : Nat) (ls : List Int), ls.length = q * m → (List.range q).flatMap (chunk m ls) = ls := by
  intro q
  induction q with
  | zero => intro ls h; rw [Nat.zero_mul] at h; rw [List.length_eq_zero_iff.mp h]; rfl
  | succ q ih =>
    intro ls h
    rw [Nat.add_mul, Nat.one_mul] at h
    rw [List.range_succ, List.flatMap_append]
    have e : (List.range q).flatMap (chunk m ls) = ls.take (q * m) := by
      rw [← ih (ls.take (q * m)) (by rw [List.length_take, Nat.min_eq_left (by rw [h]; exact Nat.le_add_right _ _)])]
      refine flatMap_congr' fun i hi => ?_
      have hi := List.mem_range.mp hi
      have h1 := Nat.mul_le_mul_right m (show i + 1 ≤ q from hi)
      rw [Nat.add_mul, Nat.one_mul] at h1
      unfold chunk
      rw [List.drop_take, List.take_take]
      congr 1; exact (Nat.min_eq_left (Nat.le_sub_of_add_le (by rw [Nat.add_comm]; exact h1))).symm
    rw [e]
    simp only [List.flatMap_cons, List.flatMap_nil, List.append_nil, chunk]
    rw [List.take_of_length_le (i := m) (by rw [List.length_drop, h, Nat.add_sub_cancel_left]; exact Nat.le_refl _), List.take_append_drop]
theorem samp_octL {bits cnt q : Nat} (hb : bits * cnt = 8) {ls : List Int} (hl : ls.length = q * cnt) (hr : ∀ x ∈ ls, 0 ≤ x ∧ x < (2 : Int) ^ bits) : sampL bits cnt (octL bits cnt q ls) = ls := by
  unfold sampL octL
  rw [List.flatMap_map]
  conv => rhs; rw [← chunks_all cnt q ls hl]
  refine flatMap_congr' fun i hi => ?_
  have hi := List.mem_range.mp hi
  have hc := chunk_len hl hi
  apply ext_getD
  · simp [hc]
  · intro j hj
    have hj : j < cnt := by simpa using hj
    rw [← fold_digit cnt _ hc (fun x hx => hr x (chunk_mem hx)) j hj, ← samp_pow hb hj, List.getD_eq_getElem?_getD]
    simp [hj]
theorem sampL_app (bits : Int) (cnt : Nat) (a b : List Int) : sampL bits cnt (a ++ b) = sampL bits cnt a ++ sampL bits cnt b := by simp [sampL]
theorem sampL_drop (bits : Int) (cnt : Nat) {ks : List Int} {n : Nat} (h : n ≤ ks.length) : sampL bits cnt (ks.drop n) = (sampL bits cnt ks).drop (n * cnt) := by
  conv => rhs; rw [← List.take_append_drop n ks]
  rw [sampL_app, List.drop_left' (by rw [sampL_length, List.length_take, Nat.min_eq_left h])]
theorem sampL_take (bits : Int) (cnt : Nat) {ks : List Int} {n : Nat} (h : n ≤ ks.length) : sampL bits cnt (ks.take n) = (sampL bits cnt ks).take (n * cnt) := by
  conv => rhs; rw [← List.take_append_drop n ks]
  rw [sampL_app, List.take_left' (by rw [sampL_length, List.length_take, Nat.min_eq_left h])]
theorem sampL_chunk (bits : Int) (cnt : Nat) {size rows i : Nat} {X : List Int} (hX : X.length = rows * size) (hi : i < rows) : sampL bits cnt (chunk size X i) = chunk (size * cnt) (sampL bits cnt X) i := by
  have h1 := Nat.mul_le_mul_right size (show i + 1 ≤ rows from hi)
  rw [Nat.add_mul, Nat.one_mul] at h1
  unfold chunk
  rw [sampL_take bits cnt (by rw [List.length_drop]; omega), sampL_drop bits cnt (by omega), Nat.mul_assoc]
theorem octL_app (bits : Int) (cnt p q : Nat) {P Q : List Int} (hP : P.length = p * cnt) : octL bits cnt (p + q) (P ++ Q) = octL bits cnt p P ++ octL bits cnt q Q := by
  unfold octL
  rw [List.range_add, List.map_append, List.map_map]
  congr 1
  · refine List.map_congr_left fun i hi => ?_
    have hi := List.mem_range.mp hi
    have h1 := Nat.mul_le_mul_right cnt (show i + 1 ≤ p from hi)
    rw [Nat.add_mul, Nat.one_mul] at h1
    congr 1
    unfold chunk
    rw [List.drop_append_of_le_length (by omega), List.take_append_of_le_length (by rw [List.length_drop]; omega)]
  · refine List.map_congr_left fun i hi => ?_
    rw [Function.comp]
    congr 1
    unfold chunk
    rw [Nat.add_mul, ← hP, List.drop_append, List.drop_eq_nil_of_le (by omega), List.nil_append, Nat.add_sub_cancel_left]
theorem flat_len {R : Nat → List Int} {m : Nat} : ∀ {n : Nat}, (∀ i < n, (R i).length = m) → ((List.range n).flatMap R).length = n * m
  | 0, _ => by simp
  | n + 1, h => by
    rw [List.range_succ, List.flatMap_append, List.length_append, flat_len fun i hi => h i (by omega)]
    simp [h n (by omega), Nat.add_mul]
theorem octL_flat (bits : Int) (cnt size : Nat) {R : Nat → List Int} : ∀ (n : Nat), (∀ i < n, (R i).length = size * cnt) → (List.range n).flatMap (fun i => octL bits cnt size (R i)) = octL bits cnt (n * size) ((List.range n).flatMap R)
  | 0, _ => by simp [octL]
  | n + 1, h => by
    have hl := flat_len (R := R) (m := size * cnt) (n := n) fun i hi => h i (by omega)
    rw [List.range_succ, List.flatMap_append, List.flatMap_append, octL_flat bits cnt size n fun i hi => h i (by omega), Nat.add_mul, Nat.one_mul, octL_app _ _ _ _ (by rw [hl, Nat.mul_assoc])]
    simp only [List.flatMap_cons, List.flatMap_nil, List.append_nil]
theorem octL_len (bits : Int) (cnt q : Nat) (ls : List Int) : (octL bits cnt q ls).length = q := by simp [octL]
theorem map_zero {f : Nat → Int} {n : Nat} (h : ∀ i, f i = 0) : (List.range n).map f = List.replicate n 0 :=
  List.eq_replicate_iff.mpr ⟨by simp, fun x hx => by obtain ⟨i, _, rfl⟩ := List.mem_map.mp hx; exact h i⟩
theorem fold8_zero (bits : Int) : ∀ n, fold8 bits (List.replicate n 0) = 0
  | 0 => rfl
  | n + 1 => by rw [List.replicate_succ', fold8_snoc, fold8_zero bits n]; simp
theorem chunk_zero (m n i : Nat) : ∃ k, chunk m (List.replicate n (0 : Int)) i = List.replicate k 0 := ⟨_, by unfold chunk; rw [List.drop_replicate, List.take_replicate]⟩
theorem octL_zero (bits : Int) (cnt q n : Nat) : octL bits cnt q (List.replicate n 0) = List.replicate q 0 := by
  unfold octL
  exact map_zero fun i => by
    obtain ⟨k, e⟩ := chunk_zero cnt n i
    rw [e, fold8_zero]
theorem sampL_zero (bits : Int) (cnt : Nat) : ∀ n, sampL bits cnt (List.replicate n 0) = List.replicate (n * cnt) 0
  | 0 => by simp [sampL]
  | n + 1 => by
    rw [List.replicate_succ', sampL_app, sampL_zero bits cnt n, Nat.add_mul, Nat.one_mul, ← List.replicate_append_replicate]
    congr 1
    simp only [sampL, List.flatMap_cons, List.flatMap_nil, List.append_nil]
    exact map_zero fun j => by rw [samp_eq]; simp
theorem flat_zero (size : Nat) {f : Nat → List Int} : ∀ (n : Nat), (∀ i < n, f i = List.replicate size 0) → (List.range n).flatMap f = List.replicate (n * size) 0
  | 0, _ => by simp
  | n + 1, h => by
    rw [List.range_succ, List.flatMap_append, flat_zero size n fun i hi => h i (by omega), Nat.add_mul, Nat.one_mul, ← List.replicate_append_replicate]
    simp [h n (by omega)]
theorem chunk_zeros {rows size i : Nat} (hi : i < rows) : chunk size (List.replicate (rows * size) (0 : Int)) i = List.replicate size 0 := by
  obtain ⟨k, e⟩ := chunk_zero size (rows * size) i
  have := chunk_len (ls := List.replicate (rows * size) (0 : Int)) (q := rows) (cnt := size) (by simp) hi
  rw [e] at this ⊢
  rw [List.length_replicate] at this
  rw [this]
theorem tiff_zero {f : List Int → List Int} {size rows : Nat} (h : f (List.replicate size 0) = List.replicate size 0) : tiffL f size rows (List.replicate (rows * size) 0) = List.replicate (rows * size) 0 := by
  unfold tiffL
  exact flat_zero size rows fun i hi => by rw [chunk_zeros hi, h]
/- sixteen bits -/
theorem oct16_app (a b : List Int) : octL16 (a ++ b) = octL16 a ++ octL16 b := by simp [octL16]
theorem oct16_flat {R : Nat → List Int} : ∀ (n : Nat), (List.range n).flatMap (fun i => octL16 (R i)) = octL16 ((List.range n).flatMap R)
  | 0 => rfl
  | n + 1 => by
    rw [List.range_succ, List.flatMap_append, List.flatMap_append, oct16_flat n, oct16_app]
    simp only [List.flatMap_cons, List.flatMap_nil, List.append_nil]
theorem s16_oct : ∀ (n : Nat) (Y : List Int), Y.length = n → (∀ x ∈ Y, 0 ≤ x ∧ x < 65536) → (List.range n).map (s16 (octL16 Y)) = Y := by
  intro n
  induction n with
  | zero => intro Y h _; rw [List.length_eq_zero_iff.mp h]; rfl
  | succ n ih =>
    intro Y h hr
    cases Y with
    | nil => cases h
    | cons y Y =>
      obtain ⟨y0, y1⟩ := hr y (by simp)
      have hl : Y.length = n := by simpa using h
      have e : octL16 (y :: Y) = y.fdiv 256 :: y.fmod 256 :: octL16 Y := by simp [octL16]
      rw [List.range_succ_eq_map, List.map_cons, List.map_map, e]
      congr 1
      · show 256 * y.fdiv 256 + y.fmod 256 = y
        rw [fmod_em (by decide), Int.fdiv_eq_ediv_of_nonneg _ (by decide)]; omega
      · rw [← ih Y hl fun x hx => hr x (by simp [hx])]
        refine List.map_congr_left fun i _ => ?_
        rw [ih Y hl fun x hx => hr x (by simp [hx])]
        rfl
theorem chunk_getD {m : Nat} {X : List Int} {i j : Nat} (hj : j < m) : (chunk m X i).getD j 0 = X.getD (i * m + j) 0 := by
  unfold chunk
  rw [List.getD_eq_getElem?_getD, List.getD_eq_getElem?_getD, List.getElem?_take, if_pos hj, List.getElem?_drop]
theorem s16_chunk {rows half i : Nat} {X : List Int} (hi : i < rows) : (List.range half).map (s16 (chunk (2 * half) X i)) = chunk half ((List.range (rows * half)).map (s16 X)) i := by
  have hl := chunk_len (ls := (List.range (rows * half)).map (s16 X)) (q := rows) (cnt := half) (by simp) hi
  have h1 := Nat.mul_le_mul_right half (show i + 1 ≤ rows from hi)
  rw [Nat.add_mul, Nat.one_mul] at h1
  apply ext_getD
  · simp [hl]
  · intro j hj
    have hj : j < half := by simpa using hj
    rw [chunk_getD hj, List.getD_eq_getElem?_getD, List.getD_eq_getElem?_getD, List.getElem?_map, List.getElem?_map, List.getElem?_range hj, List.getElem?_range (by omega)]
    simp only [Option.map_some, Option.getD_some]
    unfold s16
    rw [chunk_getD (by omega), chunk_getD (by omega), show i * (2 * half) = 2 * (i * half) by rw [Nat.mul_left_comm], Nat.mul_add, Nat.add_assoc]
theorem oct16_zero : ∀ n, octL16 (List.replicate n 0) = List.replicate (2 * n) 0
  | 0 => rfl
  | n + 1 => by
    rw [List.replicate_succ', oct16_app, oct16_zero n, show 2 * (n + 1) = 2 * n + 2 by omega, ← List.replicate_append_replicate]; rfl
theorem s16_zero (n k : Nat) : (List.range n).map (s16 (List.replicate k 0)) = List.replicate n 0 := by
  exact map_zero fun i => by unfold s16; rw [getD_zero, getD_zero]; rfl
theorem sampL_8 : ∀ ks : List Int, (∀ x ∈ ks, 0 ≤ x ∧ x < 256) → sampL (8 : Nat) 1 ks = ks
  | [], _ => rfl
  | k :: ks, h => by
    obtain ⟨k0, k1⟩ := h k (by simp)
    have e : sampL (8 : Nat) 1 (k :: ks) = samp (8 : Nat) k 0 :: sampL (8 : Nat) 1 ks := rfl
    rw [e, sampL_8 ks fun x hx => h x (by simp [hx]), samp_pow (bits := 8) (cnt := 1) rfl (by decide)]
    congr 1
    show k / (2 ^ 8) ^ 0 % 256 = k
    rw [Int.pow_zero, Int.ediv_one, Int.emod_eq_of_lt k0 k1]
theorem octL_8 {n : Nat} {ls : List Int} (h : ls.length = n) : octL 8 1 n ls = ls := by
  apply ext_getD
  · rw [octL_len, h]
  · intro i hi
    rw [octL_len] at hi
    have hc := chunk_len (cnt := 1) (ls := ls) (q := n) (i := i) (by omega) hi
    obtain ⟨a, ha⟩ := List.length_eq_one_iff.mp hc
    have e := chunk_getD (m := 1) (X := ls) (i := i) (j := 0) (by decide)
    rw [ha, Nat.mul_one, Nat.add_zero] at e
    unfold octL
    rw [List.getD_eq_getElem?_getD, List.getElem?_map, List.getElem?_range hi, ← e]
    simp [ha, fold8]
theorem sum8_is {n : Nat} {A B : List Int} (hA : A.length = n) (hB : B.length = n) (rA : ∀ x ∈ A, 0 ≤ x ∧ x < 256) (rB : ∀ x ∈ B, 0 ≤ x ∧ x < 256) :
    octL 8 1 n (sumL (2 ^ Int.toNat 8) (lawS (2 ^ Int.toNat 8) (big A) (n * 1)).reverse (lawS (2 ^ Int.toNat 8) (big B) (n * 1)).reverse) = sumL 256 A B := by
  have e1 := law_digits (bits := 8) (cnt := 1) rfl n A hA rA
  have e2 := law_digits (bits := 8) (cnt := 1) rfl n B hB rB
  rw [sampL_8 A rA] at e1
  rw [sampL_8 B rB] at e2
  have e3 : (2 : Int) ^ Int.toNat 8 = 2 ^ 8 := rfl
  rw [e3, e1, e2, octL_8 (by rw [sumL_len, hA])]
  rfl
theorem sumL_app1 (M : Int) {as bs : List Int} (h : as.length = bs.length) (x y : Int) : sumL M (as ++ [x]) (bs ++ [y]) = sumL M as bs ++ [(x + y).fmod M] :=
  sumL_app M (as' := [x]) (bs' := [y]) h rfl
theorem guessL_sum {rs ss us vs : List Int} (h : rs.length = ss.length) (h' : us.length = vs.length) (a st wy : Int) : guessL (sumL 256 rs ss) (sumL 256 us vs) a st wy = (guessL rs us a st wy + guessL ss vs a st wy).fmod 256 := by
  unfold guessL
  rw [sumL_getD h, sumL_getD h', sumL_len, h']
  split
  · split <;> simp
  · split
    · split <;> simp
    · simp
theorem pngStep_sum {rs ss us vs : List Int} (h : rs.length = ss.length) (h' : us.length = vs.length) (po wy k l : Int) : pngStep (sumL 256 us vs) po wy (sumL 256 rs ss) ((k + l).fmod 256) = sumL 256 (pngStep us po wy rs k) (pngStep vs po wy ss l) := by
  unfold pngStep
  rw [sumL_app1 256 h]
  congr 1
  have e : sumL 256 rs ss ++ [(k + l).fmod 256] = sumL 256 (rs ++ [k]) (ss ++ [l]) := by rw [sumL_app1 256 h]
  rw [e, guessL_sum (by simp [h]) h', sumL_len, h]
  generalize guessL (rs ++ [k]) us (ss.length : Int) po wy = g1
  generalize guessL (ss ++ [l]) vs (ss.length : Int) po wy = g2
  congr 1
  simp only [Int.fmod_eq_emod_of_nonneg _ (show (0 : Int) ≤ 256 by decide)]
  rw [← Int.add_emod, ← Int.add_emod, Int.add_assoc k l, Int.add_left_comm l, ← Int.add_assoc k g1]
theorem pngRow_sum {us vs : List Int} (h' : us.length = vs.length) (po wy : Int) : ∀ (n : Nat) (ks ls : List Int), ks.length = n → ls.length = n → pngRow (sumL 256 us vs) po wy (sumL 256 ks ls) = sumL 256 (pngRow us po wy ks) (pngRow vs po wy ls) := by
  intro n
  induction n with
  | zero => intro ks ls h1 h2; rw [List.length_eq_zero_iff.mp h1, List.length_eq_zero_iff.mp h2]; rfl
  | succ n ih =>
    intro ks ls h1 h2
    obtain ⟨kk, k, rfl, hk⟩ := snoc_of h1
    obtain ⟨ll, l, rfl, hl⟩ := snoc_of h2
    have st : ∀ (us xs : List Int) (x : Int), pngRow us po wy (xs ++ [x]) = pngStep us po wy (pngRow us po wy xs) x := fun us xs x => by unfold pngRow; rw [List.foldl_append]; rfl
    rw [sumL_app1 256 (hk.trans hl.symm), st, st, st, ih kk ll hk hl]
    exact pngStep_sum (by unfold pngRow; rw [pngRow_len, pngRow_len, hk, hl]) h' po wy k l
theorem pngA_sum {size : Nat} {A B : List Int} (h : A.length = B.length) (po : Int) (ws : List Int) : ∀ i, pngA po size ws (sumL 256 A B) i = sumL 256 (pngA po size ws A i) (pngA po size ws B i) ∧ (pngA po size ws A i).length = (pngA po size ws B i).length
  | 0 => ⟨rfl, rfl⟩
  | i + 1 => by
    obtain ⟨h1, h2⟩ := pngA_sum h po ws i
    have hc : (chunk size A i).length = (chunk size B i).length := by simp [chunk, h]
    constructor
    · rw [pngA, pngA, pngA, h1, sumL_chunk 256 h]
      exact pngRow_sum h2 po _ _ _ _ hc rfl
    · rw [pngA, pngA]
      unfold pngRow
      rw [pngRow_len, pngRow_len, hc]
theorem pngL_sum {size : Nat} {A B : List Int} (h : A.length = B.length) (po : Int) (ws : List Int) (rows : Nat) : pngL po size ws (sumL 256 A B) rows = sumL 256 (pngL po size ws A rows) (pngL po size ws B rows) := by
  unfold pngL
  rw [← (sumL_flat 256 (n := rows) (R := fun j => pngA po size ws A (j + 1)) (R' := fun j => pngA po size ws B (j + 1)) fun i _ => (pngA_sum h po ws (i + 1)).2).1]
  exact flatMap_congr' fun i _ => (pngA_sum h po ws (i + 1)).1
theorem pngL_range (po : Int) (size : Nat) (ws ks : List Int) (rows : Nat) : ∀ x ∈ pngL po size ws ks rows, 0 ≤ x ∧ x < 256 := by
  intro x hx
  obtain ⟨j, _, hx⟩ := List.mem_flatMap.mp hx
  exact pngRow_range _ _ _ _ [] (fun _ h => nomatch h) x hx
theorem pngRow_zero (m : Nat) (po wy : Int) : ∀ n, pngRow (List.replicate m 0) po wy (List.replicate n 0) = List.replicate n 0
  | 0 => rfl
  | n + 1 => by
    have e : pngRow (List.replicate m 0) po wy (List.replicate (n + 1) 0) = pngStep (List.replicate m 0) po wy (pngRow (List.replicate m 0) po wy (List.replicate n 0)) 0 := by
      unfold pngRow; rw [List.replicate_succ', List.foldl_append]; rfl
    rw [e, pngRow_zero m po wy n]
    unfold pngStep
    rw [← List.replicate_succ' (n := n), List.replicate_succ' (n := n)]
    congr 1
    have g : guessL (List.replicate n 0 ++ [0]) (List.replicate m 0) ((List.replicate n (0 : Int)).length : Int) po wy = 0 := by
      rw [← List.replicate_succ']
      unfold guessL
      rw [getD_zero, getD_zero]; simp
    rw [g]; rfl
theorem pngA_zero (po : Int) (size : Nat) (ws : List Int) (rows : Nat) : ∀ i, i < rows → pngA po size ws (List.replicate (rows * size) 0) (i + 1) = List.replicate size 0 ∧ ∃ k, pngA po size ws (List.replicate (rows * size) 0) i = List.replicate k 0
  | 0, h => by
    refine ⟨?_, 0, rfl⟩
    rw [pngA, pngA, chunk_zeros h]
    exact pngRow_zero 0 po _ size
  | i + 1, h => by
    obtain ⟨h1, _⟩ := pngA_zero po size ws rows i (by omega)
    refine ⟨?_, _, h1⟩
    rw [pngA, h1, chunk_zeros h]
    exact pngRow_zero size po _ size
theorem pngL_zero (po : Int) (size : Nat) (ws : List Int) (rows : Nat) : pngL po size ws (List.replicate (rows * size) 0) rows = List.replicate (rows * size) 0 := by
  unfold pngL
  exact flat_zero size rows fun i hi => (pngA_zero po size ws rows i hi).1
theorem lawS_len (M T : Int) (q : Nat) : (lawS M T q).length = q := by simp [lawS]
theorem sumN_is {b cnt n : Nat} (hcb : b * cnt = 8) {A B : List Int} (hA : A.length = n) (hB : B.length = n) (rA : ∀ x ∈ A, 0 ≤ x ∧ x < 256) (rB : ∀ x ∈ B, 0 ≤ x ∧ x < 256) :
    octL b cnt n (sumL (2 ^ (b : Int).toNat) (lawS (2 ^ (b : Int).toNat) (big A) (n * cnt)).reverse (lawS (2 ^ (b : Int).toNat) (big B) (n * cnt)).reverse) = octL b cnt n (sumL (2 ^ b) (sampL b cnt A) (sampL b cnt B)) := by
  rw [Int.toNat_natCast, law_digits hcb n A hA rA, law_digits hcb n B hB rB]
theorem rowN_eq (ud : Bool) (b cnt c l size : Nat) : rowN ud b cnt c l size = fun r => octL b cnt size ((fun as => turnL ud (2 ^ b) c as (min (c * l) (size * cnt) - c)) (sampL b cnt r)) := by
  funext r
  unfold rowN
  rw [Int.one_mul, Int.toNat_natCast]
theorem linN (w : World) (ud : Bool) {b cnt c l size rows : Nat} (hb0 : 1 ≤ b) (hb8 : b ≤ 8) (hcb : b * cnt = 8) (hcnt : Int.fdiv 8 (b : Int) = cnt) (hc : 1 ≤ c) (hc3 : c ≤ 3) (hl : 1 ≤ l) (hl5 : l ≤ 5) (hs : size ≤ 30)
    (hc1 : 1 ≤ cnt) (hc8 : cnt ≤ 8) (A B : List Int) (hA : A.length = rows * size) (hB : B.length = rows * size) (rA : ∀ x ∈ A, 0 ≤ x ∧ x < 256) (rB : ∀ x ∈ B, 0 ≤ x ∧ x < 256) :
    tiffL (rowN ud b cnt c l size) size rows (octL b cnt (rows * size) (sumL (2 ^ (b : Int).toNat) (lawS (2 ^ (b : Int).toNat) (big A) (rows * size * cnt)).reverse (lawS (2 ^ (b : Int).toNat) (big B) (rows * size * cnt)).reverse)) =
    octL b cnt (rows * size) (sumL (2 ^ (b : Int).toNat) (lawS (2 ^ (b : Int).toNat) (big (tiffL (rowN ud b cnt c l size) size rows A)) (rows * size * cnt)).reverse (lawS (2 ^ (b : Int).toNat) (big (tiffL (rowN ud b cnt c l size) size rows B)) (rows * size * cnt)).reverse) := by
  have R := rowN_is (w := w) (ud := ud) (sx := 0) (po := 0) (colors := c) (columns := l) (cnt := cnt) (size := size) (bits := (b : Int)) (by omega) (by omega) hcnt (by rw [← Int.natCast_mul, hcb]; rfl) hc1 hc8 (by omega) hc hc3 hl hl5
  have lA := tiffL_len hA R.len rows (Nat.le_refl _)
  have lB := tiffL_len hB R.len rows (Nat.le_refl _)
  have gA := tiffL_range hA rA R.range
  have gB := tiffL_range hB rB R.range
  have hM : (1 : Int) ≤ 2 ^ b := Int.pow_pos (by decide)
  have hSr : ∀ X : List Int, ∀ x ∈ sampL b cnt X, 0 ≤ x ∧ x < (2 : Int) ^ b := fun X => by
    have := @sampL_range (b : Int) (by rw [Int.toNat_natCast]; exact hM) cnt X
    rw [Int.toNat_natCast] at this
    exact this
  rw [sumN_is hcb hA hB rA rB, sumN_is hcb lA lB gA gB, rowN_eq]
  exact tiff_lin (S := sampL b cnt) (S1 := sampL b cnt) (O1 := octL b cnt size) (O2 := octL b cnt (rows * size)) (T := fun as => turnL ud (2 ^ b) c as (min (c * l) (size * cnt) - c)) (M := 2 ^ b) (m := size * cnt) hM
    (fun X hX => by rw [sampL_length, hX, Nat.mul_assoc])
    (fun X hX i hi => sampL_chunk _ _ hX hi)
    (fun R hR => octL_flat _ _ _ rows hR)
    (fun Y _ => octL_len _ _ _ _)
    (fun Y hY hr => samp_octL hcb (by rw [hY, Nat.mul_assoc]) hr)
    (fun as bs h => turnL_sum ud hM c h _)
    (fun as => turnL_len _ _ _ _ _)
    (fun as h => turnL_range ud hM c h _)
    hA hB (hSr A) (hSr B)
theorem zeroN (ud : Bool) (b cnt c l size rows : Nat) : tiffL (rowN ud b cnt c l size) size rows (List.replicate (rows * size) 0) = List.replicate (rows * size) 0 :=
  tiff_zero (by
    unfold rowN
    rw [sampL_zero, turnL_zero, octL_zero])
theorem kitN (w : World) {b cnt c l size rows : Nat} (hb0 : 1 ≤ b) (hb8 : b ≤ 8) (hcb : b * cnt = 8) (hcnt : Int.fdiv 8 (b : Int) = cnt) (hq : ∀ n : Nat, (8 * (n : Int)).fdiv b = (n * cnt : Nat)) (hc : 1 ≤ c) (hc3 : c ≤ 3) (hl : 1 ≤ l) (hl5 : l ≤ 5) (hs : size ≤ 30) (hr4 : rows ≤ 4)
    (hc1 : 1 ≤ cnt) (hc8 : cnt ≤ 8) :
    LawKit w (b : Int) c l size rows (sampL b cnt) (fun A B => octL b cnt (rows * size) (sumL (2 ^ (b : Int).toNat) (lawS (2 ^ (b : Int).toNat) (big A) (rows * size * cnt)).reverse (lawS (2 ^ (b : Int).toNat) (big B) (rows * size * cnt)).reverse)) (rowN false b cnt c l size) (rowN true b cnt c l size) := by
  have hrs : rows * size ≤ 4 * 30 := Nat.mul_le_mul hr4 hs
  have hrc : rows * size * cnt ≤ 4 * 30 * 8 := Nat.mul_le_mul hrs hc8
  have hcb2 : (b : Int) * cnt = 8 := by rw [← Int.natCast_mul, hcb]; rfl
  exact {
    samp := fun x tr tb nw hx => samples_spec w x tr tb b cnt nw (by omega) (by omega) hcnt (by omega) hc8 (by omega)
    lsamp := fun x tr tb nw hx => by
      have h := lawsamples_spec w x tr tb b (rows * size * cnt) nw (by omega) (by omega) (by omega) (by rw [hx]; exact hq _) (by omega)
      rw [Int.toNat_natCast, law_digits hcb (rows * size) _ (by rw [KBw.ints_length, hx]) (bInts_range x)] at h
      exact h
    slen := fun ks hk => by rw [sampL_length, hk]; omega
    sum := fun b1 b2 t1 t2 tb nw h1 h2 => lawsum_spec w b1 b2 t1 t2 tb b cnt (rows * size) nw (by omega) (by omega) hcnt hcb2 hc1 hc8 h1 h2 (by omega) (hq _)
    sumlen := fun A B _ _ => octL_len _ _ _ _
    rf := fun sx po => rowN_is (by omega) (by omega) hcnt hcb2 hc1 hc8 (by omega) hc hc3 hl hl5
    rb := fun sx po => rowN_is (by omega) (by omega) hcnt hcb2 hc1 hc8 (by omega) hc hc3 hl hl5
    linF := fun A B hA hB rA rB => linN w false hb0 hb8 hcb hcnt hc hc3 hl hl5 hs hc1 hc8 A B hA hB rA rB
    linB := fun A B hA hB rA rB => linN w true hb0 hb8 hcb hcnt hc hc3 hl hl5 hs hc1 hc8 A B hA hB rA rB
    zF := zeroN false b cnt c l size rows
    zB := zeroN true b cnt c l size rows }
theorem p16 : (2 : Int) ^ Int.toNat 16 = 65536 := by decide
theorem sum16_is {n : Nat} {A B : List Int} (hA : A.length = 2 * n) (hB : B.length = 2 * n) (rA : ∀ x ∈ A, 0 ≤ x ∧ x < 256) (rB : ∀ x ∈ B, 0 ≤ x ∧ x < 256) :
    octL16 (sumL (2 ^ Int.toNat 16) (lawS (2 ^ Int.toNat 16) (big A) n).reverse (lawS (2 ^ Int.toNat 16) (big B) n).reverse) = octL16 (sumL 65536 ((List.range n).map (s16 A)) ((List.range n).map (s16 B))) := by
  rw [p16, law_digits16 n A hA rA, law_digits16 n B hB rB]
theorem row16_eq (ud : Bool) (c l half : Nat) : row16 ud c l half = fun r => octL16 ((fun as => turnL ud 65536 c as (min (c * l) half - c)) ((fun ks => (List.range half).map (s16 ks)) r)) := by
  funext r
  unfold row16
  rw [p16, Int.one_mul]
theorem lin16 (w : World) (ud : Bool) {c l half rows : Nat} (hc : 1 ≤ c) (hc3 : c ≤ 3) (hl : 1 ≤ l) (hl5 : l ≤ 5) (hs : half ≤ 15)
    (A B : List Int) (hA : A.length = rows * (2 * half)) (hB : B.length = rows * (2 * half)) (rA : ∀ x ∈ A, 0 ≤ x ∧ x < 256) (rB : ∀ x ∈ B, 0 ≤ x ∧ x < 256) :
    tiffL (row16 ud c l half) (2 * half) rows (octL16 (sumL (2 ^ Int.toNat 16) (lawS (2 ^ Int.toNat 16) (big A) (rows * half)).reverse (lawS (2 ^ Int.toNat 16) (big B) (rows * half)).reverse)) =
    octL16 (sumL (2 ^ Int.toNat 16) (lawS (2 ^ Int.toNat 16) (big (tiffL (row16 ud c l half) (2 * half) rows A)) (rows * half)).reverse (lawS (2 ^ Int.toNat 16) (big (tiffL (row16 ud c l half) (2 * half) rows B)) (rows * half)).reverse) := by
  have R := row16_is (w := w) (ud := ud) (sx := 0) (po := 0) (colors := c) (columns := l) (half := half) (size := 2 * half) rfl (by omega) hc hc3 hl hl5
  have e2 : rows * (2 * half) = 2 * (rows * half) := Nat.mul_left_comm _ _ _
  have lA := tiffL_len hA R.len rows (Nat.le_refl _)
  have lB := tiffL_len hB R.len rows (Nat.le_refl _)
  have gA := tiffL_range hA rA R.range
  have gB := tiffL_range hB rB R.range
  have hSr : ∀ X : List Int, (∀ x ∈ X, 0 ≤ x ∧ x < 256) → ∀ x ∈ (List.range (rows * half)).map (s16 X), 0 ≤ x ∧ x < 65536 := fun X hX x hx => by
    obtain ⟨i, _, rfl⟩ := List.mem_map.mp hx
    exact s16_range hX i
  rw [sum16_is (hA.trans e2) (hB.trans e2) rA rB, sum16_is (lA.trans e2) (lB.trans e2) gA gB, row16_eq]
  exact tiff_lin (S := fun ks => (List.range (rows * half)).map (s16 ks)) (S1 := fun ks => (List.range half).map (s16 ks)) (O1 := octL16) (O2 := octL16) (T := fun as => turnL ud 65536 c as (min (c * l) half - c)) (M := 65536) (m := half) (by decide)
    (fun X hX => by simp)
    (fun X hX i hi => s16_chunk hi)
    (fun R hR => oct16_flat rows)
    (fun Y hY => by rw [octL16_len, hY, e2])
    (fun Y hY hr => s16_oct _ Y hY hr)
    (fun as bs h => turnL_sum ud (by decide) c h _)
    (fun as => turnL_len _ _ _ _ _)
    (fun as h => turnL_range ud (by decide) c h _)
    hA hB (hSr A rA) (hSr B rB)
theorem zero16 (ud : Bool) (c l half rows : Nat) : tiffL (row16 ud c l half) (2 * half) rows (List.replicate (rows * (2 * half)) 0) = List.replicate (rows * (2 * half)) 0 :=
  tiff_zero (by
    unfold row16
    rw [s16_zero, turnL_zero, oct16_zero])
theorem kit16 (w : World) {c l half rows : Nat} (hc : 1 ≤ c) (hc3 : c ≤ 3) (hl : 1 ≤ l) (hl5 : l ≤ 5) (hs : half ≤ 15) (hr4 : rows ≤ 4) :
    LawKit w 16 c l (2 * half) rows (fun ks => (List.range (rows * half)).map (s16 ks)) (fun A B => octL16 (sumL (2 ^ Int.toNat 16) (lawS (2 ^ Int.toNat 16) (big A) (rows * half)).reverse (lawS (2 ^ Int.toNat 16) (big B) (rows * half)).reverse)) (row16 false c l half) (row16 true c l half) := by
  have hrs : rows * half ≤ 4 * 15 := Nat.mul_le_mul hr4 hs
  have e2 : rows * (2 * half) = 2 * (rows * half) := Nat.mul_left_comm _ _ _
  exact {
    samp := fun x tr tb nw hx => samples16_spec w x tr tb (rows * half) nw (hx.trans e2) (by omega)
    lsamp := fun x tr tb nw hx => by
      have h := lawsamples_spec w x tr tb 16 (rows * half) nw (by omega) (by omega) (by omega) (by rw [hx, e2, Int.fdiv_eq_ediv_of_nonneg _ (by decide)]; omega) (by omega)
      rw [p16, law_digits16 (rows * half) _ (by rw [KBw.ints_length, hx, e2]) (bInts_range x)] at h
      exact h
    slen := fun ks hk => by simp; omega
    sum := fun b1 b2 t1 t2 tb nw h1 h2 => lawsum16_spec w b1 b2 t1 t2 tb (rows * half) nw (h1.trans e2) (h2.trans e2) (by omega)
    sumlen := fun A B _ _ => by rw [octL16_len, sumL_len, List.length_reverse, lawS_len, e2]
    rf := fun sx po => row16_is rfl (by omega) hc hc3 hl hl5
    rb := fun sx po => row16_is rfl (by omega) hc hc3 hl hl5
    linF := fun A B hA hB rA rB => lin16 w false hc hc3 hl hl5 hs A B hA hB rA rB
    linB := fun A B hA hB rA rB => lin16 w true hc hc3 hl hl5 hs A B hA hB rA rB
    zF := zero16 false c l half rows
    zB := zero16 true c l half rows }
theorem size_facts {b c l : Nat} (hb : 1 ≤ b) (hb16 : b ≤ 16) (hc : 1 ≤ c) (hc3 : c ≤ 3) (hl : 1 ≤ l) (hl5 : l ≤ 5) :
    ((c : Int) * b * l + 7).fdiv 8 = ((b * (c * l) + 7) / 8 : Nat) ∧ 1 ≤ (b * (c * l) + 7) / 8 ∧ (b * (c * l) + 7) / 8 ≤ 30 ∧ 1 ≤ ((c : Int) * b + 7).fdiv 8 ∧ ((c : Int) * b + 7).fdiv 8 ≤ 1000 := by
  have h1 : 1 * (1 * 1) ≤ b * (c * l) := Nat.mul_le_mul hb (Nat.mul_le_mul hc hl)
  have h2 : b * (c * l) ≤ 16 * (3 * 5) := Nat.mul_le_mul hb16 (Nat.mul_le_mul hc3 hl5)
  have h3 : 1 * 1 ≤ c * b := Nat.mul_le_mul hc hb
  have h4 : c * b ≤ 3 * 16 := Nat.mul_le_mul hc3 hb16
  have e : (c : Int) * b * l = ((b * (c * l) : Nat) : Int) := by rw [Int.natCast_mul, Int.natCast_mul, Int.mul_comm (c : Int) b, Int.mul_assoc]
  rw [e, ← Int.natCast_mul, Int.fdiv_eq_ediv_of_nonneg _ (by decide), Int.fdiv_eq_ediv_of_nonneg _ (by decide)]
  generalize b * (c * l) = x at *
  generalize c * b = y at *
  clear e hb hb16 hc hc3 hl hl5
  exact ⟨by omega, by omega, by omega, by omega, by omega⟩
theorem oct_div {b cnt : Nat} (hcb : b * cnt = 8) (hb : 0 < b) (n : Nat) : (8 * (n : Int)).fdiv b = (n * cnt : Nat) := by
  rw [Int.fdiv_eq_ediv_of_nonneg _ (Int.natCast_nonneg b), show (8 : Int) = ((b * cnt : Nat) : Int) by rw [hcb]; rfl, ← Int.natCast_mul, Nat.mul_assoc, ← Int.natCast_ediv, Nat.mul_div_cancel_left _ hb, Nat.mul_comm]
theorem kit_exists (w : World) (bits ci li : Int) (hb : bits = 1 ∨ bits = 2 ∨ bits = 4 ∨ bits = 8 ∨ bits = 16) (hc : 1 ≤ ci) (hc3 : ci ≤ 3) (hl : 1 ≤ li) (hl5 : li ≤ 5) (rows : Nat) (hr4 : rows ≤ 4) :
    ∃ (c l size : Nat) (po : Int), ci = c ∧ li = l ∧ (ci * bits * li + 7).fdiv 8 = size ∧ 1 ≤ size ∧ size ≤ 30 ∧ (ci * bits + 7).fdiv 8 = po ∧ 1 ≤ po ∧ po ≤ 1000 ∧ ∃ S SUM rowF rowB, LawKit w bits c l size rows S SUM rowF rowB := by
  obtain ⟨c, rfl⟩ : ∃ c : Nat, ci = c := ⟨ci.toNat, (Int.toNat_of_nonneg (Int.le_trans (by decide) hc)).symm⟩
  obtain ⟨l, rfl⟩ : ∃ l : Nat, li = l := ⟨li.toNat, (Int.toNat_of_nonneg (Int.le_trans (by decide) hl)).symm⟩
  have c1 : 1 ≤ c := Int.ofNat_le.mp hc
  have c3 : c ≤ 3 := Int.ofNat_le.mp hc3
  have l1 : 1 ≤ l := Int.ofNat_le.mp hl
  have l5 : l ≤ 5 := Int.ofNat_le.mp hl5
  clear hc hc3 hl hl5
  rcases hb with rfl | rfl | rfl | rfl | rfl
  · have z := @size_facts 1 c l (by decide) (by decide) c1 c3 l1 l5
    exact ⟨c, l, _, _, rfl, rfl, z.1, z.2.1, z.2.2.1, rfl, z.2.2.2.1, z.2.2.2.2, _, _, _, _, kitN w (b := 1) (cnt := 8) (by decide) (by decide) rfl rfl (oct_div rfl (by decide)) c1 c3 l1 l5 z.2.2.1 hr4 (by decide) (by decide)⟩
  · have z := @size_facts 2 c l (by decide) (by decide) c1 c3 l1 l5
    exact ⟨c, l, _, _, rfl, rfl, z.1, z.2.1, z.2.2.1, rfl, z.2.2.2.1, z.2.2.2.2, _, _, _, _, kitN w (b := 2) (cnt := 4) (by decide) (by decide) rfl rfl (oct_div rfl (by decide)) c1 c3 l1 l5 z.2.2.1 hr4 (by decide) (by decide)⟩
  · have z := @size_facts 4 c l (by decide) (by decide) c1 c3 l1 l5
    exact ⟨c, l, _, _, rfl, rfl, z.1, z.2.1, z.2.2.1, rfl, z.2.2.2.1, z.2.2.2.2, _, _, _, _, kitN w (b := 4) (cnt := 2) (by decide) (by decide) rfl rfl (oct_div rfl (by decide)) c1 c3 l1 l5 z.2.2.1 hr4 (by decide) (by decide)⟩
  · have z := @size_facts 8 c l (by decide) (by decide) c1 c3 l1 l5
    exact ⟨c, l, _, _, rfl, rfl, z.1, z.2.1, z.2.2.1, rfl, z.2.2.2.1, z.2.2.2.2, _, _, _, _, kitN w (b := 8) (cnt := 1) (by decide) (by decide) rfl rfl (oct_div rfl (by decide)) c1 c3 l1 l5 z.2.2.1 hr4 (by decide) (by decide)⟩
  · have z := @size_facts 16 c l (by decide) (by decide) c1 c3 l1 l5
    have e : (16 * (c * l) + 7) / 8 = 2 * (c * l) := by omega
    rw [e] at z
    exact ⟨c, l, 2 * (c * l), _, rfl, rfl, z.1, z.2.1, z.2.2.1, rfl, z.2.2.2.1, z.2.2.2.2, _, _, _, _, kit16 w c1 c3 l1 l5 (Nat.mul_le_mul c3 l5) hr4⟩
theorem ne_cons {pn : Addr} {p : Addr × Obj} {r : List (Addr × Obj)} (h : @Ne Nat p.1 pn) (hr : ∀ x ∈ r, x.1 ≠ pn) : ∀ x ∈ p :: r, x.1 ≠ pn := fun x hx => by
  rcases List.mem_cons.mp hx with rfl | hx
  · exact h
  · exact hr x hx
theorem news_swap {g h : Heap} {L : Addr} {a b : Addr × Obj} {r : List (Addr × Obj)} (N : News g L h (a :: b :: r)) : News g L h (b :: a :: r) := fun p hp => N p (by
  simp only [List.mem_cons] at hp ⊢
  rcases hp with h | h | h
  · exact .inr (.inl h)
  · exact .inl h
  · exact .inr (.inr h))
theorem pen_open {g h : Heap} {L pn q : Addr} {t1 t2 t3 : Tok} {sal : Int} {n : Nat} {rest : List (Addr × Obj)} (N : News g L h ((pn, listOf #[.ref q, .int 0 t1, .int 0 t2, .int sal t3] n) :: rest)) (h0 : 0 ≤ sal) (h1 : sal < 1009) : ∃ ob, PenIn q 0 ob ∧ News g L h ((pn, ob) :: rest) :=
  ⟨_, ⟨0, 0, sal, t1, t2, t3, n, rfl, by omega, by omega, by omega, h0, h1⟩, N⟩
theorem news_rot {g h : Heap} {L : Addr} {a b c : Addr × Obj} {r : List (Addr × Obj)} (N : News g L h (a :: b :: c :: r)) : News g L h (c :: a :: b :: r) := fun p hp => N p (by
  simp only [List.mem_cons] at hp ⊢
  rcases hp with h | h | h | h
  · exact .inr (.inr (.inl h))
  · exact .inl h
  · exact .inr (.inl h)
  · exact .inr (.inr (.inr h)))
theorem news_24 {g h : Heap} {L : Addr} {a b c : Addr × Obj} {r : List (Addr × Obj)} (N : News g L h (a :: b :: c :: r)) : News g L h (b :: r) := fun p hp => N p (by
  simp only [List.mem_cons] at hp ⊢
  rcases hp with h | h
  · exact .inr (.inl h)
  · exact .inr (.inr (.inr h)))
theorem bInts_inj {b c : Array UInt8} (h : KBw.bInts b = KBw.bInts c) : b = c := by
  have : b.toList = c.toList := by
    unfold KBw.bInts at h
    exact (List.map_inj_right (fun x y e => by
      have e2 : x.toNat = y.toNat := Int.ofNat.inj e
      exact UInt8.toNat_inj.mp e2)).mp h
  exact Array.toList_inj.mp this
theorem bytesAre_three {zs : List Value} {a b c : List Int} (h : BytesAre zs [a, b, c]) : ∃ X0 t0 X1 t1 X2 t2, zs = [Value.bytes X0 t0, Value.bytes X1 t1, Value.bytes X2 t2] ∧ KBw.bInts X0 = a ∧ KBw.bInts X1 = b ∧ KBw.bInts X2 = c := by
  obtain ⟨hl, he⟩ := h
  obtain ⟨v0, v1, v2, rfl⟩ : ∃ v0 v1 v2, zs = [v0, v1, v2] := by
    rcases zs with _ | ⟨v0, _ | ⟨v1, _ | ⟨v2, _ | ⟨v3, zs⟩⟩⟩⟩
    · exact absurd hl (by simp)
    · exact absurd hl (by simp)
    · exact absurd hl (by simp)
    · exact ⟨_, _, _, rfl⟩
    · exact absurd hl (by simp)
  obtain ⟨X0, t0, rfl, h0⟩ := he 0 v0 a rfl rfl
  obtain ⟨X1, t1, rfl, h1⟩ := he 1 v1 b rfl rfl
  obtain ⟨X2, t2, rfl, h2⟩ := he 2 v2 c rfl rfl
  exact ⟨X0, t0, X1, t1, X2, t2, rfl, h0, h1, h2⟩
theorem laid_sum {po : Int} {size rows : Nat} {ws : List Int} {A B G X0 X1 X2 Y : Array UInt8} (hA : A.size = rows * size) (hB : B.size = rows * size)
    (hG : KBw.bInts G = octL 8 1 (rows * size) (sumL (2 ^ Int.toNat 8) (lawS (2 ^ Int.toNat 8) (big (KBw.bInts A)) (rows * size * 1)).reverse (lawS (2 ^ Int.toNat 8) (big (KBw.bInts B)) (rows * size * 1)).reverse))
    (x0 : KBw.bInts X0 = pngL po size ws (KBw.bInts A) rows) (x1 : KBw.bInts X1 = pngL po size ws (KBw.bInts B) rows) (x2 : KBw.bInts X2 = pngL po size ws (KBw.bInts G) rows)
    (hY : KBw.bInts Y = octL 8 1 (rows * size) (sumL (2 ^ Int.toNat 8) (lawS (2 ^ Int.toNat 8) (big (KBw.bInts X0)) (rows * size * 1)).reverse (lawS (2 ^ Int.toNat 8) (big (KBw.bInts X1)) (rows * size * 1)).reverse)) : X2 = Y := by
  have hAl : (KBw.bInts A).length = rows * size := by rw [KBw.ints_length]; exact hA
  have hBl : (KBw.bInts B).length = rows * size := by rw [KBw.ints_length]; exact hB
  refine bInts_inj ?_
  rw [x2, hY, hG, x0, x1, sum8_is hAl hBl (bInts_range A) (bInts_range B), pngL_sum (hAl.trans hBl.symm), sum8_is (pngL_len hAl rows (Nat.le_refl _)) (pngL_len hBl rows (Nat.le_refl _)) (pngL_range _ _ _ _ _) (pngL_range _ _ _ _ _)]
theorem walk_words2 : True := by
  k_with "my steps" => repeat' (first | (k_unfold; (try dsimp only)) | (k_end; wrow_close) | walk1 | (dsimp only; walk1) | (leave1; walk_say "STEP leave1"; try dsimp only) | fail "no step")
  k_with "my assigncomp" => (refine Halt.go ?_; (walk_at "my F"); (with_unfolding_all refine' Assign_ListComp_my ‹Fr _ _ _ _› ?c0 ?c1 ?c2 ?c3 ?c4 ?c5 ?c6 ?c7 ?c8 ?c9 ?_; (case c0 => exact rfl); (case c1 => exact rfl); (case c2 => exact rfl); (case c3 => decide); (case c4 => exact rfl); (case c5 => decide); (case c6 => exact rfl); (case c7 => exact rfl); (case c8 => exact rfl); (case c9 => exact fun _ => rfl); k_whole); k_steps)
  trivial
def mT (A : Array UInt8) (tA : Tok) (B : Array UInt8) (tB : Tok) (rows : Nat) (tr : Tok) (vc : Value) (bits : Int) (tb : Tok) (m0 : PySem.Str → Option Value) : PySem.Str → Option Value := fun y =>
  if y = PySem.Str.ofString "one" then some (.bytes A tA) else if y = PySem.Str.ofString "other" then some (.bytes B tB) else if y = PySem.Str.ofString "rows" then some (.int rows tr)
  else if y = PySem.Str.ofString "colors" then some vc else if y = PySem.Str.ofString "bits" then some (.int bits tb) else m0 y
/-- the entries that no later step changes, under one name -/
theorem ledger_open {g h : Heap} {L pn : Addr} {p x1 x2 x3 x4 x5 x6 x7 : Addr × Obj} (N : News g L h [p, x1, x2, x3, x4, x5, x6, x7]) (ne : ∀ x ∈ [x1, x2, x3, x5, x6, x7], x.1 ≠ pn) (ne2 : ∀ x ∈ [x1, x2, x3, x5, x6, x7], x.1 ≠ x4.1) :
    ∃ T : List (Addr × Obj), News g L h (p :: x4 :: T) ∧ (∀ x ∈ T, x.1 ≠ pn) ∧ (∀ x ∈ T, x.1 ≠ x4.1) ∧ x1 ∈ T ∧ x2 ∈ T ∧ x3 ∈ T ∧ x5 ∈ T ∧ x6 ∈ T ∧ x7 ∈ T :=
  ⟨[x1, x2, x3, x5, x6, x7], fun q hq => N q ((List.Perm.cons p (List.perm_middle (l₁ := [x1, x2, x3]) (a := x4) (l₂ := [x5, x6, x7]))).mem_iff.mpr hq), ne, ne2,
    .head _, .tail _ (.head _), .tail _ (.tail _ (.head _)), .tail _ (.tail _ (.tail _ (.head _))), .tail _ (.tail _ (.tail _ (.tail _ (.head _)))), .tail _ (.tail _ (.tail _ (.tail _ (.tail _ (.head _)))))⟩
structure LawEnd (g : Heap) (L : Addr) (s : Shared) (f : Flow) (s' : Shared) : Prop where
  ex : f = .ret (.bool true) ∧ ∃ h tk m news, s' = { s with heap := h, toks := tk } ∧ Fr g L h m ∧ News g L h news
set_option maxHeartbeats 8000000 in
theorem law_walk : PySem.Challenge.rw_og0135_01.Holds := Mine.hd (by
  k_go0
  all_goals (try k_fold)
  have hret := True.intro
  rename_i w s₀ s₁ mg mb G Y fa o pm doc ho hg KX X V GL T B TE TW w1' w2' M w3' w4' hcd ls hs hlay0 hL0 hr0 hl2 y1 y2 sa vs y3 hL ra w1 r0 hI hr hcond1 hcond2 K0 hD h₁ tk₁ F o1 o2 o3 o4 d1 d2 d3 d4 N0 X0
  clear Y GL X V B TE TW M hcd hs hlay0 hr0 hl2 ra w1 r0 hr hcond1 hcond2 hD
  refine wpAny_mono (Q := LawEnd s₁.heap s₁.heap.objs.size s₁) (E := fun _ _ => False) ?_ ?_ (fun _ _ e => e.elim)
  rotate_left
  · rintro f s' ⟨rfl, h, tk, m, news, rfl, F2, N2⟩
    k_steps
  clear qk ek
  have F1 : Fr s₁.heap s₁.heap.objs.size h₁ (fun y => if y = PySem.Str.ofString "script" then some (.ref sa) else none) := F
  clear F
  have e1 : o1.data = Data.cell none := d1
  have e2 : o2.data = Data.cell none := d2
  have e3 : o3.data = Data.cell none := d3
  have e4 : o4.data = Data.cell none := d4
  have K1 : Below callerA s₁.heap [] s₁.heap := K0
  clear K0
  k_steps
  rename_i tk2 g' L' h3 B' X' T' tk3 D1 ws1 h4 hI1 hC1 hL1 l1 D2 c2 h5 l2 D3 ws3 h6 hI3 hC3 hL3 l3 h7 tk7 t7 u7 tk8 pn h8 F8 N8 l8 Tc' kX h9 o5 F9 N9 d9 tk9
  (try clear F8); (try clear N8); (try clear B'); (try clear X'); (try clear T'); (try clear Tc'); (try clear kX); (try clear hL1); (try clear hC1); (try clear hL3); (try clear hC3); (try clear hI3); (try clear N0); (try clear X0); (try clear d1); (try clear d2); (try clear d3); (try clear d4); (try clear w2'); (try clear ho); (try clear hg); (try clear hL0); (try clear o); (try clear pm); (try clear doc); (try clear y1); (try clear y2); (try clear y3); (try clear G); (try clear F1); (try clear e4)
  obtain ⟨ob, hp0, N10⟩ := pen_open N9 (fmod_lo _ (by decide)) (fmod_hi _ (by decide))
  clear N9
  have N11 : News s₁.heap s₁.heap.objs.size h9 ((pn, ob) :: (D2, listOf ws1.toArray c2) :: (s₁.heap.objs.size + 1 + 1 + 1 + 1, o1) :: (s₁.heap.objs.size + 1 + 1 + 1, o2) :: (s₁.heap.objs.size + 1 + 1, o3) :: (s₁.heap.objs.size + 1, o5) :: []) :=
    fun p hp => N10 p (by simp only [List.mem_cons, List.not_mem_nil, or_false] at hp ⊢; rcases hp with h | h | h | h | h | h <;> simp only [h, true_or, or_true])
  clear N10
  (try clear qk ek); (try clear lifted)
  have ne1' : ∀ {p1 p2 p3 p4 : Obj}, ∀ x ∈ ((D2, listOf ws1.toArray c2) :: (s₁.heap.objs.size + 1 + 1 + 1 + 1, p1) :: (s₁.heap.objs.size + 1 + 1 + 1, p2) :: (s₁.heap.objs.size + 1 + 1, p3) :: (s₁.heap.objs.size + 1, p4) :: [] : List (Addr × Obj)), x.1 ≠ pn := by
    intro p1 p2 p3 p4 x hx
    simp only [List.mem_cons, List.not_mem_nil, or_false] at hx
    rcases hx with rfl | rfl | rfl | rfl | rfl <;> exact Nat.ne_of_lt (by omega)
  obtain ⟨ne1, ne2⟩ : (∀ x ∈ ((D2, listOf ws1.toArray c2) :: (s₁.heap.objs.size + 1 + 1 + 1 + 1, o1) :: (s₁.heap.objs.size + 1 + 1 + 1, o2) :: (s₁.heap.objs.size + 1 + 1, o3) :: (s₁.heap.objs.size + 1, o5) :: [] : List (Addr × Obj)), x.1 ≠ pn) ∧ True := by
    refine ⟨fun x hx => ?_, trivial⟩
    simp only [List.mem_cons, List.not_mem_nil, or_false] at hx
    rcases hx with rfl | rfl | rfl | rfl | rfl <;> exact Nat.ne_of_lt (by omega)
  have hl63 : (ls.take 63).length ≤ 63 := by rw [List.length_take]; omega
  as_aux_lemma =>
  refine Halt.go ?_
  refine' Fn.useD (draw_spec w pn D2 _ 3 0 ob c2 ws1 (ls.take 63) _ hI1 (by omega) hp0 (by omega) hl63 ne1 ?hq) ?c1 ?c2 ?c3 ?c4 ?c5 ?c6 ?cB ?cF ?cX ?cN ?cT ?_
  case c1 => exact rfl
  case c2 => exact rfl
  case c3 => exact rfl
  case c4 => exact rfl
  case c5 => (first | exact dep hdp (Nat.le_of_ble_eq_true rfl) | (dsimp only; omega) | exact Nat.le_of_ble_eq_true rfl)
  case c6 => (first | exact dep4 hun (Nat.le_of_ble_eq_true rfl) | (dsimp only; omega) | exact Nat.le_of_ble_eq_true rfl)
  case cB => assumption
  case cF => k_asm
  case cX => assumption
  case cN => k_asm
  case cT => assumption
  case hq => k_mem
  intro da ta ob1 hda0 hda1 hp1 h10 tk10 F10 N12
  clear N11 F9 hp0
  try dsimp only
  k_steps
  rename_i DT h12 F12 N13 l12
  have N14 := news_swap N13
  clear N13
  as_aux_lemma =>
  refine Halt.go ?_
  refine' Fn.useD (draw_spec w pn D2 _ 5 1 ob1 c2 ws1 (ls.take 63) _ hI1 (by omega) hp1 (by omega) hl63 ?hd ?hq) ?c1 ?c2 ?c3 ?c4 ?c5 ?c6 ?cB ?cF ?cX ?cN ?cT ?_
  case c1 => exact rfl
  case c2 => exact rfl
  case c3 => exact rfl
  case c4 => exact rfl
  case c5 => (first | exact dep hdp (Nat.le_of_ble_eq_true rfl) | (dsimp only; omega) | exact Nat.le_of_ble_eq_true rfl)
  case c6 => (first | exact dep4 hun (Nat.le_of_ble_eq_true rfl) | (dsimp only; omega) | exact Nat.le_of_ble_eq_true rfl)
  case cB => assumption
  case cF => k_asm
  case cX => assumption
  case cN => k_asm
  case cT => assumption
  case hd => exact ne_cons (Nat.ne_of_gt l12.1) ne1
  case hq => k_mem
  intro db tb ob2 hdb0 hdb1 hp2 h11 tk11 F11 N15
  clear N14 F12 hp1
  try dsimp only
  k_steps
  rename_i tbits
  as_aux_lemma =>
  refine Halt.go ?_
  refine' Fn.useD (draw_spec w pn D2 _ 5 2 ob2 c2 ws1 (ls.take 63) _ hI1 (by omega) hp2 (by omega) hl63 ?hd ?hq) ?c1 ?c2 ?c3 ?c4 ?c5 ?c6 ?cB ?cF ?cX ?cN ?cT ?_
  case c1 => exact rfl
  case c2 => exact rfl
  case c3 => exact rfl
  case c4 => exact rfl
  case c5 => (first | exact dep hdp (Nat.le_of_ble_eq_true rfl) | (dsimp only; omega) | exact Nat.le_of_ble_eq_true rfl)
  case c6 => (first | exact dep4 hun (Nat.le_of_ble_eq_true rfl) | (dsimp only; omega) | exact Nat.le_of_ble_eq_true rfl)
  case cB => assumption
  case cF => k_asm
  case cX => assumption
  case cN => k_asm
  case cT => assumption
  case hd => exact ne_cons (Nat.ne_of_gt l12.1) ne1
  case hq => k_mem
  intro dc tc ob3 hdc0 hdc1 hp3 h12 tk12 F13 N16
  clear N15 F11 hp2
  generalize hbits : ([1, 2, 4, 8, 16] : List Int).getD db.toNat 0 = bits
  have hb1 : bits = 1 ∨ bits = 2 ∨ bits = 4 ∨ bits = 8 ∨ bits = 16 := by
    have : db = 0 ∨ db = 1 ∨ db = 2 ∨ db = 3 ∨ db = 4 := by omega
    rcases this with rfl | rfl | rfl | rfl | rfl <;> simp at hbits <;> omega
  clear hbits
  try dsimp only
  k_steps
  rename_i DU h14 l14 h15 h16 h17 h18 F18 N18 tk18
  have N19 := news_24 N18
  (try clear N18); (try clear F13); (try clear N16); (try clear ne1)
  as_aux_lemma =>
  refine Halt.go ?_
  refine' Fn.useS (shape_spec w (1 + da) bits (1 + dc) _ _ _ _ (by omega) (by omega) (by omega) (by omega) (by omega) (by omega)) ?c1 ?c2 ?c3 ?c4 ?c5 ?c6 ?cB ?cF ?cX ?cN ?cT ?_
  case c1 => exact rfl
  case c2 => exact rfl
  case c3 => exact rfl
  case c4 => exact rfl
  case c5 => (first | exact dep hdp (Nat.le_of_ble_eq_true rfl) | (dsimp only; omega) | exact Nat.le_of_ble_eq_true rfl)
  case c6 => (first | exact dep4 hun (Nat.le_of_ble_eq_true rfl) | (dsimp only; omega) | exact Nat.le_of_ble_eq_true rfl)
  case cB => assumption
  case cF => k_asm
  case cX => assumption
  case cN => k_asm
  case cT => assumption
  intro sx sd oD hSh loS ltS h20 tk20 F20 N20
  clear N19 F18
  have hps : pn < sd := loS (pn, ob3) List.mem_cons_self
  have hpx : pn < sx := Nat.lt_trans hps ltS
  have h4s : s₁.heap.objs.size + 1 + 1 + 1 + 1 < sd := loS (_, o1) (by k_mem)
  have h3s : s₁.heap.objs.size + 1 + 1 + 1 < sd := loS (_, o2) (by k_mem)
  have h2s : s₁.heap.objs.size + 1 + 1 < sd := loS (_, o3) (by k_mem)
  clear loS
  try dsimp only
  k_steps
  rename_i h26 o6 d6 tk26 h27 o7 F27 N27 d7 tk27
  have N28 := news_rot N27
  clear N27
  obtain ⟨tz, d8⟩ : ∃ tz, o7.data = Data.cell (some (.int (((1 + da) * bits * (1 + dc) + 7).fdiv 8) tz)) := ⟨_, d7⟩
  clear d7
  as_aux_lemma =>
  refine Halt.go ?_
  refine' Fn.useD (draw_spec w pn D2 _ 4 3 ob3 c2 ws1 (ls.take 63) _ hI1 (by omega) hp3 (by omega) hl63 ?hd ?hq) ?c1 ?c2 ?c3 ?c4 ?c5 ?c6 ?cB ?cF ?cX ?cN ?cT ?_
  case c1 => exact rfl
  case c2 => exact rfl
  case c3 => exact rfl
  case c4 => exact rfl
  case c5 => (first | exact dep hdp (Nat.le_of_ble_eq_true rfl) | (dsimp only; omega) | exact Nat.le_of_ble_eq_true rfl)
  case c6 => (first | exact dep4 hun (Nat.le_of_ble_eq_true rfl) | (dsimp only; omega) | exact Nat.le_of_ble_eq_true rfl)
  case cB => assumption
  case cF => k_asm
  case cX => assumption
  case cN => k_asm
  case cT => assumption
  case hd => exact ne_cons (Nat.ne_of_gt hpx) (ne_cons (Nat.ne_of_gt hps) ne1')
  case hq => k_mem
  intro dd td ob4 hdd0 hdd1 hp4 h29 tk29 F29 N29
  clear N28 F27 hp3
  try dsimp only
  k_steps
  rename_i h30 F30 N30 tk30
  obtain ⟨rows, hrows⟩ : ∃ rows : Nat, 1 + dd = (rows : Int) := ⟨(1 + dd).toNat, by omega⟩
  have hr1 : 1 ≤ rows := by omega
  have hr4 : rows ≤ 4 := by omega
  obtain ⟨c, l, size, po, hc, hl, hsz, hs1, hs30, hpo, hpo1, hpo2, S, SUM, rowF, rowB, K⟩ := kit_exists w bits (1 + da) (1 + dc) hb1 (by omega) (by omega) (by omega) (by omega) rows hr4
  rw [hrows] at F30 ⊢
  rw [hsz] at d8 hSh ⊢
  rw [hpo, hc, hl] at hSh
  have hrs : rows * size ≤ 4 * 30 := Nat.mul_le_mul hr4 hs30
  rw [← Int.natCast_mul]
  (try clear N29); (try clear F29)
  as_aux_lemma =>
  refine Halt.go ?_
  refine' Fn.useDB (block_spec w pn D2 _ (rows * size) 4 ob4 c2 ws1 (ls.take 63) _ hI1 hp4 (by omega) (by omega) hl63 ?hd ?hq) ?c1 ?c2 ?c3 ?c4 ?c5 ?c6 ?cB ?cF ?cX ?cN ?cT ?_
  case c1 => exact rfl
  case c2 => exact rfl
  case c3 => exact rfl
  case c4 => exact rfl
  case c5 => (first | exact dep hdp (Nat.le_of_ble_eq_true rfl) | (dsimp only; omega) | exact Nat.le_of_ble_eq_true rfl)
  case c6 => (first | exact dep4 hun (Nat.le_of_ble_eq_true rfl) | (dsimp only; omega) | exact Nat.le_of_ble_eq_true rfl)
  case cB => assumption
  case cF => k_asm
  case cX => assumption
  case cN => k_asm
  case cT => assumption
  case hd => exact ne_cons (Nat.ne_of_gt hpx) (ne_cons (Nat.ne_of_gt hps) ne1')
  case hq => k_mem
  intro A tA ob5 hA hp5 h31 tk31 F31 N31
  clear N30 F30 hp4
  try dsimp only
  k_steps
  rw [← Int.natCast_mul]
  as_aux_lemma =>
  refine Halt.go ?_
  refine' Fn.useDB (block_spec w pn D2 _ (rows * size) (4 + rows * size) ob5 c2 ws1 (ls.take 63) _ hI1 hp5 (by omega) (by omega) hl63 ?hd ?hq) ?c1 ?c2 ?c3 ?c4 ?c5 ?c6 ?cB ?cF ?cX ?cN ?cT ?_
  case c1 => exact rfl
  case c2 => exact rfl
  case c3 => exact rfl
  case c4 => exact rfl
  case c5 => (first | exact dep hdp (Nat.le_of_ble_eq_true rfl) | (dsimp only; omega) | exact Nat.le_of_ble_eq_true rfl)
  case c6 => (first | exact dep4 hun (Nat.le_of_ble_eq_true rfl) | (dsimp only; omega) | exact Nat.le_of_ble_eq_true rfl)
  case cB => assumption
  case cF => k_asm
  case cX => assumption
  case cN => k_asm
  case cT => assumption
  case hd => exact ne_cons (Nat.ne_of_gt hpx) (ne_cons (Nat.ne_of_gt hps) ne1')
  case hq => k_mem
  intro B tB ob6 hB hp6 h32 tk32 F32 N32
  (try clear N31); (try clear F31); (try clear hp5)
  try dsimp only
  k_steps
  rename_i DV h33 l33 h34 h35 h36 F36 N36' tk36
  have N36 := news_tail N36'
  clear N36' l33
  obtain ⟨tr, vc, m0, F36b⟩ : ∃ tr vc m0, Fr s₁.heap s₁.heap.objs.size h36 (mT A tA B tB rows tr vc bits tbits m0) := ⟨_, _, _, F36⟩
  clear F36
  obtain ⟨T, N36b, neT, neT4, mSx, mSd, mD2, m7, m6, m5⟩ := ledger_open (pn := pn) N36
    (ne_cons (Nat.ne_of_gt hpx) (ne_cons (Nat.ne_of_gt hps) (ne_cons (Nat.ne_of_lt (by omega)) (ne_cons (Nat.ne_of_lt (by omega)) (ne_cons (Nat.ne_of_lt (by omega)) (ne_cons (Nat.ne_of_lt (by omega)) fun _ h => nomatch h))))))
    (ne_cons (Nat.ne_of_gt (Nat.lt_trans h4s ltS)) (ne_cons (Nat.ne_of_gt h4s) (ne_cons (Nat.ne_of_gt (by omega)) (ne_cons (Nat.ne_of_lt (by omega)) (ne_cons (Nat.ne_of_lt (by omega)) (ne_cons (Nat.ne_of_lt (by omega)) fun _ h => nomatch h))))))
  replace neT4 : ∀ x ∈ T, x.1 ≠ s₁.heap.objs.size + 1 + 1 + 1 + 1 := neT4
  have ne4 : @Ne Nat (s₁.heap.objs.size + 1 + 1 + 1 + 1) pn := Nat.ne_of_lt (by omega)
  clear N36 ne1'
  as_aux_lemma =>
  refine Halt.go ?_
  refine' Fn.useB (K.sum A B tA tB tbits _ hA hB) ?c1 ?c2 ?c3 ?c4 ?c5 ?c6 ?cB ?cF ?cX ?cN ?cT ?_
  case c1 => exact rfl
  case c2 => exact rfl
  case c3 => exact rfl
  case c4 => exact rfl
  case c5 => (first | exact dep hdp (Nat.le_of_ble_eq_true rfl) | (dsimp only; omega) | exact Nat.le_of_ble_eq_true rfl)
  case c6 => (first | exact dep4 hun (Nat.le_of_ble_eq_true rfl) | (dsimp only; omega) | exact Nat.le_of_ble_eq_true rfl)
  case cB => assumption
  case cF => k_asm
  case cX => assumption
  case cN => k_asm
  case cT => assumption
  intro C tC hC h37 tk37 F37 N37
  (try clear N36); (try clear F36)
  have hAl : (KBw.bInts A).length = rows * size := by rw [KBw.ints_length]; exact hA
  have hBl : (KBw.bInts B).length = rows * size := by rw [KBw.ints_length]; exact hB
  have hC2 : C.size = rows * size := by rw [← KBw.ints_length, hC]; exact K.sumlen _ _ hAl hBl
  try dsimp only
  k_steps
  as_aux_lemma =>
  refine Halt.go ?_
  refine' Fn.useL (K.samp A tA tbits _ hA) ?c1 ?c2 ?c3 ?c4 ?c5 ?c6 ?cB ?cF ?cX ?cN ?cT ?_
  case c1 => exact rfl
  case c2 => exact rfl
  case c3 => exact rfl
  case c4 => exact rfl
  case c5 => (first | exact dep hdp (Nat.le_of_ble_eq_true rfl) | (dsimp only; omega) | exact Nat.le_of_ble_eq_true rfl)
  case c6 => (first | exact dep4 hun (Nat.le_of_ble_eq_true rfl) | (dsimp only; omega) | exact Nat.le_of_ble_eq_true rfl)
  case cB => assumption
  case cF => k_asm
  case cX => assumption
  case cN => k_asm
  case cT => assumption
  intro lv1 vv1 vn1 hv1 vne1 h38 tk38 F38 N38
  (try clear N37); (try clear F37)
  simp only [AllNe] at vne1
  try dsimp only
  k_steps
  as_aux_lemma =>
  refine Halt.go ?_
  refine' Fn.useL (K.lsamp A tA tbits _ hA) ?c1 ?c2 ?c3 ?c4 ?c5 ?c6 ?cB ?cF ?cX ?cN ?cT ?_
  case c1 => exact rfl
  case c2 => exact rfl
  case c3 => exact rfl
  case c4 => exact rfl
  case c5 => (first | exact dep hdp (Nat.le_of_ble_eq_true rfl) | (dsimp only; omega) | exact Nat.le_of_ble_eq_true rfl)
  case c6 => (first | exact dep4 hun (Nat.le_of_ble_eq_true rfl) | (dsimp only; omega) | exact Nat.le_of_ble_eq_true rfl)
  case cB => assumption
  case cF => k_asm
  case cX => assumption
  case cN => k_asm
  case cT => assumption
  intro lv2 vv2 vn2 hv2 vne2 h39 tk39 F39 N39
  (try clear N38); (try clear F38)
  simp only [AllNe] at vne2
  try dsimp only
  k_steps
  rename_i h40 F40 N40 tk40 tk41
  have N41 := news_tail (news_tail N39)
  (try clear N39); (try clear N40); (try clear F40)
  as_aux_lemma =>
  refine Halt.go ?_
  refine' Fn.useB (tiff_applied_spec w C tC sx c l bits po size rows rowF _ ?hS (K.rf sx po) hs1 (by omega) (by omega) hC2) ?c1 ?c2 ?c3 ?c4 ?c5 ?c6 ?cB ?cF ?cX ?cN ?cT ?_
  case c1 => exact rfl
  case c2 => exact rfl
  case c3 => exact rfl
  case c4 => exact rfl
  case c5 => (first | exact dep hdp (Nat.le_of_ble_eq_true rfl) | (dsimp only; omega) | exact Nat.le_of_ble_eq_true rfl)
  case c6 => (first | exact dep4 hun (Nat.le_of_ble_eq_true rfl) | (dsimp only; omega) | exact Nat.le_of_ble_eq_true rfl)
  case cB => assumption
  case cF => k_asm
  case cX => assumption
  case cN => k_asm
  case cT => assumption
  case hS => exact hSh _ (by k_mem) (by k_mem)
  intro C1 tC1 hC1 h42 tk42 F42 N42
  (try clear N41); (try clear F39)
  try dsimp only
  k_steps
  as_aux_lemma =>
  refine Halt.go ?_
  refine' Fn.useB (tiff_applied_spec w A tA sx c l bits po size rows rowF _ ?hS (K.rf sx po) hs1 (by omega) (by omega) hA) ?c1 ?c2 ?c3 ?c4 ?c5 ?c6 ?cB ?cF ?cX ?cN ?cT ?_
  case c1 => exact rfl
  case c2 => exact rfl
  case c3 => exact rfl
  case c4 => exact rfl
  case c5 => (first | exact dep hdp (Nat.le_of_ble_eq_true rfl) | (dsimp only; omega) | exact Nat.le_of_ble_eq_true rfl)
  case c6 => (first | exact dep4 hun (Nat.le_of_ble_eq_true rfl) | (dsimp only; omega) | exact Nat.le_of_ble_eq_true rfl)
  case cB => assumption
  case cF => k_asm
  case cX => assumption
  case cN => k_asm
  case cT => assumption
  case hS => exact hSh _ (by k_mem) (by k_mem)
  intro A1 tA1 hA1 h43 tk43 F43 N43
  (try clear N42); (try clear F42)
  try dsimp only
  k_steps
  as_aux_lemma =>
  refine Halt.go ?_
  refine' Fn.useB (tiff_applied_spec w B tB sx c l bits po size rows rowF _ ?hS (K.rf sx po) hs1 (by omega) (by omega) hB) ?c1 ?c2 ?c3 ?c4 ?c5 ?c6 ?cB ?cF ?cX ?cN ?cT ?_
  case c1 => exact rfl
  case c2 => exact rfl
  case c3 => exact rfl
  case c4 => exact rfl
  case c5 => (first | exact dep hdp (Nat.le_of_ble_eq_true rfl) | (dsimp only; omega) | exact Nat.le_of_ble_eq_true rfl)
  case c6 => (first | exact dep4 hun (Nat.le_of_ble_eq_true rfl) | (dsimp only; omega) | exact Nat.le_of_ble_eq_true rfl)
  case cB => assumption
  case cF => k_asm
  case cX => assumption
  case cN => k_asm
  case cT => assumption
  case hS => exact hSh _ (by k_mem) (by k_mem)
  intro B1 tB1 hB1 h44 tk44 F44 N44
  (try clear N43); (try clear F43)
  have hA1z : A1.size = rows * size := by rw [← KBw.ints_length, hA1]; exact tiffL_len hAl (K.rf sx po).len rows (Nat.le_refl _)
  have hB1z : B1.size = rows * size := by rw [← KBw.ints_length, hB1]; exact tiffL_len hBl (K.rf sx po).len rows (Nat.le_refl _)
  try dsimp only
  k_steps
  as_aux_lemma =>
  refine Halt.go ?_
  refine' Fn.useB (K.sum A1 B1 tA1 tB1 tbits _ hA1z hB1z) ?c1 ?c2 ?c3 ?c4 ?c5 ?c6 ?cB ?cF ?cX ?cN ?cT ?_
  case c1 => exact rfl
  case c2 => exact rfl
  case c3 => exact rfl
  case c4 => exact rfl
  case c5 => (first | exact dep hdp (Nat.le_of_ble_eq_true rfl) | (dsimp only; omega) | exact Nat.le_of_ble_eq_true rfl)
  case c6 => (first | exact dep4 hun (Nat.le_of_ble_eq_true rfl) | (dsimp only; omega) | exact Nat.le_of_ble_eq_true rfl)
  case cB => assumption
  case cF => k_asm
  case cX => assumption
  case cN => k_asm
  case cT => assumption
  intro C2 tC2 hCC2 h45 tk45 F45 N45
  (try clear N44); (try clear F44)
  have eF : C1 = C2 := bInts_inj (by rw [hC1, hCC2, hC, hA1, hB1]; exact K.linF _ _ hAl hBl (bInts_range A) (bInts_range B))
  subst eF
  try dsimp only
  k_steps
  (first | (focus (rename_i hx _; simp at hx; done)) | skip)
  rename_i hx46 tk46
  as_aux_lemma =>
  refine Halt.go ?_
  refine' Fn.useB (tiff_undone_spec w C tC sx c l bits po size rows rowB _ ?hS (K.rb sx po) hs1 (by omega) (by omega) hC2) ?c1 ?c2 ?c3 ?c4 ?c5 ?c6 ?cB ?cF ?cX ?cN ?cT ?_
  case c1 => exact rfl
  case c2 => exact rfl
  case c3 => exact rfl
  case c4 => exact rfl
  case c5 => (first | exact dep hdp (Nat.le_of_ble_eq_true rfl) | (dsimp only; omega) | exact Nat.le_of_ble_eq_true rfl)
  case c6 => (first | exact dep4 hun (Nat.le_of_ble_eq_true rfl) | (dsimp only; omega) | exact Nat.le_of_ble_eq_true rfl)
  case cB => assumption
  case cF => k_asm
  case cX => assumption
  case cN => k_asm
  case cT => assumption
  case hS => exact hSh _ (by k_mem) (by k_mem)
  intro C3 tC3 hC3 h42 tk42 F42 N42
  (try clear N45); (try clear F45)
  try dsimp only
  k_steps
  as_aux_lemma =>
  refine Halt.go ?_
  refine' Fn.useB (tiff_undone_spec w A tA sx c l bits po size rows rowB _ ?hS (K.rb sx po) hs1 (by omega) (by omega) hA) ?c1 ?c2 ?c3 ?c4 ?c5 ?c6 ?cB ?cF ?cX ?cN ?cT ?_
  case c1 => exact rfl
  case c2 => exact rfl
  case c3 => exact rfl
  case c4 => exact rfl
  case c5 => (first | exact dep hdp (Nat.le_of_ble_eq_true rfl) | (dsimp only; omega) | exact Nat.le_of_ble_eq_true rfl)
  case c6 => (first | exact dep4 hun (Nat.le_of_ble_eq_true rfl) | (dsimp only; omega) | exact Nat.le_of_ble_eq_true rfl)
  case cB => assumption
  case cF => k_asm
  case cX => assumption
  case cN => k_asm
  case cT => assumption
  case hS => exact hSh _ (by k_mem) (by k_mem)
  intro A3 tA3 hA3 h43 tk43 F43 N43
  (try clear N42); (try clear F42)
  try dsimp only
  k_steps
  as_aux_lemma =>
  refine Halt.go ?_
  refine' Fn.useB (tiff_undone_spec w B tB sx c l bits po size rows rowB _ ?hS (K.rb sx po) hs1 (by omega) (by omega) hB) ?c1 ?c2 ?c3 ?c4 ?c5 ?c6 ?cB ?cF ?cX ?cN ?cT ?_
  case c1 => exact rfl
  case c2 => exact rfl
  case c3 => exact rfl
  case c4 => exact rfl
  case c5 => (first | exact dep hdp (Nat.le_of_ble_eq_true rfl) | (dsimp only; omega) | exact Nat.le_of_ble_eq_true rfl)
  case c6 => (first | exact dep4 hun (Nat.le_of_ble_eq_true rfl) | (dsimp only; omega) | exact Nat.le_of_ble_eq_true rfl)
  case cB => assumption
  case cF => k_asm
  case cX => assumption
  case cN => k_asm
  case cT => assumption
  case hS => exact hSh _ (by k_mem) (by k_mem)
  intro B3 tB3 hB3 h44 tk44 F44 N44
  (try clear N43); (try clear F43)
  have hA3z : A3.size = rows * size := by rw [← KBw.ints_length, hA3]; exact tiffL_len hAl (K.rb sx po).len rows (Nat.le_refl _)
  have hB3z : B3.size = rows * size := by rw [← KBw.ints_length, hB3]; exact tiffL_len hBl (K.rb sx po).len rows (Nat.le_refl _)
  try dsimp only
  k_steps
  as_aux_lemma =>
  refine Halt.go ?_
  refine' Fn.useB (K.sum A3 B3 tA3 tB3 tbits _ hA3z hB3z) ?c1 ?c2 ?c3 ?c4 ?c5 ?c6 ?cB ?cF ?cX ?cN ?cT ?_
  case c1 => exact rfl
  case c2 => exact rfl
  case c3 => exact rfl
  case c4 => exact rfl
  case c5 => (first | exact dep hdp (Nat.le_of_ble_eq_true rfl) | (dsimp only; omega) | exact Nat.le_of_ble_eq_true rfl)
  case c6 => (first | exact dep4 hun (Nat.le_of_ble_eq_true rfl) | (dsimp only; omega) | exact Nat.le_of_ble_eq_true rfl)
  case cB => assumption
  case cF => k_asm
  case cX => assumption
  case cN => k_asm
  case cT => assumption
  intro C4 tC4 hCC4 h45 tk45 F45 N45
  (try clear N44); (try clear F44)
  have eB : C3 = C4 := bInts_inj (by rw [hC3, hCC4, hC, hA3, hB3]; exact K.linB _ _ hAl hBl (bInts_range A) (bInts_range B))
  subst eB
  try dsimp only
  k_steps
  (first | (focus (rename_i hx _; simp at hx; done)) | skip)
  walk_at "my for"
  rename_i hx47 tk47 DW h47 F47 N47 l47
  refine kfor_tuple (fun _ : Unit => (DW, { cls := Value.type "tuple", data := Data.seq #[Value.ref 113, Value.ref 120] }) :: (pn, ob6) :: (s₁.heap.objs.size + 1 + 1 + 1 + 1, o1) :: T) (fun _ => []) [] (fun _ _ => True) () rfl rfl _ rfl (fun _ _ _ => List.mem_cons_self) F47 N47 (by walk_at "my ps") trivial ?_ ?_
  · intro i _ v u h tk I oI hv _ off F48 N48
    (try clear N47); (try clear F47)
    simp only [AllNe] at off
    have hi2 : i = 0 ∨ i = 1 := by
      have := (Array.getElem?_eq_some_iff.mp hv).1
      simp at this; omega
    rcases hi2 with rfl | rfl
    · obtain rfl : v = Value.ref 113 := by simpa using hv.symm
      try dsimp only
      k_steps
      rename_i tk49 t49 k49 hApp
      have hABz : (A ++ B).size = (rows + rows) * size := by rw [Array.size_append, hA, hB, Nat.add_mul]
      as_aux_lemma =>
      refine Halt.go ?_
      refine' Fn.useB (tiff_applied_spec w (A ++ B) t49 sx c l bits po size (rows + rows) rowF _ ?hS (K.rf sx po) hs1 (by omega) (by omega) hABz) ?c1 ?c2 ?c3 ?c4 ?c5 ?c6 ?cB ?cF ?cX ?cN ?cT ?_
      case c1 => exact rfl
      case c2 => exact rfl
      case c3 => exact rfl
      case c4 => exact rfl
      case c5 => (first | exact dep hdp (Nat.le_of_ble_eq_true rfl) | (dsimp only; omega) | exact Nat.le_of_ble_eq_true rfl)
      case c6 => (first | exact dep4 hun (Nat.le_of_ble_eq_true rfl) | (dsimp only; omega) | exact Nat.le_of_ble_eq_true rfl)
      case cB => assumption
      case cF => k_asm
      case cX => assumption
      case cN => k_asm
      case cT => assumption
      case hS => exact hSh _ (by k_mem) (by k_mem)
      intro X1 tX1 hX1 h50 tk50 F50 N50
      (try clear N48); (try clear F48)
      try dsimp only
      k_steps
      as_aux_lemma =>
      refine Halt.go ?_
      refine' Fn.useB (tiff_applied_spec w A tA sx c l bits po size rows rowF _ ?hS (K.rf sx po) hs1 (by omega) (by omega) hA) ?c1 ?c2 ?c3 ?c4 ?c5 ?c6 ?cB ?cF ?cX ?cN ?cT ?_
      case c1 => exact rfl
      case c2 => exact rfl
      case c3 => exact rfl
      case c4 => exact rfl
      case c5 => (first | exact dep hdp (Nat.le_of_ble_eq_true rfl) | (dsimp only; omega) | exact Nat.le_of_ble_eq_true rfl)
      case c6 => (first | exact dep4 hun (Nat.le_of_ble_eq_true rfl) | (dsimp only; omega) | exact Nat.le_of_ble_eq_true rfl)
      case cB => assumption
      case cF => k_asm
      case cX => assumption
      case cN => k_asm
      case cT => assumption
      case hS => exact hSh _ (by k_mem) (by k_mem)
      intro X2 tX2 hX2 h51 tk51 F51 N51
      (try clear N50); (try clear F50)
      try dsimp only
      k_steps
      as_aux_lemma =>
      refine Halt.go ?_
      refine' Fn.useB (tiff_applied_spec w B tB sx c l bits po size rows rowF _ ?hS (K.rf sx po) hs1 (by omega) (by omega) hB) ?c1 ?c2 ?c3 ?c4 ?c5 ?c6 ?cB ?cF ?cX ?cN ?cT ?_
      case c1 => exact rfl
      case c2 => exact rfl
      case c3 => exact rfl
      case c4 => exact rfl
      case c5 => (first | exact dep hdp (Nat.le_of_ble_eq_true rfl) | (dsimp only; omega) | exact Nat.le_of_ble_eq_true rfl)
      case c6 => (first | exact dep4 hun (Nat.le_of_ble_eq_true rfl) | (dsimp only; omega) | exact Nat.le_of_ble_eq_true rfl)
      case cB => assumption
      case cF => k_asm
      case cX => assumption
      case cN => k_asm
      case cT => assumption
      case hS => exact hSh _ (by k_mem) (by k_mem)
      intro X3 tX3 hX3 h52 tk52 F52 N52
      (try clear N51); (try clear F51)
      have hX2z : X2.size = rows * size := by rw [← KBw.ints_length, hX2]; exact tiffL_len hAl (K.rf sx po).len rows (Nat.le_refl _)
      have hX3z : X3.size = rows * size := by rw [← KBw.ints_length, hX3]; exact tiffL_len hBl (K.rf sx po).len rows (Nat.le_refl _)
      have eX : X1 = X2 ++ X3 := bInts_inj (by rw [hX1, hApp, tiffL_append _ hAl, KBw.ints_app hX2 hX3])
      subst eX
      try dsimp only
      k_steps
      (first | (focus (rename_i hx _; simp at hx; done)) | skip)
      rw [← Int.natCast_mul]
      refine Halt.go (call_bytes_int (by omega) ?_)
      intro tz1 tkz1
      have hZz : (Array.replicate (rows * size) (0 : UInt8)).size = rows * size := Array.size_replicate
      try dsimp only
      k_steps
      as_aux_lemma =>
      refine Halt.go ?_
      refine' Fn.useB (tiff_applied_spec w (Array.replicate (rows * size) 0) _ sx c l bits po size rows rowF _ ?hS (K.rf sx po) hs1 (by omega) (by omega) hZz) ?c1 ?c2 ?c3 ?c4 ?c5 ?c6 ?cB ?cF ?cX ?cN ?cT ?_
      case c1 => exact rfl
      case c2 => exact rfl
      case c3 => exact rfl
      case c4 => exact rfl
      case c5 => (first | exact dep hdp (Nat.le_of_ble_eq_true rfl) | (dsimp only; omega) | exact Nat.le_of_ble_eq_true rfl)
      case c6 => (first | exact dep4 hun (Nat.le_of_ble_eq_true rfl) | (dsimp only; omega) | exact Nat.le_of_ble_eq_true rfl)
      case cB => assumption
      case cF => k_asm
      case cX => assumption
      case cN => k_asm
      case cT => assumption
      case hS => exact hSh _ (by k_mem) (by k_mem)
      intro X4 tX4 hX4 h53 tk53 F53 N53
      (try clear N52); (try clear F52)
      try dsimp only
      k_steps
      rw [← Int.natCast_mul]
      refine Halt.go (call_bytes_int (by omega) ?_)
      intro tz2 tkz2
      have eZ : X4 = Array.replicate (rows * size) 0 := bInts_inj (by rw [hX4, bInts_replicate]; exact K.zF)
      subst eZ
      try dsimp only
      k_steps
      (first | (focus (rename_i hx _; simp at hx; done)) | skip)
      refine ⟨_, _, _, _, rfl, by k_asm, by k_asm, ?_, ?_⟩
      · walk_at "my ne"
      exact ⟨(), rfl, by walk_at "my ps", by walk_at "my fr", trivial⟩
    · obtain rfl : v = Value.ref 120 := by simpa using hv.symm
      try dsimp only
      k_steps
      rename_i tk49 t49 k49 hApp
      have hABz : (A ++ B).size = (rows + rows) * size := by rw [Array.size_append, hA, hB, Nat.add_mul]
      as_aux_lemma =>
      refine Halt.go ?_
      refine' Fn.useB (tiff_undone_spec w (A ++ B) t49 sx c l bits po size (rows + rows) rowB _ ?hS (K.rb sx po) hs1 (by omega) (by omega) hABz) ?c1 ?c2 ?c3 ?c4 ?c5 ?c6 ?cB ?cF ?cX ?cN ?cT ?_
      case c1 => exact rfl
      case c2 => exact rfl
      case c3 => exact rfl
      case c4 => exact rfl
      case c5 => (first | exact dep hdp (Nat.le_of_ble_eq_true rfl) | (dsimp only; omega) | exact Nat.le_of_ble_eq_true rfl)
      case c6 => (first | exact dep4 hun (Nat.le_of_ble_eq_true rfl) | (dsimp only; omega) | exact Nat.le_of_ble_eq_true rfl)
      case cB => assumption
      case cF => k_asm
      case cX => assumption
      case cN => k_asm
      case cT => assumption
      case hS => exact hSh _ (by k_mem) (by k_mem)
      intro X1 tX1 hX1 h50 tk50 F50 N50
      (try clear N48); (try clear F48)
      try dsimp only
      k_steps
      as_aux_lemma =>
      refine Halt.go ?_
      refine' Fn.useB (tiff_undone_spec w A tA sx c l bits po size rows rowB _ ?hS (K.rb sx po) hs1 (by omega) (by omega) hA) ?c1 ?c2 ?c3 ?c4 ?c5 ?c6 ?cB ?cF ?cX ?cN ?cT ?_
      case c1 => exact rfl
      case c2 => exact rfl
      case c3 => exact rfl
      case c4 => exact rfl
      case c5 => (first | exact dep hdp (Nat.le_of_ble_eq_true rfl) | (dsimp only; omega) | exact Nat.le_of_ble_eq_true rfl)
      case c6 => (first | exact dep4 hun (Nat.le_of_ble_eq_true rfl) | (dsimp only; omega) | exact Nat.le_of_ble_eq_true rfl)
      case cB => assumption
      case cF => k_asm
      case cX => assumption
      case cN => k_asm
      case cT => assumption
      case hS => exact hSh _ (by k_mem) (by k_mem)
      intro X2 tX2 hX2 h51 tk51 F51 N51
      (try clear N50); (try clear F50)
      try dsimp only
      k_steps
      as_aux_lemma =>
      refine Halt.go ?_
      refine' Fn.useB (tiff_undone_spec w B tB sx c l bits po size rows rowB _ ?hS (K.rb sx po) hs1 (by omega) (by omega) hB) ?c1 ?c2 ?c3 ?c4 ?c5 ?c6 ?cB ?cF ?cX ?cN ?cT ?_
      case c1 => exact rfl
      case c2 => exact rfl
      case c3 => exact rfl
      case c4 => exact rfl
      case c5 => (first | exact dep hdp (Nat.le_of_ble_eq_true rfl) | (dsimp only; omega) | exact Nat.le_of_ble_eq_true rfl)
      case c6 => (first | exact dep4 hun (Nat.le_of_ble_eq_true rfl) | (dsimp only; omega) | exact Nat.le_of_ble_eq_true rfl)
      case cB => assumption
      case cF => k_asm
      case cX => assumption
      case cN => k_asm
      case cT => assumption
      case hS => exact hSh _ (by k_mem) (by k_mem)
      intro X3 tX3 hX3 h52 tk52 F52 N52
      (try clear N51); (try clear F51)
      have hX2z : X2.size = rows * size := by rw [← KBw.ints_length, hX2]; exact tiffL_len hAl (K.rb sx po).len rows (Nat.le_refl _)
      have hX3z : X3.size = rows * size := by rw [← KBw.ints_length, hX3]; exact tiffL_len hBl (K.rb sx po).len rows (Nat.le_refl _)
      have eX : X1 = X2 ++ X3 := bInts_inj (by rw [hX1, hApp, tiffL_append _ hAl, KBw.ints_app hX2 hX3])
      subst eX
      try dsimp only
      k_steps
      (first | (focus (rename_i hx _; simp at hx; done)) | skip)
      rw [← Int.natCast_mul]
      refine Halt.go (call_bytes_int (by omega) ?_)
      intro tz1 tkz1
      have hZz : (Array.replicate (rows * size) (0 : UInt8)).size = rows * size := Array.size_replicate
      try dsimp only
      k_steps
      as_aux_lemma =>
      refine Halt.go ?_
      refine' Fn.useB (tiff_undone_spec w (Array.replicate (rows * size) 0) _ sx c l bits po size rows rowB _ ?hS (K.rb sx po) hs1 (by omega) (by omega) hZz) ?c1 ?c2 ?c3 ?c4 ?c5 ?c6 ?cB ?cF ?cX ?cN ?cT ?_
      case c1 => exact rfl
      case c2 => exact rfl
      case c3 => exact rfl
      case c4 => exact rfl
      case c5 => (first | exact dep hdp (Nat.le_of_ble_eq_true rfl) | (dsimp only; omega) | exact Nat.le_of_ble_eq_true rfl)
      case c6 => (first | exact dep4 hun (Nat.le_of_ble_eq_true rfl) | (dsimp only; omega) | exact Nat.le_of_ble_eq_true rfl)
      case cB => assumption
      case cF => k_asm
      case cX => assumption
      case cN => k_asm
      case cT => assumption
      case hS => exact hSh _ (by k_mem) (by k_mem)
      intro X4 tX4 hX4 h53 tk53 F53 N53
      (try clear N52); (try clear F52)
      try dsimp only
      k_steps
      rw [← Int.natCast_mul]
      refine Halt.go (call_bytes_int (by omega) ?_)
      intro tz2 tkz2
      have eZ : X4 = Array.replicate (rows * size) 0 := bInts_inj (by rw [hX4, bInts_replicate]; exact K.zB)
      subst eZ
      try dsimp only
      k_steps
      (first | (focus (rename_i hx _; simp at hx; done)) | skip)
      refine ⟨_, _, _, _, rfl, by k_asm, by k_asm, ?_, ?_⟩
      · walk_at "my ne"
      exact ⟨(), rfl, by walk_at "my ps", by walk_at "my fr", trivial⟩
  · intro _ u h tk _ F48 N48
    (try clear N47); (try clear F47)
    have N49 := news_tail N48
    clear N48
    try dsimp only
    k_steps
    refine Halt.go ?_
    refine wpAny_Assign_Name (halt_of ?_) (by with_unfolding_all rfl)
    walk_at "my comp"
    rename_i tk54 h54 tk55 r1 r2 r3 R54 F54 N54 G54
    refine kcomp_range rows (fun i => (i : Int)) (by intros; omega) (fun i ys nw => ∃ ob' ks, nw = (pn, ob') :: (s₁.heap.objs.size + 1 + 1 + 1 + 1, o1) :: T ∧ PenIn D2 (4 + rows * size + rows * size + i) ob' ∧ IntsAre ys ks ∧ ks.length = i ∧ ∀ x ∈ ks, 0 ≤ x ∧ x < 3) rfl R54 (small_step (by omega) (by omega) (by omega) (by omega) (by omega) (by omega)) rsize_one (by rw [sizeLine_eq]; omega) F54 N54 ⟨ob6, [], rfl, hp6, .nil, rfl, fun _ h => nomatch h⟩ ?_ ?_
    · rintro i ys nw t I oI C oC D m₂ h tk hi9 ⟨ob', ks, rfl, hp', hI9, hkl, hkr⟩ hC9 hx9 F55 N55 n1 n2 n3 n4 n5 n6
      (try clear F54); (try clear N54); (try clear N49); (try clear F48); (try clear R54); (try clear G54)
      simp only [AllNe] at n1 n2 n3
      have N56 : News s₁.heap s₁.heap.objs.size h ((pn, ob') :: (I, oI) :: (C, oC) :: (D, LCg.lst ys) :: (s₁.heap.objs.size + 1 + 1 + 1 + 1, o1) :: T) := fun p hp => N55 p (by
        simp only [List.mem_cons] at hp ⊢
        rcases hp with h | h | h | h | h
        · exact .inr (.inr (.inr (.inl h)))
        · exact .inl h
        · exact .inr (.inl h)
        · exact .inr (.inr (.inl h))
        · exact .inr (.inr (.inr (.inr h))))
      clear N55
      try dsimp only
      k_steps
      as_aux_lemma =>
      refine Halt.go ?_
      refine' Fn.useD (draw_spec w pn D2 _ 3 (4 + rows * size + rows * size + i) ob' c2 ws1 (ls.take 63) _ hI1 (by omega) hp' (by omega) hl63 ?hd ?hq) ?c1 ?c2 ?c3 ?c4 ?c5 ?c6 ?cB ?cF ?cX ?cN ?cT ?_
      case c1 => exact rfl
      case c2 => exact rfl
      case c3 => exact rfl
      case c4 => exact rfl
      case c5 => (first | exact dep hdp (Nat.le_of_ble_eq_true rfl) | (dsimp only; omega) | exact Nat.le_of_ble_eq_true rfl)
      case c6 => (first | exact dep4 hun (Nat.le_of_ble_eq_true rfl) | (dsimp only; omega) | exact Nat.le_of_ble_eq_true rfl)
      case cB => assumption
      case cF => k_asm
      case cX => assumption
      case cN => k_asm
      case cT => assumption
      case hd => exact ne_cons (Ne.symm n1.1) (ne_cons (Ne.symm n2.1) (ne_cons (Ne.symm n3.1) (ne_cons ne4 neT)))
      case hq => k_mem
      intro d t9 ob9 hd0 hd1 hp9 h57 tk57 F57 N57
      try dsimp only
      refine ⟨⟨h57, _, (pn, ob9) :: (s₁.heap.objs.size + 1 + 1 + 1 + 1, o1) :: T, rfl, F57, fun p hp => N57 p (by
        simp only [List.mem_cons] at hp ⊢
        rcases hp with h | h | h | h | h
        · exact .inr (.inl h)
        · exact .inr (.inr (.inl h))
        · exact .inr (.inr (.inr (.inl h)))
        · exact .inl h
        · exact .inr (.inr (.inr (.inr h)))), n1, n2, n3, ob9, ks ++ [d], rfl, by rw [← Nat.add_assoc]; exact hp9, ints_snoc hI9, by simp [hkl], ?_⟩⟩
      intro x hx
      rcases List.mem_append.mp hx with hx | hx
      · exact hkr x hx
      · rw [List.mem_singleton.mp hx]; exact ⟨hd0, hd1⟩
    · rintro ys nw D h tk ⟨ob7, ws, rfl, hp7, hI9, hwl, hwr⟩ F58 N58' neD
      (try clear F54); (try clear N54); (try clear N49); (try clear F48); (try clear R54); (try clear G54)
      have N58 : News s₁.heap s₁.heap.objs.size h ((D, listOf ys.toArray ys.length) :: _) := N58'
      clear N58'
      simp only [AllNe] at neD
      try dsimp only
      k_steps
      rename_i h60 o8 F60 N60 d10 tk60
      clear F58
      walk_at "my assigncomp"
      as_aux_lemma =>
      refine Halt.go ?_
      refine' Fn.useB (lawsum_spec w A B tA tB _ 8 1 (rows * size) _ (by decide) (by decide) (by decide) (by decide) (by decide) (by decide) hA hB (by omega) (by rw [Int.fdiv_eq_ediv_of_nonneg _ (by decide)]; omega)) ?c1 ?c2 ?c3 ?c4 ?c5 ?c6 ?cB ?cF ?cX ?cN ?cT ?_
      case c1 => exact rfl
      case c2 => exact rfl
      case c3 => exact rfl
      case c4 => exact rfl
      case c5 => (first | exact dep hdp (Nat.le_of_ble_eq_true rfl) | (dsimp only; omega) | exact Nat.le_of_ble_eq_true rfl)
      case c6 => (first | exact dep4 hun (Nat.le_of_ble_eq_true rfl) | (dsimp only; omega) | exact Nat.le_of_ble_eq_true rfl)
      case cB => assumption
      case cF => k_asm
      case cX => assumption
      case cN => k_asm
      case cT => assumption
      intro G8 tG hG h61 tk61 F61 N61
      (try clear N60); (try clear F60)
      try dsimp only
      k_steps
      rename_i DT3 h62 F62 N62 l62
      have hGz : G8.size = rows * size := by rw [← KBw.ints_length, hG]; simp [octL]
      have hwr2 : ∀ x ∈ ws, 0 ≤ x ∧ x < 256 := fun x hx => ⟨(hwr x hx).1, by have := (hwr x hx).2; omega⟩
      have hwr3 : ∀ x ∈ ws, 0 ≤ x ∧ x ≤ 2 := fun x hx => ⟨(hwr x hx).1, by have := (hwr x hx).2; omega⟩
      refine kcomp_tupleA (vs := #[Value.bytes A tA, Value.bytes B tB, Value.bytes G8 tG]) 0 (fun i zs nw => nw = (DT3, { cls := Value.type "tuple", data := Data.seq #[Value.bytes A tA, Value.bytes B tB, Value.bytes G8 tG] }) :: (D, listOf ys.toArray ys.length) :: (pn, ob7) :: (s₁.heap.objs.size + 1 + 1 + 1 + 1, o8) :: T ∧ BytesAre zs ((([A, B, G8] : List (Array UInt8)).take i).map fun b => pngL po size ws (KBw.bInts b) rows)) rfl rfl rfl (by rw [sizeLine_eq]; simp) (fun _ _ _ h => by rw [h.1]; exact List.mem_cons_self) F62 N62 ⟨rfl, bytesAre_nil⟩ ?_ ?_
      · rintro i zs nw v I oI C8 oC D8 m₂ h tk hv ⟨rfl, hJ⟩ hC9 hx9 F63 N63 n1 n2 n3 n4 n5 n6
        (try clear F62); (try clear N62)
        obtain ⟨b, tb, rfl, hbz, hbi⟩ : ∃ b tb, v = Value.bytes b tb ∧ b.size = rows * size ∧ ([A, B, G8] : List (Array UInt8))[i]? = some b := by
          have hi3 := (Array.getElem?_eq_some_iff.mp hv).1
          have hi4 : i = 0 ∨ i = 1 ∨ i = 2 := by simp at hi3; omega
          rcases hi4 with rfl | rfl | rfl
          · exact ⟨A, tA, by simpa using hv.symm, hA, rfl⟩
          · exact ⟨B, tB, by simpa using hv.symm, hB, rfl⟩
          · exact ⟨G8, tG, by simpa using hv.symm, hGz, rfl⟩
        have hbl : (KBw.bInts b).length = rows * size := by rw [KBw.ints_length]; exact hbz
        simp only [AllNe] at n1 n2 n3
        try dsimp only
        k_steps
        as_aux_lemma =>
        refine Halt.go ?_
        refine' Fn.useB (withways_spec w b tb _ D _ size rows ys ws _ ?hm hI9 hwr2 hwl hbz (by omega) (by omega)) ?c1 ?c2 ?c3 ?c4 ?c5 ?c6 ?cB ?cF ?cX ?cN ?cT ?_
        case c1 => exact rfl
        case c2 => exact rfl
        case c3 => exact rfl
        case c4 => exact rfl
        case c5 => (first | exact dep hdp (Nat.le_of_ble_eq_true rfl) | (dsimp only; omega) | exact Nat.le_of_ble_eq_true rfl)
        case c6 => (first | exact dep4 hun (Nat.le_of_ble_eq_true rfl) | (dsimp only; omega) | exact Nat.le_of_ble_eq_true rfl)
        case cB => assumption
        case cF => k_asm
        case cX => assumption
        case cN => k_asm
        case cT => assumption
        case hm => k_mem
        intro W8 tW hW8 h64 tk64 F64 N64
        (try clear F63); (try clear N63)
        try dsimp only
        k_steps
        as_aux_lemma =>
        refine Halt.go ?_
        refine' Fn.useB (png_spec w W8 tW sx c l bits po size rows ws (KBw.bInts b) _ ?hS hW8 hbl hwl hwr3 hpo1 hpo2 hs1 (by omega) (by omega)) ?c1 ?c2 ?c3 ?c4 ?c5 ?c6 ?cB ?cF ?cX ?cN ?cT ?_
        case c1 => exact rfl
        case c2 => exact rfl
        case c3 => exact rfl
        case c4 => exact rfl
        case c5 => (first | exact dep hdp (Nat.le_of_ble_eq_true rfl) | (dsimp only; omega) | exact Nat.le_of_ble_eq_true rfl)
        case c6 => (first | exact dep4 hun (Nat.le_of_ble_eq_true rfl) | (dsimp only; omega) | exact Nat.le_of_ble_eq_true rfl)
        case cB => assumption
        case cF => k_asm
        case cX => assumption
        case cN => k_asm
        case cT => assumption
        case hS => exact hSh _ (by k_mem) (by k_mem)
        intro X8 tX8 hX8 h65 tk65 F65 N65
        (try clear F64); (try clear N64)
        try dsimp only
        refine ⟨⟨h65, _, _, rfl, F65, N65, n1, n2, n3, rfl, ?_⟩⟩
        rw [List.take_add_one, hbi, Option.toList_some, List.map_append]
        exact bytesAre_snoc hJ hX8
      · rintro zs nw DL h tk ⟨rfl, hJ⟩ F66 N66' neL
        (try clear F62); (try clear N62)
        have N66 : News s₁.heap s₁.heap.objs.size h ((DL, listOf zs.toArray zs.length) :: _) := N66'
        clear N66'
        simp only [AllNe] at neL
        try dsimp only
        have x3 := bytesAre_three (a := pngL po size ws (KBw.bInts A) rows) (b := pngL po size ws (KBw.bInts B) rows) (c := pngL po size ws (KBw.bInts G8) rows) hJ
        obtain ⟨X0, t0, X1, t1, X2, t2, rfl, x0, x1, x2⟩ := x3
        clear hJ
        have N67 : News s₁.heap s₁.heap.objs.size h ((DL, listOf #[Value.bytes X0 t0, Value.bytes X1 t1, Value.bytes X2 t2] 3) :: _) := N66
        clear N66
        k_steps
        have hX0z : X0.size = rows * size := by rw [← KBw.ints_length, x0]; exact pngL_len hAl rows (Nat.le_refl _)
        have hX1z : X1.size = rows * size := by rw [← KBw.ints_length, x1]; exact pngL_len hBl rows (Nat.le_refl _)
        as_aux_lemma =>
        refine Halt.go ?_
        refine' Fn.useB (lawsum_spec w X0 X1 t0 t1 _ 8 1 (rows * size) _ (by decide) (by decide) (by decide) (by decide) (by decide) (by decide) hX0z hX1z (by omega) (by rw [Int.fdiv_eq_ediv_of_nonneg _ (by decide)]; omega)) ?c1 ?c2 ?c3 ?c4 ?c5 ?c6 ?cB ?cF ?cX ?cN ?cT ?_
        case c1 => exact rfl
        case c2 => exact rfl
        case c3 => exact rfl
        case c4 => exact rfl
        case c5 => (first | exact dep hdp (Nat.le_of_ble_eq_true rfl) | (dsimp only; omega) | exact Nat.le_of_ble_eq_true rfl)
        case c6 => (first | exact dep4 hun (Nat.le_of_ble_eq_true rfl) | (dsimp only; omega) | exact Nat.le_of_ble_eq_true rfl)
        case cB => assumption
        case cF => k_asm
        case cX => assumption
        case cN => k_asm
        case cT => assumption
        intro Y8 tY hY h68 tk68 F68 N68
        (try clear N67); (try clear F66)
        have eX := laid_sum hA hB hG x0 x1 x2 hY
        subst eX
        try dsimp only
        k_steps
        (first | (focus (rename_i hx; simp at hx; done)) | (rotate_left; focus (rename_i hx; simp at hx; done)) | skip)
        rw [← Int.natCast_mul]
        refine Halt.go (call_bytes_int (by omega) ?_)
        intro tz1 tkz1
        have hZz : (Array.replicate (rows * size) (0 : UInt8)).size = rows * size := Array.size_replicate
        try dsimp only
        k_steps
        as_aux_lemma =>
        refine Halt.go ?_
        refine' Fn.useB (withways_spec w (Array.replicate (rows * size) 0) _ _ D _ size rows ys ws _ ?hm hI9 hwr2 hwl hZz (by omega) (by omega)) ?c1 ?c2 ?c3 ?c4 ?c5 ?c6 ?cB ?cF ?cX ?cN ?cT ?_
        case c1 => exact rfl
        case c2 => exact rfl
        case c3 => exact rfl
        case c4 => exact rfl
        case c5 => (first | exact dep hdp (Nat.le_of_ble_eq_true rfl) | (dsimp only; omega) | exact Nat.le_of_ble_eq_true rfl)
        case c6 => (first | exact dep4 hun (Nat.le_of_ble_eq_true rfl) | (dsimp only; omega) | exact Nat.le_of_ble_eq_true rfl)
        case cB => assumption
        case cF => k_asm
        case cX => assumption
        case cN => k_asm
        case cT => assumption
        case hm => k_mem
        intro W9 tW9 hW9 h69 tk69 F69 N69
        (try clear F68); (try clear N68)
        try dsimp only
        k_steps
        as_aux_lemma =>
        refine Halt.go ?_
        refine' Fn.useB (png_spec w W9 tW9 sx c l bits po size rows ws (KBw.bInts (Array.replicate (rows * size) 0)) _ ?hS hW9 (by rw [KBw.ints_length]; exact hZz) hwl hwr3 hpo1 hpo2 hs1 (by omega) (by omega)) ?c1 ?c2 ?c3 ?c4 ?c5 ?c6 ?cB ?cF ?cX ?cN ?cT ?_
        case c1 => exact rfl
        case c2 => exact rfl
        case c3 => exact rfl
        case c4 => exact rfl
        case c5 => (first | exact dep hdp (Nat.le_of_ble_eq_true rfl) | (dsimp only; omega) | exact Nat.le_of_ble_eq_true rfl)
        case c6 => (first | exact dep4 hun (Nat.le_of_ble_eq_true rfl) | (dsimp only; omega) | exact Nat.le_of_ble_eq_true rfl)
        case cB => assumption
        case cF => k_asm
        case cX => assumption
        case cN => k_asm
        case cT => assumption
        case hS => exact hSh _ (by k_mem) (by k_mem)
        intro X9 tX9 hX9 h70 tk70 F70 N70
        (try clear F69); (try clear N69)
        try dsimp only
        k_steps
        rw [← Int.natCast_mul]
        refine Halt.go (call_bytes_int (by omega) ?_)
        intro tz2 tkz2
        have eZ : X9 = Array.replicate (rows * size) 0 := bInts_inj (by rw [hX9, bInts_replicate]; exact pngL_zero _ _ _ _)
        subst eZ
        try dsimp only
        k_steps
        rw [beq_self_eq_true]
        exact ⟨⟨rfl, _, _, _, _, rfl, by k_asm, by k_asm⟩⟩
  skip
  skip
)
end Mine
theorem PySem.Challenge.cw_og0135_01_holds : PySem.Challenge.rw_og0135_01.Holds :=
  Mine.law_walk
