import PyProof.Rows.All
import Wide.All
import OpenK.AllK
import Wide.FinOn
import Lean
import PySem.Challenge.RW_or0015_01
set_option Elab.async false
set_option linter.unusedVariables false

namespace OrLaw
open PySem PySem.W PyProof.Rows
set_option maxRecDepth 100000
set_option maxHeartbeats 8000000
open_top hd for PySem.Challenge.rw_or0015_01
end OrLaw

namespace OrLaw
open PySem PySem.Spec PySem.Calls PyProof.Rows PySem.W
set_option maxRecDepth 100000

def Stop (P : Prop) : Prop := P
theorem stop {P : Prop} (h : Stop P) : P := h

def OrEnd (s : Shared) (Ret : Heap → Value → Heap → Prop) (v : Value) (s' : Shared) : Prop :=
  ∃ h' tk', s' = { s with heap := h', toks := tk' } ∧ (∀ b o, s.heap.get? b = some o → h'.get? b = some o) ∧ Ret s.heap v h'

def PureCall (w : World) (n : Nat) (f : Addr) (vs : List Value) (Ok : Heap → Prop) (Ret : Heap → Value → Heap → Prop) : Prop :=
  ∀ (p : Program) (loose : List Str) (mean : ExcName → Option Value) (mg mb : Str → Option Value)
    (dp un : Nat) (gd : Option (List Code)) (cn : Str) (cs : Scope) (a : Addr) (ccd : Value) (cl : List (Str × Addr)) (outer : List Env) (A₀ : Around) (base h₀ : Heap) (L : Addr) (m : Str → Option Value) (s : Shared) (Q E : Value → Shared → Prop),
    Below A₀ base outer h₀ → Fr h₀ L s.heap m → (hd.heap_39 w.params).In h₀ → Top p loose mean mg mb h₀ → cs.kind = .function → Ok s.heap → dp + n < recursionLimit → un + 16 * n < cLine →
    (∀ v h' tk', (∀ b o, s.heap.get? b = some o → h'.get? b = some o) → Ret s.heap v h' → Q v { s with heap := h', toks := tk' }) →
    wpAny (model PySem.Challenge.rw_or0015_01.row.prog w) (ktrTop dp un gd cn cs L a ccd cl outer) (call (.ref f) vs) Q E s

section
variable {prog : Program} {w : World} {A₀ A : Around} {E : Value → Shared → Prop} {s : Shared} {base h₀ : Heap} {outer : List Env} {L : Addr} {m mg mb : Str → Option Value} {env : Env} {K : Frag} {p : Program} {loose : List Str} {mean : ExcName → Option Value}
  {name qual : Str} {params : Arguments} {body : List Stmt} {scope : Scope} {dV kV doc pm cdv ct oc : Value} {an od : Option Addr} {osl : Array (Option Value)} {f : Addr} {vs : List Value} {binds : List (Str × Value)}

theorem pure_enter {Q : Value → Shared → Prop} (Ret : Heap → Value → Heap → Prop)
    (B : Below A₀ base outer h₀) (F : Fr h₀ L s.heap m) (X₀ : K.In h₀) (T : Top p loose mean mg mb h₀) (hA : A.frames = some (env :: outer)) (hf : env.frame = some L) (hke : env.scope.kind = .function)
    (ret : ∀ v h' tk', (∀ b o, s.heap.get? b = some o → h'.get? b = some o) → Ret s.heap v h' → Q v { s with heap := h', toks := tk' })
    (ho : K.lookup f = some ⟨oc, od, .func (fnOf name qual params body scope dV kV doc pm an cdv ct), osl⟩) (hcd : codeIn K cdv qual = true) (hroom : A.depth < recursionLimit)
    (hbind : BindsTo s (fnOf name qual params body scope dV kV doc pm an cdv ct) ⟨vs, []⟩ binds) (hloc : ∀ y ∈ binds, scope.names.lookup y.1 = some .local)
    (h : ∀ L' h₁, Fr s.heap L' h₁ (fun y => binds.reverse.lookup y) → News s.heap L' h₁ [] → Below A base (env :: outer) s.heap → K.In s.heap → Top p loose mean mg mb s.heap →
      wpAny (model prog w) (A.deeper (envOf qual scope L' f cdv)) (execs body (envOf qual scope L' f cdv))
        (fun fl s' => OrEnd s Ret (match fl with | .ret v => v | _ => .none) s')
        (fun e s' => wpAny (model prog w) (A.deeper (envOf qual scope L' f cdv)) (leaving (envOf qual scope L' f cdv) e) (fun _ s'' => E e s'') (fun e' s'' => E e' s'') s')
        { s with heap := h₁, toks := s.toks + binds.length })
    (hco : scope.isCoroutine = false) (hgen : scope.isGenerator = false) (hk : scope.kind = .function)
    (hcell : ∀ x ∈ scope.names, x.2 ≠ .cell) : wpAny (model prog w) A (call (.ref f) vs) Q E s := by
  refine wpAny_call ?_
  have st : h₀.StaysIn s.heap := F.keep
  refine codeAny_call_def (fd := fnOf name qual params body scope dV kV doc pm an cdv ct) (body := body) (binds := binds) hroom (F.keep _ _ (X₀ _ _ ho)) rfl (T.nolimit.keeps F.keep) (codeRec_of (X₀.keeps F.keep) hcd) rfl hbind hcell hloc (fun h₁ hns hk₁ => ?_) hco hgen hk
  have B₁ := pushX B F hf hke
  refine wpAny_mono (h s.heap.objs.size h₁ ⟨hns, hk₁, Nat.le_refl _⟩ (fun _ hp => nomatch hp) ⟨hA, B₁.stays, B₁.frames⟩ (X₀.keeps st) (T.keeps st)) (fun fl s' hl => ?_) fun _ _ y => y
  obtain ⟨h', tk', rfl, hk, hr⟩ := hl
  exact ret _ _ _ hk hr
end


theorem pure_of {w : World} {n : Nat} (hn : 0 < n) {name qual : Str} {params : Arguments} {body : List Stmt} {scope : Scope} {dV kV doc pm cdv ct oc : Value} {an od : Option Addr} {osl : Array (Option Value)} {f : Addr} {vs : List Value} {binds : List (Str × Value)}
    {Ok : Heap → Prop} {Ret : Heap → Value → Heap → Prop}
    (ho : (hd.heap_39 w.params).lookup f = some ⟨oc, od, .func (fnOf name qual params body scope dV kV doc pm an cdv ct), osl⟩) (hcd : codeIn (hd.heap_39 w.params) cdv qual = true)
    (hbind : ∀ s, BindsTo s (fnOf name qual params body scope dV kV doc pm an cdv ct) ⟨vs, []⟩ binds) (hloc : ∀ y ∈ binds, scope.names.lookup y.1 = some .local)
    (hco : scope.isCoroutine = false) (hgen : scope.isGenerator = false) (hk : scope.kind = .function) (hcell : ∀ x ∈ scope.names, x.2 ≠ .cell)
    (h : ∀ (p : Program) (loose : List Str) (mean : ExcName → Option Value) (mg mb : Str → Option Value)
      (dp un : Nat) (gd : Option (List Code)) (cn : Str) (cs : Scope) (L a : Addr) (ccd : Value) (cl : List (Str × Addr)) (outer : List Env) (base : Heap) (s : Shared) (E : Value → Shared → Prop) (L' : Addr) (h₁ : Heap),
      Ok s.heap → dp + n < recursionLimit → un + 16 * n < cLine → Fr s.heap L' h₁ (fun y => binds.reverse.lookup y) → News s.heap L' h₁ [] → Below (ktrTop dp un gd cn cs L a ccd cl outer) base (envX cn cs L a ccd cl :: outer) s.heap → (hd.heap_39 w.params).In s.heap → Top p loose mean mg mb s.heap →
      wpAny (model PySem.Challenge.rw_or0015_01.row.prog w) ((ktrTop dp un gd cn cs L a ccd cl outer).deeper (envOf qual scope L' f cdv)) (execs body (envOf qual scope L' f cdv))
        (fun fl s' => OrEnd s Ret (match fl with | .ret v => v | _ => .none) s')
        (fun e s' => wpAny (model PySem.Challenge.rw_or0015_01.row.prog w) ((ktrTop dp un gd cn cs L a ccd cl outer).deeper (envOf qual scope L' f cdv)) (leaving (envOf qual scope L' f cdv) e) (fun _ s'' => E e s'') (fun e' s'' => E e' s'') s')
        { s with heap := h₁, toks := s.toks + binds.length }) : PureCall w n f vs Ok Ret := by
  intro p loose mean mg mb dp un gd cn cs a ccd cl outer A₀ base h₀ L m s Q E B F X T hk' hOk hd hu hret
  exact pure_enter Ret B F X T rfl rfl hk' hret ho hcd (by show dp < _; omega) (hbind s) hloc (fun L' h₁ F' N' B' X' T' => h p loose mean mg mb dp un gd cn cs L a ccd cl outer base s E L' h₁ hOk hd hu F' N' B' X' T') hco hgen hk hcell


section
variable {prog : Program} {w : World} {A : Around} {E : Value → Shared → Prop} {s : Shared} {env : Env} {h₀ : Heap} {x : Str} {body : List Stmt} {Q : Flow → Shared → Prop}

theorem fr_kst {L : Addr} {h : Heap} {v : Value} {m₁ : Str → Option Value} {ps : List (Str × Value)} (h1 : ∀ p ∈ ps, m₁ p.1 = some p.2)
    (F : Fr h₀ L h (fun y => if y = x then some v else m₁ y)) : Fr h₀ L h (fun y => if y = x then some v else kstB m₁ ps y) := by
  have em : (fun y => if y = x then some v else kstB m₁ ps y) = fun y => if y = x then some v else m₁ y := by
    funext y
    rw [kstB_eq h1 fun _ => rfl]
  rw [em]
  exact F
theorem fr_kst0 {L : Addr} {h : Heap} {m₁ : Str → Option Value} {ps : List (Str × Value)} (h1 : ∀ p ∈ ps, m₁ p.1 = some p.2)
    (F : Fr h₀ L h m₁) : Fr h₀ L h (kstB m₁ ps) := by
  have em : kstB m₁ ps = m₁ := by
    funext y
    exact kstB_eq h1 fun _ => rfl
  rw [em]
  exact F

def OrJ {σ : Type} (Led : σ → List (Addr × Obj)) (ps : σ → List (Str × Value)) (P : σ → Prop) (m : Str → Option Value) (nx : List (Addr × Obj)) : Prop :=
  ∃ c : σ, nx = Led c ∧ (∀ p ∈ ps c, m p.1 = some p.2) ∧ P c

/-- a for over a list of ints that lies in the ground -/
theorem or_ints {σ : Type} {l : Addr} {vs : List Value} {ns : List Int} {m₀ : Str → Option Value} (Led : σ → List (Addr × Obj)) (ps : σ → List (Str × Value)) (P : Nat → σ → Prop) (c₀ : σ)
    (hh : A.handled = none) (hl : h₀.IsList l vs.toArray) (hi : IntsAre vs ns) (F : Fr h₀ env.locals s.heap m₀) (N : News h₀ env.locals s.heap (Led c₀)) (hk : ∀ p ∈ ps c₀, m₀ p.1 = some p.2) (hp : P 0 c₀)
    (turn : ∀ i n t c m₁ h tk own, ns[i]? = some n → P i c → OwnOff own ((Led c).map (·.1)) → Fr h₀ env.locals h (fun y => if y = x then some (.int n t) else kstB m₁ (ps c) y) → News h₀ env.locals h (Led c ++ own) →
      wpAny (model prog w) A (execs body env) (InvPostG h₀ env.locals (OrJ Led ps (P (i + 1))) own { s with heap := h, toks := tk } Q) E { s with heap := h, toks := tk })
    (done : ∀ c m₁ h tk, P ns.length c → Fr h₀ env.locals h (kstB m₁ (ps c)) → News h₀ env.locals h (Led c) → Q .next { s with heap := h, toks := tk }) :
    wpAny (model prog w) A (pyIter (.ref l)) (fun it s₂ => LoopAtV prog w A h₀ env x body Q E it s₂) E s := by
  refine iter_invG (fun i m nx => OrJ Led ps (P i) m nx) hh hl hi F N ⟨c₀, rfl, hk, hp⟩ ?_ ?_
  · rintro i n t m₁ nx h tk own hn _ hoff ⟨c, rfl, h1, hp'⟩ F₁ N₁
    exact turn i n t c m₁ h tk own hn hp' hoff (fr_kst h1 F₁) N₁
  · rintro m₁ nx h tk ⟨c, rfl, h1, hp'⟩ F₁ N₁
    exact done c m₁ h tk hp' (fr_kst0 h1 F₁) N₁

/-- a for over a list of ints of the ledger -/
theorem or_led {σ : Type} {l : Addr} {vs : List Value} {ns : List Int} {nn : Nat} {m₀ : Str → Option Value} (Led : σ → List (Addr × Obj)) (ps : σ → List (Str × Value)) (P : Nat → σ → Prop) (c₀ : σ)
    (hh : A.handled = none) (hl : ∀ c, (l, W.listOf vs.toArray nn) ∈ Led c) (hi : IntsAre vs ns) (F : Fr h₀ env.locals s.heap m₀) (N : News h₀ env.locals s.heap (Led c₀)) (hk : ∀ p ∈ ps c₀, m₀ p.1 = some p.2) (hp : P 0 c₀)
    (turn : ∀ i n t c m₁ h tk own, ns[i]? = some n → P i c → OwnOff own ((Led c).map (·.1)) → Fr h₀ env.locals h (fun y => if y = x then some (.int n t) else kstB m₁ (ps c) y) → News h₀ env.locals h (Led c ++ own) →
      wpAny (model prog w) A (execs body env) (InvPostG h₀ env.locals (OrJ Led ps (P (i + 1))) own { s with heap := h, toks := tk } Q) E { s with heap := h, toks := tk })
    (done : ∀ c m₁ h tk, P ns.length c → Fr h₀ env.locals h (kstB m₁ (ps c)) → News h₀ env.locals h (Led c) → Q .next { s with heap := h, toks := tk }) :
    wpAny (model prog w) A (pyIter (.ref l)) (fun it s₂ => LoopAtV prog w A h₀ env x body Q E it s₂) E s := by
  refine kdl_iter (fun i m nx => OrJ Led ps (P i) m nx) hh (hl c₀) F N ⟨c₀, rfl, hk, hp⟩ ?_ ?_
  · rintro i v m₁ nx h tk own hv hoff hmem ⟨c, rfl, h1, hp'⟩ F₁ N₁
    have hi' : i < ns.length := by rw [← hi.length]; exact (List.getElem?_eq_some_iff.mp hv).1
    obtain ⟨t, hx⟩ := hi.get i (ns[i]'hi') (List.getElem?_eq_getElem hi')
    have ev : v = .int (ns[i]'hi') t := by rw [hx] at hv; exact (Option.some.inj hv).symm
    subst ev
    refine wpAny_mono (turn i _ t c m₁ h tk own (List.getElem?_eq_getElem hi') hp' hoff (fr_kst h1 F₁) N₁) (fun f s₂ q => ?_) fun _ _ x => x
    have up : InvEndG h₀ env.locals (OrJ Led ps (P (i + 1))) own { s with heap := h, toks := tk } s₂ →
        InvEndG h₀ env.locals (fun m' nx => (l, W.listOf vs.toArray nn) ∈ nx ∧ OrJ Led ps (P (i + 1)) m' nx) own { s with heap := h, toks := tk } s₂ := by
      rintro ⟨h', tk', m', news', nx', e', F', N', hn', ho', ha, hS⟩
      refine ⟨h', tk', m', news', nx', e', F', N', hn', ho', ha, ?_, hS⟩
      obtain ⟨c', rfl, _⟩ := hS
      exact hl c'
    cases f with
    | ret v => exact q
    | brk => exact q
    | next => exact up q
    | cont => exact up q
  · rintro m₁ nx h tk ⟨c, rfl, h1, hp'⟩ F₁ N₁
    rw [hi.length] at hp'
    exact done c m₁ h tk hp' (fr_kst0 h1 F₁) N₁

/-- a for over a range by ones -/
theorem or_range {σ : Type} {r : Addr} {a₀ b₀ : Int} {t₀ u₀ v₀ : Tok} {n : Nat} {m₀ : Str → Option Value} (Led : σ → List (Addr × Obj)) (ps : σ → List (Str × Value)) (P : Nat → σ → Prop) (c₀ : σ)
    (hh : A.handled = none) (hr : IsRange s.heap r a₀ b₀ 1 t₀ u₀ v₀) (hsmall : Builtin.Range.small a₀ b₀ 1 = true) (hsz : Builtin.Range.rangeSize a₀ b₀ 1 = (n : Int)) (F : Fr h₀ env.locals s.heap m₀) (N : News h₀ env.locals s.heap (Led c₀)) (hk : ∀ p ∈ ps c₀, m₀ p.1 = some p.2) (hp : P 0 c₀)
    (turn : ∀ i t c m₁ h tk own, i < n → P i c → OwnOff own ((Led c).map (·.1)) → Fr h₀ env.locals h (fun y => if y = x then some (.int (a₀ + (i : Int)) t) else kstB m₁ (ps c) y) → News h₀ env.locals h (Led c ++ own) →
      wpAny (model prog w) A (execs body env) (InvPostG h₀ env.locals (OrJ Led ps (P (i + 1))) own { s with heap := h, toks := tk } Q) E { s with heap := h, toks := tk })
    (done : ∀ c m₁ h tk, P n c → Fr h₀ env.locals h (kstB m₁ (ps c)) → News h₀ env.locals h (Led c) → Q .next { s with heap := h, toks := tk }) :
    wpAny (model prog w) A (pyIter (.ref r)) (fun it s₂ => LoopAtV prog w A h₀ env x body Q E it s₂) E s := by
  refine wpAny_pyIter_range hr hsmall ?_
  have W : Walks prog w A s.heap.objs.size [s.heap.objs.size] [s.heap.objs.size] n (fun i v => i < n ∧ ∃ t, v = .int (a₀ + i * 1) t)
      (fun i h => IsRangeIter h s.heap.objs.size (a₀ + (i : Nat) * 1) ((n : Int) - (i : Nat)) 1) := (Walks.range hh _ a₀ 1 n).bound
  refine kdr_loop (fun i m nx => OrJ Led ps (P i) m nx) W (fun _ h => h) (fun _ h => h) ?_ ?_ ?_ ?_ (by show IsRangeIter _ _ _ _ _; rw [hsz]; simpa using Heap.get?_push_size _ rfl) (F.push _) (fun p hp => ⟨Heap.get?_push_of_some _ (N p hp).1, (N p hp).2⟩) ⟨c₀, rfl, hk, hp⟩ ?_ ?_
  · intro i h hi b hb
    rw [List.mem_singleton.mp hb]
    exact ⟨_, hi⟩
  · intro hm
    exact absurd F.ns.lt ((List.mem_singleton.mp hm) ▸ Nat.lt_irrefl _)
  · intro b hb
    rw [List.mem_singleton.mp hb]
    exact next_is_new F
  · intro p hp hI
    exact absurd (Heap.lt_size (N p hp).1) ((List.mem_singleton.mp hI) ▸ Nat.lt_irrefl _)
  · rintro i v m₁ nx h tk own hi ⟨_, t, rfl⟩ hoff ⟨c, rfl, h1, hp'⟩ F₁ N₁
    have e1 : a₀ + (i : Int) * 1 = a₀ + (i : Int) := by omega
    rw [e1] at F₁
    exact turn i t c m₁ h tk own hi hp' hoff (fr_kst h1 F₁) N₁
  · rintro m₁ nx h tk ⟨c, rfl, h1, hp'⟩ F₁ N₁
    exact done c m₁ h tk hp' (fr_kst0 h1 F₁) N₁

def OrWEnd {σ : Type} (h₀ : Heap) (L : Addr) (s : Shared) (Led : σ → List (Addr × Obj)) (ps : σ → List (Str × Value)) (P : σ → Prop) (μ : σ → Nat) (n : Nat) (s₃ : Shared) : Prop :=
  ∃ (c : σ) (h' : Heap) (tk : Nat) (m₂ : Str → Option Value) (news₂ : List (Addr × Obj)), s₃ = { s with heap := h', toks := tk } ∧ Fr h₀ L h' m₂ ∧ News h₀ L h' news₂ ∧ (∀ p ∈ Led c, p ∈ news₂) ∧ (∀ p ∈ ps c, m₂ p.1 = some p.2) ∧ P c ∧ μ c < n
def OrWPost {σ : Type} (h₀ : Heap) (L : Addr) (s : Shared) (Led : σ → List (Addr × Obj)) (ps : σ → List (Str × Value)) (P : σ → Prop) (μ : σ → Nat) (Q : Flow → Shared → Prop) (n : Nat) (f : Flow) (s₃ : Shared) : Prop :=
  match f with
  | .ret v => Q (.ret v) s₃
  | .brk => Q .next s₃
  | _ => OrWEnd h₀ L s Led ps P μ n s₃

/-- a while, with a measure -/
theorem or_while {σ : Type} {L : Addr} {test : Expr} {pos : Pos} {m₀ : Str → Option Value} (Led : σ → List (Addr × Obj)) (ps : σ → List (Str × Value)) (P : σ → Prop) (μ : σ → Nat) (c₀ : σ)
    (F : Fr h₀ L s.heap m₀) (N : News h₀ L s.heap (Led c₀)) (hk : ∀ p ∈ ps c₀, m₀ p.1 = some p.2) (hp : P c₀)
    (turn : ∀ c m₁ h tk, P c → Fr h₀ L h (kstB m₁ (ps c)) → News h₀ L h (Led c) →
      wpAny (model prog w) A (isTrue test env (eval test env)) (fun b s₂ =>
        if b = true then wpAny (model prog w) A (execs body env) (OrWPost h₀ L s Led ps P μ Q (μ c)) E s₂ else Q .next s₂) E { s with heap := h, toks := tk })
    (hE : PassesOwn (model prog w) A env E := by passes_own) :
    wpAny (model prog w) A (exec (.While test body [] pos) env) Q E s := by
  refine While_inv2 (fun n m nx => OrJ Led ps (fun c => μ c = n ∧ P c) m nx) F N ⟨c₀, rfl, hk, rfl, hp⟩ ?_ hE
  rintro n m₁ nx h tk F₁ N₁ ⟨c, rfl, h1, rfl, hp'⟩
  refine wpAny_mono (turn c m₁ h tk hp' (fr_kst0 h1 F₁) N₁) (fun b s₂ p => ?_) fun _ _ x => x
  cases b with
  | false => simpa using p
  | true =>
    simp only [if_true] at p ⊢
    refine wpAny_mono p (fun f s₃ q => ?_) fun _ _ x => x
    have up : OrWEnd h₀ L s Led ps P μ (μ c) s₃ → ∃ h' tk m₂ news₂ n', s₃ = { s with heap := h', toks := tk } ∧ Fr h₀ L h' m₂ ∧ News h₀ L h' news₂ ∧ n' < μ c ∧ OrJ Led ps (fun c => μ c = n' ∧ P c) m₂ news₂ := by
      rintro ⟨c', h', tk', m', news', rfl, F', N', hn, hk9, hp9, hm9⟩
      exact ⟨h', tk', m', Led c', μ c', rfl, F', fun p hp => N' p (hn p hp), hm9, c', rfl, hk9, rfl, hp9⟩
    cases f with
    | ret v => exact q
    | brk => exact q
    | next => exact up q
    | cont => exact up q
end

theorem or_wend {σ : Type} {h₀ : Heap} {L : Addr} {s : Shared} {Led : σ → List (Addr × Obj)} {ps : σ → List (Str × Value)} {P : σ → Prop} {μ : σ → Nat} {Q : Flow → Shared → Prop} {n : Nat} (c : σ) {h' : Heap} {tk : Nat} {m₂ : Str → Option Value} {news₂ : List (Addr × Obj)}
    (F : Fr h₀ L h' m₂) (N : News h₀ L h' news₂) (hn : ∀ p ∈ Led c, p ∈ news₂) (hk : ∀ p ∈ ps c, m₂ p.1 = some p.2) (hp : P c) (hm : μ c < n) :
    OrWPost h₀ L s Led ps P μ Q n .next { s with heap := h', toks := tk } := ⟨c, h', tk, m₂, news₂, rfl, F, N, hn, hk, hp, hm⟩
theorem or_gend {σ : Type} {h₀ : Heap} {L : Addr} {s : Shared} {Led : σ → List (Addr × Obj)} {ps : σ → List (Str × Value)} {P : σ → Prop} {own : List (Addr × Obj)} (c : σ) {h' : Heap} {tk : Nat} {m₂ : Str → Option Value} {news₂ : List (Addr × Obj)}
    (F : Fr h₀ L h' m₂) (N : News h₀ L h' news₂) (hn : ∀ p ∈ Led c, p ∈ news₂) (ho : ∀ p ∈ own, p ∈ news₂) (ha : OwnOff own ((Led c).map (·.1))) (hk : ∀ p ∈ ps c, m₂ p.1 = some p.2) (hp : P c) :
    InvEndG h₀ L (OrJ Led ps P) own s { s with heap := h', toks := tk } := InvEndG.intro F N ⟨c, rfl, hk, hp⟩ ha hn ho
theorem or_end {s : Shared} {Ret : Heap → Value → Heap → Prop} {v : Value} {h' : Heap} {tk : Nat} (hk : ∀ b o, s.heap.get? b = some o → h'.get? b = some o) (hr : Ret s.heap v h') : OrEnd s Ret v { s with heap := h', toks := tk } :=
  ⟨h', tk, rfl, hk, hr⟩
theorem pure_use {w : World} {n : Nat} {f : Addr} {vs : List Value} {Ok : Heap → Prop} {Ret : Heap → Value → Heap → Prop} (C : PureCall w n f vs Ok Ret)
    {p : Program} {loose : List Str} {mean : ExcName → Option Value} {mg mb : Str → Option Value} {dp un : Nat} {gd : Option (List Code)} {cn : Str} {cs : Scope} {a : Addr} {ccd : Value} {cl : List (Str × Addr)} {outer : List Env} {A₀ : Around} {base h₀ : Heap} {L : Addr} {m : Str → Option Value} {news : List (Addr × Obj)} {s : Shared} {Q E : Value → Shared → Prop}
    (B : Below A₀ base outer h₀) (F : Fr h₀ L s.heap m) (N : News h₀ L s.heap news) (X : (hd.heap_39 w.params).In h₀) (T : Top p loose mean mg mb h₀) (hk : cs.kind = .function) (ok : Ok s.heap) (hd : dp + n < recursionLimit) (hu : un + 16 * n < cLine)
    (ret : ∀ v h' tk', Fr h₀ L h' m → News h₀ L h' news → (∀ b o, s.heap.get? b = some o → h'.get? b = some o) → Ret s.heap v h' → Q v { s with heap := h', toks := tk' }) :
    wpAny (model PySem.Challenge.rw_or0015_01.row.prog w) (ktrTop dp un gd cn cs L a ccd cl outer) (call (.ref f) vs) Q E s :=
  C p loose mean mg mb dp un gd cn cs a ccd cl outer A₀ base h₀ L m s Q E B F X T hk ok hd hu fun v h' tk' hk' hr =>
    ret v h' tk' ⟨F.ns.keeps hk', fun b o e => hk' b o (F.keep b o e), F.above⟩ (fun q hq => ⟨hk' _ _ (N q hq).1, (N q hq).2⟩) hk' hr

theorem fresh_news {h₀ h h' : Heap} {L l : Addr} {o : Obj} {m : Str → Option Value} {news : List (Addr × Obj)} (F : Fr h₀ L h m) (hl : h.get? l = none) (e : h'.get? l = some o) (N' : News h₀ L h' news) :
    News h₀ L h' ((l, o) :: news) := fun q hq => by
  rcases List.mem_cons.mp hq with rfl | hq
  · refine ⟨e, fun (q : l = L) => ?_, ?_⟩
    · obtain ⟨oL, es, ep, hL, _⟩ := F.ns
      rw [q, hL] at hl; cases hl
    · show h₀.get? l = none
      cases z : h₀.get? l with
      | none => rfl
      | some o' => rw [F.keep _ _ z] at hl; cases hl
  · exact N' q hq
theorem fresh_ne {h₀ h : Heap} {L l : Addr} {news : List (Addr × Obj)} (N : News h₀ L h news) (hl : h.get? l = none) : ∀ q ∈ news, q.1 ≠ l :=
  fun q hq e => by have := (N q hq).1; rw [e, hl] at this; cases this

end OrLaw

namespace OrLaw
open PySem PySem.Spec PySem.Calls PyProof.Rows PySem.W
set_option maxRecDepth 100000

abbrev nz (l : List Nat) : List Int := l.map fun (k : Nat) => (k : Int)

def wildAt (p : List Nat) (x : Nat) : Bool := match p[x]? with
  | some c => c == 37 || c == 42
  | none => false
theorem wildAt_lt {p : List Nat} {x : Nat} (h : wildAt p x = true) : x < p.length := by
  unfold wildAt at h
  split at h
  · rename_i c e; exact (List.getElem?_eq_some_iff.mp e).1
  · cases h
/-- the places from x up to behind the wild signs -/
def climb (p : List Nat) (x : Nat) : List Nat := if h : wildAt p x = true then x :: climb p (x + 1) else [x]
termination_by p.length - x
decreasing_by have := wildAt_lt h; omega
def below (acc : List Nat) (x : Nat) : Bool := match acc.getLast? with
  | some y => decide (y < x)
  | none => true
def addHead (p : List Nat) (acc : List Nat) (h : Nat) : List Nat := if below acc h then acc ++ climb p h else acc
def openedF (p : List Nat) (hs : List Nat) : List Nat := hs.foldl (addHead p) []

theorem climb_wild {p : List Nat} {x : Nat} (h : wildAt p x = true) : climb p x = x :: climb p (x + 1) := by
  rw [climb]; simp [h]
theorem climb_plain {p : List Nat} {x : Nat} (h : wildAt p x = false) : climb p x = [x] := by
  rw [climb]; simp [h]
theorem below_push (acc : List Nat) (y x : Nat) : below (acc ++ [y]) x = decide (y < x) := by
  unfold below; simp
theorem push_wild {p acc : List Nat} {x : Nat} (hb : below acc x = true) (h : wildAt p x = true) : addHead p (acc ++ [x]) (x + 1) = addHead p acc x := by
  unfold addHead
  rw [below_push, hb, climb_wild h]
  simp
theorem push_plain {p acc : List Nat} {x : Nat} (hb : below acc x = true) (h : wildAt p x = false) : addHead p (acc ++ [x]) x = addHead p acc x := by
  unfold addHead
  rw [below_push, hb, climb_plain h]
  simp
theorem nz_append (a b : List Nat) : nz (a ++ b) = nz a ++ nz b := List.map_append
theorem nz_length (a : List Nat) : (nz a).length = a.length := List.length_map _

theorem below_nil {acc : List Nat} {x : Nat} (h : ((nz acc).length : Int) = 0) : below acc x = true := by
  rw [nz_length] at h
  have : acc = [] := List.eq_nil_of_length_eq_zero (by omega)
  subst this
  rfl
theorem last_getD {acc : List Nat} (h : ((nz acc).length : Int) ≠ 0) : ∃ y, acc.getLast? = some y ∧ (nz acc).getD (-1 + ((nz acc).length : Int)).toNat 0 = (y : Int) := by
  rw [nz_length] at h ⊢
  have hl : acc.length - 1 < acc.length := by omega
  refine ⟨acc[acc.length - 1], ?_, ?_⟩
  · rw [List.getLast?_eq_getElem?, List.getElem?_eq_getElem hl]
  · have e : (-1 + (acc.length : Int)).toNat = acc.length - 1 := by omega
    rw [e, List.getD_eq_getElem?_getD, nz, List.getElem?_map, List.getElem?_eq_getElem hl]
    rfl
theorem below_last {acc : List Nat} {x : Nat} (h : ((nz acc).length : Int) ≠ 0) (hx : (nz acc).getD (-1 + ((nz acc).length : Int)).toNat 0 < (x : Int)) : below acc x = true := by
  obtain ⟨y, e, ey⟩ := last_getD h
  unfold below
  rw [e]
  rw [ey] at hx
  simp only [decide_eq_true_eq]
  omega
theorem not_below {acc : List Nat} {x : Nat} (h : ((nz acc).length : Int) ≠ 0) (hx : ¬ (nz acc).getD (-1 + ((nz acc).length : Int)).toNat 0 < (x : Int)) : below acc x = false := by
  obtain ⟨y, e, ey⟩ := last_getD h
  unfold below
  rw [e]
  rw [ey] at hx
  simp only [decide_eq_false_iff_not]
  omega

theorem str_len (x : Str) : x.length = x.cps.toList.length := by
  show x.cps.size = _
  simp
theorem item_at {x : Str} {i c : Nat} (h : x.cps.toList[i]? = some c) : Txt.item x (i : Int) = ⟨#[c]⟩ :=
  PyProof.Rows.item_meets (by omega) (by simpa using h)
theorem wild_occ {x : Str} {i : Nat} (h : (i : Int) < (x.length : Int)) :
    (Builtin.Str.occurrences (Str.ofString "%*") (Txt.item x (i : Int)) 0 (Str.ofString "%*").length 1).isEmpty = !wildAt x.cps.toList i := by
  have hi : i < x.cps.toList.length := by rw [← str_len]; omega
  have e : x.cps.toList[i]? = some x.cps.toList[i] := List.getElem?_eq_getElem hi
  rw [item_at e]
  have f := StrLaws.found_one (Str.ofString "%*") x.cps.toList[i]
  unfold wildAt
  rw [e]
  have g : (Str.ofString "%*").cps.toList = [37, 42] := by decide +kernel
  rw [g] at f
  rw [Bool.eq_iff_iff]
  rw [Bool.eq_iff_iff] at f
  simp only [Bool.not_eq_true', decide_eq_true_eq, List.mem_cons, List.not_mem_nil, or_false, Bool.or_eq_false_iff, beq_eq_false_iff_ne, ne_eq] at f ⊢
  constructor
  · intro q
    constructor
    · intro z; have := f.mpr (.inl z); rw [q] at this; cases this
    · intro z; have := f.mpr (.inr z); rw [q] at this; cases this
  · rintro ⟨a, b⟩
    cases q : (Builtin.Str.occurrences (Str.ofString "%*") ⟨#[x.cps.toList[i]]⟩ 0 (Str.ofString "%*").length 1).isEmpty with
    | true => rfl
    | false => exact absurd (f.mp q) (fun z => z.elim a b)
theorem wild_yes {x : Str} {i : Nat} (h : (i : Int) < (x.length : Int)) (q : (Builtin.Str.occurrences (Str.ofString "%*") (Txt.item x (i : Int)) 0 (Str.ofString "%*").length 1).isEmpty = false) : wildAt x.cps.toList i = true := by
  rw [wild_occ h] at q
  simpa using q
theorem wild_no {x : Str} {i : Nat} (h : (i : Int) < (x.length : Int)) (q : (Builtin.Str.occurrences (Str.ofString "%*") (Txt.item x (i : Int)) 0 (Str.ofString "%*").length 1).isEmpty = true) : wildAt x.cps.toList i = false := by
  rw [wild_occ h] at q
  simpa using q
theorem wild_out {x : Str} {i : Nat} (h : ¬ (i : Int) < (x.length : Int)) : wildAt x.cps.toList i = false := by
  unfold wildAt
  rw [List.getElem?_eq_none (by rw [← str_len]; omega)]
end OrLaw

namespace OrLaw
open PySem PySem.Spec PySem.Calls PyProof.Rows PySem.W
set_option maxRecDepth 100000
set_option maxHeartbeats 4000000

local macro_rules | `(tactic| walk_at "pyIter ref") => `(tactic| refine OrLaw.stop ?_)
local macro_rules | `(tactic| walk_at "exec While") => `(tactic| refine OrLaw.stop ?_)

abbrev WS := List Value × List Nat × Nat × Nat × Tok
def WI (pt : Str) (us : List Value) (acc : List Nat) (x : Nat) (target : List Nat) : Prop :=
  IntsAre us (nz acc) ∧ x ≤ pt.length ∧ (∀ y, acc.getLast? = some y → acc.length ≤ y + 1 ∧ y ≤ pt.length) ∧ addHead pt.cps.toList acc x = target
abbrev LS := List Value × List Nat × Nat
def LI (pt : Str) (us : List Value) (acc : List Nat) (target : List Nat) : Prop :=
  IntsAre us (nz acc) ∧ (∀ y, acc.getLast? = some y → acc.length ≤ y + 1 ∧ y ≤ pt.length) ∧ acc = target

theorem wi_step {pt : Str} {us : List Value} {acc : List Nat} {x : Nat} {t : Tok} {T : List Nat} (h : WI pt us acc x T) (hb : below acc x = true) :
    (wildAt pt.cps.toList x = true → WI pt (us ++ [.int (x : Int) t]) (acc ++ [x]) (x + 1) T) ∧ (wildAt pt.cps.toList x = false → WI pt (us ++ [.int (x : Int) t]) (acc ++ [x]) x T) := by
  obtain ⟨hI, hx, hl, rfl⟩ := h
  have hi : IntsAre (us ++ [.int (x : Int) t]) (nz (acc ++ [x])) := by
    rw [nz_append]
    exact IntsAre.append hI (.cons _ _ .nil)
  have hlast : ∀ y, (acc ++ [x]).getLast? = some y → (acc ++ [x]).length ≤ y + 1 ∧ y ≤ pt.length := by
    intro y hy
    obtain rfl : x = y := by simpa using hy
    refine ⟨?_, hx⟩
    rw [List.length_append]
    unfold below at hb
    cases e : acc.getLast? with
    | none => rw [List.getLast?_eq_none_iff.mp e]; simp
    | some z =>
      rw [e] at hb
      have := hl z e
      simp only [decide_eq_true_eq] at hb
      simp only [List.length_cons, List.length_nil]
      omega
  exact ⟨fun hw => ⟨hi, by have := wildAt_lt hw; rw [← str_len] at this; omega, hlast, push_wild hb hw⟩, fun hw => ⟨hi, hx, hlast, push_plain hb hw⟩⟩

theorem mu_wild {n x : Nat} {acc : List Nat} (hx : x < n) (hb : below acc x = true) : 2 * (n + 1 - (x + 1)) + (if below (acc ++ [x]) (x + 1) = true then 1 else 0) < 2 * (n + 1 - x) + (if below acc x = true then 1 else 0) := by
  rw [below_push, hb]
  simp only [if_true]
  split <;> omega
theorem mu_plain {n x : Nat} {acc : List Nat} (hb : below acc x = true) : 2 * (n + 1 - x) + (if below (acc ++ [x]) x = true then 1 else 0) < 2 * (n + 1 - x) + (if below acc x = true then 1 else 0) := by
  rw [below_push, hb]
  simp

theorem opened_spec (w : World) (pt : Str) (tp : Tok) (lh : Addr) (vs : List Value) (hs : List Nat) (hpl : pt.length ≤ 1000) (hv : IntsAre vs (nz hs))
    (hb : ∀ x ∈ hs, x ≤ pt.length) :
    PureCall w 8 40 [.str pt tp, .ref lh] (fun h => h.IsList lh vs.toArray)
      (fun h v h' => ∃ (l : Addr) (us : List Value) (n : Nat), v = .ref l ∧ h.get? l = none ∧ h'.get? l = some (W.listOf us.toArray n) ∧ IntsAre us (nz (openedF pt.cps.toList hs)) ∧ (openedF pt.cps.toList hs).length ≤ 1001) := by
  w_top off
  (have kfl : (hd.heap_39 = hd.heap_39 ∧ PySem.Challenge.rw_or0015_01 = PySem.Challenge.rw_or0015_01) := by (k_fill; exact ⟨rfl, rfl⟩)); clear kfl;
  k_dflt (refine' pure_of (by decide) ?k6 ?k7 ?k9 ?kB ?c2 ?c3 ?c4 ?c5 ?_; (case k6 => k_is); (case k7 => k_is); (case k9 => (intro s; exact BindsTo.of_eq rfl)); (case kB => exact locs rfl); (case c2 => exact rfl); (case c3 => exact rfl); (case c4 => exact rfl); (case c5 => decide))
  intro p loose mean mg mb dp un gd cn cs L a ccd cl outer base s E L' h' hOk hd hu F' N' B' X' T'
  (try dsimp only)
  k_fold
  k_steps
  rename_i lP _ _ _ _ _
  rename Fr _ _ _ _ => lF'; rename News _ _ _ _ => lN'
  unfold Stop
  refine or_ints (σ := LS) (fun c => [(lP, W.listOf c.1.toArray c.2.2)]) (fun _ => [(Str.ofString "pattern", .str pt tp), (Str.ofString "places", .ref lP)])
    (fun i c => LI pt c.1 c.2.1 (openedF pt.cps.toList (hs.take i))) ([], [], 0) rfl hOk (by assumption) lF' ?_ ?_ ?_ ?_ ?_
  · exact lN'
  · (repeat (first | exact List.forall_mem_nil _ | (refine List.forall_mem_cons.mpr ⟨by rfl, ?_⟩)))
  · exact ⟨.nil, (fun _ e => by cases e), rfl⟩
  · rintro i n t ⟨us, acc, nn⟩ m₁ h tk own hn ⟨hI, hlast0, hacc⟩ hoff hF hN
    change Fr s.heap L' h _ at hF
    change News s.heap L' h ((lP, W.listOf us.toArray nn) :: own) at hN
    change OwnOff own [lP] at hoff
    dsimp only at hI hacc hlast0
    clear lF' lN'
    obtain ⟨x, hx, rfl⟩ : ∃ x : Nat, hs[i]? = some x ∧ (x : Int) = n := by
      rw [nz, List.getElem?_map] at hn
      cases e : hs[i]? with
      | none => rw [e] at hn; cases hn
      | some x => rw [e] at hn; exact ⟨x, rfl, Option.some.inj hn⟩
    k_fold
    k_steps
    rename Fr _ _ _ _ => lF'; rename News _ _ _ _ => lN'
    unfold Stop
    refine or_while (σ := WS) (L := L') (fun c => (lP, W.listOf c.1.toArray c.2.2.1) :: own) (fun c => [(Str.ofString "pattern", .str pt tp), (Str.ofString "places", .ref lP), (Str.ofString "place", .int (c.2.2.2.1 : Int) c.2.2.2.2)])
      (fun c => WI pt c.1 c.2.1 c.2.2.2.1 (addHead pt.cps.toList acc x)) (fun c => 2 * (pt.length + 1 - c.2.2.2.1) + (if below c.2.1 c.2.2.2.1 = true then 1 else 0)) (us, acc, nn, x, t) lF' lN' ?_ ?_ ?_
    · (repeat (first | exact List.forall_mem_nil _ | (refine List.forall_mem_cons.mpr ⟨by rfl, ?_⟩)))
    · exact ⟨hI, hb x (List.mem_of_getElem? hx), hlast0, rfl⟩
    · rintro ⟨us, acc₁, nn, x₁, t⟩ m₁ h tk hP hF hN
      dsimp only at hP hF hN
      obtain ⟨hI, hx1, hlast, htar⟩ := id hP
      clear lF' lN'
      k_fold
      have hfit : (nz acc₁).length ≤ 1001 := by
        rw [nz, List.length_map]
        cases e : acc₁.getLast? with
        | none => rw [List.getLast?_eq_none_iff.mp e]; exact Nat.zero_le _
        | some y => have := hlast y e; omega
      have hK := kstMark
      k_steps
      all_goals (rename Fr _ _ _ _ => fE; rename News _ _ _ _ => nE; (try simp only [List.push_toArray] at nE))
      · have b1 : below acc₁ x₁ = true := below_nil (by assumption)
        exact or_wend (_, acc₁ ++ [x₁], _, x₁, t) fE nE (fun _ hp => hp) (by (repeat (first | exact List.forall_mem_nil _ | (refine List.forall_mem_cons.mpr ⟨by rfl, ?_⟩)))) ((wi_step hP b1).2 (wild_no (by assumption) (by assumption))) (mu_plain b1)
      · have b1 : below acc₁ x₁ = true := below_nil (by assumption)
        exact or_wend (_, acc₁ ++ [x₁], _, x₁ + 1, _) fE nE (fun _ hp => hp) (by (repeat (first | exact List.forall_mem_nil _ | (refine List.forall_mem_cons.mpr ⟨by rfl, ?_⟩)))) ((wi_step hP b1).1 (wild_yes (by assumption) (by assumption))) (mu_wild (by omega) b1)
      · have b1 : below acc₁ x₁ = true := below_nil (by assumption)
        exact or_wend (_, acc₁ ++ [x₁], _, x₁, t) fE nE (fun _ hp => hp) (by (repeat (first | exact List.forall_mem_nil _ | (refine List.forall_mem_cons.mpr ⟨by rfl, ?_⟩)))) ((wi_step hP b1).2 (wild_out (by assumption))) (mu_plain b1)
      · have b1 : below acc₁ x₁ = true := below_last (by assumption) (by assumption)
        exact or_wend (_, acc₁ ++ [x₁], _, x₁, t) fE nE (fun _ hp => hp) (by (repeat (first | exact List.forall_mem_nil _ | (refine List.forall_mem_cons.mpr ⟨by rfl, ?_⟩)))) ((wi_step hP b1).2 (wild_no (by assumption) (by assumption))) (mu_plain b1)
      · have b1 : below acc₁ x₁ = true := below_last (by assumption) (by assumption)
        exact or_wend (_, acc₁ ++ [x₁], _, x₁ + 1, _) fE nE (fun _ hp => hp) (by (repeat (first | exact List.forall_mem_nil _ | (refine List.forall_mem_cons.mpr ⟨by rfl, ?_⟩)))) ((wi_step hP b1).1 (wild_yes (by assumption) (by assumption))) (mu_wild (by omega) b1)
      · have b1 : below acc₁ x₁ = true := below_last (by assumption) (by assumption)
        exact or_wend (_, acc₁ ++ [x₁], _, x₁, t) fE nE (fun _ hp => hp) (by (repeat (first | exact List.forall_mem_nil _ | (refine List.forall_mem_cons.mpr ⟨by rfl, ?_⟩)))) ((wi_step hP b1).2 (wild_out (by assumption))) (mu_plain b1)
      · have b1 : below acc₁ x₁ = false := not_below (by assumption) (by assumption)
        refine or_gend (us, acc₁, nn) fE nE ?_ ?_ hoff (by (repeat (first | exact List.forall_mem_nil _ | (refine List.forall_mem_cons.mpr ⟨by rfl, ?_⟩)))) ⟨hI, hlast, ?_⟩
        · intro p hp
          rw [List.mem_singleton.mp hp]; exact .head _
        · intro p hp
          exact .tail _ hp
        · show acc₁ = _
          have e : hs.take (i + 1) = hs.take i ++ [x] := by rw [List.take_add_one, hx]; rfl
          rw [e, openedF, List.foldl_append]
          show acc₁ = addHead _ (openedF _ _) x
          rw [← hacc, ← htar]
          unfold addHead
          rw [b1]
          rfl
  · rintro ⟨us, acc, nn⟩ m₁ h tk ⟨hI, hlast0, hacc⟩ hF hN
    change Fr s.heap L' h _ at hF
    change News s.heap L' h [(lP, W.listOf us.toArray nn)] at hN
    dsimp only at hI hacc hlast0
    clear lF' lN'
    rw [nz_length, List.take_length] at hacc
    (try k_fold)
    k_steps
    refine or_end hF.keep ⟨lP, us, nn, rfl, (hN _ (.head _)).2.2, (hN _ (.head _)).1, hacc ▸ hI, ?_⟩
    rw [← hacc]
    cases e : acc.getLast? with
    | none => rw [List.getLast?_eq_none_iff.mp e]; exact Nat.zero_le _
    | some y => have := hlast0 y e; omega
end OrLaw

namespace OrLaw
open PySem PySem.Spec PySem.Calls PyProof.Rows PySem.W
set_option maxRecDepth 100000
set_option maxHeartbeats 4000000

local macro_rules | `(tactic| walk_at "call ref") => `(tactic| (refine wpAny_call ?_; k_dflt (refine' code_def ?k1 ?k2 ?k3 ?k4 ?k5 ?kA ?kF ?kK ?k6 ?k7 ?k8 ?k9 ?kB ?_ ?c2 ?c3 ?c4 ?c5; (case kA => exact rfl); (case kF => exact rfl); (case kK => first | exact rfl | assumption); (case k1 => k_asm); (case k2 => k_asm); (case k3 => k_asm); (case k4 => k_asm); (case k5 => k_asm); (case k6 => k_is); (case k7 => k_is); (case k8 => ktr_room); (case k9 => exact BindsTo.of_eq rfl); (case c5 => decide); (case kB => exact locs rfl); (case c2 => exact rfl); (case c3 => exact rfl); (case c4 => exact rfl); k_whole; intro g' L' h' FG' F' N' B' X' T'; (try dsimp only); (try k_lift B'); (try k_fold))))

theorem inbox_no {x : Str} (h : 73 ∉ x.cps.toList) : ¬ (x == Str.ofString "INBOX") = true := fun e => by
  have : x = Str.ofString "INBOX" := eq_of_beq e
  subst this
  exact h (by decide +kernel)
theorem slice_mem {x : Str} {l u : Option Int} {c : Nat} (h : c ∈ (Txt.slice x l u).cps.toList) : c ∈ x.cps.toList := by
  unfold Txt.slice at h
  split at h
  · exact h
  · simp only [List.mem_filterMap] at h
    obtain ⟨i, _, e⟩ := h
    rw [← Array.getElem?_toList] at e
    exact List.mem_of_getElem? e

theorem any_spec (w : World) (nm : Str) (tn : Tok) (hn : nm.length ≤ 1000) (hi : 73 ∉ nm.cps.toList) :
    PureCall w 8 47 [.str nm tn] (fun _ => True) (fun _ v _ => ∃ t, v = .int 0 t) := by
  w_top off
  (have kfl : (hd.heap_39 = hd.heap_39 ∧ PySem.Challenge.rw_or0015_01 = PySem.Challenge.rw_or0015_01) := by (k_fill; exact ⟨rfl, rfl⟩)); clear kfl;
  k_dflt (refine' pure_of (by decide) ?k6 ?k7 ?k9 ?kB ?c2 ?c3 ?c4 ?c5 ?_; (case k6 => k_is); (case k7 => k_is); (case k9 => (intro s; exact BindsTo.of_eq rfl)); (case kB => exact locs rfl); (case c2 => exact rfl); (case c3 => exact rfl); (case c4 => exact rfl); (case c5 => decide))
  intro p loose mean mg mb dp un gd cn cs L a ccd cl outer base s E L' h' hOk hd hu F' N' B' X' T'
  (try dsimp only)
  k_fold
  k_steps
  · exact absurd ‹_› (inbox_no hi)
  · rename Fr s.heap L' _ _ => kF9
    exact or_end kF9.keep ⟨_, rfl⟩
  · exact absurd ‹_› (inbox_no fun q => hi (slice_mem q))
  · rename Fr s.heap L' _ _ => kF9
    exact or_end kF9.keep ⟨_, rfl⟩
end OrLaw

namespace OrLaw
open PySem PySem.Spec PySem.Calls PyProof.Rows PySem.W
set_option maxRecDepth 100000
set_option maxHeartbeats 4000000

local macro_rules | `(tactic| walk_at "pyIter ref") => `(tactic| refine OrLaw.stop ?_)
local macro_rules | `(tactic| walk_at "call ref") => `(tactic| first | ((with_reducible show wpAny _ _ (call (Value.ref 33) _) _ _ _); refine wpAny_call ?_; k_dflt (refine' code_def ?k1 ?k2 ?k3 ?k4 ?k5 ?kA ?kF ?kK ?k6 ?k7 ?k8 ?k9 ?kB ?_ ?c2 ?c3 ?c4 ?c5; (case kA => exact rfl); (case kF => exact rfl); (case kK => first | exact rfl | assumption); (case k1 => k_asm); (case k2 => k_asm); (case k3 => k_asm); (case k4 => k_asm); (case k5 => k_asm); (case k6 => k_is); (case k7 => k_is); (case k8 => ktr_room); (case k9 => exact BindsTo.of_eq rfl); (case c5 => decide); (case kB => exact locs rfl); (case c2 => exact rfl); (case c3 => exact rfl); (case c4 => exact rfl); k_whole; intro g' L' h' FG' F' N' B' X' T'; (try dsimp only); (try k_lift B'); (try k_fold))) | refine OrLaw.stop ?_)

def headOf (p : List Nat) (c : Nat) (x : Nat) : Option Nat := match p[x]? with
  | none => none
  | some w => if w = 42 ∨ (w = 37 ∧ c ≠ 47) then some x else if w ≠ 37 ∧ w = c then some (x + 1) else none
def stepF (p : List Nat) (ps : List Nat) (c : Nat) : List Nat := openedF p (ps.filterMap (headOf p c))
def runF (p nm : List Nat) : List Nat := nm.foldl (stepF p) (openedF p [0])
def listedF (p nm : List Nat) : Bool := (runF p nm).getLast? == some p.length

theorem climb_le {p : List Nat} : ∀ {x : Nat}, x ≤ p.length → ∀ y ∈ climb p x, y ≤ p.length := by
  intro x
  induction h : p.length - x using Nat.strongRecOn generalizing x with
  | _ n ih =>
    intro hx y hy
    cases hw : wildAt p x with
    | true =>
      have hl := wildAt_lt hw
      rw [climb_wild hw] at hy
      rcases List.mem_cons.mp hy with rfl | hy
      · exact hx
      · exact ih (p.length - (x + 1)) (by omega) rfl (by omega) y hy
    | false =>
      rw [climb_plain hw] at hy
      rw [List.mem_singleton.mp hy]; exact hx
theorem fold_le {p : List Nat} : ∀ (hs acc : List Nat), (∀ y ∈ acc, y ≤ p.length) → (∀ y ∈ hs, y ≤ p.length) → ∀ y ∈ hs.foldl (addHead p) acc, y ≤ p.length
  | [], _, ha, _, y, hy => ha y hy
  | x :: hs, acc, ha, hh, y, hy => by
    refine fold_le hs (addHead p acc x) (fun z hz => ?_) (fun z hz => hh z (.tail _ hz)) y hy
    unfold addHead at hz
    split at hz
    · rcases List.mem_append.mp hz with hz | hz
      · exact ha z hz
      · exact climb_le (hh x (.head _)) z hz
    · exact ha z hz
theorem opened_le {p hs : List Nat} (h : ∀ y ∈ hs, y ≤ p.length) : ∀ y ∈ openedF p hs, y ≤ p.length := fold_le hs [] (fun _ h => nomatch h) h
theorem headOf_le {p : List Nat} {c x y : Nat} (h : headOf p c x = some y) : y ≤ p.length := by
  unfold headOf at h
  split at h
  · cases h
  · rename_i w e
    have := (List.getElem?_eq_some_iff.mp e).1
    split at h
    · cases h; omega
    · split at h
      · cases h; omega
      · cases h
theorem heads_le {p ps : List Nat} {c : Nat} : ∀ y ∈ ps.filterMap (headOf p c), y ≤ p.length := fun y hy => by
  obtain ⟨x, _, e⟩ := List.mem_filterMap.mp hy
  exact headOf_le e

theorem allLt_mem {l : Addr} {news : List (Addr × Obj)} (h : AllLt l news) : ∀ q ∈ news, q.1 < l := by
  induction news with
  | nil => intro q hq; cases hq
  | cons p r ih =>
    intro q hq
    rcases List.mem_cons.mp hq with e | hq
    · rw [e]; exact And.left h
    · exact ih (And.right h) q hq
theorem off_of_lt {l : Addr} {own : List (Addr × Obj)} {as : List Addr} (h : OwnOff own as) (x : AllLt l own) : OwnOff own (l :: as) := fun q hq b hb => by
  rcases List.mem_cons.mp hb with rfl | hb
  · exact Nat.ne_of_lt (allLt_mem x q hq)
  · exact h q hq b hb
theorem off_append {o1 o2 : List (Addr × Obj)} {as : List Addr} (h1 : OwnOff o1 as) (h2 : OwnOff o2 as) : OwnOff (o1 ++ o2) as := fun q hq b hb => by
  rcases List.mem_append.mp hq with hq | hq
  · exact h1 q hq b hb
  · exact h2 q hq b hb
theorem lit_eq {x : Str} {i w k : Nat} {l : Str} (hw : x.cps.toList[i]? = some w) (hl : l = ⟨#[k]⟩) : (Txt.item x (i : Int) == l) = decide (w = k) := by
  rw [item_at hw, hl, Bool.eq_iff_iff, beq_iff_eq, decide_eq_true_eq]
  constructor
  · intro e
    have := congrArg (fun s : Str => s.cps.toList) e
    simpa using this
  · rintro rfl; rfl
theorem lit_ne {x : Str} {i w k : Nat} {l : Str} (hw : x.cps.toList[i]? = some w) (hl : l = ⟨#[k]⟩) : (Txt.item x (i : Int) != l) = !decide (w = k) := by
  rw [bne, lit_eq hw hl]
theorem star_is : Str.ofString "*" = ⟨#[42]⟩ := by decide +kernel
theorem pct_is : Str.ofString "%" = ⟨#[37]⟩ := by decide +kernel
theorem slash_is : Str.ofString "/" = ⟨#[47]⟩ := by decide +kernel
theorem zero_at {x : Str} (i : Nat) : Txt.item x (0 + (i : Int)) = Txt.item x (i : Int) := by rw [Int.zero_add]
section
variable {pt nm : Str} {x i w c : Nat}
theorem hd_star (hw : pt.cps.toList[x]? = some w) (h : (Txt.item pt (x : Int) == Str.ofString "*") = true) : headOf pt.cps.toList c x = some x := by
  rw [lit_eq hw star_is] at h
  unfold headOf; rw [hw]; simp at h; simp [h]
theorem hd_pct (hw : pt.cps.toList[x]? = some w) (hc : nm.cps.toList[i]? = some c) (h : (Txt.item pt (x : Int) == Str.ofString "*") = false) (h2 : (Txt.item pt (x : Int) == Str.ofString "%") = true) (h3 : (Txt.item nm (0 + (i : Int)) != Str.ofString "/") = true) :
    headOf pt.cps.toList c x = some x := by
  rw [lit_eq hw pct_is] at h2
  rw [zero_at, lit_ne hc slash_is] at h3
  unfold headOf; rw [hw]; simp at h2 h3; simp [h2, h3]
theorem hd_met (hw : pt.cps.toList[x]? = some w) (hc : nm.cps.toList[i]? = some c) (h : (Txt.item pt (x : Int) == Str.ofString "*") = false) (h2 : (Txt.item pt (x : Int) != Str.ofString "%") = true) (h3 : (Txt.item pt (x : Int) == Txt.item nm (0 + (i : Int))) = true) :
    headOf pt.cps.toList c x = some (x + 1) := by
  rw [lit_eq hw star_is] at h
  rw [lit_ne hw pct_is] at h2
  rw [zero_at, lit_eq hw (item_at hc)] at h3
  unfold headOf; rw [hw]; simp at h h2 h3; subst h3; simp [h, h2]
theorem hd_unmet (hw : pt.cps.toList[x]? = some w) (hc : nm.cps.toList[i]? = some c) (h : (Txt.item pt (x : Int) == Str.ofString "*") = false) (h2 : (Txt.item pt (x : Int) != Str.ofString "%") = true) (h3 : (Txt.item pt (x : Int) == Txt.item nm (0 + (i : Int))) = false) :
    headOf pt.cps.toList c x = none := by
  rw [lit_eq hw star_is] at h
  rw [lit_ne hw pct_is] at h2
  rw [zero_at, lit_eq hw (item_at hc)] at h3
  unfold headOf; rw [hw]; simp at h h2 h3; simp [h, h2, h3]
theorem hd_pctno (hw : pt.cps.toList[x]? = some w) (hc : nm.cps.toList[i]? = some c) (h : (Txt.item pt (x : Int) == Str.ofString "*") = false) (h2 : (Txt.item pt (x : Int) == Str.ofString "%") = true) (h3 : (Txt.item nm (0 + (i : Int)) != Str.ofString "/") = false) :
    headOf pt.cps.toList c x = none := by
  rw [lit_eq hw pct_is] at h2
  rw [zero_at, lit_ne hc slash_is] at h3
  unfold headOf; rw [hw]; simp at h2 h3; simp [h2, h3]
theorem hd_odd (h2 : (Txt.item pt (x : Int) == Str.ofString "%") = true) (h3 : (Txt.item pt (x : Int) != Str.ofString "%") = true) : False := by
  rw [bne, h2] at h3; cases h3
theorem hd_odd2 (h2 : (Txt.item pt (x : Int) == Str.ofString "%") = false) (h3 : (Txt.item pt (x : Int) != Str.ofString "%") = false) : False := by
  rw [bne, h2] at h3; cases h3
theorem hd_end (h : (x : Int) = (pt.length : Int)) : headOf pt.cps.toList c x = none := by
  unfold headOf
  rw [List.getElem?_eq_none (by rw [← str_len]; omega)]
theorem heads_next {ps hs : List Nat} {p : List Nat} {j y : Nat} (e : hs = (ps.take j).filterMap (headOf p c)) (hx : ps[j]? = some x) (h : headOf p c x = some y) : hs ++ [y] = (ps.take (j + 1)).filterMap (headOf p c) := by
  rw [List.take_add_one, hx, List.filterMap_append, e]
  simp [h]
theorem heads_same {ps hs : List Nat} {p : List Nat} {j : Nat} (e : hs = (ps.take j).filterMap (headOf p c)) (hx : ps[j]? = some x) (h : headOf p c x = none) : hs = (ps.take (j + 1)).filterMap (headOf p c) := by
  rw [List.take_add_one, hx, List.filterMap_append, ← e]
  simp [h]
end
theorem keepsC {x : Addr × Obj} {A rest : List (Addr × Obj)} (h : ∀ p ∈ A, p ∈ rest) : ∀ p ∈ x :: A, p ∈ x :: rest := fun p hp => by
  rcases List.mem_cons.mp hp with rfl | hp
  · exact .head _
  · exact .tail _ (h p hp)
theorem ints_push {vs : List Value} {hs : List Nat} {y : Nat} {t : Tok} (h : IntsAre vs (nz hs)) : IntsAre (vs ++ [.int (y : Int) t]) (nz (hs ++ [y])) := by
  rw [nz_append]
  exact IntsAre.append h (.cons _ _ .nil)
theorem listed_yes {p ps nm : List Nat} {n : Nat} (hp : p.length = n) (e : ps = nm.foldl (stepF p) (openedF p [0])) (h : 0 < ((nz ps).length : Int)) : ((nz ps).getD (-1 + ((nz ps).length : Int)).toNat 0 == (n : Int)) = listedF p nm := by
  obtain ⟨y, e1, e2⟩ := last_getD (acc := ps) (by omega)
  unfold listedF runF
  rw [← e, e1, e2, hp, Bool.eq_iff_iff, beq_iff_eq, beq_iff_eq]
  constructor
  · intro h; rw [Int.ofNat.inj h]
  · intro h; rw [Option.some.inj h]
theorem listed_no {p ps nm : List Nat} (e : ps = nm.foldl (stepF p) (openedF p [0])) (h : ¬ 0 < ((nz ps).length : Int)) : decide (0 < ((nz ps).length : Int)) = listedF p nm := by
  rw [decide_eq_false h]
  rw [nz_length] at h
  have : ps = [] := List.eq_nil_of_length_eq_zero (by omega)
  unfold listedF runF
  rw [← e, this]
  rfl
abbrev HS := List Value × List Nat × Nat
abbrev PS := Addr × List Value × List Nat × Nat
def PI (pt : Str) (us : List Value) (ps : List Nat) (target : List Nat) : Prop :=
  IntsAre us (nz ps) ∧ (∀ x ∈ ps, x ≤ pt.length) ∧ ps.length ≤ 1001 ∧ ps = target

theorem listed_spec (w : World) (pt nm : Str) (tp tn : Tok) (hp : pt.length ≤ 1000) (hn : nm.length ≤ 1000) (hi : 73 ∉ nm.cps.toList) :
    PureCall w 16 54 [.str pt tp, .str nm tn] (fun _ => True) (fun _ v _ => v = .bool (listedF pt.cps.toList nm.cps.toList)) := by
  w_top off
  (have kfl : (hd.heap_39 = hd.heap_39 ∧ PySem.Challenge.rw_or0015_01 = PySem.Challenge.rw_or0015_01) := by (k_fill; exact ⟨rfl, rfl⟩)); clear kfl;
  k_dflt (refine' pure_of (by decide) ?k6 ?k7 ?k9 ?kB ?c2 ?c3 ?c4 ?c5 ?_; (case k6 => k_is); (case k7 => k_is); (case k9 => (intro s; exact BindsTo.of_eq rfl)); (case kB => exact locs rfl); (case c2 => exact rfl); (case c3 => exact rfl); (case c4 => exact rfl); (case c5 => decide))
  intro p loose mean mg mb dp un gd cn cs L a ccd cl outer base s E L' h' hOk hd hu F' N' B' X' T'
  (try dsimp only)
  k_fold
  k_steps
  unfold Stop
  k_dflt refine pure_use (any_spec w nm tn hn hi) (by k_asm) (by k_asm) (by k_asm) (by k_asm) (by k_asm) rfl trivial (by ktr_room) (by ktr_units) ?_
  rintro v h1 tk1 F1 N1 - ⟨t1, rfl⟩
  (try dsimp only)
  (try k_fold)
  k_steps
  unfold Stop
  rename News _ _ _ _ => lN'
  k_dflt refine pure_use (opened_spec w pt tp _ _ [0] hp (.cons _ _ .nil) (fun x hx => by rw [List.mem_singleton.mp hx]; exact Nat.zero_le _)) (by k_asm) (by k_asm) lN' (by k_asm) (by k_asm) rfl (lN'.isList (.head _)) (by ktr_room) (by ktr_units) ?_
  rintro v h2 tk2 F2 N2 - ⟨lp, us, nn, rfl, e0, e1, e2, e3⟩
  have N3 := fresh_news (by k_asm) e0 e1 N2
  clear N2 lN'
  (try dsimp only)
  (try k_fold)
  k_steps
  rename Fr _ _ _ _ => lF'; rename News _ _ _ _ => lN'; rename IsRange _ _ _ _ _ _ _ _ => rg
  unfold Stop
  refine or_range (σ := PS) (n := nm.length) (fun c => [(c.1, W.listOf c.2.1.toArray c.2.2.2)]) (fun c => [(Str.ofString "pattern", .str pt tp), (Str.ofString "name", .str nm tn), (Str.ofString "most", .int 0 t1), (Str.ofString "places", .ref c.1)])
    (fun i c => PI pt c.2.1 c.2.2.1 ((nm.cps.toList.take i).foldl (stepF pt.cps.toList) (openedF pt.cps.toList [0]))) (lp, us, openedF pt.cps.toList [0], nn) rfl rg ?_ ?_ lF' (fun q hq => lN' q (by rw [List.mem_singleton.mp hq]; exact .head _)) ?_ ?_ ?_ ?_
  · exact small_one (by omega) (by omega) (by omega) (by omega)
  · rw [rangeSize_nat]; omega
  · (repeat (first | exact List.forall_mem_nil _ | (refine List.forall_mem_cons.mpr ⟨by rfl, ?_⟩)))
  · exact ⟨e2, opened_le (fun x hx => by rw [List.mem_singleton.mp hx]; exact Nat.zero_le _), e3, rfl⟩
  · rintro i t ⟨lp, us, ps, nn⟩ m₁ h tk own hin ⟨hI, hle, hlen, htar⟩ hoff hF hN
    change Fr s.heap L' h _ at hF
    change News s.heap L' h ((lp, W.listOf us.toArray nn) :: own) at hN
    change OwnOff own [lp] at hoff
    dsimp only at hI hle hlen htar hF
    clear lF' lN' rg
    k_fold
    k_steps
    rename Fr _ _ _ _ => lF'; rename News _ _ _ _ => lN'; rename _ ∧ AllLt _ own => lH
    rename_i lh _ _
    have hoff2 := off_of_lt hoff lH.2
    unfold Stop
    refine or_led (σ := HS) (l := lp) (vs := us) (nn := nn) (fun c => (lh, W.listOf c.1.toArray c.2.2) :: (lp, W.listOf us.toArray nn) :: own)
      (fun _ => [(Str.ofString "pattern", .str pt tp), (Str.ofString "name", .str nm tn), (Str.ofString "most", .int 0 t1), (Str.ofString "at", .int (0 + (i : Int)) t), (Str.ofString "heads", .ref lh)])
      (fun j c => IntsAre c.1 (nz c.2.1) ∧ c.2.1 = (ps.take j).filterMap (headOf pt.cps.toList (nm.cps.toList.getD i 0))) ([], [], 0) rfl (fun _ => .tail _ (.head _)) (by assumption) lF' lN' ?_ ?_ ?_ ?_
    · (repeat (first | exact List.forall_mem_nil _ | (refine List.forall_mem_cons.mpr ⟨by rfl, ?_⟩)))
    · exact ⟨.nil, rfl⟩
    · rintro j n u ⟨vs, hs, mm⟩ m₂ h tk own2 hjn ⟨hI2, htar2⟩ hoff3 hF hN
      change Fr s.heap L' h _ at hF
      change News s.heap L' h ((lh, W.listOf vs.toArray mm) :: (lp, W.listOf us.toArray nn) :: (own ++ own2)) at hN
      dsimp only at hI2 htar2 hF
      clear lF' lN'
      k_fold
      obtain ⟨x, hx, rfl⟩ : ∃ x : Nat, ps[j]? = some x ∧ (x : Int) = n := by
        rw [nz, List.getElem?_map] at hjn
        cases e : ps[j]? with
        | none => rw [e] at hjn; cases hjn
        | some x => rw [e] at hjn; exact ⟨x, rfl, Option.some.inj hjn⟩
      obtain ⟨rest, eO⟩ : ∃ r, r = (lp, W.listOf us.toArray nn) :: (own ++ own2) := ⟨_, rfl⟩
      rw [← eO] at hN
      have hoff4 : OwnOff rest [lh] := fun q hq b hb => by
        rw [List.mem_singleton.mp hb]
        rw [eO] at hq
        rcases List.mem_cons.mp hq with rfl | hq
        · exact Nat.ne_of_lt lH.1
        · rcases List.mem_append.mp hq with hq | hq
          · exact Nat.ne_of_lt (allLt_mem lH.2 q hq)
          · exact hoff3 q hq _ (.head _)
      have hrest : ∀ p ∈ (lp, W.listOf us.toArray nn) :: own, p ∈ rest := fun p hp => by
        rw [eO]
        exact keepsC (fun p hp => List.mem_append_left _ hp) p hp
      have hown2 : ∀ p ∈ own2, p ∈ rest := fun p hp => by
        rw [eO]
        exact .tail _ (List.mem_append_right _ hp)
      have hxl : x ≤ pt.length := hle x (List.mem_of_getElem? hx)
      have hxw : (x : Int) ≠ pt.length → ∃ w, pt.cps.toList[x]? = some w := fun h => ⟨_, List.getElem?_eq_getElem (by rw [← str_len]; omega)⟩
      obtain ⟨c, hc⟩ : ∃ c, nm.cps.toList[i]? = some c := ⟨_, List.getElem?_eq_getElem (by rw [← str_len]; omega)⟩
      have ec : nm.cps.toList.getD i 0 = c := by rw [List.getD_eq_getElem?_getD, hc]; rfl
      rw [ec] at htar2
      have hK := kstMark
      have hfit : vs.length ≤ 1001 := by
        rw [hI2.length, nz_length, htar2]
        exact Nat.le_trans (List.length_filterMap_le _ _) (Nat.le_trans (List.length_take_le' _ _) hlen)
      k_steps
      all_goals (rename Fr s.heap L' _ _ => fE; rename News s.heap L' _ _ => nE; (try simp only [List.push_toArray] at nE))
      · exact or_gend (vs, hs, mm) fE nE (keepsC hrest) (fun p hp => .tail _ (hown2 p hp)) hoff3 (by (repeat (first | exact List.forall_mem_nil _ | (refine List.forall_mem_cons.mpr ⟨by rfl, ?_⟩)))) ⟨hI2, by rw [ec]; exact heads_same htar2 hx (hd_end ‹_›)⟩
      all_goals (obtain ⟨w, hw⟩ := hxw ‹_›)
      · exact or_gend (vs ++ [_], hs ++ [x], _) fE nE (keepsC hrest) (fun p hp => .tail _ (hown2 p hp)) hoff3 (by (repeat (first | exact List.forall_mem_nil _ | (refine List.forall_mem_cons.mpr ⟨by rfl, ?_⟩)))) ⟨ints_push hI2, by rw [ec]; exact heads_next htar2 hx (hd_star hw ‹_›)⟩
      · exact or_gend (vs ++ [_], hs ++ [x], _) fE nE (keepsC hrest) (fun p hp => .tail _ (hown2 p hp)) hoff3 (by (repeat (first | exact List.forall_mem_nil _ | (refine List.forall_mem_cons.mpr ⟨by rfl, ?_⟩)))) ⟨ints_push hI2, by rw [ec]; exact heads_next htar2 hx (hd_pct hw hc ‹_› ‹_› ‹_›)⟩
      · exact absurd ‹_› (fun h => hd_odd ‹_› h)
      · exact absurd ‹_› (fun h => hd_odd ‹_› h)
      · exact or_gend (vs, hs, mm) fE nE (keepsC hrest) (fun p hp => .tail _ (hown2 p hp)) hoff3 (by (repeat (first | exact List.forall_mem_nil _ | (refine List.forall_mem_cons.mpr ⟨by rfl, ?_⟩)))) ⟨hI2, by rw [ec]; exact heads_same htar2 hx (hd_pctno hw hc ‹_› ‹_› ‹_›)⟩
      · exact or_gend (vs ++ [_], hs ++ [x + 1], _) fE nE (keepsC hrest) (fun p hp => .tail _ (hown2 p hp)) hoff3 (by (repeat (first | exact List.forall_mem_nil _ | (refine List.forall_mem_cons.mpr ⟨by rfl, ?_⟩)))) ⟨ints_push (y := x + 1) hI2, by rw [ec]; exact heads_next htar2 hx (hd_met hw hc ‹_› ‹_› ‹_›)⟩
      · exact or_gend (vs, hs, mm) fE nE (keepsC hrest) (fun p hp => .tail _ (hown2 p hp)) hoff3 (by (repeat (first | exact List.forall_mem_nil _ | (refine List.forall_mem_cons.mpr ⟨by rfl, ?_⟩)))) ⟨hI2, by rw [ec]; exact heads_same htar2 hx (hd_unmet hw hc ‹_› ‹_› ‹_›)⟩
      · exact absurd ‹_› (fun h => hd_odd2 ‹_› h)
    · rintro ⟨vs, hs, mm⟩ m₂ h tk ⟨hI2, htar2⟩ hF hN
      change Fr s.heap L' h _ at hF
      change News s.heap L' h ((lh, W.listOf vs.toArray mm) :: (lp, W.listOf us.toArray nn) :: own) at hN
      dsimp only at hI2 htar2 hF
      rw [nz_length, List.take_length] at htar2
      clear lF' lN'
      (try k_fold)
      k_steps
      unfold Stop
      rename News _ _ _ _ => lN'
      k_dflt refine pure_use (opened_spec w pt tp _ _ hs hp hI2 (fun x hx => by rw [str_len]; rw [htar2] at hx; exact heads_le x hx)) (by k_asm) (by k_asm) lN' (by k_asm) (by k_asm) rfl (lN'.isList (.head _)) (by ktr_room) (by ktr_units) ?_
      rintro v h2 tk2 F2 N2 - ⟨lq, us2, nn2, rfl, g0, g1, g2, g3⟩
      have N3 := fresh_news (by k_asm) g0 g1 N2
      have hq := fresh_ne lN' g0
      clear N2 lN'
      (try dsimp only)
      (try k_fold)
      k_steps
      rename Fr s.heap L' _ _ => fE; rename News s.heap L' _ _ => nE
      refine or_gend (lq, us2, openedF pt.cps.toList hs, nn2) fE nE (fun p hp => by rw [List.mem_singleton.mp hp]; exact .head _) (fun p hp => .tail _ (.tail _ (.tail _ hp))) (fun q hq' b hb => by
        rw [List.mem_singleton.mp hb]; exact hq q (.tail _ (.tail _ hq'))) (by (repeat (first | exact List.forall_mem_nil _ | (refine List.forall_mem_cons.mpr ⟨by rfl, ?_⟩)))) ⟨g2, fun x hx => by rw [str_len]; exact opened_le (by rw [htar2]; exact heads_le) x hx, g3, ?_⟩
      have hil : i < nm.cps.toList.length := by rw [← str_len]; exact hin
      rw [List.take_add_one, List.getElem?_eq_getElem hil, List.foldl_append, ← htar]
      rw [List.getD_eq_getElem?_getD, List.getElem?_eq_getElem hil] at htar2
      rw [htar2]
      rfl
  · rintro ⟨lp, us, ps, nn⟩ m₁ h tk ⟨hI, hle, hlen, htar⟩ hF hN
    change Fr s.heap L' h _ at hF
    change News s.heap L' h [(lp, W.listOf us.toArray nn)] at hN
    dsimp only at hI hle hlen htar hF
    clear lF' lN' rg
    (try k_fold)
    have hK := kstMark
    have hfit : us.length ≤ 1001 := by rw [hI.length, nz_length]; exact hlen
    k_steps
    all_goals (rename Fr s.heap L' _ _ => fE)
    all_goals (rw [str_len, List.take_length] at htar)
    · exact or_end fE.keep (by show Value.bool _ = _; rw [listed_yes (str_len pt).symm htar ‹_›])
    · exact or_end fE.keep (by show Value.bool _ = _; rw [listed_no htar ‹_›])
end OrLaw

namespace OrLaw
open PySem PySem.Spec PySem.Calls PyProof.Rows PySem.W
set_option maxRecDepth 100000
set_option maxHeartbeats 4000000

local macro_rules | `(tactic| walk_at "pyIter ref") => `(tactic| refine OrLaw.stop ?_)
local macro_rules | `(tactic| walk_at "or pad") => `(tactic| skip)

theorem pw_ne5 (n : Nat) : ((5 : Nat) : Int) ^ n ≠ 0 := Int.ne_of_gt (Int.pow_pos (by decide))
theorem pw_ne3 (n : Nat) : ((3 : Nat) : Int) ^ n ≠ 0 := Int.ne_of_gt (Int.pow_pos (by decide))
theorem six {P : Nat → Prop} {i : Nat} (h : i < 6) (h0 : P 0) (h1 : P 1) (h2 : P 2) (h3 : P 3) (h4 : P 4) (h5 : P 5) : P i := by
  match i, h with
  | 0, _ => exact h0
  | 1, _ => exact h1
  | 2, _ => exact h2
  | 3, _ => exact h3
  | 4, _ => exact h4
  | 5, _ => exact h5
theorem pw_log5 {i : Nat} (h : i < 6) : (((5 : Nat) : Int) ^ (0 + (i : Int)).toNat).natAbs.log2 < 9000 :=
  six (P := fun i => (((5 : Nat) : Int) ^ (0 + (i : Int)).toNat).natAbs.log2 < 9000) h (by decide +kernel) (by decide +kernel) (by decide +kernel) (by decide +kernel) (by decide +kernel) (by decide +kernel)
theorem pw_log3 {i : Nat} (h : i < 6) : (((3 : Nat) : Int) ^ (0 + (i : Int)).toNat).natAbs.log2 < 9000 :=
  six (P := fun i => (((3 : Nat) : Int) ^ (0 + (i : Int)).toNat).natAbs.log2 < 9000) h (by decide +kernel) (by decide +kernel) (by decide +kernel) (by decide +kernel) (by decide +kernel) (by decide +kernel)
local macro_rules | `(tactic| walk_at "binaryOp FloorDiv int int") => `(tactic| first
  | (refine floordiv_int (pw_ne5 _) ?_ (Or.inl (PyProof.noPylong_of_log2 (pw_log5 ‹_›))))
  | (refine floordiv_int (pw_ne3 _) ?_ (Or.inl (PyProof.noPylong_of_log2 (pw_log3 ‹_›)))))

theorem app_cps (x y : Str) : (x ++ y).cps.toList = x.cps.toList ++ y.cps.toList := by
  show (x.cps ++ y.cps).toList = _
  simp
theorem app_item {x S : Str} {k : Int} (h0 : 0 ≤ k) (h1 : k < (S.length : Int)) (hx : ∀ c ∈ x.cps.toList, c ∈ S.cps.toList) :
    (x ++ Txt.item S k).length = x.length + 1 ∧ ∀ c ∈ (x ++ Txt.item S k).cps.toList, c ∈ S.cps.toList := by
  obtain ⟨n, rfl⟩ : ∃ n : Nat, k = n := ⟨k.toNat, by omega⟩
  have hn : n < S.cps.toList.length := by rw [← str_len]; omega
  have e : S.cps.toList[n]? = some S.cps.toList[n] := List.getElem?_eq_getElem hn
  rw [item_at e, str_len, app_cps, str_len x]
  refine ⟨by simp, fun c hc => ?_⟩
  rcases List.mem_append.mp hc with hc | hc
  · exact hx c hc
  · have : c = S.cps.toList[n] := by simpa using hc
    rw [this]; exact List.getElem_mem hn
theorem fmod_in {a : Int} {n : Nat} (h : 0 < n) : 0 ≤ a.fmod (n : Int) ∧ a.fmod (n : Int) < (n : Int) := by
  rw [Int.fmod_eq_emod_of_nonneg _ (by omega)]
  exact ⟨Int.emod_nonneg _ (by omega), Int.emod_lt_of_pos _ (by omega)⟩

theorem text1_spec (w : World) (cell : Int) (tc ts tm : Tok) :
    PureCall w 8 61 [.int cell tc, .str (Str.ofString "ab/*%") ts, .int 3 tm] (fun _ => True)
      (fun _ v _ => ∃ x t, v = .str x t ∧ x.length ≤ 3 ∧ ∀ k ∈ x.cps.toList, k ∈ (Str.ofString "ab/*%").cps.toList) := by
  w_top off
  (have kfl : (hd.heap_39 = hd.heap_39 ∧ PySem.Challenge.rw_or0015_01 = PySem.Challenge.rw_or0015_01) := by (k_fill; exact ⟨rfl, rfl⟩)); clear kfl;
  k_dflt (refine' pure_of (by decide) ?k6 ?k7 ?k9 ?kB ?c2 ?c3 ?c4 ?c5 ?_; (case k6 => k_is); (case k7 => k_is); (case k9 => (intro s; exact BindsTo.of_eq rfl)); (case kB => exact locs rfl); (case c2 => exact rfl); (case c3 => exact rfl); (case c4 => exact rfl); (case c5 => decide))
  intro p loose mean mg mb dp un gd cn cs L a ccd cl outer base s E L' h' hOk hd hu F' N' B' X' T'
  (try dsimp only)
  k_fold
  k_steps
  rename Fr _ _ _ _ => lF'; rename News _ _ _ _ => lN'; rename IsRange _ _ _ _ _ _ _ _ => rg
  unfold Stop
  refine' or_range (σ := Str × Tok) (n := (cell % (3 + 1)).toNat) (fun _ => []) (fun c => [(Str.ofString "cell", .int cell tc), (Str.ofString "signs", .str (Str.ofString "ab/*%") ts), (Str.ofString "most", .int 3 tm), (Str.ofString "text", .str c.1 c.2)])
    (fun i c => c.1.length = i ∧ ∀ k ∈ c.1.cps.toList, k ∈ (Str.ofString "ab/*%").cps.toList) (Str.ofString "", _) rfl rg ?g1 ?g2 lF' (fun q hq => nomatch hq) ?g3 ?g4 ?g5 ?g6
  case g3 => (repeat (first | exact List.forall_mem_nil _ | (refine List.forall_mem_cons.mpr ⟨by rfl, ?_⟩)))
  case g1 =>
    rw [Int.fmod_eq_emod_of_nonneg _ (by decide)]
    exact small_one (by omega) (by omega) (by omega) (by omega)
  case g2 =>
    rw [rangeSize_nat, Int.fmod_eq_emod_of_nonneg _ (by decide)]
    congr 1
    simp
  case g4 => exact ⟨rfl, fun k hk => by cases hk⟩
  case g5 =>
    rintro i t ⟨x, tx⟩ m₁ h tk own hin ⟨hl, hx⟩ hoff hF hN
    change Fr s.heap L' h _ at hF
    change News s.heap L' h own at hN
    dsimp only at hl hx hF
    clear lF' lN' rg
    k_fold
    have hi3 : i < 6 := by omega
    have hl9 : x.length ≤ 9 := by omega
    have hK := kstMark
    k_steps
    rename Fr s.heap L' _ _ => fE; rename News s.heap L' _ _ => nE
    have hz := app_item (k := ((cell.fdiv (3 + 1)).fdiv (((5 : Nat) : Int) ^ (0 + (i : Int)).toNat)).fmod ((5 : Nat) : Int)) (fmod_in (by decide)).1 (fmod_in (by decide)).2 hx
    exact or_gend (_, _) fE nE (fun p hp => nomatch hp) (fun p hp => hp) hoff (by (repeat (first | exact List.forall_mem_nil _ | (refine List.forall_mem_cons.mpr ⟨by rfl, ?_⟩)))) ⟨hz.1.trans (congrArg (· + 1) hl), hz.2⟩
  case g6 =>
    rintro ⟨x, tx⟩ m₁ h tk ⟨hl, hx⟩ hF hN
    change Fr s.heap L' h _ at hF
    change News s.heap L' h [] at hN
    dsimp only at hl hx hF
    clear lF' lN' rg
    (try k_fold)
    k_steps
    rename Fr s.heap L' _ _ => fE
    exact or_end fE.keep ⟨x, _, rfl, by omega, hx⟩
theorem text2_spec (w : World) (cell : Int) (tc ts tm : Tok) :
    PureCall w 8 61 [.int cell tc, .str (Str.ofString "%a*/b") ts, .int 3 tm] (fun _ => True)
      (fun _ v _ => ∃ x t, v = .str x t ∧ x.length ≤ 3 ∧ ∀ k ∈ x.cps.toList, k ∈ (Str.ofString "%a*/b").cps.toList) := by
  w_top off
  (have kfl : (hd.heap_39 = hd.heap_39 ∧ PySem.Challenge.rw_or0015_01 = PySem.Challenge.rw_or0015_01) := by (k_fill; exact ⟨rfl, rfl⟩)); clear kfl;
  k_dflt (refine' pure_of (by decide) ?k6 ?k7 ?k9 ?kB ?c2 ?c3 ?c4 ?c5 ?_; (case k6 => k_is); (case k7 => k_is); (case k9 => (intro s; exact BindsTo.of_eq rfl)); (case kB => exact locs rfl); (case c2 => exact rfl); (case c3 => exact rfl); (case c4 => exact rfl); (case c5 => decide))
  intro p loose mean mg mb dp un gd cn cs L a ccd cl outer base s E L' h' hOk hd hu F' N' B' X' T'
  (try dsimp only)
  k_fold
  k_steps
  rename Fr _ _ _ _ => lF'; rename News _ _ _ _ => lN'; rename IsRange _ _ _ _ _ _ _ _ => rg
  unfold Stop
  refine' or_range (σ := Str × Tok) (n := (cell % (3 + 1)).toNat) (fun _ => []) (fun c => [(Str.ofString "cell", .int cell tc), (Str.ofString "signs", .str (Str.ofString "%a*/b") ts), (Str.ofString "most", .int 3 tm), (Str.ofString "text", .str c.1 c.2)])
    (fun i c => c.1.length = i ∧ ∀ k ∈ c.1.cps.toList, k ∈ (Str.ofString "%a*/b").cps.toList) (Str.ofString "", _) rfl rg ?g1 ?g2 lF' (fun q hq => nomatch hq) ?g3 ?g4 ?g5 ?g6
  case g3 => (repeat (first | exact List.forall_mem_nil _ | (refine List.forall_mem_cons.mpr ⟨by rfl, ?_⟩)))
  case g1 =>
    rw [Int.fmod_eq_emod_of_nonneg _ (by decide)]
    exact small_one (by omega) (by omega) (by omega) (by omega)
  case g2 =>
    rw [rangeSize_nat, Int.fmod_eq_emod_of_nonneg _ (by decide)]
    congr 1
    simp
  case g4 => exact ⟨rfl, fun k hk => by cases hk⟩
  case g5 =>
    rintro i t ⟨x, tx⟩ m₁ h tk own hin ⟨hl, hx⟩ hoff hF hN
    change Fr s.heap L' h _ at hF
    change News s.heap L' h own at hN
    dsimp only at hl hx hF
    clear lF' lN' rg
    k_fold
    have hi3 : i < 6 := by omega
    have hl9 : x.length ≤ 9 := by omega
    have hK := kstMark
    k_steps
    rename Fr s.heap L' _ _ => fE; rename News s.heap L' _ _ => nE
    have hz := app_item (k := ((cell.fdiv (3 + 1)).fdiv (((5 : Nat) : Int) ^ (0 + (i : Int)).toNat)).fmod ((5 : Nat) : Int)) (fmod_in (by decide)).1 (fmod_in (by decide)).2 hx
    exact or_gend (_, _) fE nE (fun p hp => nomatch hp) (fun p hp => hp) hoff (by (repeat (first | exact List.forall_mem_nil _ | (refine List.forall_mem_cons.mpr ⟨by rfl, ?_⟩)))) ⟨hz.1.trans (congrArg (· + 1) hl), hz.2⟩
  case g6 =>
    rintro ⟨x, tx⟩ m₁ h tk ⟨hl, hx⟩ hF hN
    change Fr s.heap L' h _ at hF
    change News s.heap L' h [] at hN
    dsimp only at hl hx hF
    clear lF' lN' rg
    (try k_fold)
    k_steps
    rename Fr s.heap L' _ _ => fE
    exact or_end fE.keep ⟨x, _, rfl, by omega, hx⟩
theorem text3_spec (w : World) (cell : Int) (tc ts tm : Tok) :
    PureCall w 8 61 [.int cell tc, .str (Str.ofString "a/b") ts, .int 6 tm] (fun _ => True)
      (fun _ v _ => ∃ x t, v = .str x t ∧ x.length ≤ 6 ∧ ∀ k ∈ x.cps.toList, k ∈ (Str.ofString "a/b").cps.toList) := by
  w_top off
  (have kfl : (hd.heap_39 = hd.heap_39 ∧ PySem.Challenge.rw_or0015_01 = PySem.Challenge.rw_or0015_01) := by (k_fill; exact ⟨rfl, rfl⟩)); clear kfl;
  k_dflt (refine' pure_of (by decide) ?k6 ?k7 ?k9 ?kB ?c2 ?c3 ?c4 ?c5 ?_; (case k6 => k_is); (case k7 => k_is); (case k9 => (intro s; exact BindsTo.of_eq rfl)); (case kB => exact locs rfl); (case c2 => exact rfl); (case c3 => exact rfl); (case c4 => exact rfl); (case c5 => decide))
  intro p loose mean mg mb dp un gd cn cs L a ccd cl outer base s E L' h' hOk hd hu F' N' B' X' T'
  (try dsimp only)
  k_fold
  k_steps
  rename Fr _ _ _ _ => lF'; rename News _ _ _ _ => lN'; rename IsRange _ _ _ _ _ _ _ _ => rg
  unfold Stop
  refine' or_range (σ := Str × Tok) (n := (cell % (6 + 1)).toNat) (fun _ => []) (fun c => [(Str.ofString "cell", .int cell tc), (Str.ofString "signs", .str (Str.ofString "a/b") ts), (Str.ofString "most", .int 6 tm), (Str.ofString "text", .str c.1 c.2)])
    (fun i c => c.1.length = i ∧ ∀ k ∈ c.1.cps.toList, k ∈ (Str.ofString "a/b").cps.toList) (Str.ofString "", _) rfl rg ?g1 ?g2 lF' (fun q hq => nomatch hq) ?g3 ?g4 ?g5 ?g6
  case g3 => (repeat (first | exact List.forall_mem_nil _ | (refine List.forall_mem_cons.mpr ⟨by rfl, ?_⟩)))
  case g1 =>
    rw [Int.fmod_eq_emod_of_nonneg _ (by decide)]
    exact small_one (by omega) (by omega) (by omega) (by omega)
  case g2 =>
    rw [rangeSize_nat, Int.fmod_eq_emod_of_nonneg _ (by decide)]
    congr 1
    simp
  case g4 => exact ⟨rfl, fun k hk => by cases hk⟩
  case g5 =>
    rintro i t ⟨x, tx⟩ m₁ h tk own hin ⟨hl, hx⟩ hoff hF hN
    change Fr s.heap L' h _ at hF
    change News s.heap L' h own at hN
    dsimp only at hl hx hF
    clear lF' lN' rg
    k_fold
    have hi3 : i < 6 := by omega
    have hl9 : x.length ≤ 9 := by omega
    have hK := kstMark
    k_steps
    rename Fr s.heap L' _ _ => fE; rename News s.heap L' _ _ => nE
    have hz := app_item (k := ((cell.fdiv (6 + 1)).fdiv (((3 : Nat) : Int) ^ (0 + (i : Int)).toNat)).fmod ((3 : Nat) : Int)) (fmod_in (by decide)).1 (fmod_in (by decide)).2 hx
    exact or_gend (_, _) fE nE (fun p hp => nomatch hp) (fun p hp => hp) hoff (by (repeat (first | exact List.forall_mem_nil _ | (refine List.forall_mem_cons.mpr ⟨by rfl, ?_⟩)))) ⟨hz.1.trans (congrArg (· + 1) hl), hz.2⟩
  case g6 =>
    rintro ⟨x, tx⟩ m₁ h tk ⟨hl, hx⟩ hF hN
    change Fr s.heap L' h _ at hF
    change News s.heap L' h [] at hN
    dsimp only at hl hx hF
    clear lF' lN' rg
    (try k_fold)
    k_steps
    rename Fr s.heap L' _ _ => fE
    exact or_end fE.keep ⟨x, _, rfl, by omega, hx⟩
end OrLaw

namespace OrLaw
open PySem PySem.Spec PySem.Calls PyProof.Rows PySem.W
set_option maxRecDepth 100000
set_option maxHeartbeats 4000000

local macro_rules | `(tactic| walk_at "pyIter ref") => `(tactic| refine OrLaw.stop ?_)
local macro_rules | `(tactic| walk_at "call ref") => `(tactic| refine OrLaw.stop ?_)

structure OrFn (h₀ : Heap) (f : Addr) : Prop where
  fnAt : ∀ L h m, Fr h₀ L h m → FnAt f h
local macro_rules | `(tactic| walk_at "callWith ref") => `(tactic| (k_dflt (refine' callWith_F ?k1 ?_; (case k1 => exact OrFn.fnAt (by assumption) _ _ _ (by k_asm)); k_whole)))
local macro_rules | `(tactic| walk_at "FnAt") => `(tactic| (k_dflt (exact OrFn.fnAt (by assumption) _ _ _ (by k_asm))))

theorem slice_to {x : Str} {k : Nat} (h : k ≤ x.length) : (Txt.slice x none (some (k : Int))).cps.toList = x.cps.toList.take k := by
  have e := eq_of_beq (slice_closes_toL (x := x) (j := (k : Int)) (by omega) (by omega))
  rw [e]; simp
theorem slice_mid {x : Str} {b e : Nat} (h1 : b ≤ e) (h2 : e ≤ x.length) : (Txt.slice x (some (b : Int)) (some (e : Int))).cps.toList = (x.cps.toList.drop b).take (e - b) := by
  have q := eq_of_beq (slice_closesL (x := x) (i := (b : Int)) (j := (e : Int)) (by omega) (by omega) (by omega))
  rw [q]
  have z : ((e : Int) - (b : Int)).toNat = e - b := by omega
  simp [z]
theorem slice_from {x : Str} {k : Nat} (h : k ≤ x.length) : (Txt.slice x (some (k : Int)) none).cps.toList = x.cps.toList.drop k := by
  have q := eq_of_beq (slice_closes_fromL (x := x) (i := (k : Int)) (b := (x.length : Int)) (by omega) (by omega) rfl)
  rw [q]
  have z : ((x.length : Int) - (k : Int)).toNat = x.length - k := by omega
  simp [z]
  rw [List.take_of_length_le]
  rw [List.length_drop, ← str_len]; omega

theorem mid_at {x : Str} {i j : Nat} (h : i + j ≤ x.length) : (Txt.slice x (some (0 + (i : Int))) (some (0 + (i : Int) + (j : Int)))).cps.toList = (x.cps.toList.drop i).take (i + j - i) := by
  have z : (0 : Int) + (i : Int) + (j : Int) = ((i + j : Nat) : Int) := by omega
  rw [z, Int.zero_add]
  exact slice_mid (by omega) h
theorem from_at {x : Str} {i j : Nat} (h : i + j ≤ x.length) : (Txt.slice x (some (0 + (i : Int) + (j : Int))) none).cps.toList = x.cps.toList.drop (i + j) := by
  have z : (0 : Int) + (i : Int) + (j : Int) = ((i + j : Nat) : Int) := by omega
  rw [z]
  exact slice_from h

def cutAt (fi la nm : List Nat) (lie : List Nat → Bool) (b e : Nat) : Prop :=
  b ≤ e ∧ e ≤ nm.length ∧ listedF fi (nm.take b) = true ∧ lie ((nm.drop b).take (e - b)) = true ∧ listedF la (nm.drop e) = true

theorem cuts_spec (w : World) (fi la nm : Str) (t1 t2 t3 : Tok) (f : Addr) (Okf : Heap → Prop) (lie : List Nat → Bool) (hmono : ∀ h h' : Heap, (∀ b o, h.get? b = some o → h'.get? b = some o) → Okf h → Okf h')
    (hfn : ∀ h, Okf h → FnAt f h) (hlam : ∀ x t, x.length ≤ 1000 → PureCall w 8 f [.str x t] Okf (fun _ v _ => v = .bool (lie x.cps.toList)))
    (h1 : fi.length ≤ 1000) (hla : la.length ≤ 1000) (h3 : nm.length ≤ 1000) (hi : 73 ∉ nm.cps.toList) :
    PureCall w 24 68 [.str fi t1, .str la t2, .str nm t3, .ref f] Okf
      (fun _ v _ => ∃ r : Bool, v = .bool r ∧ (r = true ↔ ∃ b e, cutAt fi.cps.toList la.cps.toList nm.cps.toList lie b e)) := by
  w_top off
  (have kfl : (hd.heap_39 = hd.heap_39 ∧ PySem.Challenge.rw_or0015_01 = PySem.Challenge.rw_or0015_01) := by (k_fill; exact ⟨rfl, rfl⟩)); clear kfl;
  k_dflt (refine' pure_of (by decide) ?k6 ?k7 ?k9 ?kB ?c2 ?c3 ?c4 ?c5 ?_; (case k6 => k_is); (case k7 => k_is); (case k9 => (intro s; exact BindsTo.of_eq rfl)); (case kB => exact locs rfl); (case c2 => exact rfl); (case c3 => exact rfl); (case c4 => exact rfl); (case c5 => decide))
  intro p loose mean mg mb dp un gd cn cs L a ccd cl outer base s E L' h' hOk hd hu F' N' B' X' T'
  (try dsimp only)
  k_fold
  have hof : OrFn s.heap f := ⟨fun L h m F => hfn _ (hmono _ _ F.keep hOk)⟩
  k_steps
  rename Fr _ _ _ _ => lF'; rename News _ _ _ _ => lN'; rename IsRange _ _ _ _ _ _ _ _ => rg
  unfold Stop
  refine' or_range (σ := Unit) (n := nm.length + 1) (fun _ => []) (fun _ => [(Str.ofString "first", .str fi t1), (Str.ofString "last", .str la t2), (Str.ofString "name", .str nm t3), (Str.ofString "may_lie", .ref f)])
    (fun i _ => ∀ b e, b < i → ¬ cutAt fi.cps.toList la.cps.toList nm.cps.toList lie b e) () rfl rg ?g1 ?g2 lF' (fun q hq => nomatch hq) ?g3 ?g4 ?g5 ?g6
  case g3 => (repeat (first | exact List.forall_mem_nil _ | (refine List.forall_mem_cons.mpr ⟨by rfl, ?_⟩)))
  case g1 => exact small_one (by omega) (by omega) (by omega) (by omega)
  case g2 =>
    rw [rangeSize_nat]
    omega
  case g4 => exact fun b e hb => absurd hb (Nat.not_lt_zero _)
  case g5 =>
    rintro i t ⟨⟩ m₁ h tk own hin hP hoff hF hN
    change Fr s.heap L' h _ at hF
    change News s.heap L' h own at hN
    (try dsimp only at hF)
    clear lF' lN' rg
    k_fold
    k_steps
    unfold Stop
    k_dflt refine pure_use (listed_spec w fi (Txt.slice nm none (some (0 + (i : Int)))) t1 _ h1 (Nat.le_trans (Txt.slice_le _ _ _) h3) (fun q => hi (slice_mem q))) (by k_asm) (by k_asm) (by k_asm) (by k_asm) (by k_asm) rfl trivial (by ktr_room) (by ktr_units) ?_
    rintro v h2 tk2 F2 N2 - rfl
    (try dsimp only)
    (try k_fold)
    have z0 : (0 : Int) + (i : Int) = (i : Int) := Int.zero_add _
    simp only [z0]
    k_steps
    · rename Fr _ _ _ _ => lF'; rename News _ _ _ _ => lN'; rename IsRange _ _ _ _ _ _ _ _ => rg
      rename listedF _ _ = true => hfst
      have hil : i ≤ nm.length := by omega
      rw [slice_to hil] at hfst
      unfold Stop
      refine' or_range (σ := Unit) (n := nm.length + 1 - i) (fun _ => own) (fun _ => [(Str.ofString "first", .str fi t1), (Str.ofString "last", .str la t2), (Str.ofString "name", .str nm t3), (Str.ofString "may_lie", .ref f), (Str.ofString "begin", .int (0 + (i : Int)) t)])
        (fun j _ => ∀ e, e < i + j → ¬ cutAt fi.cps.toList la.cps.toList nm.cps.toList lie i e) () rfl rg ?k1 ?k2 lF' lN' ?k3 ?k4 ?k5 ?k6
      case k3 => (repeat (first | exact List.forall_mem_nil _ | (refine List.forall_mem_cons.mpr ⟨by rfl, ?_⟩)))
      case k1 => exact small_one (by omega) (by omega) (by omega) (by omega)
      case k2 =>
        rw [rangeSize_nat]
        omega
      case k4 => exact fun e he q => absurd q.1 (by omega)
      case k5 =>
        rintro j u ⟨⟩ m₂ h tk own2 hjn hP2 hoff2 hF hN
        change Fr s.heap L' h _ at hF
        change News s.heap L' h (own ++ own2) at hN
        (try dsimp only at hF)
        clear lF' lN' rg
        k_fold
        k_steps
        unfold Stop
        rename Fr s.heap L' _ _ => kF9
        k_dflt refine pure_use (hlam (Txt.slice nm (some (0 + (i : Int))) (some (0 + (i : Int) + (j : Int)))) _ (Nat.le_trans (Txt.slice_le _ _ _) h3)) (by k_asm) kF9 (by k_asm) (by k_asm) (by k_asm) rfl (hmono _ _ kF9.keep hOk) (by ktr_room) (by ktr_units) ?_
        rintro v h2 tk2 F2 N2 - rfl
        (try dsimp only)
        (try k_fold)
        k_steps
        · unfold Stop
          k_dflt refine pure_use (listed_spec w la (Txt.slice nm (some (0 + (i : Int) + (j : Int))) none) t2 _ hla (Nat.le_trans (Txt.slice_le _ _ _) h3) (fun q => hi (slice_mem q))) (by k_asm) (by k_asm) (by k_asm) (by k_asm) (by k_asm) rfl trivial (by ktr_room) (by ktr_units) ?_
          rintro v h4 tk4 F4 N4 - rfl
          (try dsimp only)
          (try k_fold)
          k_steps
          all_goals (rename Fr s.heap L' _ _ => fE; rename News s.heap L' _ _ => nE; have hij : i + j ≤ nm.length := by omega)
          · rename listedF la.cps.toList _ = true => hl1
            rename lie _ = true => hl2
            rw [mid_at hij] at hl2
            rw [from_at hij] at hl1
            exact or_end fE.keep ⟨true, rfl, fun _ => ⟨i, i + j, Nat.le_add_right _ _, by rw [← str_len]; exact hij, hfst, hl2, hl1⟩, fun _ => rfl⟩
          · rename listedF la.cps.toList _ = false => hl1
            rw [from_at hij] at hl1
            refine or_gend () fE nE (fun p hp => List.mem_append_left _ hp) (fun p hp => List.mem_append_right _ hp) hoff2 (by (repeat (first | exact List.forall_mem_nil _ | (refine List.forall_mem_cons.mpr ⟨by rfl, ?_⟩)))) (fun e he q => ?_)
            rcases Nat.lt_or_ge e (i + j) with he' | he'
            · exact hP2 e he' q
            · obtain rfl : e = i + j := by omega
              have := q.2.2.2.2
              rw [hl1] at this
              cases this
        · rename Fr s.heap L' _ _ => fE; rename News s.heap L' _ _ => nE
          have hij : i + j ≤ nm.length := by omega
          rename lie _ = false => hl1
          rw [mid_at hij] at hl1
          refine or_gend () fE nE (fun p hp => List.mem_append_left _ hp) (fun p hp => List.mem_append_right _ hp) hoff2 (by (repeat (first | exact List.forall_mem_nil _ | (refine List.forall_mem_cons.mpr ⟨by rfl, ?_⟩)))) (fun e he q => ?_)
          rcases Nat.lt_or_ge e (i + j) with he' | he'
          · exact hP2 e he' q
          · obtain rfl : e = i + j := by omega
            have := q.2.2.2.1
            rw [hl1] at this
            cases this
      case k6 =>
        rintro ⟨⟩ m₂ h tk hP2 hF hN
        change Fr s.heap L' h _ at hF
        change News s.heap L' h own at hN
        (try dsimp only at hF)
        clear lF' lN' rg
        (try k_fold)
        k_steps
        rename Fr s.heap L' _ _ => fE; rename News s.heap L' _ _ => nE
        refine or_gend () fE nE (fun p hp => nomatch hp) (fun p hp => hp) hoff (by (repeat (first | exact List.forall_mem_nil _ | (refine List.forall_mem_cons.mpr ⟨by rfl, ?_⟩)))) (fun b e hb q => ?_)
        rcases Nat.lt_or_ge b i with hb' | hb'
        · exact hP b e hb' q
        · obtain rfl : b = i := by omega
          exact hP2 e (by have := q.2.1; rw [← str_len] at this; omega) q
    · rename Fr s.heap L' _ _ => fE; rename News s.heap L' _ _ => nE
      rename listedF _ _ = false => hfst
      have hil : i ≤ nm.length := by omega
      rw [slice_to hil] at hfst
      refine or_gend () fE nE (fun p hp => nomatch hp) (fun p hp => hp) hoff (by (repeat (first | exact List.forall_mem_nil _ | (refine List.forall_mem_cons.mpr ⟨by rfl, ?_⟩)))) (fun b e hb q => ?_)
      rcases Nat.lt_or_ge b i with hb' | hb'
      · exact hP b e hb' q
      · obtain rfl : b = i := by omega
        have := q.2.2.1
        rw [hfst] at this
        cases this
  case g6 =>
    rintro ⟨⟩ m₁ h tk hP hF hN
    change Fr s.heap L' h _ at hF
    change News s.heap L' h [] at hN
    (try dsimp only at hF)
    clear lF' lN' rg
    (try k_fold)
    k_steps
    rename Fr s.heap L' _ _ => fE
    exact or_end fE.keep ⟨false, rfl, fun q => (nomatch q), fun ⟨b, e, q⟩ => absurd q (hP b e (by have := q.1; have := q.2.1; rw [str_len]; omega))⟩
end OrLaw

namespace OrLaw
open PySem PySem.Spec PySem.Calls PyProof.Rows PySem.W
set_option maxRecDepth 100000

/-- what a pattern meets: 42 the star, 37 the per cent sign, 47 the delimiter -/
def Meets : List Nat → List Nat → Prop
  | [], n => n = []
  | c :: p, n => if c = 42 then ∃ u v, n = u ++ v ∧ Meets p v else if c = 37 then ∃ u v, n = u ++ v ∧ 47 ∉ u ∧ Meets p v else ∃ v, n = c :: v ∧ Meets p v
theorem m_star {p n : List Nat} : Meets (42 :: p) n ↔ ∃ u v, n = u ++ v ∧ Meets p v := by
  rw [Meets, if_pos rfl]
theorem m_pct {p n : List Nat} : Meets (37 :: p) n ↔ ∃ u v, n = u ++ v ∧ 47 ∉ u ∧ Meets p v := by
  rw [Meets, if_neg (by decide), if_pos rfl]
theorem m_lit {c : Nat} {p n : List Nat} (h1 : c ≠ 42) (h2 : c ≠ 37) : Meets (c :: p) n ↔ ∃ v, n = c :: v ∧ Meets p v := by
  rw [Meets, if_neg h1, if_neg h2]
theorem m_nil {n : List Nat} : Meets [] n ↔ n = [] := Iff.rfl

theorem m_append (q : List Nat) : ∀ (p n : List Nat), Meets (p ++ q) n ↔ ∃ u v, n = u ++ v ∧ Meets p u ∧ Meets q v := by
  intro p
  induction p with
  | nil =>
    intro n
    constructor
    · intro h; exact ⟨[], n, rfl, rfl, h⟩
    · rintro ⟨u, v, rfl, hu, hv⟩
      rw [m_nil] at hu
      subst hu
      exact hv
  | cons c p ih =>
    intro n
    rw [List.cons_append]
    by_cases h1 : c = 42
    · subst h1
      rw [m_star]
      constructor
      · rintro ⟨a, b, rfl, hb⟩
        obtain ⟨u, v, rfl, hu, hv⟩ := (ih b).mp hb
        exact ⟨a ++ u, v, (List.append_assoc _ _ _).symm, m_star.mpr ⟨a, u, rfl, hu⟩, hv⟩
      · rintro ⟨u, v, rfl, hu, hv⟩
        obtain ⟨a, b, rfl, hb⟩ := m_star.mp hu
        exact ⟨a, b ++ v, List.append_assoc _ _ _, (ih _).mpr ⟨b, v, rfl, hb, hv⟩⟩
    · by_cases h2 : c = 37
      · subst h2
        rw [m_pct]
        constructor
        · rintro ⟨a, b, rfl, ha, hb⟩
          obtain ⟨u, v, rfl, hu, hv⟩ := (ih b).mp hb
          exact ⟨a ++ u, v, (List.append_assoc _ _ _).symm, m_pct.mpr ⟨a, u, rfl, ha, hu⟩, hv⟩
        · rintro ⟨u, v, rfl, hu, hv⟩
          obtain ⟨a, b, rfl, ha, hb⟩ := m_pct.mp hu
          exact ⟨a, b ++ v, List.append_assoc _ _ _, ha, (ih _).mpr ⟨b, v, rfl, hb, hv⟩⟩
      · rw [m_lit h1 h2]
        constructor
        · rintro ⟨b, rfl, hb⟩
          obtain ⟨u, v, rfl, hu, hv⟩ := (ih b).mp hb
          exact ⟨c :: u, v, rfl, (m_lit h1 h2).mpr ⟨u, rfl, hu⟩, hv⟩
        · rintro ⟨u, v, rfl, hu, hv⟩
          obtain ⟨b, rfl, hb⟩ := (m_lit h1 h2).mp hu
          exact ⟨b ++ v, rfl, (ih _).mpr ⟨b, v, rfl, hb, hv⟩⟩

theorem drop_at {p : List Nat} {x w : Nat} (h : p[x]? = some w) : p.drop x = w :: p.drop (x + 1) := by
  obtain ⟨hx, e⟩ := List.getElem?_eq_some_iff.mp h
  rw [List.drop_eq_getElem_cons hx, e]
theorem drop_out {p : List Nat} {x : Nat} (h : p[x]? = none) : p.drop x = [] := List.drop_eq_nil_of_le (List.getElem?_eq_none_iff.mp h)
theorem wild_is {p : List Nat} {x w : Nat} (h : p[x]? = some w) : wildAt p x = true ↔ w = 37 ∨ w = 42 := by
  unfold wildAt; rw [h]; simp
theorem wild_some {p : List Nat} {x : Nat} (h : wildAt p x = true) : ∃ w, p[x]? = some w ∧ (w = 37 ∨ w = 42) := by
  have := wildAt_lt h
  have e : p[x]? = some p[x] := List.getElem?_eq_getElem this
  exact ⟨_, e, (wild_is e).mp h⟩
theorem m_skip {p n : List Nat} {x : Nat} (h : wildAt p x = true) (hm : Meets (p.drop (x + 1)) n) : Meets (p.drop x) n := by
  obtain ⟨w, e, hw⟩ := wild_some h
  rw [drop_at e]
  rcases hw with rfl | rfl
  · exact m_pct.mpr ⟨[], n, rfl, by simp, hm⟩
  · exact m_star.mpr ⟨[], n, rfl, hm⟩

theorem m_cons {p n : List Nat} {c x : Nat} : Meets (p.drop x) (c :: n) ↔ (∃ y, headOf p c x = some y ∧ Meets (p.drop y) n) ∨ (wildAt p x = true ∧ Meets (p.drop (x + 1)) (c :: n)) := by
  cases e : p[x]? with
  | none =>
    rw [drop_out e]
    unfold headOf
    rw [e]
    constructor
    · intro h; rw [m_nil] at h; cases h
    · rintro (⟨y, h, _⟩ | ⟨h, _⟩)
      · cases h
      · obtain ⟨w, e', _⟩ := wild_some h
        rw [e] at e'; cases e'
  | some w =>
    have ed := drop_at e
    have ew := wild_is e
    unfold headOf
    rw [e]
    dsimp only
    by_cases h1 : w = 42
    · subst h1
      rw [if_pos (Or.inl rfl), ed]
      constructor
      · intro h
        obtain ⟨u, v, q, hv⟩ := m_star.mp h
        cases u with
        | nil => cases q; exact .inr ⟨ew.mpr (.inr rfl), hv⟩
        | cons a u => cases q; exact .inl ⟨x, rfl, by rw [ed]; exact m_star.mpr ⟨u, v, rfl, hv⟩⟩
      · rintro (⟨y, hy, hm⟩ | ⟨_, hm⟩)
        · cases hy
          rw [ed] at hm
          obtain ⟨u, v, rfl, hv⟩ := m_star.mp hm
          exact m_star.mpr ⟨c :: u, v, rfl, hv⟩
        · exact m_star.mpr ⟨[], _, rfl, hm⟩
    · by_cases h2 : w = 37
      · subst h2
        by_cases h3 : c = 47
        · subst h3
          rw [if_neg (by simp), if_neg (by simp), ed]
          constructor
          · intro h
            obtain ⟨u, v, q, hu, hv⟩ := m_pct.mp h
            cases u with
            | nil => cases q; exact .inr ⟨ew.mpr (.inl rfl), hv⟩
            | cons a u => cases q; exact absurd (List.mem_cons_self) hu
          · rintro (⟨y, hy, hm⟩ | ⟨_, hm⟩)
            · cases hy
            · exact m_pct.mpr ⟨[], _, rfl, by simp, hm⟩
        · rw [if_pos (Or.inr ⟨rfl, h3⟩), ed]
          constructor
          · intro h
            obtain ⟨u, v, q, hu, hv⟩ := m_pct.mp h
            cases u with
            | nil => cases q; exact .inr ⟨ew.mpr (.inl rfl), hv⟩
            | cons a u => cases q; exact .inl ⟨x, rfl, by rw [ed]; exact m_pct.mpr ⟨u, v, rfl, fun z => hu (.tail _ z), hv⟩⟩
          · rintro (⟨y, hy, hm⟩ | ⟨_, hm⟩)
            · cases hy
              rw [ed] at hm
              obtain ⟨u, v, rfl, hu, hv⟩ := m_pct.mp hm
              refine m_pct.mpr ⟨c :: u, v, rfl, fun z => ?_, hv⟩
              rcases List.mem_cons.mp z with z | z
              · exact h3 z.symm
              · exact hu z
            · exact m_pct.mpr ⟨[], _, rfl, by simp, hm⟩
      · rw [if_neg (by simp [h1, h2]), ed, m_lit h1 h2]
        constructor
        · rintro ⟨v, q, hv⟩
          cases q
          exact .inl ⟨x + 1, by simp [h2], hv⟩
        · rintro (⟨y, hy, hm⟩ | ⟨hw, _⟩)
          · split at hy
            · rename_i q
              cases hy
              obtain ⟨_, rfl⟩ := q
              exact ⟨n, rfl, hm⟩
            · cases hy
          · exact absurd (ew.mp hw) (by rintro (z | z); exact h2 z; exact h1 z)

def Closed (p ps : List Nat) : Prop := ∀ x ∈ ps, wildAt p x = true → x + 1 ∈ ps
theorem step_acc {p ps n : List Nat} {c : Nat} (hc : Closed p ps) : (∃ x ∈ ps, Meets (p.drop x) (c :: n)) ↔ ∃ y ∈ ps.filterMap (headOf p c), Meets (p.drop y) n := by
  constructor
  · rintro ⟨x, hx, hm⟩
    induction h : p.length - x using Nat.strongRecOn generalizing x with
    | _ k ih =>
      rcases m_cons.mp hm with ⟨y, hy, hm'⟩ | ⟨hw, hm'⟩
      · exact ⟨y, List.mem_filterMap.mpr ⟨x, hx, hy⟩, hm'⟩
      · have := wildAt_lt hw
        exact ih (p.length - (x + 1)) (by omega) (x + 1) (hc x hx hw) hm' rfl
  · rintro ⟨y, hy, hm⟩
    obtain ⟨x, hx, e⟩ := List.mem_filterMap.mp hy
    exact ⟨x, hx, m_cons.mpr (.inl ⟨y, e, hm⟩)⟩
theorem end_acc {p ps : List Nat} (hc : Closed p ps) (hle : ∀ x ∈ ps, x ≤ p.length) : (∃ x ∈ ps, Meets (p.drop x) []) ↔ p.length ∈ ps := by
  constructor
  · rintro ⟨x, hx, hm⟩
    induction h : p.length - x using Nat.strongRecOn generalizing x with
    | _ k ih =>
      cases e : p[x]? with
      | none =>
        have := List.getElem?_eq_none_iff.mp e
        have h2 := hle x hx
        have : x = p.length := by omega
        exact this ▸ hx
      | some w =>
        have hlt := (List.getElem?_eq_some_iff.mp e).1
        rw [drop_at e] at hm
        by_cases h1 : w = 42
        · subst h1
          obtain ⟨u, v, q, hv⟩ := m_star.mp hm
          obtain ⟨rfl, rfl⟩ := List.append_eq_nil_iff.mp q.symm
          exact ih (p.length - (x + 1)) (by omega) (x + 1) (hc x hx ((wild_is e).mpr (.inr rfl))) hv rfl
        · by_cases h2 : w = 37
          · subst h2
            obtain ⟨u, v, q, _, hv⟩ := m_pct.mp hm
            obtain ⟨rfl, rfl⟩ := List.append_eq_nil_iff.mp q.symm
            exact ih (p.length - (x + 1)) (by omega) (x + 1) (hc x hx ((wild_is e).mpr (.inl rfl))) hv rfl
          · obtain ⟨v, q, _⟩ := (m_lit h1 h2).mp hm
            cases q
  · intro h
    exact ⟨p.length, h, by rw [List.drop_length]; rfl⟩

theorem climb_self (p : List Nat) (x : Nat) : x ∈ climb p x := by
  cases h : wildAt p x with
  | true => rw [climb_wild h]; exact .head _
  | false => rw [climb_plain h]; exact .head _
theorem climb_all {p : List Nat} : ∀ (k x : Nat), p.length - x = k → (∀ y ∈ climb p x, x ≤ y) ∧ (climb p x).Pairwise (· < ·) ∧ Closed p (climb p x) ∧ (∀ y ∈ climb p x, ∀ z, x ≤ z → z ≤ y → z ∈ climb p x) ∧
    ∀ n, ∀ y ∈ climb p x, Meets (p.drop y) n → Meets (p.drop x) n := by
  intro k
  induction k using Nat.strongRecOn with
  | _ k ih =>
    intro x hk
    cases h : wildAt p x with
    | true =>
      have hl := wildAt_lt h
      obtain ⟨a1, a2, a3, a4, a5⟩ := ih (p.length - (x + 1)) (by omega) (x + 1) rfl
      rw [climb_wild h]
      refine ⟨fun y hy => ?_, ?_, fun y hy hw => ?_, fun y hy z h1 h2 => ?_, fun n y hy hm => ?_⟩
      · rcases List.mem_cons.mp hy with rfl | hy
        · exact Nat.le_refl _
        · have := a1 y hy; omega
      · exact List.pairwise_cons.mpr ⟨fun y hy => a1 y hy, a2⟩
      · rcases List.mem_cons.mp hy with rfl | hy
        · exact .tail _ (climb_self _ _)
        · exact .tail _ (a3 y hy hw)
      · rcases Nat.eq_or_lt_of_le h1 with rfl | h1
        · exact .head _
        · rcases List.mem_cons.mp hy with rfl | hy
          · omega
          · exact .tail _ (a4 y hy z h1 h2)
      · rcases List.mem_cons.mp hy with rfl | hy
        · exact hm
        · exact m_skip h (a5 n y hy hm)
    | false =>
      rw [climb_plain h]
      refine ⟨fun y hy => ?_, List.pairwise_singleton _ _, fun y hy hw => ?_, fun y hy z h1 h2 => ?_, fun n y hy hm => ?_⟩
      · rw [List.mem_singleton.mp hy]; exact Nat.le_refl _
      · rw [List.mem_singleton.mp hy, h] at hw; cases hw
      · rw [List.mem_singleton.mp hy] at h2
        rw [Nat.le_antisymm h2 h1]; exact .head _
      · rw [List.mem_singleton.mp hy] at hm; exact hm

theorem pw_last {acc : List Nat} {l : Nat} (h : acc.Pairwise (· < ·)) (e : acc.getLast? = some l) : ∀ y ∈ acc, y ≤ l := by
  obtain ⟨ys, rfl⟩ := List.getLast?_eq_some_iff.mp e
  intro y hy
  rcases List.mem_append.mp hy with hy | hy
  · exact Nat.le_of_lt ((List.pairwise_append.mp h).2.2 y hy l (.head _))
  · rw [List.mem_singleton.mp hy]; exact Nat.le_refl _
theorem below_all {acc : List Nat} {x : Nat} (h : acc.Pairwise (· < ·)) (hb : below acc x = true) : ∀ y ∈ acc, y < x := by
  unfold below at hb
  intro y hy
  cases e : acc.getLast? with
  | none => rw [List.getLast?_eq_none_iff.mp e] at hy; cases hy
  | some l =>
    rw [e] at hb
    simp only [decide_eq_true_eq] at hb
    exact Nat.lt_of_le_of_lt (pw_last h e y hy) hb
theorem not_below_last {acc : List Nat} {x : Nat} (hb : ¬ below acc x = true) : ∃ l, acc.getLast? = some l ∧ x ≤ l := by
  unfold below at hb
  cases e : acc.getLast? with
  | none => rw [e] at hb; exact absurd rfl hb
  | some l =>
    rw [e] at hb
    simp only [decide_eq_true_eq] at hb
    exact ⟨l, rfl, by omega⟩
theorem addHead_keeps {p acc : List Nat} {x : Nat} (h1 : acc.Pairwise (· < ·)) (h2 : Closed p acc) : (addHead p acc x).Pairwise (· < ·) ∧ Closed p (addHead p acc x) := by
  unfold addHead
  split
  · rename_i hb
    obtain ⟨a1, a2, a3, _⟩ := climb_all (p := p) _ x rfl
    refine ⟨List.pairwise_append.mpr ⟨h1, a2, fun a ha b hb' => Nat.lt_of_lt_of_le (below_all h1 hb a ha) (a1 b hb')⟩, fun y hy hw => ?_⟩
    rcases List.mem_append.mp hy with hy | hy
    · exact List.mem_append_left _ (h2 y hy hw)
    · exact List.mem_append_right _ (a3 y hy hw)
  · exact ⟨h1, h2⟩
theorem fold_keeps {p : List Nat} : ∀ (hs acc : List Nat), acc.Pairwise (· < ·) → Closed p acc → (hs.foldl (addHead p) acc).Pairwise (· < ·) ∧ Closed p (hs.foldl (addHead p) acc) := by
  intro hs
  induction hs with
  | nil => intro acc h1 h2; exact ⟨h1, h2⟩
  | cons x hs ih => intro acc h1 h2; exact ih _ (addHead_keeps h1 h2).1 (addHead_keeps h1 h2).2
theorem fold_mono {p : List Nat} : ∀ (hs acc : List Nat), ∀ y ∈ acc, y ∈ hs.foldl (addHead p) acc := by
  intro hs
  induction hs with
  | nil => intro acc y hy; exact hy
  | cons x hs ih =>
    intro acc y hy
    refine ih _ y ?_
    unfold addHead
    split
    · exact List.mem_append_left _ hy
    · exact hy
def Full (acc : List Nat) (k : Nat) : Prop := ∀ l, acc.getLast? = some l → ∀ y, k ≤ y → y ≤ l → y ∈ acc
theorem fold_has {p : List Nat} : ∀ (hs acc : List Nat) (k : Nat), Full acc k → (∀ h ∈ hs, k ≤ h) → hs.Pairwise (· ≤ ·) → ∀ h ∈ hs, h ∈ hs.foldl (addHead p) acc := by
  intro hs
  induction hs with
  | nil => intro acc k _ _ _ h hh; cases hh
  | cons x hs ih =>
    intro acc k hf hk hp
    obtain ⟨hx, hp'⟩ := List.pairwise_cons.mp hp
    have hkx := hk x (.head _)
    have key : x ∈ addHead p acc x ∧ Full (addHead p acc x) x := by
      unfold addHead
      split
      · obtain ⟨_, _, _, a4, _⟩ := climb_all (p := p) _ x rfl
        refine ⟨List.mem_append_right _ (climb_self _ _), fun l hl y h1 h2 => List.mem_append_right _ (a4 l ?_ y h1 h2)⟩
        obtain ⟨c0, c1, hc⟩ : ∃ c0 c1, climb p x = c0 ++ [c1] := by
          rcases List.eq_nil_or_concat (climb p x) with z | ⟨a, b, z⟩
          · have := climb_self p x; rw [z] at this; cases this
          · exact ⟨a, b, by rw [z, List.concat_eq_append]⟩
        rw [hc, ← List.append_assoc, List.getLast?_append] at hl
        have : c1 = l := by simpa using hl
        rw [hc, this]
        exact List.mem_append_right _ (.head _)
      · rename_i hb
        obtain ⟨l, hl, hxl⟩ := not_below_last hb
        exact ⟨hf l hl x hkx hxl, fun l' hl' y h1 h2 => hf l' hl' y (Nat.le_trans hkx h1) h2⟩
    intro h hh
    rcases List.mem_cons.mp hh with rfl | hh
    · exact fold_mono hs _ _ key.1
    · exact ih _ x key.2 hx hp' h hh
theorem fold_from {p : List Nat} : ∀ (hs acc : List Nat), ∀ y ∈ hs.foldl (addHead p) acc, y ∈ acc ∨ ∃ x ∈ hs, y ∈ climb p x := by
  intro hs
  induction hs with
  | nil => intro acc y hy; exact .inl hy
  | cons x hs ih =>
    intro acc y hy
    rcases ih _ y hy with h | ⟨z, hz, h⟩
    · unfold addHead at h
      split at h
      · rcases List.mem_append.mp h with h | h
        · exact .inl h
        · exact .inr ⟨x, .head _, h⟩
      · exact .inl h
    · exact .inr ⟨z, .tail _ hz, h⟩
theorem opened_acc {p hs n : List Nat} (hp : hs.Pairwise (· ≤ ·)) : (∃ x ∈ openedF p hs, Meets (p.drop x) n) ↔ ∃ x ∈ hs, Meets (p.drop x) n := by
  constructor
  · rintro ⟨y, hy, hm⟩
    rcases fold_from hs [] y hy with h | ⟨x, hx, h⟩
    · cases h
    · exact ⟨x, hx, (climb_all (p := p) _ x rfl).2.2.2.2 n y h hm⟩
  · rintro ⟨x, hx, hm⟩
    exact ⟨x, fold_has hs [] 0 (fun l h => by cases h) (fun _ _ => Nat.zero_le _) hp x hx, hm⟩
theorem opened_good {p hs : List Nat} : (openedF p hs).Pairwise (· < ·) ∧ Closed p (openedF p hs) := fold_keeps hs [] .nil (fun _ h => nomatch h)

theorem headOf_range {p : List Nat} {c x y : Nat} (h : headOf p c x = some y) : x ≤ y ∧ y ≤ x + 1 := by
  unfold headOf at h
  split at h
  · cases h
  · split at h
    · cases h; omega
    · split at h
      · cases h; omega
      · cases h
theorem heads_sorted {p : List Nat} {c : Nat} : ∀ {ps : List Nat}, ps.Pairwise (· < ·) → (ps.filterMap (headOf p c)).Pairwise (· ≤ ·) := by
  intro ps h
  refine List.Pairwise.filterMap (headOf p c) (R := (· < ·)) (S := (· ≤ ·)) ?_ h
  intro a a' haa b hb b' hb'
  have h1 := headOf_range hb
  have h2 := headOf_range hb'
  omega
theorem last_iff {ps : List Nat} {k : Nat} (h : ps.Pairwise (· < ·)) (hle : ∀ x ∈ ps, x ≤ k) : k ∈ ps ↔ ps.getLast? = some k := by
  constructor
  · intro hk
    cases e : ps.getLast? with
    | none => rw [List.getLast?_eq_none_iff.mp e] at hk; cases hk
    | some l =>
      have h1 := pw_last h e k hk
      obtain ⟨ys, e2⟩ := List.getLast?_eq_some_iff.mp e
      have h2 := hle l (by rw [e2]; exact List.mem_append_right _ (.head _))
      rw [Nat.le_antisymm h2 h1]
  · intro e
    obtain ⟨ys, e2⟩ := List.getLast?_eq_some_iff.mp e
    rw [e2]; exact List.mem_append_right _ (.head _)
theorem run_acc {p : List Nat} : ∀ (n ps : List Nat), ps.Pairwise (· < ·) → Closed p ps → (∀ x ∈ ps, x ≤ p.length) → ((n.foldl (stepF p) ps).getLast? = some p.length ↔ ∃ x ∈ ps, Meets (p.drop x) n) := by
  intro n
  induction n with
  | nil =>
    intro ps h1 h2 h3
    rw [List.foldl_nil, ← last_iff h1 h3, end_acc h2 h3]
  | cons c n ih =>
    intro ps h1 h2 h3
    rw [List.foldl_cons]
    have g := opened_good (p := p) (hs := ps.filterMap (headOf p c))
    rw [step_acc h2, ← opened_acc (heads_sorted h1)]
    exact ih _ g.1 g.2 (opened_le heads_le)
theorem listed_iff (p n : List Nat) : listedF p n = true ↔ Meets p n := by
  unfold listedF runF
  rw [beq_iff_eq, run_acc n _ opened_good.1 opened_good.2 (opened_le fun y hy => by rw [List.mem_singleton.mp hy]; exact Nat.zero_le _), opened_acc (List.pairwise_singleton _ _)]
  constructor
  · rintro ⟨x, hx, hm⟩
    rw [List.mem_singleton.mp hx] at hm
    exact hm
  · intro hm
    exact ⟨0, .head _, hm⟩

theorem cuts_iff {f l n : List Nat} {lie : List Nat → Bool} : (∃ b e, cutAt f l n lie b e) ↔ ∃ u m v, n = u ++ (m ++ v) ∧ Meets f u ∧ lie m = true ∧ Meets l v := by
  constructor
  · rintro ⟨b, e, h1, h2, h3, h4, h5⟩
    refine ⟨n.take b, (n.drop b).take (e - b), n.drop e, ?_, (listed_iff _ _).mp h3, h4, (listed_iff _ _).mp h5⟩
    have : n.drop e = (n.drop b).drop (e - b) := by rw [List.drop_drop]; congr 1; omega
    rw [this, List.take_append_drop, List.take_append_drop]
  · rintro ⟨u, m, v, rfl, h1, h2, h3⟩
    refine ⟨u.length, u.length + m.length, Nat.le_add_right _ _, by simp only [List.length_append]; omega, ?_, ?_, ?_⟩
    · rw [List.take_left']
      · exact (listed_iff _ _).mpr h1
      · rfl
    · rw [List.drop_left' rfl, Nat.add_sub_cancel_left, List.take_left' rfl]
      exact h2
    · rw [← List.append_assoc, List.drop_left' (by simp)]
      exact (listed_iff _ _).mpr h3
theorem law_plain (f l n : List Nat) : listedF (f ++ l) n = true ↔ ∃ b e, cutAt f l n (fun m => m == []) b e := by
  rw [listed_iff, cuts_iff, m_append]
  constructor
  · rintro ⟨u, v, rfl, h1, h2⟩
    exact ⟨u, [], v, rfl, h1, rfl, h2⟩
  · rintro ⟨u, m, v, rfl, h1, hm, h2⟩
    rw [beq_iff_eq] at hm
    subst hm
    exact ⟨u, v, rfl, h1, h2⟩
theorem law_star (f l n : List Nat) : listedF (f ++ [42] ++ l) n = true ↔ ∃ b e, cutAt f l n (fun _ => true) b e := by
  rw [listed_iff, cuts_iff, List.append_assoc, m_append]
  constructor
  · rintro ⟨u, v, rfl, h1, h2⟩
    obtain ⟨a, b, rfl, hb⟩ := m_star.mp h2
    exact ⟨u, a, b, rfl, h1, rfl, hb⟩
  · rintro ⟨u, m, v, rfl, h1, _, h2⟩
    exact ⟨u, m ++ v, rfl, h1, m_star.mpr ⟨m, v, rfl, h2⟩⟩
theorem law_pct (f l n : List Nat) : listedF (f ++ [37] ++ l) n = true ↔ ∃ b e, cutAt f l n (fun m => !m.contains 47) b e := by
  rw [listed_iff, cuts_iff, List.append_assoc, m_append]
  constructor
  · rintro ⟨u, v, rfl, h1, h2⟩
    obtain ⟨a, b, rfl, ha, hb⟩ := m_pct.mp h2
    exact ⟨u, a, b, rfl, h1, by simpa using ha, hb⟩
  · rintro ⟨u, m, v, rfl, h1, hm, h2⟩
    exact ⟨u, m ++ v, rfl, h1, m_pct.mpr ⟨m, v, rfl, by simpa using hm, h2⟩⟩
theorem m_self : ∀ (n : List Nat), 42 ∉ n → 37 ∉ n → ∀ k, Meets n k ↔ k = n := by
  intro n
  induction n with
  | nil => intro _ _ k; exact Iff.rfl
  | cons c n ih =>
    intro h1 h2 k
    rw [m_lit (fun z => h1 (z ▸ .head _)) (fun z => h2 (z ▸ .head _))]
    constructor
    · rintro ⟨v, rfl, hv⟩
      rw [(ih (fun z => h1 (.tail _ z)) (fun z => h2 (.tail _ z)) v).mp hv]
    · rintro rfl
      exact ⟨n, rfl, (ih (fun z => h1 (.tail _ z)) (fun z => h2 (.tail _ z)) n).mpr rfl⟩
end OrLaw

namespace OrLaw
open PySem PySem.Spec PySem.Calls PyProof.Rows PySem.W
set_option maxRecDepth 100000
set_option maxHeartbeats 4000000

theorem among_snoc {pos : Pos} {a b : Int} {c cv : Value} (l : List Value) (h : TriplesOk l) (e : codeAmong pos (l ++ [rawInt a, rawInt b, c]) = some cv) : codeAmong pos l = some cv ∨ cv = c := by
  fun_induction TriplesOk l with
  | case1 =>
    simp only [List.nil_append, codeAmong, rawInt] at e
    split at e
    · cases e; exact .inr rfl
    · cases e
  | case2 a' t b' u x rest ih =>
    simp only [List.cons_append, codeAmong] at e ⊢
    split at e
    · rename_i q; rw [if_pos q]; exact .inl e
    · rename_i q; rw [if_neg q]; exact ih h e
  | case3 l h1 h2 => exact h.elim

def CodeObj (oc : Obj) (q : Str) : Prop := ∃ vs t, oc.data = .fields vs ∧ vs[1]? = some (.str q t)
/-- the table of the lambdas' code objects, with the ledger's codes -/
def TabL (g : Heap) (ps₀ ps : Array Value) (codes : List (Addr × Obj)) (q : Str) : Prop :=
  TriplesOk ps.toList ∧ (∀ p ∈ codes, p.1 ≠ 70) ∧ ∀ pos cv, codeAmong pos ps.toList = some cv → ∃ c : Addr, cv = .ref c ∧ ((∃ oc, (c, oc) ∈ codes ∧ CodeObj oc q) ∨ (g.CodeRec (.ref c) q ∧ ∃ pos', codeAmong pos' ps₀.toList = some cv))
def TabC (h : Heap) (ps : Array Value) (q : Str) : Prop :=
  TriplesOk ps.toList ∧ h.get? 70 = some (tabObj ps) ∧ ∀ pos cv, codeAmong pos ps.toList = some cv → ∃ c : Addr, cv = .ref c ∧ c ≠ 70 ∧ h.CodeRec (.ref c) q

theorem tabL_of {h : Heap} {ps : Array Value} {q : Str} (x : TabC h ps q) : TabL (hideAll h [70]) ps ps [] q := by
  refine ⟨x.1, fun p hp => (nomatch hp), fun pos cv e => ?_⟩
  obtain ⟨c, rfl, hc, c2, o, vs, t, e2, g, d, v⟩ := x.2.2 pos cv e
  cases e2
  exact ⟨c, rfl, .inr ⟨⟨c, o, vs, t, rfl, hideAll_get _ g (by simpa using hc), d, v⟩, pos, e⟩⟩
theorem tabC_of {g h : Heap} {L : Addr} {m : Str → Option Value} {ps₀ ps : Array Value} {codes : List (Addr × Obj)} {q : Str} (F : Fr g L h m) (N : News g L h ((70, tabObj ps) :: codes)) (x : TabL g ps₀ ps codes q) : TabC h ps q := by
  have n0 := N _ (.head _)
  refine ⟨x.1, n0.1, fun pos cv e => ?_⟩
  obtain ⟨c, rfl, h1⟩ := x.2.2 pos cv e
  rcases h1 with ⟨oc, hm, vs, t, d, v⟩ | ⟨⟨c2, o, vs, t, e2, hg, d, v⟩, _⟩
  · exact ⟨c, rfl, x.2.1 _ hm, c, oc, vs, t, rfl, (N _ (.tail _ hm)).1, d, v⟩
  · cases e2
    refine ⟨c, rfl, fun q => ?_, c, o, vs, t, rfl, F.keep _ _ hg, d, v⟩
    have : g.get? 70 = none := n0.2.2
    rw [← q, hg] at this; cases this

section
variable {M : Model} {A : Around} {E : Value → Shared → Prop} {s : Shared} {g : Heap} {L a : Addr} {m mg mb : Str → Option Value} {cn : Str} {cs : Scope} {cl : List (Str × Addr)} {codes : List (Addr × Obj)}
  {p : Program} {loose : List Str} {mean : ExcName → Option Value} {params : Arguments} {body : Expr} {scope : Scope} {ps₀ ps : Array Value} {pos : Pos} {Q : Value → Shared → Prop}
theorem or_lam (F : Fr g L s.heap m) (N : News g L s.heap ((70, tabObj ps) :: codes)) (T : Top p loose mean mg mb g) (C : CodeHd g 74 70)
    (hdef : defaultsOf params (envX cn cs L a (.ref 74) cl) = ([], [])) (hcl : closureFor scope (envX cn cs L a (.ref 74) cl) = pure [])
    (TL : TabL g ps₀ ps codes ((envX cn cs L a (.ref 74) cl).qual ++ "<lambda>"))
    (h : ∀ f c' ctv h' tk ps' codes', Fr g L h' m → News g L h' ((70, tabObj ps') :: codes') → TabL g ps₀ ps' codes' ((envX cn cs L a (.ref 74) cl).qual ++ "<lambda>") →
      (f, kla_obj "<lambda>" ((envX cn cs L a (.ref 74) cl).qual ++ "<lambda>") params body scope [] ((mg "__name__").getD .none) c' ctv) ∈ codes' → h'.CodeRec (.ref c') ((envX cn cs L a (.ref 74) cl).qual ++ "<lambda>") → Q (.ref f) { s with heap := h', toks := tk }) :
    wpAny M A (eval (.Lambda params body scope pos) (envX cn cs L a (.ref 74) cl)) Q E s := by
  refine kla_eval hdef ?_
  cases e : codeAmong pos ps.toList with
  | none =>
    refine kla_nest F N T C rfl (UpdF.head TL.2.1) TL.1 e hcl (fun f c' oc vs t ctv h' tk F' N' d1 d2 l1 l2 => ?_)
    have l70 : (70 : Nat) < c' := l1 _ (.head _)
    have N2 : News g L h' ((70, tabObj (ps ++ #[rawInt pos.line, rawInt pos.col, .ref c'])) :: (f, kla_obj "<lambda>" ((envX cn cs L a (.ref 74) cl).qual ++ "<lambda>") params body scope [] ((mg "__name__").getD .none) c' ctv) :: (c', oc) :: codes) := fun q hq => by
      rcases List.mem_cons.mp hq with rfl | hq
      · exact N' _ (.tail _ (.tail _ (.head _)))
      · rcases List.mem_cons.mp hq with rfl | hq
        · exact N' _ (.head _)
        · rcases List.mem_cons.mp hq with rfl | hq
          · exact N' _ (.tail _ (.head _))
          · exact N' _ (.tail _ (.tail _ (.tail _ hq)))
    refine h f c' ctv h' tk _ _ F' N2 ⟨?_, ?_, fun pos' cv e' => ?_⟩ (.head _) ⟨c', oc, vs, t, rfl, (N2 _ (.tail _ (.tail _ (.head _)))).1, d1, d2⟩
    · rw [Array.toList_append]
      exact TriplesOk_snoc _ _ _ _ TL.1
    · intro q hq
      rcases List.mem_cons.mp hq with rfl | hq
      · exact Nat.ne_of_gt (Nat.lt_trans l70 l2)
      · rcases List.mem_cons.mp hq with rfl | hq
        · exact Nat.ne_of_gt l70
        · exact TL.2.1 q hq
    · rw [Array.toList_append] at e'
      rcases among_snoc _ TL.1 e' with e' | rfl
      · obtain ⟨c, rfl, hc⟩ := TL.2.2 pos' cv e'
        refine ⟨c, rfl, ?_⟩
        rcases hc with ⟨o, ho, hx⟩ | hc
        · exact .inl ⟨o, .tail _ (.tail _ ho), hx⟩
        · exact .inr hc
      · exact ⟨c', rfl, .inl ⟨oc, .tail _ (.head _), vs, t, d1, d2⟩⟩
  | some cv =>
    obtain ⟨c, rfl, hc⟩ := TL.2.2 pos cv e
    refine kla_hit F N T C rfl (.head _) TL.1 e hcl (fun f ctv h' tk F' N' l1 => ?_)
    have l70 : (70 : Nat) < f := l1 _ (.head _)
    have N2 : News g L h' ((70, tabObj ps) :: (f, kla_obj "<lambda>" ((envX cn cs L a (.ref 74) cl).qual ++ "<lambda>") params body scope [] ((mg "__name__").getD .none) c ctv) :: codes) := fun q hq => by
      rcases List.mem_cons.mp hq with rfl | hq
      · exact N' _ (.tail _ (.head _))
      · rcases List.mem_cons.mp hq with rfl | hq
        · exact N' _ (.head _)
        · exact N' _ (.tail _ (.tail _ hq))
    refine h f c ctv h' tk _ _ F' N2 ⟨TL.1, ?_, fun pos' cv e' => ?_⟩ (.head _) ?_
    · intro q hq
      rcases List.mem_cons.mp hq with rfl | hq
      · exact Nat.ne_of_gt l70
      · exact TL.2.1 q hq
    · obtain ⟨c, rfl, hc⟩ := TL.2.2 pos' cv e'
      refine ⟨c, rfl, ?_⟩
      rcases hc with ⟨o, ho, hx⟩ | hc
      · exact .inl ⟨o, .tail _ ho, hx⟩
      · exact .inr hc
    · rcases hc with ⟨o, ho, vs, t, d, v⟩ | hc
      · exact ⟨c, o, vs, t, rfl, (N' _ (.tail _ (.tail _ ho))).1, d, v⟩
      · exact hc.1.keeps F'.keep
end

theorem lam_of {w : World} {n : Nat} {f c' : Addr} {ctv pm : Value} {q : Str} {params : Arguments} {body : Expr} {scope : Scope} {vs : List Value} {binds : List (Str × Value)} {Ret : Heap → Value → Heap → Prop} (hn : 0 < n)
    (hbind : bindArgs (kla_fn "<lambda>" q params body scope [] pm (.ref c') ctv) ⟨vs, []⟩ = pure binds) (hloc : ∀ y ∈ binds, scope.names.lookup y.1 = some .local)
    (hco : scope.isCoroutine = false) (hgen : scope.isGenerator = false) (hk : scope.kind = .function) (hcell : ∀ x ∈ scope.names, x.2 ≠ .cell)
    (h : ∀ (p : Program) (loose : List Str) (mean : ExcName → Option Value) (mg mb : Str → Option Value)
      (dp un : Nat) (gd : Option (List Code)) (cn : Str) (cs : Scope) (L a : Addr) (ccd : Value) (cl : List (Str × Addr)) (outer : List Env) (base : Heap) (s : Shared) (E : Value → Shared → Prop) (L' : Addr) (h₁ : Heap),
      dp + n < recursionLimit → un + 16 * n < cLine → Fr s.heap L' h₁ (fun y => binds.reverse.lookup y) → News s.heap L' h₁ [] → Below (ktrTop dp un gd cn cs L a ccd cl outer) base (envX cn cs L a ccd cl :: outer) s.heap → (hd.heap_39 w.params).In s.heap → Top p loose mean mg mb s.heap →
      wpAny (model PySem.Challenge.rw_or0015_01.row.prog w) ((ktrTop dp un gd cn cs L a ccd cl outer).deeper (envX q scope L' f (.ref c') [])) (eval body (envX q scope L' f (.ref c') []))
        (fun v s' => OrEnd s Ret v s')
        (fun e s' => wpAny (model PySem.Challenge.rw_or0015_01.row.prog w) ((ktrTop dp un gd cn cs L a ccd cl outer).deeper (envX q scope L' f (.ref c') [])) (leaving (envX q scope L' f (.ref c') []) e) (fun _ s'' => E e s'') (fun e' s'' => E e' s'') s')
        { s with heap := h₁, toks := s.toks + binds.length }) :
    PureCall w n f vs (fun h => h.get? f = some (kla_obj "<lambda>" q params body scope [] pm c' ctv) ∧ h.CodeRec (.ref c') q) Ret := by
  intro p loose mean mg mb dp un gd cn cs a ccd cl outer A₀ base h₀ L m s Q E B F X T hk' hOk hd hu hret
  have st : h₀.StaysIn s.heap := F.keep
  have B₁ := pushX (env := envX cn cs L a ccd cl) B F rfl hk'
  refine wpAny_call ?_
  refine kla_callFunE (by show dp < _; omega) hOk.1 rfl hco hgen rfl hOk.2 ?_
  rw [hbind]
  refine wpAny_pure (wpAny_newFunctionEnv hcell hloc (fun h₁ hns hsb => ⟨((T.nolimit).keeps F.keep).fresh _ hsb, ?_⟩) hk)
  show codeAny _ _ (.expr body (envX q scope s.heap.objs.size f (.ref c') [])) _ _
  have hk₁ : ∀ b o, s.heap.get? b = some o → h₁.get? b = some o := fun b o e => hsb.extBut b o (Nat.ne_of_lt (Heap.lt_size e)) (Heap.get?_push_of_some _ e)
  refine kla_codeExpr (wpAny_mono (h p loose mean mg mb dp un gd cn cs L a ccd cl outer base s E s.heap.objs.size h₁ hd hu ⟨hns, hk₁, Nat.le_refl _⟩ (fun _ hp => nomatch hp) ⟨rfl, B₁.stays, B₁.frames⟩ (X.keeps st) (T.keeps st)) (fun v s' hl => ?_) fun _ _ y => y)
  obtain ⟨h', tk', rfl, hk, hr⟩ := hl
  exact hret _ _ _ hk hr

theorem among_mem {pos : Pos} {cv : Value} : ∀ (l : List Value), codeAmong pos l = some cv → cv ∈ l := by
  intro l
  fun_induction codeAmong pos l with
  | case1 line x col y c rest hb => intro e; cases e; exact .tail _ (.tail _ (.head _))
  | case2 line x col y c rest hb ih => intro e; exact .tail _ (.tail _ (.tail _ (ih e)))
  | case3 => intro e; cases e
def TabExt (h : Heap) (ps ps' : Array Value) : Prop :=
  ∀ pos cv, codeAmong pos ps'.toList = some cv → (∃ pos', codeAmong pos' ps.toList = some cv) ∨ ∃ c : Addr, cv = .ref c ∧ h.get? c = none

def RightCall (w : World) (vs : List Value) (q : Str) : Prop :=
  ∀ (p : Program) (loose : List Str) (mean : ExcName → Option Value) (mg mb : Str → Option Value)
    (dp un : Nat) (gd : Option (List Code)) (cn : Str) (cs : Scope) (a : Addr) (ccd : Value) (cl : List (Str × Addr)) (outer : List Env) (A₀ : Around) (base h₀ : Heap) (L : Addr) (m : Str → Option Value) (s : Shared) (Q E : Value → Shared → Prop) (ps : Array Value),
    Below A₀ base outer h₀ → Fr h₀ L s.heap m → News h₀ L s.heap [(70, tabObj ps)] → (hd.heap_39 w.params).In h₀ → Top p loose mean mg mb h₀ → cs.kind = .function → CodeHd h₀ 74 70 → TabC s.heap ps q → dp + 32 < recursionLimit → un + 16 * 32 < cLine →
    (∀ h' tk' ps', (∀ b o, b ≠ 70 → s.heap.get? b = some o → h'.get? b = some o) → TabC h' ps' q → TabExt s.heap ps ps' → Q (.bool true) { s with heap := h', toks := tk' }) →
    wpAny (model PySem.Challenge.rw_or0015_01.row.prog w) (ktrTop dp un gd cn cs L a ccd cl outer) (call (.ref 75) vs) Q E s

def RightEnd (g : Heap) (s : Shared) (ps : Array Value) (q : Str) (v : Value) (s' : Shared) : Prop :=
  ∃ h' tk' ps', s' = { s with heap := h', toks := tk' } ∧ (∀ b o, g.get? b = some o → h'.get? b = some o) ∧ TabC h' ps' q ∧
    (∀ pos cv, codeAmong pos ps'.toList = some cv → (∃ pos', codeAmong pos' ps.toList = some cv) ∨ ∃ c : Addr, cv = .ref c ∧ g.get? c = none ∧ c ≠ 70) ∧ v = .bool true
theorem right_end {g h' : Heap} {s : Shared} {q : Str} {v : Value} {L : Addr} {m : Str → Option Value} {ps₀ ps : Array Value} {codes : List (Addr × Obj)} {tk : Nat} (F : Fr g L h' m) (N : News g L h' ((70, tabObj ps) :: codes)) (TL : TabL g ps₀ ps codes q) (hv : v = .bool true) :
    RightEnd g s ps₀ q v { s with heap := h', toks := tk } := by
  refine ⟨h', tk, ps, rfl, F.keep, tabC_of F N TL, fun pos cv e => ?_, hv⟩
  obtain ⟨c, rfl, h1⟩ := TL.2.2 pos cv e
  rcases h1 with ⟨oc, hm, _⟩ | ⟨_, h2⟩
  · exact .inr ⟨c, rfl, (N _ (.tail _ hm)).2.2, TL.2.1 _ hm⟩
  · exact .inl h2

theorem right_of {w : World} {q : Str} {name qual : Str} {params : Arguments} {body : List Stmt} {scope : Scope} {dV kV doc pm cdv ct oc : Value} {an od : Option Addr} {osl : Array (Option Value)} {vs : List Value} {binds : List (Str × Value)}
    (ho : (hd.heap_39 w.params).lookup 75 = some ⟨oc, od, .func (fnOf name qual params body scope dV kV doc pm an cdv ct), osl⟩) (hcd : codeIn (hd.heap_39 w.params) cdv qual = true)
    (hbind : ∀ s, BindsTo s (fnOf name qual params body scope dV kV doc pm an cdv ct) ⟨vs, []⟩ binds) (hloc : ∀ y ∈ binds, scope.names.lookup y.1 = some .local)
    (hco : scope.isCoroutine = false) (hgen : scope.isGenerator = false) (hk : scope.kind = .function) (hcell : ∀ x ∈ scope.names, x.2 ≠ .cell)
    (h : ∀ (p : Program) (loose : List Str) (mean : ExcName → Option Value) (mg mb : Str → Option Value)
      (dp un : Nat) (gd : Option (List Code)) (cn : Str) (cs : Scope) (L a : Addr) (ccd : Value) (cl : List (Str × Addr)) (outer : List Env) (base : Heap) (s : Shared) (E : Value → Shared → Prop) (g : Heap) (L' : Addr) (h₁ : Heap) (ps : Array Value),
      dp + 32 < recursionLimit → un + 16 * 32 < cLine → Fr g L' h₁ (fun y => binds.reverse.lookup y) → News g L' h₁ [(70, tabObj ps)] → Below (ktrTop dp un gd cn cs L a ccd cl outer) base (envX cn cs L a ccd cl :: outer) g → (hd.heap_39 w.params).In g → Top p loose mean mg mb g → CodeHd g 74 70 → TabL g ps ps [] q →
      wpAny (model PySem.Challenge.rw_or0015_01.row.prog w) ((ktrTop dp un gd cn cs L a ccd cl outer).deeper (envOf qual scope L' 75 cdv)) (execs body (envOf qual scope L' 75 cdv))
        (fun fl s' => RightEnd g s ps q (match fl with | .ret v => v | _ => .none) s')
        (fun e s' => wpAny (model PySem.Challenge.rw_or0015_01.row.prog w) ((ktrTop dp un gd cn cs L a ccd cl outer).deeper (envOf qual scope L' 75 cdv)) (leaving (envOf qual scope L' 75 cdv) e) (fun _ s'' => E e s'') (fun e' s'' => E e' s'') s')
        { s with heap := h₁, toks := s.toks + binds.length }) : RightCall w vs q := by
  intro p loose mean mg mb dp un gd cn cs a ccd cl outer A₀ base h₀ L m s Q E ps B F N X T hk' C TC hd hu hret
  have n0 := N _ (.head _)
  have nm : ∀ b o, h₀.get? b = some o → b ∉ [(70 : Addr)] := fun b o e q => by
    rw [List.mem_singleton.mp q, n0.2.2] at e; cases e
  have st : h₀.StaysIn (hideAll s.heap [70]) := fun b o e => hideAll_get _ (F.keep b o e) (nm b o e)
  have nL : L ∉ [(70 : Addr)] := fun q => n0.2.1 (List.mem_singleton.mp q).symm
  have B₁ := pushX (env := envX cn cs L a ccd cl) B F rfl hk'
  obtain ⟨oL, es, ep, hL, hLd, hLk, hLf⟩ := id F.ns
  have BG : Below (ktrTop dp un gd cn cs L a ccd cl outer) base (envX cn cs L a ccd cl :: outer) (hideAll s.heap [70]) := ⟨rfl, fun b o e => st b o (B.stays b o e), funFrames_hideAll B₁.frames fun env' he b hb hf' => by
    cases he with
    | head => exact nL ((Option.some.inj hf' : L = b) ▸ hb)
    | tail _ he =>
      obtain ⟨L₁, o₁, hf₁, ho₁⟩ := funFrames_in B.frames env' he
      rw [hf₁] at hf'
      exact nm L₁ o₁ ho₁ ((Option.some.inj hf' : L₁ = b) ▸ hb)⟩
  refine wpAny_call ?_
  refine codeAny_call_def (fd := fnOf name qual params body scope dV kV doc pm an cdv ct) (body := body) (binds := binds) (by show dp < _; omega) (F.keep _ _ (X _ _ ho)) rfl (T.nolimit.keeps F.keep) (codeRec_of (X.keeps F.keep) hcd) rfl (hbind s) hcell hloc (fun h₁ hns hk₁ => ?_) hco hgen hk
  refine wpAny_mono (h p loose mean mg mb dp un gd cn cs L a ccd cl outer base s E (hideAll s.heap [70]) s.heap.objs.size h₁ ps hd hu ⟨hns, fun b o e => hk₁ b o (of_hideAll _ e), Nat.le_of_eq (hideAll_size _ _)⟩ (fun q hq => ?_) BG (X.keeps st) (T.keeps st) (C.keeps st) (tabL_of TC)) (fun fl s' hl => ?_) fun _ _ y => y
  · rw [List.mem_singleton.mp hq]
    exact ⟨hk₁ _ _ n0.1, Nat.ne_of_lt (Heap.lt_size n0.1), hideAll_none _ (.head _)⟩
  · obtain ⟨h', tk', ps', rfl, hk, htc, hext, hv⟩ := hl
    have key := hret h' tk' ps' (fun b o hb e => hk b o (hideAll_get _ e (by simpa using hb))) htc (fun pos cv e => by
      rcases hext pos cv e with h | ⟨c, rfl, h1, h2⟩
      · exact .inl h
      · refine .inr ⟨c, rfl, ?_⟩
        cases z : s.heap.get? c with
        | none => rfl
        | some o => rw [hideAll_get _ z (by simpa using h2)] at h1; cases h1)
    cases fl with
    | ret v =>
      have hv' : v = .bool true := hv
      subst hv'
      exact key
    | next => cases hv
    | brk => cases hv
    | cont => cases hv

open Classical in
noncomputable def freshOf (h h' : Heap) (v : Value) : Option (Addr × Obj) := match v with
  | .ref c => if h.get? c = none ∧ c ≠ 70 then (h'.get? c).map fun o => (c, o) else none
  | _ => none
theorem fresh_mem {h h' : Heap} {l : List Value} {c : Addr} {o : Obj} (hm : Value.ref c ∈ l) (h1 : h.get? c = none) (h2 : c ≠ 70) (h3 : h'.get? c = some o) : (c, o) ∈ l.filterMap (freshOf h h') :=
  List.mem_filterMap.mpr ⟨_, hm, by unfold freshOf; simp only []; rw [if_pos ⟨h1, h2⟩, h3]; rfl⟩
theorem fresh_is {h h' : Heap} {l : List Value} {p : Addr × Obj} (hp : p ∈ l.filterMap (freshOf h h')) : h.get? p.1 = none ∧ p.1 ≠ 70 ∧ h'.get? p.1 = some p.2 := by
  obtain ⟨v, _, e⟩ := List.mem_filterMap.mp hp
  unfold freshOf at e
  cases v with
  | ref c =>
    simp only [] at e
    by_cases q : h.get? c = none ∧ c ≠ 70
    · rw [if_pos q] at e
      cases z : h'.get? c with
      | none => rw [z] at e; cases e
      | some o => rw [z] at e; cases e; exact ⟨q.1, q.2, z⟩
    · rw [if_neg q] at e; cases e
  | _ => cases e

theorem right_use {w : World} {vs : List Value} {q : Str} (C : RightCall w vs q) (pre : List (Addr × Obj))
    {p : Program} {loose : List Str} {mean : ExcName → Option Value} {mg mb : Str → Option Value} {dp un : Nat} {gd : Option (List Code)} {cn : Str} {cs : Scope} {a : Addr} {ccd : Value} {cl : List (Str × Addr)} {outer : List Env} {A₀ : Around} {base h₀ : Heap} {L : Addr} {m : Str → Option Value} {codes : List (Addr × Obj)} {s : Shared} {Q E : Value → Shared → Prop} {ps₀ ps : Array Value}
    (B : Below A₀ base outer h₀) (F : Fr h₀ L s.heap m) (N : News h₀ L s.heap ((70, tabObj ps) :: (pre ++ codes))) (hn : ∀ p ∈ pre, p.1 ≠ 70) (X : (hd.heap_39 w.params).In h₀) (T : Top p loose mean mg mb h₀) (hk : cs.kind = .function) (hc : CodeHd h₀ 74 70) (TL : TabL h₀ ps₀ ps codes q) (hd : dp + 32 < recursionLimit) (hu : un + 16 * 32 < cLine)
    (ret : ∀ h' tk' ps' codes', Fr h₀ L h' m → News h₀ L h' ((70, tabObj ps') :: (pre ++ codes')) → TabL h₀ ps₀ ps' codes' q → (∀ own : List (Addr × Obj), (∀ p ∈ own, p ∈ pre) → OwnOff own (codes.map (·.1)) → OwnOff own (codes'.map (·.1))) → Q (.bool true) { s with heap := h', toks := tk' }) :
    wpAny (model PySem.Challenge.rw_or0015_01.row.prog w) (ktrTop dp un gd cn cs L a ccd cl outer) (call (.ref 75) vs) Q E s := by
  have n0 := N _ (.head _)
  have Nc : News h₀ L s.heap ((70, tabObj ps) :: codes) := fun q hq => by
    rcases List.mem_cons.mp hq with rfl | hq
    · exact n0
    · exact N _ (.tail _ (List.mem_append_right _ hq))
  refine C p loose mean mg mb dp un gd cn cs a ccd cl outer A₀ base h₀ L m s Q E ps B F (fun q hq => by rw [List.mem_singleton.mp hq]; exact n0) X T hk hc (tabC_of F Nc TL) hd hu fun h' tk' ps' hk' tc' hx => ?_
  have FL : s.heap.get? L ≠ none := by
    obtain ⟨oL, es, ep, hL, r⟩ := F.ns
    rw [hL]; exact nofun
  refine ret h' tk' ps' (codes ++ ps'.toList.filterMap (freshOf s.heap h')) ⟨?_, fun b o e => hk' b o (fun q => ?_) (F.keep b o e), F.above⟩ (fun q hq => ?_) ⟨tc'.1, fun q hq => ?_, fun pos cv e => ?_⟩ (fun own h1 h2 q hq b hb => ?_)
  · obtain ⟨oL, es, ep, hL, r⟩ := F.ns
    exact ⟨oL, es, ep, hk' _ _ (fun q => n0.2.1 q.symm) hL, r⟩
  · rw [q, n0.2.2] at e; cases e
  · rcases List.mem_cons.mp hq with rfl | hq
    · exact ⟨tc'.2.1, n0.2⟩
    · rcases List.mem_append.mp hq with hq | hq
      · have := N _ (.tail _ (List.mem_append_left _ hq))
        exact ⟨hk' _ _ (hn _ hq) this.1, this.2⟩
      · rcases List.mem_append.mp hq with hq | hq
        · have := N _ (.tail _ (List.mem_append_right _ hq))
          exact ⟨hk' _ _ (TL.2.1 _ hq) this.1, this.2⟩
        · obtain ⟨f1, f2, f3⟩ := fresh_is hq
          refine ⟨f3, fun z => FL (z ▸ f1), ?_⟩
          cases z : h₀.get? q.1 with
          | none => rfl
          | some o => rw [F.keep _ _ z] at f1; cases f1
  · rcases List.mem_append.mp hq with hq | hq
    · exact TL.2.1 _ hq
    · exact (fresh_is hq).2.1
  · rcases hx pos cv e with ⟨pos', e'⟩ | ⟨c, rfl, hc⟩
    · obtain ⟨c, rfl, h1⟩ := TL.2.2 pos' cv e'
      refine ⟨c, rfl, ?_⟩
      rcases h1 with ⟨oc, hm, ho⟩ | h1
      · exact .inl ⟨oc, List.mem_append_left _ hm, ho⟩
      · exact .inr h1
    · obtain ⟨c2, e2, h70, c3, o, vs, t, e3, ho, hd, hv⟩ := tc'.2.2 pos _ e
      cases e2
      cases e3
      exact ⟨c, rfl, .inl ⟨o, List.mem_append_right _ (fresh_mem (among_mem _ e) hc h70 ho), vs, t, hd, hv⟩⟩
  · obtain ⟨p, hp, rfl⟩ := List.mem_map.mp hb
    rcases List.mem_append.mp hp with hp | hp
    · exact h2 q hq _ (List.mem_map_of_mem hp)
    · intro z
      have f1 := (fresh_is hp).1
      have := (N _ (.tail _ (List.mem_append_left _ (h1 q hq)))).1
      rw [z, f1] at this
      cases this

theorem cuts_use {w : World} {fi la nm : Str} {t1 t2 t3 : Tok} {f c' : Addr} {n q : Str} {params : Arguments} {body : Expr} {scope : Scope} {cc : List (Str × Addr)} {pm ctv : Value} (lie : List Nat → Bool)
    {p : Program} {loose : List Str} {mean : ExcName → Option Value} {mg mb : Str → Option Value} {dp un : Nat} {gd : Option (List Code)} {cn : Str} {cs : Scope} {a : Addr} {ccd : Value} {cl : List (Str × Addr)} {outer : List Env} {A₀ : Around} {base h₀ : Heap} {L : Addr} {m : Str → Option Value} {news : List (Addr × Obj)} {s : Shared} {Q E : Value → Shared → Prop}
    (hm : (f, kla_obj n q params body scope cc pm c' ctv) ∈ news) (hcr : s.heap.CodeRec (.ref c') q)
    (h1 : fi.length ≤ 1000) (h2 : la.length ≤ 1000) (h3 : nm.length ≤ 1000) (hi : 73 ∉ nm.cps.toList)
    (B : Below A₀ base outer h₀) (F : Fr h₀ L s.heap m) (N : News h₀ L s.heap news) (X : (hd.heap_39 w.params).In h₀) (T : Top p loose mean mg mb h₀) (hk : cs.kind = .function) (hd : dp + 24 < recursionLimit) (hu : un + 16 * 24 < cLine)
    (hlam : ∀ x t, x.length ≤ 1000 → PureCall w 8 f [.str x t] (fun h => h.get? f = some (kla_obj n q params body scope cc pm c' ctv) ∧ h.CodeRec (.ref c') q) (fun _ v _ => v = .bool (lie x.cps.toList)))
    (ret : ∀ (r : Bool) h' tk', Fr h₀ L h' m → News h₀ L h' news → (r = true ↔ ∃ b e, cutAt fi.cps.toList la.cps.toList nm.cps.toList lie b e) → Q (.bool r) { s with heap := h', toks := tk' }) :
    wpAny (model PySem.Challenge.rw_or0015_01.row.prog w) (ktrTop dp un gd cn cs L a ccd cl outer) (call (.ref 68) [.str fi t1, .str la t2, .str nm t3, .ref f]) Q E s := by
  refine pure_use (cuts_spec w fi la nm t1 t2 t3 f (fun h => h.get? f = some (kla_obj n q params body scope cc pm c' ctv) ∧ h.CodeRec (.ref c') q) lie (fun h h' k x => ⟨k _ _ x.1, x.2.keeps k⟩)
    (fun h x => ⟨_, _, _, _, x.1⟩) hlam h1 h2 h3 hi) B F N X T hk ⟨(N _ hm).1, hcr⟩ hd hu ?_
  rintro v h' tk' F' N' - ⟨r, rfl, hr⟩
  exact ret r h' tk' F' N' hr
end OrLaw

namespace OrLaw
open PySem PySem.Spec PySem.Calls PyProof.Rows PySem.W
set_option maxRecDepth 100000
set_option maxHeartbeats 4000000

local macro_rules | `(tactic| walk_at "call ref") => `(tactic| refine OrLaw.stop ?_)
local macro_rules | `(tactic| walk_at "eval Lambda") => `(tactic| (k_dflt (refine' or_lam ?F ?N ?T ?C ?d ?cl ?TL ?_; (case F => k_asm); (case N => k_asm); (case T => k_asm); (case C => assumption); (case d => exact rfl); (case cl => exact rfl); (case TL => assumption); k_whole); intro f' c' ct' h' tk' ps' codes' F' N' TL' hm' hcr'; (try dsimp only)))

theorem bool_iff {a b : Bool} (h : a = true ↔ b = true) : a = b := Bool.eq_iff_iff.mpr h
theorem bne_no {a b : Bool} (e : a = b) (h : (a != b) = true) : False := by
  subst e
  cases a <;> cases h
theorem empty_is (x : Str) : (x == Str.ofString "") = (x.cps.toList == []) := by
  rw [Bool.eq_iff_iff, beq_iff_eq, beq_iff_eq]
  constructor
  · rintro rfl; rfl
  · intro e
    have : x.cps = #[] := by
      have := congrArg List.toArray e
      simpa using this
    cases x
    cases this
    rfl
theorem slash_in (x : Str) : (!!(Builtin.Str.occurrences x (Str.ofString "/") 0 x.length 1).isEmpty) = !x.cps.toList.contains 47 := by
  rw [slash_is, StrLaws.found_one, Bool.eq_iff_iff]
  simp
abbrev lamQ : Str := (Str.ofString "_law_right" ++ Str.ofString ".<locals>.") ++ Str.ofString "<lambda>"

theorem right_spec (w : World) (fi la nm : Str) (t1 t2 t3 : Tok) (h1 : fi.length ≤ 100) (h2 : la.length ≤ 100) (h3 : nm.length ≤ 100) (hi : 73 ∉ nm.cps.toList) :
    RightCall w [.str fi t1, .str la t2, .str nm t3] lamQ := by
  w_top off
  (have kfl : (hd.heap_39 = hd.heap_39 ∧ PySem.Challenge.rw_or0015_01 = PySem.Challenge.rw_or0015_01) := by (k_fill; exact ⟨rfl, rfl⟩)); clear kfl;
  k_dflt (refine' right_of ?k6 ?k7 ?k9 ?kB ?c2 ?c3 ?c4 ?c5 ?_; (case k6 => k_is); (case k7 => k_is); (case k9 => (intro s; exact BindsTo.of_eq rfl)); (case kB => exact locs rfl); (case c2 => exact rfl); (case c3 => exact rfl); (case c4 => exact rfl); (case c5 => decide))
  intro p loose mean mg mb dp un gd cn cs L a ccd cl outer base s E g L' h' ps hd hu F' N' B' X' T' C' TL'
  (try dsimp only)
  k_fold
  have hK := kstMark
  k_steps
  unfold Stop
  k_dflt refine pure_use (listed_spec w (fi ++ la) nm _ _ (by omega) (by omega) hi) (by k_asm) (by k_asm) (by k_asm) (by k_asm) (by k_asm) rfl trivial (by ktr_room) (by ktr_units) ?_
  rintro v h5 tk5 F5 N5 - rfl
  (try dsimp only)
  (try k_fold)
  k_steps
  unfold Stop
  k_dflt refine cuts_use (fun m => m == []) (.tail _ (by assumption)) (by assumption) (by omega) (by omega) (by omega) hi (by k_asm) (by k_asm) (by k_asm) (by k_asm) (by k_asm) rfl (by ktr_room) (by ktr_units) ?_ ?_
  · intro x t hx
    k_dflt (refine' lam_of (by decide) ?k9 ?kB ?c2 ?c3 ?c4 ?c5 ?_; (case k9 => exact rfl); (case kB => exact locs rfl); (case c2 => exact rfl); (case c3 => exact rfl); (case c4 => exact rfl); (case c5 => decide))
    intro p loose mean mg mb dp un gd cn cs L a ccd cl outer base s E L' h' hd hu F' N' B' X' T'
    (try dsimp only)
    k_fold
    k_steps
    exact or_end F'.keep (by show Value.bool _ = _; rw [empty_is])
  intro r h6 tk6 F6 N6 hr
  (try dsimp only)
  (try k_fold)
  have e1 : listedF (fi ++ la).cps.toList nm.cps.toList = r := by
    rw [app_cps]
    exact bool_iff ((law_plain _ _ _).trans hr.symm)
  k_steps
  · exact (bne_no e1 ‹_›).elim
  have star_cps : (Str.ofString "*").cps.toList = [42] := by rw [star_is]
  have pct_cps : (Str.ofString "%").cps.toList = [37] := by rw [pct_is]
  have star_len : (Str.ofString "*").length = 1 := by rw [star_is]; rfl
  have pct_len : (Str.ofString "%").length = 1 := by rw [pct_is]; rfl
  unfold Stop
  k_dflt refine pure_use (listed_spec w (fi ++ Str.ofString "*" ++ la) nm _ _ (by omega) (by omega) hi) (by k_asm) (by k_asm) (by k_asm) (by k_asm) (by k_asm) rfl trivial (by ktr_room) (by ktr_units) ?_
  rintro v h7 tk7 F7 N7 - rfl
  (try dsimp only)
  (try k_fold)
  k_steps
  unfold Stop
  k_dflt refine cuts_use (fun _ => true) (.tail _ (by assumption)) (by assumption) (by omega) (by omega) (by omega) hi (by k_asm) (by k_asm) (by k_asm) (by k_asm) (by k_asm) rfl (by ktr_room) (by ktr_units) ?_ ?_
  · intro x t hx
    k_dflt (refine' lam_of (by decide) ?k9 ?kB ?c2 ?c3 ?c4 ?c5 ?_; (case k9 => exact rfl); (case kB => exact locs rfl); (case c2 => exact rfl); (case c3 => exact rfl); (case c4 => exact rfl); (case c5 => decide))
    intro p loose mean mg mb dp un gd cn cs L a ccd cl outer base s E L' h' hd hu F' N' B' X' T'
    (try dsimp only)
    k_fold
    k_steps
    exact or_end F'.keep rfl
  intro r2 h8 tk8 F8 N8 hr2
  (try dsimp only)
  (try k_fold)
  have e2 : listedF (fi ++ Str.ofString "*" ++ la).cps.toList nm.cps.toList = r2 := by
    rw [app_cps, app_cps, star_cps]
    exact bool_iff ((law_star _ _ _).trans hr2.symm)
  k_steps
  · exact (bne_no e2 ‹_›).elim
  unfold Stop
  k_dflt refine pure_use (listed_spec w (fi ++ Str.ofString "%" ++ la) nm _ _ (by omega) (by omega) hi) (by k_asm) (by k_asm) (by k_asm) (by k_asm) (by k_asm) rfl trivial (by ktr_room) (by ktr_units) ?_
  rintro v h9 tk9 F9 N9 - rfl
  (try dsimp only)
  (try k_fold)
  k_steps
  unfold Stop
  k_dflt refine cuts_use (fun m => !m.contains 47) (.tail _ (by assumption)) (by assumption) (by omega) (by omega) (by omega) hi (by k_asm) (by k_asm) (by k_asm) (by k_asm) (by k_asm) rfl (by ktr_room) (by ktr_units) ?_ ?_
  · intro x t hx
    k_dflt (refine' lam_of (by decide) ?k9 ?kB ?c2 ?c3 ?c4 ?c5 ?_; (case k9 => exact rfl); (case kB => exact locs rfl); (case c2 => exact rfl); (case c3 => exact rfl); (case c4 => exact rfl); (case c5 => decide))
    intro p loose mean mg mb dp un gd cn cs L a ccd cl outer base s E L' h' hd hu F' N' B' X' T'
    (try dsimp only)
    k_fold
    k_steps
    exact or_end F'.keep (by show Value.bool _ = _; rw [slash_in])
  intro r3 h10 tk10 F10 N10 hr3
  (try dsimp only)
  (try k_fold)
  have e3 : listedF (fi ++ Str.ofString "%" ++ la).cps.toList nm.cps.toList = r3 := by
    rw [app_cps, app_cps, pct_cps]
    exact bool_iff ((law_pct _ _ _).trans hr3.symm)
  k_steps
  exact right_end F10 N10 (by assumption) (by show Value.bool _ = _; rw [e3, beq_self_eq_true])
end OrLaw

namespace OrLaw
open PySem PySem.Spec PySem.Calls PyProof.Rows PySem.W
set_option maxRecDepth 100000
set_option maxHeartbeats 8000000

section
variable {prog : Program} {w : World} {A : Around} {E : Value → Shared → Prop} {s : Shared} {env : Env} {h₀ : Heap} {x : Str} {body : List Stmt} {Q : Flow → Shared → Prop}
/-- a for over a list of texts of the ledger -/
theorem or_txts {σ : Type} {G : Str → Prop} {l : Addr} {vs : List Value} {nn : Nat} {m₀ : Str → Option Value} (Led : σ → List (Addr × Obj)) (ps : σ → List (Str × Value)) (P : Nat → σ → Prop) (c₀ : σ)
    (hh : A.handled = none) (hl : ∀ c, (l, W.listOf vs.toArray nn) ∈ Led c) (hv : ∀ v ∈ vs, ∃ y t, v = .str y t ∧ G y) (F : Fr h₀ env.locals s.heap m₀) (N : News h₀ env.locals s.heap (Led c₀)) (hk : ∀ p ∈ ps c₀, m₀ p.1 = some p.2) (hp : P 0 c₀)
    (turn : ∀ i y t c m₁ h tk own, G y → P i c → OwnOff own ((Led c).map (·.1)) → Fr h₀ env.locals h (fun z => if z = x then some (.str y t) else kstB m₁ (ps c) z) → News h₀ env.locals h (Led c ++ own) →
      wpAny (model prog w) A (execs body env) (InvPostG h₀ env.locals (OrJ Led ps (P (i + 1))) own { s with heap := h, toks := tk } Q) E { s with heap := h, toks := tk })
    (done : ∀ c m₁ h tk, P vs.length c → Fr h₀ env.locals h (kstB m₁ (ps c)) → News h₀ env.locals h (Led c) → Q .next { s with heap := h, toks := tk }) :
    wpAny (model prog w) A (pyIter (.ref l)) (fun it s₂ => LoopAtV prog w A h₀ env x body Q E it s₂) E s := by
  refine kdl_iter (fun i m nx => OrJ Led ps (P i) m nx) hh (hl c₀) F N ⟨c₀, rfl, hk, hp⟩ ?_ ?_
  · rintro i v m₁ nx h tk own hi hoff hmem ⟨c, rfl, h1, hp'⟩ F₁ N₁
    obtain ⟨y, t, rfl, hg⟩ := hv v (List.mem_of_getElem? hi)
    refine wpAny_mono (turn i y t c m₁ h tk own hg hp' hoff (fr_kst h1 F₁) N₁) (fun f s₂ q => ?_) fun _ _ x => x
    have up : InvEndG h₀ env.locals (OrJ Led ps (P (i + 1))) own { s with heap := h, toks := tk } s₂ →
        InvEndG h₀ env.locals (fun m' nx => (l, W.listOf vs.toArray nn) ∈ nx ∧ OrJ Led ps (P (i + 1)) m' nx) own { s with heap := h, toks := tk } s₂ := by
      rintro ⟨h', tk', m', news', nx', e', F', N', hn', ho', ha, hS⟩
      refine ⟨h', tk', m', news', nx', e', F', N', hn', ho', ha, ?_, hS⟩
      obtain ⟨c', rfl, _⟩ := hS
      exact hl c'
    cases f with
    | ret v => exact q
    | brk => exact q
    | next => exact up q
    | cont => exact up q
  · rintro m₁ nx h tk ⟨c, rfl, h1, hp'⟩ F₁ N₁
    exact done c m₁ h tk hp' (fr_kst0 h1 F₁) N₁
end

def NameOk (x : Str) : Prop := x.length ≤ 6 ∧ ∀ k ∈ x.cps.toList, k = 97 ∨ k = 98 ∨ k = 47
theorem nameOk_text {x : Str} (h1 : x.length ≤ 6) (h2 : ∀ k ∈ x.cps.toList, k ∈ (Str.ofString "a/b").cps.toList) : NameOk x := by
  refine ⟨h1, fun k hk => ?_⟩
  have := h2 k hk
  rw [show (Str.ofString "a/b").cps.toList = [97, 47, 98] by decide +kernel] at this
  simp only [List.mem_cons, List.not_mem_nil, or_false] at this
  omega
theorem cps1 : (Str.ofString "a/b").cps.toList = [97, 47, 98] := by decide +kernel
theorem cps2 : (Str.ofString "ab").cps.toList = [97, 98] := by decide +kernel
theorem cps3 : (Str.ofString "a").cps.toList = [97] := by decide +kernel
theorem cps4 : (Str.ofString "a%b").cps.toList = [97, 37, 98] := by decide +kernel
theorem cps5 : (Str.ofString "a*b").cps.toList = [97, 42, 98] := by decide +kernel
theorem cps6 : (Str.ofString "b").cps.toList = [98] := by decide +kernel
theorem cps0 : (Str.ofString "").cps.toList = [] := by decide +kernel
theorem nameOk1 : NameOk (Str.ofString "a/b") := ⟨by rw [str_len, cps1]; decide, fun k hk => by rw [cps1] at hk; simp only [List.mem_cons, List.not_mem_nil, or_false] at hk; omega⟩
theorem nameOk2 : NameOk (Str.ofString "ab") := ⟨by rw [str_len, cps2]; decide, fun k hk => by rw [cps2] at hk; simp only [List.mem_cons, List.not_mem_nil, or_false] at hk; omega⟩
theorem nameOk_in {x : Str} (h : NameOk x) : 73 ∉ x.cps.toList := fun z => by have := h.2 _ z; omega

theorem bool_false {b : Bool} (h : ¬ b = true) : b = false := by cases b; rfl; exact absurd rfl h
theorem self_yes {x : Str} (h : NameOk x) : listedF x.cps.toList x.cps.toList = true :=
  (listed_iff _ _).mpr ((m_self _ (fun z => by have := h.2 _ z; omega) (fun z => by have := h.2 _ z; omega) _).mpr rfl)
theorem self_more {x : Str} (h : NameOk x) : listedF x.cps.toList (x ++ Str.ofString "a").cps.toList = false :=
  bool_false fun q => by
    have := (m_self _ (fun z => by have := h.2 _ z; omega) (fun z => by have := h.2 _ z; omega) _).mp ((listed_iff _ _).mp q)
    rw [app_cps, cps3] at this
    have := congrArg List.length this
    simp at this
theorem empty_meets (x : Str) : listedF (Str.ofString "").cps.toList x.cps.toList = (x == Str.ofString "") := by
  rw [empty_is, cps0, Bool.eq_iff_iff, listed_iff, beq_iff_eq]
  exact Iff.rfl
theorem end1 : listedF (Str.ofString "a%b").cps.toList (Str.ofString "a/b").cps.toList = false := bool_false fun q => by
  rw [cps4, cps1, listed_iff] at q
  obtain ⟨v, e, q⟩ := (m_lit (by decide) (by decide)).mp q
  cases e
  obtain ⟨u, v, e, hu, q⟩ := m_pct.mp q
  obtain ⟨v', e', q⟩ := (m_lit (by decide) (by decide)).mp q
  rw [m_nil] at q
  subst q
  subst e'
  cases u with
  | nil => cases e
  | cons a u =>
    have : 47 = a := (List.cons.inj e).1
    exact hu (this ▸ .head _)
theorem end2 : listedF (Str.ofString "a*b").cps.toList (Str.ofString "a/b").cps.toList = true := by
  rw [cps5, cps1, listed_iff]
  exact (m_lit (by decide) (by decide)).mpr ⟨_, rfl, m_star.mpr ⟨[47], [98], rfl, (m_lit (by decide) (by decide)).mpr ⟨[], rfl, rfl⟩⟩⟩
theorem end3 : listedF (Str.ofString "a%b").cps.toList (Str.ofString "ab").cps.toList = true := by
  rw [cps4, cps2, listed_iff]
  exact (m_lit (by decide) (by decide)).mpr ⟨_, rfl, m_pct.mpr ⟨[], [98], rfl, by simp, (m_lit (by decide) (by decide)).mpr ⟨[], rfl, rfl⟩⟩⟩

theorem tabL0 (g : Heap) (q : Str) : TabL g #[] #[] [] q := ⟨trivial, fun _ h => (nomatch h), fun _ _ e => by cases e⟩

abbrev NLed (l : Addr) (vs : List Value) (nn : Nat) (c : Array Value × List (Addr × Obj)) : List (Addr × Obj) := (70, tabObj c.1) :: (l, W.listOf vs.toArray nn) :: c.2
section
variable {prog : Program} {w : World} {A : Around} {E : Value → Shared → Prop} {s : Shared} {env : Env} {h₀ : Heap} {x : Str} {body : List Stmt} {Q : Flow → Shared → Prop}
theorem or_names {l : Addr} {vs : List Value} {nn : Nat} {led : List (Addr × Obj)} {m₀ : Str → Option Value} (ps : List (Str × Value))
    (hh : A.handled = none) (hm : (l, W.listOf vs.toArray nn) ∈ led) (h70 : (70, tabObj #[]) ∈ led) (hv : ∀ v ∈ vs, ∃ y t, v = .str y t ∧ NameOk y) (F : Fr h₀ env.locals s.heap m₀) (N : News h₀ env.locals s.heap led) (hk : ∀ p ∈ ps, m₀ p.1 = some p.2)
    (turn : ∀ y t psx codes m₁ h tk own, NameOk y → TabL h₀ #[] psx codes lamQ → OwnOff own ((NLed l vs nn (psx, codes)).map (·.1)) → (∀ p ∈ (l, W.listOf vs.toArray nn) :: own, p.1 ≠ 70) → Fr h₀ env.locals h (fun z => if z = x then some (.str y t) else kstB m₁ ps z) → News h₀ env.locals h ((70, tabObj psx) :: ((l, W.listOf vs.toArray nn) :: own ++ codes)) →
      wpAny (model prog w) A (execs body env) (InvPostG h₀ env.locals (OrJ (NLed l vs nn) (fun _ => ps) (fun c => TabL h₀ #[] c.1 c.2 lamQ)) own { s with heap := h, toks := tk } Q) E { s with heap := h, toks := tk })
    (done : ∀ psx codes m₁ h tk, TabL h₀ #[] psx codes lamQ → (∀ p ∈ [(l, W.listOf vs.toArray nn)], p.1 ≠ 70) → Fr h₀ env.locals h (kstB m₁ ps) → News h₀ env.locals h ((70, tabObj psx) :: ([(l, W.listOf vs.toArray nn)] ++ codes)) → Q .next { s with heap := h, toks := tk }) :
    wpAny (model prog w) A (pyIter (.ref l)) (fun it s₂ => LoopAtV prog w A h₀ env x body Q E it s₂) E s := by
  have l70 : l ≠ 70 := fun q => by
    have e1 := (N _ hm).1
    have e2 := (N _ h70).1
    rw [q] at e1
    rw [e1] at e2
    cases e2
  refine or_txts (σ := Array Value × List (Addr × Obj)) (NLed l vs nn) (fun _ => ps) (fun _ c => TabL h₀ #[] c.1 c.2 lamQ) (#[], []) hh (fun _ => .tail _ (.head _)) hv F (fun q hq => ?_) hk (tabL0 _ _) ?_ ?_
  · rcases List.mem_cons.mp hq with rfl | hq
    · exact N _ h70
    · rw [List.mem_singleton.mp hq]; exact N _ hm
  · rintro i y t ⟨psx, codes⟩ m₁ h tk own hG hP hoff hF hN
    refine turn y t psx codes m₁ h tk own hG hP hoff (fun q hq => ?_) hF (fun q hq => ?_)
    · rcases List.mem_cons.mp hq with rfl | hq
      · exact l70
      · exact hoff q hq _ (.head _)
    · rcases List.mem_cons.mp hq with rfl | hq
      · exact hN _ (.head _)
      · rcases List.mem_append.mp hq with hq | hq
        · rcases List.mem_cons.mp hq with rfl | hq
          · exact hN _ (.tail _ (.head _))
          · exact hN _ (List.mem_append_right _ hq)
        · exact hN _ (List.mem_append_left _ (.tail _ (.tail _ hq)))
  · rintro ⟨psx, codes⟩ m₁ h tk hP hF hN
    refine done psx codes m₁ h tk hP (fun q hq => by rw [List.mem_singleton.mp hq]; exact l70) hF hN
theorem names_end {l : Addr} {vs : List Value} {nn : Nat} {ps : List (Str × Value)} {L : Addr} {own codes codes' : List (Addr × Obj)} {psx psx' : Array Value} {h' : Heap} {tk : Nat} {m₂ : Str → Option Value}
    (F : Fr h₀ L h' m₂) (N : News h₀ L h' ((70, tabObj psx') :: ((l, W.listOf vs.toArray nn) :: own ++ codes'))) (TL : TabL h₀ #[] psx' codes' lamQ) (h1 : OwnOff own ((NLed l vs nn (psx, codes)).map (·.1))) (h2 : OwnOff own (codes'.map (·.1))) (hk : ∀ p ∈ ps, m₂ p.1 = some p.2) :
    InvEndG h₀ L (OrJ (NLed l vs nn) (fun _ => ps) (fun c => TabL h₀ #[] c.1 c.2 lamQ)) own s { s with heap := h', toks := tk } := by
  refine or_gend (psx', codes') F N (fun p hp => ?_) (fun p hp => .tail _ (List.mem_append_left _ (.tail _ hp))) (fun q hq b hb => ?_) hk TL
  · rcases List.mem_cons.mp hp with rfl | hp
    · exact .head _
    · rcases List.mem_cons.mp hp with rfl | hp
      · exact .tail _ (.head _)
      · exact .tail _ (List.mem_append_right _ hp)
  · rcases List.mem_cons.mp hb with rfl | hb
    · exact h1 q hq _ (.head _)
    · rcases List.mem_cons.mp hb with rfl | hb
      · exact h1 q hq _ (.tail _ (.head _))
      · exact h2 q hq b hb
end
theorem off_codes {l : Addr} {vs : List Value} {nn : Nat} {own codes : List (Addr × Obj)} {psx : Array Value} (h1 : OwnOff own ((NLed l vs nn (psx, codes)).map (·.1))) : OwnOff own (codes.map (·.1)) :=
  fun q hq b hb => h1 q hq b (.tail _ (.tail _ hb))

theorem execs_append (env : Env) (l2 : List Stmt) : ∀ l1 : List Stmt, execs (l1 ++ l2) env = execs l1 env >>= fun f => match f with | .next => execs l2 env | f => pure f := by
  intro l1
  induction l1 with
  | nil =>
    show execs l2 env = (pure Flow.next : Sem Flow) >>= _
    rw [pure_bind]
  | cons a l1 ih =>
    rw [List.cons_append, execs_cons, execs_cons, bind_assoc]
    congr 1
    funext f
    cases f with
    | next => exact ih
    | brk => rfl
    | cont => rfl
    | ret v => rfl
def OrMid (g : Heap) (L : Addr) (s : Shared) (f : Flow) (s' : Shared) : Prop :=
  f = .next ∧ ∃ h tk m D vs fi la tfi tla led, s' = { s with heap := h, toks := tk } ∧ Fr g L h m ∧ News g L h led ∧ (D, W.listOf (List.toArray vs) 0) ∈ led ∧ (70, tabObj #[]) ∈ led ∧ (∀ v ∈ vs, ∃ y t, v = .str y t ∧ NameOk y) ∧ fi.length ≤ 3 ∧ la.length ≤ 3 ∧
    (∀ p ∈ [(Str.ofString "names", .ref D), (Str.ofString "first", .str fi tfi), (Str.ofString "last", .str la tla)], m p.1 = some p.2)
theorem mid_end {g : Heap} {L : Addr} {s : Shared} {h' : Heap} {tk : Nat} {m : Str → Option Value} {D : Addr} {vs : List Value} {fi la : Str} {tfi tla : Tok} {led : List (Addr × Obj)} (F : Fr g L h' m) (N : News g L h' led) (hD : (D, W.listOf vs.toArray 0) ∈ led) (h70 : (70, tabObj #[]) ∈ led) (hv : ∀ v ∈ vs, ∃ y t, v = .str y t ∧ NameOk y)
    (h1 : fi.length ≤ 3) (h2 : la.length ≤ 3) (hk : ∀ p ∈ [(Str.ofString "names", .ref D), (Str.ofString "first", .str fi tfi), (Str.ofString "last", .str la tla)], m p.1 = some p.2) : OrMid g L s .next { s with heap := h', toks := tk } :=
  ⟨rfl, h', tk, m, D, vs, fi, la, tfi, tla, led, rfl, F, N, hD, h70, hv, h1, h2, hk⟩
section
variable {M : Model} {A : Around} {E : Value → Shared → Prop} {s : Shared} {env : Env}
theorem or_mid4 {a b c d : Stmt} {rest : List Stmt} {Q : Flow → Shared → Prop} {g : Heap} {L : Addr} {m₀ : Str → Option Value} (_F : Fr g L s.heap m₀)
    (h1 : wpAny M A (execs [a, b, c, d] env) (OrMid g L s) E s)
    (h2 : ∀ h tk m D vs fi la tfi tla led, Fr g L h (kstB m [(Str.ofString "names", .ref D), (Str.ofString "first", .str fi tfi), (Str.ofString "last", .str la tla)]) → News g L h led → (D, W.listOf (List.toArray vs) 0) ∈ led → (70, tabObj #[]) ∈ led → (∀ v ∈ vs, ∃ y t, v = .str y t ∧ NameOk y) → fi.length ≤ 3 → la.length ≤ 3 →
      wpAny M A (execs rest env) Q E { s with heap := h, toks := tk }) : wpAny M A (execs (a :: b :: c :: d :: rest) env) Q E s := by
  rw [show a :: b :: c :: d :: rest = [a, b, c, d] ++ rest from rfl, execs_append]
  refine wpAny_bind (wpAny_mono h1 (fun f s' hm => ?_) fun _ _ x => x)
  obtain ⟨rfl, h, tk, m, D, vs, fi, la, tfi, tla, led, rfl, F, N, hD, h70, hv, hf, hl, hk⟩ := hm
  exact h2 h tk m D vs fi la tfi tla led (fr_kst0 hk F) N hD h70 hv hf hl
end
end OrLaw

namespace OrLaw
open PySem PySem.Spec PySem.Calls PyProof.Rows PySem.W
set_option maxRecDepth 100000
set_option maxHeartbeats 8000000
local macro_rules | `(tactic| walk_at "call ref") => `(tactic| refine OrLaw.stop ?_)
local macro_rules | `(tactic| walk_at "pyIter ref") => `(tactic| refine OrLaw.stop ?_)
local macro_rules | `(tactic| walk_at "eval ListComp") => `(tactic| (k_dflt (refine LCg.ListComp_U (F₀ := by k_asm) (by with_unfolding_all rfl) (by decide) (by rfl) (by decide) (by rfl) ?_)))
local macro_rules | `(tactic| walk_at "subscriptTail Name Constant ref int") => `(tactic| first | ((with_reducible show wpAny _ _ (subscriptTail _ _ (Value.ref _) (Value.int _ _)) _ _ _); (with_unfolding_all refine' item_list_ints ?k1 ?k2 ?k3 ?k4 ?k5 ?_; (case k1 => is_list); (case k2 => l_ints); (case k3 => l_idx); (case k4 => l_idx); (case k5 => l_idx); k_whole); intro _) | refine OrLaw.stop ?_)

theorem the_law : PySem.Challenge.rw_or0015_01.Holds := OrLaw.hd (by
  w_top off
  k_go0
  rename Fr _ _ _ _ => lF'
  refine or_mid4 lF' ?m1 ?m2
  case m1 =>
    k_fold
    k_steps
    rotate_left
    unfold Stop
    rename decide (_ = []) = false => hne
    rename IntsAre _ (List.take 5 _) => hI5
    rename (List.take 5 _).length = min 5 _ => hl5
    rename (List.take 5 _).length ≤ _ => hl6
    clear hl6
    rename List Int => ns
    generalize List.take 5 ns = cs at hI5 hl5
    have hn0 : ns.length ≠ 0 := fun z => by
      rw [List.eq_nil_of_length_eq_zero z] at hne
      cases hne
    clear hne
    rcases hI5 with _ | ⟨a1, b1, hI5⟩
    · exact absurd hl5 (by simp only [List.length_nil]; omega)
    rcases hI5 with _ | ⟨a2, b2, hI5⟩
    rotate_left
    rcases hI5 with _ | ⟨a3, b3, hI5⟩
    rotate_left
    rcases hI5 with _ | ⟨a4, b4, hI5⟩
    rotate_left
    rcases hI5 with _ | ⟨a5, b5, hI5⟩
    rotate_left
    rcases hI5 with _ | ⟨a6, b6, hI5⟩
    rotate_left
    · exact absurd hl5 (by simp only [List.length_cons]; omega)
    rotate_left
    rotate_right
    all_goals (try k_steps)
    all_goals (
      unfold Stop
      k_dflt refine pure_use (text1_spec _ _ _ _ _) (by k_asm) (by k_asm) (by k_asm) (by k_asm) (by k_asm) rfl trivial (by decide) (by decide) ?_
      rintro v h5 tk5 F5 N5 - ⟨fi, tfi, rfl, hfl, hfs⟩
      (try dsimp only)
      (try k_fold)
      k_steps
      unfold Stop
      k_dflt refine pure_use (text2_spec _ _ _ _ _) (by k_asm) (by k_asm) (by k_asm) (by k_asm) (by k_asm) rfl trivial (by decide) (by decide) ?_
      rintro v h6 tk6 F6 N6 - ⟨la, tla, rfl, hll, hls⟩
      (try dsimp only)
      (try k_fold)
      k_steps
      repeat (
        unfold Stop
        k_dflt refine pure_use (text3_spec _ _ _ _ _) (by k_asm) (by k_asm) (by k_asm) (by k_asm) (by k_asm) rfl trivial (by decide) (by decide) ?_
        rintro v h7 tk7 F7 N7 - ⟨x, tx, rfl, hx1, hx2⟩
        (try dsimp only)
        (try k_fold)
        k_steps)
      rename Fr _ _ _ _ => fE; rename News _ _ _ _ => nE
      refine mid_end fE nE (.head _) (by k_mem) ?_ hfl hll (by (repeat (first | exact List.forall_mem_nil _ | (refine List.forall_mem_cons.mpr ⟨by rfl, ?_⟩))))
      repeat (first
        | exact List.forall_mem_nil _
        | refine List.forall_mem_cons.mpr ⟨⟨_, _, rfl, nameOk1⟩, ?_⟩
        | refine List.forall_mem_cons.mpr ⟨⟨_, _, rfl, nameOk2⟩, ?_⟩
        | refine List.forall_mem_cons.mpr ⟨⟨_, _, rfl, nameOk_text ‹_› ‹_›⟩, ?_⟩))
  case m2 =>
    clear lF'
    intro h tk m D vs fi la tfi tla led lF' lN' hD h70 hv hfl hll
    k_fold
    k_steps
    change CodeHd _ 74 70 at codeHd
    rename Fr _ _ _ _ => lF'; rename News _ _ _ _ => lN'
    unfold Stop
    refine or_names [(Str.ofString "first", .str fi tfi), (Str.ofString "last", .str la tla)] rfl hD h70 hv lF' lN' ?g3 ?g4 ?g5
    case g3 => (repeat (first | exact List.forall_mem_nil _ | (refine List.forall_mem_cons.mpr ⟨by rfl, ?_⟩)))
    case g4 =>
      intro y t psx codes m₁ h tk own hG TL hoff h70 hF hN
      change Fr (ghostOf _ _) _ h _ at hF
      (try dsimp only at hF)
      clear lF' lN'
      k_fold
      k_steps
      unfold Stop
      k_dflt refine right_use (right_spec _ fi la y _ _ _ (by omega) (by omega) (by have := hG.1; omega) (nameOk_in hG)) _ (by k_asm) (by k_asm) hN h70 (by k_asm) (by k_asm) rfl codeHd TL (by decide) (by decide) ?_
      intro h1 tk1 ps1 codes1 F1 N1 TL1 ho1
      (try dsimp only)
      (try k_fold)
      k_steps
      unfold Stop
      k_dflt refine right_use (right_spec _ la (Str.ofString "") y _ _ _ (by omega) (by rw [str_len, cps0]; decide) (by have := hG.1; omega) (nameOk_in hG)) _ (by k_asm) (by k_asm) N1 h70 (by k_asm) (by k_asm) rfl codeHd TL1 (by decide) (by decide) ?_
      intro h2 tk2 ps2 codes2 F2 N2 TL2 ho2
      (try dsimp only)
      (try k_fold)
      k_steps
      unfold Stop
      k_dflt refine pure_use (listed_spec _ y y _ _ (by have := hG.1; omega) (by have := hG.1; omega) (nameOk_in hG)) (by k_asm) (by k_asm) (by k_asm) (by k_asm) (by k_asm) rfl trivial (by decide) (by decide) ?_
      rintro v h3 tk3 F3 N3 - rfl
      (try dsimp only)
      (try k_fold)
      rw [self_yes hG]
      have hK := kstMark
      have hy6 := hG.1
      k_steps
      unfold Stop
      k_dflt refine pure_use (listed_spec _ y (y ++ Str.ofString "a") _ _ (by omega) (by rw [str_len, app_cps, List.length_append, cps3, ← str_len]; simp only [List.length_cons, List.length_nil]; omega) (by rw [app_cps, cps3]; intro z; rcases List.mem_append.mp z with z | z; exact nameOk_in hG z; simp at z)) (by k_asm) (by k_asm) (by k_asm) (by k_asm) (by k_asm) rfl trivial (by decide) (by decide) ?_
      rintro v h4 tk4 F4 N4 - rfl
      (try dsimp only)
      (try k_fold)
      rw [self_more hG]
      k_steps
      unfold Stop
      k_dflt refine pure_use (listed_spec _ (Str.ofString "") y _ _ (by rw [str_len, cps0]; decide) (by omega) (nameOk_in hG)) (by k_asm) (by k_asm) (by k_asm) (by k_asm) (by k_asm) rfl trivial (by decide) (by decide) ?_
      rintro v h5 tk5 F5 N5 - rfl
      (try dsimp only)
      (try k_fold)
      k_steps
      · exact (bne_no (empty_meets y) ‹_›).elim
      · rename Fr _ _ _ _ => fE; rename News _ _ _ _ => nE
        exact names_end fE nE TL2 hoff (ho2 own (fun p hp => .tail _ hp) (ho1 own (fun p hp => .tail _ hp) (off_codes hoff))) (by (repeat (first | exact List.forall_mem_nil _ | (refine List.forall_mem_cons.mpr ⟨by rfl, ?_⟩))))
    case g5 =>
      intro psx codes m₁ h tk TL h70 hF hN
      (try dsimp only at hF)
      clear lF' lN'
      (try k_fold)
      k_steps
      unfold Stop
      k_dflt refine right_use (right_spec _ (Str.ofString "a") (Str.ofString "b") (Str.ofString "a/b") _ _ _ (by rw [str_len, cps3]; decide) (by rw [str_len, cps6]; decide) (by rw [str_len, cps1]; decide) (nameOk_in nameOk1)) _ (by k_asm) (by k_asm) hN h70 (by k_asm) (by k_asm) rfl codeHd TL (by decide) (by decide) ?_
      intro h1 tk1 ps1 codes1 F1 N1 TL1 ho1
      (try dsimp only)
      (try k_fold)
      k_steps
      unfold Stop
      k_dflt refine pure_use (listed_spec _ (Str.ofString "a%b") (Str.ofString "a/b") _ _ (by rw [str_len, cps4]; decide) (by rw [str_len, cps1]; decide) (nameOk_in nameOk1)) (by k_asm) (by k_asm) (by k_asm) (by k_asm) (by k_asm) rfl trivial (by decide) (by decide) ?_
      rintro v h3 tk3 F3 N3 - rfl
      (try dsimp only)
      (try k_fold)
      rw [end1]
      k_steps
      unfold Stop
      k_dflt refine pure_use (listed_spec _ (Str.ofString "a*b") (Str.ofString "a/b") _ _ (by rw [str_len, cps5]; decide) (by rw [str_len, cps1]; decide) (nameOk_in nameOk1)) (by k_asm) (by k_asm) (by k_asm) (by k_asm) (by k_asm) rfl trivial (by decide) (by decide) ?_
      rintro v h4 tk4 F4 N4 - rfl
      (try dsimp only)
      (try k_fold)
      rw [end2]
      k_steps
      unfold Stop
      k_dflt refine pure_use (listed_spec _ (Str.ofString "a%b") (Str.ofString "ab") _ _ (by rw [str_len, cps4]; decide) (by rw [str_len, cps2]; decide) (nameOk_in nameOk2)) (by k_asm) (by k_asm) (by k_asm) (by k_asm) (by k_asm) rfl trivial (by decide) (by decide) ?_
      rintro v h5 tk5 F5 N5 - rfl
      (try dsimp only)
      (try k_fold)
      rw [end3]
      k_steps)
end OrLaw

theorem PySem.Challenge.cw_or0015_01_holds : PySem.Challenge.rw_or0015_01.Holds :=
  OrLaw.the_law
