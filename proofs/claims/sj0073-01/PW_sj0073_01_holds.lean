import PyProof.Rows.All
import Wide.All
import OpenK.AllK
import Wide.FinOn
import PySem.Challenge.RW_sj0073_01
open PySem PySem.W PyProof.Rows
set_option Elab.async false
namespace Mine
set_option maxRecDepth 100000 in
set_option maxHeartbeats 8000000 in
open_top hd for PySem.Challenge.rw_sj0073_01
end Mine
open PySem.Calls PySem.Spec
set_option maxRecDepth 100000
local macro_rules | `(tactic| omega) => `(tactic| lia)
namespace Mine
/-- a frame's map, the names that count first -/
def mB (rest : Str → Option Value) : List (Str × Value) → Str → Option Value
  | [] => rest
  | p :: r => fun z => if z = p.1 then some p.2 else mB rest r z
theorem mB_eq {m : Str → Option Value} : ∀ {ps : List (Str × Value)}, (∀ p ∈ ps, m p.1 = some p.2) → mB m ps = m
  | [], _ => rfl
  | p :: r, h => by
    funext z
    show (if z = p.1 then some p.2 else mB m r z) = m z
    rw [mB_eq fun q hq => h q (.tail _ hq)]
    by_cases e : z = p.1
    · rw [if_pos e, e]; exact (h p (.head _)).symm
    · rw [if_neg e]
theorem mB_lookup : ∀ (ps : List (Str × Value)), (fun y => ps.lookup y) = mB (fun _ => none) ps
  | [] => rfl
  | p :: r => by
    funext z
    show List.lookup z (p :: r) = (if z = p.1 then some p.2 else mB (fun _ => none) r z)
    rw [← mB_lookup r, List.lookup_cons]
    by_cases e : z = p.1
    · rw [if_pos e, e]; simp
    · rw [if_neg e]
      have : (z == p.1) = false := by simpa using e
      rw [this]

theorem lk_hit {z : Str} {v : Value} {o : Option Value} : (if z = z then some v else o) = some v := if_pos rfl
theorem lk_miss {z x : Str} {v : Value} {o r : Option Value} (h : z ≠ x) (k : o = r) : (if z = x then some v else o) = r := (if_neg h).trans k

abbrev AA (dp un : Nat) (gd : Option (List Code)) (fr : List Env) : Around := { handled := none, depth := dp, frames := some fr, guards := gd, units := un }

/-- what a call may lean on: the frames that stand, the text's own objects, the top -/
structure Stage (w : World) (p : Program) (loose : List Str) (mean : ExcName → Option Value) (mg mb : Str → Option Value) (A : Around) (fr : List Env) (base h : Heap) : Prop where
  below : Below A base fr h
  kin : (hd.heap_39 w.params).In h
  top : Top p loose mean mg mb h

/-- a call whose answer is a new list of ints, and that changes nothing that stands -/
def RetL (prog : Program) (w : World) (p : Program) (loose : List Str) (mean : ExcName → Option Value) (mg mb : Str → Option Value) (k : Nat) (f : Addr) (vs : List Value) (s : Shared) (out : List Int) : Prop :=
  ∀ (dp un : Nat) (gd : Option (List Code)) (fr : List Env) (base : Heap) (Q E : Value → Shared → Prop),
    Stage w p loose mean mg mb (AA dp un gd fr) fr base s.heap → dp + k ≤ 900 → un + 8 * k ≤ 9000 →
    (∀ l us n h' tk', (∀ b o, s.heap.get? b = some o → h'.get? b = some o) → s.heap.get? l = none → h'.get? l = some (listOf us.toArray n) → IntsAre us out → Q (.ref l) { s with heap := h', toks := tk' }) →
    wpAny (model prog w) (AA dp un gd fr) (call (.ref f) vs) Q E s
/-- the same, its answer the int that R tells -/
def RetI (prog : Program) (w : World) (p : Program) (loose : List Str) (mean : ExcName → Option Value) (mg mb : Str → Option Value) (k : Nat) (f : Addr) (vs : List Value) (s : Shared) (out : Int) : Prop :=
  ∀ (dp un : Nat) (gd : Option (List Code)) (fr : List Env) (base : Heap) (Q E : Value → Shared → Prop),
    Stage w p loose mean mg mb (AA dp un gd fr) fr base s.heap → dp + k ≤ 900 → un + 8 * k ≤ 9000 →
    (∀ t h' tk', (∀ b o, s.heap.get? b = some o → h'.get? b = some o) → Q (.int out t) { s with heap := h', toks := tk' }) →
    wpAny (model prog w) (AA dp un gd fr) (call (.ref f) vs) Q E s

/-- the same, but the answer may be the list at lg that stood before -/
def RetA (prog : Program) (w : World) (p : Program) (loose : List Str) (mean : ExcName → Option Value) (mg mb : Str → Option Value) (k : Nat) (f : Addr) (vs : List Value) (lg : Addr) (s : Shared) (out : List Int) : Prop :=
  ∀ (dp un : Nat) (gd : Option (List Code)) (fr : List Env) (base : Heap) (Q E : Value → Shared → Prop),
    Stage w p loose mean mg mb (AA dp un gd fr) fr base s.heap → dp + k ≤ 900 → un + 8 * k ≤ 9000 →
    (∀ l us n h' tk', (∀ b o, s.heap.get? b = some o → h'.get? b = some o) → (s.heap.get? l = none ∨ l = lg) → h'.get? l = some (listOf us.toArray n) → IntsAre us out → Q (.ref l) { s with heap := h', toks := tk' }) →
    wpAny (model prog w) (AA dp un gd fr) (call (.ref f) vs) Q E s

section
variable {prog : Program} {w : World} {p : Program} {loose : List Str} {mean : ExcName → Option Value} {mg mb : Str → Option Value}
theorem enter {dp un : Nat} {gd : Option (List Code)} {fr : List Env} {base : Heap} {s : Shared} {Q E : Value → Shared → Prop}
    {K : Nat} {name qual : Str} {params : Arguments} {body : List Stmt} {scope : Scope} {dV kV doc pm cdv ct oc : Value} {an od : Option Addr} {osl : Array (Option Value)} {f : Addr} {vs : List Value} (binds : List (Str × Value))
    (S : Stage w p loose mean mg mb (AA dp un gd fr) fr base s.heap)
    (ho : (hd.heap_39 w.params).lookup f = some ⟨oc, od, .func (fnOf name qual params body scope dV kV doc pm an cdv ct), osl⟩) (hcd : codeIn (hd.heap_39 w.params) cdv qual = true)
    (hroom : dp + K ≤ 900) (hbind : BindsTo s (fnOf name qual params body scope dV kV doc pm an cdv ct) ⟨vs, []⟩ binds.reverse) (hloc : ∀ y ∈ binds.reverse, scope.names.lookup y.1 = some .local)
    (h : ∀ L h₁ tk, Fr s.heap L h₁ (mB (fun _ => none) binds) → News s.heap L h₁ [] → Stage w p loose mean mg mb (AA dp un gd fr) fr base s.heap → (hd.heap_39 w.params).In s.heap → Top p loose mean mg mb s.heap →
      ∀ Q9 : Flow → Shared → Prop, (∀ v u, Q v u → Q9 (.ret v) u) → wpAny (model prog w) (AA (dp + 1) (un + 3) gd (envOf qual scope L f cdv :: fr)) (execs body (envOf qual scope L f cdv)) Q9 (fun _ _ => False) { s with heap := h₁, toks := tk })
    (hco : scope.isCoroutine = false) (hgen : scope.isGenerator = false) (hk : scope.kind = .function)
    (hcell : ∀ x ∈ scope.names, x.2 ≠ .cell) : wpAny (model prog w) (AA dp un gd fr) (call (.ref f) vs) Q E s := by
  refine wpAny_call ?_
  refine codeAny_call_def (fd := fnOf name qual params body scope dV kV doc pm an cdv ct) (body := body) (binds := binds.reverse) (Nat.lt_of_le_of_lt (Nat.le_trans (Nat.le_add_right dp K) hroom) (by decide)) (S.kin _ _ ho) rfl S.top.nolimit (codeRec_of S.kin hcd) rfl hbind hcell hloc (fun h₁ hns hk₁ => ?_) hco hgen hk
  have e : (fun x => binds.reverse.reverse.lookup x) = mB (fun _ => none) binds := by rw [List.reverse_reverse]; exact mB_lookup binds
  rw [e] at hns
  exact wpAny_noRaise (h _ h₁ _ ⟨hns, hk₁, Nat.le_refl _⟩ (fun p hp => nomatch hp) S S.kin S.top _ fun _ _ x => x)

variable {dp un : Nat} {gd : Option (List Code)} {fr : List Env} {base h₀ : Heap} {s : Shared} {Q E : Value → Shared → Prop} {L : Addr} {m : Str → Option Value} {news : List (Addr × Obj)} {env : Env}
theorem stage_push (S : Stage w p loose mean mg mb (AA dp un gd fr) fr base h₀) (F : Fr h₀ L s.heap m) (hf : env.frame = some L) (hk : env.scope.kind = .function) :
    Stage w p loose mean mg mb (AA (dp + 1) (un + 3) gd (env :: fr)) (env :: fr) base s.heap := by
  have B := pushX S.below F hf hk
  exact ⟨⟨rfl, B.stays, B.frames⟩, S.kin.keeps F.keep, topKeeps S.top F.keep⟩
where topKeeps {h h' : Heap} (T : Top p loose mean mg mb h) (hk : ∀ b o, h.get? b = some o → h'.get? b = some o) : Top p loose mean mg mb h' := T.keeps hk

theorem useL {k : Nat} {f : Addr} {vs : List Value} {out : List Int} (S : Stage w p loose mean mg mb (AA dp un gd fr) fr base h₀) (F : Fr h₀ L s.heap m) (N : News h₀ L s.heap news) (hf : env.frame = some L) (hk : env.scope.kind = .function)
    (C : RetL prog w p loose mean mg mb k f vs s out) (hd1 : dp + 1 + k ≤ 900) (hu : un + 3 + 8 * k ≤ 9000)
    (ret : ∀ l us n h' tk', Fr h₀ L h' m → News h₀ L h' ((l, listOf us.toArray n) :: news) → (∀ p ∈ news, p.1 ≠ l) → IntsAre us out → Q (.ref l) { s with heap := h', toks := tk' }) :
    wpAny (model prog w) (AA (dp + 1) (un + 3) gd (env :: fr)) (call (.ref f) vs) Q E s := by
  refine C _ _ _ _ _ _ _ (stage_push S F hf hk) hd1 hu fun l us n h' tk' hk' hnew hl hi => ?_
  refine ret l us n h' tk' (F.keeps hk') (fun p hp => ?_) (fun p hp e => ?_) hi
  · rcases List.mem_cons.mp hp with rfl | hp
    · refine ⟨hl, fun e => ?_, ?_⟩
      · obtain ⟨o, es, ep, hL, _⟩ := F.ns
        rw [show l = L from e] at hnew
        rw [hnew] at hL; cases hL
      · cases q : h₀.get? l with
        | none => rfl
        | some o => have := F.keep _ _ q; rw [hnew] at this; cases this
    · exact ⟨hk' _ _ (N p hp).1, (N p hp).2⟩
  · have := (N p hp).1
    rw [e, hnew] at this; cases this
theorem useA {k : Nat} {f : Addr} {vs : List Value} {lg : Addr} {og : Obj} {out : List Int} (S : Stage w p loose mean mg mb (AA dp un gd fr) fr base h₀) (F : Fr h₀ L s.heap m) (N : News h₀ L s.heap news) (hf : env.frame = some L) (hk : env.scope.kind = .function)
    (C : RetA prog w p loose mean mg mb k f vs lg s out) (hm : (lg, og) ∈ news) (hd1 : dp + 1 + k ≤ 900) (hu : un + 3 + 8 * k ≤ 9000)
    (ret : ∀ l us n h' tk', Fr h₀ L h' m → News h₀ L h' ((l, listOf us.toArray n) :: news) → IntsAre us out → Q (.ref l) { s with heap := h', toks := tk' }) :
    wpAny (model prog w) (AA (dp + 1) (un + 3) gd (env :: fr)) (call (.ref f) vs) Q E s := by
  refine C _ _ _ _ _ _ _ (stage_push S F hf hk) hd1 hu fun l us n h' tk' hk' hnew hl hi => ?_
  refine ret l us n h' tk' (F.keeps hk') (fun p hp => ?_) hi
  rcases List.mem_cons.mp hp with rfl | hp
  · rcases hnew with hnew | rfl
    · refine ⟨hl, fun e => ?_, ?_⟩
      · obtain ⟨o, es, ep, hL, _⟩ := F.ns
        rw [show l = L from e] at hnew
        rw [hnew] at hL; cases hL
      · cases q : h₀.get? l with
        | none => rfl
        | some o => have := F.keep _ _ q; rw [hnew] at this; cases this
    · exact ⟨hl, (N _ hm).2.1, (N _ hm).2.2⟩
  · exact ⟨hk' _ _ (N p hp).1, (N p hp).2⟩
theorem useI {k : Nat} {f : Addr} {vs : List Value} {out : Int} (S : Stage w p loose mean mg mb (AA dp un gd fr) fr base h₀) (F : Fr h₀ L s.heap m) (N : News h₀ L s.heap news) (hf : env.frame = some L) (hk : env.scope.kind = .function)
    (C : RetI prog w p loose mean mg mb k f vs s out) (hd1 : dp + 1 + k ≤ 900) (hu : un + 3 + 8 * k ≤ 9000)
    (ret : ∀ t h' tk', Fr h₀ L h' m → News h₀ L h' news → Q (.int out t) { s with heap := h', toks := tk' }) :
    wpAny (model prog w) (AA (dp + 1) (un + 3) gd (env :: fr)) (call (.ref f) vs) Q E s := by
  refine C _ _ _ _ _ _ _ (stage_push S F hf hk) hd1 hu fun t h' tk' hk' => ?_
  exact ret t h' tk' (F.keeps hk') fun p hp => ⟨hk' _ _ (N p hp).1, (N p hp).2⟩

theorem room1 {dp k K : Nat} (h : dp + K ≤ 900) (hK : k + 1 ≤ K) : dp + 1 + k ≤ 900 := by omega
theorem room2 {un k K : Nat} (h : un + 8 * K ≤ 9000) (hK : k + 1 ≤ K) : un + 3 + 8 * k ≤ 9000 := by omega
theorem callL {k K : Nat} {f : Addr} {vs : List Value} {out : List Int} (S : Stage w p loose mean mg mb (AA dp un gd fr) fr base h₀) (F : Fr h₀ L s.heap m) (N : News h₀ L s.heap news) (hf : env.frame = some L) (hk : env.scope.kind = .function)
    (C : RetL prog w p loose mean mg mb k f vs s out) (hd1 : dp + K ≤ 900) (hu : un + 8 * K ≤ 9000) (hK : k + 1 ≤ K)
    (ret : ∀ l us n h' tk', Fr h₀ L h' m → News h₀ L h' ((l, listOf us.toArray n) :: news) → (∀ p ∈ news, p.1 ≠ l) → IntsAre us out → Q (.ref l) { s with heap := h', toks := tk' }) :
    wpAny (model prog w) (AA (dp + 1) (un + 3) gd (env :: fr)) (call (.ref f) vs) Q E s := useL S F N hf hk C (room1 hd1 hK) (room2 hu hK) ret
theorem callI {k K : Nat} {f : Addr} {vs : List Value} {out : Int} (S : Stage w p loose mean mg mb (AA dp un gd fr) fr base h₀) (F : Fr h₀ L s.heap m) (N : News h₀ L s.heap news) (hf : env.frame = some L) (hk : env.scope.kind = .function)
    (C : RetI prog w p loose mean mg mb k f vs s out) (hd1 : dp + K ≤ 900) (hu : un + 8 * K ≤ 9000) (hK : k + 1 ≤ K)
    (ret : ∀ t h' tk', Fr h₀ L h' m → News h₀ L h' news → Q (.int out t) { s with heap := h', toks := tk' }) :
    wpAny (model prog w) (AA (dp + 1) (un + 3) gd (env :: fr)) (call (.ref f) vs) Q E s := useI S F N hf hk C (room1 hd1 hK) (room2 hu hK) ret
theorem callA {k K : Nat} {f : Addr} {vs : List Value} {lg : Addr} {og : Obj} {out : List Int} (S : Stage w p loose mean mg mb (AA dp un gd fr) fr base h₀) (F : Fr h₀ L s.heap m) (N : News h₀ L s.heap news) (hf : env.frame = some L) (hk : env.scope.kind = .function)
    (C : RetA prog w p loose mean mg mb k f vs lg s out) (hm : (lg, og) ∈ news) (hd1 : dp + K ≤ 900) (hu : un + 8 * K ≤ 9000) (hK : k + 1 ≤ K)
    (ret : ∀ l us n h' tk', Fr h₀ L h' m → News h₀ L h' ((l, listOf us.toArray n) :: news) → IntsAre us out → Q (.ref l) { s with heap := h', toks := tk' }) :
    wpAny (model prog w) (AA (dp + 1) (un + 3) gd (env :: fr)) (call (.ref f) vs) Q E s := useA S F N hf hk C hm (room1 hd1 hK) (room2 hu hK) ret
/-- a callee's end: a new list -/
theorem endL {out : List Int} {l : Addr} {us : List Value} {n : Nat} {h' : Heap} {tk' : Nat} (ret : ∀ l us n h' tk', (∀ b o, s.heap.get? b = some o → h'.get? b = some o) → s.heap.get? l = none → h'.get? l = some (listOf us.toArray n) → IntsAre us out → Q (.ref l) { s with heap := h', toks := tk' })
    (F : Fr s.heap L h' m) (N : News s.heap L h' news) (hm : (l, listOf us.toArray n) ∈ news) (hi : IntsAre us out) : Q (.ref l) { s with heap := h', toks := tk' } :=
  ret l us n h' tk' F.keep (N _ hm).2.2 (N _ hm).1 hi
end

theorem endA {s : Shared} {Q : Value → Shared → Prop} {L : Addr} {m : Str → Option Value} {news : List (Addr × Obj)} {out : List Int} {lg l : Addr} {us : List Value} {n : Nat} {h' : Heap} {tk' : Nat} (ret : ∀ l us n h' tk', (∀ b o, s.heap.get? b = some o → h'.get? b = some o) → (s.heap.get? l = none ∨ l = lg) → h'.get? l = some (listOf us.toArray n) → IntsAre us out → Q (.ref l) { s with heap := h', toks := tk' })
    (F : Fr s.heap L h' m) (N : News s.heap L h' news) (hm : (l, listOf us.toArray n) ∈ news) (hi : IntsAre us out) : Q (.ref l) { s with heap := h', toks := tk' } :=
  ret l us n h' tk' F.keep (.inl (N _ hm).2.2) (N _ hm).1 hi
theorem endA0 {s : Shared} {Q : Value → Shared → Prop} {L : Addr} {m : Str → Option Value} {out : List Int} {lg : Addr} {us : List Value} {n : Nat} {h' : Heap} {tk' : Nat} (ret : ∀ l us n h' tk', (∀ b o, s.heap.get? b = some o → h'.get? b = some o) → (s.heap.get? l = none ∨ l = lg) → h'.get? l = some (listOf us.toArray n) → IntsAre us out → Q (.ref l) { s with heap := h', toks := tk' })
    (F : Fr s.heap L h' m) (hg : s.heap.get? lg = some (listOf us.toArray n)) (hi : IntsAre us out) : Q (.ref lg) { s with heap := h', toks := tk' } :=
  ret lg us n h' tk' F.keep (.inr rfl) (F.keep _ _ hg) hi
theorem endI {s : Shared} {Q : Value → Shared → Prop} {L : Addr} {m : Str → Option Value} {out v : Int} {t : Tok} {h' : Heap} {tk' : Nat} (ret : ∀ t h' tk', (∀ b o, s.heap.get? b = some o → h'.get? b = some o) → Q (.int out t) { s with heap := h', toks := tk' })
    (F : Fr s.heap L h' m) (e : out = v) : Q (.int v t) { s with heap := h', toks := tk' } := e ▸ ret t h' tk' F.keep

def WEnd {σ : Type} (h₀ : Heap) (L : Addr) (s : Shared) (ps : σ → List (Str × Value)) (Led : σ → List (Addr × Obj)) (P : σ → Prop) (μ : σ → Nat) (c : σ) (s₂ : Shared) : Prop :=
  ∃ (c' : σ) (h' : Heap) (tk : Nat) (m' : Str → Option Value) (news' : List (Addr × Obj)), s₂ = { s with heap := h', toks := tk } ∧ Fr h₀ L h' m' ∧ News h₀ L h' news' ∧ (∀ p ∈ Led c', p ∈ news') ∧ (∀ p ∈ ps c', m' p.1 = some p.2) ∧ P c' ∧ μ c' < μ c
def WPost {σ : Type} (h₀ : Heap) (L : Addr) (s : Shared) (ps : σ → List (Str × Value)) (Led : σ → List (Addr × Obj)) (P : σ → Prop) (μ : σ → Nat) (Q : Flow → Shared → Prop) (c : σ) (f : Flow) (s₂ : Shared) : Prop :=
  match f with
  | .ret v => Q (.ret v) s₂
  | .brk => Q .next s₂
  | _ => WEnd h₀ L s ps Led P μ c s₂
theorem wend {σ : Type} {h₀ : Heap} {L : Addr} {s : Shared} {ps : σ → List (Str × Value)} {Led : σ → List (Addr × Obj)} {P : σ → Prop} {μ : σ → Nat} {c : σ} {h' : Heap} {tk : Nat} {m' : Str → Option Value} {news' : List (Addr × Obj)} (c' : σ)
    (F : Fr h₀ L h' m') (N : News h₀ L h' news') (hn : ∀ p ∈ Led c', p ∈ news') (hk : ∀ p ∈ ps c', m' p.1 = some p.2) (hp : P c') (hm : μ c' < μ c) :
    WEnd h₀ L s ps Led P μ c { s with heap := h', toks := tk } := ⟨c', h', tk, m', news', rfl, F, N, hn, hk, hp, hm⟩

section
variable {prog : Program} {w : World} {A : Around} {E : Value → Shared → Prop} {Q : Flow → Shared → Prop} {s : Shared} {env : Env} {h₀ : Heap} {L : Addr}
theorem my_while {σ : Type} {test : Expr} {body : List Stmt} {pos : Pos} {m₀ : Str → Option Value} {news : List (Addr × Obj)} (ps : σ → List (Str × Value)) (Led : σ → List (Addr × Obj)) (P : σ → Prop) (μ : σ → Nat) (c₀ : σ)
    (F : Fr h₀ L s.heap m₀) (N : News h₀ L s.heap news) (hn : ∀ p ∈ Led c₀, p ∈ news) (hk : ∀ p ∈ ps c₀, m₀ p.1 = some p.2) (hp : P c₀)
    (turn : ∀ (c : σ) (u : Str → Option Value) h tk, P c → Fr h₀ L h (mB u (ps c)) → News h₀ L h (Led c) → ∀ QT : Flow → Shared → Prop, (∀ f u, WPost h₀ L s ps Led P μ Q c f u → QT f u) →
      wpAny (model prog w) A (isTrue test env (eval test env)) (fun b s₂ =>
        if b = true then wpAny (model prog w) A (execs body env) QT E s₂ else Q .next s₂) E { s with heap := h, toks := tk })
    (hE : PassesOwn (model prog w) A env E := by passes_own) :
    wpAny (model prog w) A (exec (.While test body [] pos) env) Q E s := by
  refine While_inv2 (fun n m nx => ∃ c : σ, nx = Led c ∧ μ c = n ∧ (∀ p ∈ ps c, m p.1 = some p.2) ∧ P c) F (fun p hp => N p (hn p hp)) ⟨c₀, rfl, rfl, hk, hp⟩ ?_ hE
  rintro n m₁ nx h tk F₁ N₁ ⟨c, hnx, hsz, h1, hp'⟩
  rw [hnx] at N₁
  rw [← hsz]
  rw [← mB_eq h1] at F₁
  refine wpAny_mono (turn c m₁ h tk hp' F₁ N₁ (WPost h₀ L s ps Led P μ Q c) fun _ _ x => x) (fun b s₂ p => ?_) fun _ _ x => x
  cases b with
  | false => simpa using p
  | true =>
    simp only [if_true] at p ⊢
    refine wpAny_mono p (fun f s₃ q => ?_) fun _ _ x => x
    cases f with
    | ret v => exact q
    | brk => exact q
    | next =>
      obtain ⟨c', h', tk', m', news', rfl, F', N', hn, hk9, hp9, hm9⟩ := q
      exact ⟨h', tk', m', Led c', μ c', rfl, F', fun p hp => N' p (hn p hp), hm9, c', rfl, rfl, hk9, hp9⟩
    | cont =>
      obtain ⟨c', h', tk', m', news', rfl, F', N', hn, hk9, hp9, hm9⟩ := q
      exact ⟨h', tk', m', Led c', μ c', rfl, F', fun p hp => N' p (hn p hp), hm9, c', rfl, rfl, hk9, hp9⟩
end

def LEnd {σ : Type} (h₀ : Heap) (L : Addr) (s : Shared) (ps : σ → List (Str × Value)) (Led : σ → List (Addr × Obj)) (own : List (Addr × Obj)) (I : Addr) (P : σ → Prop) (s₂ : Shared) : Prop :=
  ∃ (c' : σ) (h' : Heap) (tk : Nat) (m' : Str → Option Value) (news' : List (Addr × Obj)), s₂ = { s with heap := h', toks := tk } ∧ Fr h₀ L h' m' ∧ News h₀ L h' news' ∧ (∀ p ∈ Led c', p ∈ news') ∧ (∀ p ∈ own, p ∈ news') ∧ (∀ p ∈ Led c', p.1 ≠ I) ∧ (∀ p ∈ ps c', m' p.1 = some p.2) ∧ P c'
def LPost {σ : Type} (h₀ : Heap) (L : Addr) (s : Shared) (ps : σ → List (Str × Value)) (Led : σ → List (Addr × Obj)) (own : List (Addr × Obj)) (I : Addr) (P : σ → Prop) (Q : Flow → Shared → Prop) (f : Flow) (s₂ : Shared) : Prop :=
  match f with
  | .ret v => Q (.ret v) s₂
  | .brk => Q .next s₂
  | _ => LEnd h₀ L s ps Led own I P s₂
theorem lend {σ : Type} {h₀ : Heap} {L : Addr} {s : Shared} {ps : σ → List (Str × Value)} {Led : σ → List (Addr × Obj)} {own : List (Addr × Obj)} {I : Addr} {P : σ → Prop} {h' : Heap} {tk : Nat} {m' : Str → Option Value} {news' : List (Addr × Obj)} (c' : σ)
    (F : Fr h₀ L h' m') (N : News h₀ L h' news') (hn : ∀ p ∈ Led c', p ∈ news') (ho : ∀ p ∈ own, p ∈ news') (hI : ∀ p ∈ Led c', p.1 ≠ I) (hk : ∀ p ∈ ps c', m' p.1 = some p.2) (hp : P c') :
    LEnd h₀ L s ps Led own I P { s with heap := h', toks := tk } := ⟨c', h', tk, m', news', rfl, F, N, hn, ho, hI, hk, hp⟩

section
variable {prog : Program} {w : World} {A : Around} {E : Value → Shared → Prop} {Q : Flow → Shared → Prop} {s : Shared} {env : Env} {h₀ : Heap} {x : Str} {body : List Stmt}
/-- any loop: its state is c; the iterator writes its own object I alone -/
theorem my_loop {σ : Type} {I : Addr} {fp : List Addr} {n : Nat} {Pit : Nat → Value → Prop} {St : Nat → Heap → Prop} {m₀ : Str → Option Value} {news : List (Addr × Obj)} (ps : σ → List (Str × Value)) (Led : σ → List (Addr × Obj)) (Inv : Nat → σ → Prop) (c₀ : σ)
    (W : Walks prog w A I fp [I] n Pit St) (hLf : env.locals ∉ fp) (hI0 : h₀.get? I = none) (hnI : ∀ p ∈ Led c₀, p.1 ≠ I) (hst : St 0 s.heap)
    (F : Fr h₀ env.locals s.heap m₀) (N : News h₀ env.locals s.heap news) (hn : ∀ p ∈ Led c₀, p ∈ news) (hk : ∀ p ∈ ps c₀, m₀ p.1 = some p.2) (hi : Inv 0 c₀)
    (turn : ∀ i v c (u : Str → Option Value) h tk own, i < n → Pit i v → Inv i c → (∀ p ∈ Led c, p.1 ≠ I) → (∀ p ∈ own, p.1 ∈ fp) → (∀ p ∈ own, h.get? p.1 = some p.2) → (∀ b ∈ fp, h₀.get? b = none → ∀ o, h.get? b = some o → (b, o) ∈ own) → St (i + 1) h →
      Fr h₀ env.locals h (fun y => if y = x then some v else mB u (ps c) y) → News h₀ env.locals h (Led c ++ own) →
      ∀ QT : Flow → Shared → Prop, (∀ f u, LPost h₀ env.locals { s with heap := h, toks := tk } ps Led own I (Inv (i + 1)) Q f u → QT f u) → wpAny (model prog w) A (execs body env) QT E { s with heap := h, toks := tk })
    (done : ∀ c (u : Str → Option Value) h tk, Inv n c → Fr h₀ env.locals h (mB u (ps c)) → News h₀ env.locals h (Led c) → Q .next { s with heap := h, toks := tk }) :
    LoopAtV prog w A h₀ env x body Q E (.ref I) s := by
  refine ⟨I, fp, [I], n, Pit, St, m₀, Led c₀, (fun i m nx => ∃ c, nx = Led c ∧ (∀ p ∈ ps c, m p.1 = some p.2) ∧ Inv i c), rfl, W, hLf, ?_, ?_, hst, F, fun p hp => N p (hn p hp), ⟨c₀, rfl, hk, hi⟩, ?_, ?_⟩
  · intro b hb; rw [List.mem_singleton.mp hb]; exact hI0
  · intro p hp hb; exact hnI p hp (List.mem_singleton.mp hb)
  · rintro i v m₁ nx s₁ own ⟨hh, tk, rfl⟩ hin hP ⟨c, rfl, h1, hinv⟩ hoff hown hat hall hst' F₁ N₁
    rw [← mB_eq h1] at F₁
    have N₂ : News h₀ env.locals hh (Led c ++ own) := fun p hp => N₁ p ((List.mem_append.mp hp).elim (fun h => List.mem_append.mpr (.inr h)) fun h => List.mem_append.mpr (.inl h))
    refine wpAny_mono (turn i v c m₁ hh tk own hin hP hinv (fun p hp e => hoff p hp (List.mem_singleton.mpr e)) hown hat hall hst' F₁ N₂ _ fun _ _ x => x) (fun f s₂ q => ?_) fun _ _ e => e
    have fin : LEnd h₀ env.locals { s with heap := hh, toks := tk } ps Led own I (Inv (i + 1)) s₂ → LoopStepU h₀ env.locals [I] own (fun m nx => ∃ c, nx = Led c ∧ (∀ p ∈ ps c, m p.1 = some p.2) ∧ Inv (i + 1) c) { s with heap := hh, toks := tk } .next s₂ := by
      rintro ⟨c', h', tk', m', news', rfl, F', N', hn', ho', hI', hk', hp'⟩
      exact ⟨rfl, h', tk', m', Led c', rfl, F', fun p hp => N' p ((List.mem_append.mp hp).elim (ho' p) (hn' p)), fun p hp hb => hI' p hp (List.mem_singleton.mp hb), c', rfl, hk', hp'⟩
    cases f with
    | ret v => exact .ret q
    | brk => exact .brk q
    | next => exact .next (fin q)
    | cont => exact .cont (fin q)
  · rintro h' tk m' nx F' N' _ ⟨c, rfl, h1, hinv⟩
    rw [← mB_eq h1] at F'
    exact done c m' h' tk hinv F' N'

theorem my_range {σ : Type} {r : Addr} {a₀ b₀ st : Int} {t₀ u₀ v₀ : Tok} {n : Nat} {m₀ : Str → Option Value} {news : List (Addr × Obj)} (ps : σ → List (Str × Value)) (Led : σ → List (Addr × Obj)) (Inv : Nat → σ → Prop) (c₀ : σ)
    (hh : A.handled = none) (hr : IsRange s.heap r a₀ b₀ st t₀ u₀ v₀) (hsmall : Builtin.Range.small a₀ b₀ st = true) (hsz : Builtin.Range.rangeSize a₀ b₀ st = (n : Int))
    (F : Fr h₀ env.locals s.heap m₀) (N : News h₀ env.locals s.heap news) (hn : ∀ p ∈ Led c₀, p ∈ news) (hk : ∀ p ∈ ps c₀, m₀ p.1 = some p.2) (hi : Inv 0 c₀)
    (turn : ∀ (i : Nat) t c (u : Str → Option Value) h tk I o, i < n → Inv i c → (∀ p ∈ Led c, p.1 ≠ I) →
      Fr h₀ env.locals h (fun y => if y = x then some (.int (a₀ + i * st) t) else mB u (ps c) y) → News h₀ env.locals h (Led c ++ [(I, o)]) →
      ∀ QT : Flow → Shared → Prop, (∀ f u, LPost h₀ env.locals { s with heap := h, toks := tk } ps Led [(I, o)] I (Inv (i + 1)) Q f u → QT f u) → wpAny (model prog w) A (execs body env) QT E { s with heap := h, toks := tk })
    (done : ∀ c (u : Str → Option Value) h tk, Inv n c → Fr h₀ env.locals h (mB u (ps c)) → News h₀ env.locals h (Led c) → Q .next { s with heap := h, toks := tk }) :
    wpAny (model prog w) A (pyIter (.ref r)) (fun it s₂ => LoopAtV prog w A h₀ env x body Q E it s₂) E s := by
  refine wpAny_pyIter_range hr hsmall ?_
  have W : Walks prog w A s.heap.objs.size [s.heap.objs.size] [s.heap.objs.size] n (fun i v => i < n ∧ ∃ t, v = .int (a₀ + i * st) t)
      (fun i h => IsRangeIter h s.heap.objs.size (a₀ + (i : Nat) * st) ((n : Int) - (i : Nat)) st) := (Walks.range hh _ a₀ st n).bound
  refine my_loop (s := { s with heap := _ }) ps Led Inv c₀ W ?_ (next_is_new F) ?_ (by show IsRangeIter _ _ _ _ _; rw [hsz]; simpa using Heap.get?_push_size _ rfl) (F.push _) (fun p hp => ⟨Heap.get?_push_of_some _ (N p hp).1, (N p hp).2⟩) hn hk hi ?_ done
  · intro hm
    exact absurd F.ns.lt ((List.mem_singleton.mp hm) ▸ Nat.lt_irrefl _)
  · intro p hp e
    exact absurd (Heap.lt_size (N p (hn p hp)).1) (e ▸ Nat.lt_irrefl _)
  · rintro i v c u h tk own hi ⟨_, t, rfl⟩ hinv hoff hown hat hall hst F₁ N₁ QT hQT
    have hio := hall _ (List.mem_singleton.mpr rfl) (next_is_new F) _ hst
    have hone : ∀ p ∈ own, p ∈ [(s.heap.objs.size, _)] := fun p hp => by
      have e1 := List.mem_singleton.mp (hown p hp)
      have e2 := hat p hp
      rw [e1, hst] at e2
      exact List.mem_singleton.mpr (Prod.ext e1 (Option.some.inj e2).symm)
    refine wpAny_mono (turn i t c u h tk _ _ hi hinv hoff F₁ (fun p hp => N₁ p ((List.mem_append.mp hp).elim (fun h => List.mem_append.mpr (.inl h)) fun h => List.mem_append.mpr (.inr (by rw [List.mem_singleton.mp h]; exact hio)))) _ fun _ _ x => x) (fun f s₂ q => hQT _ _ ?_) fun _ _ e => e
    cases f with
    | ret v => exact q
    | brk => exact q
    | next =>
      obtain ⟨c', h', tk', m', news', e, F', N', hn', ho', r⟩ := q
      exact ⟨c', h', tk', m', news', e, F', N', hn', fun p hp => ho' p (hone p hp), r⟩
    | cont =>
      obtain ⟨c', h', tk', m', news', e, F', N', hn', ho', r⟩ := q
      exact ⟨c', h', tk', m', news', e, F', N', hn', fun p hp => ho' p (hone p hp), r⟩

/-- over a list that stood before the call -/
theorem my_list {σ : Type} {l : Addr} {vs : List Value} {ns : List Int} {m₀ : Str → Option Value} {news : List (Addr × Obj)} (ps : σ → List (Str × Value)) (Led : σ → List (Addr × Obj)) (Inv : Nat → σ → Prop) (c₀ : σ)
    (hh : A.handled = none) (hl : h₀.IsList l vs.toArray) (hints : IntsAre vs ns)
    (F : Fr h₀ env.locals s.heap m₀) (N : News h₀ env.locals s.heap news) (hn : ∀ p ∈ Led c₀, p ∈ news) (hk : ∀ p ∈ ps c₀, m₀ p.1 = some p.2) (hi : Inv 0 c₀)
    (turn : ∀ (i : Nat) t c (u : Str → Option Value) h tk I o, i < ns.length → Inv i c → (∀ p ∈ Led c, p.1 ≠ I) →
      Fr h₀ env.locals h (fun y => if y = x then some (.int (ns.getD i 0) t) else mB u (ps c) y) → News h₀ env.locals h (Led c ++ [(I, o)]) →
      ∀ QT : Flow → Shared → Prop, (∀ f u, LPost h₀ env.locals { s with heap := h, toks := tk } ps Led [(I, o)] I (Inv (i + 1)) Q f u → QT f u) → wpAny (model prog w) A (execs body env) QT E { s with heap := h, toks := tk })
    (done : ∀ c (u : Str → Option Value) h tk, Inv ns.length c → Fr h₀ env.locals h (mB u (ps c)) → News h₀ env.locals h (Led c) → Q .next { s with heap := h, toks := tk }) :
    wpAny (model prog w) A (pyIter (.ref l)) (fun it s₂ => LoopAtV prog w A h₀ env x body Q E it s₂) E s := by
  have hls : s.heap.IsList l vs.toArray := hl.at fun o e => F.keep l o e
  obtain ⟨ol, hol, _⟩ := id hl
  have hlt : l < h₀.objs.size := Heap.lt_size hol
  have hne : l ≠ s.heap.objs.size := Nat.ne_of_lt (Nat.lt_trans (Nat.lt_of_lt_of_le hlt F.above) F.ns.lt)
  refine wpAny_pyIter_list hls ?_
  have W := Walks.list (prog := prog) (w := w) hh s.heap.objs.size l hne vs.toArray
  have hlen : vs.toArray.size = ns.length := by simp [hints.length]
  rw [hlen] at W
  refine my_loop (s := { s with heap := _ }) ps Led Inv c₀ W ?_ (next_is_new F) ?_ ⟨⟨_, Heap.get?_push_size _ rfl, rfl, rfl⟩, hls.at fun o e => Heap.get?_push_of_some _ e⟩ (F.push _) (fun p hp => ⟨Heap.get?_push_of_some _ (N p hp).1, (N p hp).2⟩) hn hk hi ?_ done
  · intro hm
    rcases List.mem_cons.mp hm with e | hm
    · exact absurd F.ns.lt (e ▸ Nat.lt_irrefl _)
    · exact absurd (Nat.lt_of_lt_of_le hlt F.above) ((List.mem_singleton.mp hm) ▸ Nat.lt_irrefl _)
  · intro p hp e
    exact absurd (Heap.lt_size (N p (hn p hp)).1) (e ▸ Nat.lt_irrefl _)
  · rintro i v c u h tk own hi hP hinv hoff hown hat hall hst F₁ N₁ QT hQT
    obtain ⟨t, hx⟩ := hints.get i ns[i] (by simp [hi])
    have hv : v = .int (ns.getD i 0) t := by
      have hP' : vs[i]? = some v := by simpa using hP
      rw [hx] at hP'
      rw [← Option.some.inj hP']
      simp [List.getD, hi]
    subst hv
    obtain ⟨⟨oI, hoI, _⟩, _⟩ := id hst
    have hio := hall _ (List.mem_cons_self ..) (next_is_new F) _ hoI
    have hone : ∀ p ∈ own, p ∈ [(s.heap.objs.size, oI)] := fun p hp => by
      rcases List.mem_cons.mp (hown p hp) with e1 | e1
      · have e2 := hat p hp
        rw [e1, hoI] at e2
        exact List.mem_singleton.mpr (Prod.ext e1 (Option.some.inj e2).symm)
      · have e3 := (N₁ p (List.mem_append.mpr (.inr hp))).2.2
        rw [List.mem_singleton.mp e1, hol] at e3
        cases e3
    refine wpAny_mono (turn i t c u h tk _ _ hi hinv hoff F₁ (fun p hp => N₁ p ((List.mem_append.mp hp).elim (fun h => List.mem_append.mpr (.inl h)) fun h => List.mem_append.mpr (.inr (by rw [List.mem_singleton.mp h]; exact hio)))) _ fun _ _ x => x) (fun f s₂ q => hQT _ _ ?_) fun _ _ e => e
    cases f with
    | ret v => exact q
    | brk => exact q
    | next =>
      obtain ⟨c', h', tk', m', news', e, F', N', hn', ho', r⟩ := q
      exact ⟨c', h', tk', m', news', e, F', N', hn', fun p hp => ho' p (hone p hp), r⟩
    | cont =>
      obtain ⟨c', h', tk', m', news', e, F', N', hn', ho', r⟩ := q
      exact ⟨c', h', tk', m', news', e, F', N', hn', fun p hp => ho' p (hone p hp), r⟩

/-- over a list of the ledger -/
theorem my_listN {σ : Type} {l : Addr} {vs : List Value} {k : Nat} {ns : List Int} {m₀ : Str → Option Value} {news : List (Addr × Obj)} (ps : σ → List (Str × Value)) (Led : σ → List (Addr × Obj)) (Inv : Nat → σ → Prop) (c₀ : σ)
    (hh : A.handled = none) (F : Fr h₀ env.locals s.heap m₀) (N : News h₀ env.locals s.heap news) (hl : (l, listOf vs.toArray k) ∈ news) (hints : IntsAre vs ns)
    (hn : ∀ p ∈ Led c₀, p ∈ news) (hk : ∀ p ∈ ps c₀, m₀ p.1 = some p.2) (hi : Inv 0 c₀)
    (turn : ∀ (i : Nat) t c (u : Str → Option Value) h tk I o, i < ns.length → Inv i c → (∀ p ∈ Led c, p.1 ≠ I) →
      Fr h₀ env.locals h (fun y => if y = x then some (.int (ns.getD i 0) t) else mB u (ps c) y) → News h₀ env.locals h (Led c ++ [(I, o), (l, listOf vs.toArray k)]) →
      ∀ QT : Flow → Shared → Prop, (∀ f u, LPost h₀ env.locals { s with heap := h, toks := tk } ps Led [(I, o), (l, listOf vs.toArray k)] I (Inv (i + 1)) Q f u → QT f u) → wpAny (model prog w) A (execs body env) QT E { s with heap := h, toks := tk })
    (done : ∀ c (u : Str → Option Value) h tk, Inv ns.length c → Fr h₀ env.locals h (mB u (ps c)) → News h₀ env.locals h (Led c) → Q .next { s with heap := h, toks := tk }) :
    wpAny (model prog w) A (pyIter (.ref l)) (fun it s₂ => LoopAtV prog w A h₀ env x body Q E it s₂) E s := by
  have hol := (N _ hl).1
  have hlL := (N _ hl).2.1
  have hl0 := (N _ hl).2.2
  have hls : s.heap.IsList l vs.toArray := ⟨_, hol, rfl, _, rfl⟩
  have hne : l ≠ s.heap.objs.size := Nat.ne_of_lt (Heap.lt_size hol)
  refine wpAny_pyIter_list hls ?_
  have W : Walks prog w A s.heap.objs.size [s.heap.objs.size, l] [s.heap.objs.size] vs.toArray.size (fun i v => vs.toArray[i]? = some v) (fun i h => (h.IsListIter s.heap.objs.size l i ∧ h.IsList l vs.toArray) ∧ h.get? l = some (listOf vs.toArray k)) := by
    have W₀ := Walks.list (prog := prog) (w := w) hh s.heap.objs.size l hne vs.toArray
    refine ⟨W₀.sub, fun i h h' st hk => ⟨W₀.frame i h h' st.1 hk, hk l (by simp) _ st.2⟩, fun i s' Q' E' hi st hQ => ?_, fun s' Q' E' st hQ => W₀.done s' Q' E' st.1 hQ, fun i s' Q' E' st hQ => W₀.self i s' Q' E' st.1 hQ⟩
    exact W₀.item i s' Q' E' hi st.1 fun v h' tk hp st' hk => hQ v h' tk hp ⟨st', hk l _ (fun hm => hne (List.mem_singleton.mp hm)) st.2⟩ hk
  have hlen : vs.toArray.size = ns.length := by simp [hints.length]
  rw [hlen] at W
  refine my_loop (s := { s with heap := _ }) ps Led Inv c₀ W ?_ (next_is_new F) ?_ ⟨⟨⟨_, Heap.get?_push_size _ rfl, rfl, rfl⟩, hls.at fun o e => Heap.get?_push_of_some _ e⟩, Heap.get?_push_of_some _ hol⟩ (F.push _) (fun p hp => ⟨Heap.get?_push_of_some _ (N p hp).1, (N p hp).2⟩) hn hk hi ?_ done
  · intro hm
    rcases List.mem_cons.mp hm with e | hm
    · exact absurd F.ns.lt (e ▸ Nat.lt_irrefl _)
    · exact hlL (List.mem_singleton.mp hm).symm
  · intro p hp e
    exact absurd (Heap.lt_size (N p (hn p hp)).1) (e ▸ Nat.lt_irrefl _)
  · rintro i v c u h tk own hi hP hinv hoff hown hat hall ⟨hst, hstl⟩ F₁ N₁ QT hQT
    obtain ⟨t, hx⟩ := hints.get i ns[i] (by simp [hi])
    have hv : v = .int (ns.getD i 0) t := by
      have hP' : vs[i]? = some v := by simpa using hP
      rw [hx] at hP'
      rw [← Option.some.inj hP']
      simp [List.getD, hi]
    subst hv
    obtain ⟨⟨oI, hoI, _⟩, _⟩ := id hst
    have hio := hall _ (List.mem_cons_self ..) (next_is_new F) _ hoI
    have hil := hall l (by simp) hl0 _ hstl
    have hone : ∀ p ∈ own, p ∈ [(s.heap.objs.size, oI), (l, listOf vs.toArray k)] := fun p hp => by
      have e2 := hat p hp
      rcases List.mem_cons.mp (hown p hp) with e1 | e1
      · rw [e1, hoI] at e2
        exact List.mem_cons.mpr (.inl (Prod.ext e1 (Option.some.inj e2).symm))
      · have e1 := List.mem_singleton.mp e1
        rw [e1, hstl] at e2
        exact List.mem_cons.mpr (.inr (List.mem_singleton.mpr (Prod.ext e1 (Option.some.inj e2).symm)))
    have hback : ∀ p ∈ [(s.heap.objs.size, oI), (l, listOf vs.toArray k)], p ∈ own := fun p hp => by
      rcases List.mem_cons.mp hp with rfl | hp
      · exact hio
      · rw [List.mem_singleton.mp hp]; exact hil
    refine wpAny_mono (turn i t c u h tk _ oI hi hinv hoff F₁ (fun p hp => N₁ p ((List.mem_append.mp hp).elim (fun h => List.mem_append.mpr (.inl h)) fun h => List.mem_append.mpr (.inr (hback p h)))) _ fun _ _ x => x) (fun f s₂ q => hQT _ _ ?_) fun _ _ e => e
    cases f with
    | ret v => exact q
    | brk => exact q
    | next =>
      obtain ⟨c', h', tk', m', news', e, F', N', hn', ho', r⟩ := q
      exact ⟨c', h', tk', m', news', e, F', N', hn', fun p hp => ho' p (hone p hp), r⟩
    | cont =>
      obtain ⟨c', h', tk', m', news', e, F', N', hn', ho', r⟩ := q
      exact ⟨c', h', tk', m', news', e, F', N', hn', fun p hp => ho' p (hone p hp), r⟩
end

def EEnd {σ : Type} (h₀ : Heap) (L : Addr) (s : Shared) (ps : σ → List (Str × Value)) (f : Addr) (D : σ → Obj) (own : List (Addr × Obj)) (P : σ → Prop) (s₂ : Shared) : Prop :=
  ∃ (c' : σ) (h' : Heap) (tk : Nat) (m' : Str → Option Value) (news' : List (Addr × Obj)), s₂ = { s with heap := h', toks := tk } ∧ Fr h₀ L h' m' ∧ News h₀ L h' news' ∧ (f, D c') ∈ news' ∧ (∀ p ∈ own, p ∈ news') ∧ (∀ p ∈ ps c', m' p.1 = some p.2) ∧ P c'
def EPost {σ : Type} (h₀ : Heap) (L : Addr) (s : Shared) (ps : σ → List (Str × Value)) (f : Addr) (D : σ → Obj) (own : List (Addr × Obj)) (P : σ → Prop) (Q : Flow → Shared → Prop) (fl : Flow) (s₂ : Shared) : Prop :=
  match fl with
  | .ret v => Q (.ret v) s₂
  | .brk => Q .next s₂
  | _ => EEnd h₀ L s ps f D own P s₂
theorem eend {σ : Type} {h₀ : Heap} {L : Addr} {s : Shared} {ps : σ → List (Str × Value)} {f : Addr} {D : σ → Obj} {own : List (Addr × Obj)} {P : σ → Prop} {h' : Heap} {tk : Nat} {m' : Str → Option Value} {news' : List (Addr × Obj)} (c' : σ)
    (F : Fr h₀ L h' m') (N : News h₀ L h' news') (hn : (f, D c') ∈ news') (ho : ∀ p ∈ own, p ∈ news') (hk : ∀ p ∈ ps c', m' p.1 = some p.2) (hp : P c') :
    EEnd h₀ L s ps f D own P { s with heap := h', toks := tk } := ⟨c', h', tk, m', news', rfl, F, N, hn, ho, hk, hp⟩

section
variable {prog : Program} {w : World} {A : Around} {E : Value → Shared → Prop} {Q : Flow → Shared → Prop} {s : Shared} {env : Env} {h₀ : Heap} {xi xc : Str} {body : List Stmt}
/-- for i, v in enumerate(a list that stood before the call), one object f turned, the rest kept -/
theorem my_enum {σ : Type} {l f : Addr} {vs : List Value} {ns : List Int} {m₀ : Str → Option Value} {news rest : List (Addr × Obj)} (ps : σ → List (Str × Value)) (D : σ → Obj) (Inv : Nat → σ → Prop) (c₀ : σ)
    (hh : A.handled = none) (hl : h₀.IsList l vs.toArray) (hints : IntsAre vs ns) (F : Fr h₀ env.locals s.heap m₀) (N : News h₀ env.locals s.heap news)
    (hf : (f, D c₀) ∈ news) (hr : ∀ p ∈ rest, p ∈ news) (hrf : ∀ p ∈ rest, p.1 ≠ f) (hk : ∀ p ∈ ps c₀, m₀ p.1 = some p.2) (hi : Inv 0 c₀)
    (turn : ∀ (i : Nat) t0 t1 c (u : Str → Option Value) h tk own, i < ns.length → Inv i c → (∀ p ∈ own, p.1 ≠ f) →
      Fr h₀ env.locals h (fun y => if y = xc then some (.int (ns.getD i 0) t1) else if y = xi then some (.int i t0) else mB u (ps c) y) → News h₀ env.locals h ((f, D c) :: own) →
      ∀ QT : Flow → Shared → Prop, (∀ fl u, EPost h₀ env.locals { s with heap := h, toks := tk } ps f D own (Inv (i + 1)) Q fl u → QT fl u) → wpAny (model prog w) A (execs body env) QT E { s with heap := h, toks := tk })
    (done : ∀ c (u : Str → Option Value) h tk, Inv ns.length c → Fr h₀ env.locals h (mB u (ps c)) → News h₀ env.locals h ((f, D c) :: rest) → Q .next { s with heap := h, toks := tk }) :
    wpAny (model prog w) A (call (.type "enumerate") [.ref l]) (fun xv s₁ => wpAny (model prog w) A (pyIter xv) (fun it s₂ => PairAt3 prog w A h₀ env xi xc body Q E it s₂) E s₁) E s := by
  have N₀ : News h₀ env.locals s.heap ((f, D c₀) :: rest) := fun p hp => N p ((List.mem_cons.mp hp).elim (fun e => e ▸ hf) (hr p))
  refine call_enum_list (K := ItemKind.int) hh hl hints.areOf F N₀ fun h' e F' N' S => ?_
  refine S.at env rfl xi xc body Q (fun i m nx => ∃ c, nx = (f, D c) :: rest ∧ (∀ p ∈ ps c, m p.1 = some p.2) ∧ Inv i c) ⟨c₀, rfl, hk, hi⟩ ?_ ?_
  · rintro i a t v m₁ nx s₁ own ⟨hh, tk, rfl⟩ ha ⟨tv, rfl⟩ ⟨c, rfl, h1, hinv⟩ hadr hoff F₁ N₁
    rw [← mB_eq h1] at F₁
    obtain ⟨hi, hg⟩ := ints_get_facts ha
    rw [Int.toNat_natCast] at hg
    rw [← hg] at F₁
    refine wpAny_mono (turn i t tv c m₁ hh tk (rest ++ own) hi hinv (fun p hp => ?_) F₁ (fun p hp => N₁ p ?_) _ fun _ _ x => x) (fun fl s₂ q => ?_) fun _ _ e => e
    · rcases List.mem_append.mp hp with hp | hp
      · exact hrf p hp
      · exact hoff p hp _ (List.mem_cons_self ..)
    · rcases List.mem_cons.mp hp with rfl | hp
      · exact List.mem_append.mpr (.inr (List.mem_cons_self ..))
      · rcases List.mem_append.mp hp with hp | hp
        · exact List.mem_append.mpr (.inr (List.mem_cons_of_mem _ hp))
        · exact List.mem_append.mpr (.inl hp)
    · have fin : EEnd h₀ env.locals { s with heap := hh, toks := tk } ps f D (rest ++ own) (Inv (i + 1)) s₂ → LoopStep2 h₀ env.locals own ((f, D c) :: rest) (fun m nx => ∃ c, nx = (f, D c) :: rest ∧ (∀ p ∈ ps c, m p.1 = some p.2) ∧ Inv (i + 1) c) { s with heap := hh, toks := tk } .next s₂ := by
        rintro ⟨c', h', tk', m', news', rfl, F', N', hn', ho', hk', hp'⟩
        refine ⟨rfl, h', tk', m', (f, D c') :: rest, rfl, F', fun p hp => N' p ?_, rfl, c', rfl, hk', hp'⟩
        rcases List.mem_append.mp hp with hp | hp
        · exact ho' p (List.mem_append.mpr (.inr hp))
        · rcases List.mem_cons.mp hp with rfl | hp
          · exact hn'
          · exact ho' p (List.mem_append.mpr (.inl hp))
      cases fl with
      | ret v => exact q
      | brk => exact q
      | next => exact fin q
      | cont => exact fin q
  · rintro h' tk m' nx F' N' _ ⟨c, rfl, h1, hinv⟩
    rw [← mB_eq h1] at F'
    exact done c m' h' tk hinv F' N'
end

theorem off_of {l I : Addr} {o : Obj} {news : List (Addr × Obj)} (h : ∀ p ∈ news, p.1 ≠ l) (hm : (I, o) ∈ news) : l ≠ I := fun e => h _ hm e.symm
theorem hideQ {α : Type} {M : Model} {A : Around} {x : Sem α} {Q : α → Shared → Prop} {E : Value → Shared → Prop} {s : Shared} (h : ∀ Q9 : α → Shared → Prop, (∀ v u, Q v u → Q9 v u) → wpAny M A x Q9 (fun _ _ => False) s) : wpAny M A x Q E s :=
  wpAny_noRaise (h Q fun _ _ k => k)
theorem all2 {A1 A2 : Type} {P : A1 × A2 → Prop} (h : ∀ x1 x2, P (x1, x2)) : ∀ x, P x := fun ⟨x1, x2⟩ => h x1 x2
theorem all3 {A1 A2 A3 : Type} {P : A1 × A2 × A3 → Prop} (h : ∀ x1 x2 x3, P (x1, x2, x3)) : ∀ x, P x := fun ⟨x1, x2, x3⟩ => h x1 x2 x3
theorem all4 {A1 A2 A3 A4 : Type} {P : A1 × A2 × A3 × A4 → Prop} (h : ∀ x1 x2 x3 x4, P (x1, x2, x3, x4)) : ∀ x, P x := fun ⟨x1, x2, x3, x4⟩ => h x1 x2 x3 x4
theorem all5 {A1 A2 A3 A4 A5 : Type} {P : A1 × A2 × A3 × A4 × A5 → Prop} (h : ∀ x1 x2 x3 x4 x5, P (x1, x2, x3, x4, x5)) : ∀ x, P x := fun ⟨x1, x2, x3, x4, x5⟩ => h x1 x2 x3 x4 x5
theorem all6 {A1 A2 A3 A4 A5 A6 : Type} {P : A1 × A2 × A3 × A4 × A5 × A6 → Prop} (h : ∀ x1 x2 x3 x4 x5 x6, P (x1, x2, x3, x4, x5, x6)) : ∀ x, P x := fun ⟨x1, x2, x3, x4, x5, x6⟩ => h x1 x2 x3 x4 x5 x6
theorem all7 {A1 A2 A3 A4 A5 A6 A7 : Type} {P : A1 × A2 × A3 × A4 × A5 × A6 × A7 → Prop} (h : ∀ x1 x2 x3 x4 x5 x6 x7, P (x1, x2, x3, x4, x5, x6, x7)) : ∀ x, P x := fun ⟨x1, x2, x3, x4, x5, x6, x7⟩ => h x1 x2 x3 x4 x5 x6 x7
theorem all8 {A1 A2 A3 A4 A5 A6 A7 A8 : Type} {P : A1 × A2 × A3 × A4 × A5 × A6 × A7 × A8 → Prop} (h : ∀ x1 x2 x3 x4 x5 x6 x7 x8, P (x1, x2, x3, x4, x5, x6, x7, x8)) : ∀ x, P x := fun ⟨x1, x2, x3, x4, x5, x6, x7, x8⟩ => h x1 x2 x3 x4 x5 x6 x7 x8
theorem all9 {A1 A2 A3 A4 A5 A6 A7 A8 A9 : Type} {P : A1 × A2 × A3 × A4 × A5 × A6 × A7 × A8 × A9 → Prop} (h : ∀ x1 x2 x3 x4 x5 x6 x7 x8 x9, P (x1, x2, x3, x4, x5, x6, x7, x8, x9)) : ∀ x, P x := fun ⟨x1, x2, x3, x4, x5, x6, x7, x8, x9⟩ => h x1 x2 x3 x4 x5 x6 x7 x8 x9
theorem all10 {A1 A2 A3 A4 A5 A6 A7 A8 A9 A10 : Type} {P : A1 × A2 × A3 × A4 × A5 × A6 × A7 × A8 × A9 × A10 → Prop} (h : ∀ x1 x2 x3 x4 x5 x6 x7 x8 x9 x10, P (x1, x2, x3, x4, x5, x6, x7, x8, x9, x10)) : ∀ x, P x := fun ⟨x1, x2, x3, x4, x5, x6, x7, x8, x9, x10⟩ => h x1 x2 x3 x4 x5 x6 x7 x8 x9 x10
theorem and2 {a1 a2 R : Prop} (h : a1 ∧ a2) (k : a1 → a2 → R) : R := k h.1 h.2
theorem and3 {a1 a2 a3 R : Prop} (h : a1 ∧ a2 ∧ a3) (k : a1 → a2 → a3 → R) : R := k h.1 h.2.1 h.2.2
theorem and4 {a1 a2 a3 a4 R : Prop} (h : a1 ∧ a2 ∧ a3 ∧ a4) (k : a1 → a2 → a3 → a4 → R) : R := k h.1 h.2.1 h.2.2.1 h.2.2.2
theorem and5 {a1 a2 a3 a4 a5 R : Prop} (h : a1 ∧ a2 ∧ a3 ∧ a4 ∧ a5) (k : a1 → a2 → a3 → a4 → a5 → R) : R := k h.1 h.2.1 h.2.2.1 h.2.2.2.1 h.2.2.2.2
theorem and6 {a1 a2 a3 a4 a5 a6 R : Prop} (h : a1 ∧ a2 ∧ a3 ∧ a4 ∧ a5 ∧ a6) (k : a1 → a2 → a3 → a4 → a5 → a6 → R) : R := k h.1 h.2.1 h.2.2.1 h.2.2.2.1 h.2.2.2.2.1 h.2.2.2.2.2
theorem and7 {a1 a2 a3 a4 a5 a6 a7 R : Prop} (h : a1 ∧ a2 ∧ a3 ∧ a4 ∧ a5 ∧ a6 ∧ a7) (k : a1 → a2 → a3 → a4 → a5 → a6 → a7 → R) : R := k h.1 h.2.1 h.2.2.1 h.2.2.2.1 h.2.2.2.2.1 h.2.2.2.2.2.1 h.2.2.2.2.2.2
theorem and8 {a1 a2 a3 a4 a5 a6 a7 a8 R : Prop} (h : a1 ∧ a2 ∧ a3 ∧ a4 ∧ a5 ∧ a6 ∧ a7 ∧ a8) (k : a1 → a2 → a3 → a4 → a5 → a6 → a7 → a8 → R) : R := k h.1 h.2.1 h.2.2.1 h.2.2.2.1 h.2.2.2.2.1 h.2.2.2.2.2.1 h.2.2.2.2.2.2.1 h.2.2.2.2.2.2.2
theorem and9 {a1 a2 a3 a4 a5 a6 a7 a8 a9 R : Prop} (h : a1 ∧ a2 ∧ a3 ∧ a4 ∧ a5 ∧ a6 ∧ a7 ∧ a8 ∧ a9) (k : a1 → a2 → a3 → a4 → a5 → a6 → a7 → a8 → a9 → R) : R := k h.1 h.2.1 h.2.2.1 h.2.2.2.1 h.2.2.2.2.1 h.2.2.2.2.2.1 h.2.2.2.2.2.2.1 h.2.2.2.2.2.2.2.1 h.2.2.2.2.2.2.2.2
theorem and10 {a1 a2 a3 a4 a5 a6 a7 a8 a9 a10 R : Prop} (h : a1 ∧ a2 ∧ a3 ∧ a4 ∧ a5 ∧ a6 ∧ a7 ∧ a8 ∧ a9 ∧ a10) (k : a1 → a2 → a3 → a4 → a5 → a6 → a7 → a8 → a9 → a10 → R) : R := k h.1 h.2.1 h.2.2.1 h.2.2.2.1 h.2.2.2.2.1 h.2.2.2.2.2.1 h.2.2.2.2.2.2.1 h.2.2.2.2.2.2.2.1 h.2.2.2.2.2.2.2.2.1 h.2.2.2.2.2.2.2.2.2
theorem numb_list {h₀ h : Heap} {L : Addr} {m : Str → Option Value} {news : List (Addr × Obj)} {G lg : Addr} {v vg : List Value} {n : Nat} {bb : Bool} (hf : bb = true → G = lg ∧ v = vg) (hl : h₀.IsList lg vg.toArray) (F : Fr h₀ L h m) (N : News h₀ L h news) (hm : ∀ p ∈ cond bb [] [(G, listOf v.toArray n)], p ∈ news) : h.IsList G v.toArray := by
  cases bb with
  | true => obtain ⟨rfl, rfl⟩ := hf rfl; exact hl.at fun o e => F.keep _ o e
  | false => exact ⟨_, (N _ (hm _ (List.mem_singleton.mpr rfl))).1, rfl, _, rfl⟩
theorem le6 {a m : Nat} (h : a ≤ 6) : a ≤ 6 + m := Nat.le_trans h (Nat.le_add_right 6 m)
theorem mulL {a b : Int} (h1 : -(2 ^ 64) < a) (h2 : a < 2 ^ 64) : IntMulOk a b := IntMulOk.of_left (PySem.intBits_le_64 h1 h2)
theorem mulR {a b : Int} (h1 : -(2 ^ 64) < b) (h2 : b < 2 ^ 64) : IntMulOk a b := IntMulOk.of_right (PySem.intBits_le_64 h1 h2)
def Stop (P : Prop) : Prop := P
theorem Stop.out {P : Prop} (h : Stop P) : P := h
theorem Stop.mk {P : Prop} (h : P) : Stop P := h
end Mine
namespace Mine
/-! digits: plain -/
def dig (b : Nat) (n : Nat) : List Int := if n = 0 ∨ b < 2 then [] else ((n % b : Nat) : Int) :: dig b (n / b)
termination_by n
decreasing_by
  rename_i h
  exact Nat.div_lt_self (by omega) (by omega)
def val (b : Nat) : List Int → Int
  | [] => 0
  | z :: r => z + b * val b r
def Lim (b : Nat) (zs : List Int) : Prop := ∀ z ∈ zs, 0 ≤ z ∧ z < (b : Int)

theorem dig_nil (b : Nat) : dig b 0 = [] := by rw [dig]; simp
theorem dig_step {b n : Nat} (hb : 2 ≤ b) (h : n ≠ 0) : dig b n = ((n % b : Nat) : Int) :: dig b (n / b) := by
  rw [dig, if_neg (by omega)]
theorem dig_ind {b : Nat} (hb : 2 ≤ b) {P : Nat → Prop} (h0 : P 0) (hs : ∀ n, n ≠ 0 → P (n / b) → P n) : ∀ n, P n := by
  intro n
  induction n using Nat.strongRecOn with
  | _ n ih =>
    by_cases h : n = 0
    · rw [h]; exact h0
    · exact hs n h (ih _ (Nat.div_lt_self (by omega) (by omega)))
theorem val_dig {b : Nat} (hb : 2 ≤ b) : ∀ n, val b (dig b n) = n := by
  refine dig_ind hb ?_ ?_
  · rw [dig_nil]; rfl
  · intro n h ih
    rw [dig_step hb h, val, ih]
    have := Nat.mod_add_div n b
    exact_mod_cast this
theorem lim_dig {b : Nat} (hb : 2 ≤ b) : ∀ n, Lim b (dig b n) := by
  refine dig_ind hb ?_ ?_
  · rw [dig_nil]; intro z hz; cases hz
  · intro n h ih
    rw [dig_step hb h]
    intro z hz
    rcases List.mem_cons.mp hz with rfl | hz
    · have := Nat.mod_lt n (show b > 0 by omega)
      omega
    · exact ih z hz
theorem Lim.tail {b : Nat} {z : Int} {r : List Int} (h : Lim b (z :: r)) : Lim b r := fun y hy => h y (.tail _ hy)
theorem Lim.head {b : Nat} {z : Int} {r : List Int} (h : Lim b (z :: r)) : 0 ≤ z ∧ z < (b : Int) := h z (.head _)
theorem Lim.append {b : Nat} {xs ys : List Int} (h : Lim b xs) (k : Lim b ys) : Lim b (xs ++ ys) := fun z hz => (List.mem_append.mp hz).elim (h z) (k z)
theorem Lim.one {b : Nat} {z : Int} (h0 : 0 ≤ z) (h1 : z < (b : Int)) : Lim b [z] := fun y hy => by rw [List.mem_singleton.mp hy]; exact ⟨h0, h1⟩
theorem Lim.nil {b : Nat} : Lim b [] := fun _ h => nomatch h
theorem Lim.take {b : Nat} {xs : List Int} (h : Lim b xs) (k : Nat) : Lim b (xs.take k) := fun z hz => h z (List.mem_of_mem_take hz)
theorem Lim.getD {b : Nat} {xs : List Int} (h : Lim b xs) (hb : 0 < b) (k : Nat) : 0 ≤ xs.getD k 0 ∧ xs.getD k 0 < (b : Int) := by
  by_cases hk : k < xs.length
  · have : xs.getD k 0 = xs[k] := by simp [List.getD, hk]
    rw [this]; exact h _ (List.getElem_mem hk)
  · have : xs.getD k 0 = 0 := by simp [List.getD, List.getElem?_eq_none (by omega : xs.length ≤ k)]
    rw [this]; omega
theorem val_nonneg {b : Nat} : ∀ {zs : List Int}, Lim b zs → 0 ≤ val b zs
  | [], _ => Int.le_refl _
  | z :: r, h => by
    have h1 := h.head.1
    have h2 := Int.mul_nonneg (Int.natCast_nonneg b) (val_nonneg h.tail)
    show 0 ≤ z + b * val b r
    omega
theorem cpow (b k : Nat) : ((b ^ k : Nat) : Int) = (b : Int) ^ k := by push_cast; rfl
theorem cpow_pos {b : Nat} (hb : 2 ≤ b) (k : Nat) : (0 : Int) < (b : Int) ^ k := by
  rw [← cpow]; exact_mod_cast Nat.pow_pos (by omega)
theorem val_lt {b : Nat} : ∀ {zs : List Int}, Lim b zs → val b zs < (b : Int) ^ zs.length
  | [], _ => by show (0 : Int) < _; simp
  | z :: r, h => by
    have h1 := h.head
    have h2 := val_lt h.tail
    show z + b * val b r < (b : Int) ^ (r.length + 1)
    rw [Int.pow_succ]
    have h3 : (b : Int) * (val b r + 1) ≤ (b : Int) * (b : Int) ^ r.length := Int.mul_le_mul_of_nonneg_left (by omega) (Int.natCast_nonneg b)
    rw [Int.mul_add, Int.mul_one] at h3
    rw [Int.mul_comm ((b : Int) ^ r.length)]
    omega
theorem val_append {b : Nat} : ∀ (xs ys : List Int), val b (xs ++ ys) = val b xs + (b : Int) ^ xs.length * val b ys
  | [], ys => by simp [val]
  | x :: r, ys => by
    show x + b * val b (r ++ ys) = (x + b * val b r) + (b : Int) ^ (r.length + 1) * val b ys
    rw [val_append r ys, Int.mul_add, Int.pow_succ, Int.mul_assoc, Int.mul_left_comm ((b : Int) ^ r.length)]
    omega
theorem val_one {b : Nat} (z : Int) : val b [z] = z := by simp [val]
theorem dig_val {b : Nat} (hb : 2 ≤ b) : ∀ {zs : List Int}, Lim b zs → (zs = [] ∨ (b : Int) ^ (zs.length - 1) ≤ val b zs) → dig b (val b zs).toNat = zs
  | [], _, _ => dig_nil b
  | z :: r, h, hc => by
    have h1 := h.head
    have h2 := val_nonneg h.tail
    have hc' : (b : Int) ^ r.length ≤ z + b * val b r := by
      rcases hc with hc | hc
      · cases hc
      · exact hc
    have hp := cpow_pos hb r.length
    have hv : val b (z :: r) = z + b * val b r := rfl
    have hn : (val b (z :: r)).toNat ≠ 0 := by rw [hv]; omega
    rw [dig_step hb hn]
    have e : (val b (z :: r)).toNat = z.toNat + b * (val b r).toNat := by
      have : ((z.toNat + b * (val b r).toNat : Nat) : Int) = val b (z :: r) := by
        rw [hv]; push_cast; rw [Int.toNat_of_nonneg h1.1, Int.toNat_of_nonneg h2]
      omega
    have hzl : z.toNat < b := by omega
    have e1 : (val b (z :: r)).toNat % b = z.toNat := by
      rw [e, Nat.add_mul_mod_self_left, Nat.mod_eq_of_lt hzl]
    have e2 : (val b (z :: r)).toNat / b = (val b r).toNat := by
      rw [e, Nat.add_mul_div_left _ _ (by omega), Nat.div_eq_of_lt hzl, Nat.zero_add]
    rw [e1, e2, Int.toNat_of_nonneg h1.1]
    congr 1
    refine dig_val hb h.tail ?_
    cases hr : r with
    | nil => exact .inl rfl
    | cons y q =>
      right
      rw [← hr]
      have hl : r.length = (r.length - 1) + 1 := by rw [hr]; simp
      rw [hl, Int.pow_succ] at hc'
      have h3 : (b : Int) ^ (r.length - 1) * b < b * (val b r + 1) := by
        rw [Int.mul_add, Int.mul_one]; omega
      rw [Int.mul_comm] at h3
      have h4 := Int.lt_of_mul_lt_mul_left h3 (Int.natCast_nonneg b)
      omega
theorem dig_of {b n : Nat} (hb : 2 ≤ b) {zs : List Int} (h : Lim b zs) (hc : zs = [] ∨ (b : Int) ^ (zs.length - 1) ≤ val b zs) (hv : val b zs = n) : zs = dig b n := by
  rw [← dig_val hb h hc, hv]; rfl
theorem dig_len_lo {b : Nat} (hb : 2 ≤ b) : ∀ n, dig b n = [] ∨ b ^ ((dig b n).length - 1) ≤ n := by
  refine dig_ind hb (.inl (dig_nil b)) ?_
  intro n h ih
  right
  rw [dig_step hb h]
  show b ^ ((dig b (n / b)).length + 1 - 1) ≤ n
  rw [Nat.add_sub_cancel]
  rcases ih with e | e
  · rw [e]; simp; omega
  · by_cases h0 : (dig b (n / b)).length = 0
    · rw [h0]; simp; omega
    · have e1 : (dig b (n / b)).length = ((dig b (n / b)).length - 1) + 1 := by omega
      rw [e1, Nat.pow_succ]
      exact Nat.le_trans (Nat.mul_le_mul_right _ e) (Nat.div_mul_le_self n b)
theorem dig_len_hi {b : Nat} (hb : 2 ≤ b) (n : Nat) : n < b ^ (dig b n).length := by
  have h := val_lt (lim_dig hb n)
  rw [val_dig hb, ← cpow] at h
  exact_mod_cast h
theorem dig_len_le {b n k : Nat} (hb : 2 ≤ b) (h : n < b ^ k) : (dig b n).length ≤ k := by
  rcases dig_len_lo hb n with e | e
  · rw [e]; simp
  · refine Nat.le_of_not_lt fun hk => ?_
    have := Nat.pow_le_pow_right (show b > 0 by omega) (show k ≤ (dig b n).length - 1 by omega)
    omega
theorem dig_len_64 {b n : Nat} (hb : 2 ≤ b) (h : n < 2 ^ 64) : (dig b n).length ≤ 64 :=
  dig_len_le hb (Nat.lt_of_lt_of_le h (Nat.pow_le_pow_left hb 64))
theorem dig_eq_nil {b n : Nat} (hb : 2 ≤ b) : dig b n = [] ↔ n = 0 := by
  constructor
  · intro h
    refine Classical.byContradiction fun hn => ?_
    rw [dig_step hb hn] at h; cases h
  · rintro rfl; exact dig_nil b
theorem dig_len_pos {b n : Nat} (hb : 2 ≤ b) : 0 < (dig b n).length ↔ 0 < n := by
  have := @dig_eq_nil b n hb
  rw [List.length_pos_iff]
  constructor
  · intro h; exact Nat.pos_of_ne_zero fun e => h (this.mpr e)
  · intro h e; rw [this.mp e] at h; exact absurd h (Nat.lt_irrefl _)
theorem dig_lt_of_len {b x y : Nat} (hb : 2 ≤ b) (h : (dig b x).length < (dig b y).length) : x < y := by
  rcases dig_len_lo hb y with e | e
  · rw [e] at h; exact absurd h (Nat.not_lt_zero _)
  · have h1 := dig_len_hi hb x
    have := Nat.pow_le_pow_right (show b > 0 by omega) (show (dig b x).length ≤ (dig b y).length - 1 by omega)
    omega
theorem dig_drop {b : Nat} (hb : 2 ≤ b) : ∀ (k n : Nat), (dig b n).drop k = dig b (n / b ^ k)
  | 0, n => by simp
  | k + 1, n => by
    by_cases h : n = 0
    · rw [h]; simp [dig_nil]
    · rw [dig_step hb h, List.drop_succ_cons, dig_drop hb k, Nat.div_div_eq_div_mul, Nat.pow_succ, Nat.mul_comm b]
theorem lim_rep {b : Nat} (hb : 2 ≤ b) (k : Nat) : Lim b (List.replicate k 0) := fun z hz => by
  rw [(List.mem_replicate.mp hz).2]; omega
theorem val_rep {b : Nat} : ∀ k, val b (List.replicate k 0) = 0
  | 0 => rfl
  | k + 1 => by rw [List.replicate_succ, val, val_rep k]; simp
theorem dig_lift {b n : Nat} (hb : 2 ≤ b) (k : Nat) (hn : n ≠ 0) : List.replicate k 0 ++ dig b n = dig b (n * b ^ k) := by
  refine dig_of hb ((lim_rep hb k).append (lim_dig hb n)) ?_ ?_
  · right
    have hpos : 0 < (dig b n).length := (dig_len_pos hb).mpr (Nat.pos_of_ne_zero hn)
    rcases dig_len_lo hb n with e | e
    · rw [e] at hpos; exact absurd hpos (Nat.lt_irrefl _)
    · rw [val_append, val_rep, val_dig hb, List.length_append, List.length_replicate, Int.zero_add, show k + (dig b n).length - 1 = k + ((dig b n).length - 1) by omega, Int.pow_add]
      refine Int.mul_le_mul_of_nonneg_left ?_ (Int.le_of_lt (cpow_pos hb k))
      rw [← cpow]; exact_mod_cast e
  · rw [val_append, val_rep, val_dig hb, List.length_replicate, Int.zero_add, ← cpow]
    push_cast
    rw [Int.mul_comm]
theorem val_take_succ {b : Nat} : ∀ (xs : List Int) (i : Nat), val b (xs.take (i + 1)) = val b (xs.take i) + (b : Int) ^ i * xs.getD i 0
  | [], i => by simp [val]
  | x :: r, 0 => by simp [val]
  | x :: r, i + 1 => by
    rw [List.take_succ_cons, List.take_succ_cons]
    show x + b * val b (r.take (i + 1)) = (x + b * val b (r.take i)) + (b : Int) ^ (i + 1) * r.getD i 0
    rw [val_take_succ r i, Int.mul_add, Int.pow_succ, Int.mul_comm ((b : Int) ^ i) b, Int.mul_assoc]
    omega
theorem val_take_all {b : Nat} {xs : List Int} {i : Nat} (h : xs.length ≤ i) : val b (xs.take i) = val b xs := by rw [List.take_of_length_le h]
/-- what lies above a place is nought -/
theorem val_take_zeros {b : Nat} {xs : List Int} {e : Nat} (h : ∀ i, e ≤ i → xs.getD i 0 = 0) : ∀ k, val b (xs.take (e + k)) = val b (xs.take e)
  | 0 => rfl
  | k + 1 => by rw [← Nat.add_assoc, val_take_succ, h (e + k) (by omega), Int.mul_zero, Int.add_zero, val_take_zeros h k]
theorem val_take_zero {b : Nat} {xs : List Int} {e : Nat} (h : ∀ i, e ≤ i → xs.getD i 0 = 0) : val b (xs.take e) = val b xs := by
  rw [← val_take_zeros h xs.length, val_take_all (by omega)]
/-- normal -/
theorem trim_law {b n : Nat} (hb : 2 ≤ b) {xs : List Int} (hl : Lim b xs) (hv : val b xs = n) {e : Nat} (he : e ≤ xs.length) (h : ∀ i, e ≤ i → xs.getD i 0 = 0) (hx : e = 0 ∨ xs.getD (e - 1) 0 ≠ 0) : xs.take e = dig b n := by
  refine dig_of hb (hl.take e) ?_ (by rw [val_take_zero h, hv])
  rcases hx with rfl | hx
  · left; simp
  · right
    by_cases h0 : e = 0
    · subst h0; simp at hx; exact absurd (by simpa using h 0 (Nat.le_refl _)) hx
    · have hlen : (xs.take e).length = e := by rw [List.length_take]; omega
      rw [hlen]
      have e1 : e = (e - 1) + 1 := by omega
      have hs : val b (xs.take e) = val b (xs.take (e - 1)) + (b : Int) ^ (e - 1) * xs.getD (e - 1) 0 := by
        have := val_take_succ (b := b) xs (e - 1)
        rwa [← e1] at this
      have h1 := val_nonneg (hl.take (e - 1))
      have h2 := (hl.getD (by omega) (e - 1)).1
      have h3 : (b : Int) ^ (e - 1) * 1 ≤ (b : Int) ^ (e - 1) * xs.getD (e - 1) 0 := Int.mul_le_mul_of_nonneg_left (by omega) (Int.le_of_lt (cpow_pos hb _))
      rw [Int.mul_one] at h3
      rw [hs]; omega
/-- compare: the first place from above at which two rows part -/
theorem val_lt_at {b : Nat} (hb : 2 ≤ b) : ∀ {xs ys : List Int} (k : Nat), Lim b xs → Lim b ys → xs.length = ys.length → k < xs.length → (∀ j, k < j → xs.getD j 0 = ys.getD j 0) → xs.getD k 0 < ys.getD k 0 → val b xs < val b ys
  | [], _, k, _, _, _, hk, _, _ => absurd hk (Nat.not_lt_zero _)
  | x :: xs, [], _, _, _, he, _, _, _ => by cases he
  | x :: xs, y :: ys, 0, hx, hy, he, _, hj, hlt => by
    have hxl := hx.head
    have hyl := hy.head
    have e : xs = ys := by
      have hl : xs.length = ys.length := by simpa using he
      refine List.ext_getElem hl fun i h1 h2 => ?_
      have := hj (i + 1) (by omega)
      simpa [List.getD, h1, h2] using this
    subst e
    show x + _ < y + _
    have : x < y := by simpa using hlt
    omega
  | x :: xs, y :: ys, k + 1, hx, hy, he, hk, hj, hlt => by
    have hxl := hx.head
    have hyl := hy.head
    have h := val_lt_at hb (xs := xs) (ys := ys) k hx.tail hy.tail (by simpa using he) (by simpa using hk) (fun j h => by simpa using hj (j + 1) (by omega)) (by simpa using hlt)
    have h2 : (b : Int) * (val b xs + 1) ≤ b * val b ys := Int.mul_le_mul_of_nonneg_left (by omega) (Int.natCast_nonneg b)
    rw [Int.mul_add, Int.mul_one] at h2
    show x + b * val b xs < y + b * val b ys
    omega
theorem dig_lt_at {b x y k : Nat} (hb : 2 ≤ b) (he : (dig b x).length = (dig b y).length) (hk : k < (dig b x).length) (hj : ∀ j, k < j → (dig b x).getD j 0 = (dig b y).getD j 0) (hlt : (dig b x).getD k 0 < (dig b y).getD k 0) : x < y := by
  have := val_lt_at hb k (lim_dig hb x) (lim_dig hb y) he hk hj hlt
  rw [val_dig hb, val_dig hb] at this
  exact_mod_cast this
theorem dig_inj {b x y : Nat} (hb : 2 ≤ b) (h : dig b x = dig b y) : x = y := by
  have := congrArg (val b) h
  rw [val_dig hb, val_dig hb] at this
  exact_mod_cast this
theorem dig_eq_at {b x y : Nat} (hb : 2 ≤ b) (he : (dig b x).length = (dig b y).length) (hj : ∀ j, (dig b x).getD j 0 = (dig b y).getD j 0) : x = y := by
  refine dig_inj hb (List.ext_getElem he fun i h1 h2 => ?_)
  have := hj i
  simpa [List.getD, h1, h2] using this
/-- add's end -/
theorem add_law {b x y : Nat} (hb : 2 ≤ b) {zs : List Int} {c : Int} (hl : Lim b zs) (hlen : zs.length = (dig b x).length) (hc0 : 0 ≤ c) (hc1 : c ≤ 1) (hv : val b zs + (b : Int) ^ zs.length * c = x + y) :
    (0 < c → zs ++ [c] = dig b (x + y)) ∧ (¬ 0 < c → zs = dig b (x + y)) := by
  have hn := val_nonneg hl
  constructor
  · intro hc
    have hc' : c = 1 := by omega
    subst hc'
    rw [Int.mul_one] at hv
    refine dig_of hb (hl.append (Lim.one (by omega) (by omega))) (.inr ?_) ?_
    · rw [List.length_append, List.length_singleton, Nat.add_sub_cancel, val_append, val_one, Int.mul_one]; omega
    · rw [val_append, val_one, Int.mul_one, hv]; push_cast; rfl
  · intro hc
    have hc' : c = 0 := by omega
    subst hc'
    rw [Int.mul_zero, Int.add_zero] at hv
    refine dig_of hb hl ?_ (by rw [hv]; push_cast; rfl)
    rcases dig_len_lo hb x with e | e
    · left
      rw [e] at hlen
      exact List.length_eq_zero_iff.mp hlen
    · right
      rw [hv, hlen, ← cpow]
      have : ((b ^ ((dig b x).length - 1) : Nat) : Int) ≤ x := by exact_mod_cast e
      omega
/-- one turn of add -/
theorem add_turn {b i : Nat} {zs : List Int} {c x y X Y q : Int} (hb : 2 ≤ b) (hl : Lim b zs) (hlen : zs.length = i) (hc0 : 0 ≤ c) (hc1 : c ≤ 1) (hx : 0 ≤ x ∧ x < (b : Int)) (hy : 0 ≤ y ∧ y < (b : Int)) (hq : q = c + x + y) (hv : val b zs + (b : Int) ^ i * c = X + Y) :
    Lim b (zs ++ [q % b]) ∧ 0 ≤ q / b ∧ q / b ≤ 1 ∧ val b (zs ++ [q % b]) + (b : Int) ^ (i + 1) * (q / b) = (X + (b : Int) ^ i * x) + (Y + (b : Int) ^ i * y) := by
  have hb0 : (0 : Int) < b := by omega
  refine ⟨hl.append (Lim.one (Int.emod_nonneg _ (by omega)) (Int.emod_lt_of_pos _ hb0)), Int.ediv_nonneg (by omega) (by omega), ?_, ?_⟩
  · have : q / b < 2 := Int.ediv_lt_of_lt_mul hb0 (by omega)
    omega
  · rw [val_append, val_one, hlen, Int.pow_succ, Int.mul_assoc, Int.add_assoc, ← Int.mul_add, Int.emod_add_mul_ediv, hq, Int.mul_add, Int.mul_add]
    omega
theorem pow_le_256 {b : Nat} {wi : Int} (hB : (2 : Int) ^ wi.toNat = b) (hw2 : wi ≤ 8) : b ≤ 256 := by
  have h1 : (2 : Nat) ^ wi.toNat ≤ 2 ^ 8 := Nat.pow_le_pow_right (by omega) (by omega)
  have h2 : ((2 ^ wi.toNat : Nat) : Int) = (b : Int) := by rw [← hB]; push_cast; rfl
  have h3 : 2 ^ wi.toNat = b := by exact_mod_cast h2
  omega
/-- shift's end -/
theorem shl_end {b x : Nat} (hb : 2 ≤ b) {zs : List Int} {c : Int} (hl : Lim b zs) (hlen : zs.length = (dig b x).length) (hc0 : 0 ≤ c) (hc1 : c ≤ 1) (hv : val b zs + (b : Int) ^ zs.length * c = 2 * x) :
    (0 < c → zs ++ [c] = dig b (2 * x)) ∧ (¬ 0 < c → zs = dig b (2 * x)) := by
  have := add_law (y := x) hb hl hlen hc0 hc1 (by omega)
  rw [show x + x = 2 * x by omega] at this
  exact this
theorem toNat_ediv9 {a : Int} {b : Nat} (h : 0 ≤ a) : (a / (b : Int)).toNat = a.toNat / b := by
  have e : a = (a.toNat : Int) := (Int.toNat_of_nonneg h).symm
  conv => lhs; rw [e]
  rw [← Int.natCast_ediv, Int.toNat_natCast]
theorem emod9 {a : Int} {b : Nat} (h : 0 ≤ a) : a % (b : Int) = ((a.toNat % b : Nat) : Int) := by
  have e : a = (a.toNat : Int) := (Int.toNat_of_nonneg h).symm
  conv => lhs; rw [e]
  rw [← Int.natCast_emod]
theorem val_reverse_succ {b : Nat} {xs : List Int} {i : Nat} (h : i < xs.length) : val b (xs.drop (xs.length - (i + 1))) = xs.reverse.getD i 0 + b * val b (xs.drop (xs.length - i)) := by
  have e : xs.length - i = (xs.length - (i + 1)) + 1 := by omega
  have hl : xs.length - (i + 1) < xs.length := by omega
  rw [List.drop_eq_getElem_cons hl, e]
  show xs[xs.length - (i + 1)] + b * _ = _
  congr 1
  simp only [List.getD, List.getElem?_reverse h, Option.getD]
  rw [List.getElem?_eq_getElem (by omega)]
  simp only
  congr 1
  omega
theorem val_set {b : Nat} {v : Int} : ∀ {zs : List Int} {k : Nat}, k < zs.length → val b (zs.set k v) = val b zs + (b : Int) ^ k * (v - zs.getD k 0)
  | [], _, h => absurd h (Nat.not_lt_zero _)
  | z :: r, 0, _ => by
    show v + b * val b r = (z + b * val b r) + (b : Int) ^ 0 * (v - z)
    simp; omega
  | z :: r, k + 1, h => by
    show z + b * val b (r.set k v) = (z + b * val b r) + (b : Int) ^ (k + 1) * (v - r.getD k 0)
    rw [val_set (Nat.lt_of_succ_lt_succ h), Int.mul_add, Int.pow_succ, Int.mul_comm ((b : Int) ^ k) b, Int.mul_assoc]
    omega
theorem Lim.set {b : Nat} {zs : List Int} {v : Int} (h : Lim b zs) (k : Nat) (h0 : 0 ≤ v) (h1 : v < (b : Int)) : Lim b (zs.set k v) := fun z hz => by
  rcases List.mem_or_eq_of_mem_set hz with hz | rfl
  · exact h z hz
  · exact ⟨h0, h1⟩
theorem getD_set_ne {zs : List Int} {v : Int} {k j : Nat} (h : j ≠ k) : (zs.set k v).getD j 0 = zs.getD j 0 := by
  simp only [List.getD]
  rw [List.getElem?_set_ne (Ne.symm h)]
/-- one turn of the inner loop of a product -/
theorem mul_turn {b i j : Nat} {zs : List Int} {c x y q V Y : Int} (hb : 2 ≤ b) (hl : Lim b zs) (hij : i + j < zs.length) (hc0 : 0 ≤ c) (hc1 : c < b) (hx : 0 ≤ x ∧ x < (b : Int)) (hy : 0 ≤ y ∧ y < (b : Int)) (hq : q = c + (zs.getD (i + j) 0 + x * y)) (hv : val b zs + (b : Int) ^ (i + j) * c = V + (b : Int) ^ i * (x * Y)) :
    Lim b (zs.set (i + j) (q % b)) ∧ 0 ≤ q / b ∧ q / b < b ∧ val b (zs.set (i + j) (q % b)) + (b : Int) ^ (i + (j + 1)) * (q / b) = V + (b : Int) ^ i * (x * (Y + (b : Int) ^ j * y)) := by
  have hb0 : (0 : Int) < b := by omega
  have hz := hl.getD (by omega) (i + j)
  have h0 : 0 ≤ x * y := Int.mul_nonneg hx.1 hy.1
  have h1 : x * y ≤ ((b : Int) - 1) * ((b : Int) - 1) := Int.mul_le_mul (by omega) (by omega) hy.1 (by omega)
  have h2 : ((b : Int) - 1) * ((b : Int) - 1) = b * b - 2 * b + 1 := by
    rw [Int.sub_mul, Int.mul_sub]; omega
  refine ⟨hl.set _ (Int.emod_nonneg _ (by omega)) (Int.emod_lt_of_pos _ hb0), Int.ediv_nonneg (by omega) (by omega), Int.ediv_lt_of_lt_mul hb0 (by omega), ?_⟩
  rw [val_set hij, ← Nat.add_assoc, Int.pow_succ, Int.mul_assoc, Int.mul_sub]
  have e1 : (b : Int) ^ (i + j) * (q % b) + (b : Int) ^ (i + j) * (b * (q / b)) = (b : Int) ^ (i + j) * q := by
    rw [← Int.mul_add, Int.emod_add_mul_ediv]
  have e2 : (b : Int) ^ (i + j) * q = (b : Int) ^ (i + j) * c + ((b : Int) ^ (i + j) * zs.getD (i + j) 0 + (b : Int) ^ (i + j) * (x * y)) := by rw [hq, Int.mul_add, Int.mul_add]
  have e3 : (b : Int) ^ i * (x * (Y + (b : Int) ^ j * y)) = (b : Int) ^ i * (x * Y) + (b : Int) ^ (i + j) * (x * y) := by
    rw [Int.mul_add, Int.mul_add, Int.pow_add, Int.mul_left_comm x, Int.mul_assoc]
  rw [e3]
  omega
theorem bits_turn1 {x d i q r : Nat} (h : x * 2 ^ i = q * d + r) (hr : r < d) (hq : q < 2 ^ i) (hge : d ≤ 2 * r) : 2 * r - d < d ∧ x * 2 ^ (i + 1) = (2 * q + 1) * d + (2 * r - d) ∧ 2 * q + 1 < 2 ^ (i + 1) := by
  refine ⟨by omega, ?_, by rw [Nat.pow_succ]; omega⟩
  rw [Nat.pow_succ, ← Nat.mul_assoc, h, Nat.add_mul (2 * q), Nat.mul_assoc 2]
  omega
theorem bits_turn2 {x d i q r : Nat} (h : x * 2 ^ i = q * d + r) (hq : q < 2 ^ i) (hlt : 2 * r < d) : 2 * r < d ∧ x * 2 ^ (i + 1) = (2 * q) * d + 2 * r ∧ 2 * q < 2 ^ (i + 1) := by
  refine ⟨by omega, ?_, by rw [Nat.pow_succ]; omega⟩
  rw [Nat.pow_succ, ← Nat.mul_assoc, h, Nat.mul_assoc 2]
  omega
theorem bits_end {X d q r : Nat} (h : X = q * d + r) (hr : r < d) : X / d = q := by
  rw [h, Nat.mul_comm, Nat.mul_add_div (by omega), Nat.div_eq_of_lt hr, Nat.add_zero]
/-- what newton_step reckons: one stands for the power -/
def nstep (one d g : Nat) : Nat := if one < g * d then g - g * (g * d - one) / one else g + g * (one - g * d) / one
theorem corr_turn1 {G d T O : Nat} (h : G * d = T) (hd : 0 < d) : G ≤ T ∧ (O < T → 1 ≤ G ∧ d ≤ T ∧ (G - 1) * d = T - d) := by
  refine ⟨by rw [← h]; exact Nat.le_mul_of_pos_right _ hd, fun hlt => ?_⟩
  have hG : 1 ≤ G := by
    refine Nat.pos_of_ne_zero fun e => ?_
    rw [e, Nat.zero_mul] at h; omega
  refine ⟨hG, ?_, by rw [Nat.sub_mul, h, Nat.one_mul]⟩
  rw [← h]; exact Nat.le_mul_of_pos_left _ hG
theorem corr_turn2 {G d R O : Nat} (h : G * d + R = O) (hd : 0 < d) : G ≤ O ∧ (d ≤ R → (G + 1) * d + (R - d) = O) := by
  have := Nat.le_mul_of_pos_right G hd
  refine ⟨by omega, fun hle => ?_⟩
  rw [Nat.add_mul, Nat.one_mul]; omega
theorem dig_cut_len {b d c : Nat} (hb : 2 ≤ b) : (dig b (d / b ^ c)).length = (dig b d).length - c := by
  rw [← dig_drop hb, List.length_drop]
theorem recip_small {b P n H : Nat} (hb : 2 ≤ b) (h : P ≤ n) : b ^ P / H ≤ b ^ n :=
  Nat.le_trans (Nat.div_le_self _ _) (Nat.pow_le_pow_right (by omega) h)
/-- the guess that comes out of a reciprocal of the highest limbs -/
theorem recip_guess {b d c P k n : Nat} (hb : 2 ≤ b) (hn : P + k + c = n) :
    (b ^ P / (d / b ^ c)) * b ^ k ≤ b ^ n ∧ (b ^ P / (d / b ^ c)) * b ^ k * d ≤ 2 * b ^ n := by
  have hpc : 0 < b ^ c := Nat.pow_pos (by omega)
  have h1 : b ^ P / (d / b ^ c) ≤ b ^ P := Nat.div_le_self _ _
  have h2 : b ^ P / (d / b ^ c) * (d / b ^ c) ≤ b ^ P := Nat.div_mul_le_self _ _
  have e : b ^ n = b ^ P * (b ^ k * b ^ c) := by rw [← hn, Nat.pow_add, Nat.pow_add, Nat.mul_assoc]
  have h3 : d < (d / b ^ c + 1) * b ^ c := by
    have := Nat.lt_mul_div_succ d hpc
    rw [Nat.mul_comm]; exact this
  generalize b ^ P / (d / b ^ c) = q at *
  generalize d / b ^ c = H at *
  constructor
  · rw [e]
    have : b ^ k ≤ b ^ k * b ^ c := Nat.le_mul_of_pos_right _ hpc
    exact Nat.mul_le_mul h1 this
  · have h4 : q * b ^ k * d ≤ q * b ^ k * ((H + 1) * b ^ c) := Nat.mul_le_mul_left _ (Nat.le_of_lt h3)
    have h5 : q * b ^ k * ((H + 1) * b ^ c) = (q * H + q) * (b ^ k * b ^ c) := by
      rw [Nat.mul_assoc, Nat.mul_left_comm (b ^ k), ← Nat.mul_assoc, Nat.mul_add, Nat.mul_one]
    have h6 : (q * H + q) * (b ^ k * b ^ c) ≤ (2 * b ^ P) * (b ^ k * b ^ c) := Nat.mul_le_mul_right _ (by omega)
    rw [Nat.mul_assoc 2, ← e] at h6
    omega
theorem nstep_le {one d g : Nat} : nstep one d g ≤ 2 * g := by
  unfold nstep
  split
  · exact Nat.le_trans (Nat.sub_le _ _) (by omega)
  · have : g * (one - g * d) / one ≤ g := by
      by_cases h : one = 0
      · rw [h, Nat.div_zero]; omega
      · refine Nat.div_le_of_le_mul ?_
        rw [Nat.mul_comm one]
        exact Nat.mul_le_mul_left _ (by omega)
    omega
theorem nstep_room {one d g : Nat} (h : g * d ≤ 2 * one) : one < g * d → g * (g * d - one) / one ≤ g := fun _ => by
  refine Nat.div_le_of_le_mul ?_
  rw [Nat.mul_comm one]
  exact Nat.mul_le_mul_left _ (by omega)
def cmp3 (x y : Nat) : Int := if x < y then -1 else if y < x then 1 else 0
theorem cmp3_lt {x y : Nat} (h : x < y) : cmp3 x y = -1 := if_pos h
theorem cmp3_gt {x y : Nat} (h : y < x) : cmp3 x y = 1 := by unfold cmp3; rw [if_neg (by omega), if_pos h]
theorem cmp3_eq {x y : Nat} (h : x = y) : cmp3 x y = 0 := by unfold cmp3; rw [if_neg (by omega), if_neg (by omega)]
theorem cmp3_lt_iff {x y : Nat} : cmp3 x y < 0 ↔ x < y := by unfold cmp3; split <;> (try split) <;> omega
theorem cmp3_gt_iff {x y : Nat} : 0 < cmp3 x y ↔ y < x := by unfold cmp3; split <;> (try split) <;> omega
/-- one turn of sub -/
theorem sub_turn {b i : Nat} {zs : List Int} {c x y X Y q : Int} (hl : Lim b zs) (hlen : zs.length = i) (hc0 : 0 ≤ c) (hc1 : c ≤ 1) (hx : 0 ≤ x ∧ x < (b : Int)) (hy : 0 ≤ y ∧ y < (b : Int)) (hq : q = x - c - y) (hv : val b zs - (b : Int) ^ i * c = X - Y) :
    (q < 0 → Lim b (zs ++ [q + b]) ∧ val b (zs ++ [q + b]) - (b : Int) ^ (i + 1) * 1 = (X + (b : Int) ^ i * x) - (Y + (b : Int) ^ i * y)) ∧
    (¬ q < 0 → Lim b (zs ++ [q]) ∧ val b (zs ++ [q]) - (b : Int) ^ (i + 1) * 0 = (X + (b : Int) ^ i * x) - (Y + (b : Int) ^ i * y)) := by
  have e : (b : Int) ^ i * q = (b : Int) ^ i * x - (b : Int) ^ i * c - (b : Int) ^ i * y := by rw [hq, Int.mul_sub, Int.mul_sub]
  constructor
  · intro h
    refine ⟨hl.append (Lim.one (by omega) (by omega)), ?_⟩
    rw [val_append, val_one, hlen, Int.mul_add, Int.pow_succ, Int.mul_one]
    omega
  · intro h
    refine ⟨hl.append (Lim.one (by omega) (by omega)), ?_⟩
    rw [val_append, val_one, hlen, Int.mul_zero]
    omega
/-- sub's end: no borrow is left -/
theorem sub_end {b x y : Nat} {zs : List Int} {c : Int} (hl : Lim b zs) (hc0 : 0 ≤ c) (hle : y ≤ x) (hv : val b zs - (b : Int) ^ zs.length * c = (x : Int) - y) : val b zs = ((x - y : Nat) : Int) := by
  have h1 := val_lt hl
  by_cases h : c = 0
  · rw [h, Int.mul_zero] at hv; omega
  · have h0 : 0 ≤ (b : Int) ^ zs.length := by rw [← cpow]; exact Int.natCast_nonneg _
    have h2 : (b : Int) ^ zs.length * 1 ≤ (b : Int) ^ zs.length * c := Int.mul_le_mul_of_nonneg_left (by omega) h0
    rw [Int.mul_one] at h2
    omega
/-- one turn of a shift by one bit -/
theorem shl_turn {b i : Nat} {zs : List Int} {c x X q : Int} (hb : 2 ≤ b) (hl : Lim b zs) (hlen : zs.length = i) (hc0 : 0 ≤ c) (hc1 : c ≤ 1) (hx : 0 ≤ x ∧ x < (b : Int)) (hq : q = c + 2 * x) (hv : val b zs + (b : Int) ^ i * c = 2 * X) :
    Lim b (zs ++ [q % b]) ∧ 0 ≤ q / b ∧ q / b ≤ 1 ∧ val b (zs ++ [q % b]) + (b : Int) ^ (i + 1) * (q / b) = 2 * (X + (b : Int) ^ i * x) := by
  have hv' : val b zs + (b : Int) ^ i * c = X + X := by omega
  have h := add_turn (q := q) hb hl hlen hc0 hc1 hx hx (by omega) hv'
  exact ⟨h.1, h.2.1, h.2.2.1, by rw [h.2.2.2]; omega⟩
end Mine
namespace Mine
theorem ints_one {b : Nat} {t : Tok} (hb : 2 ≤ b) : IntsAre [.int 1 t] (dig b 1) := by
  rw [dig_step hb (by omega), Nat.mod_eq_of_lt (by omega), Nat.div_eq_of_lt (by omega), dig_nil]
  exact IntsAre.cons _ _ IntsAre.nil
theorem ints_nil {b : Nat} : IntsAre [] (dig b 0) := by rw [dig_nil]; exact IntsAre.nil
section
variable {prog : Program} {w : World} {A : Around} {E : Value → Shared → Prop} {s : Shared} {h₀ : Heap} {L : Addr} {m : Str → Option Value} {news : List (Addr × Obj)}
theorem min_pick {a b : Int} {t u : Tok} {Q : Value → Shared → Prop} (hh : A.handled = none) (F : Fr h₀ L s.heap m) (N : News h₀ L s.heap news)
    (h : ∀ v t' h' tk, v ≤ a → v ≤ b → (v = a ∨ v = b) → Fr h₀ L h' m → News h₀ L h' news → Q (.int v t') { s with heap := h', toks := tk }) :
    wpAny (model prog w) A (call (.builtin "min") [.int a t, .int b u]) Q E s :=
  min_two_N hh F N fun h' tk F' N' => h _ _ h' tk (by split <;> omega) (by split <;> omega) (by split <;> omega) F' N'
theorem max_pick {a b : Int} {t u : Tok} {Q : Value → Shared → Prop} (hh : A.handled = none) (F : Fr h₀ L s.heap m) (N : News h₀ L s.heap news)
    (h : ∀ v t' h' tk, a ≤ v → b ≤ v → (v = a ∨ v = b) → Fr h₀ L h' m → News h₀ L h' news → Q (.int v t') { s with heap := h', toks := tk }) :
    wpAny (model prog w) A (call (.builtin "max") [.int a t, .int b u]) Q E s :=
  max_two_N hh F N fun h' tk F' N' => h _ _ h' tk (by split <;> omega) (by split <;> omega) (by split <;> omega) F' N'
end
end Mine
namespace Mine
/-! the law in numbers -/
theorem div_parts (x O : Nat) : ∃ q r : Nat, q = x / O ∧ (q : Int) * O + r = x ∧ (0 < O → r < O) := by
  refine ⟨x / O, x % O, rfl, ?_, fun h => Nat.mod_lt _ h⟩
  have := Nat.div_add_mod x O
  rw [Nat.mul_comm] at this
  exact_mod_cast this
theorem neg_mul_lt {a O : Int} (hO : 0 < O) (h : a ≤ -1) : a * O ≤ -O := by
  have := Int.mul_le_mul_of_nonneg_right h (Int.le_of_lt hO)
  omega
/-- from below -/
theorem step_below {O d g : Nat} (hO : 0 < O) (hd : 0 < d) (h : g * d ≤ O) :
    g ≤ nstep O d g ∧ nstep O d g * d ≤ O ∧
    0 ≤ ((O : Int) - d * (nstep O d g : Nat)) * O - ((O : Int) - d * g) * ((O : Int) - d * g) ∧
    ((O : Int) - d * (nstep O d g : Nat)) * O - ((O : Int) - d * g) * ((O : Int) - d * g) < (d : Int) * O := by
  have e : nstep O d g = g + g * (O - g * d) / O := if_neg (by omega)
  rw [e]
  obtain ⟨q, r, hq, hqr, hr⟩ := div_parts (g * (O - g * d)) O
  rw [← hq]
  have hr := hr hO
  have hc : ((O - g * d : Nat) : Int) = (O : Int) - g * d := by rw [Int.natCast_sub h]; push_cast; rfl
  have hqr' : (q : Int) * O + r = g * ((O : Int) - g * d) := by rw [hqr, Int.natCast_mul, hc]
  have key : ((O : Int) - d * ((g + q : Nat) : Int)) * O - ((O : Int) - d * g) * ((O : Int) - d * g) = d * r := by
    push_cast
    grind
  have hdr0 : 0 ≤ (d : Int) * r := Int.mul_nonneg (by omega) (by omega)
  have hdr1 : (d : Int) * r < d * O := Int.mul_lt_mul_of_pos_left (by omega) (by omega)
  refine ⟨by omega, ?_, by omega, by omega⟩
  have hsq : 0 ≤ ((O : Int) - d * g) * ((O : Int) - d * g) := by
    rcases Int.le_total 0 ((O : Int) - d * g) with h9 | h9
    · exact Int.mul_nonneg h9 h9
    · exact Int.mul_nonneg_of_nonpos_of_nonpos h9 h9
  have hl : 0 ≤ (O : Int) - d * ((g + q : Nat) : Int) := by
    refine Int.not_lt.mp fun hn => ?_
    have := neg_mul_lt (a := (O : Int) - d * ((g + q : Nat) : Int)) (O := O) (by omega) (by omega)
    omega
  have : ((d * (g + q) : Nat) : Int) ≤ O := by push_cast; push_cast at hl; omega
  rw [Nat.mul_comm]
  exact_mod_cast this
/-- from above -/
theorem step_above {O d g : Nat} (hO : 0 < O) (hd : 0 < d) (h : O < g * d) (hg : g * d ≤ 2 * O) :
    nstep O d g ≤ g ∧ nstep O d g * d < O + d ∧
    0 ≤ ((O : Int) - d * g) * ((O : Int) - d * g) - ((O : Int) - d * (nstep O d g : Nat)) * O ∧
    ((O : Int) - d * g) * ((O : Int) - d * g) - ((O : Int) - d * (nstep O d g : Nat)) * O < (d : Int) * O := by
  have e : nstep O d g = g - g * (g * d - O) / O := if_pos h
  have hroom := nstep_room hg h
  rw [e]
  obtain ⟨q, r, hq, hqr, hr⟩ := div_parts (g * (g * d - O)) O
  rw [← hq] at hroom ⊢
  have hr := hr hO
  have hc : ((g * d - O : Nat) : Int) = (g : Int) * d - O := by rw [Int.natCast_sub (Nat.le_of_lt h)]; push_cast; rfl
  have hqr' : (q : Int) * O + r = g * ((g : Int) * d - O) := by rw [hqr, Int.natCast_mul, hc]
  have hcs : ((g - q : Nat) : Int) = (g : Int) - q := Int.natCast_sub hroom
  rw [hcs]
  have key : ((O : Int) - d * g) * ((O : Int) - d * g) - ((O : Int) - d * ((g : Int) - q)) * O = d * r := by grind
  have hdr0 : 0 ≤ (d : Int) * r := Int.mul_nonneg (by omega) (by omega)
  have hdr1 : (d : Int) * r < d * O := Int.mul_lt_mul_of_pos_left (by omega) (by omega)
  refine ⟨Nat.sub_le _ _, ?_, by omega, by omega⟩
  have hsq : 0 ≤ ((O : Int) - d * g) * ((O : Int) - d * g) := by
    rcases Int.le_total 0 ((O : Int) - d * g) with h9 | h9
    · exact Int.mul_nonneg h9 h9
    · exact Int.mul_nonneg_of_nonpos_of_nonpos h9 h9
  have hl : -(d : Int) < (O : Int) - d * ((g : Int) - q) := by
    refine Int.not_le.mp fun hn => ?_
    have := Int.mul_le_mul_of_nonneg_right hn (show (0 : Int) ≤ O by omega)
    rw [Int.neg_mul] at this
    omega
  have : ((d * (g - q) : Nat) : Int) < O + d := by rw [Int.natCast_mul, hcs]; omega
  rw [Nat.mul_comm]
  exact_mod_cast this
theorem le_right_succ {O d t : Nat} (hd : 0 < d) (h : t * d < O + d) : t ≤ O / d + 1 := by
  refine Nat.not_lt.mp fun hn => ?_
  have h1 : (O / d + 2) * d ≤ t * d := Nat.mul_le_mul_right _ hn
  have h2 := Nat.lt_mul_div_succ O hd
  rw [Nat.mul_comm] at h2
  rw [show O / d + 2 = (O / d + 1) + 1 by omega, Nat.add_mul, Nat.one_mul] at h1
  omega
def Good (O d g : Nat) : Prop := 2 ≤ g ∧ g * d + d ≤ 2 * O
theorem good_step {O d g : Nat} (hO : 0 < O) (hd : 0 < d) (hdO : d < O) (h : Good O d g) : Good O d (nstep O d g) := by
  by_cases hb : g * d ≤ O
  · obtain ⟨h1, h2, _, _⟩ := step_below hO hd hb
    exact ⟨Nat.le_trans h.1 h1, by omega⟩
  · obtain ⟨h1, h2, h3, _⟩ := step_above (g := g) hO hd (by omega) (by have := h.2; omega)
    have h4 : nstep O d g * d ≤ g * d := Nat.mul_le_mul_right _ h1
    refine ⟨?_, by have := h.2; omega⟩
    refine Nat.not_lt.mp fun hn => ?_
    have h5 : nstep O d g * d ≤ 1 * d := Nat.mul_le_mul_right _ (by omega)
    have h6 : (O : Int) - d ≤ (O : Int) - d * (nstep O d g : Nat) := by
      have : ((nstep O d g * d : Nat) : Int) ≤ d := by omega
      rw [Int.natCast_mul, Int.mul_comm] at this
      omega
    have h7 := Int.mul_le_mul_of_nonneg_right h6 (show (0 : Int) ≤ O by omega)
    have hM : 0 ≤ (d : Int) * g - O ∧ (d : Int) * g - O ≤ O - d := by
      have h8 : ((g * d : Nat) : Int) + d ≤ 2 * O := by have := h.2; omega
      have h9 : (O : Int) < ((g * d : Nat) : Int) := by omega
      rw [Int.natCast_mul, Int.mul_comm] at h8 h9
      omega
    have h8 : ((d : Int) * g - O) * ((d : Int) * g - O) ≤ ((O : Int) - d) * ((O : Int) - d) := Int.mul_le_mul hM.2 hM.2 hM.1 (by omega)
    have h9 : ((O : Int) - d * g) * ((O : Int) - d * g) = ((d : Int) * g - O) * ((d : Int) * g - O) := by grind
    have h10 : ((O : Int) - d) * ((O : Int) - d) = ((O : Int) - d) * O - ((O : Int) - d) * d := by rw [Int.mul_sub]
    have h11 : 0 < ((O : Int) - d) * d := Int.mul_pos (by omega) (by omega)
    omega
theorem fix_near {O d g : Nat} (hO : 0 < O) (hd : 0 < d) (h : Good O d g) (hf : nstep O d g = g) : g ≤ O / d + 1 ∧ O / d ≤ g + 1 := by
  have hR1 : O / d * d ≤ O := Nat.div_mul_le_self O d
  have hR2 : O < (O / d + 1) * d := by
    have := Nat.lt_mul_div_succ O hd
    rw [Nat.mul_comm]; exact this
  by_cases hb : g * d ≤ O
  · have e : nstep O d g = g + g * (O - g * d) / O := if_neg (by omega)
    rw [e] at hf
    have hlt : g * (O - g * d) < O := by
      have : g * (O - g * d) / O = 0 := by omega
      exact (Nat.div_eq_zero_iff_lt hO).mp this
    have hle : g ≤ O / d := (Nat.le_div_iff_mul_le hd).mpr hb
    refine ⟨by omega, Nat.not_lt.mp fun hn => ?_⟩
    have h1 : (g + 2) * d ≤ O / d * d := Nat.mul_le_mul_right _ (by omega)
    rw [Nat.add_mul] at h1
    have hL : 2 * d ≤ O - g * d := by omega
    have h2 : 2 * (O - g * d - d) ≤ g * (O - g * d - d) := Nat.mul_le_mul_right _ h.1
    have h3 : g * (O - g * d) = g * (O - g * d - d) + g * d := by rw [← Nat.mul_add]; congr 1; omega
    omega
  · have e : nstep O d g = g - g * (g * d - O) / O := if_pos (by omega)
    rw [e] at hf
    have hlt : g * (g * d - O) < O := by
      have : g * (g * d - O) / O = 0 := by have := h.1; omega
      exact (Nat.div_eq_zero_iff_lt hO).mp this
    have hge : O / d < g := (Nat.div_lt_iff_lt_mul hd).mpr (by omega)
    refine ⟨Nat.not_lt.mp fun hn => ?_, by omega⟩
    have h1 : (O / d + 2) * d ≤ g * d := Nat.mul_le_mul_right _ (by omega)
    rw [show O / d + 2 = (O / d + 1) + 1 by omega, Nat.add_mul] at h1
    have h2 : g * (d + 1) ≤ g * (g * d - O) := Nat.mul_le_mul_left _ (by omega)
    rw [Nat.mul_add] at h2
    omega
def yk (O d : Nat) : Nat → Nat
  | 0 => 2
  | k + 1 => yk O d k + yk O d k * (O - yk O d k * d) / O
def iter (O d g : Nat) : Nat → Nat
  | 0 => g
  | k + 1 => nstep O d (iter O d g k)
theorem step_mono {O d x y : Nat} (hO : 0 < O) (hxy : x ≤ y) (hy : y * d ≤ O) : nstep O d x ≤ nstep O d y := by
  have hx : x * d ≤ O := Nat.le_trans (Nat.mul_le_mul_right _ hxy) hy
  have ex : nstep O d x = x + x * (O - x * d) / O := if_neg (by omega)
  have ey : nstep O d y = y + y * (O - y * d) / O := if_neg (by omega)
  rw [ex, ey, ← Nat.add_mul_div_right _ _ hO |>.trans (Nat.add_comm _ _), ← Nat.add_mul_div_right _ _ hO |>.trans (Nat.add_comm _ _)]
  refine Nat.div_le_div_right ?_
  have hcx : ((O - x * d : Nat) : Int) = (O : Int) - x * d := by rw [Int.natCast_sub hx]; push_cast; rfl
  have hcy : ((O - y * d : Nat) : Int) = (O : Int) - y * d := by rw [Int.natCast_sub hy]; push_cast; rfl
  have key : ((x * (O - x * d) + x * O : Nat) : Int) ≤ ((y * (O - y * d) + y * O : Nat) : Int) := by
    push_cast
    rw [hcx, hcy]
    have h1 : 0 ≤ ((y : Int) - x) * (((O : Int) - y * d) + ((O : Int) - x * d)) := Int.mul_nonneg (by omega) (by rw [← hcx, ← hcy]; omega)
    have h2 : ((y : Int) - x) * (((O : Int) - y * d) + ((O : Int) - x * d)) = ((y : Int) * ((O : Int) - y * d) + y * O) - (x * ((O : Int) - x * d) + x * O) := by grind
    omega
  exact_mod_cast key
theorem good_iter {O d g : Nat} (hO : 0 < O) (hd : 0 < d) (hdO : d < O) (h : Good O d g) : ∀ k, Good O d (iter O d g k)
  | 0 => h
  | k + 1 => good_step hO hd hdO (good_iter hO hd hdO h k)
theorem led_stops {O d g : Nat} (hO : 0 < O) (hd : 0 < d) (hdO : 4 * d ≤ O) (h : Good O d g) (hk : O / d ≤ yk O d 16 + 1) : ∃ j, j < 24 ∧ nstep O d (iter O d g j) = iter O d g j := by
  refine Classical.byContradiction fun hn => ?_
  have hne : ∀ j, j < 24 → nstep O d (iter O d g j) ≠ iter O d g j := fun j hj e => hn ⟨j, hj, e⟩
  have hG := good_iter hO hd (by omega) h
  have hR1 : O / d * d ≤ O := Nat.div_mul_le_self O d
  have hR2 : O < (O / d + 1) * d := by
    have := Nat.lt_mul_div_succ O hd
    rw [Nat.mul_comm]; exact this
  have leR : ∀ x, x * d ≤ O → x ≤ O / d := fun x hx => (Nat.le_div_iff_mul_le hd).mpr hx
  have ofR : ∀ x, x ≤ O / d → x * d ≤ O := fun x hx => Nat.le_trans (Nat.mul_le_mul_right _ hx) hR1
  have hA : ∃ a, a ≤ 2 ∧ iter O d g a * d ≤ O := by
    by_cases h0 : iter O d g 0 * d ≤ O
    · exact ⟨0, by omega, h0⟩
    by_cases h1 : iter O d g 1 * d ≤ O
    · exact ⟨1, by omega, h1⟩
    refine ⟨2, by omega, ?_⟩
    obtain ⟨_, a2, _, _⟩ := step_above hO hd (show O < iter O d g 0 * d by omega) (by have := (hG 0).2; omega)
    have a2 : iter O d g 1 * d < O + d := a2
    obtain ⟨b1, _, _, _⟩ := step_above hO hd (show O < iter O d g 1 * d by omega) (by have := (hG 1).2; omega)
    have b2 := hne 1 (by omega)
    have b3 : iter O d g 2 + 1 ≤ iter O d g 1 := by
      show nstep O d (iter O d g 1) + 1 ≤ _
      omega
    have b4 := Nat.mul_le_mul_right d b3
    rw [Nat.add_mul] at b4
    omega
  obtain ⟨a, ha, hb⟩ := hA
  have hB : ∀ k, iter O d g (a + k) * d ≤ O ∧ yk O d k ≤ iter O d g (a + k) := by
    intro k
    induction k with
    | zero => exact ⟨hb, (hG a).1⟩
    | succ k ih =>
      obtain ⟨i1, i2⟩ := ih
      refine ⟨(step_below hO hd i1).2.1, ?_⟩
      have hy : yk O d k * d ≤ O := Nat.le_trans (Nat.mul_le_mul_right _ i2) i1
      have e : yk O d (k + 1) = nstep O d (yk O d k) := (if_neg (show ¬ O < yk O d k * d by omega)).symm
      rw [e]
      exact step_mono hO i2 i1
  have fixR : ∀ x, x * d ≤ O → O / d ≤ x → nstep O d x = x := fun x hx hr => by
    obtain ⟨c1, c2, _, _⟩ := step_below hO hd hx
    have c3 := leR _ c2
    have c4 := leR _ hx
    omega
  obtain ⟨c1, c2⟩ := hB 16
  by_cases hr : O / d ≤ iter O d g (a + 16)
  · exact hne (a + 16) (by omega) (fixR _ c1 hr)
  · have c3 := hne (a + 16) (by omega)
    obtain ⟨d1, d2, _, _⟩ := step_below hO hd c1
    have d3 : O / d ≤ iter O d g (a + 17) := by
      show O / d ≤ nstep O d (iter O d g (a + 16))
      omega
    exact hne (a + 17) (by omega) (fixR _ d2 d3)
theorem yk_64 : ∀ d, d < 16 → 64 / (d + 1) ≤ yk 64 (d + 1) 16 + 1 := by decide +kernel
theorem yk_256 : ∀ d, d < 64 → 256 / (d + 1) ≤ yk 256 (d + 1) 16 + 1 := by decide +kernel
theorem yk_512 : ∀ d, d < 128 → 512 / (d + 1) ≤ yk 512 (d + 1) 16 + 1 := by decide +kernel
theorem yk_4096 : ∀ d, d < 1024 → 4096 / (d + 1) ≤ yk 4096 (d + 1) 16 + 1 := by decide +kernel
theorem yk_all {O d : Nat} (hO : O = 64 ∨ O = 256 ∨ O = 512 ∨ O = 4096) (hd : 0 < d) (h4 : 4 * d ≤ O) : O / d ≤ yk O d 16 + 1 := by
  have e : d = (d - 1) + 1 := by omega
  rw [e]
  rcases hO with rfl | rfl | rfl | rfl
  · exact yk_64 _ (by omega)
  · exact yk_256 _ (by omega)
  · exact yk_512 _ (by omega)
  · exact yk_4096 _ (by omega)
end Mine
namespace Mine
theorem law_nums {r r' : Int} (h0 : 0 ≤ r) (h1 : r < 2) (h2 : 0 ≤ r') (h3 : r' < 6 - (3 + r)) : ∃ b O : Nat, 2 ≤ b ∧ b ≤ 16 ∧ (2 : Int) ^ (3 + r).toNat = b ∧ b ^ (2 + r').toNat = O ∧ (O = 64 ∨ O = 256 ∨ O = 512 ∨ O = 4096) ∧
    b ^ (2 + r' + 1).toNat = O * b ∧ O * b ≤ 65536 ∧ (2 : Int) ^ ((3 + r) * (2 + r')).toNat = (O : Int) := by
  have hr : r = 0 ∨ r = 1 := by omega
  rcases hr with rfl | rfl
  · have hr' : r' = 0 ∨ r' = 1 ∨ r' = 2 := by omega
    rcases hr' with rfl | rfl | rfl
    · exact ⟨8, 64, by decide, by decide, by decide, by decide, by decide, by decide, by decide, by decide⟩
    · exact ⟨8, 512, by decide, by decide, by decide, by decide, by decide, by decide, by decide, by decide⟩
    · exact ⟨8, 4096, by decide, by decide, by decide, by decide, by decide, by decide, by decide, by decide⟩
  · have hr' : r' = 0 ∨ r' = 1 := by omega
    rcases hr' with rfl | rfl
    · exact ⟨16, 256, by decide, by decide, by decide, by decide, by decide, by decide, by decide, by decide⟩
    · exact ⟨16, 4096, by decide, by decide, by decide, by decide, by decide, by decide, by decide, by decide⟩
/-- three quotients are one -/
theorem div_ge {O d : Nat} (hd : 0 < d) (h : d ≤ O) : d ≤ O / (O / d) := by
  have h1 : 0 < O / d := Nat.div_pos h hd
  exact (Nat.le_div_iff_mul_le h1).mpr (by rw [Nat.mul_comm]; exact Nat.div_mul_le_self O d)
theorem div3 {O d : Nat} (hd : 0 < d) (h : d ≤ O) : O / (O / (O / d)) = O / d := by
  have h1 : 0 < O / d := Nat.div_pos h hd
  have h2 := div_ge hd h
  refine Nat.le_antisymm (Nat.div_le_div_left h2 hd) ?_
  have h3 : 0 < O / (O / d) := Nat.lt_of_lt_of_le hd h2
  refine (Nat.le_div_iff_mul_le h3).mpr ?_
  rw [Nat.mul_comm]
  exact Nat.div_mul_le_self O (O / d)
theorem dig_drop1 {b O d : Nat} (hb : 2 ≤ b) (hd : 0 < d) : (dig b (O * b / d)).drop 1 = dig b (O / d) := by
  rw [dig_drop hb, Nat.pow_one, Nat.div_div_eq_div_mul, Nat.mul_comm d b, Nat.mul_comm O b, Nat.mul_div_mul_left _ _ (by omega)]
theorem good_start {O d g : Nat} (h2 : 2 ≤ g) (h : g + 1 ≤ 2 * (O / d)) : Good O d g := by
  refine ⟨h2, ?_⟩
  have h1 := Nat.mul_le_mul_right d h
  have h3 := Nat.div_mul_le_self O d
  rw [Nat.add_mul, Nat.mul_assoc] at h1
  omega
theorem guess_of {v r f : Int} {R : Nat} (h1 : 2 ≤ v) (h2 : 0 ≤ r) (h3 : r < 2 * f - v) (hR : f = (R : Int)) : ∃ g : Nat, v + r = (g : Int) ∧ 2 ≤ g ∧ g + 1 ≤ 2 * R :=
  ⟨(v + r).toNat, by omega, by omega, by omega⟩
end Mine
namespace Mine
theorem off_0 : True := by
  w_top off
  trivial
local macro_rules | `(tactic| walk_at "exec While BoolOp cons nil") => `(tactic| (refine Stop.out ?_))
local macro_rules | `(tactic| walk_at "exec While Compare cons nil") => `(tactic| (refine Stop.out ?_))
local macro_rules | `(tactic| walk_at "pyIter ref") => `(tactic| (refine Stop.out ?_))
local macro_rules | `(tactic| walk_at "exec For Name Call cons nil") => `(tactic| walk_at "my F")
local macro_rules | `(tactic| walk_at "exec For Name Subscript cons nil") => `(tactic| walk_at "my F")
local macro_rules | `(tactic| walk_at "exec For Name Name cons nil") => `(tactic| walk_at "my F")
local macro_rules | `(tactic| walk_at "my F") => `(tactic| (k_here; (rename Fr _ _ _ _ => lF'); (with_unfolding_all refine' For_invVF lF' rfl rfl ?_; k_whole)))
local macro_rules | `(tactic| walk_at "my look") => `(tactic| ((try dsimp only [mB]); repeat' (first | with_reducible exact lk_hit | (with_reducible refine' lk_miss ?_ ?_; focus decide))))
local macro_rules | `(tactic| walk_at "my all") => `(tactic| (repeat' (first | exact List.forall_mem_nil _ | (refine' List.forall_mem_cons.mpr ⟨?_, ?_⟩; focus (walk_at "my look")))))
local macro_rules | `(tactic| walk_at "my in") => `(tactic| repeat' (first | exact List.forall_mem_nil _ | (refine' List.forall_mem_cons.mpr ⟨?_, ?_⟩; focus (with_unfolding_all k_memK)) | walk_at "my tail"))
local macro_rules | `(tactic| walk_at "my tail") => `(tactic| (intro p9 h9; (repeat (refine List.mem_cons_of_mem _ ?_)); exact h9))
local macro_rules | `(tactic| walk_at "my off") => `(tactic| first | assumption | (repeat' (first | exact List.forall_mem_nil _ | (refine' List.forall_mem_cons.mpr ⟨?_, ?_⟩; focus (first | assumption | exact off_of (by assumption) (by k_mem) | (intro e9; simp_all)))))) 
local macro_rules | `(tactic| size_fits) => `(tactic| (simp only [List.size_toArray, PySem.sizeLine_eq, List.length_append, List.length_cons, List.length_nil]; omega))
local macro_rules | `(tactic| walk_at "my L") => `(tactic| (k_here; (refine' callL (by assumption) (by k_asm) (by k_asm) rfl rfl ?_ ?_ ?_ ?_ ?_); rotate_left 3))
local macro_rules | `(tactic| walk_at "my I") => `(tactic| (k_here; (refine' callI (by assumption) (by k_asm) (by k_asm) rfl rfl ?_ ?_ ?_ ?_ ?_); rotate_left 3))
local macro_rules | `(tactic| walk_at "my A") => `(tactic| (k_here; (refine' callA (by assumption) (by k_asm) (by k_asm) rfl rfl ?_ ?_ ?_ ?_ ?_ ?_); rotate_left 5))
local macro_rules | `(tactic| walk_at "my z") => `(tactic| (assumption; assumption; (first | decide | exact le6 (by decide) | omega); k_whole))
local macro_rules | `(tactic| walk_at "my y") => `(tactic| (k_mem; assumption; assumption; (first | decide | exact le6 (by decide) | omega); k_whole))
local macro_rules | `(tactic| walk_at "my n") => `(tactic| first | assumption | decide | omega)
local macro_rules | `(tactic| walk_at "my c") => `(tactic| first | assumption | is_list | omega | exact News.get (by k_asm) (by k_mem) | exact ints_one (by assumption) | exact numb_list (by assumption) (by assumption) (by k_asm) (by k_asm) (by walk_at "my tail"))
local macro_rules | `(tactic| walk_at "call ref") => `(tactic| ((k_dflt (walk_at "my A"; walk_at "my C"; walk_at "my y")); intro l9 us9 n9 h9 tk9 F9 N9 I9; (try k_sweep); (try dsimp only at *)))
local macro_rules | `(tactic| walk_at "call ref") => `(tactic| ((k_dflt (walk_at "my I"; walk_at "my C"; walk_at "my z")); intro t9 h9 tk9 F9 N9; (try k_sweep); (try dsimp only at *)))
local macro_rules | `(tactic| walk_at "call ref") => `(tactic| ((k_dflt (walk_at "my L"; walk_at "my C"; walk_at "my z")); intro l9 us9 n9 h9 tk9 F9 N9 l1 I9; (try k_sweep); (try dsimp only at *)))
local macro_rules | `(tactic| walk_at "binaryOp LShift int int") => `(tactic| (k_here; (with_reducible refine lshift_int_small ?_ ?_ ?_ ?_); iterate 3 (walk_at "my n")))
local macro_rules | `(tactic| walk_at "binaryOp Mult int int") => `(tactic| (k_here; (with_reducible refine mul_int ?_ ?_); rotate_left 1; (first | assumption | (apply mulL <;> walk_at "my n") | (apply mulR <;> walk_at "my n"))))
local macro_rules | `(tactic| walk_at "binaryOp Mod int int") => `(tactic| (k_here; (with_reducible refine mod_int' ?_ ?_); walk_at "my n"))
local macro_rules | `(tactic| walk_at "binaryOp FloorDiv int int") => `(tactic| (k_here; (with_reducible refine floordiv_int ?_ ?_ (Or.inl (PyProof.noPylong_small ?_))); walk_at "my n"; rotate_left 1; walk_at "my n"))
local macro_rules | `(tactic| walk_at "binaryOp Pow int int") => `(tactic| (k_here; (with_reducible refine pow_int_small ?_ ?_ ?_ ?_); iterate 3 (walk_at "my n")))
local macro_rules | `(tactic| walk_at "exec For Tuple Call cons nil") => `(tactic| (k_here; (rename Fr _ _ _ _ => lF'); (with_unfolding_all refine' For_pair3F lF' rfl rfl rfl rfl ?_ (fun _ => rfl))))
local macro_rules | `(tactic| walk_at "call type:enumerate") => `(tactic| (refine Stop.out ?_))
local macro_rules | `(tactic| k_all) => `(tactic| assumption)
local macro_rules | `(tactic| walk_at "my ints") => `(tactic| first | assumption | exact ints_one (by assumption))
set_option maxHeartbeats 4000000 in
theorem normal_ret {prog : Program} {w : World} {p : Program} {loose : List Str} {mean : ExcName → Option Value} {mg mb : Str → Option Value} {s : Shared} {la : Addr} {vs : List Value} {xs : List Int} {b n : Nat} (hb : 2 ≤ b)
    (ha : s.heap.IsList la vs.toArray) (hi : IntsAre vs xs) (hlen : xs.length ≤ 1000) (hl : Lim b xs) (hv : val b xs = n) : RetL prog w p loose mean mg mb 1 58 [.ref la] s (dig b n) := by
  intro dp un gd fr base Q E S hd1 hu ret
  k_dflt (refine' enter [(Str.ofString "a", .ref la)] ?S ?k6 ?k7 ?k8 ?k9 ?kB ?_ ?c2 ?c3 ?c4 ?c5; (case S => assumption); (case k6 => k_is); (case k7 => k_is); (case k8 => assumption); (case k9 => exact BindsTo.of_eq rfl); (case c5 => decide); (case kB => exact locs rfl); (case c2 => exact rfl); (case c3 => exact rfl); (case c4 => exact rfl); k_whole; intro L' h' tk' F' N' S' X' T' Q9 hQ9; (try dsimp only); (try k_fold))
  k_steps
  refine Stop.mk ?_
  (with_unfolding_all refine' my_while (σ := Int × Tok) (fun (e, e_t) => [(Str.ofString "a", .ref la), (Str.ofString "end", .int e e_t)]) (fun (e, e_t) => []) (fun c => match c with | (e, e_t) => 0 ≤ e ∧ e ≤ xs.length ∧ (∀ i : Nat, e ≤ i → xs.getD i 0 = 0)) (fun (e, e_t) => e.toNat) (_, _) (by assumption) (by assumption) ?hn ?hk ?hp ?turn)
  case hk => walk_at "my all"
  case hn => walk_at "my in"
  case hp =>
    refine ⟨by omega, by omega, fun i hi => ?_⟩
    simp only [List.getD]
    rw [List.getElem?_eq_none (by omega)]; rfl
  case turn =>
    refine all2 ?_
    intro e e_t u h tk hI9 F N QT hQT
    refine and3 hI9 ?_
    clear hI9
    intro h0 h1 hz
    dsimp only at *
    (try k_fold)

    k_steps
    focus
      (refine hQT _ _ ?_); dsimp only [WPost]
      (rename News _ _ _ _ => nE'); (try simp only [List.push_toArray] at nE')
      refine' wend (_, _) (by assumption) nE' ?hn ?hk ?hp ?hm
      case hk => walk_at "my all"
      case hn => walk_at "my in"

      case hp =>
        refine ⟨by omega, by omega, fun i hi => ?_⟩
        by_cases hi' : e ≤ i
        · exact hz i hi'
        · have : i = (e - 1).toNat := by omega
          rw [this]; assumption
      case hm => (show (e - 1).toNat < e.toNat); omega
    all_goals
      (rename IntsAre _ _ => hI9)
      rw [trim_law hb hl hv (by omega) (fun i hi => hz i (by omega)) (by first | (left; omega) | (right; rw [show e.toNat - 1 = (e - 1).toNat by omega]; assumption))] at hI9
      (refine hQ9 _ _ ?_); exact endL (s := s) ret (by assumption) (by assumption) (by k_mem) (by assumption)
theorem down_size (n : Nat) : Builtin.Range.rangeSize ((n : Int) - 1) (-1) (-1) = n := by
  unfold Builtin.Range.rangeSize
  rw [if_neg (by omega)]
  split
  · rw [Int.neg_neg, Int.ediv_one]; omega
  · omega
theorem down_small {n : Nat} (h : n ≤ 1000) : Builtin.Range.small ((n : Int) - 1) (-1) (-1) = true := by
  unfold Builtin.Range.small
  rw [down_size]
  simp only [Builtin.Range.rangeFitsLong, Bool.and_eq_true, Bool.or_eq_true, decide_eq_true_eq, beq_iff_eq, show ¬ ((-1 : Int) > 0) by decide, if_false]
  omega
set_option maxHeartbeats 4000000 in
theorem down_ret {prog : Program} {w : World} {p : Program} {loose : List Str} {mean : ExcName → Option Value} {mg mb : Str → Option Value} {s : Shared} {la : Addr} {vs : List Value} {b x : Nat} {k : Int} {t : Tok} (hb : 2 ≤ b)
    (ha : s.heap.IsList la vs.toArray) (hi : IntsAre vs (dig b x)) (hx : x < 2 ^ 64) (h0 : 0 ≤ k) (hk : k ≤ 1000) : RetL prog w p loose mean mg mb 1 100 [.ref la, .int k t] s (dig b (x / b ^ k.toNat)) := by
  have hlen := dig_len_64 hb hx
  rw [← dig_drop hb]
  generalize dig b x = xs at *
  intro dp un gd fr base Q E S hd1 hu ret
  k_dflt (refine' enter [(Str.ofString "spot", .int k t), (Str.ofString "a", .ref la)] ?S ?k6 ?k7 ?k8 ?k9 ?kB ?_ ?c2 ?c3 ?c4 ?c5; (case S => assumption); (case k6 => k_is); (case k7 => k_is); (case k8 => assumption); (case k9 => exact BindsTo.of_eq rfl); (case c5 => decide); (case kB => exact locs rfl); (case c2 => exact rfl); (case c3 => exact rfl); (case c4 => exact rfl); k_whole; intro L' h' tk' F' N' S' X' T' Q9 hQ9; (try dsimp only); (try k_fold))
  k_steps
  dsimp only
  (refine hQ9 _ _ ?_); exact endL (s := s) ret (by assumption) (by assumption) (by k_mem) (by assumption)
set_option maxHeartbeats 4000000 in
theorem lifted_ret {prog : Program} {w : World} {p : Program} {loose : List Str} {mean : ExcName → Option Value} {mg mb : Str → Option Value} {s : Shared} {la : Addr} {vs : List Value} {b x : Nat} {k : Int} {t : Tok} (hb : 2 ≤ b)
    (ha : s.heap.IsList la vs.toArray) (hi : IntsAre vs (dig b x)) (hx : x < 2 ^ 64) (h0 : 0 ≤ k) (hk : k ≤ 1000) : RetL prog w p loose mean mg mb 1 86 [.ref la, .int k t] s (dig b (x * b ^ k.toNat)) := by
  have hlen := dig_len_64 hb hx
  have hpos := @dig_len_pos b x hb
  have hlift : 0 < x → List.replicate k.toNat 0 ++ dig b x = dig b (x * b ^ k.toNat) := fun h => dig_lift hb k.toNat (by omega)
  generalize dig b x = xs at *
  intro dp un gd fr base Q E S hd1 hu ret
  k_dflt (refine' enter [(Str.ofString "spot", .int k t), (Str.ofString "a", .ref la)] ?S ?k6 ?k7 ?k8 ?k9 ?kB ?_ ?c2 ?c3 ?c4 ?c5; (case S => assumption); (case k6 => k_is); (case k7 => k_is); (case k8 => assumption); (case k9 => exact BindsTo.of_eq rfl); (case c5 => decide); (case kB => exact locs rfl); (case c2 => exact rfl); (case c3 => exact rfl); (case c4 => exact rfl); k_whole; intro L' h' tk' F' N' S' X' T' Q9 hQ9; (try dsimp only); (try k_fold))
  k_steps
  · (rename IntsAre _ _ => hI9)
    have e9 : ∀ n, (List.replicate n [(0 : Int)]).flatten = List.replicate n 0 := fun n => by
      induction n with
      | zero => rfl
      | succ n ih => rw [List.replicate_succ, List.replicate_succ, List.flatten_cons, ih]; rfl
    rw [e9, hlift (by omega)] at hI9
    (refine hQ9 _ _ ?_); exact endL (s := s) ret (by assumption) (by assumption) (by k_mem) (by assumption)
  · have h9 : x = 0 := by omega
    subst h9
    rw [Nat.zero_mul, dig_nil] at ret
    (refine hQ9 _ _ ?_); exact endL (s := s) (us := []) ret (by assumption) (by assumption) (by k_mem) IntsAre.nil
set_option maxHeartbeats 4000000 in
theorem compare_ret {prog : Program} {w : World} {p : Program} {loose : List Str} {mean : ExcName → Option Value} {mg mb : Str → Option Value} {s : Shared} {la lb : Addr} {va vb : List Value} {b x y : Nat} (hb : 2 ≤ b)
    (ha : s.heap.IsList la va.toArray) (hia : IntsAre va (dig b x)) (hlb : s.heap.IsList lb vb.toArray) (hib : IntsAre vb (dig b y)) (hx : x < 2 ^ 64) (hy : y < 2 ^ 64) : RetI prog w p loose mean mg mb 1 65 [.ref la, .ref lb] s (cmp3 x y) := by
  have hla := dig_len_64 hb hx
  have hlb' := dig_len_64 hb hy
  have f1 : (dig b x).length < (dig b y).length → cmp3 x y = -1 := fun h => cmp3_lt (dig_lt_of_len hb h)
  have f2 : (dig b y).length < (dig b x).length → cmp3 x y = 1 := fun h => cmp3_gt (dig_lt_of_len hb h)
  have f3 : (dig b x).length = (dig b y).length → ∀ k, k < (dig b x).length → (∀ j, k < j → (dig b x).getD j 0 = (dig b y).getD j 0) → (dig b x).getD k 0 < (dig b y).getD k 0 → cmp3 x y = -1 := fun h k hk hj hlt => cmp3_lt (dig_lt_at hb h hk hj hlt)
  have f4 : (dig b x).length = (dig b y).length → ∀ k, k < (dig b x).length → (∀ j, k < j → (dig b x).getD j 0 = (dig b y).getD j 0) → (dig b y).getD k 0 < (dig b x).getD k 0 → cmp3 x y = 1 := fun h k hk hj hlt => cmp3_gt (dig_lt_at hb h.symm (h ▸ hk) (fun j h9 => (hj j h9).symm) hlt)
  have f5 : (dig b x).length = (dig b y).length → (∀ j, (dig b x).getD j 0 = (dig b y).getD j 0) → cmp3 x y = 0 := fun h hj => cmp3_eq (dig_eq_at hb h hj)
  generalize dig b x = xs at *
  generalize dig b y = ys at *
  intro dp un gd fr base Q E S hd1 hu ret
  k_dflt (refine' enter [(Str.ofString "b", .ref lb), (Str.ofString "a", .ref la)] ?S ?k6 ?k7 ?k8 ?k9 ?kB ?_ ?c2 ?c3 ?c4 ?c5; (case S => assumption); (case k6 => k_is); (case k7 => k_is); (case k8 => assumption); (case k9 => exact BindsTo.of_eq rfl); (case c5 => decide); (case kB => exact locs rfl); (case c2 => exact rfl); (case c3 => exact rfl); (case c4 => exact rfl); k_whole; intro L' h' tk' F' N' S' X' T' Q9 hQ9; (try dsimp only); (try k_fold))
  k_steps
  · (refine hQ9 _ _ ?_); exact endI (s := s) ret (by assumption) (f1 (by omega))
  · (refine hQ9 _ _ ?_); exact endI (s := s) ret (by assumption) (f2 (by omega))
  refine Stop.mk ?_
  (with_unfolding_all refine' my_range (σ := Unit) (n := xs.length) (fun un9 => [(Str.ofString "a", .ref la), (Str.ofString "b", .ref lb)]) (fun un9 => []) (fun i _ => (∀ j : Nat, (xs.length : Int) - i ≤ j → xs.getD j 0 = ys.getD j 0)) () (by rfl) (by assumption) ?hsmall ?hsz (by assumption) (by assumption) ?hn ?hk ?hi ?turn ?done)
  case hk => walk_at "my all"
  case hn => walk_at "my in"
  case hi =>
    intro j hj
    (try dsimp only at hj)
    simp only [List.getD]
    rw [List.getElem?_eq_none (by omega), List.getElem?_eq_none (by omega)]
  case hsmall => exact down_small (by omega)
  case hsz => exact down_size _
  case turn =>
    intro i ti
    intro un9 u h tk I o hlt hI9 hoff F N QT hQT
    have hinv := hI9
    clear hI9
    dsimp only at *
    simp only [List.forall_mem_cons, List.not_mem_nil, false_implies, implies_true, and_true, List.cons_append, List.nil_append, Int.zero_add, Int.mul_one] at hoff N F
    (try k_fold)

    k_steps
    · (refine hQT _ _ (hQ9 _ _ ?_)); exact endI (s := s) ret (by assumption) (f3 (by omega) ((xs.length : Int) - 1 + ↑i * -1).toNat (by omega) (fun j hj => hinv j (by omega)) (by assumption))
    · (refine hQT _ _ (hQ9 _ _ ?_)); exact endI (s := s) ret (by assumption) (f4 (by omega) ((xs.length : Int) - 1 + ↑i * -1).toNat (by omega) (fun j hj => hinv j (by omega)) (by omega))
    · (rename _ = _ => heq)
      (refine hQT _ _ ?_); dsimp only [LPost]
      (rename News _ _ _ _ => nE'); (try simp only [List.push_toArray] at nE')
      refine' lend () (by assumption) nE' ?hn ?ho ?hI ?hk ?hp
      case hk => walk_at "my all"
      case hn => walk_at "my in"
      case ho => walk_at "my in"
      case hI => walk_at "my off"

      case hp =>
        intro j hj
        by_cases h9 : (xs.length : Int) - i ≤ j
        · exact hinv j h9
        · have e9 : j = ((xs.length : Int) - 1 + ↑i * -1).toNat := by omega
          rw [e9]; exact heq
  case done =>
    intro un9 u h tk hI9 F N
    have hinv := hI9
    clear hI9
    dsimp only at *
    (try k_fold)

    k_steps
    (refine hQ9 _ _ ?_); exact endI (s := s) ret (by assumption) (f5 (by omega) (fun j => hinv j (by omega)))
def JPost {σ : Type} (h₀ : Heap) (L : Addr) (s : Shared) (ps : σ → List (Str × Value)) (Led : σ → List (Addr × Obj)) (P : σ → Prop) (f : Flow) (s₂ : Shared) : Prop :=
  match f with
  | .next => ∃ (c' : σ) (h' : Heap) (tk : Nat) (m' : Str → Option Value) (news' : List (Addr × Obj)), s₂ = { s with heap := h', toks := tk } ∧ Fr h₀ L h' m' ∧ News h₀ L h' news' ∧ (∀ p ∈ Led c', p ∈ news') ∧ (∀ p ∈ ps c', m' p.1 = some p.2) ∧ P c'
  | _ => False
theorem jend {σ : Type} {h₀ : Heap} {L : Addr} {s : Shared} {ps : σ → List (Str × Value)} {Led : σ → List (Addr × Obj)} {P : σ → Prop} {h' : Heap} {tk : Nat} {m' : Str → Option Value} {news' : List (Addr × Obj)} (c' : σ)
    (F : Fr h₀ L h' m') (N : News h₀ L h' news') (hn : ∀ p ∈ Led c', p ∈ news') (hk : ∀ p ∈ ps c', m' p.1 = some p.2) (hp : P c') :
    JPost h₀ L s ps Led P .next { s with heap := h', toks := tk } := ⟨c', h', tk, m', news', rfl, F, N, hn, hk, hp⟩
/-- one statement whose ways meet again: its state behind it is c -/
theorem my_join {σ : Type} {prog : Program} {w : World} {A : Around} {E : Value → Shared → Prop} {Q : Flow → Shared → Prop} {s : Shared} {env : Env} {h₀ : Heap} {L : Addr} {st : Stmt} {rest : List Stmt} {m₀ : Str → Option Value}
    (ps : σ → List (Str × Value)) (Led : σ → List (Addr × Obj)) (P : σ → Prop) (_F : Fr h₀ L s.heap m₀)
    (way : ∀ QT : Flow → Shared → Prop, (∀ f u, JPost h₀ L s ps Led P f u → QT f u) → wpAny (model prog w) A (exec st env) QT E s)
    (go : ∀ (c : σ) (u : Str → Option Value) h tk, P c → Fr h₀ L h (mB u (ps c)) → News h₀ L h (Led c) → wpAny (model prog w) A (execs rest env) Q E { s with heap := h, toks := tk }) :
    wpAny (model prog w) A (execs (st :: rest) env) Q E s := by
  refine wpAny_execs_cons (wpAny_mono (way _ fun _ _ x => x) (fun f u q => ?_) fun _ _ x => x)
  cases f with
  | next =>
    obtain ⟨c, h', tk, m', news', rfl, F, N, hn, hk, hp⟩ := q
    rw [← mB_eq hk] at F
    exact go c m' h' tk hp F fun p hp => N p (hn p hp)
  | ret v => exact q.elim
  | brk => exact q.elim
  | cont => exact q.elim
set_option maxHeartbeats 8000000 in
theorem add_ret {prog : Program} {w : World} {p : Program} {loose : List Str} {mean : ExcName → Option Value} {mg mb : Str → Option Value} {s : Shared} {la lb : Addr} {va vb : List Value} {b x y : Nat} {wi : Int} {t : Tok} (hb : 2 ≤ b)
    (ha : s.heap.IsList la va.toArray) (hia : IntsAre va (dig b x)) (hlb : s.heap.IsList lb vb.toArray) (hib : IntsAre vb (dig b y)) (hx : x < 2 ^ 64) (hy : y < 2 ^ 64) (hB : (2 : Int) ^ wi.toNat = b) (hw : 1 ≤ wi) (hw2 : wi ≤ 8) : RetL prog w p loose mean mg mb 1 72 [.ref la, .ref lb, .int wi t] s (dig b (x + y)) := by
  have hla := dig_len_64 hb hx
  have hlb' := dig_len_64 hb hy
  have hend1 : ∀ zs c, Lim b zs → zs.length = (dig b x).length → 0 ≤ c → c ≤ 1 → val b zs + (b : Int) ^ zs.length * c = val b (dig b x) + val b (dig b y) → (0 < c → zs ++ [c] = dig b (x + y)) ∧ (¬ 0 < c → zs = dig b (x + y)) := fun zs c h1 h2 h3 h4 h5 => add_law hb h1 h2 h3 h4 (by rw [h5, val_dig hb, val_dig hb])
  have hend2 : ∀ zs c, Lim b zs → zs.length = (dig b y).length → 0 ≤ c → c ≤ 1 → val b zs + (b : Int) ^ zs.length * c = val b (dig b y) + val b (dig b x) → (0 < c → zs ++ [c] = dig b (x + y)) ∧ (¬ 0 < c → zs = dig b (x + y)) := fun zs c h1 h2 h3 h4 h5 => by
    rw [Nat.add_comm x y]
    exact add_law hb h1 h2 h3 h4 (by rw [h5, val_dig hb, val_dig hb])
  have hlxs := lim_dig hb x
  have hlys := lim_dig hb y
  generalize dig b x = xs at *
  generalize dig b y = ys at *
  have hw0 : 0 ≤ wi := by omega
  have hw1 : 1 ≤ wi := by omega
  have hw6 : wi ≤ 1000000 := by omega
  intro dp un gd fr base Q E S hd1 hu ret
  k_dflt (refine' enter [(Str.ofString "w", .int wi t), (Str.ofString "b", .ref lb), (Str.ofString "a", .ref la)] ?S ?k6 ?k7 ?k8 ?k9 ?kB ?_ ?c2 ?c3 ?c4 ?c5; (case S => assumption); (case k6 => k_is); (case k7 => k_is); (case k8 => assumption); (case k9 => exact BindsTo.of_eq rfl); (case c5 => decide); (case kB => exact locs rfl); (case c2 => exact rfl); (case c3 => exact rfl); (case c4 => exact rfl); k_whole; intro L' h' tk' F' N' S' X' T' Q9 hQ9; (try dsimp only); (try k_fold))
  (with_unfolding_all refine' my_join (σ := Addr × Addr × List Value × List Value × List Int × List Int) (fun (A, B, VA, VB, X, Y) => [(Str.ofString "a", .ref A), (Str.ofString "b", .ref B), (Str.ofString "w", .int wi t)]) (fun _ => []) (fun (A, B, VA, VB, X, Y) => s.heap.IsList A VA.toArray ∧ s.heap.IsList B VB.toArray ∧ IntsAre VA X ∧ IntsAre VB Y ∧ Lim b X ∧ Lim b Y ∧ X.length ≤ 64 ∧ Y.length ≤ X.length ∧ (∀ zs c, Lim b zs → zs.length = X.length → 0 ≤ c → c ≤ 1 → val b zs + (b : Int) ^ zs.length * c = val b X + val b Y → (0 < c → zs ++ [c] = dig b (x + y)) ∧ (¬ 0 < c → zs = dig b (x + y)))) (by assumption) ?way ?go)
  case way =>
    intro QT hQT
    (try k_fold)
    k_steps
    · (refine hQT _ _ ?_)
      (rename News _ _ _ _ => nE')
      refine' jend (lb, la, vb, va, ys, xs) (by assumption) nE' ?hn ?hk ?hp
      case hn => exact List.forall_mem_nil _
      case hk => walk_at "my all"
      case hp => exact ⟨hlb, ha, hib, hia, hlys, hlxs, hlb', by omega, hend2⟩
    · (refine hQT _ _ ?_)
      (rename News _ _ _ _ => nE')
      refine' jend (la, lb, va, vb, xs, ys) (by assumption) nE' ?hn ?hk ?hp
      case hn => exact List.forall_mem_nil _
      case hk => walk_at "my all"
      case hp => exact ⟨ha, hlb, hia, hib, hlxs, hlys, hla, by omega, hend1⟩
  case go =>
    clear hend1 hend2 hlxs hlys ha hlb hia hib hla hlb'
    clear F' N'
    refine all6 ?_
    intro A B VA VB X Y u h tk hI9 F N
    refine and9 hI9 ?_
    clear hI9
    intro hlA hlB hiA hiB hlX hlY hX64 hYX hend
    dsimp only at *
    refine Exists.elim (⟨X.length - Y.length, by omega⟩ : ∃ D, X.length = Y.length + D) ?_
    intro D hD
    have hl_A := IntsAre.length hiA
    have hl_B := IntsAre.length hiB
    (try k_fold)
    k_steps
    refine Stop.mk ?_
    (with_unfolding_all refine' my_range (σ := Addr × List Value × List Int × Nat × Int × Tok × Int × Tok) (n := Y.length) (fun (f, f_v, f_i, f_n, cv, cv_t, mv, mv_t) => [(Str.ofString "a", .ref A), (Str.ofString "b", .ref B), (Str.ofString "w", .int wi t), (Str.ofString "found", .ref f), (Str.ofString "carry", .int cv cv_t), (Str.ofString "mask", .int mv mv_t)]) (fun (f, f_v, f_i, f_n, cv, cv_t, mv, mv_t) => [(f, listOf f_v.toArray f_n)]) (fun i c => match c with | (f, f_v, f_i, f_n, cv, cv_t, mv, mv_t) => IntsAre f_v f_i ∧ f_i.length = i ∧ mv = 2 ^ wi.toNat - 1 ∧ 0 ≤ cv ∧ cv ≤ 1 ∧ Lim b f_i ∧ val b f_i + (b : Int) ^ i * cv = val b (X.take i) + val b (Y.take i)) (_, _, [], _, _, _, _, _) (by rfl) (by assumption) ?hsmall ?hsz (by assumption) (by assumption) ?hn ?hk ?hi ?turn ?done)
    case hk => walk_at "my all"
    case hn => walk_at "my in"
    case hi => exact ⟨IntsAre.nil, rfl, by omega, by omega, by omega, Lim.nil, by simp [val]⟩
    case hsmall => exact small_one (by omega) (by omega) (by omega) (by omega)
    case hsz => rw [rangeSize_nat]; simp
    case turn =>
      intro i ti
      refine all8 ?_
      intro f f_v f_i f_n cv cv_t mv mv_t u h tk I o hlt hI9 hoff F N QT hQT
      refine and7 hI9 ?_
      clear hI9
      intro hi_f hlen hmv hc0 hc1 hlim hval
      dsimp only at *
      simp only [List.forall_mem_cons, List.not_mem_nil, false_implies, implies_true, and_true, List.cons_append, List.nil_append, Int.zero_add, Int.mul_one] at hoff N F
      replace hoff := neN hoff
      have hl_f := IntsAre.length hi_f
      (try k_fold)

      k_steps
      (refine hQT _ _ ?_); dsimp only [LPost]
      (rename News _ _ _ _ => nE'); (try simp only [List.push_toArray] at nE')
      refine' lend (_, _, _, _, _, _, _, _) (by assumption) nE' ?hn ?ho ?hI ?hk ?hp
      case hk => walk_at "my all"
      case hn => walk_at "my in"
      case ho => walk_at "my in"
      case hI => walk_at "my off"

      case hp =>
        dsimp only
        refine And.intro ?q1 ?_
        case q1 => exact IntsAre.append hi_f (IntsAre.cons _ _ IntsAre.nil)
        rw [hmv, kbt_mask, hB, Int.fdiv_eq_ediv_of_nonneg _ (by omega), val_take_succ, val_take_succ]
        simp only [Int.toNat_natCast]
        obtain ⟨a1, a2, a3, a4⟩ := add_turn (q := cv + (X.getD i 0 + Y.getD i 0)) hb hlim hlen hc0 hc1 (hlX.getD (by omega) i) (hlY.getD (by omega) i) (by omega) hval
        exact ⟨by simp [hlen], by first | rfl | trivial, a2, a3, a1, a4⟩
    case done =>
      refine all8 ?_
      intro f f_v f_i f_n cv cv_t mv mv_t u h tk hI9 F N
      refine and7 hI9 ?_
      clear hI9
      intro hi_f hlen hmv hc0 hc1 hlim hval
      dsimp only at *
      have hl_f := IntsAre.length hi_f
      (try k_fold)
      k_steps
      refine Stop.mk ?_
      (with_unfolding_all refine' my_range (σ := Addr × List Value × List Int × Nat × Int × Tok × Int × Tok) (n := D) (fun (f, f_v, f_i, f_n, cv, cv_t, mv, mv_t) => [(Str.ofString "a", .ref A), (Str.ofString "b", .ref B), (Str.ofString "w", .int wi t), (Str.ofString "found", .ref f), (Str.ofString "carry", .int cv cv_t), (Str.ofString "mask", .int mv mv_t)]) (fun (f, f_v, f_i, f_n, cv, cv_t, mv, mv_t) => [(f, listOf f_v.toArray f_n)]) (fun i c => match c with | (f, f_v, f_i, f_n, cv, cv_t, mv, mv_t) => IntsAre f_v f_i ∧ f_i.length = Y.length + i ∧ mv = 2 ^ wi.toNat - 1 ∧ 0 ≤ cv ∧ cv ≤ 1 ∧ Lim b f_i ∧ val b f_i + (b : Int) ^ (Y.length + i) * cv = val b (X.take (Y.length + i)) + val b Y) (_, _, f_i, _, _, _, _, _) (by rfl) (by assumption) ?hsmall ?hsz (by assumption) (by assumption) ?hn ?hk ?hi ?turn ?done)
      case hk => walk_at "my all"
      case hn => walk_at "my in"
      case hi => exact ⟨by assumption, by omega, by omega, by omega, by omega, by assumption, by rw [Nat.add_zero, hval, val_take_all (Nat.le_refl _)]⟩
      case hsmall => exact small_one (by omega) (by omega) (by omega) (by omega)
      case hsz => rw [rangeSize_nat]; omega
      case turn =>
        intro i ti
        refine all8 ?_
        intro f f_v f_i f_n cv cv_t mv mv_t u h tk I o hlt hI9 hoff F N QT hQT
        refine and7 hI9 ?_
        clear hI9
        intro hi_f hlen hmv hc0 hc1 hlim hval
        dsimp only at *
        simp only [List.forall_mem_cons, List.not_mem_nil, false_implies, implies_true, and_true, List.cons_append, List.nil_append, Int.zero_add, Int.mul_one] at hoff N F
        replace hoff := neN hoff
        have hl_f := IntsAre.length hi_f
        (try k_fold)

        k_steps
        (refine hQT _ _ ?_); dsimp only [LPost]
        (rename News _ _ _ _ => nE'); (try simp only [List.push_toArray] at nE')
        refine' lend (_, _, _, _, _, _, _, _) (by assumption) nE' ?hn ?ho ?hI ?hk ?hp
        case hk => walk_at "my all"
        case hn => walk_at "my in"
        case ho => walk_at "my in"
        case hI => walk_at "my off"

        case hp =>
          dsimp only
          refine And.intro ?q1 ?_
          case q1 => exact IntsAre.append hi_f (IntsAre.cons _ _ IntsAre.nil)
          rw [hmv, kbt_mask, hB, Int.fdiv_eq_ediv_of_nonneg _ (by omega), ← Nat.add_assoc, val_take_succ]
          have e9 : ((Y.length : Int) + i).toNat = Y.length + i := by omega
          rw [e9]
          obtain ⟨a1, a2, a3, a4⟩ := add_turn (q := cv + X.getD (Y.length + i) 0) (y := 0) hb hlim hlen hc0 hc1 (hlX.getD (by omega) (Y.length + i)) ⟨by omega, by omega⟩ (by omega) hval
          rw [Int.mul_zero, Int.add_zero] at a4
          exact ⟨by (simp [hlen] <;> omega), by first | rfl | trivial, a2, a3, a1, a4⟩
      case done =>
        refine all8 ?_
        intro f f_v f_i f_n cv cv_t mv mv_t u h tk hI9 F N
        refine and7 hI9 ?_
        clear hI9
        intro hi_f hlen hmv hc0 hc1 hlim hval
        dsimp only at *
        have hl_f := IntsAre.length hi_f
        (try k_fold)
        have hlen9 : f_i.length = X.length := by omega
        rw [val_take_all (by omega), show Y.length + D = f_i.length by omega] at hval
        refine and2 (hend f_i cv hlim hlen9 hc0 hc1 hval) ?_
        intro g1 g2
        k_steps
        · (rename News _ _ _ _ => nE'); (try simp only [List.push_toArray] at nE')
          (refine hQ9 _ _ ?_); exact endL (s := s) ret (by assumption) nE' (by k_mem) (by rw [← g1 (by assumption)]; l_ints)
        · (refine hQ9 _ _ ?_); exact endL (s := s) ret (by assumption) (by assumption) (by k_mem) (by rw [← g2 (by assumption)]; assumption)
set_option maxHeartbeats 8000000 in
theorem shl_ret {prog : Program} {w : World} {p : Program} {loose : List Str} {mean : ExcName → Option Value} {mg mb : Str → Option Value} {s : Shared} {la : Addr} {va : List Value} {b x : Nat} {wi : Int} {t t1 : Tok} (hb : 2 ≤ b)
    (ha : s.heap.IsList la va.toArray) (hia : IntsAre va (dig b x)) (hx : x < 2 ^ 64) (hB : (2 : Int) ^ wi.toNat = b) (hw : 2 ≤ wi) (hw2 : wi ≤ 8) : RetL prog w p loose mean mg mb 1 93 [.ref la, .int 1 t1, .int wi t] s (dig b (2 * x)) := by
  have hla := dig_len_64 hb hx
  have hb8 := pow_le_256 hB hw2
  have hlxs := lim_dig hb x
  have hpos := @dig_len_pos b x hb
  have hdiv : Int.fdiv 1 wi = 0 := by rw [Int.fdiv_eq_ediv_of_nonneg _ (by omega)]; exact Int.ediv_eq_zero_of_lt (by omega) (by omega)
  have hmod : Int.fmod 1 wi = 1 := by rw [Int.fmod_eq_emod_of_nonneg _ (by omega)]; exact Int.emod_eq_of_lt (by omega) (by omega)
  have hw0 : 0 ≤ wi := by omega
  have hw1 : 1 ≤ wi := by omega
  have hw6 : wi ≤ 1000000 := by omega
  intro dp un gd fr base Q E S hd1 hu ret
  k_dflt (refine' enter [(Str.ofString "w", .int wi t), (Str.ofString "n", .int 1 t1), (Str.ofString "a", .ref la)] ?S ?k6 ?k7 ?k8 ?k9 ?kB ?_ ?c2 ?c3 ?c4 ?c5; (case S => assumption); (case k6 => k_is); (case k7 => k_is); (case k8 => assumption); (case k9 => exact BindsTo.of_eq rfl); (case c5 => decide); (case kB => exact locs rfl); (case c2 => exact rfl); (case c3 => exact rfl); (case c4 => exact rfl); k_whole; intro L' h' tk' F' N' S' X' T' Q9 hQ9; (try dsimp only); (try k_fold))
  k_steps
  · have h9 : x = 0 := by omega
    subst h9
    (try k_unfold)
    (try dsimp only)
    rw [Nat.mul_zero, dig_nil] at ret
    (refine hQ9 _ _ ?_); exact endL (s := s) (us := []) ret (by assumption) (by assumption) (by k_mem) IntsAre.nil
  refine Stop.mk ?_
  (with_unfolding_all refine' my_list (σ := Int × Tok × Addr × List Value × List Int × Nat × Int × Tok × Int × Tok) (fun (fw, fw_t, f, f_v, f_i, f_n, cv, cv_t, mv, mv_t) => [(Str.ofString "w", .int wi t), (Str.ofString "few", .int fw fw_t), (Str.ofString "found", .ref f), (Str.ofString "carry", .int cv cv_t), (Str.ofString "mask", .int mv mv_t)]) (fun (fw, fw_t, f, f_v, f_i, f_n, cv, cv_t, mv, mv_t) => [(f, listOf f_v.toArray f_n)]) (fun i c => match c with | (fw, fw_t, f, f_v, f_i, f_n, cv, cv_t, mv, mv_t) => IntsAre f_v f_i ∧ f_i.length = i ∧ mv = 2 ^ wi.toNat - 1 ∧ fw = 1 ∧ 0 ≤ cv ∧ cv ≤ 1 ∧ Lim b f_i ∧ val b f_i + (b : Int) ^ i * cv = 2 * val b ((dig b x).take i)) (_, _, _, _, _, _, _, _, _, _) (by rfl) (by assumption) (by assumption) (by assumption) (by assumption) ?hn ?hk ?hi ?turn ?done)
  case hk => walk_at "my all"
  case hn => walk_at "my in"
  case hi =>
    refine And.intro ?q1 ?_
    case q1 => assumption
    simp only [hdiv, hmod, Int.toNat_zero, List.replicate_zero, List.flatten_nil]
    exact ⟨by first | rfl | trivial, by omega, by first | rfl | trivial, by omega, by omega, Lim.nil, by simp [val]⟩
  case turn =>
    intro i ti
    refine all10 ?_
    intro fw fw_t f f_v f_i f_n cv cv_t mv mv_t u h tk I o hlt hI9 hoff F N QT hQT
    refine and8 hI9 ?_
    clear hI9
    intro hi_f hlen hmv hfw hc0 hc1 hlim hval
    dsimp only at *
    simp only [List.forall_mem_cons, List.not_mem_nil, false_implies, implies_true, and_true, List.cons_append, List.nil_append, Int.zero_add, Int.mul_one] at hoff N F
    replace hoff := neN hoff
    have hl_f := IntsAre.length hi_f
    (try k_fold)

    subst hfw
    have hxi := hlxs.getD (by omega) i
    k_steps
    (refine hQT _ _ ?_); dsimp only [LPost]
    (rename News _ _ _ _ => nE'); (try simp only [List.push_toArray] at nE')
    refine' lend (_, _, _, _, _, _, _, _, _, _) (by assumption) nE' ?hn ?ho ?hI ?hk ?hp
    case hk => walk_at "my all"
    case hn => walk_at "my in"
    case ho => walk_at "my in"
    case hI => walk_at "my off"

    case hp =>
      dsimp only
      refine And.intro ?q1 ?_
      case q1 => exact IntsAre.append hi_f (IntsAre.cons _ _ IntsAre.nil)
      have e1 : Builtin.bitOr cv ((dig b x).getD i 0 * 2 ^ (1 : Int).toNat) = cv + 2 * (dig b x).getD i 0 := by
        rw [show ((2 : Int) ^ (1 : Int).toNat) = 2 from rfl, bitOr_and]
        have e2 : Builtin.bitAnd cv ((dig b x).getD i 0 * 2) = 0 := by
          rw [bitAnd_comm]
          have hcv : cv = 0 ∨ cv = 1 := by omega
          rcases hcv with rfl | rfl
          · have := kbt_mask ((dig b x).getD i 0 * 2) 0
            simpa using this
          · rw [bitAnd_m1]; omega
        rw [e2]; omega
      rw [e1, hmv, kbt_mask, hB, Int.fdiv_eq_ediv_of_nonneg _ (by omega), val_take_succ]
      obtain ⟨a1, a2, a3, a4⟩ := shl_turn (q := cv + 2 * (dig b x).getD i 0) hb hlim hlen hc0 hc1 hxi rfl hval
      exact ⟨by simp [hlen], by first | rfl | trivial, by first | rfl | trivial, a2, a3, a1, a4⟩
  case done =>
    refine all10 ?_
    intro fw fw_t f f_v f_i f_n cv cv_t mv mv_t u h tk hI9 F N
    refine and8 hI9 ?_
    clear hI9
    intro hi_f hlen hmv hfw hc0 hc1 hlim hval
    dsimp only at *
    have hl_f := IntsAre.length hi_f
    (try k_fold)

    rw [val_take_all (Nat.le_refl _), val_dig hb, ← hlen] at hval
    refine and2 (shl_end hb hlim hlen hc0 hc1 hval) ?_
    intro g1 g2
    k_steps
    · (rename News _ _ _ _ => nE'); (try simp only [List.push_toArray] at nE')
      (refine hQ9 _ _ ?_); exact endL (s := s) ret (by assumption) nE' (by k_mem) (by rw [← g1 (by assumption)]; l_ints)
    · (refine hQ9 _ _ ?_); exact endL (s := s) ret (by assumption) (by assumption) (by k_mem) (by rw [← g2 (by assumption)]; assumption)
set_option maxHeartbeats 8000000 in
theorem limbs_ret {prog : Program} {w : World} {p : Program} {loose : List Str} {mean : ExcName → Option Value} {mg mb : Str → Option Value} {s : Shared} {b n : Nat} {N wi : Int} {t t1 : Tok} (hb : 2 ≤ b) (hN : N = n) (hn : n < 2 ^ 64) (hB : (2 : Int) ^ wi.toNat = b) (hw : 2 ≤ wi) (hw2 : wi ≤ 8) : RetL prog w p loose mean mg mb 1 156 [.int N t1, .int wi t] s (dig b n) := by
  have hla := dig_len_64 hb hn
  have hb8 := pow_le_256 hB hw2
  have hw0 : 0 ≤ wi := by omega
  have hw1 : 1 ≤ wi := by omega
  have hw6 : wi ≤ 1000000 := by omega
  intro dp un gd fr base Q E S hd1 hu ret
  k_dflt (refine' enter [(Str.ofString "w", .int wi t), (Str.ofString "number", .int N t1)] ?S ?k6 ?k7 ?k8 ?k9 ?kB ?_ ?c2 ?c3 ?c4 ?c5; (case S => assumption); (case k6 => k_is); (case k7 => k_is); (case k8 => assumption); (case k9 => exact BindsTo.of_eq rfl); (case c5 => decide); (case kB => exact locs rfl); (case c2 => exact rfl); (case c3 => exact rfl); (case c4 => exact rfl); k_whole; intro L' h' tk' F' N' S' X' T' Q9 hQ9; (try dsimp only); (try k_fold))
  k_steps
  refine Stop.mk ?_
  (with_unfolding_all refine' my_while (σ := Int × Tok × Addr × List Value × List Int × Nat) (fun (nv, nv_t, f, f_v, f_i, f_n) => [(Str.ofString "w", .int wi t), (Str.ofString "number", .int nv nv_t), (Str.ofString "found", .ref f)]) (fun (nv, nv_t, f, f_v, f_i, f_n) => [(f, listOf f_v.toArray f_n)]) (fun c => match c with | (nv, nv_t, f, f_v, f_i, f_n) => IntsAre f_v f_i ∧ 0 ≤ nv ∧ nv < 2 ^ 64 ∧ f_i ++ dig b nv.toNat = dig b n) (fun (nv, nv_t, f, f_v, f_i, f_n) => nv.toNat) (_, _, _, _, [], _) (by assumption) (by assumption) ?hn ?hk ?hp ?turn)
  case hk => walk_at "my all"
  case hn => walk_at "my in"
  case hp => exact ⟨IntsAre.nil, by omega, by omega, by rw [hN]; simp⟩
  case turn =>
    refine all6 ?_
    intro nv nv_t f f_v f_i f_n u h tk hI9 F N QT hQT
    refine and4 hI9 ?_
    clear hI9
    intro hi_f h0 h1 hd
    dsimp only at *
    have hl_f := IntsAre.length hi_f
    (try k_fold)
    have hlf : f_i.length ≤ 64 := by rw [← hd, List.length_append] at hla; omega
    k_steps
    · rw [hB] at *
      (refine hQT _ _ ?_); dsimp only [WPost]
      (rename News _ _ _ _ => nE'); (try simp only [List.push_toArray] at nE')
      refine' wend (_, _, _, _, _, _) (by assumption) nE' ?hn ?hk ?hp ?hm
      case hk => walk_at "my all"
      case hn => walk_at "my in"
      case hp =>
        dsimp only
        refine And.intro ?q1 ?_
        case q1 => exact IntsAre.append hi_f (IntsAre.cons _ _ IntsAre.nil)
        rw [Int.fdiv_eq_ediv_of_nonneg _ (by omega), Int.fmod_eq_emod_of_nonneg _ (by omega)]
        refine ⟨Int.ediv_nonneg h0 (by omega), Int.lt_of_le_of_lt (Int.ediv_le_self _ h0) h1, ?_⟩
        rw [dig_step hb (show nv.toNat ≠ 0 by omega)] at hd
        rw [← hd, List.append_assoc]
        congr 1
        rw [toNat_ediv9 h0, emod9 h0]; rfl
      case hm =>
        dsimp only
        rw [Int.fdiv_eq_ediv_of_nonneg _ (by omega)]
        have := Int.ediv_lt_self_of_pos_of_ne_one (x := nv) (y := b) (by omega) (by omega)
        have := Int.ediv_nonneg h0 (show (0 : Int) ≤ b by omega)
        omega
    · have e9 : nv.toNat = 0 := by omega
      rw [e9, dig_nil, List.append_nil] at hd
      rw [hd] at hi_f
      (refine hQ9 _ _ ?_); exact endL (s := s) ret (by assumption) (by assumption) (by k_mem) hi_f
set_option maxHeartbeats 8000000 in
theorem whole_ret {prog : Program} {w : World} {p : Program} {loose : List Str} {mean : ExcName → Option Value} {mg mb : Str → Option Value} {s : Shared} {la : Addr} {va : List Value} {b x : Nat} {wi : Int} {t : Tok} (hb : 2 ≤ b)
    (ha : s.heap.IsList la va.toArray) (hia : IntsAre va (dig b x)) (hx : x < 2 ^ 64) (hB : (2 : Int) ^ wi.toNat = b) (hw : 2 ≤ wi) (hw2 : wi ≤ 8) : RetI prog w p loose mean mg mb 1 163 [.ref la, .int wi t] s x := by
  have hla := dig_len_64 hb hx
  have hb8 := pow_le_256 hB hw2
  have hw0 : 0 ≤ wi := by omega
  have hw1 : 1 ≤ wi := by omega
  have hw6 : wi ≤ 1000000 := by omega
  intro dp un gd fr base Q E S hd1 hu ret
  k_dflt (refine' enter [(Str.ofString "w", .int wi t), (Str.ofString "row", .ref la)] ?S ?k6 ?k7 ?k8 ?k9 ?kB ?_ ?c2 ?c3 ?c4 ?c5; (case S => assumption); (case k6 => k_is); (case k7 => k_is); (case k8 => assumption); (case k9 => exact BindsTo.of_eq rfl); (case c5 => decide); (case kB => exact locs rfl); (case c2 => exact rfl); (case c3 => exact rfl); (case c4 => exact rfl); k_whole; intro L' h' tk' F' N' S' X' T' Q9 hQ9; (try dsimp only); (try k_fold))
  k_steps
  refine Stop.mk ?_
  (with_unfolding_all refine' my_listN (σ := Int × Tok) (fun (v, v_t) => [(Str.ofString "w", .int wi t), (Str.ofString "found", .int v v_t)]) (fun (v, v_t) => []) (fun i c => match c with | (v, v_t) => 0 ≤ v ∧ v = val b ((dig b x).drop ((dig b x).length - i))) (_, _) (by rfl) (by assumption) (by assumption) ?hl ?hints ?hn ?hk ?hi ?turn ?done)
  case hl => k_mem
  case hints => assumption
  case hk => walk_at "my all"
  case hn => walk_at "my in"
  case hi => exact ⟨by omega, by simp [val]⟩
  case turn =>
    intro i ti
    refine all2 ?_
    intro v v_t u h tk I o hlt hI9 hoff F N QT hQT
    refine and2 hI9 ?_
    clear hI9
    intro h0 hv
    dsimp only at *
    simp only [List.forall_mem_cons, List.not_mem_nil, false_implies, implies_true, and_true, List.cons_append, List.nil_append, Int.zero_add, Int.mul_one] at hoff N F
    (try k_fold)

    rw [List.length_reverse] at hlt
    have hxi := (show Lim b (dig b x).reverse from fun z hz => lim_dig hb x z (List.mem_reverse.mp hz)).getD (by omega) i
    k_steps
    (refine hQT _ _ ?_); dsimp only [LPost]
    (rename News _ _ _ _ => nE'); (try simp only [List.push_toArray] at nE')
    refine' lend (_, _) (by assumption) nE' ?hn ?ho ?hI ?hk ?hp
    case hk => walk_at "my all"
    case hn => walk_at "my in"
    case ho => walk_at "my in"
    case hI => walk_at "my off"

    case hp =>
      dsimp only
      rw [hB, val_reverse_succ hlt, ← hv]
      have := Int.mul_nonneg h0 (show (0 : Int) ≤ b by omega)
      rw [Int.mul_comm] at this
      exact ⟨by rw [Int.mul_comm]; omega, by rw [Int.mul_comm]; omega⟩
  case done =>
    refine all2 ?_
    intro v v_t u h tk hI9 F N
    refine and2 hI9 ?_
    clear hI9
    intro h0 hv
    dsimp only at *
    (try k_fold)

    rw [List.length_reverse, Nat.sub_self, List.drop_zero, val_dig hb] at hv
    subst hv
    k_steps
    (refine hQ9 _ _ ?_); exact endI (s := s) ret (by assumption) rfl
local macro_rules | `(tactic| walk_at "my C") => `(tactic| (apply compare_ret <;> walk_at "my c"))
local macro_rules | `(tactic| walk_at "my C") => `(tactic| (apply normal_ret <;> walk_at "my c"))
set_option maxHeartbeats 8000000 in
theorem sub_ret {prog : Program} {w : World} {p : Program} {loose : List Str} {mean : ExcName → Option Value} {mg mb : Str → Option Value} {s : Shared} {la lb : Addr} {va vb : List Value} {b x y : Nat} {wi : Int} {t : Tok} (hb : 2 ≤ b)
    (ha : s.heap.IsList la va.toArray) (hia : IntsAre va (dig b x)) (hlb : s.heap.IsList lb vb.toArray) (hib : IntsAre vb (dig b y)) (hx : x < 2 ^ 64) (hy : y < 2 ^ 64) (hle : y ≤ x) (hB : (2 : Int) ^ wi.toNat = b) (hw : 1 ≤ wi) (hw2 : wi ≤ 8) : RetL prog w p loose mean mg mb 2 79 [.ref la, .ref lb, .int wi t] s (dig b (x - y)) := by
  have hla := dig_len_64 hb hx
  have hlb' := dig_len_64 hb hy
  have hlxs := lim_dig hb x
  have hlys := lim_dig hb y
  have hcmp : 0 ≤ cmp3 x y := by have := @cmp3_lt_iff x y; omega
  have hvx := val_dig hb x
  have hvy := val_dig hb y
  have hyx : (dig b y).length ≤ (dig b x).length := Nat.le_of_not_lt fun h9 => by have := dig_lt_of_len hb h9; omega
  have hw0 : 0 ≤ wi := by omega
  have hw1 : 1 ≤ wi := by omega
  have hw6 : wi ≤ 1000000 := by omega
  intro dp un gd fr base Q E S hd1 hu ret
  k_dflt (refine' enter [(Str.ofString "w", .int wi t), (Str.ofString "b", .ref lb), (Str.ofString "a", .ref la)] ?S ?k6 ?k7 ?k8 ?k9 ?kB ?_ ?c2 ?c3 ?c4 ?c5; (case S => assumption); (case k6 => k_is); (case k7 => k_is); (case k8 => assumption); (case k9 => exact BindsTo.of_eq rfl); (case c5 => decide); (case kB => exact locs rfl); (case c2 => exact rfl); (case c3 => exact rfl); (case c4 => exact rfl); k_whole; intro L' h' tk' F' N' S' X' T' Q9 hQ9; (try dsimp only); (try k_fold))
  k_steps
  clear hcmp hx hy
  generalize dig b x = xs at *
  generalize dig b y = ys at *
  refine Stop.mk ?_
  (with_unfolding_all refine' my_range (σ := Addr × List Value × List Int × Nat × Int × Tok × Int × Tok) (n := xs.length) (fun (f, f_v, f_i, f_n, cv, cv_t, bv, bv_t) => [(Str.ofString "a", .ref la), (Str.ofString "b", .ref lb), (Str.ofString "w", .int wi t), (Str.ofString "found", .ref f), (Str.ofString "borrow", .int cv cv_t), (Str.ofString "base", .int bv bv_t)]) (fun (f, f_v, f_i, f_n, cv, cv_t, bv, bv_t) => [(f, listOf f_v.toArray f_n)]) (fun i c => match c with | (f, f_v, f_i, f_n, cv, cv_t, bv, bv_t) => IntsAre f_v f_i ∧ f_i.length = i ∧ bv = 2 ^ wi.toNat ∧ 0 ≤ cv ∧ cv ≤ 1 ∧ Lim b f_i ∧ val b f_i - (b : Int) ^ i * cv = val b (xs.take i) - val b (ys.take i)) (_, _, [], _, _, _, _, _) (by rfl) (by assumption) ?hsmall ?hsz (by assumption) (by assumption) ?hn ?hk ?hi ?turn ?done)
  case hk => walk_at "my all"
  case hn => walk_at "my in"
  case hi => exact ⟨IntsAre.nil, rfl, by omega, by omega, by omega, Lim.nil, by simp [val]⟩
  case hsmall => exact small_one (by omega) (by omega) (by omega) (by omega)
  case hsz => rw [rangeSize_nat]; simp
  case turn =>
    intro i ti
    refine all8 ?_
    intro f f_v f_i f_n cv cv_t bv bv_t u h tk I o hlt hI9 hoff F N QT hQT
    refine and7 hI9 ?_
    clear hI9
    intro hi_f hlen hbv hc0 hc1 hlim hval
    dsimp only at *
    simp only [List.forall_mem_cons, List.not_mem_nil, false_implies, implies_true, and_true, List.cons_append, List.nil_append, Int.zero_add, Int.mul_one] at hoff N F
    replace hoff := neN hoff
    have hl_f := IntsAre.length hi_f
    (try k_fold)

    have hxi := hlxs.getD (by omega) i
    have hyi := hlys.getD (by omega) i
    have hyo : ys.length ≤ i → ys.getD i 0 = 0 := fun h9 => by simp only [List.getD]; rw [List.getElem?_eq_none h9]; rfl
    (with_unfolding_all refine' my_join (σ := Int × Tok) (fun (z, z_t) => [(Str.ofString "a", .ref la), (Str.ofString "b", .ref lb), (Str.ofString "w", .int wi t), (Str.ofString "found", .ref f), (Str.ofString "borrow", .int cv cv_t), (Str.ofString "base", .int bv bv_t), (Str.ofString "at", .int i ti), (Str.ofString "limb", .int z z_t)]) (fun _ => [(f, listOf f_v.toArray f_n), (I, o)]) (fun (z, _) => z = xs.getD i 0 - cv - ys.getD i 0) (by assumption) ?way ?go)
    case way =>
      intro QT1 hQT1
      (try k_fold)
      k_steps
      all_goals
        (refine hQT1 _ _ ?_)
        (rename News _ _ _ _ => nE')
        refine' jend (_, _) (by assumption) nE' ?hn ?hk ?hp
        case hk => walk_at "my all"
        case hn => walk_at "my in"
        case hp =>
          dsimp only
          simp only [Int.toNat_natCast]
          try (rw [hyo (by omega)])
    case go =>
      clear hyo
      refine all2 ?_
      intro z z_t u9 h9 tk9 hz F9 N9
      dsimp only at *
      (try k_fold)
      k_steps
      all_goals
        (refine hQT _ _ ?_); dsimp only [LPost]
        (rename News _ _ _ _ => nE'); (try simp only [List.push_toArray] at nE')
        refine' lend (_, _, _, _, _, _, _, _) (by assumption) nE' ?hn ?ho ?hI ?hk ?hp
        case hk => walk_at "my all"
        case hn => walk_at "my in"
        case ho => walk_at "my in"
        case hI => walk_at "my off"

        case hp =>
          dsimp only
          refine And.intro ?q1 ?_
          case q1 => exact IntsAre.append hi_f (IntsAre.cons _ _ IntsAre.nil)
          refine and2 (sub_turn (q := z) hlim hlen hc0 hc1 hxi hyi hz hval) ?_
          intro a1 a2
          rw [val_take_succ, val_take_succ]
          first
            | (rw [hbv, hB]; refine and2 (a1 (by omega)) ?_; intro g1 g2; exact ⟨by simp [hlen], by first | rfl | trivial, by omega, by omega, g1, g2⟩)
            | (refine and2 (a2 (by omega)) ?_; intro g1 g2; exact ⟨by simp [hlen], by first | assumption | rfl | trivial, by omega, by omega, g1, g2⟩)
  case done =>
    refine all8 ?_
    intro f f_v f_i f_n cv cv_t bv bv_t u h tk hI9 F N
    refine and7 hI9 ?_
    clear hI9
    intro hi_f hlen hbv hc0 hc1 hlim hval
    dsimp only at *
    have hl_f := IntsAre.length hi_f
    (try k_fold)

    rw [val_take_all (Nat.le_refl _), hvx, ← hlen] at hval
    have hval2 : val b f_i = ((x - y : Nat) : Int) := by
      refine sub_end hlim hc0 hle ?_
      rw [hval]
      have : val b (ys.take f_i.length) = y := by
        rw [val_take_all (by rw [hlen]; exact hyx), hvy]
      rw [this]
    k_steps
    (refine hQ9 _ _ ?_); exact endL (s := s) ret (by assumption) (by assumption) (by k_mem) (by assumption)
set_option maxHeartbeats 8000000 in
theorem mul_ret {prog : Program} {w : World} {p : Program} {loose : List Str} {mean : ExcName → Option Value} {mg mb : Str → Option Value} {s : Shared} {la lb : Addr} {va vb : List Value} {b x y : Nat} {wi : Int} {t : Tok} (hb : 2 ≤ b)
    (ha : s.heap.IsList la va.toArray) (hia : IntsAre va (dig b x)) (hlb : s.heap.IsList lb vb.toArray) (hib : IntsAre vb (dig b y)) (hx : x < 2 ^ 64) (hy : y < 2 ^ 64) (hB : (2 : Int) ^ wi.toNat = b) (hw : 2 ≤ wi) (hw2 : wi ≤ 8) : RetL prog w p loose mean mg mb 2 142 [.ref la, .ref lb, .int wi t] s (dig b (x * y)) := by
  have hla := dig_len_64 hb hx
  have hlb' := dig_len_64 hb hy
  have hlxs := lim_dig hb x
  have hlys := lim_dig hb y
  have hvx := val_dig hb x
  have hvy := val_dig hb y
  generalize dig b x = xs at *
  generalize dig b y = ys at *
  have hb8 := pow_le_256 hB hw2
  have hw0 : 0 ≤ wi := by omega
  have hw1 : 1 ≤ wi := by omega
  have hw6 : wi ≤ 1000000 := by omega
  intro dp un gd fr base Q E S hd1 hu ret
  k_dflt (refine' enter [(Str.ofString "w", .int wi t), (Str.ofString "b", .ref lb), (Str.ofString "a", .ref la)] ?S ?k6 ?k7 ?k8 ?k9 ?kB ?_ ?c2 ?c3 ?c4 ?c5; (case S => assumption); (case k6 => k_is); (case k7 => k_is); (case k8 => assumption); (case k9 => exact BindsTo.of_eq rfl); (case c5 => decide); (case kB => exact locs rfl); (case c2 => exact rfl); (case c3 => exact rfl); (case c4 => exact rfl); k_whole; intro L' h' tk' F' N' S' X' T' Q9 hQ9; (try dsimp only); (try k_fold))
  k_steps
  rename_i f9 _ hz9 _ _ hlen9 _ _ _ _ _ _ _ _ _ _ _
  refine Stop.mk ?_
  (with_unfolding_all refine' my_enum (σ := List Value × List Int × Nat × Int × Tok) (f := f9) (rest := []) (fun (f_v, f_i, f_n, mv, mv_t) => [(Str.ofString "a", .ref la), (Str.ofString "b", .ref lb), (Str.ofString "w", .int wi t), (Str.ofString "found", .ref f9), (Str.ofString "mask", .int mv mv_t)]) (fun (f_v, f_i, f_n, mv, mv_t) => listOf f_v.toArray f_n) (fun i c => match c with | (f_v, f_i, f_n, mv, mv_t) => IntsAre f_v f_i ∧ f_i.length = xs.length + ys.length ∧ mv = 2 ^ wi.toNat - 1 ∧ Lim b f_i ∧ val b f_i = val b (xs.take i) * y ∧ (∀ j : Nat, i + ys.length ≤ j → f_i.getD j 0 = 0)) (_, _, _, _, _) (by rfl) (by assumption) (by assumption) (by assumption) (by assumption) ?hf ?hr ?hrf ?hk ?hi ?turn ?done)
  case hf => k_mem
  case hr => exact fun _ h9 => nomatch h9
  case hrf => exact fun _ h9 => nomatch h9
  case hk => walk_at "my all"
  case hi =>
    refine And.intro ?q1 ?_
    case q1 => assumption
    have e9 : ∀ n, (List.replicate n [(0 : Int)]).flatten = List.replicate n 0 := fun n => by
      induction n with
      | zero => rfl
      | succ n ih => rw [List.replicate_succ, List.replicate_succ, List.flatten_cons, ih]; rfl
    rw [e9]
    refine ⟨by rw [List.length_replicate]; omega, by omega, lim_rep hb _, by rw [val_rep]; simp [val], fun j _ => ?_⟩
    simp only [List.getD, List.getElem?_replicate]
    split <;> rfl
  case turn =>
    intro i t0 t1
    refine all5 ?_
    intro f_v f_i f_n mv mv_t u h tk own hlt hI9 hoff F N QT hQT
    refine and6 hI9 ?_
    clear hI9
    intro hi_f hlen hmv hlim hval hzer
    dsimp only at *
    have hl_f := IntsAre.length hi_f
    (try k_fold)

    have hxi := hlxs.getD (by omega) i
    k_steps
    refine Stop.mk ?_
    (with_unfolding_all refine' my_enum (σ := List Value × List Int × Nat × Int × Tok) (f := f9) (rest := own) (fun (g_v, g_i, g_n, cv, cv_t) => [(Str.ofString "a", .ref la), (Str.ofString "b", .ref lb), (Str.ofString "w", .int wi t), (Str.ofString "found", .ref f9), (Str.ofString "mask", .int mv mv_t), (Str.ofString "at", .int i t0), (Str.ofString "limb", .int (xs.getD i 0) t1), (Str.ofString "carry", .int cv cv_t)]) (fun (g_v, g_i, g_n, cv, cv_t) => listOf g_v.toArray g_n) (fun j c => match c with | (g_v, g_i, g_n, cv, cv_t) => IntsAre g_v g_i ∧ g_i.length = xs.length + ys.length ∧ 0 ≤ cv ∧ cv < b ∧ Lim b g_i ∧ val b g_i + (b : Int) ^ (i + j) * cv = val b f_i + (b : Int) ^ i * (xs.getD i 0 * val b (ys.take j)) ∧ (∀ k : Nat, i + ys.length ≤ k → g_i.getD k 0 = 0)) (_, f_i, _, _, _) (by rfl) (by assumption) (by assumption) (by assumption) (by assumption) ?hf ?hr ?hrf ?hk ?hi ?turn2 ?done2)
    case hf => k_mem
    case hr => exact fun p9 h9 => by first | exact h9 | exact List.mem_cons_of_mem _ h9
    case hrf => exact hoff
    case hk => walk_at "my all"

    case hi => exact ⟨hi_f, hlen, by omega, by omega, hlim, by simp [val], hzer⟩
    case turn2 =>
      intro j t02 t12
      refine all5 ?_
      intro g_v g_i g_n cv cv_t u2 h2 tk2 own2 hlt2 hI9 hoff2 F2 N2 QT hQT
      refine and7 hI9 ?_
      clear hI9
      intro hi_g glen hc0 hc1 glim gval gzer
      dsimp only at *
      have hl_g := IntsAre.length hi_g
      (try k_fold)

      have hyj := hlys.getD (by omega) j
      have hij9 : ((i : Int) + (j : Int)).toNat = i + j := by omega
      k_steps
      (refine hQT _ _ ?_); dsimp only [EPost]
      (rename News _ _ _ _ => nE')
      refine' eend (_, _, _, _, _) (by assumption) nE' ?hn ?ho ?hk ?hp
      case hn => k_mem
      case ho => (intro p9 h9; exact List.mem_cons_of_mem _ h9)
      case hk => walk_at "my all"

      case hp =>
        dsimp only
        refine And.intro ?q1 ?_
        case q1 => assumption
        rw [hmv, kbt_mask, hB, Int.fdiv_eq_ediv_of_nonneg _ (by omega)]
        rw [hij9, val_take_succ]
        obtain ⟨a1, a2, a3, a4⟩ := mul_turn (q := cv + (g_i.getD (i + j) 0 + xs.getD i 0 * ys.getD j 0)) hb glim (by omega) hc0 hc1 hxi hyj rfl gval
        refine ⟨by rw [List.length_set]; exact glen, a2, a3, a1, a4, fun k hk => ?_⟩
        rw [getD_set_ne (by omega)]
        exact gzer k hk
    case done2 =>
      refine all5 ?_
      intro g_v g_i g_n cv cv_t u3 h3 tk3 hI9 F3 N3
      refine and7 hI9 ?_
      clear hI9
      intro hi_g glen hc0 hc1 glim gval gzer
      dsimp only at *
      have hl_g := IntsAre.length hi_g
      (try k_fold)

      rw [val_take_all (Nat.le_refl _), hvy] at gval
      have hij9 : ((i : Int) + (ys.length : Int)).toNat = i + ys.length := by omega
      k_steps
      (refine hQT _ _ ?_); dsimp only [EPost]
      (rename News _ _ _ _ => nE')
      refine' eend (_, _, _, _, _) (by assumption) nE' ?hn ?ho ?hk ?hp
      case hn => k_mem
      case ho => (intro p9 h9; exact List.mem_cons_of_mem _ h9)
      case hk => walk_at "my all"

      case hp =>
        dsimp only
        refine And.intro ?q1 ?_
        case q1 => assumption
        rw [hij9]
        refine ⟨by rw [List.length_set]; exact glen, hmv, glim.set _ hc0 hc1, ?_, fun k hk => ?_⟩
        · rw [val_set (by omega), gzer _ (Nat.le_refl _), Int.sub_zero, gval, hval, val_take_succ, Int.add_mul, Int.mul_assoc]
        · rw [getD_set_ne (by omega)]
          exact gzer k (by omega)
  case done =>
    refine all5 ?_
    intro f_v f_i f_n mv mv_t u h tk hI9 F N
    refine and6 hI9 ?_
    clear hI9
    intro hi_f hlen hmv hlim hval hzer
    dsimp only at *
    have hl_f := IntsAre.length hi_f
    (try k_fold)

    rw [val_take_all (Nat.le_refl _), hvx] at hval
    have hval2 : val b f_i = ((x * y : Nat) : Int) := by rw [hval]; push_cast; rfl
    k_steps
    (refine hQ9 _ _ ?_); exact endL (s := s) ret (by assumption) (by assumption) (by k_mem) (by assumption)
local macro_rules | `(tactic| walk_at "my C") => `(tactic| (apply shl_ret <;> walk_at "my c"))
local macro_rules | `(tactic| walk_at "my C") => `(tactic| (apply sub_ret <;> walk_at "my c"))
local macro_rules | `(tactic| walk_at "my C") => `(tactic| (apply add_ret <;> walk_at "my c"))
set_option maxHeartbeats 8000000 in
theorem bits_ret {prog : Program} {w : World} {p : Program} {loose : List Str} {mean : ExcName → Option Value} {mg mb : Str → Option Value} {s : Shared} {la lb : Addr} {va vb : List Value} {b x d : Nat} {wi k : Int} {t t1 : Tok} (hb : 2 ≤ b)
    (ha : s.heap.IsList la va.toArray) (hia : IntsAre va (dig b x)) (hlb : s.heap.IsList lb vb.toArray) (hib : IntsAre vb (dig b d)) (hx : x < d) (hd : d < 2 ^ 60) (h0 : 0 ≤ k) (hk : k ≤ 40) (hB : (2 : Int) ^ wi.toNat = b) (hw : 2 ≤ wi) (hw2 : wi ≤ 8) : RetL prog w p loose mean mg mb 4 107 [.ref la, .ref lb, .int k t1, .int wi t] s (dig b (x * 2 ^ k.toNat / d)) := by
  have hw0 : 0 ≤ wi := by omega
  have hw1 : 1 ≤ wi := by omega
  have hw6 : wi ≤ 1000000 := by omega
  intro dp un gd fr base Q E S hd1 hu ret
  k_dflt (refine' enter [(Str.ofString "w", .int wi t), (Str.ofString "many", .int k t1), (Str.ofString "b", .ref lb), (Str.ofString "rest", .ref la)] ?S ?k6 ?k7 ?k8 ?k9 ?kB ?_ ?c2 ?c3 ?c4 ?c5; (case S => assumption); (case k6 => k_is); (case k7 => k_is); (case k8 => assumption); (case k9 => exact BindsTo.of_eq rfl); (case c5 => decide); (case kB => exact locs rfl); (case c2 => exact rfl); (case c3 => exact rfl); (case c4 => exact rfl); k_whole; intro L' h' tk' F' N' S' X' T' Q9 hQ9; (try dsimp only); (try k_fold))
  k_steps
  refine Stop.mk ?_
  (with_unfolding_all refine' my_range (σ := Addr × List Value × Nat × Nat × Bool × Addr × List Value × Nat × Nat) (n := k.toNat) (fun (r, r_v, r_n, r_k, r_b, q, q_v, q_n, q_k) => [(Str.ofString "b", .ref lb), (Str.ofString "w", .int wi t), (Str.ofString "rest", .ref r), (Str.ofString "quotient", .ref q)]) (fun (r, r_v, r_n, r_k, r_b, q, q_v, q_n, q_k) => (q, listOf q_v.toArray q_n) :: (cond r_b [] [(r, listOf r_v.toArray r_n)])) (fun i c => match c with | (r, r_v, r_n, r_k, r_b, q, q_v, q_n, q_k) => (IntsAre r_v (dig b r_k) ∧ (r_b = true → r = la ∧ r_v = va)) ∧ IntsAre q_v (dig b q_k) ∧ r_k < d ∧ x * 2 ^ i = q_k * d + r_k ∧ q_k < 2 ^ i) (la, va, 0, x, true, _, _, _, 0) (by rfl) (by assumption) ?hsmall ?hsz (by assumption) (by assumption) ?hn ?hk ?hi ?turn ?done)
  case hk => walk_at "my all"
  case hn => walk_at "my in"
  case hi => exact ⟨⟨hia, fun _ => ⟨rfl, rfl⟩⟩, ints_nil, hx, by simp, by simp⟩
  case hsmall => exact small_one (by omega) (by omega) (by omega) (by omega)
  case hsz => rw [rangeSize_nat]; simp
  case turn =>
    intro i ti
    refine all9 ?_
    intro r r_v r_n r_k r_b q q_v q_n q_k u h tk I o hlt hI9 hoff F N QT hQT
    refine and5 hI9 ?_
    clear hI9
    intro hI9
    refine and2 hI9 ?_
    clear hI9
    intro hi_r hr_b hi_q hr hx9 hq
    dsimp only at *
    have hq40 : q_k < 2 ^ 40 := Nat.lt_of_lt_of_le hq (Nat.pow_le_pow_right (by omega) (by omega))
    have hc := @cmp3_lt_iff (2 * r_k) d
    have hoff0 := neN (hoff _ (List.mem_cons_self ..))
    clear hoff
    have N9 : News s.heap _ h ((I, o) :: (q, listOf q_v.toArray q_n) :: cond r_b [] [(r, listOf r_v.toArray r_n)]) := fun p9 h9 => N p9 (List.mem_append.mpr ((List.mem_cons.mp h9).elim (fun e => .inr (List.mem_singleton.mpr e)) .inl))
    clear N
    simp only [Int.zero_add, Int.mul_one] at F
    (try k_fold)
    k_steps
    · (refine hQT _ _ ?_); dsimp only [LPost]
      (rename News _ _ _ _ => nE'); (try simp only [List.push_toArray] at nE')
      refine' lend (_, _, _, _, false, _, _, _, _) (by assumption) nE' ?hn ?ho ?hI ?hk ?hp
      case hk => walk_at "my all"
      case hn => walk_at "my in"
      case ho => walk_at "my in"
      case hI => walk_at "my off"
      case hp =>
        refine and3 (bits_turn1 hx9 hr hq (by omega)) ?_
        intro a1 a2 a3
        exact ⟨⟨by assumption, fun h => nomatch h⟩, by assumption, a1, a2, a3⟩
    · (refine hQT _ _ ?_); dsimp only [LPost]
      (rename News _ _ _ _ => nE'); (try simp only [List.push_toArray] at nE')
      refine' lend (_, _, _, _, false, _, _, _, _) (by assumption) nE' ?hn ?ho ?hI ?hk ?hp
      case hk => walk_at "my all"
      case hn => walk_at "my in"
      case ho => walk_at "my in"
      case hI => walk_at "my off"
      case hp =>
        refine and3 (bits_turn2 hx9 hq (by omega)) ?_
        intro a1 a2 a3
        exact ⟨⟨by assumption, fun h => nomatch h⟩, by assumption, a1, a2, a3⟩
  case done =>
    refine all9 ?_
    intro r r_v r_n r_k r_b q q_v q_n q_k u h tk hI9 F N
    refine and5 hI9 ?_
    clear hI9
    intro hI9
    refine and2 hI9 ?_
    clear hI9
    intro hi_r hr_b hi_q hr hx9 hq
    dsimp only at *
    rw [bits_end hx9 hr] at ret
    have N2 : News s.heap _ h [(q, listOf q_v.toArray q_n)] := fun p9 h9 => N p9 (List.mem_singleton.mp h9 ▸ List.mem_cons_self ..)
    clear N
    (try k_fold)
    k_steps
    (refine hQ9 _ _ ?_); exact endL (s := s) ret (by assumption) (by assumption) (by k_mem) (by assumption)
local macro_rules | `(tactic| walk_at "my C") => `(tactic| (apply bits_ret <;> walk_at "my c"))
local macro_rules | `(tactic| walk_at "my C") => `(tactic| (apply lifted_ret <;> walk_at "my c"))
set_option maxHeartbeats 8000000 in
theorem whole_of_power_ret {prog : Program} {w : World} {p : Program} {loose : List Str} {mean : ExcName → Option Value} {mg mb : Str → Option Value} {s : Shared} {lb : Addr} {vb : List Value} {b d : Nat} {wi ni : Int} {t t1 : Tok} (hb : 2 ≤ b)
    (hlb : s.heap.IsList lb vb.toArray) (hib : IntsAre vb (dig b d)) (hd0 : 0 < d) (hd : d < 2 ^ 60) (hn : ((dig b d).length : Int) ≤ ni + 1) (hn2 : ni ≤ 40) (hk40 : wi * (ni - ((dig b d).length : Int) + 1) ≤ 40) (hB : (2 : Int) ^ wi.toNat = b) (hw : 2 ≤ wi) (hw2 : wi ≤ 8) : RetL prog w p loose mean mg mb 5 114 [.ref lb, .int ni t1, .int wi t] s (dig b (b ^ ni.toNat / d)) := by
  have hld := dig_len_64 hb (show d < 2 ^ 64 by omega)
  have hpos := (dig_len_pos hb).mpr hd0
  have hlo : b ^ ((dig b d).length - 1) ≤ d := by
    rcases dig_len_lo hb d with e | e
    · rw [e] at hpos; exact absurd hpos (Nat.lt_irrefl _)
    · exact e
  have e1 : (((dig b d).length : Int) - 1).toNat = (dig b d).length - 1 := by omega
  have hf : 1 * b ^ (((dig b d).length : Int) - 1).toNat ≤ d := by rw [e1, Nat.one_mul]; exact hlo
  have hc1 := @cmp3_lt_iff (1 * b ^ (((dig b d).length : Int) - 1).toNat) d
  have hc2 := @cmp3_gt_iff (1 * b ^ (((dig b d).length : Int) - 1).toNat) d
  have hk0 : 0 ≤ wi * (ni - ((dig b d).length : Int) + 1) := Int.mul_nonneg (by omega) (by omega)
  have e2 : ni.toNat = ((dig b d).length - 1) + (ni - ((dig b d).length : Int) + 1).toNat := by omega
  have e3 : 2 ^ (wi * (ni - ((dig b d).length : Int) + 1)).toNat = b ^ (ni - ((dig b d).length : Int) + 1).toNat := by
    have h1 : (2 : Nat) ^ wi.toNat = b := by
      have h2 : ((2 ^ wi.toNat : Nat) : Int) = (b : Int) := by rw [← hB]; push_cast; rfl
      exact_mod_cast h2
    have hM0 : 0 ≤ ni - ((dig b d).length : Int) + 1 := by omega
    generalize ni - ((dig b d).length : Int) + 1 = M at hM0 ⊢
    rw [← h1, ← Nat.pow_mul, Int.toNat_mul (by omega) hM0]
  have hw0 : 0 ≤ wi := by omega
  have hw1 : 1 ≤ wi := by omega
  have hw6 : wi ≤ 1000000 := by omega
  intro dp un gd fr base Q E S hd1 hu ret
  k_dflt (refine' enter [(Str.ofString "w", .int wi t), (Str.ofString "n", .int ni t1), (Str.ofString "b", .ref lb)] ?S ?k6 ?k7 ?k8 ?k9 ?kB ?_ ?c2 ?c3 ?c4 ?c5; (case S => assumption); (case k6 => k_is); (case k7 => k_is); (case k8 => assumption); (case k9 => exact BindsTo.of_eq rfl); (case c5 => decide); (case kB => exact locs rfl); (case c2 => exact rfl); (case c3 => exact rfl); (case c4 => exact rfl); k_whole; intro L' h' tk' F' N' S' X' T' Q9 hQ9; (try dsimp only); (try k_fold))
  k_steps
  · (rename IntsAre _ _ => hI9)
    have e9 : 1 * b ^ (ni - ((dig b d).length : Int) + 1).toNat = b ^ ni.toNat / d := by
      have h9 : 1 * b ^ (((dig b d).length : Int) - 1).toNat = d := by omega
      rw [e1, Nat.one_mul] at h9
      rw [e2, Nat.pow_add, h9, Nat.one_mul, Nat.mul_div_cancel_left _ hd0]
    rw [e9] at hI9
    (refine hQ9 _ _ ?_); exact endL (s := s) ret (by assumption) (by assumption) (by k_mem) (by assumption)
  · (rename IntsAre _ _ => hI9)
    rw [e1, Nat.one_mul, e3, ← Nat.pow_add, ← e2] at hI9
    (refine hQ9 _ _ ?_); exact endL (s := s) ret (by assumption) (by assumption) (by k_mem) (by assumption)
local macro_rules | `(tactic| walk_at "my C") => `(tactic| (apply mul_ret <;> walk_at "my c"))
local macro_rules | `(tactic| walk_at "my C") => `(tactic| (apply down_ret <;> walk_at "my c"))
set_option maxHeartbeats 8000000 in
theorem newton_ret {prog : Program} {w : World} {p : Program} {loose : List Str} {mean : ExcName → Option Value} {mg mb : Str → Option Value} {s : Shared} {lg lb : Addr} {vg vb : List Value} {b g d : Nat} {wi ni : Int} {t t1 : Tok} (hb : 2 ≤ b)
    (hlg : s.heap.IsList lg vg.toArray) (hig : IntsAre vg (dig b g)) (hlb : s.heap.IsList lb vb.toArray) (hib : IntsAre vb (dig b d)) (hg : g < 2 ^ 30) (hd : d < 2 ^ 30) (hn0 : 0 ≤ ni) (hn2 : ni ≤ 40) (hO : b ^ ni.toNat < 2 ^ 30) (hbd : g * d < 2 ^ 32)
    (hle : b ^ ni.toNat < g * d → g * (g * d - b ^ ni.toNat) / b ^ ni.toNat ≤ g) (hB : (2 : Int) ^ wi.toNat = b) (hw : 2 ≤ wi) (hw2 : wi ≤ 8) : RetL prog w p loose mean mg mb 3 128 [.ref lg, .ref lb, .int ni t1, .int wi t, .ref 142] s (dig b (nstep (b ^ ni.toNat) d g)) := by
  have hO2 : 1 * b ^ ni.toNat = b ^ ni.toNat := Nat.one_mul _
  have hc := @cmp3_gt_iff (g * d) (1 * b ^ ni.toNat)
  have hm1 : g * (g * d - 1 * b ^ ni.toNat) < 2 ^ 63 := Nat.lt_of_le_of_lt (Nat.mul_le_mul (Nat.le_of_lt hg) (show g * d - 1 * b ^ ni.toNat ≤ 2 ^ 32 by omega)) (by decide)
  have hm2 : g * (1 * b ^ ni.toNat - g * d) < 2 ^ 63 := Nat.lt_of_le_of_lt (Nat.mul_le_mul (Nat.le_of_lt hg) (show 1 * b ^ ni.toNat - g * d ≤ 2 ^ 30 by omega)) (by decide)
  have hm3 : g * (g * d - 1 * b ^ ni.toNat) / b ^ ni.toNat < 2 ^ 63 := Nat.lt_of_le_of_lt (Nat.div_le_self _ _) hm1
  have hm4 : g * (1 * b ^ ni.toNat - g * d) / b ^ ni.toNat < 2 ^ 63 := Nat.lt_of_le_of_lt (Nat.div_le_self _ _) hm2
  have hle2 : 1 * b ^ ni.toNat < g * d → g * (g * d - 1 * b ^ ni.toNat) / b ^ ni.toNat ≤ g := by rw [hO2]; exact hle
  have hw0 : 0 ≤ wi := by omega
  have hw1 : 1 ≤ wi := by omega
  have hw6 : wi ≤ 1000000 := by omega
  intro dp un gd fr base Q E S hd1 hu ret
  k_dflt (refine' enter [(Str.ofString "mul", .ref 142), (Str.ofString "w", .int wi t), (Str.ofString "n", .int ni t1), (Str.ofString "b", .ref lb), (Str.ofString "guess", .ref lg)] ?S ?k6 ?k7 ?k8 ?k9 ?kB ?_ ?c2 ?c3 ?c4 ?c5; (case S => assumption); (case k6 => k_is); (case k7 => k_is); (case k8 => assumption); (case k9 => exact BindsTo.of_eq rfl); (case c5 => decide); (case kB => exact locs rfl); (case c2 => exact rfl); (case c3 => exact rfl); (case c4 => exact rfl); k_whole; intro L' h' tk' F' N' S' X' T' Q9 hQ9; (try dsimp only); (try k_fold))
  k_steps
  · (rename IntsAre _ _ => hI9)
    rw [hO2] at hI9
    have e9 : nstep (b ^ ni.toNat) d g = g - g * (g * d - b ^ ni.toNat) / b ^ ni.toNat := if_pos (by omega)
    rw [← e9] at hI9
    (refine hQ9 _ _ ?_); exact endL (s := s) ret (by assumption) (by assumption) (by k_mem) (by assumption)
  · (rename IntsAre _ _ => hI9)
    rw [hO2] at hI9
    have e9 : nstep (b ^ ni.toNat) d g = g + g * (b ^ ni.toNat - g * d) / b ^ ni.toNat := if_neg (by omega)
    rw [← e9] at hI9
    (refine hQ9 _ _ ?_); exact endL (s := s) ret (by assumption) (by assumption) (by k_mem) (by assumption)
theorem all11 {A1 A2 A3 A4 A5 A6 A7 A8 A9 A10 A11 : Type} {P : A1 × A2 × A3 × A4 × A5 × A6 × A7 × A8 × A9 × A10 × A11 → Prop} (h : ∀ x1 x2 x3 x4 x5 x6 x7 x8 x9 x10 x11, P (x1, x2, x3, x4, x5, x6, x7, x8, x9, x10, x11)) : ∀ x, P x := fun ⟨x1, x2, x3, x4, x5, x6, x7, x8, x9, x10, x11⟩ => h x1 x2 x3 x4 x5 x6 x7 x8 x9 x10 x11
theorem all12 {A1 A2 A3 A4 A5 A6 A7 A8 A9 A10 A11 A12 : Type} {P : A1 × A2 × A3 × A4 × A5 × A6 × A7 × A8 × A9 × A10 × A11 × A12 → Prop} (h : ∀ x1 x2 x3 x4 x5 x6 x7 x8 x9 x10 x11 x12, P (x1, x2, x3, x4, x5, x6, x7, x8, x9, x10, x11, x12)) : ∀ x, P x := fun ⟨x1, x2, x3, x4, x5, x6, x7, x8, x9, x10, x11, x12⟩ => h x1 x2 x3 x4 x5 x6 x7 x8 x9 x10 x11 x12
theorem all13 {A1 A2 A3 A4 A5 A6 A7 A8 A9 A10 A11 A12 A13 : Type} {P : A1 × A2 × A3 × A4 × A5 × A6 × A7 × A8 × A9 × A10 × A11 × A12 × A13 → Prop} (h : ∀ x1 x2 x3 x4 x5 x6 x7 x8 x9 x10 x11 x12 x13, P (x1, x2, x3, x4, x5, x6, x7, x8, x9, x10, x11, x12, x13)) : ∀ x, P x := fun ⟨x1, x2, x3, x4, x5, x6, x7, x8, x9, x10, x11, x12, x13⟩ => h x1 x2 x3 x4 x5 x6 x7 x8 x9 x10 x11 x12 x13
theorem all14 {A1 A2 A3 A4 A5 A6 A7 A8 A9 A10 A11 A12 A13 A14 : Type} {P : A1 × A2 × A3 × A4 × A5 × A6 × A7 × A8 × A9 × A10 × A11 × A12 × A13 × A14 → Prop} (h : ∀ x1 x2 x3 x4 x5 x6 x7 x8 x9 x10 x11 x12 x13 x14, P (x1, x2, x3, x4, x5, x6, x7, x8, x9, x10, x11, x12, x13, x14)) : ∀ x, P x := fun ⟨x1, x2, x3, x4, x5, x6, x7, x8, x9, x10, x11, x12, x13, x14⟩ => h x1 x2 x3 x4 x5 x6 x7 x8 x9 x10 x11 x12 x13 x14
set_option maxHeartbeats 8000000 in
theorem corrected_ret {prog : Program} {w : World} {p : Program} {loose : List Str} {mean : ExcName → Option Value} {mg mb : Str → Option Value} {s : Shared} {lg lb : Addr} {ng : Nat} {vg vb : List Value} {b g d : Nat} {wi ni : Int} {t t1 : Tok} (hb : 2 ≤ b)
    (hlg : s.heap.get? lg = some (listOf vg.toArray ng)) (hig : IntsAre vg (dig b g)) (hlb : s.heap.IsList lb vb.toArray) (hib : IntsAre vb (dig b d)) (hg : g < 2 ^ 30) (hd0 : 0 < d) (hd : d < 2 ^ 30) (hn0 : 0 ≤ ni) (hn2 : ni ≤ 40) (hO : b ^ ni.toNat < 2 ^ 30) (hB : (2 : Int) ^ wi.toNat = b) (hw : 2 ≤ wi) (hw2 : wi ≤ 8) : RetA prog w p loose mean mg mb 3 121 [.ref lg, .ref lb, .int ni t1, .int wi t, .ref 142] lg s (dig b (b ^ ni.toNat / d)) := by
  have hlgl : s.heap.IsList lg vg.toArray := ⟨_, hlg, rfl, _, rfl⟩
  have hO2 : 1 * b ^ ni.toNat = b ^ ni.toNat := Nat.one_mul _
  have hgd : g * d < 2 ^ 61 := Nat.lt_of_le_of_lt (Nat.mul_le_mul (Nat.le_of_lt hg) (Nat.le_of_lt hd)) (by decide)
  have hw0 : 0 ≤ wi := by omega
  have hw1 : 1 ≤ wi := by omega
  have hw6 : wi ≤ 1000000 := by omega
  have hd64 : d < 2 ^ 64 := by omega
  have hg64 : g < 2 ^ 64 := by omega
  have hn1000 : ni ≤ 1000 := by omega
  intro dp un gd fr base Q E S hd1 hu ret
  k_dflt (refine' enter [(Str.ofString "mul", .ref 142), (Str.ofString "w", .int wi t), (Str.ofString "n", .int ni t1), (Str.ofString "b", .ref lb), (Str.ofString "guess", .ref lg)] ?S ?k6 ?k7 ?k8 ?k9 ?kB ?_ ?c2 ?c3 ?c4 ?c5; (case S => assumption); (case k6 => k_is); (case k7 => k_is); (case k8 => assumption); (case k9 => exact BindsTo.of_eq rfl); (case c5 => decide); (case kB => exact locs rfl); (case c2 => exact rfl); (case c3 => exact rfl); (case c4 => exact rfl); k_whole; intro L' h' tk' F' N' S' X' T' Q9 hQ9; (try dsimp only); (try k_fold))
  k_steps
  refine Stop.mk ?_
  (with_unfolding_all refine' my_while (σ := Addr × List Value × Nat × Nat × Bool × Addr × List Value × Nat × Nat × Addr × List Value × Nat × Nat) (fun (G, G_v, G_n, G_k, G_b, O, O_v, O_n, O_k, T, T_v, T_n, T_k) => [(Str.ofString "b", .ref lb), (Str.ofString "w", .int wi t), (Str.ofString "guess", .ref G), (Str.ofString "one", .ref O), (Str.ofString "told", .ref T)]) (fun (G, G_v, G_n, G_k, G_b, O, O_v, O_n, O_k, T, T_v, T_n, T_k) => (O, listOf O_v.toArray O_n) :: (T, listOf T_v.toArray T_n) :: (cond G_b [] [(G, listOf G_v.toArray G_n)])) (fun c => match c with | (G, G_v, G_n, G_k, G_b, O, O_v, O_n, O_k, T, T_v, T_n, T_k) => (IntsAre G_v (dig b G_k) ∧ (G_b = true → G = lg ∧ G_v = vg)) ∧ IntsAre O_v (dig b O_k) ∧ IntsAre T_v (dig b T_k) ∧ G_k < 2 ^ 30 ∧ O_k = b ^ ni.toNat ∧ G_k * d = T_k ∧ T_k < 2 ^ 61) (fun (G, G_v, G_n, G_k, G_b, O, O_v, O_n, O_k, T, T_v, T_n, T_k) => T_k) (lg, vg, 0, g, true, _, _, _, _, _, _, _, _) (by assumption) (by assumption) ?hn ?hk ?hp ?turn)
  case hk => walk_at "my all"
  case hn => walk_at "my in"
  case hp => exact ⟨⟨hig, fun _ => ⟨rfl, rfl⟩⟩, by assumption, by assumption, by omega, hO2, rfl, hgd⟩
  case turn =>
    refine all13 ?_
    intro G G_v G_n G_k G_b O O_v O_n O_k T T_v T_n T_k u h tk hI9 F N QT hQT
    refine and7 hI9 ?_
    clear hI9
    intro hI9
    refine and2 hI9 ?_
    clear hI9
    intro hi_G hG_b hi_O hi_T hG30 hOe hTe hT60
    dsimp only at *
    have hc := @cmp3_gt_iff T_k O_k
    have hturn := corr_turn1 (O := O_k) hTe hd0
    (try k_fold)
    k_steps
    · (refine hQT _ _ ?_); dsimp only [WPost]
      (rename News _ _ _ _ => nE'); (try simp only [List.push_toArray] at nE')
      refine' wend (_, _, _, _, false, _, _, _, _, _, _, _, _) (by assumption) nE' ?hn ?hk ?hp ?hm
      case hk => walk_at "my all"
      case hn => walk_at "my in"
      case hp =>
        dsimp only
        exact ⟨⟨by assumption, fun h => nomatch h⟩, by assumption, by assumption, by omega, hOe, (hturn.2 (by omega)).2.2, by omega⟩
      case hm => (show T_k - d < T_k); omega
    · refine Stop.mk ?_
      (with_unfolding_all refine' my_while (σ := Addr × List Value × Nat × Nat × Bool × Addr × List Value × Nat × Nat) (fun (H, H_v, H_n, H_k, H_b, R, R_v, R_n, R_k) => [(Str.ofString "b", .ref lb), (Str.ofString "w", .int wi t), (Str.ofString "guess", .ref H), (Str.ofString "rest", .ref R)]) (fun (H, H_v, H_n, H_k, H_b, R, R_v, R_n, R_k) => (R, listOf R_v.toArray R_n) :: (cond H_b [] [(H, listOf H_v.toArray H_n)])) (fun c => match c with | (H, H_v, H_n, H_k, H_b, R, R_v, R_n, R_k) => (IntsAre H_v (dig b H_k) ∧ (H_b = true → H = lg ∧ H_v = vg)) ∧ IntsAre R_v (dig b R_k) ∧ H_k * d + R_k = b ^ ni.toNat) (fun (H, H_v, H_n, H_k, H_b, R, R_v, R_n, R_k) => R_k) (G, G_v, G_n, G_k, G_b, _, _, _, _) (by assumption) (by assumption) ?hn ?hk ?hp ?turnB)
      case hk => walk_at "my all"
      case hn => walk_at "my in"
      case hp => exact ⟨⟨hi_G, hG_b⟩, by assumption, by omega⟩
      case turnB =>
        refine all9 ?_
        intro H H_v H_n H_k H_b R R_v R_n R_k u2 h2 tk2 hI9 F2 N2 QT hQT
        refine and3 hI9 ?_
        clear hI9
        intro hI9
        refine and2 hI9 ?_
        clear hI9
        intro hi_H hH_b hi_R hRe
        dsimp only at *
        have hc2 := @cmp3_lt_iff R_k d
        have hturn2 := corr_turn2 hRe hd0
        clear hc hturn
        (try k_fold)
        k_steps
        · (refine hQT _ _ ?_); dsimp only [WPost]
          (rename News _ _ _ _ => nE'); (try simp only [List.push_toArray] at nE')
          refine' wend (_, _, _, _, false, _, _, _, _) (by assumption) nE' ?hn ?hk ?hp ?hm
          case hk => walk_at "my all"
          case hn => walk_at "my in"
          case hp =>
            dsimp only
            exact ⟨⟨by assumption, fun h => nomatch h⟩, by assumption, hturn2.2 (by omega)⟩
          case hm => (show R_k - d < R_k); omega
        · have e9 : H_k = b ^ ni.toNat / d := by
            rw [← hRe, bits_end rfl (by omega)]
          rw [← e9] at ret
          (refine hQ9 _ _ ?_)
          cases H_b with
          | true =>
            obtain ⟨rfl, rfl⟩ := hH_b rfl
            exact endA0 (s := s) ret (by assumption) hlg hi_H
          | false =>
            (rename News _ _ _ _ => N9)
            simp only [cond_false] at N9
            exact endA (s := s) ret (by assumption) N9 (by k_mem) hi_H
def RecipAt (prog : Program) (w : World) (p : Program) (loose : List Str) (mean : ExcName → Option Value) (mg mb : Str → Option Value) (b : Nat) (wi : Int) (m : Nat) : Prop :=
  ∀ (s : Shared) (lb : Addr) (vb : List Value) (d : Nat) (ni : Int) (t t1 : Tok), s.heap.IsList lb vb.toArray → IntsAre vb (dig b d) → 0 < d → d < 2 ^ 28 → 0 ≤ ni → ni ≤ 20 → b ^ ni.toNat < 2 ^ 28 → ni - ((dig b d).length : Int) + 1 ≤ m →
    RetL prog w p loose mean mg mb (6 + m) 135 [.ref lb, .int ni t1, .int wi t, .ref 142] s (dig b (b ^ ni.toNat / d))
theorem RecipAt.use {prog : Program} {w : World} {p : Program} {loose : List Str} {mean : ExcName → Option Value} {mg mb : Str → Option Value} {b : Nat} {wi : Int} {m : Nat} (h : RecipAt prog w p loose mean mg mb b wi m) {s : Shared} {lb : Addr} {vb : List Value} {d : Nat} {ni : Int} {t t1 : Tok} (h1 : s.heap.IsList lb vb.toArray) (h2 : IntsAre vb (dig b d)) (h3 : 0 < d) (h4 : d < 2 ^ 28) (h5 : 0 ≤ ni) (h6 : ni ≤ 20) (h7 : b ^ ni.toNat < 2 ^ 28) (h8 : ni - ((dig b d).length : Int) + 1 ≤ m) :
    RetL prog w p loose mean mg mb (6 + m) 135 [.ref lb, .int ni t1, .int wi t, .ref 142] s (dig b (b ^ ni.toNat / d)) := h _ _ _ _ _ _ _ h1 h2 h3 h4 h5 h6 h7 h8
theorem newton_retO {prog : Program} {w : World} {p : Program} {loose : List Str} {mean : ExcName → Option Value} {mg mb : Str → Option Value} {s : Shared} {lg lb : Addr} {vg vb : List Value} {b g d O : Nat} {wi ni : Int} {t t1 : Tok} (hb : 2 ≤ b) (hOe : b ^ ni.toNat = O)
    (hlg : s.heap.IsList lg vg.toArray) (hig : IntsAre vg (dig b g)) (hlb : s.heap.IsList lb vb.toArray) (hib : IntsAre vb (dig b d)) (hg : g < 2 ^ 30) (hd : d < 2 ^ 30) (hn0 : 0 ≤ ni) (hn2 : ni ≤ 40) (hO : O < 2 ^ 30) (hbd : g * d < 2 ^ 32)
    (hle : O < g * d → g * (g * d - O) / O ≤ g) (hB : (2 : Int) ^ wi.toNat = b) (hw : 2 ≤ wi) (hw2 : wi ≤ 8) : RetL prog w p loose mean mg mb 3 128 [.ref lg, .ref lb, .int ni t1, .int wi t, .ref 142] s (dig b (nstep O d g)) := by
  subst hOe
  exact newton_ret hb hlg hig hlb hib hg hd hn0 hn2 hO hbd hle hB hw hw2
theorem corrected_retO {prog : Program} {w : World} {p : Program} {loose : List Str} {mean : ExcName → Option Value} {mg mb : Str → Option Value} {s : Shared} {lg lb : Addr} {ng : Nat} {vg vb : List Value} {b g d O : Nat} {wi ni : Int} {t t1 : Tok} (hb : 2 ≤ b) (hOe : b ^ ni.toNat = O)
    (hlg : s.heap.get? lg = some (listOf vg.toArray ng)) (hig : IntsAre vg (dig b g)) (hlb : s.heap.IsList lb vb.toArray) (hib : IntsAre vb (dig b d)) (hg : g < 2 ^ 30) (hd0 : 0 < d) (hd : d < 2 ^ 30) (hn0 : 0 ≤ ni) (hn2 : ni ≤ 40) (hO : O < 2 ^ 30) (hB : (2 : Int) ^ wi.toNat = b) (hw : 2 ≤ wi) (hw2 : wi ≤ 8) : RetA prog w p loose mean mg mb 3 121 [.ref lg, .ref lb, .int ni t1, .int wi t, .ref 142] lg s (dig b (O / d)) := by
  subst hOe
  exact corrected_ret hb hlg hig hlb hib hg hd0 hd hn0 hn2 hO hB hw hw2
theorem down_retO {prog : Program} {w : World} {p : Program} {loose : List Str} {mean : ExcName → Option Value} {mg mb : Str → Option Value} {s : Shared} {la : Addr} {vs : List Value} {b x H : Nat} {k : Int} {t : Tok} (hb : 2 ≤ b)
    (ha : s.heap.IsList la vs.toArray) (hi : IntsAre vs (dig b x)) (hHe : x / b ^ k.toNat = H) (hx : x < 2 ^ 64) (h0 : 0 ≤ k) (hk : k ≤ 1000) : RetL prog w p loose mean mg mb 1 100 [.ref la, .int k t] s (dig b H) := by
  subst hHe
  exact down_ret hb ha hi hx h0 hk
theorem lifted_retO {prog : Program} {w : World} {p : Program} {loose : List Str} {mean : ExcName → Option Value} {mg mb : Str → Option Value} {s : Shared} {la : Addr} {vs : List Value} {b x y : Nat} {k : Int} {t : Tok} (hb : 2 ≤ b)
    (ha : s.heap.IsList la vs.toArray) (hi : IntsAre vs (dig b x)) (hye : x * b ^ k.toNat = y) (hx : x < 2 ^ 64) (h0 : 0 ≤ k) (hk : k ≤ 1000) : RetL prog w p loose mean mg mb 1 86 [.ref la, .int k t] s (dig b y) := by
  subst hye
  exact lifted_ret hb ha hi hx h0 hk
theorem whole_of_power_retO {prog : Program} {w : World} {p : Program} {loose : List Str} {mean : ExcName → Option Value} {mg mb : Str → Option Value} {s : Shared} {lb : Addr} {vb : List Value} {b d P X : Nat} {wi ni : Int} {t t1 : Tok} (hb : 2 ≤ b)
    (hlb : s.heap.IsList lb vb.toArray) (hib : IntsAre vb (dig b d)) (hPe : b ^ ni.toNat = P) (hXe : P / d = X) (hd0 : 0 < d) (hd : d < 2 ^ 60) (hn : ((dig b d).length : Int) ≤ ni + 1) (hn2 : ni ≤ 40) (hk40 : wi * (ni - ((dig b d).length : Int) + 1) ≤ 40) (hB : (2 : Int) ^ wi.toNat = b) (hw : 2 ≤ wi) (hw2 : wi ≤ 8) : RetL prog w p loose mean mg mb 5 114 [.ref lb, .int ni t1, .int wi t] s (dig b X) := by
  subst hPe hXe
  exact whole_of_power_ret hb hlb hib hd0 hd hn hn2 hk40 hB hw hw2
theorem RecipAt.useO {prog : Program} {w : World} {p : Program} {loose : List Str} {mean : ExcName → Option Value} {mg mb : Str → Option Value} {b : Nat} {wi : Int} {m : Nat} (h : RecipAt prog w p loose mean mg mb b wi m) {s : Shared} {lb : Addr} {vb : List Value} {d P X : Nat} {ni : Int} {t t1 : Tok} (h1 : s.heap.IsList lb vb.toArray) (h2 : IntsAre vb (dig b d)) (hPe : b ^ ni.toNat = P) (hXe : P / d = X) (h3 : 0 < d) (h4 : d < 2 ^ 28) (h5 : 0 ≤ ni) (h6 : ni ≤ 20) (h7 : P < 2 ^ 28) (h8 : ni - ((dig b d).length : Int) + 1 ≤ m) :
    RetL prog w p loose mean mg mb (6 + m) 135 [.ref lb, .int ni t1, .int wi t, .ref 142] s (dig b X) := by
  subst hPe hXe
  exact h.use h1 h2 h3 h4 h5 h6 h7 h8
theorem toNat3 {a c e n : Int} (ha : 0 ≤ a) (hc : 0 ≤ c) (he : 0 ≤ e) (h : a + c + e = n) : a.toNat + c.toNat + e.toNat = n.toNat := by
  rw [← h, Int.toNat_add (Int.add_nonneg ha hc) he, Int.toNat_add ha hc]
theorem cutE {L : Nat} {v : Int} (h0 : 0 ≤ v) (h : v ≤ L) : ((L - ((L : Int) - v).toNat : Nat) : Int) = v := by omega
theorem rnA {L : Nat} {ni v : Int} (h1 : ni ≤ 20) (hL : L ≤ 64) (hL0 : 0 < L) (hm : ¬ ni - (L : Int) + 1 ≤ 0) (hm3 : ni - (L : Int) + 1 ≤ 3) (hv1 : v ≤ L) (hv2 : v ≤ ni - (L : Int) + 1 + 2) (hv3 : v = (L : Int) ∨ v = ni - (L : Int) + 1 + 2) :
    ((L - ((L : Int) - v).toNat : Nat) : Int) = v ∧ 0 < v ∧ (v + (ni - (L : Int) + 1) - 1).toNat ≤ ni.toNat ∧ 0 ≤ (L : Int) - v ∧ (L : Int) - v ≤ 1000 ∧ v ≤ v + (ni - (L : Int) + 1) - 1 + 1 ∧ v + (ni - (L : Int) + 1) - 1 ≤ 40 ∧ v + (ni - (L : Int) + 1) - 1 - v + 1 = ni - (L : Int) + 1 ∧ 0 ≤ ni - (L : Int) + 1 := by
  have h0 : 0 < v := by omega
  exact ⟨cutE (Int.le_of_lt h0) hv1, h0, by omega, by omega, by omega, by omega, by omega, by omega, by omega⟩
theorem rnB {L : Nat} {ni v R : Int} (h1 : ni ≤ 20) (hL : L ≤ 64) (hL0 : 0 < L) (hm3 : ¬ ni - (L : Int) + 1 ≤ 3) (hR1 : 2 * R ≤ ni - (L : Int) + 1 + 1) (hR2 : ni - (L : Int) + 1 + 1 < 2 * R + 2) (hv1 : v ≤ L) (hv2 : v ≤ R + 1) (hv3 : v = (L : Int) ∨ v = R + 1) :
    ((L - ((L : Int) - v).toNat : Nat) : Int) = v ∧ 0 < v ∧ 0 ≤ (L : Int) - v ∧ (L : Int) - v ≤ 1000 ∧ 0 ≤ v + R ∧ v + R ≤ 20 ∧ 0 ≤ ni - (L : Int) + 1 - R - 1 ∧ ni - (L : Int) + 1 - R - 1 ≤ 1000 ∧ v + R ≤ ni ∧ (v + R) + (ni - (L : Int) + 1 - R - 1) + ((L : Int) - v) = ni := by
  have h0 : 0 < v := by omega
  exact ⟨cutE (Int.le_of_lt h0) hv1, h0, by omega, by omega, by omega, by omega, by omega, by omega, by omega, by omega⟩
theorem rnC {L : Nat} {ni v R : Int} {m : Nat} (hm : ni - (L : Int) + 1 ≤ ((m + 1 : Nat) : Int)) (hm3 : ¬ ni - (L : Int) + 1 ≤ 3) (hR1 : 2 * R ≤ ni - (L : Int) + 1 + 1) : v + R - v + 1 ≤ (m : Int) := by omega
theorem rnD {O G d N : Nat} (hO : O < 2 ^ 28) (h1 : G ≤ O) (h2 : G * d ≤ 2 * O) (h3 : N ≤ 2 * G) : G < 2 ^ 30 ∧ G * d < 2 ^ 32 ∧ N < 2 ^ 30 := by
  refine ⟨?_, ?_, ?_⟩ <;> omega
local macro_rules | `(tactic| walk_at "call builtin:min") => `(tactic| (k_here; k_dflt (refine' min_pick rfl (by k_asm) (by k_asm) ?_; k_whole); intro v9 t9 h9 tk9 hv1 hv2 hv3 F9 N9; (try k_sweep); (refine Stop.out ?_)))
local macro_rules | `(tactic| walk_at "my C") => `(tactic| (apply lifted_retO <;> walk_at "my c"))
local macro_rules | `(tactic| walk_at "my C") => `(tactic| (apply down_retO <;> walk_at "my c"))
local macro_rules | `(tactic| walk_at "my C") => `(tactic| (apply whole_of_power_retO <;> walk_at "my c"))
local macro_rules | `(tactic| walk_at "my C") => `(tactic| (apply RecipAt.useO <;> walk_at "my c"))
local macro_rules | `(tactic| walk_at "my C") => `(tactic| (apply newton_retO <;> walk_at "my c"))
local macro_rules | `(tactic| walk_at "my C") => `(tactic| (apply corrected_retO <;> walk_at "my c"))
set_option maxHeartbeats 8000000 in
theorem recip_step {prog : Program} {w : World} {p : Program} {loose : List Str} {mean : ExcName → Option Value} {mg mb : Str → Option Value} (m : Nat) {b : Nat} {wi : Int} (hb : 2 ≤ b) (hB : (2 : Int) ^ wi.toNat = b) (hw : 2 ≤ wi) (hw2 : wi ≤ 8) (ih : ∀ m', m' + 1 = m → RecipAt prog w p loose mean mg mb b wi m') : RecipAt prog w p loose mean mg mb b wi m := by
  intro s lb vb d ni t t1 hlb hib hd0 hd hn0 hn2 hO hm
  have hld := dig_len_64 hb (show d < 2 ^ 64 by omega)
  have hpos := (dig_len_pos hb).mpr hd0
  refine Exists.elim (⟨_, rfl⟩ : ∃ O, b ^ ni.toNat = O) ?_
  intro O hOe
  rw [hOe] at hO ⊢
  have hO1 : 1 * b ^ ni.toNat = O := (Nat.one_mul _).trans hOe
  have hc := @cmp3_lt_iff O d
  have hw0 : 0 ≤ wi := by omega
  have hw1 : 1 ≤ wi := by omega
  have hw6 : wi ≤ 1000000 := by omega
  have hd64 : d < 2 ^ 64 := by omega
  have hd60 : d < 2 ^ 60 := by omega
  have hd30 : d < 2 ^ 30 := by omega
  have hO30 : O < 2 ^ 30 := by omega
  have hO64 : O < 2 ^ 64 := by omega
  have hn40 : ni ≤ 40 := by omega
  have hn1000 : ni ≤ 1000 := by omega
  intro dp un gd fr base Q E S hd1 hu ret
  k_dflt (refine' enter [(Str.ofString "mul", .ref 142), (Str.ofString "w", .int wi t), (Str.ofString "n", .int ni t1), (Str.ofString "b", .ref lb)] ?S ?k6 ?k7 ?k8 ?k9 ?kB ?_ ?c2 ?c3 ?c4 ?c5; (case S => assumption); (case k6 => k_is); (case k7 => k_is); (case k8 => assumption); (case k9 => exact BindsTo.of_eq rfl); (case c5 => decide); (case kB => exact locs rfl); (case c2 => exact rfl); (case c3 => exact rfl); (case c4 => exact rfl); k_whole; intro L' h' tk' F' N' S' X' T' Q9 hQ9; (try dsimp only); (try k_fold))
  k_steps
  · (try k_unfold)
    (try dsimp only)
    have e9 : O / d = 1 := by
      have h1 : O ≤ d := by
        rcases dig_len_lo hb d with e | e
        · rw [e] at hpos; exact absurd hpos (Nat.lt_irrefl _)
        · exact hOe ▸ Nat.le_trans (Nat.pow_le_pow_right (by omega) (by omega)) e
      have h2 : O = d := by omega
      rw [h2, Nat.div_self hd0]
    rw [e9] at ret
    (refine hQ9 _ _ ?_); exact endL (s := s) (us := [.int 1 _]) ret (by assumption) (by assumption) (by k_mem) (ints_one hb)
  · (try k_unfold)
    (try dsimp only)
    have e9 : O / d = 0 := Nat.div_eq_of_lt (by omega)
    rw [e9, dig_nil] at ret
    (refine hQ9 _ _ ?_); exact endL (s := s) (us := []) ret (by assumption) (by assumption) (by k_mem) IntsAre.nil
  · refine Stop.mk ?_
    rename_i v t9 h9 tk9 hv1 hv2 hv3 F9 N9
    refine and9 (rnA hn2 hld hpos (by assumption) (by assumption) hv1 hv2 hv3) ?_
    intro a1 a2 a3 a4 a5 a6 a7 a8 a9
    clear hc
    refine Exists.elim (⟨_, rfl⟩ : ∃ H, d / b ^ (((dig b d).length : Int) - v).toNat = H) ?_
    intro H hHe
    refine Exists.elim (⟨_, rfl⟩ : ∃ P, b ^ (v + (ni - ((dig b d).length : Int) + 1) - 1).toNat = P) ?_
    intro P hPe
    refine Exists.elim (⟨_, rfl⟩ : ∃ X, P / H = X) ?_
    intro X hXe
    have hcut : ((dig b H).length : Int) = v := by rw [← hHe, dig_cut_len hb]; exact a1
    have hH0 : 0 < H := (dig_len_pos hb).mp (Int.natCast_pos.mp (by rw [hcut]; exact a2))
    have hHd : H ≤ d := hHe ▸ Nat.div_le_self _ _
    have hH60 : H < 2 ^ 60 := Nat.lt_of_le_of_lt hHd hd60
    have hXO : X < 2 ^ 30 := Nat.lt_of_le_of_lt (hXe ▸ hPe ▸ hOe ▸ recip_small hb a3) hO30
    have hn9 : ((dig b H).length : Int) ≤ v + (ni - ((dig b d).length : Int) + 1) - 1 + 1 := by rw [hcut]; exact a6
    have hwk : wi * (v + (ni - ((dig b d).length : Int) + 1) - 1 - ((dig b H).length : Int) + 1) ≤ 40 := by
      rw [hcut, a8]
      exact Int.le_trans (Int.mul_le_mul hw2 (by assumption) a9 (by decide)) (by decide)
    clear hv1 hv2 hv3 a1 a2 a3 a6 a8 a9 hHd hcut
    (try k_fold)
    k_steps
    (refine hQ9 _ _ ?_); exact endL (s := s) ret (by assumption) (by assumption) (by k_mem) (by assumption)
  · refine Stop.mk ?_
    rename_i v t9 h9 tk9 hv1 hv2 hv3 F9 N9
    clear hc
    have hfd : (Int.fdiv (ni - ((dig b d).length : Int) + 1 + 1) 2) = (ni - ((dig b d).length : Int) + 1 + 1) / 2 := Int.fdiv_eq_ediv_of_nonneg _ (by omega)
    have hR1 : 2 * (Int.fdiv (ni - ((dig b d).length : Int) + 1 + 1) 2) ≤ ni - ((dig b d).length : Int) + 1 + 1 := by rw [hfd]; omega
    have hR2 : ni - ((dig b d).length : Int) + 1 + 1 < 2 * (Int.fdiv (ni - ((dig b d).length : Int) + 1 + 1) 2) + 2 := by rw [hfd]; omega
    clear hfd
    refine and10 (rnB hn2 hld hpos (by assumption) hR1 hR2 hv1 hv2 hv3) ?_
    intro a1 a2 a3 a4 a5 a6 a7 a8 a9 a10
    refine Exists.elim (⟨_, rfl⟩ : ∃ H, d / b ^ (((dig b d).length : Int) - v).toNat = H) ?_
    intro H hHe
    refine Exists.elim (⟨_, rfl⟩ : ∃ P, b ^ (v + (Int.fdiv (ni - ((dig b d).length : Int) + 1 + 1) 2)).toNat = P) ?_
    intro P hPe
    refine Exists.elim (⟨_, rfl⟩ : ∃ X, P / H = X) ?_
    intro X hXe
    refine Exists.elim (⟨_, rfl⟩ : ∃ G, X * b ^ (ni - ((dig b d).length : Int) + 1 - (Int.fdiv (ni - ((dig b d).length : Int) + 1 + 1) 2) - 1).toNat = G) ?_
    intro G hGe
    have hcut : ((dig b H).length : Int) = v := by rw [← hHe, dig_cut_len hb]; exact a1
    have hH0 : 0 < H := (dig_len_pos hb).mp (Int.natCast_pos.mp (by rw [hcut]; exact a2))
    have hHd : H ≤ d := hHe ▸ Nat.div_le_self _ _
    have hH28 : H < 2 ^ 28 := Nat.lt_of_le_of_lt hHd hd
    have hPO : P ≤ O := hPe ▸ hOe ▸ Nat.pow_le_pow_right (Nat.le_of_lt hb) (Int.toNat_le_toNat a9)
    have hP28 : P < 2 ^ 28 := Nat.lt_of_le_of_lt hPO hO
    have hX64 : X < 2 ^ 64 := Nat.lt_of_le_of_lt (hXe ▸ Nat.div_le_self _ _) (Nat.lt_trans hP28 (by decide))
    have hgg := recip_guess (d := d) hb (toNat3 a5 a7 a3 a10)
    rw [hHe, hPe, hXe, hGe, hOe] at hgg
    refine and2 hgg ?_
    clear hgg
    intro hg1 hg2
    have hroom := nstep_room hg2
    refine and3 (rnD (N := nstep O d G) hO hg1 hg2 nstep_le) ?_
    intro hG30 hGd32 hN30
    cases m with
    | zero => exfalso; clear hR1 hR2 hg2 hroom hG30 hGd32 hN30 a1 a4 a5 a6 a7 a8 a9 a10; omega
    | succ m' =>
      have ih' := ih m' rfl
      have hrec : v + (Int.fdiv (ni - ((dig b d).length : Int) + 1 + 1) 2) - ((dig b H).length : Int) + 1 ≤ (m' : Int) := by rw [hcut]; exact rnC hm (by assumption) hR1
      clear hv1 hv2 hv3 a1 a2 a9 a10 hR1 hR2 hHd hPO hcut hg1 hg2 hm
      (try k_fold)
      k_steps
      (refine hQ9 _ _ ?_); exact endL (s := s) ret (by assumption) (by assumption) (by k_mem) (by assumption)
theorem recip_all {prog : Program} {w : World} {p : Program} {loose : List Str} {mean : ExcName → Option Value} {mg mb : Str → Option Value} {b : Nat} {wi : Int} (hb : 2 ≤ b) (hB : (2 : Int) ^ wi.toNat = b) (hw : 2 ≤ wi) (hw2 : wi ≤ 8) : ∀ m, RecipAt prog w p loose mean mg mb b wi m := by
  intro m
  induction m with
  | zero => exact recip_step 0 hb hB hw hw2 fun m' h => absurd h (Nat.succ_ne_zero _)
  | succ m ih => exact recip_step (m + 1) hb hB hw hw2 fun m' h => (Nat.succ.inj h).symm ▸ ih
/-- a call whose answer is a bool -/
def RetB (prog : Program) (w : World) (p : Program) (loose : List Str) (mean : ExcName → Option Value) (mg mb : Str → Option Value) (k : Nat) (f : Addr) (vs : List Value) (s : Shared) (out : Bool) : Prop :=
  ∀ (dp un : Nat) (gd : Option (List Code)) (fr : List Env) (base : Heap) (Q E : Value → Shared → Prop),
    Stage w p loose mean mg mb (AA dp un gd fr) fr base s.heap → dp + k ≤ 900 → un + 8 * k ≤ 9000 →
    (∀ h' tk', (∀ b o, s.heap.get? b = some o → h'.get? b = some o) → Q (.bool out) { s with heap := h', toks := tk' }) →
    wpAny (model prog w) (AA dp un gd fr) (call (.ref f) vs) Q E s
theorem endB {s : Shared} {Q : Value → Shared → Prop} {L : Addr} {m : Str → Option Value} {out v : Bool} {h' : Heap} {tk' : Nat} (ret : ∀ h' tk', (∀ b o, s.heap.get? b = some o → h'.get? b = some o) → Q (.bool out) { s with heap := h', toks := tk' })
    (F : Fr s.heap L h' m) (e : out = v) : Q (.bool v) { s with heap := h', toks := tk' } := e ▸ ret h' tk' F.keep
local macro_rules | `(tactic| walk_at "call builtin:min") => `(tactic| (k_here; k_dflt (refine' min_pick rfl (by k_asm) (by k_asm) ?_; k_whole); intro v9 t9 h9 tk9 hv1 hv2 hv3 F9 N9; (try k_sweep)))
local macro_rules | `(tactic| walk_at "my C") => `(tactic| (exact limbs_ret (by assumption) rfl (by walk_at "my n") (by assumption) (by walk_at "my n") (by walk_at "my n")))
local macro_rules | `(tactic| walk_at "my C") => `(tactic| (apply whole_ret <;> walk_at "my c"))
/-- a sign: the walk stops at the next If -/
inductive Mark9 : Prop | mk
theorem stop_mark {P : Prop} (_ : Mark9) (h : Stop P) : P := h
local macro_rules | `(tactic| walk_at "exec If BoolOp cons nil") => `(tactic| (refine stop_mark (by assumption) ?_))
/-- one statement whose ways meet again; what it finds stands -/
theorem my_join1 {prog : Program} {w : World} {A : Around} {E : Value → Shared → Prop} {Q : Flow → Shared → Prop} {s : Shared} {env : Env} {h₀ : Heap} {L : Addr} {st : Stmt} {m : Str → Option Value} {news : List (Addr × Obj)}
    (_F : Fr h₀ L s.heap m) (_N : News h₀ L s.heap news)
    (way : ∀ QT : Flow → Shared → Prop, (∀ h tk, Fr h₀ L h m → News h₀ L h news → QT .next { s with heap := h, toks := tk }) → wpAny (model prog w) A (exec st env) QT E s)
    (go : ∀ h tk, Fr h₀ L h m → News h₀ L h news → Q .next { s with heap := h, toks := tk }) :
    wpAny (model prog w) A (exec st env) Q E s := way Q go
theorem ledA {O d : Nat} (hO : O ≤ 4096) (hd0 : 0 < d) (hdO : 4 * d ≤ O) : d < 2 ^ 64 ∧ d < 2 ^ 30 ∧ 0 < O ∧ O < 2 ^ 30 ∧ 0 ≤ (d : Int) ∧ O / d < 2 ^ 64 ∧ d < O ∧ (d : Int) ≠ 0 := by
  have := Nat.div_le_self O d
  exact ⟨by omega, by omega, by omega, by omega, by omega, by omega, by omega, by omega⟩
theorem ledg {O d g : Nat} (hO : O ≤ 4096) (h1 : g ≤ g * d) (h2 : g * d + d ≤ 2 * O) : g < 2 ^ 64 := by omega
theorem ledB {O d r n : Nat} (hO : O ≤ 4096) (h1 : r ≤ r * d) (h2 : r * d + d ≤ 2 * O) (h3 : n ≤ n * d) (h4 : n * d + d ≤ 2 * O) : r < 2 ^ 64 ∧ r < 2 ^ 30 ∧ n < 2 ^ 64 ∧ r * d < 2 ^ 32 ∧ r * d ≤ 2 * O ∧ n * d ≤ 2 * O := ⟨by omega, by omega, by omega, by omega, by omega, by omega⟩
theorem ledD {d : Nat} {z : Int} (h : d < 2 ^ 30) : IntMulOk (d : Int) z := mulL (by omega) (by omega)
theorem ledM {O d x : Nat} {z : Int} (hO : O ≤ 4096) (h : x * d ≤ 2 * O) : IntMulOk ((O : Int) - (d : Int) * (x : Int)) z := by
  have e : (d : Int) * (x : Int) = ((x * d : Nat) : Int) := by rw [Int.natCast_mul, Int.mul_comm]
  rw [e]
  exact mulL (by omega) (by omega)
set_option maxHeartbeats 8000000 in
theorem led_ret {prog : Program} {w : World} {p : Program} {loose : List Str} {mean : ExcName → Option Value} {mg mb : Str → Option Value} {s : Shared} {b d g O : Nat} {wi ni D G : Int} {t t1 t2 t3 : Tok} (hb : 2 ≤ b) (hOe : b ^ ni.toNat = O) (hD : D = d) (hG : G = g) (hn0 : 0 ≤ ni) (hn2 : ni ≤ 10) (hO : O ≤ 4096) (hd0 : 0 < d) (hdO : 4 * d ≤ O) (hgood : Good O d g) (hk : O / d ≤ yk O d 16 + 1) (hB : (2 : Int) ^ wi.toNat = b) (hw : 2 ≤ wi) (hw2 : wi ≤ 8) : RetB prog w p loose mean mg mb 4 170 [.int D t, .int ni t1, .int G t2, .int wi t3] s true := by
  subst hD hG
  have hwn0 : 0 ≤ wi * ni := Int.mul_nonneg (by omega) hn0
  have hwn1 : wi * ni ≤ 80 := Int.le_trans (Int.mul_le_mul hw2 hn2 hn0 (by omega)) (by decide)
  have h2O : (2 : Int) ^ (wi * ni).toNat = (O : Int) := by
    rw [Int.toNat_mul (by omega) hn0, Int.pow_mul, hB, ← hOe]; push_cast; rfl
  have hR : O / d ≤ O := Nat.div_le_self _ _
  have hg1 : g ≤ g * d := Nat.le_mul_of_pos_right _ hd0
  have hg2 := hgood.2
  refine and8 (ledA hO hd0 hdO) ?_
  intro hd64 hd30 hO0 hO30 hdI00 hOd64 hdO9 hg99
  have hg64 : g < 2 ^ 64 := ledg hO hg1 hg2
  have hw0 : 0 ≤ wi := by omega
  have hw1 : 1 ≤ wi := by omega
  have hw6 : wi ≤ 1000000 := by omega
  have hn40 : ni ≤ 40 := by omega
  intro dp un gd fr base Q E S hd1 hu ret
  k_dflt (refine' enter [(Str.ofString "w", .int wi t3), (Str.ofString "guess", .int (g : Int) t2), (Str.ofString "n", .int ni t1), (Str.ofString "b", .int (d : Int) t)] ?S ?k6 ?k7 ?k8 ?k9 ?kB ?_ ?c2 ?c3 ?c4 ?c5; (case S => assumption); (case k6 => k_is); (case k7 => k_is); (case k8 => assumption); (case k9 => exact BindsTo.of_eq rfl); (case c5 => decide); (case kB => exact locs rfl); (case c2 => exact rfl); (case c3 => exact rfl); (case c4 => exact rfl); k_whole; intro L' h' tk' F' N' S' X' T' Q9 hQ9; (try dsimp only); (try k_fold))
  k_steps
  refine Stop.mk ?_
  (with_unfolding_all refine' my_range (σ := Int × Tok × Int × Tok × Addr × List Value × Nat × Nat × Int × Tok) (n := 24) (fun (ov, ov_t, rv, rv_t, r, r_v, r_n, r_k, gv, gv_t) => [(Str.ofString "b", .int (d : Int) t), (Str.ofString "n", .int ni t1), (Str.ofString "w", .int wi t3), (Str.ofString "one", .int ov ov_t), (Str.ofString "right", .int rv rv_t), (Str.ofString "row", .ref r), (Str.ofString "guess", .int gv gv_t)]) (fun (ov, ov_t, rv, rv_t, r, r_v, r_n, r_k, gv, gv_t) => [(r, listOf r_v.toArray r_n)]) (fun i c => match c with | (ov, ov_t, rv, rv_t, r, r_v, r_n, r_k, gv, gv_t) => IntsAre r_v (dig b r_k) ∧ ov = (O : Int) ∧ rv = ((O / d : Nat) : Int) ∧ gv = (r_k : Int) ∧ r_k = iter O d g i ∧ (∀ j, j < i → nstep O d (iter O d g j) ≠ iter O d g j)) (_, _, _, _, _, _, _, g, _, _) (by rfl) (by assumption) ?hsmall ?hsz (by assumption) (by assumption) ?hn ?hk ?hi ?turn ?done)
  case hk => walk_at "my all"
  case hn => walk_at "my in"
  case hi => exact ⟨by assumption, h2O, by rw [h2O, Int.fdiv_eq_ediv_of_nonneg _ (by omega), ← Int.natCast_ediv], rfl, rfl, fun j hj => absurd hj (Nat.not_lt_zero _)⟩
  case hsmall => exact small_one (by omega) (by omega) (by omega) (by omega)
  case hsz => rw [rangeSize_nat]; rfl
  case turn =>
    intro i ti
    refine all10 ?_
    intro ov ov_t rv rv_t r r_v r_n r_k gv gv_t u h tk I o hlt hI9 hoff F N QT hQT
    refine and6 hI9 ?_
    clear hI9
    intro hi_r hov hrv hgv hit hne
    dsimp only at *
    simp only [List.forall_mem_cons, List.not_mem_nil, false_implies, implies_true, and_true, List.cons_append, List.nil_append, Int.zero_add, Int.mul_one] at hoff N F
    replace hoff := neN hoff
    have hl_r := IntsAre.length hi_r
    (try k_fold)

    subst hov hrv hgv
    have hG : Good O d r_k := hit ▸ good_iter (by omega) hd0 (by omega) hgood i
    have hGt : Good O d (nstep O d r_k) := good_step (by omega) hd0 (by omega) hG
    have hx1 : r_k ≤ r_k * d := Nat.le_mul_of_pos_right _ hd0
    have hx2 := hG.2
    have ht1 : nstep O d r_k ≤ nstep O d r_k * d := Nat.le_mul_of_pos_right _ hd0
    have ht2 := hGt.2
    refine and6 (ledB hO hx1 hx2 ht1 ht2) ?_
    intro hr64 hr30 ht64 hrd32 hrd2 htd2
    have hp1 := @ledD d (r_k : Int) hd30
    have hp4 := @ledD d (nstep O d r_k : Int) hd30
    have hp5 := @ledD d (O : Int) hd30
    have hp2 := @ledM O d r_k ((O : Int) - (d : Int) * (r_k : Int)) hO hrd2
    have hp3 := @ledM O d (nstep O d r_k) (O : Int) hO htd2
    have hroom := nstep_room (one := O) (d := d) (g := r_k) hrd2
    have hdx : (d : Int) * (r_k : Int) = ((r_k * d : Nat) : Int) := by rw [Int.natCast_mul, Int.mul_comm]
    have hdt : (d : Int) * ((nstep O d r_k : Nat) : Int) = ((nstep O d r_k * d : Nat) : Int) := by rw [Int.natCast_mul, Int.mul_comm]
    have hfix : nstep O d r_k = r_k → r_k ≤ O / d + 1 ∧ O / d ≤ r_k + 1 := fix_near (by omega) hd0 hG
    have hmk : Mark9 := .mk
    k_steps
    refine Stop.mk ?_
    refine' my_join1 (by assumption) (by assumption) ?way1 ?go1
    case way1 =>
      intro QT1 hQT1
      clear hmk
      by_cases hbelow : r_k * d ≤ O
      · refine and4 (step_below (by omega) hd0 hbelow) ?_
        intro b1 b2 b3 b4
        have b5 : r_k ≤ O / d := (Nat.le_div_iff_mul_le hd0).mpr hbelow
        have b6 : nstep O d r_k ≤ O / d := (Nat.le_div_iff_mul_le hd0).mpr b2
        k_steps
        exact hQT1 _ _ (by assumption) (by assumption)
      · refine and4 (step_above (O := O) (d := d) (g := r_k) (by omega) hd0 (by omega) (by omega)) ?_
        intro b1 b2 b3 b4
        have b5 : O / d < r_k := (Nat.div_lt_iff_lt_mul hd0).mpr (by omega)
        have b6 : nstep O d r_k ≤ O / d + 1 := le_right_succ hd0 b2
        k_steps
        exact hQT1 _ _ (by assumption) (by assumption)
    case go1 =>
      intro h11 tk11 F11 N11
      (try k_sweep)
      (try dsimp only at *)
      (try k_fold)
      k_steps
      refine Stop.mk ?_
      refine' my_join1 (by assumption) (by assumption) ?way2 ?go2
      case way2 =>
        intro QT1 hQT1
        clear hmk
        by_cases hbelow : r_k * d ≤ O
        · refine and4 (step_below (by omega) hd0 hbelow) ?_
          intro b1 b2 b3 b4
          have b5 : r_k ≤ O / d := (Nat.le_div_iff_mul_le hd0).mpr hbelow
          have b6 : nstep O d r_k ≤ O / d := (Nat.le_div_iff_mul_le hd0).mpr b2
          k_steps
          exact hQT1 _ _ (by assumption) (by assumption)
        · refine and4 (step_above (O := O) (d := d) (g := r_k) (by omega) hd0 (by omega) (by omega)) ?_
          intro b1 b2 b3 b4
          have b5 : O / d < r_k := (Nat.div_lt_iff_lt_mul hd0).mpr (by omega)
          have b6 : nstep O d r_k ≤ O / d + 1 := le_right_succ hd0 b2
          k_steps
          exact hQT1 _ _ (by assumption) (by assumption)
      case go2 =>
        clear hmk
        intro h12 tk12 F12 N12
        (try k_sweep)
        (try dsimp only at *)
        (try k_fold)
        k_steps
        · (refine hQT _ _ (hQ9 _ _ ?_))
          (try k_unfold)
          (try dsimp only)
          exact endB (s := s) ret (by assumption) (by simp)
        · exfalso
          have h9 := hfix (by omega)
          (rename (¬ _) => hx9)
          split at hx9 <;> omega
        · (refine hQT _ _ ?_); dsimp only [LPost]
          (rename News _ _ _ _ => nE'); (try simp only [List.push_toArray] at nE')
          refine' lend (_, _, _, _, _, _, _, _, _, _) (by assumption) nE' ?hn ?ho ?hI ?hk ?hp
          case hk => walk_at "my all"
          case hn => walk_at "my in"
          case ho => walk_at "my in"
          case hI => walk_at "my off"
          case hp =>
            dsimp only
            refine And.intro ?q1 ?_
            case q1 => assumption
            refine ⟨rfl, rfl, rfl, ?_, fun j hj => ?_⟩
            · show nstep O d r_k = nstep O d (iter O d g i)
              rw [← hit]
            · by_cases h9 : j < i
              · exact hne j h9
              · obtain rfl : j = i := by omega
                rw [← hit]
                omega

  case done =>
    refine all10 ?_
    intro ov ov_t rv rv_t r r_v r_n r_k gv gv_t u h tk hI9 F N
    exfalso
    refine and6 hI9 ?_
    clear hI9
    intro hi_r hov hrv hgv hit hne
    obtain ⟨j, hj, e⟩ := led_stops (by omega) hd0 hdO hgood hk
    exact hne j hj e
theorem enterN {prog : Program} {w : World} {p : Program} {loose : List Str} {mean : ExcName → Option Value} {mg mb : Str → Option Value} {dp un : Nat} {gd : Option (List Code)} {fr : List Env} {base h₀ : Heap} {L : Addr} {m : Str → Option Value} {news : List (Addr × Obj)} {env : Env} {s : Shared} {Q E : Value → Shared → Prop}
    {name qual : Str} {params : Arguments} {body : List Stmt} {scope : Scope} {dV kV doc pm cdv ct oc : Value} {an od : Option Addr} {osl : Array (Option Value)} {f : Addr} {vs : List Value} (binds : List (Str × Value))
    (S : Stage w p loose mean mg mb (AA dp un gd fr) fr base h₀) (F : Fr h₀ L s.heap m) (N : News h₀ L s.heap news) (hf : env.frame = some L) (hkf : env.scope.kind = .function)
    (ho : (hd.heap_39 w.params).lookup f = some ⟨oc, od, .func (fnOf name qual params body scope dV kV doc pm an cdv ct), osl⟩) (hcd : codeIn (hd.heap_39 w.params) cdv qual = true)
    (hroom : dp + 1 < recursionLimit) (hbind : BindsTo s (fnOf name qual params body scope dV kV doc pm an cdv ct) ⟨vs, []⟩ binds.reverse) (hloc : ∀ y ∈ binds.reverse, scope.names.lookup y.1 = some .local)
    (h : ∀ L' h₁ tk oL, Fr h₀ L' h₁ (mB (fun _ => none) binds) → News h₀ L' h₁ (news ++ [(L, oL)]) → (∀ h' m' L₂, Fr h₀ L₂ h' m' → h'.get? L = some oL → Fr h₀ L h' m) → (∀ p ∈ news, p.1 ≠ L) → (hd.heap_39 w.params).In h₀ → Top p loose mean mg mb h₀ →
      wpAny (model prog w) (AA (dp + 1 + 1) (un + 3 + 3) gd (envOf qual scope L' f cdv :: env :: fr)) (execs body (envOf qual scope L' f cdv)) (fun fl s' => Q (match fl with | .ret v => v | _ => .none) s')
        (fun e s' => wpAny (model prog w) (AA (dp + 1 + 1) (un + 3 + 3) gd (envOf qual scope L' f cdv :: env :: fr)) (leaving (envOf qual scope L' f cdv) e) (fun _ s'' => E e s'') (fun e' s'' => E e' s'') s')
        { s with heap := h₁, toks := tk })
    (hco : scope.isCoroutine = false) (hgen : scope.isGenerator = false) (hk : scope.kind = .function)
    (hcell : ∀ x ∈ scope.names, x.2 ≠ .cell) : wpAny (model prog w) (AA (dp + 1) (un + 3) gd (env :: fr)) (call (.ref f) vs) Q E s := by
  have S' := stage_push S F hf hkf
  refine wpAny_call ?_
  refine codeAny_call_def (fd := fnOf name qual params body scope dV kV doc pm an cdv ct) (body := body) (binds := binds.reverse) hroom (S'.kin _ _ ho) rfl S'.top.nolimit (codeRec_of S'.kin hcd) rfl hbind hcell hloc (fun h₁ hns hk₁ => ?_) hco hgen hk
  have e : (fun x => binds.reverse.reverse.lookup x) = mB (fun _ => none) binds := by rw [List.reverse_reverse]; exact mB_lookup binds
  rw [e] at hns
  obtain ⟨oL, es, ep, hL, hrest⟩ := F.ns
  refine h _ h₁ _ oL ⟨hns, fun b o q => hk₁ _ _ (F.keep _ _ q), ?_⟩ (fun q hq => ?_) (fun h' m' L₂ F₂ hL' => ⟨⟨oL, es, ep, hL', hrest⟩, F₂.keep, F.above⟩) (fun q hq => (N q hq).2.1) S.kin S.top
  · exact Nat.le_trans F.above (Nat.le_of_lt (Heap.lt_size hL))
  · rcases List.mem_append.mp hq with hq | hq
    · exact ⟨hk₁ _ _ (N q hq).1, Nat.ne_of_lt (Heap.lt_size (N q hq).1), (N q hq).2.2⟩
    · rw [List.mem_singleton.mp hq]
      refine ⟨hk₁ _ _ hL, Nat.ne_of_lt (Heap.lt_size hL), ?_⟩
      cases q9 : h₀.get? L with
      | none => rfl
      | some o9 => exact absurd (Heap.lt_size q9) (Nat.not_lt.mpr F.above)

theorem neared_end {h₀ : Heap} {L L' lb lw : Addr} {m m' : Str → Option Value} {s : Shared} {Q : Value → Shared → Prop} {nb nw : Nat} {ws : List Value} {i many x : Int} {t2 t' : Tok} {oL : Obj} {h' : Heap} {tk' : Nat}
    (ret : ∀ (r : Int) (t' t2 : Tok) (nb' : Nat) (h' : Heap) (tk' : Nat), 0 ≤ r → r < many → Fr h₀ L h' m → News h₀ L h' [(lb, listOf #[.int (i + 1) t2, .ref lw] nb'), (lw, listOf ws.toArray nw)] → Q (.int r t') { s with heap := h', toks := tk' })
    (back : ∀ (h' : Heap) (m' : Str → Option Value) (L₂ : Addr), Fr h₀ L₂ h' m' → h'.get? L = some oL → Fr h₀ L h' m) (hm : 0 < many) (F : Fr h₀ L' h' m')
    (N : News h₀ L' h' [(lb, listOf #[.int (i + 1) t2, .ref lw] nb), (lw, listOf ws.toArray nw), (L, oL)]) (hb1 : lb ≠ L) (hb2 : lw ≠ L) :
    Q (.int (x.fmod many) t') { s with heap := h', toks := tk' } := by
  refine ret _ _ t2 nb _ _ (Int.fmod_nonneg_of_pos _ hm) (Int.fmod_lt_of_pos _ hm) (back _ _ _ F (N (L, oL) (.tail _ (.tail _ (.head _)))).1) (fun p hp => ?_)
  rcases List.mem_cons.mp hp with rfl | hp
  · have := N _ (.head _)
    exact ⟨this.1, hb1, this.2.2⟩
  · rw [List.mem_singleton.mp hp]
    have := N _ (.tail _ (.head _))
    exact ⟨this.1, hb2, this.2.2⟩
set_option maxHeartbeats 8000000 in
theorem neared_use {prog : Program} {w : World} {p : Program} {loose : List Str} {mean : ExcName → Option Value} {mg mb : Str → Option Value} {dp un : Nat} {gd : Option (List Code)} {fr : List Env} {base h₀ : Heap} {L : Addr} {m : Str → Option Value} {env : Env} {s : Shared} {Q E : Value → Shared → Prop}
    {lb lw : Addr} {ws : List Value} {ns : List Int} {nb nw : Nat} {i many : Int} {t t1 : Tok}
    (S : Stage w p loose mean mg mb (AA dp un gd fr) fr base h₀) (F : Fr h₀ L s.heap m) (N : News h₀ L s.heap [(lb, listOf #[.int i t, .ref lw] nb), (lw, listOf ws.toArray nw)]) (hf : env.frame = some L) (hkf : env.scope.kind = .function)
    (hne : lb ≠ lw) (hw : IntsAre ws ns) (hd1 : dp + 1 + 1 ≤ 900) (hi0 : 0 ≤ i) (hi1 : i ≤ 20) (hm : 0 < many) (hm2 : many ≤ 100000) (hln : ns.length ≤ 1000)
    (ret : ∀ r t' t2 nb' h' tk', 0 ≤ r → r < many → Fr h₀ L h' m → News h₀ L h' [(lb, listOf #[.int (i + 1) t2, .ref lw] nb'), (lw, listOf ws.toArray nw)] → Q (.int r t') { s with heap := h', toks := tk' }) :
    wpAny (model prog w) (AA (dp + 1) (un + 3) gd (env :: fr)) (call (.ref 149) [.ref lb, .int many t1]) Q E s := by
  k_dflt (refine' enterN [(Str.ofString "many", .int many t1), (Str.ofString "bow", .ref lb)] ?S ?F ?N ?hf ?hkf ?k6 ?k7 ?k8 ?k9 ?kB ?_ ?c2 ?c3 ?c4 ?c5; (case S => assumption); (case F => assumption); (case N => assumption); (case hf => assumption); (case hkf => assumption); (case k6 => k_is); (case k7 => k_is); (case k8 => (simp only [recursionLimit]; omega)); (case k9 => exact BindsTo.of_eq rfl); (case c5 => decide); (case kB => exact locs rfl); (case c2 => exact rfl); (case c3 => exact rfl); (case c4 => exact rfl); k_whole; intro L' h' tk' oL F' N' back hoff X' T'; (try dsimp only); (try k_fold))
  have hlw := hw.length
  clear N F
  obtain ⟨hb1, hb2⟩ : lb ≠ L ∧ lw ≠ L := ⟨hoff _ (List.mem_cons_self ..), hoff _ (List.mem_cons_of_mem _ (List.mem_cons_self ..))⟩
  clear hoff
  simp only [List.cons_append, List.nil_append] at N'
  have hall : ∀ p ∈ [(lw, listOf ws.toArray nw), (L, oL)], p.1 ≠ lb := fun p hp => by
    rcases List.mem_cons.mp hp with rfl | hp
    · exact fun e => hne e.symm
    · rw [List.mem_singleton.mp hp]
      exact fun e => hb1 e.symm
  k_steps
  all_goals ((try k_unfold); (try dsimp only); (rename News _ _ _ _ => nE); (try simp only [List.nil_append, List.cons_append] at nE))
  all_goals exact neared_end ret back hm (by assumption) nE hb1 hb2
theorem useB {prog : Program} {w : World} {p : Program} {loose : List Str} {mean : ExcName → Option Value} {mg mb : Str → Option Value} {dp un : Nat} {gd : Option (List Code)} {fr : List Env} {base h₀ : Heap} {s : Shared} {Q E : Value → Shared → Prop} {L : Addr} {m : Str → Option Value} {news : List (Addr × Obj)} {env : Env}
    {k : Nat} {f : Addr} {vs : List Value} {out : Bool} (S : Stage w p loose mean mg mb (AA dp un gd fr) fr base h₀) (F : Fr h₀ L s.heap m) (N : News h₀ L s.heap news) (hf : env.frame = some L) (hk : env.scope.kind = .function)
    (C : RetB prog w p loose mean mg mb k f vs s out) (hd1 : dp + 1 + k ≤ 900) (hu : un + 3 + 8 * k ≤ 9000)
    (ret : ∀ h' tk', Fr h₀ L h' m → News h₀ L h' news → Q (.bool out) { s with heap := h', toks := tk' }) :
    wpAny (model prog w) (AA (dp + 1) (un + 3) gd (env :: fr)) (call (.ref f) vs) Q E s := by
  refine C _ _ _ _ _ _ _ (stage_push S F hf hk) hd1 hu fun h' tk' hk' => ?_
  exact ret h' tk' (F.keeps hk') fun p hp => ⟨hk' _ _ (N p hp).1, (N p hp).2⟩
theorem recip_retO {prog : Program} {w : World} {p : Program} {loose : List Str} {mean : ExcName → Option Value} {mg mb : Str → Option Value} {s : Shared} {b m : Nat} {wi : Int} (h : RecipAt prog w p loose mean mg mb b wi m) {lb : Addr} {vb : List Value} {d O X : Nat} {ni : Int} {t t1 : Tok} (hOe : b ^ ni.toNat = O) (h1 : s.heap.IsList lb vb.toArray) (h2 : IntsAre vb (dig b d)) (hX : O / d = X) (h3 : 0 < d) (h4 : d < 2 ^ 28) (h5 : 0 ≤ ni) (h6 : ni ≤ 20) (h7 : O < 2 ^ 28) (h8 : ni + 1 ≤ m) :
    RetL prog w p loose mean mg mb (6 + m) 135 [.ref lb, .int ni t1, .int wi t, .ref 142] s (dig b X) := by
  subst hOe hX
  exact h.use h1 h2 h3 h4 h5 h6 h7 (by omega)
theorem freshS {α : Type} {M : Model} {A : Around} {x : Sem α} {Q : α → Shared → Prop} {E : Value → Shared → Prop} {s : Shared} (h : ∀ tk, wpAny M A x Q E { s with toks := tk }) : wpAny M A x Q E s := h s.toks
theorem recip_of {w : World} {p : Program} {loose : List Str} {mean : ExcName → Option Value} {mg mb : Str → Option Value} {A : Around} {fr : List Env} {base h : Heap} {b : Nat} {wi : Int} (_ : Stage w p loose mean mg mb A fr base h) (hb : 2 ≤ b) (hB : (2 : Int) ^ wi.toNat = b) (hw : 2 ≤ wi) (hw2 : wi ≤ 8) :
    RecipAt PySem.Challenge.rw_sj0073_01.row.prog w p loose mean mg mb b wi 6 := recip_all hb hB hw hw2 6
theorem drop3 {h₀ h : Heap} {L : Addr} {a b c : Addr × Obj} (N : News h₀ L h [a, b, c]) : News h₀ L h [a, b] := fun p hp => N p (by
  rcases List.mem_cons.mp hp with rfl | hp
  · exact .head _
  · rw [List.mem_singleton.mp hp]; exact .tail _ (.head _))
theorem len_map4 {f : Int → Int} {xs : List Int} : (List.map f (List.take 4 xs)).length ≤ 1000 := by
  rw [List.length_map, List.length_take]; omega
local macro_rules | `(tactic| walk_at "call ref") => `(tactic| (refine Stop.out ?_))
theorem my_slice {prog : Program} {w : World} {A : Around} {E : Value → Shared → Prop} {s : Shared} {h₀ : Heap} {L l : Addr} {m : Str → Option Value} {news : List (Addr × Obj)} {value slice : PySem.Expr} {vs : List Value} {ns out : List Int} {x : Int} {t : Tok} {Q : Value → Shared → Prop}
    (F : Fr h₀ L s.heap m) (N : News h₀ L s.heap news) (hl : s.heap.IsList l vs.toArray) (hi : IntsAre vs ns) (hx : 0 ≤ x) (hout : ns.drop x.toNat = out)
    (h : ∀ D ws h', Fr h₀ L h' m → News h₀ L h' ((D, listOf (List.toArray ws) 0) :: news) → (∀ p ∈ news, p.1 < D) → IntsAre ws out → Q (.ref D) { s with heap := h' })
    (hs : subscripted slice false (.ref l) (.ref s.heap.objs.size) = operate [.ref s.heap.objs.size, .ref l] (getItem (.ref l) (.ref s.heap.objs.size))) (hz : vs.toArray.size ≤ sizeLine) :
    wpAny (model prog w) A (subscriptTail value slice (.ref l) (.ref s.heap.objs.size)) Q E { s with heap := s.heap.push { cls := .type "slice", data := .fields #[.int x t, .none, .none] } } := by
  refine tail_any (Heap.IsList.typeIs (s := { s with heap := s.heap.push { cls := .type "slice", data := .fields #[.int x t, .none, .none] } }) (hl.push _)) slot_list_getitem.lookup
    (wpAny_getItem_list_slice (hl.push _) (Heap.IsSliceOf.new ..) (IsPart.int _ _) IsPart.none .none (by simp) ?_ hz) hs
  have N1 := News.push (F.push { cls := .type "slice", data := .fields #[.int x t, .none, .none] }) (N.grown fun _ _ e => Heap.get?_push_of_some _ e) { cls := .type "list", data := .seq (slicePick vs.toArray (some x) none none) }
  rw [Heap.size_push] at N1
  show Q (.ref (s.heap.push _).objs.size) _
  rw [Heap.size_push]
  refine h _ (slicePick vs.toArray (some x) none none).toList _ ((F.push _).push _) ?_ (fun p hp => Nat.lt_succ_of_lt (Heap.lt_size (N p hp).1)) (hout ▸ kmk_from hi hx)
  rw [Array.toArray_toList]
  exact N1
local macro_rules | `(tactic| walk_at "SLK") => `(tactic| (refine Stop.out ?_))
local macro_rules | `(tactic| walk_at "call builtin:max") => `(tactic| (k_here; k_dflt (refine' max_pick rfl (by k_asm) (by k_asm) ?_; k_whole); intro v9 t9 h9 tk9 hv1 hv2 hv3 F9 N9; (try k_sweep)))
local macro_rules | `(tactic| walk_at "call ref") => `(tactic| (k_here; k_dflt (refine' neared_use (by assumption) (by k_asm) (by k_asm) rfl rfl (by assumption) (by assumption) (by decide) (by omega) (by omega) (by omega) (by omega) len_map4 ?_; k_whole); intro r9 t9 t8 nb9 h9 tk9 hr0 hr1 F9 N9; (try k_sweep); (refine Stop.out ?_)))
inductive Mark10 : Prop | mk
theorem stop_mark10 {P : Prop} (_ : Mark10) (h : Stop P) : P := h
/-- the names anew, those that are still read alone -/
theorem my_cut {σ α : Type} {M : Model} {A : Around} {x : Sem α} {Q : α → Shared → Prop} {E : Value → Shared → Prop} {s : Shared} {h₀ : Heap} {L : Addr} {m₀ : Str → Option Value} {news : List (Addr × Obj)} (ps : σ → List (Str × Value)) (P : σ → Prop) (c₀ : σ)
    (F : Fr h₀ L s.heap m₀) (N : News h₀ L s.heap news) (hk : ∀ p ∈ ps c₀, m₀ p.1 = some p.2) (hp : P c₀)
    (go : ∀ c u, P c → Fr h₀ L s.heap (mB u (ps c)) → News h₀ L s.heap [] → wpAny M A x Q E s) : wpAny M A x Q E s := by
  refine go c₀ m₀ hp ?_ fun p hp => nomatch hp
  rw [mB_eq hk]
  exact F
local macro_rules | `(tactic| walk_at "execs cons") => `(tactic| (refine stop_mark10 (by assumption) ?_))
theorem stage_as {w : World} {p : Program} {loose : List Str} {mean : ExcName → Option Value} {mg mb : Str → Option Value} {A : Around} {fr : List Env} {base h₀ h : Heap} {L : Addr} {m : Str → Option Value} (_ : Fr h₀ L h m) (S : Stage w p loose mean mg mb A fr base h₀) : Stage w p loose mean mg mb A fr base h₀ := S
theorem lawA1 {O d X Y : Nat} (hO : O ≤ 4096) (hd0 : 0 < d) (hd4 : 4 * d ≤ O) (hX : X ≤ O) (hX0 : 4 ≤ X) (hY : Y ≤ O) (hY0 : d ≤ Y) :
    d < 2 ^ 64 ∧ d < 2 ^ 28 ∧ O < 2 ^ 28 ∧ X < 2 ^ 64 ∧ X < 2 ^ 28 ∧ 0 < X ∧ Y < 2 ^ 64 ∧ Y < 2 ^ 28 ∧ 0 < Y := ⟨by omega, by omega, by omega, by omega, by omega, by omega, by omega, by omega, by omega⟩
theorem lawA2 {r r' : Int} (h0 : 0 ≤ r) (h1 : r < 2) (h2 : 0 ≤ r') (h3 : r' < 6 - (3 + r)) :
    0 ≤ 2 + r' ∧ 2 + r' ≤ 20 ∧ 2 + r' ≤ 10 ∧ 0 ≤ 2 + r' + 1 ∧ 2 + r' + 1 ≤ 20 ∧ 2 + r' + 1 ≤ ((6 : Nat) : Int) ∧ 2 + r' + 1 + 1 ≤ ((6 : Nat) : Int) ∧ 2 ≤ 3 + r ∧ 1 ≤ 3 + r ∧ 3 + r ≤ 8 := ⟨by omega, by omega, by omega, by omega, by omega, by omega, by omega, by omega, by omega, by omega⟩
set_option maxHeartbeats 8000000 in
theorem lawT : PySem.Challenge.rw_sj0073_01.Holds := hd (by
  k_go0
  (try k_fold)
  (have S := Stage.mk (mg := _) (mb := _) (fr := []) (A := AA (1 + claimMargin) 4 (some []) []) (by assumption) (by assumption) (by assumption))
  (rename Fr _ _ _ _ => F0)
  replace S := stage_as F0 S
  refine hideQ ?_
  intro QT hQT
  refine freshS ?_
  intro tkS
  (try dsimp only)
  k_steps
  refine Stop.mk ?_
  (try dsimp only at *)
  (rename News _ _ _ _ => N1); (have N2 := drop3 N1); (clear N1)
  (rename (_ < _ ∧ _ < _) => hl1); (have hne := Nat.ne_of_gt hl1.1)
  (rename IntsAre _ (List.map _ _) => hY); (have hlen := hY.length)
  k_here
  k_dflt (refine' neared_use S (by assumption) N2 rfl rfl hne hY (by decide) (by omega) (by omega) (by omega) (by omega) len_map4 ?_; k_whole)
  intro r9 t9 t8 nb9 h9 tk9 hr0 hr1 F9 N9
  (try k_sweep)
  (rename (0 ≤ _) => r0); (rename (_ < (2 : Int)) => r1)
  k_steps
  refine Stop.mk ?_
  (try dsimp only at *)
  rename_i r9' t9' t8' nb9' h9' tk9' hr0' hr1' F9' N9'
  refine Exists.elim (law_nums r0 r1 hr0' hr1') ?_
  intro bb hX9
  refine Exists.elim hX9 ?_
  clear hX9
  intro O hX9
  refine and8 hX9 ?_
  clear hX9
  intro hb2 hb16 hB hOe hO4 hOe1 hO1 h2O
  have hm0 : 0 < Int.fdiv ((2 : Int) ^ ((3 + r9) * (2 + r9')).toNat) 4 := by
    rw [h2O, Int.fdiv_eq_ediv_of_nonneg _ (by omega)]; omega
  have hm1 : Int.fdiv ((2 : Int) ^ ((3 + r9) * (2 + r9')).toNat) 4 ≤ ((O / 4 : Nat) : Int) := by
    rw [h2O, Int.fdiv_eq_ediv_of_nonneg _ (by omega)]; omega
  have hwn0 : 0 ≤ (3 + r9) * (2 + r9') := Int.mul_nonneg (by omega) (by omega)
  have hwn1 : (3 + r9) * (2 + r9') ≤ 4 * 5 := Int.mul_le_mul (by omega) (by omega) (by omega) (by omega)
  have hO9 : O ≤ 4096 := by omega
  (try k_fold)
  k_steps
  refine Stop.mk ?_
  (try dsimp only at *)
  rename_i r t9'' t8'' nb9'' h9'' tk9'' hd0 hd1 F9'' N9''
  refine Exists.elim (show ∃ d : Nat, 1 + r = (d : Int) from ⟨(1 + r).toNat, by omega⟩) ?_
  intro d hD
  have hdp : 0 < d := by omega
  have hd4 : 4 * d ≤ O := by omega
  have hR : Int.fdiv ((2 : Int) ^ ((3 + r9) * (2 + r9')).toNat) (1 + r) = ((O / d : Nat) : Int) := by
    rw [h2O, hD, Int.fdiv_eq_ediv_of_nonneg _ (by omega), Int.natCast_ediv]
  have hR8 : Int.fdiv (Int.fdiv ((2 : Int) ^ ((3 + r9) * (2 + r9')).toNat) (1 + r)) 8 = ((O / d / 8 : Nat) : Int) := by
    rw [hR, Int.fdiv_eq_ediv_of_nonneg _ (by omega)]; omega
  have hRO : O / d ≤ O := Nat.div_le_self _ _
  have hR4 : 4 ≤ O / d := (Nat.le_div_iff_mul_le hdp).mpr hd4
  (try k_fold)
  k_steps
  refine Stop.mk ?_
  (try dsimp only at *)
  rename_i r4 t4 t4' nb4 h4 tk4 hr40 hr41 F4 N4
  (rename ((2 : Int) ≤ _) => hv1)
  refine Exists.elim (guess_of hv1 hr40 hr41 hR) ?_
  intro g hX9
  refine and3 hX9 ?_
  clear hX9
  intro hG hg2 hg3
  have hgood : Good O d g := good_start hg2 hg3
  have hyk := yk_all hO4 hdp hd4
  clear hg2
  have hq1 : d ≤ O / (O / d) := div_ge hdp (by omega)
  have hq2 : O / (O / d) ≤ O := Nat.div_le_self _ _
  have hq3 : O / (O / (O / d)) = O / d := div3 hdp (by omega)
  have hdr := dig_drop1 (O := O) (d := d) hb2 hdp
  have hdl : O * bb / d ≤ O * bb := Nat.div_le_self _ _
  have hdl2 := dig_len_64 hb2 (show O * bb / d < 2 ^ 64 by omega)
  refine and9 (lawA1 (by omega) hdp hd4 hRO hR4 hq2 hq1) ?_
  intro z1 z2 z3 z4 z5 z6 z7 z8 z9
  refine and10 (lawA2 r0 r1 hr0' hr1') ?_
  intro y1 y2 y3 y4 y5 y6 y7 y8 y9 y10
  have z10 : O * bb < 2 ^ 28 := Nat.lt_of_le_of_lt hO1 (by decide)
  have z11 : 0 ≤ 1 + r := by rw [hD]; exact Int.natCast_nonneg d
  (try k_fold)
  k_steps
  refine Stop.mk ?_
  (try dsimp only at *)
  k_here
  k_dflt (refine' useB S ?F ?N ?hf ?hk ?C ?hd ?hu ?_; (case F => k_asm); (case N => k_asm); (case hf => exact rfl); (case hk => exact rfl); (case C => exact led_ret hb2 hOe hD hG (by walk_at "my n") (by walk_at "my n") (by walk_at "my n") hdp hd4 hgood hyk hB (by walk_at "my n") (by walk_at "my n")); (case hd => decide); (case hu => decide); k_whole)
  intro hB9 tkB9 FB9 NB9
  (try k_sweep)
  clear hgood hyk hG
  have hmk : Mark10 := .mk
  k_steps
  refine Stop.mk ?_
  clear hmk
  (try dsimp only at *)
  refine Exists.elim (⟨_, rfl⟩ : ∃ w9, 3 + r9 = w9) ?_
  intro w9 hw9
  refine Exists.elim (⟨_, rfl⟩ : ∃ n9, 2 + r9' = n9) ?_
  intro n9 hn9
  rw [hw9] at hB y8 y9 y10
  rw [hn9] at hOe hOe1 y1 y2 y3 y4 y5 y6 y7
  have H := recip_of S hb2 hB y8 y10
  refine' my_cut (σ := Int × Tok × Int × Tok × Int × Tok × Int × Tok) (fun (wv, wt, nv, nt, bv, bt, Rv, Rt) => [(Str.ofString "w", .int wv wt), (Str.ofString "n", .int nv nt), (Str.ofString "b", .int bv bt), (Str.ofString "right", .int Rv Rt)]) (fun (wv, _, nv, _, bv, _, Rv, _) => wv = w9 ∧ nv = n9 ∧ bv = (d : Int) ∧ Rv = ((O / d : Nat) : Int)) (_, _, _, _, _, _, _, _) (by assumption) (by assumption) ?hk ?hp ?go
  case hk => walk_at "my all"
  case hp => exact ⟨hw9, hn9, hD, hR⟩
  case go =>
    refine all8 ?_
    intro wv wt nv nt bv bt Rv Rt u9 hP9 F9 N9
    refine and4 hP9 ?_
    clear hP9
    intro e1 e2 e3 e4
    dsimp only at F9
    subst e1 e2 e3 e4
    clear hD hR hR8 hm0 hm1 hwn0 hwn1 hw9 hn9
    (try k_sweep)
    (try k_fold)
    k_steps
    refine Stop.mk ?_
    (try dsimp only at *)
    k_here
    k_dflt (refine' useL S ?F ?N ?hf ?hk ?C ?hd ?hu ?_; (case F => k_asm); (case N => k_asm); (case hf => exact rfl); (case hk => exact rfl); (case C => exact limbs_ret hb2 rfl (by walk_at "my n") hB (by walk_at "my n") (by walk_at "my n")); (case hd => decide); (case hu => decide); k_whole)
    intro l21 u21 n21 h21 tk21 F21 N21 q21 I21
    (try k_sweep)
    k_steps
    refine Stop.mk ?_
    (try dsimp only at *)
    k_here
    k_dflt (refine' useL S ?F ?N ?hf ?hk ?C ?hd ?hu ?_; (case F => k_asm); (case N => k_asm); (case hf => exact rfl); (case hk => exact rfl); (case C => exact recip_retO H hOe (by is_list) I21 rfl hdp (by walk_at "my n") (by walk_at "my n") (by walk_at "my n") (by walk_at "my n") (by walk_at "my n")); (case hd => decide); (case hu => decide); k_whole)
    intro l22 u22 n22 h22 tk22 F22 N22 q22 I22
    (try k_sweep)
    k_steps
    refine Stop.mk ?_
    (try dsimp only at *)
    k_here
    k_dflt (refine' useL S ?F ?N ?hf ?hk ?C ?hd ?hu ?_; (case F => k_asm); (case N => k_asm); (case hf => exact rfl); (case hk => exact rfl); (case C => exact limbs_ret hb2 rfl (by walk_at "my n") hB (by walk_at "my n") (by walk_at "my n")); (case hd => decide); (case hu => decide); k_whole)
    intro l23 u23 n23 h23 tk23 F23 N23 q23 I23
    (try k_sweep)
    k_steps
    refine Stop.mk ?_
    (try dsimp only at *)
    k_here
    k_dflt (refine' useL S ?F ?N ?hf ?hk ?C ?hd ?hu ?_; (case F => k_asm); (case N => k_asm); (case hf => exact rfl); (case hk => exact rfl); (case C => exact limbs_ret hb2 rfl (by walk_at "my n") hB (by walk_at "my n") (by walk_at "my n")); (case hd => decide); (case hu => decide); k_whole)
    intro l24 u24 n24 h24 tk24 F24 N24 q24 I24
    (try k_sweep)
    k_steps
    refine Stop.mk ?_
    (try dsimp only at *)
    k_here
    k_dflt (refine' useL S ?F ?N ?hf ?hk ?C ?hd ?hu ?_; (case F => k_asm); (case N => k_asm); (case hf => exact rfl); (case hk => exact rfl); (case C => exact recip_retO H hOe1 (by is_list) I24 rfl hdp (by walk_at "my n") (by walk_at "my n") (by walk_at "my n") (by walk_at "my n") (by walk_at "my n")); (case hd => decide); (case hu => decide); k_whole)
    intro l25 u25 n25 h25 tk25 F25 N25 q25 I25
    (try k_sweep)
    iterate 5 (first | (k_unfold; (try dsimp only)) | walk1 | (dsimp only; walk1))
    k_here
    k_dflt (refine' my_slice ?F ?N ?l I25 (by decide) (show List.drop (Int.toNat 1) _ = _ from hdr) ?_ ?s ?z; (case F => k_asm); (case N => k_asm); (case l => exact News.isList (by k_asm) (by k_mem)); (case s => with_unfolding_all rfl); (case z => exact kmk_sz I25 (by rw [sizeLine_eq]; omega)); k_whole)
    intro l9 u9 h9 F9 N9 q9 I9
    (try k_sweep)
    k_steps
    refine Stop.mk ?_
    (try dsimp only at *)
    k_here
    k_dflt (refine' useL S ?F ?N ?hf ?hk ?C ?hd ?hu ?_; (case F => k_asm); (case N => k_asm); (case hf => exact rfl); (case hk => exact rfl); (case C => exact recip_retO H hOe (by is_list) I22 rfl (by walk_at "my n") (by walk_at "my n") (by walk_at "my n") (by walk_at "my n") (by walk_at "my n") (by walk_at "my n")); (case hd => decide); (case hu => decide); k_whole)
    intro l26 u26 n26 h26 tk26 F26 N26 q26 I26
    (try k_sweep)
    k_steps
    refine Stop.mk ?_
    (try dsimp only at *)
    k_here
    k_dflt (refine' useI S ?F ?N ?hf ?hk ?C ?hd ?hu ?_; (case F => k_asm); (case N => k_asm); (case hf => exact rfl); (case hk => exact rfl); (case C => exact whole_ret hb2 (by is_list) I26 (by walk_at "my n") hB (by walk_at "my n") (by walk_at "my n")); (case hd => decide); (case hu => decide); k_whole)
    intro t27 h27 tk27 F27 N27
    (try k_sweep)
    k_steps
    refine Stop.mk ?_
    (try dsimp only at *)
    k_here
    k_dflt (refine' useL S ?F ?N ?hf ?hk ?C ?hd ?hu ?_; (case F => k_asm); (case N => k_asm); (case hf => exact rfl); (case hk => exact rfl); (case C => exact recip_retO H hOe (by is_list) I26 hq3 (by walk_at "my n") (by walk_at "my n") (by walk_at "my n") (by walk_at "my n") (by walk_at "my n") (by walk_at "my n")); (case hd => decide); (case hu => decide); k_whole)
    intro l28 u28 n28 h28 tk28 F28 N28 q28 I28
    (try k_sweep)
    k_steps
    refine hQT _ _ ?_
    (try dsimp only)
    k_steps
    done)
end Mine
theorem PySem.Challenge.cw_sj0073_01_holds : PySem.Challenge.rw_sj0073_01.Holds :=
  Mine.lawT
