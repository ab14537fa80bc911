import PyProof.Rows.All
import Wide.All
import OpenK.AllK
import Wide.FinOn
import PySem.Challenge.RW_ok0134_01

section
open PySem PySem.W PyProof.Rows
set_option Elab.async false
set_option maxRecDepth 100000
set_option maxHeartbeats 8000000
namespace Mine
open_top hd for PySem.Challenge.rw_ok0134_01
end Mine
end

section
open PySem PySem.W PySem.Calls PyProof.Rows PySem.Spec
set_option Elab.async false
set_option maxRecDepth 100000
namespace Mine
theorem dp {a x d k r : Nat} (h : a + k < r) (e : x + d ≤ k := by decide) : a + x + d < r := by omega
theorem dp1 {a d k r : Nat} (h : a + k < r) (e : d ≤ k := by decide) : a + d < r := by omega
theorem ms {n j k : Int} (h : j < k) (g : k ≤ n) : (n - k).toNat < (n - j).toNat := by omega
theorem sc {j k : Int} (h : j ≤ k) : j ≤ k + 1 := by omega
theorem dp0 {a k r : Nat} (h : a + k < r) : a < r := by omega

/-- where a call may stand: the caller's frames lie over g, which is the heap h less what is hidden -/
structure At (K : Frag) (p : Program) (loose : List Str) (mean : ExcName → Option Value) (mg mb : Str → Option Value) (A : Around) (base : Heap) (outer : List Env) (g h : Heap) : Prop where
  B : Below A base outer g
  X : K.In g
  T : Top p loose mean mg mb g
  sub : g.StaysIn h
  sz : g.objs.size ≤ h.objs.size

section
variable {prog : Program} {w : World} {A : Around} {s : Shared} {base g : Heap} {outer : List Env} {K : Frag} {p : Program} {loose : List Str} {mean : ExcName → Option Value} {mg mb : Str → Option Value}
  {R : Result → Shared → Prop} {name qual : Str} {params : Arguments} {body : List Stmt} {scope : Scope} {dV kV doc pm cdv ct oc : Value} {an od : Option Addr} {osl : Array (Option Value)} {f : Addr} {args : Args} {binds : List (Str × Value)}

/-- a frame's names, written out -/
noncomputable def mapOf : List (Str × Value) → Str → Option Value
  | [] => fun _ => none
  | (x, v) :: r => fun y => if y = x then some v else mapOf r y
theorem mapOf_eq : ∀ l : List (Str × Value), (fun y => List.lookup y l) = mapOf l
  | [] => rfl
  | (x, v) :: r => by
    funext y
    have ih := congrFun (mapOf_eq r) y
    simp only [mapOf, List.lookup]
    by_cases h : y = x
    · subst h; simp
    · rw [if_neg h, ← ih]
      have : (y == x) = false := by simpa using h
      rw [this]

theorem enterAt {hid : List (Addr × Obj)} (Z : At K p loose mean mg mb A base outer g s.heap) (N : ∀ q ∈ hid, s.heap.get? q.1 = some q.2 ∧ g.get? q.1 = none)
    (ho : K.lookup f = some ⟨oc, od, .func (fnOf name qual params body scope dV kV doc pm an cdv ct), osl⟩) (hcd : codeIn K cdv qual = true) (hroom : A.depth < recursionLimit)
    (hbind : BindsTo s (fnOf name qual params body scope dV kV doc pm an cdv ct) args binds) (hloc : ∀ y ∈ binds, scope.names.lookup y.1 = some .local)
    (h : ∀ L' h₁, Fr g L' h₁ (mapOf binds.reverse) → News g L' h₁ hid → (∀ q ∈ hid, q.1 < L') →
      wpAny (model prog w) (A.deeper (envOf qual scope L' f cdv)) (execs body (envOf qual scope L' f cdv))
        (fun fl s' => R (.ok (.ret (match fl with | .ret v => v | _ => .none))) s')
        (fun e s' => wpAny (model prog w) (A.deeper (envOf qual scope L' f cdv)) (leaving (envOf qual scope L' f cdv) e) (fun _ s'' => R (.error e) s'') (fun e' s'' => R (.error e') s'') s')
        { s with heap := h₁, toks := s.toks + binds.length })
    (hcell : ∀ x ∈ scope.names, x.2 ≠ .cell) (hco : scope.isCoroutine = false := by rfl) (hgen : scope.isGenerator = false := by rfl) (hk : scope.kind = .function := by rfl) :
    codeAny (model prog w) A (.call (.ref f) args) R s := by
  have X := Z.X.keeps Z.sub
  refine codeAny_call_def (fd := fnOf name qual params body scope dV kV doc pm an cdv ct) (body := body) (binds := binds) hroom (X _ _ ho) rfl (Z.T.nolimit.keeps Z.sub) (codeRec_of X hcd) rfl hbind hcell hloc (fun h₁ hns hk₁ => ?_) hco hgen hk
  rw [mapOf_eq] at hns
  exact h _ h₁ ⟨hns, fun b o e => hk₁ b o (Z.sub b o e), Z.sz⟩ (fun q hq => ⟨hk₁ _ _ (N q hq).1, Nat.ne_of_lt (Heap.lt_size (N q hq).1), (N q hq).2⟩) (fun q hq => Heap.lt_size (N q hq).1)
end

section
variable {A : Around} {base g h : Heap} {outer : List Env} {K : Frag} {p : Program} {loose : List Str} {mean : ExcName → Option Value} {mg mb : Str → Option Value} {L : Addr} {m : Str → Option Value} {cn : Str} {cs : Scope} {a : Addr} {ccd : Value}

/-- a caller's place, nothing hidden -/
theorem At.ofFr (B : Below A base outer g) (F : Fr g L h m) (X : K.In g) (T : Top p loose mean mg mb g) (hk : cs.kind = .function := by rfl) :
    At K p loose mean mg mb (A.deeper (envOf cn cs L a ccd)) base (envOf cn cs L a ccd :: outer) h h :=
  ⟨B.push F hk, X.keeps F.keep, T.keeps F.keep, fun _ _ e => e, Nat.le_refl _⟩

theorem At.hides {bx : Addr} {o : Obj} {news : List (Addr × Obj)} (B : Below A base outer g) (F : Fr g L h m) (N : News g L h news) (hm : (bx, o) ∈ news) (X : K.In g) (T : Top p loose mean mg mb g) (hk : cs.kind = .function := by rfl) :
    At K p loose mean mg mb (A.deeper (envOf cn cs L a ccd)) base (envOf cn cs L a ccd :: outer) (h.hide bx) h := by
  have hb := N _ hm
  have st : g.StaysIn (h.hide bx) := fun b o' e => by
    rw [Heap.hide_ne h (fun q => by rw [q] at e; rw [hb.2.2] at e; cases e)]
    exact F.keep b o' e
  have B₁ := B.push (name := cn) (scope := cs) (a := a) (cd := ccd) F hk
  refine ⟨⟨B₁.stack, fun b o' e => st b o' (B.stays b o' e), ?_⟩, X.keeps st, T.keeps st, fun b o' e => Heap.of_hide e, Nat.le_of_eq (Heap.hide_size h bx)⟩
  refine funFrames_hideAll (as := [bx]) B₁.frames fun env he b hb' hf => ?_
  obtain rfl : b = bx := List.mem_singleton.mp hb'
  rcases List.mem_cons.mp he with rfl | he
  · exact hb.2.1 (Option.some.inj hf).symm
  · obtain ⟨L₁, o₁, hf₁, ho₁⟩ := funFrames_in B.frames env he
    rw [hf₁] at hf
    cases hf
    rw [hb.2.2] at ho₁; cases ho₁
end

/-- a pure def's contract: the heap stays; what comes back -/
def Pure (prog : Program) (w : World) (K : Frag) (p : Program) (loose : List Str) (mean : ExcName → Option Value) (mg mb : Str → Option Value) (f : Addr) (d u : Nat) (vs : List Value)
    (Ok : Heap → Value → Heap → Prop) (Er : Addr → Prop) : Prop :=
  ∀ (A : Around) (base : Heap) (outer : List Env) (s : Shared) (Q E : Value → Shared → Prop), At K p loose mean mg mb A base outer s.heap s.heap → A.handled = none → A.depth + d < recursionLimit → A.units + u < cLine →
    (∀ r h' tk', s.heap.StaysIn h' → Ok s.heap r h' → Q r { s with heap := h', toks := tk' }) →
    (∀ C e h' tk', Er C → RaisedSN base s.heap outer e (.ref C) [] h' → s.heap.UpToSlots h' → E (.ref e) { s with heap := h', toks := tk' }) →
    wpAny (model prog w) A (call (.ref f) vs) Q E s

/-- a call, from within a def's frame -/
theorem Pure.use {prog : Program} {w : World} {K : Frag} {p : Program} {loose : List Str} {mean : ExcName → Option Value} {mg mb : Str → Option Value} {f : Addr} {d u : Nat} {vs : List Value}
    {Ok : Heap → Value → Heap → Prop} {Er : Addr → Prop} (C : Pure prog w K p loose mean mg mb f d u vs Ok Er)
    {A : Around} {base g : Heap} {outer : List Env} {L : Addr} {m : Str → Option Value} {cn : Str} {cs : Scope} {a : Addr} {ccd : Value} {news : List (Addr × Obj)} {s : Shared} {Q E : Value → Shared → Prop}
    (B : Below A base outer g) (F : Fr g L s.heap m) (N : News g L s.heap news) (X : K.In g) (T : Top p loose mean mg mb g) (hk : cs.kind = .function)
    (hh : A.handled = none) (hd : A.depth + 1 + d < recursionLimit) (hu : A.units + 3 + u < cLine)
    (ok : ∀ r h' tk', Fr g L h' m → News g L h' news → s.heap.StaysIn h' → Ok s.heap r h' → Q r { s with heap := h', toks := tk' })
    (er : ∀ C e h' tk', Er C → RaisedSN base s.heap (envOf cn cs L a ccd :: outer) e (.ref C) [] h' → s.heap.UpToSlots h' → E (.ref e) { s with heap := h', toks := tk' }) :
    wpAny (model prog w) (A.deeper (envOf cn cs L a ccd)) (call (.ref f) vs) Q E s :=
  C _ base _ s Q E (At.ofFr B F X T hk) hh hd hu
    (fun r h' tk' st hok => ok r h' tk' ⟨F.ns.keeps st, fun b o e => st b o (F.keep b o e), F.above⟩ (fun q hq => ⟨st _ _ (N q hq).1, (N q hq).2⟩) st hok) er

end Mine
end

section
open PySem PySem.W PySem.Calls PyProof.Rows PySem.Spec
set_option Elab.async false
set_option maxRecDepth 100000
namespace Mine

/-- the octet at a place -/
@[irreducible] noncomputable def O (b : Array UInt8) (i : Int) : Int := ((b.toList.getD i.toNat 0).toNat : Int)
theorem O_lo (b : Array UInt8) (i : Int) : 0 ≤ O b i := by unfold O; omega
theorem O_hi (b : Array UInt8) (i : Int) : O b i < 256 := by
  unfold O
  have := (b.toList.getD i.toNat 0).toNat_lt
  omega

section
variable {prog : Program} {w : World} {A : Around} {E : Value → Shared → Prop} {s : Shared} {b : Array UInt8} {t ui : Tok} {i : Int} {value slice : Expr}
theorem item_O {Q : Value → Shared → Prop} (hfit : b.size ≤ 1099511627776) (h0 : 0 ≤ i) (h1 : i < (b.size : Int))
    (h : ∀ t' k, 0 ≤ O b i → O b i < 256 → Q (.int (O b i) t') { s with toks := k })
    (hs : subscripted slice false (.bytes b t) (.int i ui) = operate [.bytes b t, .int i ui] (getItem (.bytes b t) (.int i ui)) := by with_unfolding_all rfl)
    (ht : ∀ r, letTemporaryGo value (.bytes b t) r = pure () := by intro _; with_unfolding_all rfl) : wpAny (model prog w) A (subscriptTail value slice (.bytes b t) (.int i ui)) Q E s := by
  have e : b.toList.toArray = b := Array.toArray_toList
  have g : wpAny (model prog w) A (getItem (.bytes b.toList.toArray t) (.int i ui)) Q E s := by
    refine getItem_bytes (l := b.toList) (by simpa using hfit) h0 (by simpa using h1) ?_
    have := h s.toks (s.toks + 1) (O_lo b i) (O_hi b i)
    unfold O at this
    exact this
  rw [e] at g
  exact tail_of_ItemOn ⟨"bytes", _, FB.slot_bytes_getitem.lookup, typeIs_bytes _ _ _, g⟩ hs ht
end

section
variable {prog : Program} {w : World} {A : Around} {E : Value → Shared → Prop} {Q : Flow → Shared → Prop} {s : Shared} {env : Env} {h₀ : Heap} {L : Addr} {α : Type}

/-- a turn of a while whose whole state is told by a datum -/
def TurnEnd (h₀ : Heap) (L : Addr) (s : Shared) (M : α → Str → Option Value) (D : α → List (Addr × Obj)) (P : α → Prop) (μ : α → Nat) (x : α) (Q : Flow → Shared → Prop) (f : Flow) (s₃ : Shared) : Prop :=
  match f with
  | .ret v => Q (.ret v) s₃
  | .brk => Q .next s₃
  | _ => ∃ x' h' tk', s₃ = { s with heap := h', toks := tk' } ∧ Fr h₀ L h' (M x') ∧ News h₀ L h' (D x') ∧ P x' ∧ μ x' < μ x

theorem TurnEnd.intro {M : α → Str → Option Value} {D : α → List (Addr × Obj)} {P : α → Prop} {μ : α → Nat} {x : α} {h' : Heap} {tk' : Nat} {m' : Str → Option Value} {news' : List (Addr × Obj)} (x' : α)
    (F : Fr h₀ L h' m') (N : News h₀ L h' news') (hm : ∀ y, m' y = M x' y) (hn : ∀ q ∈ D x', q ∈ news') (hp : P x') (hμ : μ x' < μ x) : TurnEnd h₀ L s M D P μ x Q .next { s with heap := h', toks := tk' } :=
  ⟨x', h', tk', rfl, (funext hm : m' = M x') ▸ F, fun q hq => N q (hn q hq), hp, hμ⟩

/-- a statement whose ways meet in one state, told by a datum -/
def CutEnd (h₀ : Heap) (L : Addr) (s : Shared) (M : α → Str → Option Value) (D : α → List (Addr × Obj)) (P : α → Prop) (f : Flow) (s₃ : Shared) : Prop :=
  f = .next ∧ ∃ x' h' tk', s₃ = { s with heap := h', toks := tk' } ∧ Fr h₀ L h' (M x') ∧ News h₀ L h' (D x') ∧ P x'
theorem CutEnd.intro {M : α → Str → Option Value} {D : α → List (Addr × Obj)} {P : α → Prop} {h' : Heap} {tk' : Nat} {m' : Str → Option Value} {news' : List (Addr × Obj)} (x' : α)
    (F : Fr h₀ L h' m') (N : News h₀ L h' news') (hm : ∀ y, m' y = M x' y) (hn : ∀ q ∈ D x', q ∈ news') (hp : P x') : CutEnd h₀ L s M D P .next { s with heap := h', toks := tk' } :=
  ⟨rfl, x', h', tk', rfl, (funext hm : m' = M x') ▸ F, fun q hq => N q (hn q hq), hp⟩
theorem st_cut {st : Stmt} {rest : List Stmt} {h₀ : Heap} {L : Addr} (M : α → Str → Option Value) (D : α → List (Addr × Obj)) (P : α → Prop)
    (h1 : wpAny (model prog w) A (exec st env) (CutEnd h₀ L s M D P) E s)
    (h2 : ∀ x h' tk', P x → Fr h₀ L h' (M x) → News h₀ L h' (D x) → wpAny (model prog w) A (execs rest env) Q E { s with heap := h', toks := tk' }) :
    wpAny (model prog w) A (execs (st :: rest) env) Q E s := by
  refine wpAny_execs_cons (wpAny_mono h1 (fun fl s₃ p => ?_) fun _ _ e => e)
  obtain ⟨rfl, x, h', tk', rfl, F', N', hp⟩ := p
  exact h2 x h' tk' hp F' N'

theorem While_st {test : Expr} {body : List Stmt} {pos : Pos} {m : Str → Option Value} {news : List (Addr × Obj)} (M : α → Str → Option Value) (D : α → List (Addr × Obj)) (P : α → Prop) (μ : α → Nat) (x₀ : α)
    (F : Fr h₀ L s.heap m) (N : News h₀ L s.heap news) (hm : ∀ y, m y = M x₀ y) (hn : ∀ q ∈ D x₀, q ∈ news) (hp : P x₀)
    (turn : ∀ x h₁ tk₁, P x → Fr h₀ L h₁ (M x) → News h₀ L h₁ (D x) →
      wpAny (model prog w) A (isTrue test env (eval test env)) (fun b s₂ =>
        if b = true then wpAny (model prog w) A (execs body env) (TurnEnd h₀ L s M D P μ x Q) E s₂ else Q .next s₂) E { s with heap := h₁, toks := tk₁ })
    (hE : PassesOwn (model prog w) A env E := by passes_own) :
    wpAny (model prog w) A (exec (.While test body [] pos) env) Q E s := by
  refine wpAny_While (codeAny_whileLoop (fun n s' => ∃ x h₁ tk₁, n = μ x ∧ s' = { s with heap := h₁, toks := tk₁ } ∧ Fr h₀ L h₁ (M x) ∧ News h₀ L h₁ (D x) ∧ P x) ?_ (μ x₀) ⟨x₀, s.heap, s.toks, rfl, rfl, (funext hm : m = M x₀) ▸ F, fun q hq => N q (hn q hq), hp⟩)
  rintro n s' ⟨x, h₁, tk₁, rfl, rfl, F₁, N₁, P₁⟩
  refine wpAny_mono (turn x h₁ tk₁ P₁ F₁ N₁) (fun b s₂ h₂ => ?_) hE
  cases b with
  | false =>
    simp only [Bool.false_eq_true, if_false] at h₂ ⊢
    exact wpAny_execs_nil h₂
  | true =>
    simp only [if_true] at h₂ ⊢
    refine wpAny_mono h₂ (fun f s₃ h₃ => ?_) hE
    cases f with
    | ret v => exact h₃
    | brk => exact h₃
    | next => obtain ⟨x', h', tk', rfl, F', N', P', hμ⟩ := h₃; exact ⟨μ x', hμ, x', h', tk', rfl, rfl, F', N', P'⟩
    | cont => obtain ⟨x', h', tk', rfl, F', N', P', hμ⟩ := h₃; exact ⟨μ x', hμ, x', h', tk', rfl, rfl, F', N', P'⟩
end
end Mine
namespace Mine
/-- the contract, for this program's own written part -/
def PC (w : World) (mean : ExcName → Option Value) (mg mb : Str → Option Value) (f : Addr) (d u : Nat) (vs : List Value) (Ok : Heap → Value → Heap → Prop) (Er : Addr → Prop) : Prop :=
  Pure PySem.Challenge.rw_ok0134_01.row.prog w (hd.heap_39 w.params) hd.view_39 (looseW hd.view_39 [PySem.Str.ofString "Piece"]) mean mg mb f d u vs Ok Er
end Mine
end

open PySem PySem.W PySem.Calls PyProof.Rows PySem.Spec
local macro_rules | `(tactic| walk_at $s:str) => `(tactic| k_extra $s)
section
open PySem PySem.W PySem.Calls PyProof.Rows PySem.Spec
set_option Elab.async false
set_option maxRecDepth 100000
set_option maxHeartbeats 4000000
namespace Mine
theorem setT2 : True := by
  w_top off
  k_with_none
  (k_with "om" => (first | assumption | decide | exact Mine.dp (by assumption) | exact Mine.dp1 (by assumption) | exact Mine.dp0 (by assumption) | exact Nat.le_trans (by assumption) (by decide) | exact Int.le_refl _ | exact Int.not_lt.mp (by assumption) | exact Int.not_le.mp (by assumption) | exact Int.le_of_lt (by assumption) | exact Int.add_one_le_of_lt (by assumption) | omega))
  (k_with "tb_start" => repeat' ((fail_if_success (with_reducible show wpAny _ _ (exec (Stmt.While _ _ _ _) _) _ _ _)); first | (k_unfold; (try dsimp only)) | (k_end; wrow_close) | walk1 | (dsimp only; walk1) | fail "no step"))
  (k_with "call builtin:len" => ((with_reducible show wpAny _ _ (call (Value.builtin "len") [Value.bytes _ _]) _ _ _); refine len_bytes (by assumption) ?_))
  (k_with "subscriptTail" => ((with_reducible show wpAny _ _ (subscriptTail _ _ (Value.bytes _ _) (Value.int _ _)) _ _ _); (refine Mine.item_O (by assumption) (by k_extra "om") (by k_extra "om") ?_); intro _ _ _ _))
  (k_with "tb_rel" => (intro y; dsimp only; (repeat' split) <;> first | rfl | simp_all))
  trivial
theorem warm : (PySem.Challenge.rw_ok0134_01.Holds ∧ Mine.hd.heap_39 = Mine.hd.heap_39) → True := by
  k_fill
  intro _; trivial
theorem any2t {x y c : Int} (h : ([x, y].any fun z => z == c) = true) : c = x ∨ c = y := by
  simp at h; omega
theorem any2f {x y c : Int} (h : ([x, y].any fun z => z == c) = false) : c ≠ x ∧ c ≠ y := by
  simp at h; omega
def Mk (b : Array UInt8) (p : Int) : Prop := p + 1 < b.size ∧ O b p = 255 ∧ O b (p + 1) ≠ 0 ∧ O b (p + 1) ≠ 255

theorem c_next_marker {w : World} {mean mg mb} {b : Array UInt8} {tb : Tok} {i : Int} {ti : Tok} (hb : b.size ≤ 1099511627776) (hi : 0 ≤ i) :
    PC w mean mg mb 120 1 8 [.bytes b tb, .int i ti]
      (fun h r h' => (r = .none ∧ ∀ p, i ≤ p → ¬ Mk b p) ∨ (∃ a p tp tc, r = .ref a ∧ h'.get? a = some { cls := .type "tuple", data := .seq [Value.int p tp, Value.int (O b (p + 1)) tc].toArray } ∧ h.get? a = none ∧ i ≤ p ∧ Mk b p ∧ ∀ q, i ≤ q → q < p → ¬ Mk b q)) (fun _ => False) := by
  intro A base outer s Q E Z hh hd hu ok er
  refine wpAny_call ?_
  obtain ⟨B, X, T, _, _⟩ := id Z
  refine enterAt (hid := []) (binds := [(Str.ofString "octets", .bytes b tb), (Str.ofString "at", .int i ti)]) Z (fun _ h => nomatch h) (by k_is) (by k_is) (by k_extra "om") (BindsTo.of_eq rfl) (locs rfl) ?_ (by decide) rfl rfl rfl
  intro L' h' F' N' l'
  dsimp only [mapOf, List.reverse, List.reverseAux] at F' ⊢
  k_fold
  k_extra "tb_start"
  refine While_st (α := Int × Tok) (fun x y => if y = Str.ofString "at" then some (.int x.1 x.2) else if y = Str.ofString "octets" then some (.bytes b tb) else none) (fun _ => [])
    (fun x => i ≤ x.1 ∧ ∀ q, i ≤ q → q < x.1 → ¬ Mk b q) (fun x => (b.size - x.1).toNat) (i, ti) F' N' (fun _ => rfl) (fun _ h => nomatch h) ⟨by dsimp only; k_extra "om", by intro q h1 h2; dsimp only at h2; omega⟩ ?_
  rintro ⟨j, tj⟩ h₁ tk₁ ⟨hj, hq⟩ F' N'
  dsimp only at hj hq F' N' ⊢
  k_fold
  k_extra "tb_start"
  · refine TurnEnd.intro (j + 1, _) (by assumption) (by assumption) (by k_extra "tb_rel") (fun _ h => nomatch h) ⟨by dsimp only; k_extra "om", ?_⟩ (by dsimp only; first | exact Mine.ms (by k_extra "om") (by k_extra "om") | omega)
    intro q h1 h2 hm
    rcases (by dsimp only at h2; omega : q < j ∨ q = j) with h3 | h3
    · exact hq q h1 h3 hm
    · subst h3
      obtain ⟨_, _, m2, m3⟩ := hm
      have := any2t (by assumption)
      omega
  · refine ok _ _ _ (Fr.keep (by assumption)) (.inr ⟨_, j, _, _, rfl, News.get (by assumption) (.head _), News.fresh (by assumption) (.head _), hj, ⟨by k_extra "om", by assumption, ?_, ?_⟩, hq⟩)
    all_goals (have := any2f (by assumption); omega)
  · refine TurnEnd.intro (j + 1, _) (by assumption) (by assumption) (by k_extra "tb_rel") (fun _ h => nomatch h) ⟨by dsimp only; k_extra "om", ?_⟩ (by dsimp only; first | exact Mine.ms (by k_extra "om") (by k_extra "om") | omega)
    intro q h1 h2 hm
    rcases (by dsimp only at h2; omega : q < j ∨ q = j) with h3 | h3
    · exact hq q h1 h3 hm
    · subst h3
      exact absurd hm.2.1 (by assumption)
  · refine ok _ _ _ (Fr.keep (by assumption)) (.inl ⟨rfl, ?_⟩)
    intro p h1 hm
    rcases (by k_extra "om" : p < j ∨ j ≤ p) with h3 | h3
    · exact hq p h1 h3 hm
    · have := hm.1; omega
end Mine
end

section
open PySem PySem.W PySem.Calls PyProof.Rows PySem.Spec
set_option Elab.async false
set_option maxRecDepth 100000
set_option maxHeartbeats 4000000
namespace Mine
section
variable {prog : Program} {w : World} {A : Around} {R : Result → Shared → Prop} {h : Heap} {g : Array GenState} {d : Drawn} {t : Nat} {os : OsState} {E : Value → Shared → Prop}
variable {nm q : Str} {C N : Addr} {bs bm : List Value} {hdct : Bool} {sn : List Str} {sub : List Value} {ab : Bool} {col : Option Bool} {dd : Option Addr} {k0 k1 k2 k3 k5 : Option Value}

noncomputable abbrev exObj (C t : Addr) : Obj := { cls := .ref C, data := .fields #[.ref t, .none, .none, .none, .bool false, .none] }
noncomputable abbrev tupObj (vs : List Value) : Obj := { cls := .type "tuple", data := .seq vs.toArray }

theorem ex_new {rest : List Value} (hC : h.get? C = some (excClassObj nm q C N bs bm hdct sn sub ab col dd k0 k1 k2 k3 k5 "Exception.__new__"))
    (b1 : bm.contains (.type "Exception") = true) (b2 : bm.contains (.type "AttributeError") = false) (b3 : bm.contains (.type "NameError") = false)
    (hq : R (.ok (.ret (.ref (h.objs.size + 1)))) ⟨(h.push (tupObj rest)).push (exObj C h.objs.size), g, d, t, os⟩) (hrest : rest.length ≤ sizeLine) :
    codeAny (model prog w) A (.builtin "Exception.__new__" ⟨.ref C :: rest, []⟩) R ⟨h, g, d, t, os⟩ := by
  have Fn := PySem.F.excBase_Exception
  have hends := Fn.ends
  have hcB : (Value.ref C :: bm).contains (.type "Exception") = true := by rw [List.contains_cons, b1, Bool.or_true]
  have hcA : (Value.ref C :: bm).contains (.type "AttributeError") = false := by rw [List.contains_cons, b2]; rfl
  have hcN : (Value.ref C :: bm).contains (.type "NameError") = false := by rw [List.contains_cons, b3]; rfl
  refine codeAny_builtinAt Fn.entry ?_
  unfold Builtin.«BaseException.__new__»
  refine PySem.wpAt_bind ?_
  show PySem.wpAt _ _ _ (stack >>= _) _ _ _
  refine PySem.wpAt_bind (PySem.wpAt_stack fun p below => PySem.wpAt_of_wpAny ?_)
  wp_walk
  refine PySem.wpAt_of_wpAny ?_
  rw [Fn.owner]
  repeat (first | with_reducible refine wpAny_madeHere_exc Fn.canon hC ?_ | with_reducible refine wpAny_loadPart_at hC ?_ | (with_reducible refine wpAny_isSubtype_exc hC ?_; first | rw [hcB] | rw [hcA] | rw [hcN]) | wp_step)
  show R _ _
  rw [Heap.size_push]
  exact hq

theorem ex_check_new {rest : List Value} {M : Model} {Q : Unit → Shared → Prop} (hC : h.get? C = some (excClassObj nm q C N bs bm hdct sn sub ab col dd k0 k1 k2 k3 k5 "Exception.__new__"))
    (b1 : bm.contains (.type "Exception") = true)
    (hq : Q () ⟨h, g, d, t, os⟩) : wpAny M A (checkBuiltinCall "Exception.__new__" ⟨.ref C :: rest, []⟩) Q E ⟨h, g, d, t, os⟩ := by
  have Fn := PySem.F.excBase_Exception
  have hcont : (Value.ref C :: bm).contains (.type "Exception") = true := by rw [List.contains_cons, b1, Bool.or_true]
  have hstar := Fn.noStar
  simp only [checkBuiltinCall, Fn.newKind, Fn.newSplit, Fn.newRow]
  repeat (first | refine wpAny_loadPart_at hC ?_ | (refine wpAny_isSubtype_exc hC ?_; rw [hcont]) | refine wpAny_staticBase_exc hC ?_ | refine wpAny_madeBy_exc hC ?_ | simp only [bne_self_eq_false, Bool.false_eq_true, if_false] | wp_step)
  exact hq

theorem ex_call {rest : List Value} {fI : Addr} {Q : Value → Shared → Prop} (hC : h.get? C = some (excClassObj nm q C N bs bm hdct sn sub ab col dd k0 k1 k2 k3 k5 "Exception.__new__"))
    (b1 : bm.contains (.type "Exception") = true) (b2 : bm.contains (.type "AttributeError") = false) (b3 : bm.contains (.type "NameError") = false)
    (hi : Looks (model prog w) h (typeLookup (.ref C) "__init__") (some (.ref fI))) (hb : ∀ self, Looks (model prog w) h (bindSpecial (.ref fI) self) (.ref fI, [self]))
    (hq : wpAny (model prog w) (A.under (.builtin "type.__call__" ⟨.ref C :: rest, []⟩)) (call (.ref fI) (.ref (h.objs.size + 1) :: rest)) (fun r s' => r = .none ∧ Q (.ref (h.objs.size + 1)) s') E
      ⟨(h.push (tupObj rest)).push (exObj C h.objs.size), g, d, t, os⟩) (hrest : rest.length ≤ sizeLine) :
    wpAny (model prog w) A (call (.ref C) rest) Q E ⟨h, g, d, t, os⟩ := by
  have Fn := PySem.F.excBase_Exception
  have f1 := tc_lookup
  have f2 := tc_bind (.ref C)
  have hT : (⟨h, g, d, t, os⟩ : Shared).TypeIs (.ref C) "type" := ⟨_, hC, rfl⟩
  refine wpAny_call (codeAny_of_tree ?_)
  show wpAny _ _ (callAny (.ref C) _) _ _ _
  repeat (any_goals (first | assumption | with_reducible refine wpAny_loadPart_at hC ?_ | wp_step))
  refine ⟨rfl, ?_⟩
  refine codeAny_call_builtin_at (Code.quiet_builtin _ (by decide +kernel)) entry_typeCall (wpAny_check_type_call_sub hC ?_)
  repeat (first | with_reducible refine wpAny_loadPart_at hC ?_ | with_reducible refine wpAny_madeBy_exc hC ?_ | wp_step)
  refine codeAny_call_builtin_code (Code.quiet_builtin _ Fn.quiet) (ex_check_new hC b1 ?_)
  refine ex_new hC b1 b2 b3 ?_ hrest
  show wpAny _ _ _ _ _ _
  have k : ∀ b o, h.get? b = some o → ((h.push (tupObj rest)).push (exObj C h.objs.size)).get? b = some o := fun b o e => Heap.get?_push_of_some _ (Heap.get?_push_of_some _ e)
  have hC₁ := k _ _ hC
  have hget : ((h.push (tupObj rest)).push (exObj C h.objs.size)).get? (h.objs.size + 1) = some (exObj C h.objs.size) := by heap_get
  have hcC : (Value.ref C :: bm).contains (.ref C) = true := by simp
  unfold isInstance
  repeat (first | with_reducible refine wpAny_loadPart_at hget ?_ | wp_step)
  refine wpAny_isSubtype_exc (C := C) hC₁ ?_
  rw [hcC]
  repeat (first | with_reducible refine wpAny_loadPart_at hget ?_ | wp_step)
  show wpAny _ _ (typeLookup (.ref C) _) _ _ _
  refine (hi.keeps k).here ?_
  refine wpAny_holding (wpAny_bind ?_)
  refine ((hb _).keeps k).here ?_
  refine wpAny_bind (wpAny_mono hq (fun r s' hr => ?_) fun _ _ x => x)
  obtain ⟨rfl, hQ⟩ := hr
  wp_walk
  exact hQ
end
end Mine
end

section
open PySem PySem.W PySem.Calls PyProof.Rows PySem.Spec
open Builtin Builtin.ObjectAttr
set_option Elab.async false
set_option maxRecDepth 100000
set_option maxHeartbeats 4000000
namespace Mine
theorem ref_exc (self : Value) : refuseLoop self "__setattr__" [.ref 31, .type "Exception", .type "BaseException", .type "object"] = pure () := by
  rw [refuseLoop_ref]
  kernel_rfl
theorem meta_Exc : typeOf (.type "Exception") = pure (.type "type") := by kernel_rfl
section
variable {prog : Program} {w : World} {A : Around} {R : Result → Shared → Prop} {h : Heap} {g : Array GenState} {d : Drawn} {t : Nat} {os : OsState} {E : Value → Shared → Prop}
variable {nm q : Str} {C N x : Addr} {bs bm : List Value} {hdct : Bool} {sn : List Str} {sub : List Value} {ab : Bool} {col : Option Bool} {dd : Option Addr} {k0 k1 k2 k3 k5 : Option Value} {newId : String} {name : Str} {v : Value}
theorem ex_store {Q : Unit → Shared → Prop} {o : Obj} {vs : Array Value} (hC : h.get? C = some (excClassObj nm q C N bs bm true sn sub ab col dd k0 k1 k2 k3 k5 newId))
    (hx : h.get? x = some o) (hc : o.cls = .ref C) (hdn : o.dict = none) (hda : o.data = .fields vs)
    (hr : refuseLoop (.ref x) "__setattr__" (.ref C :: bm) = pure ()) (hb : bm.contains (.type "object") = true)
    (ht : Looks (model prog w) h (typeLookup (.ref C) name) none) (hs : Looks (model prog w) h (typeLookup (.ref C) "__setattr__") (some (.builtin "object.__setattr__")))
    (hq : ∀ h' tk', (∀ b o', b ≠ x → h.get? b = some o' → h'.get? b = some o') → (∃ o₁, h'.get? x = some o₁ ∧ o₁.cls = o.cls ∧ o₁.data = o.data) → Q () ⟨h', g, d, tk', os⟩) :
    wpAny (model prog w) A (setAttr (.ref x) name v) Q E ⟨h, g, d, t, os⟩ := by
  have SF := PySem.F.store_object
  have f3 := SF.slot.bind (.ref x)
  have hcB : (Value.ref C :: bm).contains (.type "object") = true := by rw [List.contains_cons, hb, Bool.or_true]
  have Lt : Looks (model prog w) h (typeOf (.ref x)) (.ref C) := hc ▸ (Looks.ld hx).andThen .now
  have Li : Looks (model prog w) h (isInstance (.ref x) (.type "object")) true := Lt.andThen (fun A Q E s k q => by
    obtain ⟨hh, g', d', t', os'⟩ := s
    refine wpAny_isSubtype_exc (k _ _ hC) ?_
    rw [hcB]; exact q)
  refine wpAny_bind (wpAny_mkText (wpAny_bind (wpAny_bind (wpAny_bind (Lt.here (hs.here (wpAny_holding ?_)))))))
  rw [f3]
  refine wpAny_bind (wpAny_pure (wpAny_bind (wpAny_call ?_)))
  refine codeAny_call_builtin SF.slot.plain SF.entry (@check_slot (model prog w) _ _ _ "object.__setattr__" "object" "__setattr__" (.ref x) [.str name t, v] [] _ SF.kind SF.split Li (SF.args (.ref x) (.str name t) v) ?_)
  show wpAny _ _ (Builtin.«object.__setattr__» ⟨[.ref x, .str name t, v], []⟩) _ _ _
  rw [osa_eq, refuse_eq]
  refine wpAny_bind (wpAny_bind (Lt.here (wpAny_bind (wpAny_mroOf_exc hC ?_))))
  rw [hr]
  refine wpAny_pure (wpAny_bind (Lt.here (wpAny_bind (ht.here (wpAny_bind (wpAny_pure ?_))))))
  dsimp only
  unfold storeInOwnDict
  refine wpAny_bind (wpAny_pure ?_)
  obtain ⟨oc, od, oda, osl⟩ := o
  dsimp only at hc hdn hda
  subst hc hdn hda
  show wpAny _ _ (ownDictForStores (.ref x) >>= _) _ _ _
  refine wpAny_bind ?_
  show wpAny _ _ (instanceDict x true) _ _ _
  unfold instanceDict
  refine wpAny_bind (wpAny_loadPart_at hx ?_)
  dsimp only
  refine wpAny_bind ?_
  unfold classData
  refine wpAny_bind (wpAny_load hC (wpAny_pure ?_))
  dsimp only
  rw [if_neg (by decide), if_neg (by simp [typeHasDict])]
  have hx₁ : (h.push { cls := .type "dict", data := .dict #[] }).get? x = some ⟨.ref C, none, .fields vs, osl⟩ := Heap.get?_push_of_some _ hx
  have hxs : x ≠ h.objs.size := Nat.ne_of_lt (Heap.lt_size hx)
  refine wpAny_bind (wpAny_alloc' ?_)
  refine wpAny_bind (wpAny_update' hx₁ ?_)
  refine wpAny_pure ?_
  have hgd : ((h.push { cls := .type "dict", data := .dict #[] }).update x fun o => { cls := o.cls, dict := some h.objs.size, data := o.data, slots := o.slots }).get? h.objs.size
      = some { cls := .type "dict", data := .dict #[] } :=
    (Heap.get?_update_ne _ _ _ _ hxs.symm).trans (Heap.get?_push_at rfl rfl)
  have hnd : ((h.push { cls := .type "dict", data := .dict #[] }).update x fun o => { cls := o.cls, dict := some h.objs.size, data := o.data, slots := o.slots }).Ns h.objs.size (fun _ => none) :=
    ⟨_, #[], _, hgd, rfl, fun e he => absurd he (by simp), fun _ => rfl⟩
  show wpAny _ _ (storeInDict h.objs.size (.str name t) name v) _ _ _
  unfold storeInDict newKeyGuard
  refine wpAny_bind (wpAny_pure (wpAny_bind (wpAny_nsSet1 (Heap.Ns1.of_empty hnd) fun h' hn' hs => ?_)))
  obtain ⟨oD, esD, epD, hoD, hdD, hcD⟩ := hn'.count (Within.cons name v Within.nil)
  refine wpAny_bind (wpAny_lookBehind hoD (by rw [hdD]; exact pastItsLine_dict (Nat.le_trans hcD (by rw [List.length_cons, List.length_nil, sizeLine_eq]; omega))) ?_)
  refine wpAny_pure ?_
  refine wpAny_pure (wpAny_pure (hq h' _ (fun b ob hbx hb => ?_) ⟨⟨.ref C, some h.objs.size, .fields vs, osl⟩, ?_, rfl, rfl⟩))
  · exact (hs.2 b (Nat.ne_of_lt (Heap.lt_size hb))).trans ((Heap.get?_update_ne _ _ _ _ hbx).trans (Heap.get?_push_of_some _ hb))
  · exact (hs.2 x hxs).trans (Heap.get?_update_self _ hx₁ rfl)
end
end Mine
end

section
open PySem PySem.W PySem.Calls PyProof.Rows PySem.Spec
open Builtin Builtin.ObjectAttr
set_option Elab.async false
set_option maxRecDepth 100000
set_option maxHeartbeats 4000000
namespace Mine
section
variable {prog : Program} {w : World} {A : Around} {R : Result → Shared → Prop} {h : Heap} {g : Array GenState} {d : Drawn} {t : Nat} {os : OsState} {E : Value → Shared → Prop}
variable {nm q : Str} {C N x : Addr} {bs bm : List Value} {hdct : Bool} {sn : List Str} {sub : List Value} {ab : Bool} {col : Option Bool} {dd : Option Addr} {k0 k1 k2 k3 k5 : Option Value} {newId : String} {name : Str} {v : Value}
theorem ex_init {Q : Value → Shared → Prop} {e T : Addr} {v : Value} (hC : h.get? C = some (excClassObj nm q C N bs bm hdct sn sub ab col dd k0 k1 k2 k3 k5 newId))
    (he : h.get? e = some (exObj C T)) (b1 : bm.contains (.type "Exception") = true)
    (hq : ∀ h', (∀ b o', b ≠ e → h.get? b = some o' → h'.get? b = some o') → h'.get? e = some (exObj C h.objs.size) → h'.get? h.objs.size = some (tupObj [v]) → Q .none ⟨h', g, d, t, os⟩) :
    wpAny (model prog w) A (call (.builtin "Exception.__init__") [.ref e, v]) Q E ⟨h, g, d, t, os⟩ := by
  have F := PySem.F.excBase_Exception
  have hcB : (Value.ref C :: bm).contains (.type "Exception") = true := by rw [List.contains_cons, b1, Bool.or_true]
  have Li : Looks (model prog w) h (isInstance (.ref e) (.type "Exception")) true := ((Looks.ld he).andThen .now : Looks (model prog w) h (typeOf (.ref e)) (.ref C)).andThen (fun A Q E s k q => by
    obtain ⟨hh, g', d', t', os'⟩ := s
    refine wpAny_isSubtype_exc (k _ _ hC) ?_
    rw [hcB]; exact q)
  refine wpAny_call (codeAny_call_builtin F.init.plain F.initEntry ?_)
  have hshort := F.noStar
  simp only [checkBuiltinCall, F.initKind, F.initSplit, F.initRow]
  refine wpAny_bind (Li.here ?_)
  repeat wp_step
  show Q .none _
  refine hq _ (fun b o' hb ho => ?_) ?_ ?_
  · exact (Heap.get?_update_ne _ _ _ _ hb).trans (Heap.get?_push_of_some _ ho)
  · rw [Heap.get?_update_self _ (Heap.get?_push_of_some _ he) rfl]
    rfl
  · exact (Heap.get?_update_ne _ _ _ _ (Nat.ne_of_gt (Heap.lt_size he))).trans (Heap.get?_push_at rfl rfl)
end
end Mine
end

section
open PySem PySem.W PySem.Calls PyProof.Rows PySem.Spec
open Builtin Builtin.ObjectAttr
set_option Elab.async false
set_option maxRecDepth 100000
set_option maxHeartbeats 4000000
namespace Mine
section
variable {prog : Program} {w : World} {A : Around} {E : Value → Shared → Prop} {s : Shared} {g : Heap} {L : Addr} {m : Str → Option Value} {e C N : Addr} {rest : List (Addr × Obj)} {K : Frag}
variable {nm q : Str} {bs bm : List Value} {sn : List Str} {sub : List Value} {ab : Bool} {col : Option Bool} {dd : Option Addr} {k0 k1 k2 k3 k5 : Option Value} {newId : String} {name : Str} {v : Value}
/-- an exception that was made and has flown nowhere yet -/
def ExOk (h : Heap) (e : Addr) (C : Addr) : Prop := ∃ ob tp, h.get? e = some ob ∧ ob.cls = .ref C ∧ ob.data = .fields #[tp, .none, .none, .none, .bool false, .none]

theorem Fr.but {h h' : Heap} (F : Fr g L h m) (hL : L ≠ e) (hg : g.get? e = none) (k : ∀ b o', b ≠ e → h.get? b = some o' → h'.get? b = some o') : Fr g L h' m := by
  obtain ⟨oL, es, ep, hL', r⟩ := F.ns
  exact ⟨⟨oL, es, ep, k _ _ hL hL', r⟩, fun b o' hb => k b o' (fun z => by rw [z, hg] at hb; cases hb) (F.keep b o' hb), F.above⟩

theorem init_stepN {Q : Value → Shared → Prop} {T : Addr} (F : Fr g L s.heap m) (N' : News g L s.heap ((e, exObj C T) :: rest)) (X : K.In g)
    (hK : K.lookup C = some (excClassObj nm q C N bs bm true sn sub ab col dd k0 k1 k2 k3 k5 newId)) (b1 : bm.contains (.type "Exception") = true)
    (h : ∀ h' T', Fr g L h' m → News g L h' [(e, exObj C T')] → Q .none { s with heap := h' }) :
    wpAny (model prog w) A (call (.builtin "Exception.__init__") [.ref e, v]) Q E s := by
  obtain ⟨hh, gg, d, t, os⟩ := s
  have D := N' _ (.head _)
  exact ex_init (X.keeps F.keep _ _ hK) D.1 b1 fun h' k he _ => h h' _ (Fr.but F (Ne.symm D.2.1) D.2.2 k) fun p hp => by
    obtain rfl := List.mem_singleton.mp hp
    exact ⟨he, D.2⟩

theorem store_stepN {Q : Unit → Shared → Prop} {T : Addr} (F : Fr g L s.heap m) (N' : News g L s.heap [(e, exObj C T)]) (X : K.In g)
    (hK : K.lookup C = some (excClassObj nm q C N bs bm true sn sub ab col dd k0 k1 k2 k3 k5 newId))
    (hr : refuseLoop (.ref e) "__setattr__" (.ref C :: bm) = pure ()) (hb : bm.contains (.type "object") = true)
    (ht : findIn K (.ref C) name = some none) (hs : findIn K (.ref C) "__setattr__" = some (some (.builtin "object.__setattr__")))
    (h : ∀ h' tk', Fr g L h' m → News g L h' [] → ExOk h' e C → Q () { s with heap := h', toks := tk' }) :
    wpAny (model prog w) A (setAttr (.ref e) name v) Q E s := by
  obtain ⟨hh, gg, d, t, os⟩ := s
  have D := N' _ (.head _)
  have X' := X.keeps F.keep
  refine ex_store (X' _ _ hK) D.1 rfl rfl rfl hr hb (looks_findIn X' ht) (looks_findIn X' hs) fun h' tk' k ⟨o₁, ho, hc, hd⟩ => h h' tk' (Fr.but F (Ne.symm D.2.1) D.2.2 k) News.nil ⟨o₁, _, ho, hc, hd⟩
end
theorem refr (self : Value) (C : Addr) : refuseLoop self "__setattr__" [.ref C, .ref 31, .type "Exception", .type "BaseException", .type "object"] = pure () := by
  rw [refuseLoop_ref]; exact ref_exc self
end Mine
namespace Mine
theorem setE2 : True := by
  w_top off
  k_with_none
  (k_with "om" => (first | assumption | decide | exact Mine.dp (by assumption) | exact Mine.dp1 (by assumption) | exact Mine.dp0 (by assumption) | exact Nat.le_trans (by assumption) (by decide) | exact Int.le_refl _ | exact Int.not_lt.mp (by assumption) | exact Int.not_le.mp (by assumption) | exact Int.le_of_lt (by assumption) | exact Int.add_one_le_of_lt (by assumption) | omega))
  (k_with "tb_start" => repeat' ((fail_if_success (with_reducible show wpAny _ _ (exec (Stmt.While _ _ _ _) _) _ _ _)); first | (k_unfold; (try dsimp only)) | (k_end; wrow_close) | walk1 | (dsimp only; walk1) | fail "no step"))
  (k_with "getMethod type:Exception" => (k_here; refine' method_type ?F ?X Mine.meta_Exc (by decide +kernel) ?e ?h ?_; (case F => k_asm); (case X => k_asm); (case e => k_dflt k_is); (case h => k_handed)))
  (k_with "call builtin:Exception.__init__" => (k_here; refine' Mine.init_stepN ?F ?N ?X ?K ?b ?_; (case F => k_asm); (case N => k_asm); (case X => k_asm); (case K => with_unfolding_all rfl); (case b => decide +kernel); intro h' T' F' N'))
  (k_with "setAttr ref" => (k_here; refine' Mine.store_stepN ?F ?N ?X ?K ?r ?b ?t ?s ?_; (case F => k_asm); (case N => k_asm); (case X => k_asm); (case K => with_unfolding_all rfl); (case r => exact Mine.refr _ _); (case b => decide +kernel); (case t => k_is); (case s => k_is); intro h' tk' F' N' O'))
  trivial
theorem init_ok {C : Addr} (hC : C = 44 ∨ C = 56 ∨ C = 68) {w : World} {mean mg mb} {A : Around} {base g : Heap} {outer : List Env} {s : Shared} {e t : Addr} {msg : Str} {tm : Tok} {Q E : Value → Shared → Prop}
    (Z : At (hd.heap_39 w.params) hd.view_39 (looseW hd.view_39 [PySem.Str.ofString "Piece"]) mean mg mb A base outer g s.heap)
    (he : s.heap.get? e = some (exObj C t)) (hen : g.get? e = none)
    (hh : A.handled = none) (hd : A.depth + 1 < recursionLimit) (hu : A.units + 8 < cLine)
    (hQ : ∀ h' tk', g.StaysIn h' → ExOk h' e C → Q .none { s with heap := h', toks := tk' }) :
    wpAny (model PySem.Challenge.rw_ok0134_01.row.prog w) A (call (.ref 28) [.ref e, .str msg tm]) Q E s := by
  refine wpAny_call ?_
  obtain ⟨B, X, T, _, _⟩ := id Z
  refine enterAt (hid := [(e, exObj C t)]) (binds := [(Str.ofString "self", .ref e), (Str.ofString "message", .str msg tm)]) Z (by
      intro q hq
      obtain rfl := List.mem_singleton.mp hq
      exact ⟨he, hen⟩) (by k_is) (by k_is) (by k_extra "om") (BindsTo.of_eq rfl) (locs rfl) ?_ (by decide) rfl rfl rfl
  intro L' h' F' N' l'
  dsimp only [mapOf, List.reverse, List.reverseAux] at F' ⊢
  clear he hen l'
  rcases hC with rfl | rfl | rfl
  all_goals (
    k_fold
    k_extra "tb_start"
    exact hQ _ _ (Fr.keep (by assumption)) (by assumption))
end Mine
end

section
open PySem PySem.W PySem.Calls PyProof.Rows PySem.Spec
open Builtin Builtin.ObjectAttr
set_option Elab.async false
set_option maxRecDepth 100000
set_option maxHeartbeats 4000000
namespace Mine
/-- an exception class at its address -/
def ClsOk (h : Heap) (C : Addr) : Prop := ∃ nm q N bs bm hdct sn sub ab col dd k0 k1 k2 k3 k5 newId, h.get? C = some (excClassObj nm q C N bs bm hdct sn sub ab col dd k0 k1 k2 k3 k5 newId) ∧ bm.contains (.type "BaseException") = true
/-- what stands behind the making of the raised thing -/
def RaiseOk (E : Value → Shared → Prop) (v : Value) (s : Shared) : Prop := ∃ e C, v = .ref e ∧ ExOk s.heap e C ∧ ClsOk s.heap C ∧ E (.ref e) s
theorem ClsOk.keeps {h h' : Heap} {C : Addr} (c : ClsOk h C) (k : ∀ b o, h.get? b = some o → h'.get? b = some o) : ClsOk h' C := by
  obtain ⟨nm, q, N, bs, bm, hdct, sn, sub, ab, col, dd, k0, k1, k2, k3, k5, newId, hC, hb⟩ := c
  exact ⟨nm, q, N, bs, bm, hdct, sn, sub, ab, col, dd, k0, k1, k2, k3, k5, newId, k _ _ hC, hb⟩
section
variable {M : Model} {A : Around} {E : Value → Shared → Prop} {s : Shared} {env : Env} {Q : Flow → Shared → Prop} {ex : Expr} {pos : Pos}
theorem raise_made (hh : A.handled = none) (h : wpAny M A (eval ex env) (RaiseOk E) E s) : wpAny M A (exec (.Raise (some ex) none pos) env) Q E s := by
  rw [arm_exec_Raise]
  simp only [evalOpt, Option.map]
  refine wpAny_bind (wpAny_standAt ?_)
  unfold raiseStmt
  refine wpAny_bind (wpAny_bind (wpAny_mono h (fun v s₁ h₁ => wpAny_bind (wpAny_standAt (wpAny_pure ?_))) fun _ _ x => x))
  obtain ⟨e, C, rfl, ⟨ob, tp, he, hc, hd⟩, ⟨nm, q, N, bs, bm, hdct, sn, sub, ab, col, dd, k0, k1, k2, k3, k5, newId, hC, hb⟩, hE⟩ := h₁
  have hcB : (Value.ref C :: bm).contains (.type "BaseException") = true := by rw [List.contains_cons, hb, Bool.or_true]
  obtain ⟨oc, od, oda, osl⟩ := ob
  dsimp only at hc hd
  subst hc hd
  obtain ⟨hp, g, d, tk, os⟩ := s₁
  repeat (first | with_reducible refine wpAny_loadPart_at he ?_ | with_reducible refine wpAny_loadPart_at hC ?_ | (with_reducible refine wpAny_isSubtype_exc hC ?_; rw [hcB]) | wp_step)
  exact wpAny_raiseNew_none hh hE
end
end Mine
end

section
open PySem PySem.W PySem.Calls PyProof.Rows PySem.Spec
open Builtin Builtin.ObjectAttr
set_option Elab.async false
set_option maxRecDepth 100000
set_option maxHeartbeats 4000000
namespace Mine
def ExNew (h h' : Heap) (e C : Addr) : Prop := (∀ b o, h.get? b = some o → h'.get? b = some o) ∧ h.get? e = none ∧ ExOk h' e C
section
variable {M : Model} {A : Around} {E : Value → Shared → Prop} {s' : Shared} {base g g₂ h : Heap} {outer : List Env} {L a e C : Addr} {m : Str → Option Value} {name : Str} {scope : Scope} {cd : Value} {Q : Unit → Shared → Prop}
theorem leave_newC (K : Below A base outer g) (hx : ExNew h s'.heap e C) (F : Fr g L h m)
    (hQ : ∀ h', RaisedSN base g outer e (.ref C) [] h' → g.UpToSlots h' → Q () { s' with heap := h' }) (hk : scope.kind = .function := by rfl) :
    wpAny M (A.deeper (envOf name scope L a cd)) (leaving (envOf name scope L a cd) (.ref e)) Q E s' := by
  have K' := K.push (name := name) (a := a) (cd := cd) F hk
  have hin : ∀ env ∈ (envOf name scope L a cd :: outer), ∀ b, env.frame = some b → b ∈ (envOf name scope L a cd :: outer).filterMap (·.frame) := fun env he b hb => List.mem_filterMap.mpr ⟨env, he, hb⟩
  have st : base.StaysIn (hideAll h ((envOf name scope L a cd :: outer).filterMap (·.frame))) := fun b o q => hideAll_get _ (K'.stays b o q) fun hm => by
    rw [(K'.frames.mem hm).1] at q; cases q
  have sg : ∀ b o, g.get? b = some o → b ∉ outer.filterMap (·.frame) → (hideAll h ((envOf name scope L a cd :: outer).filterMap (·.frame))).get? b = some o := fun b o q nm => hideAll_get _ (F.keep b o q) fun hm => by
    rcases kts_mem hm with z | z
    · rw [z, kts_self F] at q
      cases q
    · exact nm z
  obtain ⟨hkeep, hnew, ob, tp, he, hcls, hd⟩ := hx
  have hen : (hideAll h ((envOf name scope L a cd :: outer).filterMap (·.frame))).get? e = none := by
    cases q : (hideAll h ((envOf name scope L a cd :: outer).filterMap (·.frame))).get? e with
    | none => rfl
    | some o => have := of_hideAll _ q; rw [hnew] at this; cases this
  refine wpAny_leaving_firstW (a0 := tp) K'.stack ((funFrames_hide K'.frames hin).of_keeps fun b o hb _ => ⟨o, hkeep b o hb, rfl⟩) rfl he (fun b o hb => hkeep b o (of_hideAll _ hb)) hen hd rfl rfl fun h' hL => ?_
  obtain ⟨k1, ⟨_, _, k2⟩, k3, k4⟩ := hL
  exact hQ h' ⟨_, tp, st, sg, (fun _ hq => nomatch hq), k1, hen, k2, by rw [← hcls]; exact k3⟩ (((Heap.UpToSlots.of_keeps F.keep).trans (Heap.UpToSlots.of_keeps hkeep)).trans k4)
end
/-- the program's own written part -/
abbrev AtP (w : World) (mean : ExcName → Option Value) (mg mb : Str → Option Value) (A : Around) (base : Heap) (outer : List Env) (g h : Heap) : Prop :=
  At (hd.heap_39 w.params) hd.view_39 (looseW hd.view_39 [PySem.Str.ofString "Piece"]) mean mg mb A base outer g h
def XCls (C : Addr) : Prop := C = 44 ∨ C = 56 ∨ C = 68
theorem init_find {w : World} {C : Addr} (hC : XCls C) : findIn (hd.heap_39 w.params) (.ref C) "__init__" = some (some (.ref 28)) := by
  rcases hC with rfl | rfl | rfl <;> k_is
theorem init_fn {w : World} : typeIn (hd.heap_39 w.params) (.ref 28) = some (.type "function") := by k_is
theorem cls_ok {w : World} {C : Addr} {h : Heap} (hC : XCls C) (X : (hd.heap_39 w.params).In h) : ClsOk h C := by
  rcases hC with rfl | rfl | rfl
  all_goals exact ⟨_, _, _, _, _, _, _, _, _, _, _, _, _, _, _, _, _, X _ _ rfl, by decide +kernel⟩
theorem make_core0 {w : World} {C : Addr} {A : Around} {E : Value → Shared → Prop} {h : Heap} {g : Array GenState} {d : Drawn} {t : Nat} {os : OsState} {rest : List Value} {Q : Value → Shared → Prop} (hC : XCls C) (X : (hd.heap_39 w.params).In h)
    (hq : wpAny (model PySem.Challenge.rw_ok0134_01.row.prog w) (A.under (.builtin "type.__call__" ⟨.ref C :: rest, []⟩)) (call (.ref 28) (.ref (h.objs.size + 1) :: rest)) (fun r s' => r = .none ∧ Q (.ref (h.objs.size + 1)) s') E
      ⟨(h.push (tupObj rest)).push (exObj C h.objs.size), g, d, t, os⟩) (hrest : rest.length ≤ sizeLine) :
    wpAny (model PySem.Challenge.rw_ok0134_01.row.prog w) A (call (.ref C) rest) Q E ⟨h, g, d, t, os⟩ := by
  have hi := looks_findIn (M := model PySem.Challenge.rw_ok0134_01.row.prog w) X (init_find hC)
  have hb := fun self => bind_fn (M := model PySem.Challenge.rw_ok0134_01.row.prog w) X self init_fn
  rcases hC with rfl | rfl | rfl
  all_goals exact ex_call (X _ _ rfl) (by decide +kernel) (by decide +kernel) (by decide +kernel) hi hb hq hrest
theorem make_exc {w : World} {mean mg mb} {C : Addr} (hC : XCls C) {A : Around} {base g : Heap} {outer : List Env} {s : Shared} {L a : Addr} {m : Str → Option Value} {cn : Str} {cs : Scope} {ccd : Value} {msg : Str} {tm : Tok} {Q E : Value → Shared → Prop}
    (B : Below A base outer g) (F : Fr g L s.heap m) (X : (hd.heap_39 w.params).In g) (T : Top hd.view_39 (looseW hd.view_39 [PySem.Str.ofString "Piece"]) mean mg mb g) (hk : cs.kind = .function)
    (hh : A.handled = none) (hd : A.depth + 3 < recursionLimit) (hu : A.units + 20 < cLine)
    (hQ : ∀ e h' tk', ExNew s.heap h' e C → ClsOk h' C → Q (.ref e) { s with heap := h', toks := tk' }) :
    wpAny (model PySem.Challenge.rw_ok0134_01.row.prog w) (A.deeper (envOf cn cs L a ccd)) (call (.ref C) [.str msg tm]) Q E s := by
  obtain ⟨h, gg, d, t, os⟩ := s
  have Z : AtP w mean mg mb (A.deeper (envOf cn cs L a ccd)) base (envOf cn cs L a ccd :: outer) h h := At.ofFr B F X T hk
  have k : ∀ b o, h.get? b = some o → ((h.push (tupObj [.str msg tm])).push (exObj C h.objs.size)).get? b = some o := fun b o e => Heap.get?_push_of_some _ (Heap.get?_push_of_some _ e)
  have Z' : AtP w mean mg mb ((A.deeper (envOf cn cs L a ccd)).under (.builtin "type.__call__" ⟨[.ref C, .str msg tm], []⟩)) base (envOf cn cs L a ccd :: outer) h ((h.push (tupObj [.str msg tm])).push (exObj C h.objs.size)) :=
    ⟨⟨Z.B.stack, Z.B.stays, Z.B.frames⟩, Z.X, Z.T, k, by simp only [Heap.size_push]; omega⟩
  have z := make_core0 (w := w) (A := A.deeper (envOf cn cs L a ccd)) (E := E) (g := gg) (d := d) (t := t) (os := os) (rest := [.str msg tm]) (Q := Q) hC Z.X
    (init_ok hC Z' (by heap_get) (Heap.get?_none_of_le (Nat.le_succ _)) hh (by show A.depth + 1 + 1 + 1 < _; omega) (by show A.units + 3 + _ + 8 < _; simp only [Code.cUnits]; have : (Code.builtin "type.__call__" ⟨[.ref C, .str msg tm], []⟩).frames = 0 := rfl; omega) fun h' tk' st ok => ⟨rfl, hQ _ h' tk' ⟨st, Heap.get?_none_of_le (Nat.le_succ _), ok⟩ ((cls_ok hC Z.X).keeps st)⟩)
    (by rw [sizeLine_eq]; simp)
  exact z
end Mine
end

section
open PySem PySem.W PySem.Calls PyProof.Rows PySem.Spec
set_option Elab.async false
set_option maxRecDepth 100000
set_option maxHeartbeats 4000000
namespace Mine
theorem bm_has_bytes : typeLookup (.type "bytes") "__bytes__" = pure (some (.builtin "bytes.__bytes__")) := by rw [typeLookup_type, builtinLookup_eq_fast]; kernel_rfl
section
variable {prog : Program} {w : World} {A : Around} {E : Value → Shared → Prop} {s : Shared} {b : Array UInt8} {t : Tok}
theorem bytes_same {Q : Value → Shared → Prop} (hQ : Q (.bytes b t) s) : wpAny (model prog w) A (call (.type "bytes") [.bytes b t]) Q E s := by
  refine callType_codes (Q₁ := fun obj s₁ => s₁.TypeIs obj "bytes" ∧ Q obj s₁) F.bm_called (F.bm_typeCall _) F.entry_object_init ?_ fun obj s₁ h₁ => ?_
  · refine codeAny_of_tree ?_
    show wpAny _ A.in1.in1 (do checkBuiltinCall "bytes.__new__" ⟨[.type "bytes", .bytes b t], []⟩; again (.builtin "bytes.__new__" ⟨[.type "bytes", .bytes b t], []⟩)) _ _ s
    refine wpAny_bind (wpAny_of_eq (F.bm_newCall _) (wpAny_pure ⟨plainId_quiet F.bm_plain _, codeAny_builtin F.bm_entry ?_⟩))
    rw [Around.under_plainId F.bm_plain _]
    have hT : s.TypeIs (.bytes b t) "bytes" := typeIs_bytes _ _ _
    unfold Builtin.«bytes.__new__»
    refine wpAny_bind (wpAny_of_eq (a := true) rfl ?_)
    refine bm_if_false rfl ?_
    refine wpAny_bind (wpAny_of_eq F.bm_sub ?_)
    refine bm_if_false rfl ?_
    refine wpAny_bind (wpAny_of_eq (F.bm_bind _) ?_)
    refine wpAny_bind (wpAny_of_eq (a := ()) rfl ?_)
    refine wpAny_bind (wpAny_of_eq (a := ()) rfl ?_)
    refine bm_if_false rfl ?_
    refine wpAny_bind (wpAny_specialOf hT bm_has_bytes ?_)
    dsimp only
    refine wpAny_bind (wpAny_rule ?_)
    refine wpAny_bind (wpAny_typeOf hT ?_)
    rw [if_pos (by decide)]
    exact wpAny_of_eq (a := Fin.done (.ret (.bytes b t))) rfl ⟨hT, hQ⟩
  · exact ⟨h₁.1, F.args_object_init_2 obj _, object_init_meets F.bm_called.init.lookup F.bm_called.made (by decide) prog w A.in1 _ s₁ ⟨h₁.1, rfl, h₁.2⟩⟩
end
end Mine
end

section
open PySem PySem.W PySem.Calls PyProof.Rows PySem.Spec
set_option Elab.async false
set_option maxRecDepth 100000
set_option maxHeartbeats 4000000
namespace Mine
theorem setT3 : True := by
  w_top off
  k_with_none
  (k_with "om" => (first | assumption | decide | exact Mine.dp (by assumption) | exact Mine.dp1 (by assumption) | exact Mine.dp0 (by assumption) | exact Nat.le_trans (by assumption) (by decide) | exact Int.le_refl _ | exact Int.not_lt.mp (by assumption) | exact Int.not_le.mp (by assumption) | exact Int.le_of_lt (by assumption) | exact Int.add_one_le_of_lt (by assumption) | omega))
  (k_with "tb_start" => repeat' ((fail_if_success (with_reducible show wpAny _ _ (exec (Stmt.While _ _ _ _) _) _ _ _)); first | (k_unfold; (try dsimp only)) | (k_end; wrow_close) | walk1 | (dsimp only; walk1) | fail "no step"))
  (k_with "call builtin:len" => ((with_reducible show wpAny _ _ (call (Value.builtin "len") [Value.bytes _ _]) _ _ _); refine len_bytes (by k_extra "om") ?_))
  (k_with "subscriptTail" => ((with_reducible show wpAny _ _ (subscriptTail _ _ (Value.bytes _ _) (Value.int _ _)) _ _ _); (refine Mine.item_O (by k_extra "om") (by k_extra "om") (by k_extra "om") ?_); intro _ _ _ _))
  (k_with "tb_rel" => (intro y; dsimp only; (repeat' split) <;> first | rfl | simp_all))
  (k_with "exec Raise some none" => (k_here; refine Mine.raise_made (by assumption) ?_))
  (k_with "call ref" => (k_here; (with_reducible show wpAny _ _ (call (Value.ref _) [Value.str _ _]) _ _ _); (refine Mine.make_exc (by unfold Mine.XCls; decide) (by assumption) (by assumption) (by assumption) (by assumption) rfl (by assumption) (by k_extra "om") (by k_extra "om") ?_); intro e9 h9 tk9 x9 c9; refine ⟨_, _, rfl, x9.2.2, c9, ?_⟩; try dsimp only))
  (k_with "leaving ref" => (k_here; (refine Mine.leave_newC (by assumption) (by assumption) (by assumption) ?_); intro h' R' U'; (try dsimp only at R' U' ⊢)))
  (k_with "subscriptTail" => (k_here; (with_reducible show wpAny _ _ (subscriptTail _ (Expr.Slice _ _ none _) (Value.bytes _ _) (Value.ref _)) _ _ _); (with_reducible rename Fr _ _ _ _ => F'); (with_reducible rename News _ _ _ _ => N'); (refine KBc.slice_K (s := ⟨_, _, _, _, _⟩) F' N' rfl (by constructor) (by constructor) (by rw [KBw.ints_length]; omega) ?_); intro h' t' k' F' N' _))
  (k_with "call type:bytes" => (k_here; (with_reducible show wpAny _ _ (call (Value.type _) [Value.bytes _ _]) _ _ _); refine Mine.bytes_same ?_))
  trivial
noncomputable def sz (b : Array UInt8) (i : Int) : Int := O b i * 256 + O b (i + 1)
theorem c_read_payload {w : World} {mean mg mb} {b : Array UInt8} {tb : Tok} {i : Int} {ti : Tok} (hb : b.size ≤ 1000) (hi : 0 ≤ i) :
    PC w mean mg mb 141 5 30 [.bytes b tb, .int i ti]
      (fun h r h' => ∃ a pl tp e te, r = .ref a ∧ h'.get? a = some (tupObj [.bytes pl tp, .int e te]) ∧ h.get? a = none ∧ i + 2 ≤ b.size ∧ 2 ≤ sz b i ∧ e = i + sz b i ∧ e ≤ b.size)
      (fun C => (C = 68 ∧ (b.size < i + 2 ∨ (i + 2 ≤ b.size ∧ 2 ≤ sz b i ∧ b.size < i + sz b i))) ∨ (C = 56 ∧ i + 2 ≤ b.size ∧ sz b i < 2)) := by
  intro A base outer s Q E Z hh hd hu ok er
  refine wpAny_call ?_
  obtain ⟨B, X, T, _, _⟩ := id Z
  refine enterAt (hid := []) (binds := [(Str.ofString "octets", .bytes b tb), (Str.ofString "at", .int i ti)]) Z (fun _ h => nomatch h) (by k_is) (by k_is) (by k_extra "om") (BindsTo.of_eq rfl) (locs rfl) ?_ (by decide) rfl rfl rfl
  intro L' h' F' N' l'
  dsimp only [mapOf, List.reverse, List.reverseAux] at F' ⊢
  k_fold
  k_extra "tb_start"
  · refine er _ _ _ _ ?_ (by assumption) (by assumption)
    unfold sz; first | exact .inl ⟨rfl, by k_extra "om"⟩ | exact .inr ⟨rfl, by k_extra "om"⟩
  · refine er _ _ _ _ ?_ (by assumption) (by assumption)
    unfold sz; first | exact .inl ⟨rfl, by k_extra "om"⟩ | exact .inr ⟨rfl, by k_extra "om"⟩
  · refine er _ _ _ _ ?_ (by assumption) (by assumption)
    unfold sz; first | exact .inl ⟨rfl, by k_extra "om"⟩ | exact .inr ⟨rfl, by k_extra "om"⟩
  · refine ok _ _ _ (Fr.keep (by assumption)) ⟨_, _, _, _, _, rfl, News.get (by assumption) (.head _), News.fresh (by assumption) (.head _), ?_⟩
    unfold sz; omega
end Mine
end

section
open PySem PySem.W PySem.Calls PyProof.Rows PySem.Spec
set_option Elab.async false
set_option maxRecDepth 100000
set_option maxHeartbeats 4000000
namespace Mine
theorem setT4 : True := by
  w_top off
  k_with_none
  (k_with "om" => (first | assumption | decide | exact Mine.dp (by assumption) | exact Mine.dp1 (by assumption) | exact Mine.dp0 (by assumption) | exact Nat.le_trans (by assumption) (by decide) | exact Int.le_refl _ | exact Int.not_lt.mp (by assumption) | exact Int.not_le.mp (by assumption) | exact Int.le_of_lt (by assumption) | exact Int.add_one_le_of_lt (by assumption) | omega))
  (k_with "tb_start" => repeat' ((fail_if_success (with_reducible show wpAny _ _ (exec (Stmt.While _ _ _ _) _) _ _ _)); first | (k_unfold; (try dsimp only)) | (k_end; wrow_close) | walk1 | (dsimp only; walk1) | fail "no step"))
  (k_with "call builtin:len" => ((with_reducible show wpAny _ _ (call (Value.builtin "len") [Value.bytes _ _]) _ _ _); refine len_bytes (by k_extra "om") ?_))
  (k_with "subscriptTail" => ((with_reducible show wpAny _ _ (subscriptTail _ _ (Value.bytes _ _) (Value.int _ _)) _ _ _); (refine Mine.item_O (by k_extra "om") (by k_extra "om") (by k_extra "om") ?_); intro _ _ _ _))
  (k_with "tb_rel" => (intro y; dsimp only; (repeat' split) <;> first | rfl | simp_all))
  (k_with "exec Raise some none" => (k_here; refine Mine.raise_made (by assumption) ?_))
  (k_with "call ref" => (k_here; (with_reducible show wpAny _ _ (call (Value.ref _) [Value.str _ _]) _ _ _); (refine Mine.make_exc (by unfold Mine.XCls; decide) (by assumption) (by assumption) (by assumption) (by assumption) rfl (by assumption) (by k_extra "om") (by k_extra "om") ?_); intro e9 h9 tk9 x9 c9; refine ⟨_, _, rfl, x9.2.2, c9, ?_⟩; try dsimp only))
  (k_with "leaving ref" => (k_here; (refine Mine.leave_newC (by assumption) (by assumption) (by assumption) ?_); intro h' R' U'; (try dsimp only at R' U' ⊢)))
  (k_with "subscriptTail" => (k_here; (with_reducible show wpAny _ _ (subscriptTail _ (Expr.Slice _ _ none _) (Value.bytes _ _) (Value.ref _)) _ _ _); (with_reducible rename Fr _ _ _ _ => F'); (with_reducible rename News _ _ _ _ => N'); (refine KBc.slice_K (s := ⟨_, _, _, _, _⟩) F' N' rfl (by constructor) (by constructor) (by rw [KBw.ints_length]; omega) ?_); intro h' t' k' F' N' _))
  (k_with "call type:bytes" => (k_here; (with_reducible show wpAny _ _ (call (Value.type _) [Value.bytes _ _]) _ _ _); refine Mine.bytes_same ?_))
  trivial
/-- what stands at a place: fill octets, then a code -/
def Cd (b : Array UInt8) (i e : Int) : Prop := i < e ∧ e < b.size ∧ (∀ q, i ≤ q → q < e → O b q = 255) ∧ O b e ≠ 255
theorem c_read_code {w : World} {mean mg mb} {b : Array UInt8} {tb : Tok} {i : Int} {ti : Tok} (hb : b.size ≤ 1000) (hi : 0 ≤ i) :
    PC w mean mg mb 134 5 30 [.bytes b tb, .int i ti]
      (fun h r h' => ∃ a e tc te, r = .ref a ∧ h'.get? a = some (tupObj [.int (O b e) tc, .int (e + 1) te]) ∧ h.get? a = none ∧ Cd b i e ∧ O b e ≠ 0)
      (fun C => (C = 68 ∧ (∀ q, i ≤ q → q < b.size → O b q = 255)) ∨ (C = 44 ∧ i < b.size ∧ (O b i ≠ 255 ∨ ∃ e, Cd b i e ∧ O b e = 0))) := by
  intro A base outer s Q E Z hh hd hu ok er
  refine wpAny_call ?_
  obtain ⟨B, X, T, _, _⟩ := id Z
  refine enterAt (hid := []) (binds := [(Str.ofString "octets", .bytes b tb), (Str.ofString "at", .int i ti)]) Z (fun _ h => nomatch h) (by k_is) (by k_is) (by k_extra "om") (BindsTo.of_eq rfl) (locs rfl) ?_ (by decide) rfl rfl rfl
  intro L' h' F' N' l'
  dsimp only [mapOf, List.reverse, List.reverseAux] at F' ⊢
  k_fold
  k_extra "tb_start"
  · refine er _ _ _ _ (.inl ⟨rfl, ?_⟩) (by assumption) (by assumption)
    intro q h1 h2; omega
  · refine er _ _ _ _ (.inr ⟨rfl, ?_⟩) (by assumption) (by assumption)
    exact ⟨by k_extra "om", .inl (by k_extra "om")⟩
  refine While_st (α := Int × Tok) (fun x y => if y = Str.ofString "at" then some (.int x.1 x.2) else if y = Str.ofString "octets" then some (.bytes b tb) else none) (fun _ => [])
    (fun x => i ≤ x.1 ∧ x.1 ≤ b.size ∧ (x.1 = i → i < b.size ∧ O b i = 255) ∧ ∀ q, i ≤ q → q < x.1 → O b q = 255) (fun x => (b.size - x.1).toNat) (i, ti) (by assumption) (by assumption) (fun _ => rfl) (fun _ h => nomatch h)
    ⟨by dsimp only; k_extra "om", by dsimp only; k_extra "om", by dsimp only; k_extra "om", by intro q h1 h2; dsimp only at h2; omega⟩ ?_
  clear F' N'
  rintro ⟨j, tj⟩ h₁ tk₁ ⟨hj, hj2, hj3, hq⟩ F' N'
  dsimp only at hj hj2 hj3 hq F' N' ⊢
  k_fold
  k_extra "tb_start"
  · refine TurnEnd.intro (j + 1, _) (by assumption) (by assumption) (by k_extra "tb_rel") (fun _ h => nomatch h) ⟨by dsimp only; k_extra "om", by dsimp only; k_extra "om", by dsimp only; k_extra "om", ?_⟩ (by dsimp only; first | exact Mine.ms (by k_extra "om") (by k_extra "om") | omega)
    intro q h1 h2
    rcases (by dsimp only at h2; omega : q < j ∨ q = j) with h3 | h3
    · exact hq q h1 h3
    · rw [h3]; assumption
  · have hlt : i < j := by
      rcases Int.lt_or_eq_of_le hj with h | h
      · exact h
      · subst h; have := hj3 rfl; omega
    exact er _ _ _ _ (.inr ⟨rfl, by k_extra "om", .inr ⟨j, ⟨hlt, by k_extra "om", hq, by k_extra "om"⟩, by k_extra "om"⟩⟩) (by assumption) (by assumption)
  · have hlt : i < j := by
      rcases Int.lt_or_eq_of_le hj with h | h
      · exact h
      · subst h; have := hj3 rfl; omega
    exact ok _ _ _ (Fr.keep (by assumption)) ⟨_, j, _, _, rfl, News.get (by assumption) (.head _), News.fresh (by assumption) (.head _), ⟨hlt, by k_extra "om", hq, by k_extra "om"⟩, by k_extra "om"⟩
  · refine er _ _ _ _ (.inl ⟨rfl, ?_⟩) (by assumption) (by assumption)
    intro q h1 h2
    exact hq q h1 (by k_extra "om")
end Mine
end

section
open PySem PySem.W PySem.Calls PyProof.Rows PySem.Spec
set_option Elab.async false
set_option maxRecDepth 100000
set_option maxHeartbeats 4000000
namespace Mine
theorem setT5 : True := by
  w_top off
  k_with_none
  (k_with "om" => (first | assumption | decide | exact Mine.dp (by assumption) | exact Mine.dp1 (by assumption) | exact Mine.dp0 (by assumption) | exact Nat.le_trans (by assumption) (by decide) | exact Int.le_refl _ | exact Int.not_lt.mp (by assumption) | exact Int.not_le.mp (by assumption) | exact Int.le_of_lt (by assumption) | exact Int.add_one_le_of_lt (by assumption) | omega))
  (k_with "tb_start" => repeat' ((fail_if_success (with_reducible show wpAny _ _ (exec (Stmt.While _ _ _ _) _) _ _ _)); (fail_if_success (with_reducible show wpAny _ _ (pyIter _) _ _ _)); first | (k_unfold; (try dsimp only)) | (k_end; wrow_close) | walk1 | (dsimp only; walk1) | fail "no step"))
  (k_with "call builtin:len" => ((with_reducible show wpAny _ _ (call (Value.builtin "len") [Value.bytes _ _]) _ _ _); refine len_bytes (by k_extra "om") ?_))
  (k_with "subscriptTail" => ((with_reducible show wpAny _ _ (subscriptTail _ _ (Value.bytes _ _) (Value.int _ _)) _ _ _); (refine Mine.item_O (by k_extra "om") (by k_extra "om") (by k_extra "om") ?_); intro _ _ _ _))
  (k_with "tb_rel" => (intro y; dsimp only; (repeat' split) <;> first | rfl | (simp_all; done) | (simp_all; contradiction)))
  (k_with "exec Raise some none" => (k_here; refine Mine.raise_made (by assumption) ?_))
  (k_with "call ref" => (k_here; (with_reducible show wpAny _ _ (call (Value.ref _) [Value.str _ _]) _ _ _); (refine Mine.make_exc (by unfold Mine.XCls; decide) (by assumption) (by assumption) (by assumption) (by assumption) rfl (by assumption) (by k_extra "om") (by k_extra "om") ?_); intro e9 h9 tk9 x9 c9; refine ⟨_, _, rfl, x9.2.2, c9, ?_⟩; try dsimp only))
  (k_with "leaving ref" => (k_here; (refine Mine.leave_newC (by assumption) (by assumption) (by assumption) ?_); intro h' R' U'; (try dsimp only at R' U' ⊢)))
  (k_with "subscriptTail" => (k_here; (with_reducible show wpAny _ _ (subscriptTail _ (Expr.Slice _ _ none _) (Value.bytes _ _) (Value.ref _)) _ _ _); (with_reducible rename Fr _ _ _ _ => F'); (with_reducible rename News _ _ _ _ => N'); (refine KBc.slice_K (s := ⟨_, _, _, _, _⟩) F' N' rfl (by constructor) (by constructor) (by rw [KBw.ints_length]; omega) ?_); intro h' t' k' F' N' _))
  (k_with "call type:bytes" => (k_here; (with_reducible show wpAny _ _ (call (Value.type _) [Value.bytes _ _]) _ _ _); refine Mine.bytes_same ?_))
  (k_with "assign Tuple" => (k_here; (with_reducible show wpAny _ _ (assign (Expr.Tuple _ _ _) _ (Value.ref _)) _ _ _); (refine unpackN_ (by assumption) (by assumption) (News.isTup (by assumption) (by k_mem)) (by assumption) rfl rfl ?_); intro h' F' N'))
  trivial
theorem b_or {p : Prop} [Decidable p] {P N : Prop} (h1 : p → P) (h2 : ¬ p → N) : (Value.bool (decide p) = .bool true ∧ P) ∨ (Value.bool (decide p) = .bool false ∧ N) := by
  by_cases h : p
  · exact .inl ⟨by rw [decide_eq_true h], h1 h⟩
  · exact .inr ⟨by rw [decide_eq_false h], h2 h⟩
theorem b_orB {v : Bool} {P N : Prop} (h1 : v = true → P) (h2 : v = false → N) : (Value.bool v = .bool true ∧ P) ∨ (Value.bool v = .bool false ∧ N) := by
  cases v
  · exact .inr ⟨rfl, h2 rfl⟩
  · exact .inl ⟨rfl, h1 rfl⟩
theorem c_is_restart {w : World} {mean mg mb} {c : Int} {tc : Tok} (h0 : 0 ≤ c) (h1 : c < 256) :
    PC w mean mg mb 84 3 20 [.int c tc]
      (fun h r h' => (r = .bool true ∧ 208 ≤ c ∧ c ≤ 215) ∨ (r = .bool false ∧ (c < 208 ∨ 215 < c)))
      (fun C => False) := by
  intro A base outer s Q E Z hh hd hu ok er
  refine wpAny_call ?_
  obtain ⟨B, X, T, _, _⟩ := id Z
  refine enterAt (hid := []) (binds := [(Str.ofString "code", .int c tc)]) Z (fun _ h => nomatch h) (by k_is) (by k_is) (by k_extra "om") (BindsTo.of_eq rfl) (locs rfl) ?_ (by decide) rfl rfl rfl
  intro L' h' F' N' l'
  dsimp only [mapOf, List.reverse, List.reverseAux] at F' ⊢
  k_fold
  k_extra "tb_start"
  · refine ok (.bool _) _ _ (Fr.keep (by assumption)) (b_or ?_ ?_) <;> omega
  · refine ok (.bool _) _ _ (Fr.keep (by assumption)) (b_or ?_ ?_) <;> omega
theorem c_is_frame {w : World} {mean mg mb} {c : Int} {tc : Tok} :
    PC w mean mg mb 77 3 20 [.int c tc]
      (fun h r h' => (r = .bool true ∧ 192 ≤ c ∧ c ≤ 207 ∧ c ≠ 196 ∧ c ≠ 200 ∧ c ≠ 204) ∨ (r = .bool false ∧ (c < 192 ∨ 207 < c ∨ c = 196 ∨ c = 200 ∨ c = 204)))
      (fun C => False) := by
  intro A base outer s Q E Z hh hd hu ok er
  refine wpAny_call ?_
  obtain ⟨B, X, T, _, _⟩ := id Z
  refine enterAt (hid := []) (binds := [(Str.ofString "code", .int c tc)]) Z (fun _ h => nomatch h) (by k_is) (by k_is) (by k_extra "om") (BindsTo.of_eq rfl) (locs rfl) ?_ (by decide) rfl rfl rfl
  intro L' h' F' N' l'
  dsimp only [mapOf, List.reverse, List.reverseAux] at F' ⊢
  k_fold
  k_extra "tb_start"
  · refine ok (.bool _) _ _ (Fr.keep (by assumption)) (b_orB (fun h => ?_) (fun h => ?_))
    · simp at h; omega
    · simp at h; omega
  · refine ok (.bool _) _ _ (Fr.keep (by assumption)) (b_or ?_ ?_) <;> omega
  · refine ok (.bool _) _ _ (Fr.keep (by assumption)) (b_or ?_ ?_) <;> omega
end Mine
namespace Mine
theorem setT5a : True := by
  (k_with "call ref" => (k_here; (with_reducible show wpAny _ _ (call (Value.ref 84) [Value.int _ _]) _ _ _); (refine Mine.Pure.use (Mine.c_is_restart (by k_extra "om") (by k_extra "om")) (by assumption) (by assumption) (by assumption) (by assumption) (by assumption) rfl (by assumption) (by k_extra "om") (by k_extra "om") ?_ ?_); rotate_left 1; (intro C9 e9 h' tk' er9; exact er9.elim); intro r9 h' tk' F' N' st9 ok9; (try dsimp only at ok9); rcases ok9 with ⟨e9, ok9⟩ | ⟨e9, ok9⟩ <;> subst e9))
  trivial
theorem c_has_length {w : World} {mean mg mb} {c : Int} {tc : Tok} (h0 : 0 ≤ c) (h1 : c < 256) :
    PC w mean mg mb 91 5 30 [.int c tc]
      (fun h r h' => (r = .bool true ∧ c ≠ 216 ∧ c ≠ 217 ∧ c ≠ 1 ∧ (c < 208 ∨ 215 < c)) ∨ (r = .bool false ∧ (c = 216 ∨ c = 217 ∨ c = 1 ∨ (208 ≤ c ∧ c ≤ 215))))
      (fun C => False) := by
  intro A base outer s Q E Z hh hd hu ok er
  refine wpAny_call ?_
  obtain ⟨B, X, T, _, _⟩ := id Z
  refine enterAt (hid := []) (binds := [(Str.ofString "code", .int c tc)]) Z (fun _ h => nomatch h) (by k_is) (by k_is) (by k_extra "om") (BindsTo.of_eq rfl) (locs rfl) ?_ (by decide) rfl rfl rfl
  intro L' h' F' N' l'
  dsimp only [mapOf, List.reverse, List.reverseAux] at F' ⊢
  k_fold
  k_extra "tb_start"
  · have q : ([216, 217, 1].any fun x => x == c) = true := by assumption
    refine ok (.bool _) _ _ (Fr.keep (by assumption)) (.inr ⟨by rw [q]; rfl, ?_⟩)
    simp at q; omega
  · refine ok (.bool _) _ _ (Fr.keep (by assumption)) (.inr ⟨rfl, ?_⟩)
    omega
  · have q : ([216, 217, 1].any fun x => x == c) = false := by assumption
    refine ok (.bool _) _ _ (Fr.keep (by assumption)) (.inl ⟨rfl, ?_⟩)
    simp at q; omega
end Mine
end

section
open PySem PySem.W PySem.Calls PyProof.Rows PySem.Spec
set_option Elab.async false
set_option maxRecDepth 100000
set_option maxHeartbeats 4000000
namespace Mine
theorem setT6 : True := by
  w_top off
  k_with_none
  (k_with "om" => (first | assumption | decide | exact Mine.dp (by assumption) | exact Mine.dp1 (by assumption) | exact Mine.dp0 (by assumption) | exact Nat.le_trans (by assumption) (by decide) | exact Int.le_refl _ | exact Int.not_lt.mp (by assumption) | exact Int.not_le.mp (by assumption) | exact Int.le_of_lt (by assumption) | exact Int.add_one_le_of_lt (by assumption) | omega))
  (k_with "tb_start" => repeat' ((fail_if_success (with_reducible show wpAny _ _ (exec (Stmt.While _ _ _ _) _) _ _ _)); (fail_if_success (with_reducible show wpAny _ _ (pyIter _) _ _ _)); first | (k_unfold; (try dsimp only)) | (k_end; wrow_close) | walk1 | (dsimp only; walk1) | fail "no step"))
  (k_with "call builtin:len" => ((with_reducible show wpAny _ _ (call (Value.builtin "len") [Value.bytes _ _]) _ _ _); refine len_bytes (by k_extra "om") ?_))
  (k_with "subscriptTail" => ((with_reducible show wpAny _ _ (subscriptTail _ _ (Value.bytes _ _) (Value.int _ _)) _ _ _); (refine Mine.item_O (by k_extra "om") (by k_extra "om") (by k_extra "om") ?_); intro _ _ _ _))
  (k_with "tb_rel" => (intro y; dsimp only; (repeat' split) <;> first | rfl | (simp_all; done) | (simp_all; contradiction)))
  (k_with "exec Raise some none" => (k_here; refine Mine.raise_made (by assumption) ?_))
  (k_with "call ref" => (k_here; (with_reducible show wpAny _ _ (call (Value.ref _) [Value.str _ _]) _ _ _); (refine Mine.make_exc (by unfold Mine.XCls; decide) (by assumption) (by assumption) (by assumption) (by assumption) rfl (by assumption) (by k_extra "om") (by k_extra "om") ?_); intro e9 h9 tk9 x9 c9; refine ⟨_, _, rfl, x9.2.2, c9, ?_⟩; try dsimp only))
  (k_with "leaving ref" => (k_here; (refine Mine.leave_newC (by assumption) (by assumption) (by assumption) ?_); intro h' R' U'; (try dsimp only at R' U' ⊢)))
  (k_with "subscriptTail" => (k_here; (with_reducible show wpAny _ _ (subscriptTail _ (Expr.Slice _ _ none _) (Value.bytes _ _) (Value.ref _)) _ _ _); (with_reducible rename Fr _ _ _ _ => F'); (with_reducible rename News _ _ _ _ => N'); (refine KBc.slice_K (s := ⟨_, _, _, _, _⟩) F' N' rfl (by constructor) (by constructor) (by rw [KBw.ints_length]; omega) ?_); intro h' t' k' F' N' _))
  (k_with "call type:bytes" => (k_here; (with_reducible show wpAny _ _ (call (Value.type _) [Value.bytes _ _]) _ _ _); refine Mine.bytes_same ?_))
  (k_with "assign Tuple" => (k_here; (with_reducible show wpAny _ _ (assign (Expr.Tuple _ _ _) _ (Value.ref _)) _ _ _); (refine unpackN_ (by assumption) (by assumption) (News.isTup (by assumption) (by k_mem)) (by assumption) rfl rfl ?_); intro h' F' N'))
  trivial
theorem fr_fresh {g h : Heap} {L a : Addr} {m : Str → Option Value} (F : Fr g L h m) (e : h.get? a = none) : g.get? a = none := by
  cases q : g.get? a with
  | none => rfl
  | some o => rw [F.keep _ _ q] at e; cases e
theorem news_tup {g h h₁ : Heap} {L a : Addr} {m m' : Str → Option Value} {news : List (Addr × Obj)} {vs : List Value} (F₁ : Fr g L h₁ m') (F : Fr g L h m) (N : News g L h news) (ha : h.get? a = some (tupObj vs)) (e : h₁.get? a = none) :
    News g L h ((a, tupObj vs) :: news) := News.more F N ha (fun _ _ q => by cases q) (fr_fresh F₁ e)
def Mn (b : Array UInt8) (p : Int) : Prop := Mk b p ∧ (O b (p + 1) < 208 ∨ 215 < O b (p + 1))
theorem de_none {b : Array UInt8} {i p : Int} (hP : i ≤ p ∧ Mk b p ∧ ∀ q, i ≤ q → q < p → ¬ Mn b q) (hr : 208 ≤ O b (p + 1) ∧ O b (p + 1) ≤ 215) (hn : ∀ p', p + 2 ≤ p' → ¬ Mk b p') : ∀ p', i ≤ p' → ¬ Mn b p' := by
  intro p' h1 h2
  rcases (by k_extra "om" : p' < p ∨ p' = p ∨ p' = p + 1 ∨ p + 2 ≤ p') with h | h | h | h
  · exact hP.2.2 p' h1 h h2
  · subst h; have := h2.2; omega
  · subst h; have := h2.1.2.1; omega
  · exact hn p' h h2.1
theorem de_some {b : Array UInt8} {i p p' : Int} (hP : i ≤ p ∧ Mk b p ∧ ∀ q, i ≤ q → q < p → ¬ Mn b q) (hr : 208 ≤ O b (p + 1) ∧ O b (p + 1) ≤ 215) (hi : p + 2 ≤ p') (hm : Mk b p') (hq : ∀ q, p + 2 ≤ q → q < p' → ¬ Mk b q) :
    i ≤ p' ∧ Mk b p' ∧ ∀ q, i ≤ q → q < p' → ¬ Mn b q := by
  refine ⟨by k_extra "om", hm, ?_⟩
  intro q h1 h3 h2
  rcases (by k_extra "om" : q < p ∨ q = p ∨ q = p + 1 ∨ p + 2 ≤ q) with h | h | h | h
  · exact hP.2.2 q h1 h h2
  · subst h; have := h2.2; omega
  · subst h; have := h2.1.2.1; omega
  · exact hq q h h3 h2.1
def Fst (b : Array UInt8) (i p : Int) : Prop := i ≤ p ∧ Mn b p ∧ ∀ q, i ≤ q → q < p → ¬ Mn b q
end Mine
namespace Mine
theorem setT6a : True := by
  (k_with "call ref" => (k_here; (with_reducible show wpAny _ _ (call (Value.ref 84) [Value.int _ _]) _ _ _); (refine Mine.Pure.use (Mine.c_is_restart (by first | exact Mine.O_lo _ _ | k_extra "om") (by first | exact Mine.O_hi _ _ | k_extra "om")) (by assumption) (by assumption) (by assumption) (by assumption) (by assumption) rfl (by assumption) (by k_extra "om") (by k_extra "om") ?_ ?_); rotate_left 1; (intro C9 e9 h' tk' er9; exact er9.elim); intro r9 h' tk' F' N' st9 ok9; (try dsimp only at ok9); rcases ok9 with ⟨e9, ok9⟩ | ⟨e9, ok9⟩ <;> subst e9))
  (k_with "call ref" => (k_here; (with_reducible show wpAny _ _ (call (Value.ref 120) [Value.bytes _ _, Value.int _ _]) _ _ _); (rename Fr _ _ _ _ => lF); (refine Mine.Pure.use (Mine.c_next_marker (by k_extra "om") (by k_extra "om")) (by assumption) lF (by assumption) (by assumption) (by assumption) rfl (by assumption) (by k_extra "om") (by k_extra "om") ?_ ?_); rotate_left 1; (intro C9 e9 h' tk' er9; exact er9.elim); intro r9 h' tk' F' N' st9 ok9; (try dsimp only at ok9); rcases ok9 with ⟨e9, ok9⟩ | ⟨a9, p9, tp9, tc9, e9, g9, n9, ok9, m9, q9⟩ <;> subst e9; rotate_left 1; (have N9 := Mine.news_tup lF F' N' g9 n9); rotate_left 1))
  trivial
theorem c_data_end {w : World} {mean mg mb} {b : Array UInt8} {tb : Tok} {i : Int} {ti : Tok} (hb : b.size ≤ 1000) (hi : 0 ≤ i) :
    PC w mean mg mb 127 7 40 [.bytes b tb, .int i ti]
      (fun h r h' => ∃ e te p, r = .int e te ∧ i ≤ e ∧ e ≤ p ∧ Fst b i p ∧ ∀ q, e ≤ q → q < p → O b q = 255)
      (fun C => C = 68 ∧ ∀ p, i ≤ p → ¬ Mn b p) := by
  intro A base outer s Q E Z hh hd hu ok er
  refine wpAny_call ?_
  obtain ⟨B, X, T, _, _⟩ := id Z
  refine enterAt (hid := []) (binds := [(Str.ofString "octets", .bytes b tb), (Str.ofString "at", .int i ti)]) Z (fun _ h => nomatch h) (by k_is) (by k_is) (by k_extra "om") (BindsTo.of_eq rfl) (locs rfl) ?_ (by decide) rfl rfl rfl
  intro L' h' F' N' l'
  dsimp only [mapOf, List.reverse, List.reverseAux] at F' ⊢
  k_fold
  refine st_cut (α := Option (Addr × Int × Tok × Tok)) (h₀ := s.heap) (L := L')
    (fun x y => if y = Str.ofString "found" then some (match x with | none => .none | some (a, _, _, _) => .ref a) else if y = Str.ofString "at" then some (.int i ti) else if y = Str.ofString "octets" then some (.bytes b tb) else none)
    (fun x => match x with | none => [] | some (a, p, tp, tc) => [(a, tupObj [.int p tp, .int (O b (p + 1)) tc])])
    (fun x => match x with | none => ∀ p, i ≤ p → ¬ Mn b p | some (_, p, _, _) => i ≤ p ∧ Mk b p ∧ ∀ q, i ≤ q → q < p → ¬ Mn b q) ?_ ?_
  · k_extra "tb_start"
    · exact CutEnd.intro none (by assumption) (by assumption) (fun _ => rfl) (fun _ h => nomatch h) (fun p h1 h2 => ok9 p h1 h2.1)
    · exact CutEnd.intro (some (a9, p9, tp9, tc9)) (by assumption) (by assumption) (fun _ => rfl) (fun _ h => h) ⟨ok9, m9, fun q h1 h2 h3 => q9 q h1 h2 h3.1⟩
  intro x₀ h₀ tk₀ P₀ F₀ N₀
  show wpAny _ _ _ _ _ _
  k_extra "tb_start"
  refine While_st (α := Option (Addr × Int × Tok × Tok))
    (fun x y => if y = Str.ofString "found" then some (match x with | none => .none | some (a, _, _, _) => .ref a) else if y = Str.ofString "at" then some (.int i ti) else if y = Str.ofString "octets" then some (.bytes b tb) else none)
    (fun x => match x with | none => [] | some (a, p, tp, tc) => [(a, tupObj [.int p tp, .int (O b (p + 1)) tc])])
    (fun x => match x with | none => ∀ p, i ≤ p → ¬ Mn b p | some (_, p, _, _) => i ≤ p ∧ Mk b p ∧ ∀ q, i ≤ q → q < p → ¬ Mn b q)
    (fun x => match x with | none => 0 | some (_, p, _, _) => (b.size - p).toNat) x₀ F₀ N₀ (fun _ => rfl) (fun _ h => h) P₀ ?_
  all_goals (
    skip
    rintro (_ | ⟨a, p, tp, tc⟩) h₁ tk₁ hP F' N'
    all_goals (
      dsimp only at hP F' N' ⊢
      k_fold
      k_extra "tb_start"))
  all_goals first
    | exact er _ _ _ _ ⟨rfl, hP⟩ (by assumption) (by assumption)
    | (refine TurnEnd.intro none (by assumption) (by assumption) (by k_extra "tb_rel") (fun _ h => nomatch h) (de_none hP (by assumption) (by assumption)) ?_
       have := hP.2.1.1; dsimp only; omega)
    | (refine TurnEnd.intro (some (_, _, _, _)) (by assumption) (by assumption) (by k_extra "tb_rel") (fun _ h => List.mem_cons.mpr (.inl (List.mem_singleton.mp h))) (de_some hP (by assumption) (by assumption) (by assumption) (by assumption)) ?_
       have := hP.2.1.1; dsimp only; omega)
    | skip
  all_goals (
    refine While_st (α := Int × Tok) (fun x y => if y = Str.ofString "end" then some (.int x.1 x.2) else if y = Str.ofString "found" then some (.ref a) else if y = Str.ofString "at" then some (.int i ti) else if y = Str.ofString "octets" then some (.bytes b tb) else none)
      (fun _ => []) (fun x => i ≤ x.1 ∧ x.1 ≤ p ∧ ∀ q, x.1 ≤ q → q < p → O b q = 255) (fun x => x.1.toNat) (p, tp) (by assumption) (by assumption) (fun _ => rfl) (fun _ h => nomatch h) ⟨hP.1, Int.le_refl _, by intro q h1 h2; dsimp only at h1; omega⟩ ?_
    have hps := hP.2.1.1
    rintro ⟨e, te⟩ h₂ tk₂ ⟨he1, he2, heq⟩ F' N'
    dsimp only at he1 he2 heq F' N' ⊢
    k_fold
    k_extra "tb_start")
  all_goals first
    | (refine TurnEnd.intro (e - 1, _) (by assumption) (by assumption) (by k_extra "tb_rel") (fun _ h => nomatch h) ⟨by dsimp only; k_extra "om", by dsimp only; k_extra "om", ?_⟩ (by dsimp only; first | exact Mine.ms (by k_extra "om") (by k_extra "om") | omega)
       intro q h1 h2
       dsimp only at h1
       rcases (by k_extra "om" : q = e - 1 ∨ e ≤ q) with h3 | h3
       · rw [h3]; assumption
       · exact heq q h3 h2)
    | (refine ok (.int e te) _ _ (Fr.keep (by assumption)) ⟨e, te, p, rfl, he1, he2, ⟨hP.1, ⟨hP.2.1, by k_extra "om"⟩, hP.2.2⟩, heq⟩)
end Mine
end

section
open PySem PySem.W PySem.Calls PyProof.Rows PySem.Spec
set_option Elab.async false
set_option maxRecDepth 100000
set_option maxHeartbeats 4000000
namespace Mine
theorem setE7 : True := by
  w_top off
  k_with_none
  (k_with "om" => (first | assumption | decide | exact Mine.dp (by assumption) | exact Mine.dp1 (by assumption) | exact Mine.dp0 (by assumption) | exact Nat.le_trans (by assumption) (by decide) | exact Int.le_refl _ | exact Int.not_lt.mp (by assumption) | exact Int.not_le.mp (by assumption) | exact Int.le_of_lt (by assumption) | exact Int.add_one_le_of_lt (by assumption) | omega))
  (k_with "tb_start" => repeat' ((fail_if_success (with_reducible show wpAny _ _ (exec (Stmt.While _ _ _ _) _) _ _ _)); first | (k_unfold; (try dsimp only)) | (k_end; wrow_close) | walk1 | (dsimp only; walk1) | fail "no step"))
  (k_with "call builtin:len" => ((with_reducible show wpAny _ _ (call (Value.builtin "len") [Value.bytes _ _]) _ _ _); refine len_bytes (by k_extra "om") ?_))
  (k_with "subscriptTail" => ((with_reducible show wpAny _ _ (subscriptTail _ _ (Value.bytes _ _) (Value.int _ _)) _ _ _); (refine Mine.item_O (by k_extra "om") (by k_extra "om") (by k_extra "om") ?_); intro _ _ _ _))
  (k_with "tb_rel" => (intro y; dsimp only; (repeat' split) <;> first | rfl | simp_all))
  (k_with "exec Raise some none" => (k_here; refine Mine.raise_made (by assumption) ?_))
  (k_with "call ref" => (k_here; (with_reducible show wpAny _ _ (call (Value.ref _) [Value.str _ _]) _ _ _); (refine Mine.make_exc (by unfold Mine.XCls; decide) (by assumption) (by assumption) (by assumption) (by assumption) rfl (by assumption) (by k_extra "om") (by k_extra "om") ?_); intro e9 h9 tk9 x9 c9; refine ⟨_, _, rfl, x9.2.2, c9, ?_⟩; try dsimp only))
  (k_with "leaving ref" => (k_here; (refine Mine.leave_newC (by assumption) (by assumption) (by assumption) ?_); intro h' R' U'; (try dsimp only at R' U' ⊢)))
  (k_with "subscriptTail" => (k_here; (with_reducible show wpAny _ _ (subscriptTail _ (Expr.Slice _ _ none _) (Value.bytes _ _) (Value.ref _)) _ _ _); (with_reducible rename Fr _ _ _ _ => F'); (with_reducible rename News _ _ _ _ => N'); (refine KBc.slice_K (s := ⟨_, _, _, _, _⟩) F' N' rfl (by constructor) (by constructor) (by rw [KBw.ints_length]; omega) ?_); intro h' t' k' F' N' _))
  (k_with "call type:bytes" => (k_here; (with_reducible show wpAny _ _ (call (Value.type _) [Value.bytes _ _]) _ _ _); refine Mine.bytes_same ?_))
  (k_with "assign Tuple" => (k_here; (with_reducible show wpAny _ _ (assign (Expr.Tuple _ _ _) _ (Value.ref _)) _ _ _); (refine unpackN_ (by assumption) (by assumption) (News.isTup (by assumption) (by k_mem)) (by assumption) rfl rfl ?_); intro h' F' N'))
  trivial
/-- a piece at its address, its code -/
def PieceAt (h : Heap) (x : Addr) (c : Int) : Prop := ∃ dx es n tc, h.get? x = some (instObj 109 dx) ∧ h.get? dx = some (dictOf es n) ∧ getL (Str.ofString "code") es = some (some (.int c tc))
theorem PieceAt.keeps {h h' : Heap} {x : Addr} {c : Int} (p : PieceAt h x c) (k : ∀ b o, h.get? b = some o → h'.get? b = some o) : PieceAt h' x c := by
  obtain ⟨dx, es, n, tc, h1, h2, h3⟩ := p
  exact ⟨dx, es, n, tc, k _ _ h1, k _ _ h2, h3⟩
def PieceIn (h : Heap) (x dx : Addr) (c : Int) : Prop := ∃ es n tc, h.get? x = some (instObj 109 dx) ∧ h.get? dx = some (dictOf es n) ∧ getL (Str.ofString "code") es = some (some (.int c tc))
theorem news_put {g h h₀ : Heap} {L a : Addr} {m : Str → Option Value} {news : List (Addr × Obj)} {o : Obj} (F : Fr g L h₀ m) (N : News g L h news) (ho : h.get? a = some o) (e : h₀.get? a = none) : News g L h ((a, o) :: news) := by
  intro p hp
  rcases List.mem_cons.mp hp with rfl | hp
  · refine ⟨ho, fun q => ?_, ?_⟩
    · obtain ⟨oL, _, _, hL, _⟩ := F.ns
      have q' : a = L := q
      rw [q', hL] at e; cases e
    · cases q : g.get? a with
      | none => rfl
      | some o' => rw [F.keep _ _ q] at e; cases e
  · exact N p hp
theorem piece_init1 {w : World} {mean mg mb} {A : Around} {base g : Heap} {outer : List Env} {s : Shared} {x dx : Addr} {c : Int} {tc : Tok} {R : Result → Shared → Prop}
    (Z : AtP w mean mg mb A base outer g s.heap)
    (hx : s.heap.get? x = some (instObj 109 dx)) (hdx : s.heap.get? dx = some (dictOf [] 0)) (hxn : g.get? x = none) (hdn : g.get? dx = none) (hne : @LT.lt Nat _ dx x)
    (hd : A.depth + 1 < recursionLimit)
    (hQ : ∀ h' tk', g.StaysIn h' → PieceIn h' x dx c → R (.ok (.ret .none)) { s with heap := h', toks := tk' }) :
    codeAny (model PySem.Challenge.rw_ok0134_01.row.prog w) A (.call (.ref 106) ⟨[.ref x, .int c tc], []⟩) R s := by
  obtain ⟨B, X, T, _, _⟩ := id Z
  refine enterAt (hid := [(x, instObj 109 dx), (dx, dictOf [] 0)]) (binds := [(Str.ofString "self", .ref x), (Str.ofString "code", .int c tc), (Str.ofString "payload", .bytes #[] 325), (Str.ofString "data", .bytes #[] 326)]) Z (by
      intro q hq
      rcases List.mem_cons.mp hq with rfl | hq
      · exact ⟨hx, hxn⟩
      · obtain rfl := List.mem_singleton.mp hq
        exact ⟨hdx, hdn⟩) (by k_is) (by k_is) (by k_extra "om") (BindsTo.of_defaults (T := 99) rfl (X.keeps Z.sub _ _ rfl) rfl rfl rfl) (locs rfl) ?_ (by decide) rfl rfl rfl
  intro L' h' F' N' l'
  dsimp only [mapOf, List.reverse, List.reverseAux] at F' ⊢
  clear hx hdx hxn hdn l'
  k_fold
  k_extra "tb_start"
  exact hQ _ _ (Fr.keep (by assumption)) ⟨_, _, tc, News.get (by assumption) (.head _), News.get (by assumption) (.tail _ (.head _)), by with_unfolding_all rfl⟩
theorem piece_init2 {w : World} {mean mg mb} {A : Around} {base g : Heap} {outer : List Env} {s : Shared} {x dx : Addr} {c : Int} {tc : Tok} {pl : Array UInt8} {tp : Tok} {R : Result → Shared → Prop}
    (Z : AtP w mean mg mb A base outer g s.heap)
    (hx : s.heap.get? x = some (instObj 109 dx)) (hdx : s.heap.get? dx = some (dictOf [] 0)) (hxn : g.get? x = none) (hdn : g.get? dx = none) (hne : @LT.lt Nat _ dx x)
    (hd : A.depth + 1 < recursionLimit)
    (hQ : ∀ h' tk', g.StaysIn h' → PieceIn h' x dx c → R (.ok (.ret .none)) { s with heap := h', toks := tk' }) :
    codeAny (model PySem.Challenge.rw_ok0134_01.row.prog w) A (.call (.ref 106) ⟨[.ref x, .int c tc, .bytes pl tp], []⟩) R s := by
  obtain ⟨B, X, T, _, _⟩ := id Z
  refine enterAt (hid := [(x, instObj 109 dx), (dx, dictOf [] 0)]) (binds := [(Str.ofString "self", .ref x), (Str.ofString "code", .int c tc), (Str.ofString "payload", .bytes pl tp), (Str.ofString "data", .bytes #[] 326)]) Z (by
      intro q hq
      rcases List.mem_cons.mp hq with rfl | hq
      · exact ⟨hx, hxn⟩
      · obtain rfl := List.mem_singleton.mp hq
        exact ⟨hdx, hdn⟩) (by k_is) (by k_is) (by k_extra "om") (BindsTo.of_defaults (T := 99) rfl (X.keeps Z.sub _ _ rfl) rfl rfl rfl) (locs rfl) ?_ (by decide) rfl rfl rfl
  intro L' h' F' N' l'
  dsimp only [mapOf, List.reverse, List.reverseAux] at F' ⊢
  clear hx hdx hxn hdn l'
  k_fold
  k_extra "tb_start"
  exact hQ _ _ (Fr.keep (by assumption)) ⟨_, _, tc, News.get (by assumption) (.head _), News.get (by assumption) (.tail _ (.head _)), by with_unfolding_all rfl⟩
theorem piece_init3 {w : World} {mean mg mb} {A : Around} {base g : Heap} {outer : List Env} {s : Shared} {x dx : Addr} {c : Int} {tc : Tok} {pl da : Array UInt8} {tp td : Tok} {R : Result → Shared → Prop}
    (Z : AtP w mean mg mb A base outer g s.heap)
    (hx : s.heap.get? x = some (instObj 109 dx)) (hdx : s.heap.get? dx = some (dictOf [] 0)) (hxn : g.get? x = none) (hdn : g.get? dx = none) (hne : @LT.lt Nat _ dx x)
    (hd : A.depth + 1 < recursionLimit)
    (hQ : ∀ h' tk', g.StaysIn h' → PieceIn h' x dx c → R (.ok (.ret .none)) { s with heap := h', toks := tk' }) :
    codeAny (model PySem.Challenge.rw_ok0134_01.row.prog w) A (.call (.ref 106) ⟨[.ref x, .int c tc, .bytes pl tp, .bytes da td], []⟩) R s := by
  obtain ⟨B, X, T, _, _⟩ := id Z
  refine enterAt (hid := [(x, instObj 109 dx), (dx, dictOf [] 0)]) (binds := [(Str.ofString "self", .ref x), (Str.ofString "code", .int c tc), (Str.ofString "payload", .bytes pl tp), (Str.ofString "data", .bytes da td)]) Z (by
      intro q hq
      rcases List.mem_cons.mp hq with rfl | hq
      · exact ⟨hx, hxn⟩
      · obtain rfl := List.mem_singleton.mp hq
        exact ⟨hdx, hdn⟩) (by k_is) (by k_is) (by k_extra "om") (BindsTo.of_defaults (T := 99) rfl (X.keeps Z.sub _ _ rfl) rfl rfl rfl) (locs rfl) ?_ (by decide) rfl rfl rfl
  intro L' h' F' N' l'
  dsimp only [mapOf, List.reverse, List.reverseAux] at F' ⊢
  clear hx hdx hxn hdn l'
  k_fold
  k_extra "tb_start"
  exact hQ _ _ (Fr.keep (by assumption)) ⟨_, _, tc, News.get (by assumption) (.head _), News.get (by assumption) (.tail _ (.head _)), by with_unfolding_all rfl⟩
theorem piece_made {w : World} {A : Around} {C : Addr} (hC : C = 109) {R : Result → Shared → Prop} {h : Heap} {g : Array GenState} {d : Drawn} {t : Nat} {os : OsState} {rest : List Value} (X : (hd.heap_39 w.params).In h)
    (hq : codeAny (model PySem.Challenge.rw_ok0134_01.row.prog w) (A.under (.builtin "type.__call__" ⟨.ref C :: rest, []⟩)) (.call (.ref 106) ⟨.ref (h.objs.size + 1) :: rest, []⟩) (InitBack (h.objs.size + 1) R) ⟨(h.push emptyDict).push (instObj C h.objs.size), g, d, t, os⟩) :
    codeAny (model PySem.Challenge.rw_ok0134_01.row.prog w) A (.call (.ref C) ⟨rest, []⟩) R ⟨h, g, d, t, os⟩ := by
  subst hC
  exact make_core (makes_of X (by k_is)) (looks_findIn X (by k_is)) (fun self => bind_fn X self (by k_is)) (.inl rfl) hq
theorem make_piece1 {w : World} {mean mg mb} {A : Around} {base g : Heap} {outer : List Env} {s : Shared} {L a : Addr} {m : Str → Option Value} {cn : Str} {cs : Scope} {ccd : Value} {news : List (Addr × Obj)} {c : Int} {tc : Tok} {Q E : Value → Shared → Prop}
    (B : Below A base outer g) (F : Fr g L s.heap m) (N : News g L s.heap news) (X : (hd.heap_39 w.params).In g) (T : Top hd.view_39 (looseW hd.view_39 [PySem.Str.ofString "Piece"]) mean mg mb g) (hk : cs.kind = .function)
    (hd : A.depth + 3 < recursionLimit)
    (hQ : ∀ x dx es n t' h' tk', Fr g L h' m → News g L h' ((x, instObj 109 dx) :: (dx, dictOf es n) :: news) → getL (Str.ofString "code") es = some (some (.int c t')) → Q (.ref x) { s with heap := h', toks := tk' }) :
    wpAny (model PySem.Challenge.rw_ok0134_01.row.prog w) (A.deeper (envOf cn cs L a ccd)) (call (.ref 109) [.int c tc]) Q E s := by
  obtain ⟨h, gg, d, t, os⟩ := s
  have Z : AtP w mean mg mb (A.deeper (envOf cn cs L a ccd)) base (envOf cn cs L a ccd :: outer) h h := At.ofFr B F X T hk
  have k : ∀ b o, h.get? b = some o → ((h.push emptyDict).push (instObj 109 h.objs.size)).get? b = some o := fun b o e => Heap.get?_push_of_some _ (Heap.get?_push_of_some _ e)
  have Z' : AtP w mean mg mb ((A.deeper (envOf cn cs L a ccd)).under (.builtin "type.__call__" ⟨.ref 109 :: [.int c tc], []⟩)) base (envOf cn cs L a ccd :: outer) h ((h.push emptyDict).push (instObj 109 h.objs.size)) :=
    ⟨⟨Z.B.stack, Z.B.stays, Z.B.frames⟩, Z.X, Z.T, k, by simp only [Heap.size_push]; omega⟩
  refine wpAny_call (piece_made rfl Z.X (piece_init1 Z' (by heap_get) (by heap_get) (Heap.get?_none_of_le (Nat.le_succ _)) (Heap.get?_none_of_le (Nat.le_refl _)) (Nat.lt_succ_self _) (by show A.depth + 1 + 1 + 1 < _; omega) fun h' tk' st p => ⟨rfl, ?_⟩))
  obtain ⟨es, n, t', g1, g2, g3⟩ := p
  exact hQ _ _ _ _ _ h' tk' ⟨F.ns.keeps st, fun b o e => st b o (F.keep b o e), F.above⟩ (news_put F (news_put F (fun q hq => ⟨st _ _ (N q hq).1, (N q hq).2⟩) g2 (Heap.get?_none_of_le (Nat.le_refl _))) g1 (Heap.get?_none_of_le (Nat.le_succ _))) g3
theorem make_piece2 {w : World} {mean mg mb} {A : Around} {base g : Heap} {outer : List Env} {s : Shared} {L a : Addr} {m : Str → Option Value} {cn : Str} {cs : Scope} {ccd : Value} {news : List (Addr × Obj)} {c : Int} {tc : Tok} {pl : Array UInt8} {tp : Tok} {Q E : Value → Shared → Prop}
    (B : Below A base outer g) (F : Fr g L s.heap m) (N : News g L s.heap news) (X : (hd.heap_39 w.params).In g) (T : Top hd.view_39 (looseW hd.view_39 [PySem.Str.ofString "Piece"]) mean mg mb g) (hk : cs.kind = .function)
    (hd : A.depth + 3 < recursionLimit)
    (hQ : ∀ x dx es n t' h' tk', Fr g L h' m → News g L h' ((x, instObj 109 dx) :: (dx, dictOf es n) :: news) → getL (Str.ofString "code") es = some (some (.int c t')) → Q (.ref x) { s with heap := h', toks := tk' }) :
    wpAny (model PySem.Challenge.rw_ok0134_01.row.prog w) (A.deeper (envOf cn cs L a ccd)) (call (.ref 109) [.int c tc, .bytes pl tp]) Q E s := by
  obtain ⟨h, gg, d, t, os⟩ := s
  have Z : AtP w mean mg mb (A.deeper (envOf cn cs L a ccd)) base (envOf cn cs L a ccd :: outer) h h := At.ofFr B F X T hk
  have k : ∀ b o, h.get? b = some o → ((h.push emptyDict).push (instObj 109 h.objs.size)).get? b = some o := fun b o e => Heap.get?_push_of_some _ (Heap.get?_push_of_some _ e)
  have Z' : AtP w mean mg mb ((A.deeper (envOf cn cs L a ccd)).under (.builtin "type.__call__" ⟨.ref 109 :: [.int c tc, .bytes pl tp], []⟩)) base (envOf cn cs L a ccd :: outer) h ((h.push emptyDict).push (instObj 109 h.objs.size)) :=
    ⟨⟨Z.B.stack, Z.B.stays, Z.B.frames⟩, Z.X, Z.T, k, by simp only [Heap.size_push]; omega⟩
  refine wpAny_call (piece_made rfl Z.X (piece_init2 Z' (by heap_get) (by heap_get) (Heap.get?_none_of_le (Nat.le_succ _)) (Heap.get?_none_of_le (Nat.le_refl _)) (Nat.lt_succ_self _) (by show A.depth + 1 + 1 + 1 < _; omega) fun h' tk' st p => ⟨rfl, ?_⟩))
  obtain ⟨es, n, t', g1, g2, g3⟩ := p
  exact hQ _ _ _ _ _ h' tk' ⟨F.ns.keeps st, fun b o e => st b o (F.keep b o e), F.above⟩ (news_put F (news_put F (fun q hq => ⟨st _ _ (N q hq).1, (N q hq).2⟩) g2 (Heap.get?_none_of_le (Nat.le_refl _))) g1 (Heap.get?_none_of_le (Nat.le_succ _))) g3
theorem make_piece3 {w : World} {mean mg mb} {A : Around} {base g : Heap} {outer : List Env} {s : Shared} {L a : Addr} {m : Str → Option Value} {cn : Str} {cs : Scope} {ccd : Value} {news : List (Addr × Obj)} {c : Int} {tc : Tok} {pl da : Array UInt8} {tp td : Tok} {Q E : Value → Shared → Prop}
    (B : Below A base outer g) (F : Fr g L s.heap m) (N : News g L s.heap news) (X : (hd.heap_39 w.params).In g) (T : Top hd.view_39 (looseW hd.view_39 [PySem.Str.ofString "Piece"]) mean mg mb g) (hk : cs.kind = .function)
    (hd : A.depth + 3 < recursionLimit)
    (hQ : ∀ x dx es n t' h' tk', Fr g L h' m → News g L h' ((x, instObj 109 dx) :: (dx, dictOf es n) :: news) → getL (Str.ofString "code") es = some (some (.int c t')) → Q (.ref x) { s with heap := h', toks := tk' }) :
    wpAny (model PySem.Challenge.rw_ok0134_01.row.prog w) (A.deeper (envOf cn cs L a ccd)) (call (.ref 109) [.int c tc, .bytes pl tp, .bytes da td]) Q E s := by
  obtain ⟨h, gg, d, t, os⟩ := s
  have Z : AtP w mean mg mb (A.deeper (envOf cn cs L a ccd)) base (envOf cn cs L a ccd :: outer) h h := At.ofFr B F X T hk
  have k : ∀ b o, h.get? b = some o → ((h.push emptyDict).push (instObj 109 h.objs.size)).get? b = some o := fun b o e => Heap.get?_push_of_some _ (Heap.get?_push_of_some _ e)
  have Z' : AtP w mean mg mb ((A.deeper (envOf cn cs L a ccd)).under (.builtin "type.__call__" ⟨.ref 109 :: [.int c tc, .bytes pl tp, .bytes da td], []⟩)) base (envOf cn cs L a ccd :: outer) h ((h.push emptyDict).push (instObj 109 h.objs.size)) :=
    ⟨⟨Z.B.stack, Z.B.stays, Z.B.frames⟩, Z.X, Z.T, k, by simp only [Heap.size_push]; omega⟩
  refine wpAny_call (piece_made rfl Z.X (piece_init3 Z' (by heap_get) (by heap_get) (Heap.get?_none_of_le (Nat.le_succ _)) (Heap.get?_none_of_le (Nat.le_refl _)) (Nat.lt_succ_self _) (by show A.depth + 1 + 1 + 1 < _; omega) fun h' tk' st p => ⟨rfl, ?_⟩))
  obtain ⟨es, n, t', g1, g2, g3⟩ := p
  exact hQ _ _ _ _ _ h' tk' ⟨F.ns.keeps st, fun b o e => st b o (F.keep b o e), F.above⟩ (news_put F (news_put F (fun q hq => ⟨st _ _ (N q hq).1, (N q hq).2⟩) g2 (Heap.get?_none_of_le (Nat.le_refl _))) g1 (Heap.get?_none_of_le (Nat.le_succ _))) g3
end Mine
end

section
open PySem PySem.W PySem.Calls PyProof.Rows PySem.Spec
set_option Elab.async false
set_option maxRecDepth 100000
set_option maxHeartbeats 4000000
namespace Mine
theorem setT7 : True := by
  w_top off
  k_with_none
  (k_with "om" => (first | assumption | decide | exact Mine.dp (by assumption) | exact Mine.dp1 (by assumption) | exact Mine.dp0 (by assumption) | exact Nat.le_trans (by assumption) (by decide) | exact Int.le_refl _ | exact Int.not_lt.mp (by assumption) | exact Int.not_le.mp (by assumption) | exact Int.le_of_lt (by assumption) | exact Int.add_one_le_of_lt (by assumption) | omega))
  (k_with "tb_start" => repeat' ((fail_if_success (with_reducible show wpAny _ _ (exec (Stmt.While _ _ _ _) _) _ _ _)); (fail_if_success (with_reducible show wpAny _ _ (pyIter _) _ _ _)); first | (k_unfold; (try dsimp only)) | (k_end; wrow_close) | walk1 | (dsimp only; walk1) | fail "no step"))
  (k_with "call builtin:len" => ((with_reducible show wpAny _ _ (call (Value.builtin "len") [Value.bytes _ _]) _ _ _); refine len_bytes (by k_extra "om") ?_))
  (k_with "subscriptTail" => ((with_reducible show wpAny _ _ (subscriptTail _ _ (Value.bytes _ _) (Value.int _ _)) _ _ _); (refine Mine.item_O (by k_extra "om") (by k_extra "om") (by k_extra "om") ?_); intro _ _ _ _))
  (k_with "tb_rel" => (intro y; dsimp only; (repeat' split) <;> first | rfl | (simp_all; done) | (simp_all; contradiction)))
  (k_with "exec Raise some none" => (k_here; refine Mine.raise_made (by assumption) ?_))
  (k_with "call ref" => (k_here; (with_reducible show wpAny _ _ (call (Value.ref _) [Value.str _ _]) _ _ _); (refine Mine.make_exc (by unfold Mine.XCls; decide) (by assumption) (by assumption) (by assumption) (by assumption) rfl (by assumption) (by k_extra "om") (by k_extra "om") ?_); intro e9 h9 tk9 x9 c9; refine ⟨_, _, rfl, x9.2.2, c9, ?_⟩; try dsimp only))
  (k_with "leaving ref" => (k_here; (refine Mine.leave_newC (by assumption) (by assumption) (by assumption) ?_); intro h' R' U'; (try dsimp only at R' U' ⊢)))
  (k_with "subscriptTail" => (k_here; (with_reducible show wpAny _ _ (subscriptTail _ (Expr.Slice _ _ none _) (Value.bytes _ _) (Value.ref _)) _ _ _); (with_reducible rename Fr _ _ _ _ => F'); (with_reducible rename News _ _ _ _ => N'); (refine KBc.slice_K (s := ⟨_, _, _, _, _⟩) F' N' rfl (by constructor) (by constructor) (by rw [KBw.ints_length]; omega) ?_); intro h' t' k' F' N' _))
  (k_with "call type:bytes" => (k_here; (with_reducible show wpAny _ _ (call (Value.type _) [Value.bytes _ _]) _ _ _); refine Mine.bytes_same ?_))
  (k_with "assign Tuple" => (k_here; (with_reducible show wpAny _ _ (assign (Expr.Tuple _ _ _) _ (Value.ref _)) _ _ _); (refine unpackN_ (by assumption) (by assumption) (News.isTup (by assumption) (by k_mem)) (by assumption) rfl rfl ?_); intro h' F' N'))
  trivial
theorem cd_b {b : Array UInt8} {i e : Int} (c : Cd b i e) : i < e ∧ e < b.size ∧ 0 ≤ O b e ∧ O b e < 256 := ⟨c.1, c.2.1, O_lo _ _, O_hi _ _⟩
end Mine
namespace Mine
theorem setT7a : True := by
  (k_with "leaving ref" => (k_here; (rename RaisedSN _ _ _ _ _ _ _ => rX); (refine leave_onSN (by assumption) (by assumption) rX (by assumption) ?_); intro h' R' _ U'; (try dsimp only at R' U' ⊢)))
  (k_with "call ref" => (k_here; (with_reducible show wpAny _ _ (call (Value.ref 84) [Value.int _ _]) _ _ _); (refine Mine.Pure.use (Mine.c_is_restart (by first | exact Mine.O_lo _ _ | k_extra "om") (by first | exact Mine.O_hi _ _ | k_extra "om")) (by assumption) (by assumption) (by assumption) (by assumption) (by assumption) rfl (by assumption) (by k_extra "om") (by k_extra "om") ?_ ?_); rotate_left 1; (intro C9 e9 h' tk' er9; exact er9.elim); intro r9 h' tk' F' N' st9 ok9; (try dsimp only at ok9); rcases ok9 with ⟨e9, ok9⟩ | ⟨e9, ok9⟩ <;> subst e9))
  (k_with "call ref" => (k_here; (with_reducible show wpAny _ _ (call (Value.ref 91) [Value.int _ _]) _ _ _); (refine Mine.Pure.use (Mine.c_has_length (by first | exact Mine.O_lo _ _ | k_extra "om") (by first | exact Mine.O_hi _ _ | k_extra "om")) (by assumption) (by assumption) (by assumption) (by assumption) (by assumption) rfl (by assumption) (by k_extra "om") (by k_extra "om") ?_ ?_); rotate_left 1; (intro C9 e9 h' tk' er9; exact er9.elim); intro r9 h' tk' F' N' st9 ok9; (try dsimp only at ok9); rcases ok9 with ⟨e9, ok9⟩ | ⟨e9, ok9⟩ <;> subst e9))
  (k_with "call ref" => (k_here; (with_reducible show wpAny _ _ (call (Value.ref 134) [Value.bytes _ _, Value.int _ _]) _ _ _); (rename Fr _ _ _ _ => lF); (refine Mine.Pure.use (Mine.c_read_code (by k_extra "om") (by k_extra "om")) (by assumption) lF (by assumption) (by assumption) (by assumption) rfl (by assumption) (by k_extra "om") (by k_extra "om") ?_ ?_); rotate_left 1; (intro C9 e9 h' tk' er9 R9 U9; (try dsimp only at er9 R9 U9 ⊢)); rotate_left 1; intro r9 h' tk' F' N' st9 ok9; (try dsimp only at ok9); (obtain ⟨a9, p9, tp9, tc9, e9, g9, n9, ok9, z9⟩ := ok9); subst e9; (have N9 := Mine.news_tup lF F' N' g9 n9); (have v9 := Mine.cd_b ok9)))
  (k_with "call ref" => (k_here; (with_reducible show wpAny _ _ (call (Value.ref 141) [Value.bytes _ _, Value.int _ _]) _ _ _); (rename Fr _ _ _ _ => lF); (refine Mine.Pure.use (Mine.c_read_payload (by k_extra "om") (by k_extra "om")) (by assumption) lF (by assumption) (by assumption) (by assumption) rfl (by assumption) (by k_extra "om") (by k_extra "om") ?_ ?_); rotate_left 1; (intro C9 e9 h' tk' er9 R9 U9; (try dsimp only at er9 R9 U9 ⊢)); rotate_left 1; intro r9 h' tk' F' N' st9 ok9; (try dsimp only at ok9); (obtain ⟨a9, p9, tp9, x9, tc9, e9, g9, n9, ok9, z9, y9, u9⟩ := ok9); subst e9; (have N9 := Mine.news_tup lF F' N' g9 n9)))
  (k_with "call ref" => (k_here; (with_reducible show wpAny _ _ (call (Value.ref 127) [Value.bytes _ _, Value.int _ _]) _ _ _); (rename Fr _ _ _ _ => lF); (refine Mine.Pure.use (Mine.c_data_end (by k_extra "om") (by k_extra "om")) (by assumption) lF (by assumption) (by assumption) (by assumption) rfl (by assumption) (by k_extra "om") (by k_extra "om") ?_ ?_); rotate_left 1; (intro C9 e9 h' tk' er9 R9 U9; (try dsimp only at er9 R9 U9 ⊢)); rotate_left 1; intro r9 h' tk' F' N' st9 ok9; (try dsimp only at ok9); (obtain ⟨x9, tx9, p9, e9, i9, l9, f9, q9⟩ := ok9); subst e9))
  (k_with "call ref" => (k_here; (with_reducible show wpAny _ _ (call (Value.ref 109) (Value.int _ _ :: _)) _ _ _); (first | refine Mine.make_piece1 (by assumption) (by assumption) (by assumption) (by assumption) (by assumption) rfl (by k_extra "om") ?_ | refine Mine.make_piece2 (by assumption) (by assumption) (by assumption) (by assumption) (by assumption) rfl (by k_extra "om") ?_ | refine Mine.make_piece3 (by assumption) (by assumption) (by assumption) (by assumption) (by assumption) rfl (by k_extra "om") ?_); intro x9 d9 es9 n9 t9 h' tk' F' N' p9))
  trivial
def Len (c : Int) : Prop := c ≠ 0 ∧ c ≠ 1 ∧ c ≠ 217 ∧ (c < 208 ∨ 216 < c)
/-- a place from which no piece is read -/
inductive StErr (b : Array UInt8) (i : Int) : Addr → Prop where
  | fill : (∀ q, i ≤ q → q < b.size → O b q = 255) → StErr b i 68
  | none : i < b.size → O b i ≠ 255 → StErr b i 44
  | code (e : Int) : Cd b i e → (O b e = 0 ∨ (208 ≤ O b e ∧ O b e ≤ 216)) → StErr b i 44
  | short (e : Int) : Cd b i e → Len (O b e) → b.size < e + 3 → StErr b i 68
  | small (e : Int) : Cd b i e → Len (O b e) → e + 3 ≤ b.size → sz b (e + 1) < 2 → StErr b i 56
  | over (e : Int) : Cd b i e → Len (O b e) → e + 3 ≤ b.size → 2 ≤ sz b (e + 1) → b.size < e + 1 + sz b (e + 1) → StErr b i 68
  | scan (e : Int) : Cd b i e → Len (O b e) → e + 3 ≤ b.size → 2 ≤ sz b (e + 1) → e + 1 + sz b (e + 1) ≤ b.size → O b e = 218 → (∀ p, e + 1 + sz b (e + 1) ≤ p → ¬ Mn b p) → StErr b i 68
/-- a piece's code and the place behind it -/
inductive StOk (b : Array UInt8) (i : Int) : Int → Int → Prop where
  | alone (e : Int) : Cd b i e → (O b e = 1 ∨ O b e = 217) → StOk b i (O b e) (e + 1)
  | seg (e : Int) : Cd b i e → Len (O b e) → e + 3 ≤ b.size → 2 ≤ sz b (e + 1) → e + 1 + sz b (e + 1) ≤ b.size → O b e ≠ 218 → StOk b i (O b e) (e + 1 + sz b (e + 1))
  | scan (e p : Int) : Cd b i e → Len (O b e) → e + 3 ≤ b.size → 2 ≤ sz b (e + 1) → e + 1 + sz b (e + 1) ≤ b.size → O b e = 218 → Fst b (e + 1 + sz b (e + 1)) p → StOk b i (O b e) p
/-- two places with fill octets between them -/
def Eqv (b : Array UInt8) (x y : Int) : Prop := x = y ∨ (x < y ∧ y < b.size ∧ ∀ q, x ≤ q → q ≤ y → O b q = 255)
theorem Eqv.rfl {b : Array UInt8} {x : Int} : Eqv b x x := .inl (by rfl)
theorem Eqv.of {b : Array UInt8} {x y p : Int} (hf : Fst b x p) (hp : y ≤ p) (hq : ∀ q, y ≤ q → q < p → O b q = 255) : Eqv b y p := by
  rcases Int.lt_or_eq_of_le hp with h | h
  · refine .inr ⟨h, by have := hf.2.1.1.1; omega, fun q h1 h2 => ?_⟩
    rcases Int.lt_or_eq_of_le h2 with h3 | h3
    · exact hq q h1 h3
    · rw [h3]; exact hf.2.1.1.2.1
  · exact .inl h
theorem se_code {b : Array UInt8} {i : Int} {C : Addr} (h : (C = 68 ∧ (∀ q, i ≤ q → q < b.size → O b q = 255)) ∨ (C = 44 ∧ i < b.size ∧ (O b i ≠ 255 ∨ ∃ e, Cd b i e ∧ O b e = 0))) : StErr b i C := by
  rcases h with ⟨rfl, h⟩ | ⟨rfl, h1, h | ⟨e, h2, h3⟩⟩
  · exact .fill h
  · exact .none h1 h
  · exact .code e h2 (.inl h3)
theorem se_payload {b : Array UInt8} {i e : Int} {C : Addr} (cd : Cd b i e) (hl : Len (O b e))
    (h : (C = 68 ∧ (b.size < e + 1 + 2 ∨ (e + 1 + 2 ≤ b.size ∧ 2 ≤ sz b (e + 1) ∧ b.size < e + 1 + sz b (e + 1)))) ∨ (C = 56 ∧ e + 1 + 2 ≤ b.size ∧ sz b (e + 1) < 2)) : StErr b i C := by
  rcases h with ⟨rfl, h | ⟨h1, h2, h3⟩⟩ | ⟨rfl, h1, h2⟩
  · exact .short e cd hl (by k_extra "om")
  · exact .over e cd hl (by k_extra "om") h2 h3
  · exact .small e cd hl (by k_extra "om") h2
theorem se_end {b : Array UInt8} {i e x : Int} {C : Addr} (cd : Cd b i e) (hl : Len (O b e)) (h1 : e + 1 + 2 ≤ b.size) (h2 : 2 ≤ sz b (e + 1)) (hx : x = e + 1 + sz b (e + 1)) (h3 : x ≤ b.size) (hc : O b e = 218)
    (h : C = 68 ∧ ∀ p, x ≤ p → ¬ Mn b p) : StErr b i C := by
  obtain ⟨rfl, h⟩ := h
  subst hx
  exact .scan e cd hl (by k_extra "om") h2 h3 hc h
/-- a piece, made behind h -/
def PieceFr (h h' : Heap) (x : Addr) (c : Int) : Prop := ∃ dx es n t, h'.get? x = some (instObj 109 dx) ∧ h'.get? dx = some (dictOf es n) ∧ getL (Str.ofString "code") es = some (some (.int c t)) ∧ h.get? x = none ∧ h.get? dx = none
/-- what read_piece gives back -/
def PieceOk (b : Array UInt8) (i : Int) (h : Heap) (r : Value) (h' : Heap) : Prop :=
  ∃ a x e te c, r = .ref a ∧ h'.get? a = some (tupObj [.ref x, .int e te]) ∧ h.get? a = none ∧ PieceFr h h' x c ∧ i < e ∧ e ≤ b.size ∧ ((c = 216 ∧ StErr b i 44) ∨ (c ≠ 216 ∧ ∃ a', StOk b i c a' ∧ Eqv b e a'))
theorem so_alone {b : Array UInt8} {i e : Int} (cd : Cd b i e) (h : O b e = 216 ∨ O b e = 217 ∨ O b e = 1) : i < e + 1 ∧ e + 1 ≤ b.size ∧ ((O b e = 216 ∧ StErr b i 44) ∨ (O b e ≠ 216 ∧ ∃ a', StOk b i (O b e) a' ∧ Eqv b (e + 1) a')) := by
  refine ⟨by have := cd.1; omega, by have := cd.2.1; omega, ?_⟩
  rcases h with h | h | h
  · exact .inl ⟨h, .code e cd (.inr ⟨by k_extra "om", by k_extra "om"⟩)⟩
  · exact .inr ⟨by k_extra "om", _, .alone e cd (.inr h), .rfl⟩
  · exact .inr ⟨by k_extra "om", _, .alone e cd (.inl h), .rfl⟩
theorem so_seg {b : Array UInt8} {i e x : Int} (cd : Cd b i e) (hl : Len (O b e)) (h1 : e + 1 + 2 ≤ b.size) (h2 : 2 ≤ sz b (e + 1)) (hx : x = e + 1 + sz b (e + 1)) (h3 : x ≤ b.size) (hc : O b e ≠ 218) :
    i < x ∧ x ≤ b.size ∧ ((O b e = 216 ∧ StErr b i 44) ∨ (O b e ≠ 216 ∧ ∃ a', StOk b i (O b e) a' ∧ Eqv b x a')) := by
  subst hx
  refine ⟨by have := cd.1; omega, h3, .inr ⟨by unfold Len at hl; omega, _, .seg e cd hl (by k_extra "om") h2 h3 hc, .rfl⟩⟩
theorem so_scan {b : Array UInt8} {i e x y p : Int} (cd : Cd b i e) (hl : Len (O b e)) (h1 : e + 1 + 2 ≤ b.size) (h2 : 2 ≤ sz b (e + 1)) (hx : x = e + 1 + sz b (e + 1)) (h3 : x ≤ b.size) (hc : O b e = 218)
    (hy : x ≤ y) (hp : y ≤ p) (hf : Fst b x p) (hq : ∀ q, y ≤ q → q < p → O b q = 255) :
    i < y ∧ y ≤ b.size ∧ ((O b e = 216 ∧ StErr b i 44) ∨ (O b e ≠ 216 ∧ ∃ a', StOk b i (O b e) a' ∧ Eqv b y a')) := by
  subst hx
  refine ⟨by have := cd.1; omega, by have := hf.2.1.1.1; omega, .inr ⟨by k_extra "om", _, .scan e p cd hl (by k_extra "om") h2 h3 hc hf, Eqv.of hf hp hq⟩⟩
theorem len_h {c : Int} (z : c ≠ 0) (k : c ≠ 216 ∧ c ≠ 217 ∧ c ≠ 1 ∧ (c < 208 ∨ 215 < c)) : Len c := by unfold Len; omega
theorem len_n {c : Int} (k : c = 216 ∨ c = 217 ∨ c = 1 ∨ (208 ≤ c ∧ c ≤ 215)) (r : c < 208 ∨ 215 < c) : c = 216 ∨ c = 217 ∨ c = 1 := by omega
theorem rs_x {c : Int} (k : 208 ≤ c ∧ c ≤ 215) : c = 0 ∨ (208 ≤ c ∧ c ≤ 216) := by omega
theorem c_read_piece {w : World} {mean mg mb} {b : Array UInt8} {tb : Tok} {i : Int} {ti : Tok} (hb : b.size ≤ 1000) (hi : 0 ≤ i) :
    PC w mean mg mb 148 12 80 [.bytes b tb, .int i ti]
      (PieceOk b i) (StErr b i) := by
  intro A base outer s Q E Z hh hd hu ok er
  refine wpAny_call ?_
  obtain ⟨B, X, T, _, _⟩ := id Z
  refine enterAt (hid := []) (binds := [(Str.ofString "octets", .bytes b tb), (Str.ofString "at", .int i ti)]) Z (fun _ h => nomatch h) (by k_is) (by k_is) (by k_extra "om") (BindsTo.of_eq rfl) (locs rfl) ?_ (by decide) rfl rfl rfl
  intro L' h' F' N' l'
  dsimp only [mapOf, List.reverse, List.reverseAux] at F' ⊢
  k_fold
  k_extra "tb_start"
  · exact er _ _ _ _ (.code _ (by assumption) (rs_x (by assumption))) (by assumption) (by assumption)
  · refine ok _ _ _ (Fr.keep (by assumption)) ⟨_, _, _, _, _, rfl, News.get (by assumption) (.head _), News.fresh (by assumption) (.head _), ⟨_, _, _, _, News.get (by assumption) (.tail _ (.head _)), News.get (by assumption) (.tail _ (.tail _ (.head _))), by assumption, News.fresh (by assumption) (.tail _ (.head _)), News.fresh (by assumption) (.tail _ (.tail _ (.head _)))⟩, ?_⟩
    exact so_seg (by assumption) (len_h (by assumption) (by assumption)) (by assumption) (by assumption) (by assumption) (by assumption) (by k_extra "om")
  · refine ok _ _ _ (Fr.keep (by assumption)) ⟨_, _, _, _, _, rfl, News.get (by assumption) (.head _), News.fresh (by assumption) (.head _), ⟨_, _, _, _, News.get (by assumption) (.tail _ (.head _)), News.get (by assumption) (.tail _ (.tail _ (.head _))), by assumption, News.fresh (by assumption) (.tail _ (.head _)), News.fresh (by assumption) (.tail _ (.tail _ (.head _)))⟩, ?_⟩
    exact so_scan (by assumption) (len_h (by assumption) (by assumption)) (by assumption) (by assumption) (by assumption) (by assumption) (by k_extra "om") (by assumption) (by assumption) (by assumption) (by assumption)
  · exact er _ _ _ _ (se_end (by assumption) (len_h (by assumption) (by assumption)) (by assumption) (by assumption) (by assumption) (by assumption) (by k_extra "om") (by assumption)) (by assumption) (by assumption)
  · exact er _ _ _ _ (se_payload (by assumption) (len_h (by assumption) (by assumption)) (by assumption)) (by assumption) (by assumption)
  · refine ok _ _ _ (Fr.keep (by assumption)) ⟨_, _, _, _, _, rfl, News.get (by assumption) (.head _), News.fresh (by assumption) (.head _), ⟨_, _, _, _, News.get (by assumption) (.tail _ (.head _)), News.get (by assumption) (.tail _ (.tail _ (.head _))), by assumption, News.fresh (by assumption) (.tail _ (.head _)), News.fresh (by assumption) (.tail _ (.tail _ (.head _)))⟩, ?_⟩
    exact so_alone (by assumption) (len_n (by assumption) (by assumption))
  · exact er _ _ _ _ (se_code (by assumption)) (by assumption) (by assumption)
end Mine
end

section
open PySem PySem.W PySem.Calls PyProof.Rows PySem.Spec
set_option Elab.async false
set_option maxRecDepth 100000
set_option maxHeartbeats 4000000
namespace Mine
theorem setT8 : True := by
  w_top off
  k_with_none
  (k_with "om" => (first | assumption | decide | exact Mine.dp (by assumption) | exact Mine.dp1 (by assumption) | exact Mine.dp0 (by assumption) | exact Nat.le_trans (by assumption) (by decide) | exact Int.le_refl _ | exact Int.not_lt.mp (by assumption) | exact Int.not_le.mp (by assumption) | exact Int.le_of_lt (by assumption) | exact Int.add_one_le_of_lt (by assumption) | omega))
  (k_with "tb_start" => repeat' ((fail_if_success (with_reducible show wpAny _ _ (exec (Stmt.While _ _ _ _) _) _ _ _)); (fail_if_success (with_reducible show wpAny _ _ (pyIter _) _ _ _)); first | (k_unfold; (try dsimp only)) | (k_end; wrow_close) | walk1 | (dsimp only; walk1) | fail "no step"))
  (k_with "call builtin:len" => ((with_reducible show wpAny _ _ (call (Value.builtin "len") [Value.bytes _ _]) _ _ _); refine len_bytes (by k_extra "om") ?_))
  (k_with "subscriptTail" => ((with_reducible show wpAny _ _ (subscriptTail _ _ (Value.bytes _ _) (Value.int _ _)) _ _ _); (refine Mine.item_O (by k_extra "om") (by k_extra "om") (by k_extra "om") ?_); intro _ _ _ _))
  (k_with "tb_rel" => (intro y; dsimp only; (repeat' split) <;> first | rfl | (simp_all; done) | (simp_all; contradiction)))
  (k_with "exec Raise some none" => (k_here; refine Mine.raise_made (by assumption) ?_))
  (k_with "call ref" => (k_here; (with_reducible show wpAny _ _ (call (Value.ref _) [Value.str _ _]) _ _ _); (refine Mine.make_exc (by unfold Mine.XCls; decide) (by assumption) (by assumption) (by assumption) (by assumption) rfl (by assumption) (by k_extra "om") (by k_extra "om") ?_); intro e9 h9 tk9 x9 c9; refine ⟨_, _, rfl, x9.2.2, c9, ?_⟩; try dsimp only))
  (k_with "leaving ref" => (k_here; (refine Mine.leave_newC (by assumption) (by assumption) (by assumption) ?_); intro h' R' U'; (try dsimp only at R' U' ⊢)))
  (k_with "subscriptTail" => (k_here; (with_reducible show wpAny _ _ (subscriptTail _ (Expr.Slice _ _ none _) (Value.bytes _ _) (Value.ref _)) _ _ _); (with_reducible rename Fr _ _ _ _ => F'); (with_reducible rename News _ _ _ _ => N'); (refine KBc.slice_K (s := ⟨_, _, _, _, _⟩) F' N' rfl (by constructor) (by constructor) (by rw [KBw.ints_length]; omega) ?_); intro h' t' k' F' N' _))
  (k_with "call type:bytes" => (k_here; (with_reducible show wpAny _ _ (call (Value.type _) [Value.bytes _ _]) _ _ _); refine Mine.bytes_same ?_))
  (k_with "assign Tuple" => (k_here; (with_reducible show wpAny _ _ (assign (Expr.Tuple _ _ _) _ (Value.ref _)) _ _ _); (refine unpackN_ (by assumption) (by assumption) (News.isTup (by assumption) (by k_mem)) (by assumption) rfl rfl ?_); intro h' F' N'))
  trivial
/-- what a reader meets from a place on: the codes, and how it ends (none: at EOI) -/
inductive Tr (b : Array UInt8) : Int → List Int → Option Addr → Prop where
  | stop {i : Int} {C : Addr} : StErr b i C → Tr b i [] (some C)
  | eoi {i a : Int} : StOk b i 217 a → Tr b i [217] none
  | more {i c a : Int} {cs : List Int} {o : Option Addr} : StOk b i c a → c ≠ 217 → Tr b a cs o → Tr b i (c :: cs) o
theorem eqv_cd {b : Array UInt8} {x a e : Int} (h : Eqv b x a) (c : Cd b x e) : Cd b a e := by
  rcases h with rfl | ⟨h1, h2, h3⟩
  · exact c
  · obtain ⟨c1, c2, c3, c4⟩ := c
    have hae : a < e := by
      rcases Int.lt_or_le a e with h | h
      · exact h
      · exact absurd (h3 e (by k_extra "om") h) c4
    exact ⟨hae, c2, fun q h5 h6 => c3 q (by k_extra "om") h6, c4⟩
theorem eqv_err {b : Array UInt8} {x a : Int} {C : Addr} (h : Eqv b x a) (c : StErr b x C) : StErr b a C := by
  cases c with
  | fill q => exact .fill fun k h1 h2 => q k (by rcases h with rfl | h <;> omega) h2
  | none q1 q2 =>
    rcases h with rfl | ⟨h1, h2, h3⟩
    · exact .none q1 q2
    · exact absurd (h3 x (Int.le_refl _) (by k_extra "om")) q2
  | code e c q => exact .code e (eqv_cd h c) q
  | short e c q1 q2 => exact .short e (eqv_cd h c) q1 q2
  | small e c q1 q2 q3 => exact .small e (eqv_cd h c) q1 q2 q3
  | over e c q1 q2 q3 q4 => exact .over e (eqv_cd h c) q1 q2 q3 q4
  | scan e c q1 q2 q3 q4 q5 q6 => exact .scan e (eqv_cd h c) q1 q2 q3 q4 q5 q6
theorem eqv_ok {b : Array UInt8} {x a c y : Int} (h : Eqv b x a) (k : StOk b x c y) : StOk b a c y := by
  cases k with
  | alone e c q => exact .alone e (eqv_cd h c) q
  | seg e c q1 q2 q3 q4 q5 => exact .seg e (eqv_cd h c) q1 q2 q3 q4 q5
  | scan e p c q1 q2 q3 q4 q5 q6 => exact .scan e y (eqv_cd h c) q1 q2 q3 q4 q5 q6
/-- what holds between two pieces -/
def Inv (b : Array UInt8) (ds : List Int) (i : Int) : Prop :=
  (ds.getLast? ≠ some 217 ∧ ∃ a, Eqv b i a ∧ ∀ cs o, Tr b a cs o → Tr b 2 (ds ++ cs) o) ∨ (ds.getLast? = some 217 ∧ Tr b 2 ds none)
theorem inv_start (b : Array UInt8) : Inv b [] 2 := .inl ⟨by simp, 2, .rfl, fun _ _ t => t⟩
theorem inv_err {b : Array UInt8} {ds : List Int} {i : Int} {C : Addr} (v : Inv b ds i) (hl : ds.getLast? ≠ some 217) (e : StErr b i C) : Tr b 2 ds (some C) := by
  rcases v with ⟨_, a, h1, h2⟩ | ⟨h, _⟩
  · have := h2 [] _ (.stop (eqv_err h1 e))
    rwa [List.append_nil] at this
  · exact absurd h hl
theorem inv_ok {b : Array UInt8} {ds : List Int} {i c e a : Int} (v : Inv b ds i) (hl : ds.getLast? ≠ some 217) (k : StOk b i c a) (q : Eqv b e a) : Inv b (ds ++ [c]) e := by
  rcases v with ⟨_, a', h1, h2⟩ | ⟨h, _⟩
  · have k' := eqv_ok h1 k
    by_cases hc : c = 217
    · subst hc
      exact .inr ⟨by simp, h2 _ _ (.eoi k')⟩
    · refine .inl ⟨by simpa using hc, a, q, fun cs o t => ?_⟩
      have := h2 _ _ (.more k' hc t)
      rwa [List.append_assoc]
  · exact absurd h hl
theorem inv_end {b : Array UInt8} {ds : List Int} {i : Int} (v : Inv b ds i) (hl : ds.getLast? = some 217) : Tr b 2 ds none := by
  rcases v with ⟨h, _⟩ | ⟨_, t⟩
  · exact absurd hl h
  · exact t
/-- a piece of the ledger -/
def PcIn (ents : List (Addr × Obj)) (v : Value) (c : Int) : Prop := ∃ x dx es n t, v = .ref x ∧ (x, instObj 109 dx) ∈ ents ∧ (dx, dictOf es n) ∈ ents ∧ getL (Str.ofString "code") es = some (some (.int c t))
def Pcs (ents : List (Addr × Obj)) (vs : List Value) (cs : List Int) : Prop := vs.length = cs.length ∧ ∀ (k : Nat) v c, vs[k]? = some v → cs[k]? = some c → PcIn ents v c
theorem pcs_last {ents : List (Addr × Obj)} {vs : List Value} {ds : List Int} (h : Pcs ents vs (216 :: ds)) :
    1 ≤ vs.length ∧ ∃ x dx es n t, vs[((-1 : Int) + (vs.length : Int)).toNat]? = some (.ref x) ∧ (x, instObj 109 dx) ∈ ents ∧ (dx, dictOf es n) ∈ ents ∧ getL (Str.ofString "code") es = some (some (.int (ds.getLast?.getD 216) t)) := by
  obtain ⟨hl, hk⟩ := h
  simp only [List.length_cons] at hl
  refine ⟨by k_extra "om", ?_⟩
  have e : ((-1 : Int) + (vs.length : Int)).toNat = ds.length := by k_extra "om"
  rw [e]
  have hv : ds.length < vs.length := by k_extra "om"
  have hc : (216 :: ds)[ds.length]? = some (ds.getLast?.getD 216) := by
    rcases List.eq_nil_or_concat ds with h | ⟨l, a, h⟩
    · subst h; rfl
    · subst h; simp
  obtain ⟨x, dx, es, n, t, h1, h2, h3, h4⟩ := hk ds.length vs[ds.length] _ (List.getElem?_eq_getElem hv) hc
  exact ⟨x, dx, es, n, t, by rw [List.getElem?_eq_getElem hv, h1], h2, h3, h4⟩
theorem pcs_snoc {ents ents' : List (Addr × Obj)} {vs : List Value} {cs : List Int} {v : Value} {c : Int} (h : Pcs ents vs cs) (q : PcIn ents' v c) (hs : ∀ p ∈ ents, p ∈ ents') : Pcs ents' (vs ++ [v]) (cs ++ [c]) := by
  obtain ⟨hl, hk⟩ := h
  refine ⟨by simp [hl], fun k v' c' h1 h2 => ?_⟩
  rcases Nat.lt_or_ge k vs.length with hlt | hge
  · rw [List.getElem?_append_left hlt] at h1
    rw [List.getElem?_append_left (by k_extra "om")] at h2
    obtain ⟨x, dx, es, n, t, e, m1, m2, g⟩ := hk k v' c' h1 h2
    exact ⟨x, dx, es, n, t, e, hs _ m1, hs _ m2, g⟩
  · rw [List.getElem?_append_right hge] at h1
    rw [List.getElem?_append_right (by k_extra "om")] at h2
    rw [← hl] at h2
    cases hz : k - vs.length with
    | zero => rw [hz] at h1 h2; simp at h1 h2; subst h1 h2; exact q
    | succ j => rw [hz] at h1; simp at h1
theorem append_step {prog : Program} {w : World} {A : Around} {E : Value → Shared → Prop} {s : Shared} {g : Heap} {L l : Addr} {m : Str → Option Value} {news : List (Addr × Obj)} {its : Array Value} {n : Nat} {v : Value} {Q : Value → Shared → Prop}
    (F : Fr g L s.heap m) (N : News g L s.heap news) (hm : (l, listOf its n) ∈ news) (hsz : its.size ≤ sizeLine)
    (h : ∀ h', Fr g L h' m → (∀ news', (∀ p ∈ news', p ∈ news ∧ p.1 ≠ l) → News g L h' ((l, listOf (its.push v) (n + 1)) :: news')) → Q .none { s with heap := h' }) :
    wpAny (model prog w) A (call (.builtin "list.append") [.ref l, v]) Q E s := by
  have z := N _ hm
  refine append_at (hsz := hsz) z.1 fun h' hs ho => h h' (F.change hs z.2.1 z.2.2) fun news' hn p hp => ?_
  rcases List.mem_cons.mp hp with rfl | hp
  · exact ⟨ho, z.2⟩
  · obtain ⟨h1, h2⟩ := hn p hp
    exact ⟨(hs.2 _ h2).trans (N p h1).1, (N p h1).2⟩
theorem last_eq {ds : List Int} (h : ds.getLast?.getD 216 = 217) : ds.getLast? = some 217 := by
  cases q : ds.getLast? with
  | none => rw [q] at h; simp at h
  | some c => rw [q] at h; simp at h; rw [h]
theorem last_ne {ds : List Int} (h : ds.getLast?.getD 216 ≠ 217) : ds.getLast? ≠ some 217 := fun q => h (by rw [q]; rfl)
def PiecesOk (b : Array UInt8) (h : Heap) (r : Value) (h' : Heap) : Prop :=
  ∃ l vs n ds ents, r = .ref l ∧ h'.get? l = some (listOf (List.toArray vs) n) ∧ (∀ p ∈ ents, h'.get? p.1 = some p.2) ∧ Pcs ents vs (216 :: ds) ∧ Tr b 2 ds none ∧ (2 ≤ (b.size : Int) ∧ O b 0 = 255 ∧ O b 1 = 216) ∧ h.get? l = none ∧ (∀ p ∈ ents, h.get? p.1 = none) ∧ vs.length ≤ 1000
def PiecesErr (b : Array UInt8) (C : Addr) : Prop :=
  (C = 68 ∧ (b.size : Int) < 2) ∨ (C = 44 ∧ 2 ≤ (b.size : Int) ∧ (O b 0 ≠ 255 ∨ O b 1 ≠ 216)) ∨ (2 ≤ (b.size : Int) ∧ O b 0 = 255 ∧ O b 1 = 216 ∧ ∃ ds, Tr b 2 ds (some C))
structure RS where
  vs : List Value
  n : Nat
  ds : List Int
  ents : List (Addr × Obj)
  pos : Int
  tp : Tok
  pc : Option Value
end Mine
namespace Mine
theorem setT8a : True := by
  (k_with "leaving ref" => (k_here; (rename RaisedSN _ _ _ _ _ _ _ => rX); (refine leave_onSN (by assumption) (by assumption) rX (by assumption) ?_); intro h' R' _ U'; (try dsimp only at R' U' ⊢)))
  (k_with "call ref" => (k_here; (with_reducible show wpAny _ _ (call (Value.ref 109) (Value.int _ _ :: _)) _ _ _); (first | refine Mine.make_piece1 (by assumption) (by assumption) (by assumption) (by assumption) (by assumption) rfl (by k_extra "om") ?_ | refine Mine.make_piece2 (by assumption) (by assumption) (by assumption) (by assumption) (by assumption) rfl (by k_extra "om") ?_ | refine Mine.make_piece3 (by assumption) (by assumption) (by assumption) (by assumption) (by assumption) rfl (by k_extra "om") ?_); intro x9 d9 es9 n9 t9 h' tk' F' N' p9))
  (k_with "call ref" => (k_here; (with_reducible show wpAny _ _ (call (Value.ref 148) [Value.bytes _ _, Value.int _ _]) _ _ _); (rename Fr _ _ _ _ => lF); (refine Mine.Pure.use (Mine.c_read_piece (by k_extra "om") (by k_extra "om")) (by assumption) lF (by assumption) (by assumption) (by assumption) rfl (by assumption) (by k_extra "om") (by k_extra "om") ?_ ?_); rotate_left 1; (intro C9 e9 h' tk' er9 R9 U9; (try dsimp only at er9 R9 U9 ⊢)); rotate_left 1; intro r9 h' tk' F' N' st9 ok9; (try dsimp only at ok9); (obtain ⟨a9, x9, p9, tp9, c9, e9, g9, n9, ⟨d9, es9, k9, t9, g91, g92, g93, n91, n92⟩, lo9, hi9, ok9⟩ := ok9); subst e9; (have N9 := Mine.news_put lF (Mine.news_put lF (Mine.news_put lF N' g92 n92) g91 n91) g9 n9)))
  (k_with "subscriptTail" => (k_here; (with_reducible show wpAny _ _ (subscriptTail _ _ (Value.ref _) (Value.int _ _)) _ _ _); (refine kim_back (by assumption) (List.mem_cons_self ..) rfl rfl (by decide) (by k_extra "om") (by decide) (by assumption) ?_)))
  (k_with "getAttr ref" => (k_here; (refine get_own (by assumption) (by assumption) (InstAt.of_news (by assumption) (by first | k_mem | exact List.mem_cons_of_mem _ (by assumption)) (by first | k_mem | exact List.mem_cons_of_mem _ (by assumption))) (by k_is) (by k_is) (by k_is) (by k_is) (by assumption) (by k_handed) ?_)))
  (k_with "call builtin:list.append" => (k_here; (refine Mine.append_step (by assumption) (by assumption) (by k_mem) (by rw [List.size_toArray, sizeLine_eq]; omega) ?_); intro h' F' NA'))
  (k_with "tb_rel" => (intro y; dsimp only; (repeat' split) <;> first | rfl | (simp_all; done) | (simp_all; contradiction)))
  trivial
theorem c_read_pieces {w : World} {mean mg mb} {b : Array UInt8} {tb : Tok} (hb : b.size ≤ 1000) :
    PC w mean mg mb 155 16 120 [.bytes b tb]
      (PiecesOk b) (PiecesErr b) := by
  intro A base outer s Q E Z hh hd hu ok er
  refine wpAny_call ?_
  obtain ⟨B, X, T, _, _⟩ := id Z
  refine enterAt (hid := []) (binds := [(Str.ofString "octets", .bytes b tb)]) Z (fun _ h => nomatch h) (by k_is) (by k_is) (by k_extra "om") (BindsTo.of_eq rfl) (locs rfl) ?_ (by decide) rfl rfl rfl
  intro L' h' F' N' l'
  dsimp only [mapOf, List.reverse, List.reverseAux] at F' ⊢
  k_fold
  k_extra "tb_start"
  rotate_left 3
  rename_i l0 h2 hl0 h1 h0 F0 N0
  refine While_st (α := RS) (fun x y => if y = Str.ofString "piece" then x.pc else if y = Str.ofString "at" then some (.int x.pos x.tp) else if y = Str.ofString "pieces" then some (.ref l0) else if y = Str.ofString "octets" then some (.bytes b tb) else none)
    (fun x => (l0, listOf x.vs.toArray x.n) :: x.ents)
    (fun x => Pcs x.ents x.vs (216 :: x.ds) ∧ (∀ p ∈ x.ents, p.1 ≠ l0) ∧ (x.vs.length : Int) + 1 ≤ x.pos ∧ x.pos ≤ b.size ∧ Inv b x.ds x.pos) (fun x => (b.size - x.pos).toNat)
    ⟨[.ref x9], 0, [], [(x9, instObj 109 d9), (d9, dictOf es9 n9)], 2, _, none⟩ F0 N0 (by k_extra "tb_rel") (fun _ h => h) ?_ ?_
  · refine ⟨⟨rfl, fun k v c h1 h2 => ?_⟩, ?_, by dsimp only [List.length]; omega, by dsimp only; k_extra "om", inv_start b⟩
    · match k with
      | 0 => cases h1; cases h2; exact ⟨x9, d9, es9, n9, t9, rfl, .head _, .tail _ (.head _), p9⟩
      | k + 1 => cases h1
    · intro p hp
      have hl1 : @LT.lt Nat _ x9 l0 := hl0.1
      have hl2 : @LT.lt Nat _ d9 l0 := hl0.2
      rcases List.mem_cons.mp hp with rfl | hp
      · exact Nat.ne_of_lt hl1
      · obtain rfl := List.mem_singleton.mp hp
        exact Nat.ne_of_lt hl2
  rintro ⟨vs, n, ds, ents, pos, tp, pc⟩ h₁ tk₁ ⟨hp, hne, hlen, hat, inv⟩ F' N'
  dsimp only at hp hne hlen hat inv F' N'
  have hl : h₁.get? l0 = some (listOf vs.toArray n) := N'.get (.head _)
  dsimp only
  obtain ⟨hv1, x, dx, es, k, t, hx, hm1, hm2, hg⟩ := pcs_last hp
  show wpAny _ _ _ _ _ _
  k_fold
  k_extra "tb_start"

  · exact er _ _ _ _ (.inr (.inr ⟨by k_extra "om", by k_extra "om", by k_extra "om", ds, inv_err inv (last_ne (by assumption)) (by
      rcases ok9 with ⟨_, e⟩ | ⟨e, _⟩
      · exact e
      · exact absurd (by assumption) e)⟩)) (by assumption) (by assumption)
  · rename Fr _ _ _ _ => FD
    have q1 : x9 ≠ l0 := fun e => by rw [e, hl] at n91; cases n91
    have q2 : d9 ≠ l0 := fun e => by rw [e, hl] at n92; cases n92
    have hne' : ∀ p ∈ (x9, instObj 109 d9) :: (d9, dictOf es9 k9) :: ents, p.1 ≠ l0 := by
      intro p hp
      rcases List.mem_cons.mp hp with rfl | hp
      · exact q1
      · rcases List.mem_cons.mp hp with rfl | hp
        · exact q2
        · exact hne p hp
    have NB := NA' ((x9, instObj 109 d9) :: (d9, dictOf es9 k9) :: ents) (fun p hp => ⟨by
      rcases List.mem_cons.mp hp with rfl | hp
      · exact .tail _ (.head _)
      · rcases List.mem_cons.mp hp with rfl | hp
        · exact .tail _ (.tail _ (.head _))
        · exact .tail _ (.tail _ (.tail _ (.tail _ hp))), hne' p hp⟩)
    rw [List.push_toArray] at NB
    obtain ⟨_, a', k', e'⟩ : c9 ≠ 216 ∧ ∃ a', StOk b pos c9 a' ∧ Eqv b p9 a' := by
      rcases ok9 with ⟨e, _⟩ | h
      · exact absurd e (by assumption)
      · exact h
    refine TurnEnd.intro ⟨vs ++ [.ref x9], n + 1, ds ++ [c9], (x9, instObj 109 d9) :: (d9, dictOf es9 k9) :: ents, p9, tp9, some (.ref x9)⟩ FD NB (by k_extra "tb_rel") (fun _ h => h) ⟨?_, hne', ?_, hi9, inv_ok inv (last_ne (by assumption)) k' e'⟩ (by dsimp only; first | exact Mine.ms (by k_extra "om") (by k_extra "om") | omega)
    · exact pcs_snoc (cs := 216 :: ds) hp ⟨x9, d9, es9, k9, t9, rfl, .head _, .tail _ (.head _), g93⟩ (fun p hp => .tail _ (.tail _ hp))
    · dsimp only
      rw [List.length_append, List.length_singleton]
      omega
  · exact er _ _ _ _ (.inr (.inr ⟨by k_extra "om", by k_extra "om", by k_extra "om", ds, inv_err inv (last_ne (by assumption)) (by assumption)⟩)) (by assumption) (by assumption)
  · exact ok (.ref l0) _ _ (Fr.keep (by assumption)) ⟨l0, vs, n, ds, ents, rfl, News.get (by assumption) (.head _), fun p hp => News.get (by assumption) (.tail _ hp), hp, inv_end inv (last_eq (by assumption)), ⟨by k_extra "om", by k_extra "om", by k_extra "om"⟩, News.fresh (by assumption) (.head _), fun p hp => News.fresh (by assumption) (.tail _ hp), by k_extra "om"⟩
  · exact er _ _ _ _ (.inl ⟨rfl, by k_extra "om"⟩) (by assumption) (by assumption)
  · exact er _ _ _ _ (.inr (.inl ⟨rfl, by k_extra "om", .inl (by k_extra "om")⟩)) (by assumption) (by assumption)
  · exact er _ _ _ _ (.inr (.inl ⟨rfl, by k_extra "om", .inr (by k_extra "om")⟩)) (by assumption) (by assumption)
end Mine
end

section
open PySem PySem.W PySem.Calls PyProof.Rows PySem.Spec
set_option Elab.async false
set_option maxRecDepth 100000
namespace Mine
section
variable {prog : Program} {w : World} {A : Around} {E : Value → Shared → Prop} {Q : Flow → Shared → Prop} {s : Shared} {env : Env} {h₀ : Heap} {L : Addr} {α : Type} {tgt : Str} {body : List Stmt}

/-- the end of a for's turn whose whole state is told by a datum -/
def ForEnd (h₀ : Heap) (L : Addr) (s : Shared) (M : α → Str → Option Value) (D : α → List (Addr × Obj)) (P : Nat → α → Prop) (own : List (Addr × Obj)) (i : Nat) (Q : Flow → Shared → Prop) (f : Flow) (s₃ : Shared) : Prop :=
  match f with
  | .ret v => Q (.ret v) s₃
  | .brk => Q .next s₃
  | _ => ∃ x' h' tk', s₃ = { s with heap := h', toks := tk' } ∧ Fr h₀ L h' (M x') ∧ News h₀ L h' (own ++ D x') ∧ P (i + 1) x'

theorem ForEnd.intro {M : α → Str → Option Value} {D : α → List (Addr × Obj)} {P : Nat → α → Prop} {own : List (Addr × Obj)} {i : Nat} {h' : Heap} {tk' : Nat} {m' : Str → Option Value} {news' : List (Addr × Obj)} (x' : α)
    (F : Fr h₀ L h' m') (N : News h₀ L h' news') (hm : ∀ y, m' y = M x' y) (hn : ∀ q ∈ own ++ D x', q ∈ news') (hp : P (i + 1) x') : ForEnd h₀ L s M D P own i Q .next { s with heap := h', toks := tk' } :=
  ⟨x', h', tk', rfl, (funext hm : m' = M x') ▸ F, fun q hq => N q (hn q hq), hp⟩

theorem loop_st {I : Addr} {fp wr : List Addr} {n : Nat} {Pv : Nat → Value → Prop} {St : Nat → Heap → Prop} (W : Walks prog w A I fp wr n Pv St) (hLf : env.locals ∉ fp) (hwr : ∀ b ∈ wr, h₀.get? b = none) (hst : St 0 s.heap)
    (M : α → Str → Option Value) (D : α → List (Addr × Obj)) (P : Nat → α → Prop) (x₀ : α) (F : Fr h₀ env.locals s.heap (M x₀)) (N : News h₀ env.locals s.heap (D x₀)) (hp : P 0 x₀) (hD : ∀ x, ∀ p ∈ D x, p.1 ∉ wr)
    (turn : ∀ i v x h tk own, i < n → Pv i v → P i x → Fr h₀ env.locals h (fun y => if y = tgt then some v else M x y) → News h₀ env.locals h (own ++ D x) →
      wpAny (model prog w) A (execs body env) (ForEnd h₀ env.locals s M D P own i Q) E { s with heap := h, toks := tk })
    (done : ∀ x h tk, P n x → Fr h₀ env.locals h (M x) → News h₀ env.locals h (D x) → Q .next { s with heap := h, toks := tk }) :
    LoopAtV prog w A h₀ env tgt body Q E (.ref I) s := by
  refine ⟨I, fp, wr, n, Pv, St, M x₀, D x₀, fun i m news => ∃ x, m = M x ∧ news = D x ∧ P i x, rfl, W, hLf, hwr, hD x₀, hst, F, N, ⟨x₀, rfl, rfl, hp⟩, ?_, ?_⟩
  · rintro i v m₁ news₁ s₁ own ⟨h, tk, rfl⟩ hin hP ⟨x, rfl, rfl, hx⟩ _ hown _ _ _ F₁ N₁
    refine wpAny_mono (turn i v x h tk own hin hP hx F₁ N₁) (fun f s₂ p => ?_) fun _ _ e => e
    have fin : (∃ x' h' tk', s₂ = { s with heap := h', toks := tk' } ∧ Fr h₀ env.locals h' (M x') ∧ News h₀ env.locals h' (own ++ D x') ∧ P (i + 1) x') →
        LoopStepU h₀ env.locals wr own (fun m news => ∃ x, m = M x ∧ news = D x ∧ P (i + 1) x) { s with heap := h, toks := tk } .next s₂ := by
      rintro ⟨x', h', tk', rfl, F', N', hp'⟩
      exact ⟨rfl, h', tk', M x', D x', rfl, F', N', hD x', x', rfl, rfl, hp'⟩
    cases f with
    | ret v => exact .ret p
    | brk => exact .brk p
    | next => exact .next (fin p)
    | cont => exact .cont (fin p)
  · rintro h' tk m' news' F' N' _ ⟨x, rfl, rfl, hx⟩
    exact done x h' tk hx F' N'

theorem for_list {l : Addr} {vs : List Value} {n : Nat} {m : Str → Option Value} {news : List (Addr × Obj)} (hh : A.handled = none)
    (M : α → Str → Option Value) (D : α → List (Addr × Obj)) (P : Nat → α → Prop) (x₀ : α) (F : Fr h₀ env.locals s.heap m) (N : News h₀ env.locals s.heap news) (hl : (l, listOf vs.toArray n) ∈ news)
    (hm : ∀ y, m y = M x₀ y) (hn : ∀ q ∈ D x₀, q ∈ news) (hp : P 0 x₀) (hD : ∀ x, ∀ p ∈ D x, ∃ q ∈ D x₀, q.1 = p.1)
    (turn : ∀ i v x h tk own, vs[i]? = some v → P i x → Fr h₀ env.locals h (fun y => if y = tgt then some v else M x y) → News h₀ env.locals h (own ++ D x) →
      wpAny (model prog w) A (execs body env) (ForEnd h₀ env.locals s M D P own i Q) E { s with heap := h, toks := tk })
    (done : ∀ x h tk, P vs.length x → Fr h₀ env.locals h (M x) → News h₀ env.locals h (D x) → Q .next { s with heap := h, toks := tk }) :
    wpAny (model prog w) A (pyIter (.ref l)) (fun it s₂ => LoopAtV prog w A h₀ env tgt body Q E it s₂) E s := by
  have hls : s.heap.IsList l vs.toArray := News.isList N hl
  have hne : l ≠ s.heap.objs.size := Nat.ne_of_lt (Heap.lt_size (N _ hl).1)
  refine wpAny_pyIter_list hls ?_
  have W := Walks.list (prog := prog) (w := w) hh s.heap.objs.size l hne vs.toArray
  rw [List.size_toArray] at W
  have F₁ := (funext hm : m = M x₀) ▸ F
  refine loop_st W ?_ ?_ ⟨⟨_, Heap.get?_push_size _ rfl, rfl, rfl⟩, hls.push _⟩ M D P x₀ (F₁.push _) (fun q hq => ⟨Heap.get?_push_of_some _ (N q (hn q hq)).1, (N q (hn q hq)).2⟩) hp ?_ ?_ ?_
  · intro hm'
    rcases List.mem_cons.mp hm' with e | hm'
    · exact absurd F.ns.lt (e ▸ Nat.lt_irrefl _)
    · exact (N _ hl).2.1 (List.mem_singleton.mp hm').symm
  · intro b hb
    rw [List.mem_singleton.mp hb]
    exact next_is_new F
  · intro x p hp' hI
    obtain ⟨q, hq, e⟩ := hD x p hp'
    rw [← e] at hI
    exact absurd (Heap.lt_size (N q (hn q hq)).1) ((List.mem_singleton.mp hI) ▸ Nat.lt_irrefl _)
  · intro i v x h tk own _ hv hx F' N'
    exact turn i v x h tk own (by simpa using hv) hx F' N'
  · exact done

theorem for_range {r : Addr} {a b c : Int} {t u v : Tok} {n : Nat} {m : Str → Option Value} {news : List (Addr × Obj)} (hh : A.handled = none)
    (M : α → Str → Option Value) (D : α → List (Addr × Obj)) (P : Nat → α → Prop) (x₀ : α) (F : Fr h₀ env.locals s.heap m) (N : News h₀ env.locals s.heap news) (hr : IsRange s.heap r a b c t u v) (hsm : Builtin.Range.small a b c = true) (hsz : Builtin.Range.rangeSize a b c = (n : Int))
    (hm : ∀ y, m y = M x₀ y) (hn : ∀ q ∈ D x₀, q ∈ news) (hp : P 0 x₀) (hD : ∀ x, ∀ p ∈ D x, ∃ q ∈ D x₀, q.1 = p.1)
    (turn : ∀ i t x h tk own, i < n → P i x → Fr h₀ env.locals h (fun y => if y = tgt then some (.int (a + i * c) t) else M x y) → News h₀ env.locals h (own ++ D x) →
      wpAny (model prog w) A (execs body env) (ForEnd h₀ env.locals s M D P own i Q) E { s with heap := h, toks := tk })
    (done : ∀ x h tk, P n x → Fr h₀ env.locals h (M x) → News h₀ env.locals h (D x) → Q .next { s with heap := h, toks := tk }) :
    wpAny (model prog w) A (pyIter (.ref r)) (fun it s₂ => LoopAtV prog w A h₀ env tgt body Q E it s₂) E s := by
  refine wpAny_pyIter_range hr hsm ?_
  have W := Walks.range (prog := prog) (w := w) hh s.heap.objs.size a c n
  have F₁ := (funext hm : m = M x₀) ▸ F
  refine loop_st W ?_ ?_ ?_ M D P x₀ (F₁.push _) (fun q hq => ⟨Heap.get?_push_of_some _ (N q (hn q hq)).1, (N q (hn q hq)).2⟩) hp ?_ ?_ ?_
  · intro hm'
    exact absurd F.ns.lt ((List.mem_singleton.mp hm') ▸ Nat.lt_irrefl _)
  · intro b hb
    rw [List.mem_singleton.mp hb]
    exact next_is_new F
  · rw [hsz]
    show IsRangeIter _ _ (a + (0 : Nat) * c) ((n : Int) - (0 : Nat)) c
    rw [show a + ((0 : Nat) : Int) * c = a by simp, show (n : Int) - ((0 : Nat) : Int) = n by omega]
    exact Heap.get?_push_size _ rfl
  · intro x p hp' hI
    obtain ⟨q, hq, e⟩ := hD x p hp'
    rw [← e] at hI
    exact absurd (Heap.lt_size (N q (hn q hq)).1) ((List.mem_singleton.mp hI) ▸ Nat.lt_irrefl _)
  · rintro i v x h tk own hi ⟨t', rfl⟩ hx F' N'
    exact turn i t' x h tk own hi hx F' N'
  · exact done
end
end Mine
end

section
open PySem PySem.W PySem.Calls PyProof.Rows PySem.Spec
set_option Elab.async false
set_option maxRecDepth 100000
set_option maxHeartbeats 4000000
namespace Mine
theorem setT9 : True := by
  w_top off
  k_with_none
  (k_with "om" => (first | assumption | decide | exact Mine.dp (by assumption) | exact Mine.dp1 (by assumption) | exact Mine.dp0 (by assumption) | exact Nat.le_trans (by assumption) (by decide) | exact Int.le_refl _ | exact Int.not_lt.mp (by assumption) | exact Int.not_le.mp (by assumption) | exact Int.le_of_lt (by assumption) | exact Int.add_one_le_of_lt (by assumption) | omega))
  (k_with "tb_start" => repeat' ((fail_if_success (with_reducible show wpAny _ _ (exec (Stmt.While _ _ _ _) _) _ _ _)); (fail_if_success (with_reducible show wpAny _ _ (pyIter _) _ _ _)); first | (k_unfold; (try dsimp only)) | (k_end; wrow_close) | walk1 | (dsimp only; walk1) | fail "no step"))
  (k_with "call builtin:len" => ((with_reducible show wpAny _ _ (call (Value.builtin "len") [Value.bytes _ _]) _ _ _); refine len_bytes (by k_extra "om") ?_))
  (k_with "subscriptTail" => ((with_reducible show wpAny _ _ (subscriptTail _ _ (Value.bytes _ _) (Value.int _ _)) _ _ _); (refine Mine.item_O (by k_extra "om") (by k_extra "om") (by k_extra "om") ?_); intro _ _ _ _))
  (k_with "tb_rel" => (intro y; (try dsimp only); (repeat' split) <;> first | rfl | (simp_all; done) | (simp_all; contradiction) | (rename_i p1 p2; exact absurd (p1.symm.trans p2) (by decide)) | (rename_i p1 p2 p3; exact absurd (p1.symm.trans p3) (by decide))))
  (k_with "exec Raise some none" => (k_here; refine Mine.raise_made (by assumption) ?_))
  (k_with "call ref" => (k_here; (with_reducible show wpAny _ _ (call (Value.ref _) [Value.str _ _]) _ _ _); (refine Mine.make_exc (by unfold Mine.XCls; decide) (by assumption) (by assumption) (by assumption) (by assumption) rfl (by assumption) (by k_extra "om") (by k_extra "om") ?_); intro e9 h9 tk9 x9 c9; refine ⟨_, _, rfl, x9.2.2, c9, ?_⟩; try dsimp only))
  (k_with "leaving ref" => (k_here; (refine Mine.leave_newC (by assumption) (by assumption) (by assumption) ?_); intro h' R' U'; (try dsimp only at R' U' ⊢)))
  (k_with "subscriptTail" => (k_here; (with_reducible show wpAny _ _ (subscriptTail _ (Expr.Slice _ _ none _) (Value.bytes _ _) (Value.ref _)) _ _ _); (with_reducible rename Fr _ _ _ _ => F'); (with_reducible rename News _ _ _ _ => N'); (refine KBc.slice_K (s := ⟨_, _, _, _, _⟩) F' N' rfl (by constructor) (by constructor) (by rw [KBw.ints_length]; omega) ?_); intro h' t' k' F' N' _))
  (k_with "call type:bytes" => (k_here; (with_reducible show wpAny _ _ (call (Value.type _) [Value.bytes _ _]) _ _ _); refine Mine.bytes_same ?_))
  (k_with "assign Tuple" => (k_here; (with_reducible show wpAny _ _ (assign (Expr.Tuple _ _ _) _ (Value.ref _)) _ _ _); (refine unpackN_ (by assumption) (by assumption) (News.isTup (by assumption) (by k_mem)) (by assumption) rfl rfl ?_); intro h' F' N'))
  trivial
theorem news_puts {g h h₀ : Heap} {L : Addr} {m : Str → Option Value} {news ents : List (Addr × Obj)} (F : Fr g L h₀ m) (N : News g L h news) (ho : ∀ p ∈ ents, h.get? p.1 = some p.2) (e : ∀ p ∈ ents, h₀.get? p.1 = none) : News g L h (ents ++ news) := by
  intro p hp
  rcases List.mem_append.mp hp with hp | hp
  · exact (news_put F N (ho p hp) (e p hp)) _ (.head _)
  · exact N p hp
abbrev Frm (c : Int) : Prop := 192 ≤ c ∧ c ≤ 207 ∧ c ≠ 196 ∧ c ≠ 200 ∧ c ≠ 204
/-- the kind of a file, by its codes -/
noncomputable def kindS : List Int → Str
  | [] => Str.ofString "none"
  | c :: r => if c = 222 then Str.ofString "pyramid" else if Frm c then (if c = 195 then Str.ofString "lossless" else Str.ofString "blocks") else kindS r
def KindOk (b : Array UInt8) (h : Heap) (r : Value) (h' : Heap) : Prop := ∃ ds t, r = .str (kindS ds) t ∧ Tr b 2 ds none ∧ (2 ≤ (b.size : Int) ∧ O b 0 = 255 ∧ O b 1 = 216)
theorem kind_of {b : Array UInt8} {h h' : Heap} {ds : List Int} {x : Str} {t : Tok} (tr : Tr b 2 ds none) (hb : 2 ≤ (b.size : Int) ∧ O b 0 = 255 ∧ O b 1 = 216) (e : kindS ds = x) : KindOk b h (.str x t) h' := ⟨ds, t, by rw [e], tr, hb⟩
theorem kind_216 (ds : List Int) : kindS (216 :: ds) = kindS ds := by
  show (if (216 : Int) = 222 then _ else if Frm 216 then _ else kindS ds) = _
  rw [if_neg (by decide), if_neg (by unfold Frm; decide)]
theorem drop_cons {cs : List Int} {i : Nat} {c : Int} (h : cs[i]? = some c) : cs.drop i = c :: cs.drop (i + 1) := by
  obtain ⟨hi, e⟩ := List.getElem?_eq_some_iff.mp h
  rw [List.drop_eq_getElem_cons hi, e]
end Mine
namespace Mine
theorem setT9a : True := by
  (k_with "leaving ref" => (k_here; (rename RaisedSN _ _ _ _ _ _ _ => rX); (refine leave_onSN (by assumption) (by assumption) rX (by assumption) ?_); intro h' R' _ U'; (try dsimp only at R' U' ⊢)))
  (k_with "call ref" => (k_here; (with_reducible show wpAny _ _ (call (Value.ref 77) [Value.int _ _]) _ _ _); (refine Mine.Pure.use Mine.c_is_frame (by assumption) (by assumption) (by assumption) (by assumption) (by assumption) rfl (by assumption) (by k_extra "om") (by k_extra "om") ?_ ?_); rotate_left 1; (intro C9 e9 h' tk' er9; exact er9.elim); intro r9 h' tk' F' N' st9 ok9; (try dsimp only at ok9); rcases ok9 with ⟨e9, ok9⟩ | ⟨e9, ok9⟩ <;> subst e9))
  (k_with "call ref" => (k_here; (with_reducible show wpAny _ _ (call (Value.ref 155) [Value.bytes _ _]) _ _ _); (rename Fr _ _ _ _ => lF); (refine Mine.Pure.use (Mine.c_read_pieces (by k_extra "om")) (by assumption) lF (by assumption) (by assumption) (by assumption) rfl (by assumption) (by k_extra "om") (by k_extra "om") ?_ ?_); rotate_left 1; (intro C9 e9 h' tk' er9 R9 U9; (try dsimp only at er9 R9 U9 ⊢)); rotate_left 1; intro r9 h' tk' F' N' st9 ok9; (try dsimp only at ok9); (obtain ⟨l9, vs9, k9, ds9, en9, e9, g9, ge9, p9, t9, b9, n9, ne9, z9⟩ := ok9); subst e9; (have N9 := Mine.news_put lF (Mine.news_puts lF N' ge9 ne9) g9 n9)))
  (k_with "getAttr ref" => (k_here; (refine get_own (by assumption) (by assumption) (InstAt.of_news (by assumption) (List.mem_append_right _ (List.mem_cons_of_mem _ (by assumption))) (List.mem_append_right _ (List.mem_cons_of_mem _ (by assumption)))) (by k_is) (by k_is) (by k_is) (by k_is) (by assumption) (by k_handed) ?_)))
  (k_with "exec For Name Call cons nil" => (k_here; (rename Fr _ _ _ _ => lF'); (refine For_invVF lF' rfl rfl ?_)))
  trivial
theorem c_kind_of_file {w : World} {mean mg mb} {b : Array UInt8} {tb : Tok} (hb : b.size ≤ 1000) :
    PC w mean mg mb 162 20 150 [.bytes b tb] (KindOk b) (PiecesErr b) := by
  intro A base outer s Q E Z hh hd hu ok er
  refine wpAny_call ?_
  obtain ⟨B, X, T, _, _⟩ := id Z
  refine enterAt (hid := []) (binds := [(Str.ofString "octets", .bytes b tb)]) Z (fun _ h => nomatch h) (by k_is) (by k_is) (by k_extra "om") (BindsTo.of_eq rfl) (locs rfl) ?_ (by decide) rfl rfl rfl
  intro L' h' F' N' l'
  dsimp only [mapOf, List.reverse, List.reverseAux] at F' ⊢
  k_fold
  k_extra "tb_start"
  rotate_left 1
  · exact er _ _ _ _ (by assumption) (by assumption) (by assumption)
  refine for_list (α := Option Value) (by assumption) (fun x y => if y = Str.ofString "piece" then x else if y = Str.ofString "octets" then some (.bytes b tb) else none) (fun _ => (l9, listOf vs9.toArray k9) :: en9)
    (fun i _ => kindS ds9 = kindS ((216 :: ds9).drop i)) none F' N9 (List.mem_cons_self ..) (by k_extra "tb_rel") (fun q hq => by rwa [List.append_nil]) (kind_216 ds9).symm (fun _ p p9 => ⟨p, p9, rfl⟩) ?_ ?_
  · intro i v x h2 tk2 own hv hk F' N'
    have hi : i < (216 :: ds9).length := by
      rw [← p9.1]
      exact (List.getElem?_eq_some_iff.mp hv).1
    have hc := List.getElem?_eq_getElem hi
    obtain ⟨xa, dx, es, k, t, rfl, hm1, hm2, hgc⟩ := p9.2 i v _ hv hc
    rw [drop_cons hc] at hk
    generalize (216 :: ds9)[i] = c at hgc hk
    show wpAny _ _ _ _ _ _
    clear hc hi hv
    k_fold
    k_extra "tb_start"
    · refine ok (.str _ _) _ _ (Fr.keep (by assumption)) (kind_of t9 b9 ?_)
      rw [hk, kindS, if_pos (by assumption)]
    · refine ok (.str _ _) _ _ (Fr.keep (by assumption)) (kind_of t9 b9 ?_)
      rw [hk, kindS, if_neg (by k_extra "om"), if_pos (by assumption), if_pos (by assumption)]
    · refine ok (.str _ _) _ _ (Fr.keep (by assumption)) (kind_of t9 b9 ?_)
      rw [hk, kindS, if_neg (by k_extra "om"), if_pos (by assumption), if_neg (by assumption)]
    · refine ForEnd.intro (some (.ref xa)) (by assumption) (by assumption) (by k_extra "tb_rel") (fun _ h => h) ?_
      rw [hk, kindS, if_neg (by k_extra "om"), if_neg (by unfold Frm; omega)]
  · intro x h2 tk2 hk F' N'
    rw [List.drop_of_length_le (Nat.le_of_eq p9.1.symm)] at hk
    show wpAny _ _ _ _ _ _
    k_extra "tb_start"
    refine ok (.str _ _) _ _ (Fr.keep (by assumption)) (kind_of t9 b9 ?_)
    rw [hk]
    rfl
end Mine
end

section
open PySem PySem.W PySem.Calls PyProof.Rows PySem.Spec
set_option Elab.async false
set_option maxRecDepth 100000
set_option maxHeartbeats 4000000
namespace Mine
theorem setT10 : True := by
  w_top off
  k_with_none
  (k_with "om" => (first | assumption | decide | exact Mine.dp (by assumption) | exact Mine.dp1 (by assumption) | exact Mine.dp0 (by assumption) | exact Nat.le_trans (by assumption) (by decide) | exact Int.le_refl _ | exact Int.not_lt.mp (by assumption) | exact Int.not_le.mp (by assumption) | exact Int.le_of_lt (by assumption) | exact Int.add_one_le_of_lt (by assumption) | omega))
  (k_with "tb_start" => repeat' ((fail_if_success (with_reducible show wpAny _ _ (exec (Stmt.While _ _ _ _) _) _ _ _)); (fail_if_success (with_reducible show wpAny _ _ (pyIter _) _ _ _)); first | (k_unfold; (try dsimp only)) | (k_end; wrow_close) | walk1 | (dsimp only; walk1) | fail "no step"))
  (k_with "call builtin:len" => ((with_reducible show wpAny _ _ (call (Value.builtin "len") [Value.bytes _ _]) _ _ _); refine len_bytes (by k_extra "om") ?_))
  (k_with "subscriptTail" => ((with_reducible show wpAny _ _ (subscriptTail _ _ (Value.bytes _ _) (Value.int _ _)) _ _ _); (refine Mine.item_O (by k_extra "om") (by k_extra "om") (by k_extra "om") ?_); intro _ _ _ _))
  (k_with "tb_rel" => (intro y; (try dsimp only); (repeat' split) <;> first | rfl | (simp_all; done) | (simp_all; contradiction) | (rename_i p1 p2; exact absurd (p1.symm.trans p2) (by decide)) | (rename_i p1 p2 p3; exact absurd (p1.symm.trans p3) (by decide))))
  (k_with "exec Raise some none" => (k_here; refine Mine.raise_made (by assumption) ?_))
  (k_with "call ref" => (k_here; (with_reducible show wpAny _ _ (call (Value.ref _) [Value.str _ _]) _ _ _); (refine Mine.make_exc (by unfold Mine.XCls; decide) (by assumption) (by assumption) (by assumption) (by assumption) rfl (by assumption) (by k_extra "om") (by k_extra "om") ?_); intro e9 h9 tk9 x9 c9; refine ⟨_, _, rfl, x9.2.2, c9, ?_⟩; try dsimp only))
  (k_with "leaving ref" => (k_here; (refine Mine.leave_newC (by assumption) (by assumption) (by assumption) ?_); intro h' R' U'; (try dsimp only at R' U' ⊢)))
  (k_with "subscriptTail" => (k_here; (with_reducible show wpAny _ _ (subscriptTail _ (Expr.Slice _ _ none _) (Value.bytes _ _) (Value.ref _)) _ _ _); (with_reducible rename Fr _ _ _ _ => F'); (with_reducible rename News _ _ _ _ => N'); (refine KBc.slice_K (s := ⟨_, _, _, _, _⟩) F' N' rfl (by constructor) (by constructor) (by rw [KBw.ints_length]; omega) ?_); intro h' t' k' F' N' _))
  (k_with "call type:bytes" => (k_here; (with_reducible show wpAny _ _ (call (Value.type _) [Value.bytes _ _]) _ _ _); refine Mine.bytes_same ?_))
  (k_with "assign Tuple" => (k_here; (with_reducible show wpAny _ _ (assign (Expr.Tuple _ _ _) _ (Value.ref _)) _ _ _); (refine unpackN_ (by assumption) (by assumption) (News.isTup (by assumption) (by k_mem)) (by assumption) rfl rfl ?_); intro h' F' N'))
  trivial
theorem lb_one {b : Array UInt8} {i j : Int} (hq : ∀ q, i ≤ q → q < j → ¬ Mn b q) (hn : ¬ Mn b j) : ∀ q, i ≤ q → q < j + 1 → ¬ Mn b q := by
  intro q h1 h2
  rcases (by k_extra "om" : q < j ∨ q = j) with h | h
  · exact hq q h1 h
  · rw [h]; exact hn
theorem mn_a {b : Array UInt8} {j : Int} (k : O b j ≠ 255) : ¬ Mn b j := fun h => k h.1.2.1
theorem mn_b {b : Array UInt8} {j : Int} (k : O b (j + 1) = 255) : ¬ Mn b j := fun h => h.1.2.2.2 k
theorem mn_c {b : Array UInt8} {j : Int} (k : O b (j + 1) = 0 ∨ (208 ≤ O b (j + 1) ∧ O b (j + 1) ≤ 215)) : ¬ Mn b j ∧ ¬ Mn b (j + 1) :=
  ⟨fun h => by unfold Mn Mk at h; omega, mn_a (by omega)⟩
theorem mn_d {b : Array UInt8} {i j : Int} (hq : ∀ q, i ≤ q → q < j → ¬ Mn b q) (k : O b (j + 1) = 0 ∨ (208 ≤ O b (j + 1) ∧ O b (j + 1) ≤ 215)) : ∀ q, i ≤ q → q < j + 2 → ¬ Mn b q := by
  have := lb_one (lb_one hq (mn_c k).1) (j := j + 1) (mn_c k).2
  intro q h1 h2
  exact this q h1 (by omega)
theorem mn_e {b : Array UInt8} {j : Int} (h1 : j + 1 < b.size) (h2 : O b j = 255) (h3 : O b (j + 1) ≠ 255) (h4 : O b (j + 1) ≠ 0) (h5 : O b (j + 1) < 208 ∨ 215 < O b (j + 1)) : Mn b j := ⟨⟨h1, h2, h4, h3⟩, h5⟩
theorem mn_f {b : Array UInt8} {i j p : Int} (hq : ∀ q, i ≤ q → q < j → ¬ Mn b q) (k : ¬ j + 1 < b.size) (h1 : i ≤ p) (h : Mn b p) : False := by
  have := h.1.1
  exact hq p h1 (by omega) h
theorem c_law_behind {w : World} {mean mg mb} {b : Array UInt8} {tb : Tok} {i : Int} {ti : Tok} (hb : b.size ≤ 1000) (hi : 0 ≤ i) :
    PC w mean mg mb 202 3 30 [.bytes b tb, .int i ti]
      (fun h r h' => (∃ p tp, r = .int p tp ∧ Fst b i p) ∨ (r = .none ∧ ∀ p, i ≤ p → ¬ Mn b p))
      (fun C => False) := by
  intro A base outer s Q E Z hh hd hu ok er
  refine wpAny_call ?_
  obtain ⟨B, X, T, _, _⟩ := id Z
  refine enterAt (hid := []) (binds := [(Str.ofString "octets", .bytes b tb), (Str.ofString "at", .int i ti)]) Z (fun _ h => nomatch h) (by k_is) (by k_is) (by k_extra "om") (BindsTo.of_eq rfl) (locs rfl) ?_ (by decide) rfl rfl rfl
  intro L' h' F' N' l'
  dsimp only [mapOf, List.reverse, List.reverseAux] at F' ⊢
  k_fold
  k_extra "tb_start"
  refine While_st (α := Int × Tok) (fun x y => if y = Str.ofString "at" then some (.int x.1 x.2) else if y = Str.ofString "octets" then some (.bytes b tb) else none) (fun _ => [])
    (fun x => i ≤ x.1 ∧ ∀ q, i ≤ q → q < x.1 → ¬ Mn b q) (fun x => (b.size - x.1).toNat) (i, ti) F' N' (fun _ => rfl) (fun _ h => nomatch h) ⟨by dsimp only; k_extra "om", by intro q h1 h2; dsimp only at h2; omega⟩ ?_
  rintro ⟨j, tj⟩ h₁ tk₁ ⟨hj, hq⟩ F' N'
  dsimp only at hj hq F' N' ⊢
  k_fold
  k_extra "tb_start"
  · exact TurnEnd.intro (j + 1, _) (by assumption) (by assumption) (by k_extra "tb_rel") (fun _ h => nomatch h) ⟨by dsimp only; k_extra "om", lb_one hq (mn_a (by assumption))⟩ (by dsimp only; first | exact Mine.ms (by k_extra "om") (by k_extra "om") | omega)
  · exact TurnEnd.intro (j + 1, _) (by assumption) (by assumption) (by k_extra "tb_rel") (fun _ h => nomatch h) ⟨by dsimp only; k_extra "om", lb_one hq (mn_b (by assumption))⟩ (by dsimp only; first | exact Mine.ms (by k_extra "om") (by k_extra "om") | omega)
  · exact TurnEnd.intro (j + 2, _) (by assumption) (by assumption) (by k_extra "tb_rel") (fun _ h => nomatch h) ⟨by dsimp only; omega, mn_d hq (.inl (by assumption))⟩ (by dsimp only; first | exact Mine.ms (by k_extra "om") (by k_extra "om") | omega)
  · exact TurnEnd.intro (j + 2, _) (by assumption) (by assumption) (by k_extra "tb_rel") (fun _ h => nomatch h) ⟨by dsimp only; omega, mn_d hq (.inr ⟨by assumption, by assumption⟩)⟩ (by dsimp only; first | exact Mine.ms (by k_extra "om") (by k_extra "om") | omega)
  · exact ok (.int j tj) _ _ (Fr.keep (by assumption)) (.inl ⟨j, tj, rfl, hj, mn_e (by assumption) (by k_extra "om") (by assumption) (by assumption) (by first | exact .inl (Int.not_le.mp (by assumption)) | exact .inr (Int.not_le.mp (by assumption)) | omega), hq⟩)
  · exact ok (.int j tj) _ _ (Fr.keep (by assumption)) (.inl ⟨j, tj, rfl, hj, mn_e (by assumption) (by k_extra "om") (by assumption) (by assumption) (by first | exact .inl (Int.not_le.mp (by assumption)) | exact .inr (Int.not_le.mp (by assumption)) | omega), hq⟩)
  · exact ok .none _ _ (Fr.keep (by assumption)) (.inr ⟨rfl, fun p h1 h => mn_f hq (by assumption) h1 h⟩)
end Mine
end

section
open PySem PySem.W PySem.Calls PyProof.Rows PySem.Spec
set_option Elab.async false
set_option maxRecDepth 100000
set_option maxHeartbeats 4000000
namespace Mine
theorem setT11 : True := by
  w_top off
  k_with_none
  (k_with "om" => (first | assumption | decide | exact Mine.dp (by assumption) | exact Mine.dp1 (by assumption) | exact Mine.dp0 (by assumption) | exact Nat.le_trans (by assumption) (by decide) | exact Int.le_refl _ | exact Int.not_lt.mp (by assumption) | exact Int.not_le.mp (by assumption) | exact Int.le_of_lt (by assumption) | exact Int.add_one_le_of_lt (by assumption) | omega))
  (k_with "tb_start" => repeat' ((fail_if_success (with_reducible show wpAny _ _ (execs (Stmt.If (Expr.BoolOp _ _ _) _ _ _ :: _) _) _ _ _)); (fail_if_success (with_reducible show wpAny _ _ (exec (Stmt.While _ _ _ _) _) _ _ _)); (fail_if_success (with_reducible show wpAny _ _ (pyIter _) _ _ _)); first | (k_unfold; (try dsimp only)) | (k_end; wrow_close) | walk1 | (dsimp only; walk1) | fail "no step"))
  (k_with "call builtin:len" => ((with_reducible show wpAny _ _ (call (Value.builtin "len") [Value.bytes _ _]) _ _ _); refine len_bytes (by k_extra "om") ?_))
  (k_with "subscriptTail" => ((with_reducible show wpAny _ _ (subscriptTail _ _ (Value.bytes _ _) (Value.int _ _)) _ _ _); (refine Mine.item_O (by k_extra "om") (by k_extra "om") (by k_extra "om") ?_); intro _ _ _ _))
  (k_with "tb_rel" => (intro y; (try dsimp only); (repeat' split) <;> first | rfl | (simp_all; done) | (simp_all; contradiction) | (rename_i p1 p2; exact absurd (p1.symm.trans p2) (by decide)) | (rename_i p1 p2 p3; exact absurd (p1.symm.trans p3) (by decide))))
  (k_with "exec Raise some none" => (k_here; refine Mine.raise_made (by assumption) ?_))
  (k_with "call ref" => (k_here; (with_reducible show wpAny _ _ (call (Value.ref _) [Value.str _ _]) _ _ _); (refine Mine.make_exc (by unfold Mine.XCls; decide) (by assumption) (by assumption) (by assumption) (by assumption) rfl (by assumption) (by k_extra "om") (by k_extra "om") ?_); intro e9 h9 tk9 x9 c9; refine ⟨_, _, rfl, x9.2.2, c9, ?_⟩; try dsimp only))
  (k_with "leaving ref" => (k_here; (refine Mine.leave_newC (by assumption) (by assumption) (by assumption) ?_); intro h' R' U'; (try dsimp only at R' U' ⊢)))
  (k_with "subscriptTail" => (k_here; (with_reducible show wpAny _ _ (subscriptTail _ (Expr.Slice _ _ none _) (Value.bytes _ _) (Value.ref _)) _ _ _); (with_reducible rename Fr _ _ _ _ => F'); (with_reducible rename News _ _ _ _ => N'); (refine KBc.slice_K (s := ⟨_, _, _, _, _⟩) F' N' rfl (by constructor) (by constructor) (by rw [KBw.ints_length]; omega) ?_); intro h' t' k' F' N' _))
  (k_with "call type:bytes" => (k_here; (with_reducible show wpAny _ _ (call (Value.type _) [Value.bytes _ _]) _ _ _); refine Mine.bytes_same ?_))
  (k_with "assign Tuple" => (k_here; (with_reducible show wpAny _ _ (assign (Expr.Tuple _ _ _) _ (Value.ref _)) _ _ _); (refine unpackN_ (by assumption) (by assumption) (News.isTup (by assumption) (by k_mem)) (by assumption) rfl rfl ?_); intro h' F' N'))
  (k_with "unpackItems" => (k_here; (refine unpackItemsN_ (by assumption) (by assumption) (News.isTup (by assumption) (by k_mem)) (by assumption) rfl ?_); intro h' F' N'; (try dsimp only)))
  trivial
end Mine
namespace Mine
theorem setT11a : True := by
  (k_with "call ref" => (k_here; (with_reducible show wpAny _ _ (call (Value.ref 202) [Value.bytes _ _, Value.int _ _]) _ _ _); (refine Mine.Pure.use (Mine.c_law_behind (by k_extra "om") (by k_extra "om")) (by assumption) (by assumption) (by assumption) (by assumption) (by assumption) rfl (by assumption) (by k_extra "om") (by k_extra "om") ?_ ?_); rotate_left 1; (intro C9 e9 h' tk' er9; exact er9.elim); intro r9 h' tk' F' N' st9 ok9; (try dsimp only at ok9); rcases ok9 with ⟨p9, tp9, e9, ok9⟩ | ⟨e9, ok9⟩ <;> subst e9))
  trivial
section
variable {prog : Program} {w : World} {A : Around} {E : Value → Shared → Prop} {Q : Flow → Shared → Prop} {s : Shared} {env : Env} {h₀ : Heap} {L : Addr} {α : Type}
/-- a test whose ways meet with one fact, or leave -/
def CutF (h₀ : Heap) (L : Addr) (s : Shared) (m : Str → Option Value) (news : List (Addr × Obj)) (P : Prop) (Q : Flow → Shared → Prop) (f : Flow) (s₃ : Shared) : Prop :=
  match f with
  | .next => ∃ h' tk', s₃ = { s with heap := h', toks := tk' } ∧ Fr h₀ L h' m ∧ News h₀ L h' news ∧ P
  | f => Q f s₃
theorem CutF.intro {m : Str → Option Value} {news news' : List (Addr × Obj)} {P : Prop} {h' : Heap} {tk' : Nat} (F : Fr h₀ L h' m) (N : News h₀ L h' news') (hn : ∀ q ∈ news, q ∈ news') (hp : P) : CutF h₀ L s m news P Q .next { s with heap := h', toks := tk' } :=
  ⟨h', tk', rfl, F, fun q hq => N q (hn q hq), hp⟩
theorem st_cutF {st : Stmt} {rest : List Stmt} {m : Str → Option Value} {news : List (Addr × Obj)} (F : Fr h₀ L s.heap m) (N : News h₀ L s.heap news) (P : Prop)
    (h1 : wpAny (model prog w) A (exec st env) (CutF h₀ L s m news P Q) E s)
    (h2 : ∀ h' tk', P → Fr h₀ L h' m → News h₀ L h' news → wpAny (model prog w) A (execs rest env) Q E { s with heap := h', toks := tk' }) :
    wpAny (model prog w) A (execs (st :: rest) env) Q E s := by
  refine wpAny_execs_cons (wpAny_mono h1 (fun fl s₃ p => ?_) fun _ _ e => e)
  cases fl with
  | next => obtain ⟨h', tk', rfl, F', N', hp⟩ := p; exact h2 h' tk' hp F' N'
  | ret v => exact p
  | brk => exact p
  | cont => exact p
/-- a while whose test's ways meet -/
def TestEnd (h₀ : Heap) (L : Addr) (s : Shared) (M : α → Str → Option Value) (D : α → List (Addr × Obj)) (R : Bool → α → Prop) (x : α) (b : Bool) (s₂ : Shared) : Prop :=
  ∃ h' tk', s₂ = { s with heap := h', toks := tk' } ∧ Fr h₀ L h' (M x) ∧ News h₀ L h' (D x) ∧ R b x
theorem TestEnd.intro {M : α → Str → Option Value} {D : α → List (Addr × Obj)} {R : Bool → α → Prop} {x : α} {b : Bool} {h' : Heap} {tk' : Nat} {news : List (Addr × Obj)} (F : Fr h₀ L h' (M x)) (N : News h₀ L h' news) (hn : ∀ q ∈ D x, q ∈ news) (r : R b x) :
    TestEnd h₀ L s M D R x b { s with heap := h', toks := tk' } := ⟨h', tk', rfl, F, fun q hq => N q (hn q hq), r⟩
theorem While_bt {test : Expr} {body : List Stmt} {pos : Pos} {m : Str → Option Value} {news : List (Addr × Obj)} (M : α → Str → Option Value) (D : α → List (Addr × Obj)) (P : α → Prop) (R : Bool → α → Prop) (μ : α → Nat) (x₀ : α)
    (F : Fr h₀ L s.heap m) (N : News h₀ L s.heap news) (hm : ∀ y, m y = M x₀ y) (hn : ∀ q ∈ D x₀, q ∈ news) (hp : P x₀)
    (tst : ∀ x h₁ tk₁, P x → Fr h₀ L h₁ (M x) → News h₀ L h₁ (D x) → wpAny (model prog w) A (isTrue test env (eval test env)) (TestEnd h₀ L s M D R x) E { s with heap := h₁, toks := tk₁ })
    (turn : ∀ x h₁ tk₁, P x → R true x → Fr h₀ L h₁ (M x) → News h₀ L h₁ (D x) → wpAny (model prog w) A (execs body env) (TurnEnd h₀ L s M D P μ x Q) E { s with heap := h₁, toks := tk₁ })
    (done : ∀ x h₁ tk₁, P x → R false x → Fr h₀ L h₁ (M x) → News h₀ L h₁ (D x) → Q .next { s with heap := h₁, toks := tk₁ })
    (hE : PassesOwn (model prog w) A env E := by passes_own) :
    wpAny (model prog w) A (exec (.While test body [] pos) env) Q E s := by
  refine While_st M D P μ x₀ F N hm hn hp (fun x h₁ tk₁ p F₁ N₁ => wpAny_mono (tst x h₁ tk₁ p F₁ N₁) (fun b s₂ h => ?_) fun _ _ e => e) hE
  obtain ⟨h', tk', rfl, F', N', r⟩ := h
  cases b with
  | true => simp only [if_true]; exact turn x h' tk' p r F' N'
  | false => simp only [Bool.false_eq_true, if_false]; exact done x h' tk' p r F' N'
end
theorem len_of {c : Int} (h : c ≠ 0 ∧ (c < 208 ∨ 216 < c)) (k : c ≠ 1 ∧ c ≠ 217) : Len c := ⟨h.1, k.1, k.2, h.2⟩
theorem mk_cd {b : Array UInt8} {i j : Int} (hj : i ≤ j) (hj3 : j = i → i < b.size ∧ O b i = 255) (hq : ∀ q, i ≤ q → q < j → O b q = 255) (h1 : j < b.size) (h2 : O b j ≠ 255) : Cd b i j := by
  refine ⟨?_, h1, hq, h2⟩
  rcases Int.lt_or_eq_of_le hj with h | h
  · exact h
  · subst h; exact absurd (hj3 rfl).2 h2
theorem l_alone {b : Array UInt8} {i e : Int} (cd : Cd b i e) (h : O b e = 1 ∨ O b e = 217) : StOk b i (O b e) (e + 1) ∧ i < e + 1 ∧ e + 1 ≤ b.size ∧ 0 ≤ O b e ∧ O b e < 256 :=
  ⟨.alone e cd h, by have := cd.1; omega, by have := cd.2.1; omega, O_lo _ _, O_hi _ _⟩
theorem l_seg {b : Array UInt8} {i e x : Int} (cd : Cd b i e) (hl : Len (O b e)) (hx : x = e + 1 + sz b (e + 1)) (h1 : e + 3 ≤ b.size) (h2 : e + 1 + 2 ≤ x) (h3 : x ≤ b.size) (hc : O b e ≠ 218) :
    StOk b i (O b e) x ∧ i < x ∧ x ≤ b.size ∧ 0 ≤ O b e ∧ O b e < 256 := by
  subst hx
  exact ⟨.seg e cd hl h1 (by k_extra "om") h3 hc, by have := cd.1; omega, h3, O_lo _ _, O_hi _ _⟩
theorem l_scan {b : Array UInt8} {i e x p : Int} (cd : Cd b i e) (hl : Len (O b e)) (hx : x = e + 1 + sz b (e + 1)) (h1 : e + 3 ≤ b.size) (h2 : e + 1 + 2 ≤ x) (h3 : x ≤ b.size) (hc : O b e = 218) (hf : Fst b x p) :
    StOk b i (O b e) p ∧ i < p ∧ p ≤ b.size ∧ 0 ≤ O b e ∧ O b e < 256 := by
  subst hx
  exact ⟨.scan e p cd hl h1 (by k_extra "om") h3 hc hf, by have := cd.1; have := hf.1; omega, by have := hf.2.1.1.1; omega, O_lo _ _, O_hi _ _⟩
theorem l_over {b : Array UInt8} {i e x : Int} (cd : Cd b i e) (hl : Len (O b e)) (hx : x = e + 1 + sz b (e + 1)) (h1 : e + 3 ≤ b.size) (h2 : e + 1 + 2 ≤ x) (h3 : b.size < x) : StErr b i 68 := by
  subst hx
  exact .over e cd hl h1 (by k_extra "om") h3
theorem l_end {b : Array UInt8} {i e x : Int} (cd : Cd b i e) (hl : Len (O b e)) (hx : x = e + 1 + sz b (e + 1)) (h1 : e + 3 ≤ b.size) (h2 : e + 1 + 2 ≤ x) (h3 : x ≤ b.size) (hc : O b e = 218) (hf : ∀ p, x ≤ p → ¬ Mn b p) : StErr b i 68 := by
  subst hx
  exact .scan e cd hl h1 (by k_extra "om") h3 hc hf
noncomputable def nmC (C : Addr) : Str := if C = 68 then Str.ofString "cut" else if C = 44 then Str.ofString "marker" else Str.ofString "segment"
def StepOk (b : Array UInt8) (i : Int) (h : Heap) (r : Value) (h' : Heap) : Prop :=
  (∃ C t, r = .str (nmC C) t ∧ StErr b i C) ∨ (∃ l c a tc ta n, r = .ref l ∧ h'.get? l = some (listOf #[.int c tc, .int a ta] n) ∧ h.get? l = none ∧ StOk b i c a ∧ i < a ∧ a ≤ b.size ∧ 0 ≤ c ∧ c < 256)
theorem c_law_step {w : World} {mean mg mb} {b : Array UInt8} {tb : Tok} {i : Int} {ti : Tok} (hb : b.size ≤ 1000) (hi : 0 ≤ i) :
    PC w mean mg mb 209 6 60 [.bytes b tb, .int i ti] (StepOk b i) (fun C => False) := by
  intro A base outer s Q E Z hh hd hu ok er
  refine wpAny_call ?_
  obtain ⟨B, X, T, _, _⟩ := id Z
  refine enterAt (hid := []) (binds := [(Str.ofString "octets", .bytes b tb), (Str.ofString "at", .int i ti)]) Z (fun _ h => nomatch h) (by k_is) (by k_is) (by k_extra "om") (BindsTo.of_eq rfl) (locs rfl) ?_ (by decide) rfl rfl rfl
  intro L' h' F' N' l'
  dsimp only [mapOf, List.reverse, List.reverseAux] at F' ⊢
  k_fold
  k_extra "tb_start"
  · exact ok (.str _ _) _ _ (Fr.keep (by assumption)) (.inl ⟨68, _, rfl, .fill fun q h1 h2 => by k_extra "om"⟩)
  · exact ok (.str _ _) _ _ (Fr.keep (by assumption)) (.inl ⟨44, _, rfl, .none (by k_extra "om") (by assumption)⟩)
  refine While_st (α := Int × Tok) (fun x y => if y = Str.ofString "at" then some (.int x.1 x.2) else if y = Str.ofString "octets" then some (.bytes b tb) else none) (fun _ => [])
    (fun x => i ≤ x.1 ∧ x.1 ≤ b.size ∧ (x.1 = i → i < b.size ∧ O b i = 255) ∧ ∀ q, i ≤ q → q < x.1 → O b q = 255) (fun x => (b.size - x.1).toNat) (i, ti) (by assumption) (by assumption) (fun _ => rfl) (fun _ h => nomatch h)
    ⟨by dsimp only; k_extra "om", by dsimp only; k_extra "om", by dsimp only; k_extra "om", by intro q h1 h2; dsimp only at h2; omega⟩ ?_
  rintro ⟨j, tj⟩ h₁ tk₁ ⟨hj, hj2, hj3, hq⟩ F' N'
  dsimp only at hj hj2 hj3 hq F' N' ⊢
  k_fold
  k_extra "tb_start"
  · refine TurnEnd.intro (j + 1, _) (by assumption) (by assumption) (by k_extra "tb_rel") (fun _ h => nomatch h) ⟨by dsimp only; k_extra "om", by dsimp only; k_extra "om", by dsimp only; k_extra "om", ?_⟩ (by dsimp only; first | exact Mine.ms (by k_extra "om") (by k_extra "om") | omega)
    intro q h1 h2
    rcases (by dsimp only at h2; omega : q < j ∨ q = j) with h3 | h3
    · exact hq q h1 h3
    · rw [h3]; assumption
  all_goals first
    | (exfalso; omega)
    | exact ok (.str _ _) _ _ (Fr.keep (by assumption)) (.inl ⟨68, _, rfl, .fill fun q h1 h2 => hq q h1 (by k_extra "om")⟩)
    | skip
  have cd : Cd b i j := mk_cd hj hj3 hq (by k_extra "om") (by assumption)
  refine st_cutF (by assumption) (by assumption) (O b j ≠ 0 ∧ (O b j < 208 ∨ 216 < O b j)) ?_ ?_
  · k_extra "tb_start"
    all_goals first
      | exact CutF.intro (by assumption) (by assumption) (fun _ h => h) ⟨by assumption, by omega⟩
      | exact ok (.str _ _) _ _ (Fr.keep (by assumption)) (.inl ⟨44, _, rfl, .code j cd (by first | exact .inl (by assumption) | exact .inr ⟨by assumption, by assumption⟩)⟩)
  intro h₅ tk₅ hz F₅ N₅
  show wpAny _ _ _ _ _ _
  refine st_cutF F₅ N₅ (Len (O b j)) ?_ ?_
  · k_extra "tb_start"
    · exact ok (.ref _) _ _ (Fr.keep (by assumption)) (.inr ⟨_, O b j, _, _, _, _, rfl, News.get (by assumption) (.head _), News.fresh (by assumption) (.head _), l_alone cd (any2t (by assumption))⟩)
    · exact CutF.intro (by assumption) (by assumption) (fun _ h => .tail _ h) (len_of hz (any2f (by assumption)))
  intro h₆ tk₆ hl F₆ N₆
  show wpAny _ _ _ _ _ _
  k_extra "tb_start"
  all_goals first
    | exact ok (.str _ _) _ _ (Fr.keep (by assumption)) (.inl ⟨68, _, rfl, .short j cd hl (by k_extra "om")⟩)
    | exact ok (.str _ _) _ _ (Fr.keep (by assumption)) (.inl ⟨56, _, rfl, .small j cd hl (by k_extra "om") (by unfold sz; omega)⟩)
    | exact ok (.str _ _) _ _ (Fr.keep (by assumption)) (.inl ⟨68, _, rfl, l_over cd hl (x := j + 1 + (256 * O b (j + 1) + O b (j + 1 + 1))) (by unfold sz; omega) (by k_extra "om") (by k_extra "om") (by k_extra "om")⟩)
    | exact ok (.str _ _) _ _ (Fr.keep (by assumption)) (.inl ⟨68, _, rfl, l_end cd hl (x := j + 1 + (256 * O b (j + 1) + O b (j + 1 + 1))) (by unfold sz; omega) (by k_extra "om") (by k_extra "om") (by k_extra "om") (by k_extra "om") (by assumption)⟩)
    | exact ok (.ref _) _ _ (Fr.keep (by assumption)) (.inr ⟨_, O b j, _, _, _, _, rfl, News.get (by assumption) (.head _), News.fresh (by assumption) (.head _), l_seg cd hl (by unfold sz; omega) (by k_extra "om") (by k_extra "om") (by k_extra "om") (by k_extra "om")⟩)
    | exact ok (.ref _) _ _ (Fr.keep (by assumption)) (.inr ⟨_, O b j, _, _, _, _, rfl, News.get (by assumption) (.head _), News.fresh (by assumption) (.head _), l_scan cd hl (x := j + 1 + (256 * O b (j + 1) + O b (j + 1 + 1))) (by unfold sz; omega) (by k_extra "om") (by k_extra "om") (by k_extra "om") (by k_extra "om") (by assumption)⟩)
end Mine
end

section
open PySem PySem.W PySem.Calls PyProof.Rows PySem.Spec
set_option Elab.async false
set_option maxRecDepth 100000
set_option maxHeartbeats 4000000
namespace Mine
theorem setT12 : True := by
  w_top off
  k_with_none
  (k_with "om" => (first | assumption | decide | exact Mine.dp (by assumption) | exact Mine.dp1 (by assumption) | exact Mine.dp0 (by assumption) | exact Nat.le_trans (by assumption) (by decide) | exact Int.le_refl _ | exact Int.not_lt.mp (by assumption) | exact Int.not_le.mp (by assumption) | exact Int.le_of_lt (by assumption) | exact Int.add_one_le_of_lt (by assumption) | omega))
  (k_with "tb_start" => repeat' ((fail_if_success (with_reducible show wpAny _ _ (exec (Stmt.While _ _ _ _) _) _ _ _)); (fail_if_success (with_reducible show wpAny _ _ (pyIter _) (fun it s₂ => LoopAtV _ _ _ _ _ _ _ _ _ it s₂) _ _)); first | (k_unfold; (try dsimp only)) | (k_end; wrow_close) | walk1 | (dsimp only; walk1) | fail "no step"))
  (k_with "call builtin:len" => ((with_reducible show wpAny _ _ (call (Value.builtin "len") [Value.bytes _ _]) _ _ _); refine len_bytes (by k_extra "om") ?_))
  (k_with "subscriptTail" => ((with_reducible show wpAny _ _ (subscriptTail _ _ (Value.bytes _ _) (Value.int _ _)) _ _ _); (refine Mine.item_O (by k_extra "om") (by k_extra "om") (by k_extra "om") ?_); intro _ _ _ _))
  (k_with "tb_rel" => (intro y; (try dsimp only); (repeat' split) <;> first | rfl | (simp_all; done) | (simp_all; contradiction) | (rename_i p1 p2; exact absurd (p1.symm.trans p2) (by decide)) | (rename_i p1 p2 p3; exact absurd (p1.symm.trans p3) (by decide))))
  (k_with "exec Raise some none" => (k_here; refine Mine.raise_made (by assumption) ?_))
  (k_with "call ref" => (k_here; (with_reducible show wpAny _ _ (call (Value.ref _) [Value.str _ _]) _ _ _); (refine Mine.make_exc (by unfold Mine.XCls; decide) (by assumption) (by assumption) (by assumption) (by assumption) rfl (by assumption) (by k_extra "om") (by k_extra "om") ?_); intro e9 h9 tk9 x9 c9; refine ⟨_, _, rfl, x9.2.2, c9, ?_⟩; try dsimp only))
  (k_with "leaving ref" => (k_here; (refine Mine.leave_newC (by assumption) (by assumption) (by assumption) ?_); intro h' R' U'; (try dsimp only at R' U' ⊢)))
  (k_with "subscriptTail" => (k_here; (with_reducible show wpAny _ _ (subscriptTail _ (Expr.Slice _ _ none _) (Value.bytes _ _) (Value.ref _)) _ _ _); (with_reducible rename Fr _ _ _ _ => F'); (with_reducible rename News _ _ _ _ => N'); (refine KBc.slice_K (s := ⟨_, _, _, _, _⟩) F' N' rfl (by constructor) (by constructor) (by rw [KBw.ints_length]; omega) ?_); intro h' t' k' F' N' _))
  (k_with "call type:bytes" => (k_here; (with_reducible show wpAny _ _ (call (Value.type _) [Value.bytes _ _]) _ _ _); refine Mine.bytes_same ?_))
  (k_with "assign Tuple" => (k_here; (with_reducible show wpAny _ _ (assign (Expr.Tuple _ _ _) _ (Value.ref _)) _ _ _); (refine unpackN_ (by assumption) (by assumption) (News.isTup (by assumption) (by k_mem)) (by assumption) rfl rfl ?_); intro h' F' N'))
  (k_with "unpackItems" => (k_here; (refine unpackItemsN_ (by assumption) (by assumption) (News.isTup (by assumption) (by k_mem)) (by assumption) rfl ?_); intro h' F' N'; (try dsimp only)))
  trivial
theorem first_two {b : Array UInt8} (h : 2 ≤ (b.size : Int)) : (KBy.picked b none (some 2)).toList = [(255 : UInt8), 216] ↔ O b 0 = 255 ∧ O b 1 = 216 := by
  rw [KBc.picked_eq]
  obtain ⟨l⟩ := b
  match l with
  | [] => simp at h
  | [x] => simp at h
  | x :: y :: r =>
    have e : clipAt (List.toArray (x :: y :: r)).size (2 : Int) = 2 := by
      have := clipAt_nat (List.toArray (x :: y :: r)).size 2
      rw [show ((2 : Nat) : Int) = 2 from rfl] at this
      rw [this]; simp
    simp only [Option.elim, e, List.drop_zero, Nat.sub_zero, O]
    simp only [List.take_succ_cons, List.take_zero, List.cons.injEq, and_true]
    show x = 255 ∧ y = 216 ↔ ((x.toNat : Int) = 255 ∧ (y.toNat : Int) = 216)
    constructor
    · rintro ⟨rfl, rfl⟩; exact ⟨rfl, rfl⟩
    · rintro ⟨h1, h2⟩
      exact ⟨UInt8.toNat_inj.mp (by show x.toNat = 255; omega), UInt8.toNat_inj.mp (by show y.toNat = 216; omega)⟩
theorem eq_of_bne_false {x y : List UInt8} (h : (x != y) = false) : x = y := by simpa using h
def AllNe (a : Addr) : List (Addr × Obj) → Prop
  | [] => True
  | p :: r => @Ne Nat a p.1 ∧ AllNe a r
theorem news_apart {g h : Heap} {L a : Addr} (f : h.get? a = none) : ∀ {news : List (Addr × Obj)}, News g L h news → AllNe a news
  | [], _ => trivial
  | p :: r, N => by
    refine ⟨fun e => ?_, news_apart f fun q hq => N q (.tail _ hq)⟩
    have e' : a = p.1 := e
    have := (N p (.head _)).1
    rw [← e', f] at this; cases this
theorem ints_last {vs : List Value} {ds : List Int} (h : IntsAre vs ds) (hd : ds ≠ []) : 1 ≤ vs.length ∧ ∃ t, vs[((-1 : Int) + (vs.length : Int)).toNat]? = some (.int (ds.getLast?.getD 0) t) := by
  have hl := h.length
  rcases List.eq_nil_or_concat ds with e | ⟨l, a, e⟩
  · exact absurd e hd
  · subst e
    have hv : vs.length = l.length + 1 := by rw [hl]; simp
    refine ⟨by k_extra "om", ?_⟩
    obtain ⟨t, ht⟩ := h.get l.length a (by simp)
    refine ⟨t, ?_⟩
    rw [show ((-1 : Int) + (vs.length : Int)).toNat = l.length by k_extra "om", ht]
    simp
theorem last_int {prog : Program} {w : World} {A : Around} {E : Value → Shared → Prop} {s : Shared} {g : Heap} {L a : Addr} {news : List (Addr × Obj)} {value slice : Expr} {vs : List Value} {ds : List Int} {n : Nat} {u : Tok} {Q : Value → Shared → Prop}
    (N : News g L s.heap news) (hm : (a, listOf vs.toArray n) ∈ news) (hp : IntsAre vs ds) (hd : decide (ds = []) = false) (h : ∀ t, Q (.int (ds.getLast?.getD 0) t) s)
    (hs : subscripted slice false (.ref a) (.int (-1) u) = operate [.ref a, .int (-1) u] (getItem (.ref a) (.int (-1) u)) := by with_unfolding_all rfl) (hg : ∀ r, letTemporaryGo value (.ref a) r = pure () := by intro _; with_unfolding_all rfl) :
    wpAny (model prog w) A (subscriptTail value slice (.ref a) (.int (-1) u)) Q E s := by
  obtain ⟨h1, t, ht⟩ := ints_last hp (of_decide_eq_false hd)
  exact kim_back N hm rfl rfl (by decide) (by k_extra "om") (by decide) ht (h t) hs hg
end Mine
namespace Mine
theorem setT12a : True := by
  (k_with "call ref" => (k_here; (with_reducible show wpAny _ _ (call (Value.ref 209) [Value.bytes _ _, Value.int _ _]) _ _ _); (rename Fr _ _ _ _ => lF); (rename News _ _ _ _ => lN); (refine Mine.Pure.use (Mine.c_law_step (by k_extra "om") (by k_extra "om")) (by assumption) lF lN (by assumption) (by assumption) rfl (by assumption) (by k_extra "om") (by k_extra "om") ?_ ?_); rotate_left 1; (intro C9 e9 h' tk' er9; exact er9.elim); intro r9 h' tk' F' N' st9 ok9; (try dsimp only at ok9); rcases ok9 with ⟨C9, t9, e9, ok9⟩ | ⟨l9, c9, p9, tc9, tp9, n9, e9, g9, f9, ok9, lo9, hi9, z9, y9⟩ <;> subst e9; rotate_left 1; (have N9 := Mine.news_put lF N' g9 f9); (have q9 := Mine.news_apart f9 lN); (dsimp only [Mine.AllNe] at q9); rotate_left 1))
  (k_with "subscriptTail" => (k_here; (with_reducible show wpAny _ _ (subscriptTail _ _ (Value.ref _) (Value.int (-1) _)) _ _ _); (refine Mine.last_int (by assumption) (by k_mem) (by assumption) (by assumption) ?_); intro t9))
  trivial
theorem new_notin {prog : Program} {w : World} {A : Around} {E : Value → Shared → Prop} {s : Shared} {vs : List Value} {ns : List Int} {c : Int} {t : Tok} {Q : Value → Shared → Prop} (hi : IntsAre vs ns) (hz : vs.length ≤ 1000)
    (h : ∀ h', (∀ b o, s.heap.get? b = some o → h'.get? b = some o) → Q (.bool (!(ns.any fun x => x == c))) { s with heap := h' }) :
    wpAny (model prog w) A (newList vs) (fun l s' => wpAny (model prog w) A (compareOp .NotIn (.int c t) l) Q E s') E s := by
  refine wpAny_newObj_type ?_ (by show vs.toArray.size ≤ sizeLine; rw [List.size_toArray, sizeLine_eq]; omega)
  exact notin_list_ints (s := { s with heap := s.heap.push { cls := .type "list", data := .seq vs.toArray } }) ⟨_, Heap.get?_push_size _ rfl, rfl, _, rfl⟩ hi (h _ fun b o e => Heap.get?_push_of_some _ e)
noncomputable def hdB (c : Int) : Bool := decide (c = 222 ∨ Frm c)
theorem hd_true {c : Int} (h : c = 222 ∨ Frm c) : true = hdB c := (decide_eq_true h).symm
theorem hd_false {c : Int} (h : ¬ (c = 222 ∨ Frm c)) : false = hdB c := (decide_eq_false h).symm
theorem ints_snoc {c : Int} {t : Tok} : ∀ {vs : List Value} {ds : List Int}, IntsAre vs ds → IntsAre (vs ++ [.int c t]) (ds ++ [c])
  | _, _, .nil => .cons _ _ .nil
  | _, _, .cons _ _ r => .cons _ _ (ints_snoc r)
theorem last_eq0 {ds : List Int} (h : ds.getLast?.getD 0 = 217) : ds.getLast? = some 217 := by
  cases q : ds.getLast? with
  | none => rw [q] at h; simp at h
  | some c => rw [q] at h; simp at h; rw [h]
theorem last_ne0 {ds : List Int} (h : decide (ds = []) = true ∨ ds.getLast?.getD 0 ≠ 217) : ds.getLast? ≠ some 217 := fun q => by
  rcases h with h | h
  · rw [of_decide_eq_true h] at q; cases q
  · exact h (by rw [q]; rfl)
theorem kind_filter (ds : List Int) : kindS ds = match ds.filter hdB with | [] => Str.ofString "none" | c :: _ => if c = 222 then Str.ofString "pyramid" else if c = 195 then Str.ofString "lossless" else Str.ofString "blocks" := by
  induction ds with
  | nil => rfl
  | cons c r ih =>
    by_cases h1 : c = 222
    · rw [List.filter_cons_of_pos (hd_true (.inl h1)).symm]
      show kindS (c :: r) = if c = 222 then _ else _
      rw [kindS, if_pos h1, if_pos h1]
    · by_cases h2 : Frm c
      · rw [List.filter_cons_of_pos (hd_true (.inr h2)).symm]
        show kindS (c :: r) = if c = 222 then _ else _
        rw [kindS, if_neg h1, if_pos h2, if_neg h1]
      · rw [List.filter_cons_of_neg (by rw [← hd_false (c := c) (by rintro (h | h); exact h1 h; exact h2 h)]; decide), kindS, if_neg h1, if_neg h2]
        exact ih
theorem kf_nil {ds : List Int} (h : decide (List.map (fun a => a) (List.filter hdB ds) = []) = true) : Str.ofString "none" = kindS ds := by
  have h := of_decide_eq_true h
  rw [List.map_id'] at h
  rw [kind_filter, h]
theorem kf_cons {ds : List Int} {x : Str} (h : decide (List.map (fun a => a) (List.filter hdB ds) = []) = false)
    (hx : x = if (List.map (fun a => a) (List.filter hdB ds)).getD (Int.toNat 0) 0 = 222 then Str.ofString "pyramid" else if (List.map (fun a => a) (List.filter hdB ds)).getD (Int.toNat 0) 0 = 195 then Str.ofString "lossless" else Str.ofString "blocks") : x = kindS ds := by
  have h := of_decide_eq_false h
  rw [List.map_id'] at h hx
  rw [kind_filter]
  cases q : ds.filter hdB with
  | nil => exact absurd q h
  | cons c r =>
    rw [q] at hx
    exact hx
structure LS where
  vs : List Value
  n : Nat
  ds : List Int
  pos : Int
  tp : Tok
  told : Option Value
def ReadOk (b : Array UInt8) (h : Heap) (r : Value) (h' : Heap) : Prop :=
  ∃ x t, r = .str x t ∧ ((∃ C, PiecesErr b C ∧ x = nmC C) ∨ (∃ ds, Tr b 2 ds none ∧ (2 ≤ (b.size : Int) ∧ O b 0 = 255 ∧ O b 1 = 216) ∧ x = kindS ds))
theorem c_law_read {w : World} {mean mg mb} {b : Array UInt8} {tb : Tok} (hb : b.size ≤ 1000) :
    PC w mean mg mb 214 10 100 [.bytes b tb] (ReadOk b) (fun C => False) := by
  intro A base outer s Q E Z hh hd hu ok er
  refine wpAny_call ?_
  obtain ⟨B, X, T, _, _⟩ := id Z
  refine enterAt (hid := []) (binds := [(Str.ofString "octets", .bytes b tb)]) Z (fun _ h => nomatch h) (by k_is) (by k_is) (by k_extra "om") (BindsTo.of_eq rfl) (locs rfl) ?_ (by decide) rfl rfl rfl
  intro L' h' F' N' l'
  dsimp only [mapOf, List.reverse, List.reverseAux] at F' ⊢
  k_fold
  k_extra "tb_start"
  · exact ok (.str _ _) _ _ (Fr.keep (by assumption)) ⟨_, _, rfl, .inl ⟨68, .inl ⟨rfl, by k_extra "om"⟩, rfl⟩⟩
  · refine ok (.str _ _) _ _ (Fr.keep (by assumption)) ⟨_, _, rfl, .inl ⟨44, .inr (.inl ⟨rfl, by k_extra "om", ?_⟩), rfl⟩⟩
    rename_i hne
    have h2 : ¬ (O b 0 = 255 ∧ O b 1 = 216) := fun q => by
      have := (first_two (b := b) (by k_extra "om")).mpr q
      rw [this] at hne
      exact absurd hne (by decide)
    omega
  rename_i heq tk7 l0 h4 hl4 D0 h3 hD3 h1 h0 F0 N0
  have hb2 : 2 ≤ (b.size : Int) ∧ O b 0 = 255 ∧ O b 1 = 216 := ⟨by k_extra "om", (first_two (b := b) (by k_extra "om")).mp (eq_of_bne_false heq)⟩
  refine While_bt (α := LS) (fun x y => if y = Str.ofString "told" then x.told else if y = Str.ofString "at" then some (.int x.pos x.tp) else if y = Str.ofString "codes" then some (.ref l0) else if y = Str.ofString "octets" then some (.bytes b tb) else none)
    (fun x => [(l0, listOf x.vs.toArray x.n)])
    (fun x => IntsAre x.vs x.ds ∧ (x.vs.length : Int) + 2 ≤ x.pos ∧ x.pos ≤ b.size ∧ Inv b x.ds x.pos)
    (fun v x => if v = true then x.ds.getLast? ≠ some 217 else x.ds.getLast? = some 217) (fun x => (b.size - x.pos).toNat)
    ⟨[], 0, [], 2, _, none⟩ F0 N0 (by k_extra "tb_rel") (fun q hq => .tail _ hq) ⟨.nil, by dsimp only [List.length]; omega, by dsimp only; k_extra "om", inv_start b⟩ ?_ ?_ ?_
  · rintro ⟨vs, n, ds, pos, tp, told⟩ h₁ tk₁ ⟨hp, hlen, hat, inv⟩ F' N'
    dsimp only at hp hlen hat inv F' N'
    show wpAny _ _ _ _ _ _
    k_fold
    k_extra "tb_start"
    all_goals first
      | exact TestEnd.intro (by assumption) (by assumption) (fun _ h => .tail _ h) (last_ne0 (.inl (by assumption)))
      | exact TestEnd.intro (by assumption) (by assumption) (fun _ h => .tail _ h) (last_ne0 (.inr (by assumption)))
      | exact TestEnd.intro (by assumption) (by assumption) (fun _ h => .tail _ h) (last_eq0 (by assumption))
      | exact TestEnd.intro (by assumption) (by assumption) (fun _ h => h) (last_ne0 (.inr (by assumption)))
      | exact TestEnd.intro (by assumption) (by assumption) (fun _ h => h) (last_eq0 (by assumption))
  · rintro ⟨vs, n, ds, pos, tp, told⟩ h₁ tk₁ ⟨hp, hlen, hat, inv⟩ hl217 F' N'
    dsimp only at hp hlen hat inv F' N'
    replace hl217 : ds.getLast? ≠ some 217 := hl217
    show wpAny _ _ _ _ _ _
    k_fold
    k_extra "tb_start"
    · exact ok (.str _ _) _ _ (Fr.keep (by assumption)) ⟨_, _, rfl, .inl ⟨_, .inr (.inr ⟨hb2.1, hb2.2.1, hb2.2.2, ds, inv_err inv hl217 (by assumption)⟩), rfl⟩⟩
    · rename_i hA tkA tkB t1 hB t0 hC FC NC
      refine TurnEnd.intro ⟨vs ++ [.int c9 t1], n + 1, ds ++ [c9], p9, t0, some (.ref l9)⟩ FC NC (by k_extra "tb_rel") (fun q hq => ?_) ⟨ints_snoc hp, ?_, hi9, inv_ok inv hl217 ok9 .rfl⟩ (by dsimp only; first | exact Mine.ms (by k_extra "om") (by k_extra "om") | omega)
      · obtain rfl := List.mem_singleton.mp hq
        dsimp only
        rw [← List.push_toArray]
        exact .tail _ (.head _)
      · dsimp only
        rw [List.length_append, List.length_singleton]
        omega
  rintro ⟨vs, n, ds, pos, tp, told⟩ h₁ tk₁ ⟨hp, hlen, hat, inv⟩ heq217 F' N'
  dsimp only at hp hlen hat inv F' N'
  replace heq217 : ds.getLast? = some 217 := heq217
  show wpAny _ _ _ _ _ _
  k_extra "tb_start"
  refine srcA_listD (K := .int) (pz := hdB) (d := PyData.int) (by assumption) (News.isList (by assumption) (by k_mem)) hp.areOf (by assumption) (by assumption) ?_ ?_ ?_ (by rw [← hp.length, sizeLine_eq]; omega)
  · intro C c v s₂ m₂ E' hk hn hm htk
    obtain ⟨t, rfl⟩ := ItemKind.int_is hk
    (with_reducible refine wpAny_leafK ?_)
    (try (first | ((with_reducible refine markB ?_); intro _) | ((with_reducible refine markD ?_); intro _)))
    k_extra "tb_start"
    · exact SeqLeaf.intro ⟨hd_true (.inl (by assumption)), _, _, rfl, fun _ _ e => e⟩
    · refine new_notin (.cons _ _ (.cons _ _ (.cons _ _ .nil))) (by simp) fun h5 k5 => ?_
      k_extra "tb_start"
      · refine SeqLeaf.intro ⟨hd_false ?_, _, _, rfl, k5⟩
        have q : ([196, 200, 204].any fun x => x == c) = true := by assumption
        simp at q; unfold Frm; omega
      · refine SeqLeaf.intro ⟨hd_true (.inr ?_), _, _, rfl, k5⟩
        have q : ([196, 200, 204].any fun x => x == c) = false := by assumption
        simp at q; unfold Frm; omega
    · exact SeqLeaf.intro ⟨hd_false (by unfold Frm; omega), _, _, rfl, fun _ _ e => e⟩
    · exact SeqLeaf.intro ⟨hd_false (by unfold Frm; omega), _, _, rfl, fun _ _ e => e⟩
  · intro C c v s₂ m₂ E' hk hz hn hm htk
    obtain ⟨t, rfl⟩ := ItemKind.int_is hk
    (with_reducible refine wpAny_leafK ?_)
    (try (first | ((with_reducible refine markB ?_); intro _) | ((with_reducible refine markD ?_); intro _)))
    k_extra "tb_start"
  · intro D ys h2 tk2 F2 N2 hDn hDl hDp hys
    have hi := CarriedAll.intsOf hys
    obtain ⟨⟨oc, dd, od, sl⟩, ho, hoc, n4, hod⟩ := hDl
    dsimp only at hoc hod
    subst hoc hod
    have N3 := News.more F2 N2 ho (fun _ _ q => by cases q) hDn
    clear hDp hys N2 ho
    show wpAny _ _ _ _ _ _
    k_extra "tb_start"
    · exact ok (.str _ _) _ _ (Fr.keep (by assumption)) ⟨_, _, rfl, .inr ⟨ds, inv_end inv heq217, hb2, kf_nil (by assumption)⟩⟩
    · exact ok (.str _ _) _ _ (Fr.keep (by assumption)) ⟨_, _, rfl, .inr ⟨ds, inv_end inv heq217, hb2, kf_cons (by assumption) (by rw [if_pos (by assumption)])⟩⟩
    · exact ok (.str _ _) _ _ (Fr.keep (by assumption)) ⟨_, _, rfl, .inr ⟨ds, inv_end inv heq217, hb2, kf_cons (by assumption) (by rw [if_neg (by assumption), if_pos (by assumption)])⟩⟩
    · exact ok (.str _ _) _ _ (Fr.keep (by assumption)) ⟨_, _, rfl, .inr ⟨ds, inv_end inv heq217, hb2, kf_cons (by assumption) (by rw [if_neg (by assumption), if_neg (by assumption)])⟩⟩
end Mine
end

section
open PySem PySem.W PySem.Calls PyProof.Rows PySem.Spec
set_option Elab.async false
set_option maxRecDepth 100000
set_option maxHeartbeats 4000000
namespace Mine
theorem setT13 : True := by
  w_top off
  k_with_none
  (k_with "om" => (first | assumption | decide | exact Mine.dp (by assumption) | exact Mine.dp1 (by assumption) | exact Mine.dp0 (by assumption) | exact Nat.le_trans (by assumption) (by decide) | exact Int.le_refl _ | exact Int.not_lt.mp (by assumption) | exact Int.not_le.mp (by assumption) | exact Int.le_of_lt (by assumption) | exact Int.add_one_le_of_lt (by assumption) | omega))
  (k_with "tb_start" => repeat' ((fail_if_success (with_reducible show wpAny _ _ (exec (Stmt.While _ _ _ _) _) _ _ _)); (fail_if_success (with_reducible show wpAny _ _ (pyIter _) (fun it s₂ => LoopAtV _ _ _ _ _ _ _ _ _ it s₂) _ _)); first | (k_unfold; (try dsimp only)) | (k_end; wrow_close) | walk1 | (dsimp only; walk1) | fail "no step"))
  (k_with "call builtin:len" => ((with_reducible show wpAny _ _ (call (Value.builtin "len") [Value.bytes _ _]) _ _ _); refine len_bytes (by k_extra "om") ?_))
  (k_with "subscriptTail" => ((with_reducible show wpAny _ _ (subscriptTail _ _ (Value.bytes _ _) (Value.int _ _)) _ _ _); (refine Mine.item_O (by k_extra "om") (by k_extra "om") (by k_extra "om") ?_); intro _ _ _ _))
  (k_with "tb_rel" => (intro y; (try dsimp only); (repeat' split) <;> first | rfl | (simp_all; done) | (simp_all; contradiction) | (rename_i p1 p2; exact absurd (p1.symm.trans p2) (by decide)) | (rename_i p1 p2 p3; exact absurd (p1.symm.trans p3) (by decide))))
  (k_with "exec Raise some none" => (k_here; refine Mine.raise_made (by assumption) ?_))
  (k_with "call ref" => (k_here; (with_reducible show wpAny _ _ (call (Value.ref _) [Value.str _ _]) _ _ _); (refine Mine.make_exc (by unfold Mine.XCls; decide) (by assumption) (by assumption) (by assumption) (by assumption) rfl (by assumption) (by k_extra "om") (by k_extra "om") ?_); intro e9 h9 tk9 x9 c9; refine ⟨_, _, rfl, x9.2.2, c9, ?_⟩; try dsimp only))
  (k_with "leaving ref" => (k_here; (refine Mine.leave_newC (by assumption) (by assumption) (by assumption) ?_); intro h' R' U'; (try dsimp only at R' U' ⊢)))
  (k_with "subscriptTail" => (k_here; (with_reducible show wpAny _ _ (subscriptTail _ (Expr.Slice _ _ none _) (Value.bytes _ _) (Value.ref _)) _ _ _); (with_reducible rename Fr _ _ _ _ => F'); (with_reducible rename News _ _ _ _ => N'); (refine KBc.slice_K (s := ⟨_, _, _, _, _⟩) F' N' rfl (by constructor) (by constructor) (by rw [KBw.ints_length]; omega) ?_); intro h' t' k' F' N' _))
  (k_with "call type:bytes" => (k_here; (with_reducible show wpAny _ _ (call (Value.type _) [Value.bytes _ _]) _ _ _); refine Mine.bytes_same ?_))
  (k_with "assign Tuple" => (k_here; (with_reducible show wpAny _ _ (assign (Expr.Tuple _ _ _) _ (Value.ref _)) _ _ _); (refine unpackN_ (by assumption) (by assumption) (News.isTup (by assumption) (by k_mem)) (by assumption) rfl rfl ?_); intro h' F' N'))
  (k_with "unpackItems" => (k_here; (refine unpackItemsN_ (by assumption) (by assumption) (News.isTup (by assumption) (by k_mem)) (by assumption) rfl ?_); intro h' F' N'; (try dsimp only)))
  trivial
end Mine
namespace Mine
theorem setT13a : True := by
  (k_with "call builtin:len" => (k_here; (with_reducible show wpAny _ _ (call (Value.builtin "len") [Value.ref _]) _ _ _); (refine len_list (Fr.lst (by assumption) (by assumption)) (by rw [List.size_toArray]; omega) ?_); (try simp only [List.size_toArray, List.length_cons, List.length_nil])))
  (k_with "subscriptTail" => (k_here; (with_reducible show wpAny _ _ (subscriptTail _ _ (Value.ref _) (Value.int 0 _)) _ _ _); (refine item_list (Fr.lst (by assumption) (by assumption)) (by decide) (by decide) (by rfl) ?_)))
  trivial
noncomputable def bxL (d m : Int) (td tm : Tok) : List (Str × Value) := [(Str.ofString "digits", .int d td), (Str.ofString "mixed", .int m tm)]
noncomputable def bxD (d m : Int) : List (PyData × PyData) := [(.str (Str.ofString "digits"), .int d), (.str (Str.ofString "mixed"), .int m)]
theorem bx_flat (d m : Int) (td tm : Tok) : PyProof.V.FlatPairs PyData.str (bxL d m td tm) (bxD d m) := .cons (.int _ _) (.cons (.int _ _) .nil)
/-- the box: two whole numbers -/
def BoxOk (w : World) (a : Addr) (o : Obj) : Prop := (a == sysModules) = false ∧ ∃ d m td tm, o.IsDictOf (PySem.strKind PySem.Challenge.rw_ok0134_01.row.prog w) (bxL d m td tm)
theorem c_law_box {w : World} {mean mg mb} {a : Addr} {vs : List Value} {ns : List Int} (hi : IntsAre vs ns) (hl : vs.length ≤ 63) {A : Around} {base : Heap} {outer : List Env} {s : Shared} {Q E : Value → Shared → Prop} (Z : AtP w mean mg mb A base outer s.heap s.heap)
    (hls : s.heap.IsList a vs.toArray) (hh : A.handled = none) (hd : A.depth + 3 < recursionLimit) (hu : A.units + 40 < cLine)
    (ok : ∀ d o h' tk', s.heap.StaysIn h' → h'.get? d = some o → s.heap.get? d = none → BoxOk w d o → Q (.ref d) { s with heap := h', toks := tk' }) :
    wpAny (model PySem.Challenge.rw_ok0134_01.row.prog w) A (call (.ref 169) [.ref a]) Q E s := by
  refine wpAny_call ?_
  obtain ⟨B, X, T, _, _⟩ := id Z
  refine enterAt (hid := []) (binds := [(Str.ofString "script", .ref a)]) Z (fun _ h => nomatch h) (by k_is) (by k_is) (by k_extra "om") (BindsTo.of_eq rfl) (locs rfl) ?_ (by decide) rfl rfl rfl
  intro L' h' F' N' l'
  dsimp only [mapOf, List.reverse, List.reverseAux] at F' ⊢
  k_fold
  refine st_cut (α := Int × Tok) (h₀ := s.heap) (L := L') (fun x y => if y = Str.ofString "cell" then some (.int x.1 x.2) else if y = Str.ofString "script" then some (.ref a) else none) (fun _ => []) (fun _ => True) ?_ ?_
  · cases hi with
    | nil =>
      k_extra "tb_start"
      all_goals exact CutEnd.intro (_, _) (by assumption) (by assumption) (fun _ => rfl) (fun _ h => nomatch h) trivial
    | cons n t hi =>
      k_extra "tb_start"
      all_goals exact CutEnd.intro (_, _) (by assumption) (by assumption) (fun _ => rfl) (fun _ h => nomatch h) trivial
  rintro ⟨cell, tc⟩ h₁ tk₁ _ F₁ N₁
  dsimp only at F₁
  show wpAny _ _ _ _ _ _
  refine st_cut (α := Int × Tok) (h₀ := s.heap) (L := L') (fun x y => if y = Str.ofString "great" then some (.int x.1 x.2) else if y = Str.ofString "cell" then some (.int cell tc) else if y = Str.ofString "script" then some (.ref a) else none) (fun _ => []) (fun _ => True) ?_ ?_
  · k_extra "tb_start"
    all_goals exact CutEnd.intro (_, _) (by assumption) (by assumption) (fun _ => rfl) (fun _ h => nomatch h) trivial
  rintro ⟨great, tg⟩ h₂ tk₂ _ F₂ N₂
  dsimp only at F₂
  show wpAny _ _ _ _ _ _
  k_extra "tb_start"
  all_goals (rename_i F9 N9 hd9 hf9; exact ok _ _ _ _ F9.keep (N9 _ (.head _)).1 (N9 _ (.head _)).2.2 ⟨by assumption, _, _, _, _, hd9⟩)
end Mine
end

section
open PySem PySem.W PySem.Calls PyProof.Rows PySem.Spec
set_option Elab.async false
set_option maxRecDepth 100000
set_option maxHeartbeats 4000000
namespace Mine
theorem setT14 : True := by
  w_top off
  k_with_none
  (k_with "om" => (first | assumption | decide | exact Mine.dp (by assumption) | exact Mine.dp1 (by assumption) | exact Mine.dp0 (by assumption) | exact Nat.le_trans (by assumption) (by decide) | exact Int.le_refl _ | exact Int.not_lt.mp (by assumption) | exact Int.not_le.mp (by assumption) | exact Int.le_of_lt (by assumption) | exact Int.add_one_le_of_lt (by assumption) | omega))
  (k_with "tb_start" => repeat' ((fail_if_success (with_reducible show wpAny _ _ (exec (Stmt.While _ _ _ _) _) _ _ _)); (fail_if_success (with_reducible show wpAny _ _ (pyIter _) (fun it s₂ => LoopAtV _ _ _ _ _ _ _ _ _ it s₂) _ _)); first | (k_unfold; (try dsimp only)) | (k_end; wrow_close) | walk1 | (dsimp only; walk1) | fail "no step"))
  (k_with "call builtin:len" => ((with_reducible show wpAny _ _ (call (Value.builtin "len") [Value.bytes _ _]) _ _ _); refine len_bytes (by k_extra "om") ?_))
  (k_with "subscriptTail" => ((with_reducible show wpAny _ _ (subscriptTail _ _ (Value.bytes _ _) (Value.int _ _)) _ _ _); (refine Mine.item_O (by k_extra "om") (by k_extra "om") (by k_extra "om") ?_); intro _ _ _ _))
  (k_with "tb_rel" => (intro y; (try dsimp only); (repeat' split) <;> first | rfl | (simp_all; done) | (simp_all; contradiction) | (rename_i p1 p2; exact absurd (p1.symm.trans p2) (by decide)) | (rename_i p1 p2 p3; exact absurd (p1.symm.trans p3) (by decide))))
  (k_with "exec Raise some none" => (k_here; refine Mine.raise_made (by assumption) ?_))
  (k_with "call ref" => (k_here; (with_reducible show wpAny _ _ (call (Value.ref _) [Value.str _ _]) _ _ _); (refine Mine.make_exc (by unfold Mine.XCls; decide) (by assumption) (by assumption) (by assumption) (by assumption) rfl (by assumption) (by k_extra "om") (by k_extra "om") ?_); intro e9 h9 tk9 x9 c9; refine ⟨_, _, rfl, x9.2.2, c9, ?_⟩; try dsimp only))
  (k_with "leaving ref" => (k_here; (refine Mine.leave_newC (by assumption) (by assumption) (by assumption) ?_); intro h' R' U'; (try dsimp only at R' U' ⊢)))
  (k_with "subscriptTail" => (k_here; (with_reducible show wpAny _ _ (subscriptTail _ (Expr.Slice _ _ none _) (Value.bytes _ _) (Value.ref _)) _ _ _); (with_reducible rename Fr _ _ _ _ => F'); (with_reducible rename News _ _ _ _ => N'); (refine KBc.slice_K (s := ⟨_, _, _, _, _⟩) F' N' rfl (by constructor) (by constructor) (by rw [KBw.ints_length]; omega) ?_); intro h' t' k' F' N' _))
  (k_with "call type:bytes" => (k_here; (with_reducible show wpAny _ _ (call (Value.type _) [Value.bytes _ _]) _ _ _); refine Mine.bytes_same ?_))
  (k_with "assign Tuple" => (k_here; (with_reducible show wpAny _ _ (assign (Expr.Tuple _ _ _) _ (Value.ref _)) _ _ _); (refine unpackN_ (by assumption) (by assumption) (News.isTup (by assumption) (by k_mem)) (by assumption) rfl rfl ?_); intro h' F' N'))
  (k_with "unpackItems" => (k_here; (refine unpackItemsN_ (by assumption) (by assumption) (News.isTup (by assumption) (by k_mem)) (by assumption) rfl ?_); intro h' F' N'; (try dsimp only)))
  trivial
/-- what a call that draws from the box asks and gives -/
def DC (w : World) (mean : ExcName → Option Value) (mg mb : Str → Option Value) (f : Addr) (d u : Nat) (bx : Addr) (vs : List Value) (Ok : Value → Prop) : Prop :=
  ∀ (A : Around) (base g : Heap) (outer : List Env) (s : Shared) (o : Obj) (Q E : Value → Shared → Prop), AtP w mean mg mb A base outer g s.heap → s.heap.get? bx = some o → g.get? bx = none → BoxOk w bx o →
    A.handled = none → A.depth + d < recursionLimit → A.units + u < cLine →
    (∀ r h' tk' o', Ok r → g.StaysIn h' → h'.get? bx = some o' → BoxOk w bx o' → Q r { s with heap := h', toks := tk' }) →
    wpAny (model PySem.Challenge.rw_ok0134_01.row.prog w) A (call (.ref f) (.ref bx :: vs)) Q E s
theorem bx_put1 (d m x : Int) (td tm t : Tok) : stored (bxL d m td tm) (Str.ofString "digits") (.int x t) = bxL x m t tm := by
  with_unfolding_all rfl
theorem bx_put2 (d m x : Int) (td tm t : Tok) : stored (bxL d m td tm) (Str.ofString "mixed") (.int x t) = bxL d x td t := by
  with_unfolding_all rfl
theorem c_law_next {w : World} {mean mg mb} {bx : Addr} {many : Int} {tm : Tok} (hm : 0 < many) (hmu : many < 100000) : DC w mean mg mb 176 3 40 bx [.int many tm] (fun r => ∃ i t, r = .int i t ∧ 0 ≤ i ∧ i < many) := by
  intro A base g outer s o Q E Z hb hg hbox hh hd hu ok
  obtain ⟨lo, d0, m0, td0, tm0, hbox⟩ := hbox
  have hflat := bx_flat d0 m0 td0 tm0
  refine wpAny_call ?_
  obtain ⟨B, X, T, _, _⟩ := id Z
  refine enterAt (hid := [(bx, o)]) (binds := [(Str.ofString "box", .ref bx), (Str.ofString "many", .int many tm)]) Z (fun q hq => by obtain rfl := List.mem_singleton.mp hq; exact ⟨hb, hg⟩) (by k_is) (by k_is) (by k_extra "om") (BindsTo.of_eq rfl) (locs rfl) ?_ (by decide) rfl rfl rfl
  intro L' h' F' N' l'
  dsimp only [mapOf, List.reverse, List.reverseAux] at F' ⊢
  unfold bxL at hbox hflat
  unfold bxD at hflat
  k_fold
  k_extra "tb_start"
  · rename_i F9 N9 hd9 hf9
    exact ok _ _ _ _ ⟨_, _, rfl, Int.fmod_nonneg_of_pos _ hm, Int.fmod_lt_of_pos _ hm⟩ F9.keep (N9 _ (.head _)).1 ⟨lo, _, _, _, _, (bx_put1 _ _ _ _ _ _) ▸ hd9⟩
  · rename_i F9 N9 hd9 hf9 _ _
    exact ok _ _ _ _ ⟨_, _, rfl, Int.fmod_nonneg_of_pos _ hm, Int.fmod_lt_of_pos _ hm⟩ F9.keep (N9 _ (.head _)).1 ⟨lo, _, _, _, _, (bx_put2 _ _ _ _ _ _) ▸ hd9⟩
/-- a draw, from within a def's frame -/
theorem DC.use {w : World} {mean : ExcName → Option Value} {mg mb : Str → Option Value} {f : Addr} {d u : Nat} {bx : Addr} {vs : List Value} {Ok : Value → Prop} (C : DC w mean mg mb f d u bx vs Ok)
    {A : Around} {base g : Heap} {outer : List Env} {L : Addr} {m : Str → Option Value} {cn : Str} {cs : Scope} {a : Addr} {ccd : Value} {news : List (Addr × Obj)} {nw : Obj → List (Addr × Obj)} {o : Obj} {s : Shared} {Q E : Value → Shared → Prop}
    (B : Below A base outer g) (F : Fr g L s.heap m) (N : News g L s.heap news) (U : UpdF bx o news nw) (hbox : BoxOk w bx o)
    (X : (Mine.hd.heap_39 w.params).In g) (T : Top hd.view_39 (looseW hd.view_39 [PySem.Str.ofString "Piece"]) mean mg mb g) (hk : cs.kind = .function)
    (hh : A.handled = none) (hd : A.depth + 1 + d < recursionLimit) (hu : A.units + 3 + u < cLine)
    (ok : ∀ r h' tk' o', Ok r → Fr g L h' m → News g L h' (nw o') → BoxOk w bx o' → Q r { s with heap := h', toks := tk' }) :
    wpAny (model PySem.Challenge.rw_ok0134_01.row.prog w) (A.deeper (envOf cn cs L a ccd)) (call (.ref f) (.ref bx :: vs)) Q E s := by
  obtain ⟨pre, post, rfl, hnw, hpre, hpost⟩ := U.split
  have hm : (bx, o) ∈ pre ++ (bx, o) :: post := List.mem_append_right _ (.head _)
  have hb := N _ hm
  refine C _ base (s.heap.hide bx) _ s o Q E (At.hides B F N hm X T hk) hb.1 (Heap.hide_self _ _) hbox hh hd hu fun r h' tk' o' hr st hb' hx => ?_
  have keep : ∀ b q, b ≠ bx → s.heap.get? b = some q → h'.get? b = some q := fun b q hne e => st b q (by rw [Heap.hide_ne _ hne]; exact e)
  refine ok r h' tk' o' hr ⟨?_, ?_, F.above⟩ ?_ hx
  · obtain ⟨q, a1, a2, e, r⟩ := F.ns
    exact ⟨q, a1, a2, keep L q (fun e => hb.2.1 e.symm) e, r⟩
  · exact fun b q e => keep b q (fun e' => by rw [e', hb.2.2] at e; cases e) (F.keep b q e)
  · rw [hnw]
    intro q hq
    rcases List.mem_append.mp hq with hq | hq
    · have y := N q (List.mem_append_left _ hq)
      exact ⟨keep _ _ (hpre q hq) y.1, y.2⟩
    · rcases List.mem_cons.mp hq with rfl | hq
      · exact ⟨hb', hb.2⟩
      · have y := N q (List.mem_append_right _ (.tail _ hq))
        exact ⟨keep _ _ (hpost q hq) y.1, y.2⟩
end Mine
end

section
open PySem PySem.W PySem.Calls PyProof.Rows PySem.Spec
set_option Elab.async false
set_option maxRecDepth 100000
namespace Mine
section
variable {prog : Program} {w : World} {A : Around} {s : Shared} {base g h : Heap} {outer : List Env} {K : Frag} {p : Program} {loose : List Str} {mean : ExcName → Option Value} {mg mb : Str → Option Value} {L : Addr} {m : Str → Option Value}
  {R : Result → Shared → Prop} {name qual : Str} {params : Arguments} {body : List Stmt} {scope : Scope} {dV kV doc pm cdv ct oc : Value} {an od : Option Addr} {osl : Array (Option Value)} {f : Addr} {args : Args} {binds : List (Str × Value)}
theorem At.hidesE {env : Env} {bx : Addr} {o : Obj} {news : List (Addr × Obj)} (B : Below A base outer g) (F : Fr g L h m) (N : News g L h news) (hm : (bx, o) ∈ news) (X : K.In g) (T : Top p loose mean mg mb g) (hf : env.frame = some L) (hk : env.scope.kind = .function) :
    At K p loose mean mg mb (A.deeper env) base (env :: outer) (h.hide bx) h := by
  have hb := N _ hm
  have st : g.StaysIn (h.hide bx) := fun b o' e => by
    rw [Heap.hide_ne h (fun q => by rw [q] at e; rw [hb.2.2] at e; cases e)]
    exact F.keep b o' e
  have B₁ := pushX B F hf hk
  refine ⟨⟨B₁.stack, fun b o' e => st b o' (B.stays b o' e), ?_⟩, X.keeps st, T.keeps st, fun b o' e => Heap.of_hide e, Nat.le_of_eq (Heap.hide_size h bx)⟩
  refine funFrames_hideAll (as := [bx]) B₁.frames fun env' he b hb' hf' => ?_
  obtain rfl : b = bx := List.mem_singleton.mp hb'
  rcases List.mem_cons.mp he with rfl | he
  · exact hb.2.1 (Option.some.inj (hf.symm.trans hf')).symm
  · obtain ⟨L₁, o₁, hf₁, ho₁⟩ := funFrames_in B.frames env' he
    rw [hf₁] at hf'
    cases hf'
    rw [hb.2.2] at ho₁; cases ho₁

theorem enterAtC {hid : List (Addr × Obj)} (Z : At K p loose mean mg mb A base outer g s.heap) (N : ∀ q ∈ hid, s.heap.get? q.1 = some q.2 ∧ g.get? q.1 = none)
    (ho : K.lookup f = some ⟨oc, od, .func (fnOf name qual params body scope dV kV doc pm an cdv ct), osl⟩) (hcd : codeIn K cdv qual = true) (hroom : A.depth < recursionLimit)
    (hbind : BindsTo s (fnOf name qual params body scope dV kV doc pm an cdv ct) args binds) (hkind : (binds.all fun y => scope.names.lookup y.1 == some .local || scope.names.lookup y.1 == some .cell) = true)
    (hnd : ((cellsFrom 0 scope.names []).map (·.1)).Nodup)
    (h : ∀ L' h₁ tk cells, Fr g L' h₁ (bindL (envOfC qual scope L' f cdv).kindOf binds fun _ => none) → News g L' h₁ (cells ++ hid) →
      CellsAre (bindC (envOfC qual scope L' f cdv).kindOf binds fun _ => none) (cellsFrom (L' + 1) scope.names []) cells → (∀ q ∈ hid, q.1 < L') →
      wpAny (model prog w) (A.deeper (envOfC qual scope L' f cdv)) (execs body (envOfC qual scope L' f cdv))
        (fun fl s' => R (.ok (.ret (match fl with | .ret v => v | _ => .none))) s')
        (fun e s' => wpAny (model prog w) (A.deeper (envOfC qual scope L' f cdv)) (leaving (envOfC qual scope L' f cdv) e) (fun _ s'' => R (.error e) s'') (fun e' s'' => R (.error e') s'') s')
        { s with heap := h₁, toks := tk })
    (hco : scope.isCoroutine = false := by rfl) (hgen : scope.isGenerator = false := by rfl) (hk : scope.kind = .function := by rfl) :
    codeAny (model prog w) A (.call (.ref f) args) R s := by
  have X := Z.X.keeps Z.sub
  refine codeAny_call_function hroom (X _ _ ho) rfl hco hgen rfl (codeRec_of X hcd) (hbind _ _ _ _ ?_)
  refine wpAny_newFunctionEnv_cells hk (kindsX hkind _) fun env' he s' x => ?_
  subst he
  refine ⟨(Z.T.nolimit.keeps Z.sub).keeps x.toInCall.keep, codeAny_func ?_⟩
  obtain ⟨h₁, tk, rfl, _⟩ := x.done
  have hk₁ := x.toInCall.keep
  obtain ⟨cells, NC, Y⟩ := Cl.news (h₀ := s.heap) (Nat.le_refl _) fun n c hm => ⟨x.cell n c (lookup_of_mem_nodup (cellsFrom_names scope.names 0 (s.heap.objs.size + 1) [] [] rfl ▸ hnd) hm), x.above n c hm⟩
  refine h s.heap.objs.size h₁ tk cells ⟨x.toInCall.ns, fun b o e => hk₁ b o (Z.sub b o e), Z.sz⟩ (fun p hp => ?_) Y (fun q hq => Heap.lt_size (N q hq).1)
  rcases List.mem_append.mp hp with hp | hp
  · refine ⟨(NC p hp).1, (NC p hp).2.1, ?_⟩
    cases q : g.get? p.1 with
    | none => rfl
    | some o => have := Z.sub _ _ q; rw [(NC p hp).2.2] at this; cases this
  · exact ⟨hk₁ _ _ (N p hp).1, Nat.ne_of_lt (Heap.lt_size (N p hp).1), (N p hp).2⟩
end

/-- a draw, from within any frame -/
theorem DC.useE {w : World} {mean : ExcName → Option Value} {mg mb : Str → Option Value} {f : Addr} {d u : Nat} {bx : Addr} {vs : List Value} {Ok : Value → Prop} (C : DC w mean mg mb f d u bx vs Ok)
    {A : Around} {base g : Heap} {outer : List Env} {L : Addr} {m : Str → Option Value} {env : Env} {news : List (Addr × Obj)} {nw : Obj → List (Addr × Obj)} {o : Obj} {s : Shared} {Q E : Value → Shared → Prop}
    (B : Below A base outer g) (F : Fr g L s.heap m) (N : News g L s.heap news) (U : UpdF bx o news nw) (hbox : BoxOk w bx o)
    (X : (Mine.hd.heap_39 w.params).In g) (T : Top hd.view_39 (looseW hd.view_39 [PySem.Str.ofString "Piece"]) mean mg mb g) (hf : env.frame = some L) (hk : env.scope.kind = .function)
    (hh : A.handled = none) (hd : A.depth + 1 + d < recursionLimit) (hu : A.units + 3 + u < cLine)
    (ok : ∀ r h' tk' o', Ok r → Fr g L h' m → News g L h' (nw o') → BoxOk w bx o' → Q r { s with heap := h', toks := tk' }) :
    wpAny (model PySem.Challenge.rw_ok0134_01.row.prog w) (A.deeper env) (call (.ref f) (.ref bx :: vs)) Q E s := by
  obtain ⟨pre, post, rfl, hnw, hpre, hpost⟩ := U.split
  have hm : (bx, o) ∈ pre ++ (bx, o) :: post := List.mem_append_right _ (.head _)
  have hb := N _ hm
  refine C _ base (s.heap.hide bx) _ s o Q E (At.hidesE B F N hm X T hf hk) hb.1 (Heap.hide_self _ _) hbox hh hd hu fun r h' tk' o' hr st hb' hx => ?_
  have keep : ∀ b q, b ≠ bx → s.heap.get? b = some q → h'.get? b = some q := fun b q hne e => st b q (by rw [Heap.hide_ne _ hne]; exact e)
  refine ok r h' tk' o' hr ⟨?_, ?_, F.above⟩ ?_ hx
  · obtain ⟨q, a1, a2, e, r⟩ := F.ns
    exact ⟨q, a1, a2, keep L q (fun e => hb.2.1 e.symm) e, r⟩
  · exact fun b q e => keep b q (fun e' => by rw [e', hb.2.2] at e; cases e) (F.keep b q e)
  · rw [hnw]
    intro q hq
    rcases List.mem_append.mp hq with hq | hq
    · have y := N q (List.mem_append_left _ hq)
      exact ⟨keep _ _ (hpre q hq) y.1, y.2⟩
    · rcases List.mem_cons.mp hq with rfl | hq
      · exact ⟨hb', hb.2⟩
      · have y := N q (List.mem_append_right _ (.tail _ hq))
        exact ⟨keep _ _ (hpost q hq) y.1, y.2⟩

section
variable {prog : Program} {w : World} {A : Around} {s : Shared} {h₀ : Heap} {L : Addr} {m : Str → Option Value} {env : Env} {elt : Expr} {x : Str} {scope : Scope} {cl : List (Str × Addr)} {P : Nat → Value → Prop} {Fin : List Value → List (Addr × Obj) → Prop}
/-- a comprehension over ints whose element changes one thing of the ledger -/
theorem rest_st {α : Type} (D : α → List (Addr × Obj)) (J : α → Prop) (V : Int → Prop) (n : Nat)
    (fin : ∀ x ys ns, J x → IntsAre ys ns → (∀ c ∈ ns, V c) → ys.length = n → Fin ys (D x))
    (turn : ∀ x' v I oI C oC Dd (ys : List Value) m₂ h tk (E' : Value → Shared → Prop), J x' → LCg.NsObj oC m₂ → m₂ x = some v → Fr h₀ L h m → News h₀ L h ((I, oI) :: (C, oC) :: (Dd, LCg.lst ys) :: D x') → LCg.Off3 I C Dd (D x') → ((@Ne Nat I C) ∧ (@Ne Nat I Dd) ∧ (@Ne Nat C Dd)) →
      wpAny (model prog w) A (eval elt (compEnvC scope cl C env)) (fun y s₂ => ∃ x'' c t h' tk', y = .int c t ∧ V c ∧ s₂ = { s with heap := h', toks := tk' } ∧ Fr h₀ L h' m ∧ News h₀ L h' ((I, oI) :: (C, oC) :: (Dd, LCg.lst ys) :: D x'') ∧ LCg.Off3 I C Dd (D x'') ∧ J x'') E' { s with heap := h, toks := tk }) :
    ∀ k i ys ns x', i + k = n → ys.length = i → J x' → IntsAre ys ns → (∀ c ∈ ns, V c) → LCg.CompRest prog w A h₀ L m env elt x scope cl s (fun _ => True) P Fin k i ys (D x')
  | 0, i, ys, ns, x', hn, hl, hj, hi, hv => LCg.CompRest.zero (fin x' ys ns hj hi hv (by omega))
  | k + 1, i, ys, ns, x', hn, hl, hj, hi, hv => by
    refine LCg.CompRest.succ fun v I oI C oC Dd m₂ h tk E' hp hC hx F N off ne => ?_
    refine wpAny_mono (turn x' v I oI C oC Dd ys m₂ h tk E' hj hC hx F N off ne) (fun y s₂ h₂ => ?_) fun _ _ e => e
    obtain ⟨x'', c, t, h', tk', rfl, hc, rfl, F', N', off', hj'⟩ := h₂
    refine ⟨h', tk', D x'', rfl, F', N', off', trivial, ?_⟩
    refine rest_st D J V n fin turn k (i + 1) (ys ++ [.int c t]) (ns ++ [c]) x'' (by omega) (by rw [List.length_append, hl]; rfl) hj' ?_ ?_
    · clear hv hl N N'
      induction hi with
      | nil => exact .cons _ _ .nil
      | cons a b r ih => exact .cons _ _ ih
    · intro z hz
      rcases List.mem_append.mp hz with hz | hz
      · exact hv z hz
      · rw [List.mem_singleton.mp hz]; exact hc
end
end Mine
end

section
open PySem PySem.W PySem.Calls PyProof.Rows PySem.Spec
set_option Elab.async false
set_option maxRecDepth 100000
namespace Mine
section
variable {prog : Program} {w : World} {A : Around} {E : Value → Shared → Prop} {s : Shared} {Q : Value → Shared → Prop} {g : Heap} {L : Addr} {m : Str → Option Value} {news : List (Addr × Obj)}
theorem fdiv_bnd {i k : Int} {t u : Tok} (hk : 0 < k) (hk2 : k < 100000) (hi : 0 ≤ i) (h : ∀ j t', 0 ≤ j → j ≤ i → j * k ≤ i → Q (.int j t') { s with toks := s.toks + 1 }) :
    wpAny (model prog w) A (binaryOp .FloorDiv (.int i t) (.int k u)) Q E s := by
  refine floordiv_int (by omega) (h _ _ ?_ ?_ ?_) (Or.inl (PyProof.noPylong_small (by omega)))
  · exact Int.fdiv_nonneg hi (by omega)
  · rw [Int.fdiv_eq_ediv_of_nonneg _ (by omega)]; exact Int.ediv_le_self _ hi
  · rw [Int.fdiv_eq_ediv_of_nonneg _ (by omega)]; exact Int.ediv_mul_le _ (by omega)
theorem add_sz {b c : Array UInt8} {t u : Tok} (hsz : b.size + c.size ≤ 16777216) (h : ∀ (d : Array UInt8) t' k, d.size = b.size + c.size → Q (.bytes d t') { s with toks := k }) :
    wpAny (model prog w) A (binaryOp .Add (.bytes b t) (.bytes c u)) Q E s := KBy.add_bytes hsz fun t' k => h _ t' k (by simp)
theorem mul_sz {x : UInt8} {n : Int} {t u : Tok} (h0 : 0 ≤ n) (h1 : n ≤ 1000) (h : ∀ (d : Array UInt8) t' k, (d.size : Int) = n → Q (.bytes d t') { s with toks := k }) :
    wpAny (model prog w) A (binaryOp .Mult (.bytes #[x] t) (.int n u)) Q E s :=
  bytes_mul_any (b := [x]) (by simp) (by omega) (by omega) (by simp) fun t' k => h _ t' k (by simp; omega)
theorem bytes_sz {l : Addr} {o : Obj} {k : Nat} {vs : List Value} {ns : List Int} (F : Fr g L s.heap m) (N : News g L s.heap news) (hm : (l, o) ∈ news) (hc : o.cls = .type "list") (hd : o.data = .seq vs.toArray k) (hi : IntsAre vs ns) (hr : ∀ n ∈ ns, 0 ≤ n ∧ n < 256)
    (hz : vs.length ≤ 1000) (hh : A.handled = none) (h : ∀ (c : Array UInt8) h' t' k', Fr g L h' m → News g L h' news → c.size = vs.length → Q (.bytes c t') { s with heap := h', toks := k' }) :
    wpAny (model prog w) A (call (.type "bytes") [.ref l]) Q E s :=
  bytes_K F N ⟨o, (N _ hm).1, hc, k, hd⟩ hi hr (by rw [sizeLine_eq]; omega) hh fun h' t' k' F' N' _ => h _ h' t' k' F' N' (by simp [hi.length])
theorem fdiv_le {i k N : Int} {t u : Tok} (hi : 0 ≤ i) (hN : i < N) (hk : 0 < k ∧ k < 100000 := by decide) (h : ∀ j t', 0 ≤ j → j ≤ (N - 1) / k → Q (.int j t') { s with toks := s.toks + 1 }) :
    wpAny (model prog w) A (binaryOp .FloorDiv (.int i t) (.int k u)) Q E s :=
  fdiv_bnd hk.1 hk.2 hi fun j t' h0 _ h2 => h j t' h0 ((Int.le_ediv_iff_mul_le hk.1).mpr (by omega))
theorem add_le {b c : Array UInt8} {n m : Nat} {t u : Tok} (hb : b.size ≤ n) (hc : c.size ≤ m) (hz : n + m ≤ 16777216) (h : ∀ (d : Array UInt8) t' k, d.size ≤ n + m → Q (.bytes d t') { s with toks := k }) :
    wpAny (model prog w) A (binaryOp .Add (.bytes b t) (.bytes c u)) Q E s := add_sz (by omega) fun d t' k e => h d t' k (by omega)
theorem add_both {b c : Array UInt8} {lo n m : Nat} {t u : Tok} (hl : lo ≤ b.size) (hb : b.size ≤ n) (hc : c.size ≤ m) (hz : n + m ≤ 16777216) (h : ∀ (d : Array UInt8) t' k, d.size ≤ n + m → lo ≤ d.size → Q (.bytes d t') { s with toks := k }) :
    wpAny (model prog w) A (binaryOp .Add (.bytes b t) (.bytes c u)) Q E s := add_sz (by omega) fun d t' k e => h d t' k (by omega) (by omega)
theorem add_two {b : Array UInt8} {x y : UInt8} {n : Nat} {t u : Tok} (hb : b.size ≤ n) (hz : n + 2 ≤ 16777216) (h : ∀ (d : Array UInt8) t' k, d.size ≤ n + 2 → 2 ≤ d.size → Q (.bytes d t') { s with toks := k }) :
    wpAny (model prog w) A (binaryOp .Add (.bytes b t) (.bytes #[x, y] u)) Q E s := add_sz (by simp; omega) fun d t' k e => h d t' k (by simp at e; omega) (by simp at e; omega)
theorem add_grow {b c : Array UInt8} {n m : Nat} {t u : Tok} (hb : b.size ≤ n) (hc : c.size ≤ m) (hz : n + m ≤ 16777216) (h : ∀ (d : Array UInt8) t' k, d.size ≤ b.size + m → Q (.bytes d t') { s with toks := k }) :
    wpAny (model prog w) A (binaryOp .Add (.bytes b t) (.bytes c u)) Q E s := add_sz (by omega) fun d t' k e => h d t' k (by omega)
theorem mul_le {x : UInt8} {n N : Int} {t u : Tok} (h0 : 0 ≤ n) (h1 : n ≤ N) (hN : N ≤ 1000) (h : ∀ (d : Array UInt8) t' k, d.size ≤ N.toNat → Q (.bytes d t') { s with toks := k }) :
    wpAny (model prog w) A (binaryOp .Mult (.bytes #[x] t) (.int n u)) Q E s := mul_sz h0 (by omega) fun d t' k e => h d t' k (by omega)
theorem item_any {l : Addr} {o : Obj} {k : Nat} {vs : List Value} {i : Int} {u : Tok} {value slice : Expr} (P : Value → Prop) (N : News g L s.heap news) (hm : (l, o) ∈ news) (hc : o.cls = .type "list") (hd : o.data = .seq vs.toArray k)
    (h0 : 0 ≤ i) (h1 : i < (vs.length : Int)) (h2 : i < 100000) (hp : ∀ v ∈ vs, P v) (h : ∀ v, P v → Q v s)
    (hs : subscripted slice false (.ref l) (.int i u) = operate [.ref l, .int i u] (getItem (.ref l) (.int i u)) := by with_unfolding_all rfl) :
    wpAny (model prog w) A (subscriptTail value slice (.ref l) (.int i u)) Q E s := by
  have hlt : i.toNat < vs.length := by omega
  have hl : s.heap.IsList l vs.toArray := ⟨o, (N _ hm).1, hc, k, hd⟩
  exact tail_any hl.typeIs slot_list_getitem.lookup (wpAny_getItem_list hl h0 (by omega) (x := vs[i.toNat]) (by simp [hlt]) (h _ (hp _ (List.getElem_mem hlt)))) hs
def IsB (n : Nat) (v : Value) : Prop := ∃ c t, v = .bytes c t ∧ c.size ≤ n
def IsI (n : Int) (v : Value) : Prop := ∃ i t, v = .int i t ∧ 0 ≤ i ∧ i < n
theorem allP_cons {P : Value → Prop} {v : Value} {r : List Value} (h : P v) (hr : ∀ v ∈ r, P v) : ∀ x ∈ v :: r, P x := List.forall_mem_cons.mpr ⟨h, hr⟩
theorem allP_nil {P : Value → Prop} : ∀ x ∈ ([] : List Value), P x := fun _ h => nomatch h
theorem isB_of {c : List UInt8} {t : Tok} {n : Nat} (h : c.length ≤ n) : IsB n (.bytes c.toArray t) := ⟨_, _, rfl, by simpa using h⟩
theorem isI_of {i n : Int} {t : Tok} (h0 : 0 ≤ i) (h1 : i < n) : IsI n (.int i t) := ⟨_, _, rfl, h0, h1⟩
end

section
variable {prog : Program} {w : World} {A : Around} {E : Value → Shared → Prop} {s : Shared} {Q : Value → Shared → Prop} {g : Heap} {L : Addr} {m : Str → Option Value} {news : List (Addr × Obj)}
theorem item_I {l : Addr} {o : Obj} {k : Nat} {vs : List Value} {i : Int} {u : Tok} {value slice : Expr} (n : Int) (N : News g L s.heap news) (hm : (l, o) ∈ news) (hc : o.cls = .type "list") (hd : o.data = .seq vs.toArray k)
    (h0 : 0 ≤ i) (h1 : i < (vs.length : Int)) (h2 : i < 100000) (hp : ∀ v ∈ vs, IsI n v) (h : ∀ j t, 0 ≤ j → j < n → Q (.int j t) s)
    (hs : subscripted slice false (.ref l) (.int i u) = operate [.ref l, .int i u] (getItem (.ref l) (.int i u)) := by with_unfolding_all rfl) :
    wpAny (model prog w) A (subscriptTail value slice (.ref l) (.int i u)) Q E s :=
  item_any (IsI n) N hm hc hd h0 h1 h2 hp (fun v hv => by obtain ⟨j, t, rfl, a, b⟩ := hv; exact h j t a b) hs
theorem item_B {l : Addr} {o : Obj} {k : Nat} {vs : List Value} {i : Int} {u : Tok} {value slice : Expr} (n : Nat) (N : News g L s.heap news) (hm : (l, o) ∈ news) (hc : o.cls = .type "list") (hd : o.data = .seq vs.toArray k)
    (h0 : 0 ≤ i) (h1 : i < (vs.length : Int)) (h2 : i < 100000) (hp : ∀ v ∈ vs, IsB n v) (h : ∀ (c : Array UInt8) t, c.size ≤ n → Q (.bytes c t) s)
    (hs : subscripted slice false (.ref l) (.int i u) = operate [.ref l, .int i u] (getItem (.ref l) (.int i u)) := by with_unfolding_all rfl) :
    wpAny (model prog w) A (subscriptTail value slice (.ref l) (.int i u)) Q E s :=
  item_any (IsB n) N hm hc hd h0 h1 h2 hp (fun v hv => by obtain ⟨j, t, rfl, a⟩ := hv; exact h j t a) hs
end
theorem rangeSize_nat {i : Int} (h0 : 0 ≤ i) : Builtin.Range.rangeSize 0 i 1 = ((i.toNat : Nat) : Int) := by
  unfold Builtin.Range.rangeSize
  simp
  omega
def CEnd (w : World) (bx : Addr) (g : Heap) (L : Addr) (m : Str → Option Value) (s : Shared) (I : Addr) (oI : Obj) (C : Addr) (oC : Obj) (Dd : Addr) (ys : List Value) (D : Obj → List (Addr × Obj)) (y : Value) (s₂ : Shared) : Prop :=
  ∃ o'' c t h' tk', y = .int c t ∧ (0 ≤ c ∧ c < 256) ∧ s₂ = { s with heap := h', toks := tk' } ∧ Fr g L h' m ∧ News g L h' ((I, oI) :: (C, oC) :: (Dd, LCg.lst ys) :: D o'') ∧ LCg.Off3 I C Dd (D o'') ∧ BoxOk w bx o''
theorem CEnd.intro {w : World} {bx : Addr} {g : Heap} {L : Addr} {m : Str → Option Value} {s : Shared} {I : Addr} {oI : Obj} {C : Addr} {oC : Obj} {Dd : Addr} {ys : List Value} {D : Obj → List (Addr × Obj)} {c : Int} {t : Tok} {h' : Heap} {tk' : Nat} (o'' : Obj)
    (F : Fr g L h' m) (N : News g L h' ((I, oI) :: (C, oC) :: (Dd, LCg.lst ys) :: D o'')) (off : LCg.Off3 I C Dd (D o'')) (bo : BoxOk w bx o'') (lo : 0 ≤ c) (hi : c < 256) : CEnd w bx g L m s I oI C oC Dd ys D (.int c t) { s with heap := h', toks := tk' } :=
  ⟨o'', c, t, h', tk', rfl, ⟨lo, hi⟩, rfl, F, N, off, bo⟩
section
variable {prog : Program} {w : World} {A : Around} {s : Shared} {g : Heap} {L : Addr} {m : Str → Option Value} {env : Env} {elt : Expr} {x : Str} {scope : Scope} {cl : List (Str × Addr)} {news : List (Addr × Obj)} {Q : Value → Shared → Prop}
/-- a comprehension over a short range whose element draws a number from the box -/
theorem comp_ints {r bx : Addr} {i : Int} {t u v : Tok} {o : Obj} (hh : A.handled = none) (F : Fr g L s.heap m) (N : News g L s.heap news) (hr : IsRange s.heap r 0 i 1 t u v) (h0 : 0 ≤ i) (h1 : i < 4) (hbox : BoxOk w bx o)
    (D : Obj → List (Addr × Obj)) (hsub : ∀ q ∈ D o, q ∈ news)
    (turn : ∀ o' v I oI C oC Dd (ys : List Value) m₂ h tk (E' : Value → Shared → Prop), BoxOk w bx o' → LCg.NsObj oC m₂ → m₂ x = some v → Fr g L h m → News g L h ((I, oI) :: (C, oC) :: (Dd, LCg.lst ys) :: D o') → LCg.Off3 I C Dd (D o') → ((@Ne Nat I C) ∧ (@Ne Nat I Dd) ∧ (@Ne Nat C Dd)) →
      wpAny (model prog w) A (eval elt (compEnvC scope cl C env)) (CEnd w bx g L m s I oI C oC Dd ys D) E' { s with heap := h, toks := tk })
    (fin : ∀ o' ys ns Dd h tk, BoxOk w bx o' → IntsAre ys ns → (∀ c ∈ ns, 0 ≤ c ∧ c < 256) → ys.length ≤ 3 → Fr g L h m → News g L h ((Dd, LCg.lst ys) :: D o') → LCg.Off1 Dd (D o') → Q (.ref Dd) { s with heap := h, toks := tk }) :
    LCg.CompSrc prog w A g L m env elt x scope cl (fun s₂ => LCg.FinE g L m s₂ Q) (.ref r) s := by
  refine LCg.CompSrc.range (n := i.toNat) (news := D o) hh F (fun q hq => N q (hsub q hq)) hr ?_ (rangeSize_nat h0) ?_ fun g' => ?_
  · have : i = 0 ∨ i = 1 ∨ i = 2 ∨ i = 3 := by omega
    rcases this with rfl | rfl | rfl | rfl <;> decide
  · rw [sizeLine_eq]; omega
  · refine rest_st (s := { s with heap := g' }) D (BoxOk w bx) (fun c => 0 ≤ c ∧ c < 256) i.toNat ?_ turn i.toNat 0 [] [] o (by omega) rfl hbox .nil (fun _ h => nomatch h)
    intro o' ys ns hb hi hv hl Dd h tk F' N' off
    exact fin o' ys ns Dd h tk hb hi hv (by omega) F' N' off
end
end Mine
end

section
open PySem PySem.W PySem.Calls PyProof.Rows PySem.Spec
set_option Elab.async false
set_option maxRecDepth 100000
namespace Mine
def DrawEnd (w : World) (bx : Addr) (g : Heap) (L : Addr) (s : Shared) (found tgt : Str) (m : Str → Option Value) (K : Nat) (ow : List (Addr × Obj)) (D : Obj → List (Addr × Obj)) (f : Array UInt8) (tf : Tok) (tw : Option Value) (v : Value) (fl : Flow) (s₃ : Shared) : Prop :=
  fl = .next ∧ ∃ f' tf' o'' h' tk', s₃ = { s with heap := h', toks := tk' } ∧ f'.size ≤ f.size + K ∧ BoxOk w bx o'' ∧
    Fr g L h' (fun y => if y = found then some (.bytes f' tf') else if y = tgt then some v else if y = found then some (.bytes f tf) else if y = tgt then tw else m y) ∧ News g L h' (ow ++ D o'')
theorem DrawEnd.intro {w : World} {bx : Addr} {g : Heap} {L : Addr} {s : Shared} {found tgt : Str} {m : Str → Option Value} {K : Nat} {ow : List (Addr × Obj)} {D : Obj → List (Addr × Obj)} {f : Array UInt8} {tf : Tok} {tw : Option Value} {v : Value} {f' : Array UInt8} {tf' : Tok} {h' : Heap} {tk' : Nat} (o'' : Obj)
    (F : Fr g L h' (fun y => if y = found then some (.bytes f' tf') else if y = tgt then some v else if y = found then some (.bytes f tf) else if y = tgt then tw else m y)) {news : List (Addr × Obj)} (N : News g L h' news) (hs : ∀ q ∈ ow ++ D o'', q ∈ news) (hz : f'.size ≤ f.size + K) (bo : BoxOk w bx o'') :
    DrawEnd w bx g L s found tgt m K ow D f tf tw v .next { s with heap := h', toks := tk' } := ⟨rfl, f', tf', o'', h', tk', rfl, hz, bo, F, fun q hq => N q (hs q hq)⟩
def CodeEnd (w : World) (bx : Addr) (g : Heap) (L : Addr) (s : Shared) (x : Str) (m : Str → Option Value) (D : Obj → List (Addr × Obj)) (fl : Flow) (s₃ : Shared) : Prop :=
  fl = .next ∧ ∃ c t o'' h' tk', s₃ = { s with heap := h', toks := tk' } ∧ 0 ≤ c ∧ c < 256 ∧ BoxOk w bx o'' ∧ Fr g L h' (fun y => if y = x then some (.int c t) else m y) ∧ News g L h' (D o'')
theorem CodeEnd.intro {w : World} {bx : Addr} {g : Heap} {L : Addr} {s : Shared} {x : Str} {m : Str → Option Value} {D : Obj → List (Addr × Obj)} {c : Int} {t : Tok} {h' : Heap} {tk' : Nat} (o'' : Obj)
    (F : Fr g L h' (fun y => if y = x then some (.int c t) else m y)) {news : List (Addr × Obj)} (N : News g L h' news) (hs : ∀ q ∈ D o'', q ∈ news) (lo : 0 ≤ c) (hi : c < 256) (bo : BoxOk w bx o'') :
    CodeEnd w bx g L s x m D .next { s with heap := h', toks := tk' } := ⟨rfl, c, t, o'', h', tk', rfl, lo, hi, bo, F, fun q hq => N q (hs q hq)⟩
/-- a branch that stores one small number, its ways joined -/
theorem code_cut {prog : Program} {w : World} {A : Around} {E : Value → Shared → Prop} {Q : Flow → Shared → Prop} {s : Shared} {env : Env} {g : Heap} {L bx : Addr} {m : Str → Option Value} {st : Stmt} {rest : List Stmt} (x : Str) (D : Obj → List (Addr × Obj)) (F : Fr g L s.heap m)
    (h1 : wpAny (model prog w) A (exec st env) (CodeEnd w bx g L s x m D) E s)
    (h2 : ∀ c t o'' h' tk', 0 ≤ c → c < 256 → BoxOk w bx o'' → Fr g L h' (fun y => if y = x then some (.int c t) else m y) → News g L h' (D o'') → wpAny (model prog w) A (execs rest env) Q E { s with heap := h', toks := tk' }) :
    wpAny (model prog w) A (execs (st :: rest) env) Q E s := by
  refine wpAny_execs_cons (wpAny_mono h1 (fun fl s₃ p => ?_) fun _ _ e => e)
  obtain ⟨rfl, c, t, o'', h', tk', rfl, lo, hi, bo, F', N'⟩ := p
  exact h2 c t o'' h' tk' lo hi bo F' N'
structure DS where
  f : Array UInt8
  tf : Tok
  tw : Option Value
  o : Obj
theorem for_draw {prog : Program} {w : World} {A : Around} {E : Value → Shared → Prop} {Q : Flow → Shared → Prop} {s : Shared} {env : Env} {g : Heap} {r bx : Addr} {i : Int} {t u v : Tok} {tgt found : Str} {body : List Stmt} {m : Str → Option Value} {news : List (Addr × Obj)} {f₀ : Array UInt8} {tf₀ : Tok} {o : Obj} (B K : Nat)
    (hh : A.handled = none) (F : Fr g env.locals s.heap m) (N : News g env.locals s.heap news) (hr : IsRange s.heap r 0 i 1 t u v) (h0 : 0 ≤ i) (hn : i < 8) (hne : found ≠ tgt) (hf : m found = some (.bytes f₀ tf₀)) (hB : f₀.size ≤ B) (hbox : BoxOk w bx o)
    (D : Obj → List (Addr × Obj)) (hsub : ∀ q ∈ D o, q ∈ news) (hDa : ∀ o' q, q ∈ D o' → ∃ p ∈ D o, p.1 = q.1) (hbx : (bx, o) ∈ D o)
    (turn : ∀ (j : Nat) f tf tw o' h tk tt ow, (ow = [] ∨ ∃ pa po, ow = [(pa, po)] ∧ @Ne Nat pa bx) → f.size ≤ B + 8 * K → BoxOk w bx o' →
      Fr g env.locals h (fun y => if y = tgt then some (.int (0 + j * 1) tt) else if y = found then some (.bytes f tf) else if y = tgt then tw else m y) → News g env.locals h (ow ++ D o') →
      wpAny (model prog w) A (execs body env) (DrawEnd w bx g env.locals s found tgt m K ow D f tf tw (.int (0 + j * 1) tt)) E { s with heap := h, toks := tk })
    (done : ∀ f tf tw o' h tk, f.size ≤ B + 8 * K → BoxOk w bx o' → Fr g env.locals h (fun y => if y = found then some (.bytes f tf) else if y = tgt then tw else m y) → News g env.locals h (D o') → Q .next { s with heap := h, toks := tk }) :
    wpAny (model prog w) A (pyIter (.ref r)) (fun it s₂ => LoopAtV prog w A g env tgt body Q E it s₂) E s := by
  refine wpAny_pyIter_range hr ?_ ?_
  · have : i = 0 ∨ i = 1 ∨ i = 2 ∨ i = 3 ∨ i = 4 ∨ i = 5 ∨ i = 6 ∨ i = 7 := by omega
    rcases this with rfl | rfl | rfl | rfl | rfl | rfl | rfl | rfl <;> decide
  have W := Walks.range (prog := prog) (w := w) hh s.heap.objs.size 0 1 i.toNat
  have hI : ∀ o' q, q ∈ D o' → q.1 ≠ s.heap.objs.size := fun o' q hq e => by
    obtain ⟨p, hp, e'⟩ := hDa o' q hq
    exact absurd (Heap.lt_size (N p (hsub p hp)).1) (by rw [e', e]; exact Nat.lt_irrefl _)
  let M : DS → Str → Option Value := fun x y => if y = found then some (.bytes x.f x.tf) else if y = tgt then x.tw else m y
  have e₀ : m = M ⟨f₀, tf₀, m tgt, o⟩ := by
    funext y
    show m y = if y = found then some (.bytes f₀ tf₀) else if y = tgt then m tgt else m y
    by_cases h1 : y = found
    · rw [if_pos h1, h1, hf]
    · rw [if_neg h1]
      by_cases h2 : y = tgt
      · rw [if_pos h2, h2]
      · rw [if_neg h2]
  have F₁ : Fr g env.locals s.heap (M ⟨f₀, tf₀, m tgt, o⟩) := e₀ ▸ F
  refine ⟨s.heap.objs.size, _, _, i.toNat, _, _, M ⟨f₀, tf₀, m tgt, o⟩, D o, fun j mm nn => ∃ x : DS, mm = M x ∧ nn = D x.o ∧ x.f.size ≤ B + j * K ∧ BoxOk w bx x.o, rfl, W, ?_, ?_, ?_, ?_, F₁.push _, fun q hq => ⟨Heap.get?_push_of_some _ (N q (hsub q hq)).1, (N q (hsub q hq)).2⟩, ⟨_, rfl, rfl, by simpa using hB, hbox⟩, ?_, ?_⟩
  · intro hm'
    exact absurd F.ns.lt ((List.mem_singleton.mp hm') ▸ Nat.lt_irrefl _)
  · intro b hb
    rw [List.mem_singleton.mp hb]
    exact next_is_new F
  · intro p hp hm'
    exact hI o p hp (List.mem_singleton.mp hm')
  · rw [rangeSize_nat h0]
    show IsRangeIter _ _ (0 + (0 : Nat) * 1) ((i.toNat : Int) - (0 : Nat)) 1
    rw [show (0 : Int) + ((0 : Nat) : Int) * 1 = 0 by simp, show (i.toNat : Int) - ((0 : Nat) : Int) = i.toNat by omega]
    exact Heap.get?_push_size _ rfl
  · rintro j v' m₁ news₁ s₁ own ⟨h, tk, rfl⟩ hin ⟨tt, rfl⟩ ⟨x, rfl, rfl, hx, hxb⟩ _ hown hown2 _ _ F₂ N₂
    have key : ∃ ow : List (Addr × Obj), (ow = [] ∨ ∃ pa po, ow = [(pa, po)] ∧ @Ne Nat pa bx) ∧ (∀ q, q ∈ own → q ∈ ow) ∧ ∀ q, q ∈ ow → q ∈ own := by
      cases own with
      | nil => exact ⟨[], .inl rfl, fun _ h => h, fun _ h => h⟩
      | cons p rr =>
        refine ⟨[p], .inr ⟨p.1, p.2, rfl, fun e => ?_⟩, fun q hq => ?_, fun q hq => ?_⟩
        · exact hI o (bx, o) hbx (e ▸ List.mem_singleton.mp (hown p (.head _)))
        · have a := List.mem_singleton.mp (hown p (.head _))
          have b := List.mem_singleton.mp (hown q hq)
          have c := hown2 p (.head _)
          have d := hown2 q hq
          rw [a] at c; rw [b, c] at d
          exact List.mem_singleton.mpr (Prod.ext (b.trans a.symm) (Option.some.inj d).symm)
        · rw [List.mem_singleton.mp hq]; exact .head _
    obtain ⟨ow, how, k1, k2⟩ := key
    have N₃ : News g env.locals h (ow ++ D x.o) := fun q hq => N₂ q (by
      rcases List.mem_append.mp hq with hq | hq
      · exact List.mem_append_left _ (k2 q hq)
      · exact List.mem_append_right _ hq)
    refine wpAny_mono (turn j x.f x.tf x.tw x.o h tk tt ow how (Nat.le_trans hx (Nat.add_le_add_left (Nat.mul_le_mul_right _ (by omega)) _)) hxb F₂ N₃) (fun fl s₂ p => ?_) fun _ _ e => e
    obtain ⟨rfl, f', tf', o'', h', tk', rfl, hz, bo, F', N'⟩ := p
    have e₂ : (fun y => if y = found then some (.bytes f' tf') else if y = tgt then some (.int (0 + (j : Int) * 1) tt) else if y = found then some (.bytes x.f x.tf) else if y = tgt then x.tw else m y) = M ⟨f', tf', some (.int (0 + (j : Int) * 1) tt), o''⟩ := by
      funext y
      show _ = if y = found then some (.bytes f' tf') else if y = tgt then some (.int (0 + (j : Int) * 1) tt) else m y
      by_cases h1 : y = found
      · rw [if_pos h1, if_pos h1]
      · rw [if_neg h1, if_neg h1, if_neg h1]
        by_cases h2 : y = tgt
        · rw [if_pos h2, if_pos h2]
        · rw [if_neg h2, if_neg h2, if_neg h2]
    refine .next ⟨rfl, h', tk', _, D o'', rfl, e₂ ▸ F', fun q hq => N' q ?_, fun q hq hm' => hI o'' q hq (List.mem_singleton.mp hm'), ⟨f', tf', _, o''⟩, rfl, rfl, ?_, bo⟩
    · rcases List.mem_append.mp hq with hq | hq
      · exact List.mem_append_left _ (k1 q hq)
      · exact List.mem_append_right _ hq
    · show f'.size ≤ B + (j + 1) * K
      rw [Nat.add_mul, Nat.one_mul]
      have : x.f.size ≤ B + j * K := hx
      omega
  · rintro h' tk m' news' F' N' _ ⟨x, rfl, rfl, hx, hxb⟩
    exact done x.f x.tf x.tw x.o h' tk (Nat.le_trans hx (Nat.add_le_add_left (Nat.mul_le_mul_right _ (by omega)) _)) hxb F' N'
end Mine
end

section
open PySem PySem.W PySem.Calls PyProof.Rows PySem.Spec
set_option Elab.async false
set_option maxRecDepth 100000
set_option maxHeartbeats 4000000
namespace Mine
theorem setT16 : True := by
  w_top off
  k_with_none
  (k_with "om" => (first | assumption | decide | exact Mine.dp (by assumption) | exact Mine.dp1 (by assumption) | exact Mine.dp0 (by assumption) | exact Nat.le_trans (by assumption) (by decide) | exact Int.le_refl _ | exact Int.not_lt.mp (by assumption) | exact Int.not_le.mp (by assumption) | exact Int.le_of_lt (by assumption) | exact Int.add_one_le_of_lt (by assumption) | omega))
  (k_with "tb_start" => repeat' ((fail_if_success (with_reducible show wpAny _ _ (execs (Stmt.If _ _ (_ :: _) _ :: _ :: _) _) _ _ _)); (fail_if_success (with_reducible show wpAny _ _ (exec (Stmt.While _ _ _ _) _) _ _ _)); (fail_if_success (with_reducible show wpAny _ _ (pyIter _) (fun it s₂ => LoopAtV _ _ _ _ _ _ _ _ _ it s₂) _ _)); first | (k_unfold; (try dsimp only)) | (k_end; wrow_close) | walk1 | (dsimp only; walk1) | fail "no step"))
  (k_with "call builtin:len" => ((with_reducible show wpAny _ _ (call (Value.builtin "len") [Value.bytes _ _]) _ _ _); refine len_bytes (by k_extra "om") ?_))
  (k_with "subscriptTail" => ((with_reducible show wpAny _ _ (subscriptTail _ _ (Value.bytes _ _) (Value.int _ _)) _ _ _); (refine Mine.item_O (by k_extra "om") (by k_extra "om") (by k_extra "om") ?_); intro _ _ _ _))
  (k_with "tb_rel" => (intro y; (try dsimp only); (repeat' split) <;> first | rfl | (simp_all; done) | (simp_all; contradiction) | (rename_i p1 p2; exact absurd (p1.symm.trans p2) (by decide)) | (rename_i p1 p2 p3; exact absurd (p1.symm.trans p3) (by decide))))
  (k_with "exec Raise some none" => (k_here; refine Mine.raise_made (by assumption) ?_))
  (k_with "call ref" => (k_here; (with_reducible show wpAny _ _ (call (Value.ref _) [Value.str _ _]) _ _ _); (refine Mine.make_exc (by unfold Mine.XCls; decide) (by assumption) (by assumption) (by assumption) (by assumption) rfl (by assumption) (by k_extra "om") (by k_extra "om") ?_); intro e9 h9 tk9 x9 c9; refine ⟨_, _, rfl, x9.2.2, c9, ?_⟩; try dsimp only))
  (k_with "leaving ref" => (k_here; (refine Mine.leave_newC (by assumption) (by assumption) (by assumption) ?_); intro h' R' U'; (try dsimp only at R' U' ⊢)))
  (k_with "subscriptTail" => (k_here; (with_reducible show wpAny _ _ (subscriptTail _ (Expr.Slice _ _ none _) (Value.bytes _ _) (Value.ref _)) _ _ _); (with_reducible rename Fr _ _ _ _ => F'); (with_reducible rename News _ _ _ _ => N'); (refine KBc.slice_K (s := ⟨_, _, _, _, _⟩) F' N' rfl (by constructor) (by constructor) (by rw [KBw.ints_length]; omega) ?_); intro h' t' k' F' N' _))
  (k_with "call type:bytes" => (k_here; (with_reducible show wpAny _ _ (call (Value.type _) [Value.bytes _ _]) _ _ _); refine Mine.bytes_same ?_))
  (k_with "assign Tuple" => (k_here; (with_reducible show wpAny _ _ (assign (Expr.Tuple _ _ _) _ (Value.ref _)) _ _ _); (refine unpackN_ (by assumption) (by assumption) (News.isTup (by assumption) (by k_mem)) (by assumption) rfl rfl ?_); intro h' F' N'))
  (k_with "unpackItems" => (k_here; (refine unpackItemsN_ (by assumption) (by assumption) (News.isTup (by assumption) (by k_mem)) (by assumption) rfl ?_); intro h' F' N'; (try dsimp only)))
  trivial
end Mine
namespace Mine
theorem setT16a : True := by
  (k_with "ne" => first | k_dflt (first | assumption | exact Ne.symm (by assumption) | exact Nat.ne_of_gt (by assumption) | exact Nat.ne_of_lt (by assumption)) | k_ne)
  (k_with "uf" => first | (refine' UpdF.head ?a; (case a => k_extra "ua")) | (refine' UpdF.tail ?a ?b; (case a => k_extra "ne"); (case b => k_extra "uf")))
  (k_with "ua" => first | exact List.forall_mem_nil _ | (refine' List.forall_mem_cons.mpr ⟨?a, ?b⟩; (case a => k_extra "ne"); (case b => k_extra "ua")))
  (k_with "call ref" => (k_here; (with_reducible show wpAny _ _ (call (Value.ref 176) [Value.ref _, Value.int _ _]) _ _ _); (refine Mine.DC.useE (Mine.c_law_next (by k_extra "om") (by k_extra "om")) (by assumption) (by assumption) (by assumption) (by k_extra "uf") (by assumption) (by assumption) (by assumption) rfl rfl (by assumption) (by k_extra "om") (by k_extra "om") ?_); intro r9 h' tk' o' ok9 F' N' bo9; (obtain ⟨i9, t9, e9, lo9, hi9⟩ := ok9); subst e9; (try dsimp only at N' ⊢)))
  (k_with "binaryOp FloorDiv int int" => (k_here; (refine Mine.fdiv_le (by assumption) (by assumption) (by decide) ?_); intro j9 t9 lo9 hi9))
  (k_with "binaryOp Mult bytes int" => (k_here; (refine Mine.mul_le (by assumption) (by assumption) (by decide) ?_); intro d9 t9 k9 e9))
  (k_with "binaryOp Add bytes bytes" => (k_here; (refine Mine.add_le (by first | assumption | exact Nat.le_refl _) (by first | assumption | exact Nat.le_refl _) (by decide) ?_); intro d9 t9 k9 e9))
  (k_with "call type:bytes" => (k_here; (with_reducible show wpAny _ _ (call (Value.type _) [Value.ref _]) _ _ _); k_dflt (refine Mine.bytes_sz (by assumption) (by assumption) (by k_mem) rfl rfl (by first | assumption | l_ints | (repeat constructor)) (by first | assumption | by_in | kbe_in) (by first | exact Nat.le_trans (by assumption) (by decide) | exact (by decide : (4 : Nat) ≤ 1000) | omega | (simp only [List.length_cons, List.length_nil]; omega)) (by assumption) ?_); intro c9 h' t9 k9 F' N' e9; (try simp only [List.length_cons, List.length_nil, Nat.zero_add, Nat.reduceAdd] at e9); (replace e9 := Nat.le_of_eq e9); (try (replace e9 := Nat.le_trans e9 (by assumption)))))
  (k_with "subscriptTail" => (k_here; (with_reducible show wpAny _ _ (subscriptTail _ _ (Value.ref _) (Value.int _ _)) _ _ _); (k_dflt (refine Mine.item_I 256 (by assumption) (by k_mem) rfl rfl ?a ?b ?c ?d ?_)); (case a => assumption); (case b => (simp only [List.length_cons, List.length_nil]; first | assumption | omega)); (case c => exact Int.lt_of_lt_of_le (by assumption) (by decide)); (case d => (repeat (first | exact Mine.allP_nil | refine Mine.allP_cons (Mine.isI_of (by decide) (by decide)) ?_)); done); intro i9 t9 lo9 hi9))
  (k_with "subscriptTail" => (k_here; (with_reducible show wpAny _ _ (subscriptTail _ _ (Value.ref _) (Value.int _ _)) _ _ _); (k_dflt (refine Mine.item_B 2 (by assumption) (by k_mem) rfl rfl ?a ?b ?c ?d ?_)); (case a => assumption); (case b => (simp only [List.length_cons, List.length_nil]; first | assumption | omega)); (case c => exact Int.lt_of_lt_of_le (by assumption) (by decide)); (case d => (repeat (first | exact Mine.allP_nil | refine Mine.allP_cons (Mine.isB_of (by decide)) ?_)); done); intro c9 t9 z9))
  trivial
theorem c_law_segment {w : World} {mean mg mb} {bx : Addr} : DC w mean mg mb 181 6 60 bx [] (fun r => ∃ c t, r = .bytes c t ∧ c.size ≤ 30) := by
  intro A base g outer s o Q E Z hb hg hbox hh hd hu ok
  refine wpAny_call ?_
  obtain ⟨B, X, T, _, _⟩ := id Z
  refine enterAtC (hid := [(bx, o)]) (binds := [(Str.ofString "box", .ref bx)]) Z (fun q hq => by obtain rfl := List.mem_singleton.mp hq; exact ⟨hb, hg⟩) (by k_is) (by k_is) (by k_extra "om") (BindsTo.of_eq rfl) (by with_unfolding_all rfl) (by decide) ?_ rfl rfl rfl
  intro L' h' tk cells F' N' Y l'
  obtain ⟨oc, rfl, hoc⟩ := CellsAre.one Y
  clear Y
  dsimp only [List.cons_append, List.nil_append] at N'
  have ll : @LT.lt Nat _ bx L' := l' _ (.head _)
  have l1 : @Ne Nat (L' + 1) bx := by omega
  show wpAny _ _ _ _ _ _
  k_fold
  k_extra "tb_start"
  · exact ok _ _ _ _ ⟨_, _, rfl, Nat.le_trans (by assumption) (by decide)⟩ (Fr.keep (by assumption)) (News.get (by assumption) (by k_mem)) (by assumption)
  refine code_cut (bx := bx) (Str.ofString "code") (fun o9 => [(L' + 1, oc), (bx, o9)]) (by assumption) ?_ ?_
  · k_extra "tb_start"
    all_goals first
      | exact CodeEnd.intro _ (by assumption) (by assumption) (fun _ h => h) (by first | assumption | decide | omega) (by first | assumption | decide | omega) (by assumption)
      | exact CodeEnd.intro _ (by assumption) (by assumption) (fun _ h => .tail _ h) (by first | assumption | decide | omega) (by first | assumption | decide | omega) (by assumption)
  intro code tc o' h' tk' lo hi bo F' N'
  show wpAny _ _ _ _ _ _
  k_extra "tb_start"
  refine comp_ints (D := fun o9 => [(L' + 1, oc), (bx, o9)]) (by assumption) (by assumption) (by assumption) (by assumption) (by assumption) (by assumption) (by assumption) (by intro q hq; first | exact hq | exact .tail _ hq) (by
     intro o₁ v₁ I₁ oI₁ C₁ oC₁ D₁ ys₁ m₁ h₁ tk₁ E₁ bo₁ hC₁ hx₁ F₁ N₁ off₁ ne₁
     have off₂ := off₁
     dsimp only [LCg.Off3] at off₁
     obtain ⟨⟨x1, x2, x3⟩, ⟨x4, x5, x6⟩, _⟩ := off₁
     obtain ⟨y1, y2, y3⟩ := ne₁
     show wpAny _ _ _ _ _ _
     k_extra "tb_start"
     exact CEnd.intro _ (by assumption) (by assumption) (by exact off₂) (by assumption) (by assumption) (by assumption)) ?_
  intro o₁ ys₁ ns₁ D₁ h₁ tk₁ bo₁ hi₁ hv₁ hl₁ F₁ N₁ off₁
  dsimp only [LCg.Off1] at off₁
  obtain ⟨x1, x2, _⟩ := off₁
  show wpAny _ _ _ _ _ _
  k_extra "tb_start"
  rotate_left 1
  · exact ok _ _ _ _ ⟨_, _, rfl, Nat.le_trans (by assumption) (by decide)⟩ (Fr.keep (by assumption)) (News.get (by assumption) (by k_mem)) (by assumption)
  refine for_draw 8 2 (found := Str.ofString "found") (D := fun o9 => [(L' + 1, oc), (bx, o9)]) (by assumption) (by assumption) (by assumption) (by assumption) (by assumption) (Int.lt_of_lt_of_le (by assumption) (by decide)) (by decide) rfl (Nat.le_trans (by assumption) (by decide)) (by assumption)
      (by intro q hq; first | exact hq | exact .tail _ hq | exact .tail _ (.tail _ hq) | exact .tail _ (.tail _ (.tail _ hq)))
      (by
        intro o' q hq
        rcases List.mem_cons.mp hq with rfl | hq
        · exact ⟨_, .head _, rfl⟩
        · obtain rfl := List.mem_singleton.mp hq
          exact ⟨_, .tail _ (.head _), rfl⟩) (.tail _ (.head _)) ?_ (by
     intro f₂ tf₂ tw₂ o₂ h₂ tk₂ hf₂ bo₂ F₂ N₂
     try dsimp only at N₂
     show wpAny _ _ _ _ _ _
     k_extra "tb_start"
     exact ok _ _ _ _ ⟨_, _, rfl, Nat.le_trans (by assumption) (by decide)⟩ (Fr.keep (by assumption)) (News.get (by assumption) (by k_mem)) (by assumption))
  (k_with "binaryOp Add bytes bytes" => (k_here; (refine Mine.add_grow (by assumption) (by assumption) (by decide) ?_); intro d9 t9 k9 e9))
  intro j₂ f₂ tf₂ tw₂ o₂ h₂ tk₂ tt₂ ow₂ how₂ hf₂ bo₂ F₂ N₂
  rcases how₂ with rfl | ⟨pa, po, rfl, hpa⟩
  all_goals
    try dsimp only [List.nil_append, List.cons_append] at N₂
    show wpAny _ _ _ _ _ _
    k_fold
    k_extra "tb_start"
  all_goals exact DrawEnd.intro _ (by assumption) (by assumption) (by intro q hq; exact .tail _ hq) (by assumption) (by assumption)
end Mine
end

section
open PySem PySem.W PySem.Calls PyProof.Rows PySem.Spec
set_option Elab.async false
set_option maxRecDepth 100000
set_option maxHeartbeats 4000000
namespace Mine
theorem setT17 : True := by
  w_top off
  k_with_none
  (k_with "om" => (first | assumption | decide | exact Mine.dp (by assumption) | exact Mine.dp1 (by assumption) | exact Mine.dp0 (by assumption) | exact Nat.le_trans (by assumption) (by decide) | exact Int.le_refl _ | exact Int.not_lt.mp (by assumption) | exact Int.not_le.mp (by assumption) | exact Int.le_of_lt (by assumption) | exact Int.add_one_le_of_lt (by assumption) | omega))
  (k_with "tb_start" => repeat' ((fail_if_success (with_reducible show wpAny _ _ (exec (Stmt.While _ _ _ _) _) _ _ _)); (fail_if_success (with_reducible show wpAny _ _ (pyIter _) (fun it s₂ => LoopAtV _ _ _ _ _ _ _ _ _ it s₂) _ _)); first | (k_unfold; (try dsimp only)) | (k_end; wrow_close) | walk1 | (dsimp only; walk1) | fail "no step"))
  (k_with "call builtin:len" => ((with_reducible show wpAny _ _ (call (Value.builtin "len") [Value.bytes _ _]) _ _ _); refine len_bytes (by k_extra "om") ?_))
  (k_with "subscriptTail" => ((with_reducible show wpAny _ _ (subscriptTail _ _ (Value.bytes _ _) (Value.int _ _)) _ _ _); (refine Mine.item_O (by k_extra "om") (by k_extra "om") (by k_extra "om") ?_); intro _ _ _ _))
  (k_with "tb_rel" => (intro y; (try dsimp only); (repeat' split) <;> first | rfl | (simp_all; done) | (simp_all; contradiction) | (rename_i p1 p2; exact absurd (p1.symm.trans p2) (by decide)) | (rename_i p1 p2 p3; exact absurd (p1.symm.trans p3) (by decide))))
  (k_with "exec Raise some none" => (k_here; refine Mine.raise_made (by assumption) ?_))
  (k_with "call ref" => (k_here; (with_reducible show wpAny _ _ (call (Value.ref _) [Value.str _ _]) _ _ _); (refine Mine.make_exc (by unfold Mine.XCls; decide) (by assumption) (by assumption) (by assumption) (by assumption) rfl (by assumption) (by k_extra "om") (by k_extra "om") ?_); intro e9 h9 tk9 x9 c9; refine ⟨_, _, rfl, x9.2.2, c9, ?_⟩; try dsimp only))
  (k_with "leaving ref" => (k_here; (refine Mine.leave_newC (by assumption) (by assumption) (by assumption) ?_); intro h' R' U'; (try dsimp only at R' U' ⊢)))
  (k_with "subscriptTail" => (k_here; (with_reducible show wpAny _ _ (subscriptTail _ (Expr.Slice _ _ none _) (Value.bytes _ _) (Value.ref _)) _ _ _); (with_reducible rename Fr _ _ _ _ => F'); (with_reducible rename News _ _ _ _ => N'); (refine KBc.slice_K (s := ⟨_, _, _, _, _⟩) F' N' rfl (by constructor) (by constructor) (by rw [KBw.ints_length]; omega) ?_); intro h' t' k' F' N' _))
  (k_with "call type:bytes" => (k_here; (with_reducible show wpAny _ _ (call (Value.type _) [Value.bytes _ _]) _ _ _); refine Mine.bytes_same ?_))
  (k_with "assign Tuple" => (k_here; (with_reducible show wpAny _ _ (assign (Expr.Tuple _ _ _) _ (Value.ref _)) _ _ _); (refine unpackN_ (by assumption) (by assumption) (News.isTup (by assumption) (by k_mem)) (by assumption) rfl rfl ?_); intro h' F' N'))
  (k_with "unpackItems" => (k_here; (refine unpackItemsN_ (by assumption) (by assumption) (News.isTup (by assumption) (by k_mem)) (by assumption) rfl ?_); intro h' F' N'; (try dsimp only)))
  trivial
end Mine
namespace Mine
theorem setT17a : True := by
  (k_with "ne" => first | k_dflt (first | assumption | exact Ne.symm (by assumption) | exact Nat.ne_of_gt (by assumption) | exact Nat.ne_of_lt (by assumption)) | k_ne)
  (k_with "uf" => first | (refine' UpdF.head ?a; (case a => k_extra "ua")) | (refine' UpdF.tail ?a ?b; (case a => k_extra "ne"); (case b => k_extra "uf")))
  (k_with "ua" => first | exact List.forall_mem_nil _ | (refine' List.forall_mem_cons.mpr ⟨?a, ?b⟩; (case a => k_extra "ne"); (case b => k_extra "ua")))
  (k_with "call ref" => (k_here; (with_reducible show wpAny _ _ (call (Value.ref 176) [Value.ref _, Value.int _ _]) _ _ _); (refine Mine.DC.useE (Mine.c_law_next (by k_extra "om") (by k_extra "om")) (by assumption) (by assumption) (by assumption) (by k_extra "uf") (by assumption) (by assumption) (by assumption) rfl rfl (by assumption) (by k_extra "om") (by k_extra "om") ?_); intro r9 h' tk' o' ok9 F' N' bo9; (obtain ⟨i9, t9, e9, lo9, hi9⟩ := ok9); subst e9; (try dsimp only at N' ⊢)))
  (k_with "call ref" => (k_here; (with_reducible show wpAny _ _ (call (Value.ref 181) [Value.ref _]) _ _ _); (refine Mine.DC.useE Mine.c_law_segment (by assumption) (by assumption) (by assumption) (by k_extra "uf") (by assumption) (by assumption) (by assumption) rfl rfl (by assumption) (by k_extra "om") (by k_extra "om") ?_); intro r9 h' tk' o' ok9 F' N' bo9; (obtain ⟨c9, t9, e9, z9⟩ := ok9); subst e9; (try dsimp only at N' ⊢)))
  (k_with "binaryOp FloorDiv int int" => (k_here; (refine Mine.fdiv_le (by assumption) (by assumption) (by decide) ?_); intro j9 t9 lo9 hi9))
  (k_with "binaryOp Mult bytes int" => (k_here; (refine Mine.mul_le (by assumption) (by assumption) (by decide) ?_); intro d9 t9 k9 e9))
  (k_with "binaryOp Add bytes bytes" => (k_here; (refine Mine.add_both (lo := 0) (Nat.zero_le _) (by assumption) (by assumption) (by decide) ?_); intro d9 t9 k9 e9 _))
  (k_with "binaryOp Add bytes bytes" => (k_here; (refine Mine.add_both (lo := 2) (by assumption) (by assumption) (by assumption) (by decide) ?_); intro d9 t9 k9 e9 y9))
  (k_with "binaryOp Add bytes bytes" => (k_here; (with_reducible show wpAny _ _ (binaryOp _ (Value.bytes _ _) (Value.bytes (List.toArray [255, 217]) _)) _ _ _); (refine Mine.add_two (by assumption) (by decide) ?_); intro d9 t9 k9 e9 y9))
  (k_with "subscriptTail" => (k_here; (with_reducible show wpAny _ _ (subscriptTail _ _ (Value.ref _) (Value.int _ _)) _ _ _); (k_dflt (refine Mine.item_B 2 (by assumption) (by k_mem) rfl rfl ?a ?b ?c ?d ?_)); (case a => assumption); (case b => (simp only [List.length_cons, List.length_nil]; first | assumption | omega)); (case c => exact Int.lt_of_lt_of_le (by assumption) (by decide)); (case d => (repeat (first | exact Mine.allP_nil | refine Mine.allP_cons (Mine.isB_of (by decide)) ?_)); done); intro c9 t9 z9))
  trivial
theorem c_law_file {w : World} {mean mg mb} {bx : Addr} : DC w mean mg mb 188 9 90 bx [] (fun r => ∃ c t, r = .bytes c t ∧ 2 ≤ c.size ∧ c.size ≤ 300) := by
  intro A base g outer s o Q E Z hb hg hbox hh hd hu ok
  refine wpAny_call ?_
  obtain ⟨B, X, T, _, _⟩ := id Z
  refine enterAt (hid := [(bx, o)]) (binds := [(Str.ofString "box", .ref bx)]) Z (fun q hq => by obtain rfl := List.mem_singleton.mp hq; exact ⟨hb, hg⟩) (by k_is) (by k_is) (by k_extra "om") (BindsTo.of_eq rfl) (locs rfl) ?_ (by decide) rfl rfl rfl
  intro L' h' F' N' l'
  dsimp only [mapOf, List.reverse, List.reverseAux] at F' ⊢
  have ll : @LT.lt Nat _ bx L' := l' _ (.head _)
  show wpAny _ _ _ _ _ _
  k_fold
  k_extra "tb_start"
  refine for_draw 2 30 (found := Str.ofString "found") (D := fun o9 => [(bx, o9)]) (by assumption) (by assumption) (by assumption) (by assumption) (by assumption) (by k_extra "om") (by decide) rfl (by decide) (by assumption)
        (by intro q hq; exact hq)
        (by
          intro o' q hq
          obtain rfl := List.mem_singleton.mp hq
          exact ⟨_, .head _, rfl⟩) (.head _) ?_ ?_
  rotate_left 1
  · intro f₂ tf₂ tw₂ o₂ h₂ tk₂ hf₂ bo₂ F₂ N₂
    try dsimp only at N₂
    show wpAny _ _ _ _ _ _
    k_extra "tb_start"
    all_goals exact ok _ _ _ _ ⟨_, _, rfl, by assumption, Nat.le_trans (by assumption) (by decide)⟩ (Fr.keep (by assumption)) (News.get (by assumption) (by k_mem)) (by assumption)
  · (k_with "binaryOp Add bytes bytes" => (k_here; (refine Mine.add_grow (by assumption) (by assumption) (by decide) ?_); intro d9 t9 k9 e9))
    intro j₂ f₂ tf₂ tw₂ o₂ h₂ tk₂ tt₂ ow₂ how₂ hf₂ bo₂ F₂ N₂
    rcases how₂ with rfl | ⟨pa, po, rfl, hpa⟩
    all_goals
      try dsimp only [List.nil_append, List.cons_append] at N₂
      show wpAny _ _ _ _ _ _
      k_fold
      k_extra "tb_start"
    all_goals exact DrawEnd.intro _ (by assumption) (by assumption) (by intro q hq; exact hq) (by assumption) (by assumption)
end Mine
end

section
open PySem PySem.W PySem.Calls PyProof.Rows PySem.Spec
set_option Elab.async false
set_option maxRecDepth 100000
set_option maxHeartbeats 4000000
namespace Mine
theorem setT18 : True := by
  w_top off
  k_with_none
  (k_with "om" => (first | assumption | decide | exact Mine.dp (by assumption) | exact Mine.dp1 (by assumption) | exact Mine.dp0 (by assumption) | exact Nat.le_trans (by assumption) (by decide) | exact Int.le_refl _ | exact Int.not_lt.mp (by assumption) | exact Int.not_le.mp (by assumption) | exact Int.le_of_lt (by assumption) | exact Int.add_one_le_of_lt (by assumption) | omega))
  (k_with "tb_start" => repeat' ((fail_if_success (with_reducible show wpAny _ _ (exec (Stmt.While _ _ _ _) _) _ _ _)); (fail_if_success (with_reducible show wpAny _ _ (pyIter _) (fun it s₂ => LoopAtV _ _ _ _ _ _ _ _ _ it s₂) _ _)); first | (k_unfold; (try dsimp only)) | (k_end; wrow_close) | walk1 | (dsimp only; walk1) | fail "no step"))
  (k_with "call builtin:len" => ((with_reducible show wpAny _ _ (call (Value.builtin "len") [Value.bytes _ _]) _ _ _); refine len_bytes (by k_extra "om") ?_))
  (k_with "subscriptTail" => ((with_reducible show wpAny _ _ (subscriptTail _ _ (Value.bytes _ _) (Value.int _ _)) _ _ _); (refine Mine.item_O (by k_extra "om") (by k_extra "om") (by k_extra "om") ?_); intro _ _ _ _))
  (k_with "tb_rel" => (intro y; (try dsimp only); (repeat' split) <;> first | rfl | (simp_all; done) | (simp_all; contradiction) | (rename_i p1 p2; exact absurd (p1.symm.trans p2) (by decide)) | (rename_i p1 p2 p3; exact absurd (p1.symm.trans p3) (by decide))))
  (k_with "exec Raise some none" => (k_here; refine Mine.raise_made (by assumption) ?_))
  (k_with "call ref" => (k_here; (with_reducible show wpAny _ _ (call (Value.ref _) [Value.str _ _]) _ _ _); (refine Mine.make_exc (by unfold Mine.XCls; decide) (by assumption) (by assumption) (by assumption) (by assumption) rfl (by assumption) (by k_extra "om") (by k_extra "om") ?_); intro e9 h9 tk9 x9 c9; refine ⟨_, _, rfl, x9.2.2, c9, ?_⟩; try dsimp only))
  (k_with "leaving ref" => (k_here; (refine Mine.leave_newC (by assumption) (by assumption) (by assumption) ?_); intro h' R' U'; (try dsimp only at R' U' ⊢)))
  (k_with "subscriptTail" => (k_here; (with_reducible show wpAny _ _ (subscriptTail _ (Expr.Slice _ _ none _) (Value.bytes _ _) (Value.ref _)) _ _ _); (with_reducible rename Fr _ _ _ _ => F'); (with_reducible rename News _ _ _ _ => N'); (refine KBc.slice_K (s := ⟨_, _, _, _, _⟩) F' N' rfl (by constructor) (by constructor) (by rw [KBw.ints_length]; omega) ?_); intro h' t' k' F' N' _))
  (k_with "call type:bytes" => (k_here; (with_reducible show wpAny _ _ (call (Value.type _) [Value.bytes _ _]) _ _ _); refine Mine.bytes_same ?_))
  (k_with "assign Tuple" => (k_here; (with_reducible show wpAny _ _ (assign (Expr.Tuple _ _ _) _ (Value.ref _)) _ _ _); (refine unpackN_ (by assumption) (by assumption) (News.isTup (by assumption) (by k_mem)) (by assumption) rfl rfl ?_); intro h' F' N'))
  (k_with "unpackItems" => (k_here; (refine unpackItemsN_ (by assumption) (by assumption) (News.isTup (by assumption) (by k_mem)) (by assumption) rfl ?_); intro h' F' N'; (try dsimp only)))
  trivial
section
variable {prog : Program} {w : World} {A : Around} {E : Value → Shared → Prop} {s : Shared} {value slice : PySem.Expr} {b : Array UInt8} {t : Tok} {h₀ : Heap} {L : Addr} {m : PySem.Str → Option Value} {news : List (Addr × Obj)} {l u : Value} {lo hi : Option Int} {Q : Value → Shared → Prop}
theorem slice_sz (hF : Fr h₀ L s.heap m) (hN : News h₀ L s.heap news) (hl : IsPart l lo) (hu : IsPart u hi) (hz : b.size ≤ 16777216)
    (h : ∀ (c : Array UInt8) h' t' k, c.size ≤ b.size → Fr h₀ L h' m → News h₀ L h' news → Q (.bytes c t') { s with heap := h', toks := k })
    (hs : subscripted slice false (.bytes b t) (.ref s.heap.objs.size) = operate [.ref s.heap.objs.size, .bytes b t] (getItem (.bytes b t) (.ref s.heap.objs.size)) := by with_unfolding_all rfl)
    (ht : ∀ r, letTemporaryGo value (.bytes b t) r = pure () := by intro _; with_unfolding_all rfl) :
    wpAny (model prog w) A (subscriptTail value slice (.bytes b t) (.ref s.heap.objs.size)) Q E { s with heap := s.heap.push { cls := .type "slice", data := .fields #[l, u, .none] } } :=
  KBc.slice_K hF hN rfl hl hu (by rw [KBw.ints_length]; exact hz) (fun h' t' k F' N' _ => h _ h' t' k (KBc.size_picked_le _ _ _) F' N') hs ht
end
end Mine
namespace Mine
theorem setT18a : True := by
  (k_with "ne" => first | k_dflt (first | assumption | exact Ne.symm (by assumption) | exact Nat.ne_of_gt (by assumption) | exact Nat.ne_of_lt (by assumption)) | k_ne)
  (k_with "uf" => first | (refine' UpdF.head ?a; (case a => k_extra "ua")) | (refine' UpdF.tail ?a ?b; (case a => k_extra "ne"); (case b => k_extra "uf")))
  (k_with "ua" => first | exact List.forall_mem_nil _ | (refine' List.forall_mem_cons.mpr ⟨?a, ?b⟩; (case a => k_extra "ne"); (case b => k_extra "ua")))
  (k_with "call ref" => (k_here; (with_reducible show wpAny _ _ (call (Value.ref 176) [Value.ref _, Value.int _ _]) _ _ _); (refine Mine.DC.useE (Mine.c_law_next (by k_extra "om") (by k_extra "om")) (by assumption) (by assumption) (by assumption) (by k_extra "uf") (by assumption) (by assumption) (by assumption) rfl rfl (by assumption) (by k_extra "om") (by k_extra "om") ?_); intro r9 h' tk' o' ok9 F' N' bo9; (obtain ⟨i9, t9, e9, lo9, hi9⟩ := ok9); subst e9; (try dsimp only at N' ⊢)))
  (k_with "binaryOp FloorDiv int int" => (k_here; (refine Mine.fdiv_le (by assumption) (by assumption) (by decide) ?_); intro j9 t9 lo9 hi9))
  (k_with "binaryOp Mult bytes int" => (k_here; (refine Mine.mul_le (by assumption) (by assumption) (by decide) ?_); intro d9 t9 k9 e9))
  (k_with "binaryOp Add bytes bytes" => (k_here; (refine Mine.add_le (by first | assumption | exact Nat.le_refl _) (by first | assumption | exact Nat.le_refl _) (by decide) ?_); intro d9 t9 k9 e9))
  (k_with "call type:bytes" => (k_here; (with_reducible show wpAny _ _ (call (Value.type _) [Value.ref _]) _ _ _); k_dflt (refine Mine.bytes_sz (by assumption) (by assumption) (by k_mem) rfl rfl (by first | assumption | l_ints | (repeat constructor)) (by first | assumption | by_in | kbe_in) (by first | exact Nat.le_trans (by assumption) (by decide) | exact (by decide : (4 : Nat) ≤ 1000) | omega | (simp only [List.length_cons, List.length_nil]; omega)) (by assumption) ?_); intro c9 h' t9 k9 F' N' e9; (try simp only [List.length_cons, List.length_nil, Nat.zero_add, Nat.reduceAdd] at e9); (replace e9 := Nat.le_of_eq e9)))
  (k_with "subscriptTail" => (k_here; (with_reducible show wpAny _ _ (subscriptTail _ _ (Value.ref _) (Value.int _ _)) _ _ _); (k_dflt (refine Mine.item_I 256 (by assumption) (by k_mem) rfl rfl ?a ?b ?c ?d ?_)); (case a => assumption); (case b => (simp only [List.length_cons, List.length_nil]; first | assumption | omega)); (case c => exact Int.lt_of_lt_of_le (by assumption) (by decide)); (case d => (repeat (first | exact Mine.allP_nil | refine Mine.allP_cons (Mine.isI_of (by decide) (by decide)) ?_)); done); intro i9 t9 lo9 hi9))
  (k_with "subscriptTail" => (k_here; (with_reducible show wpAny _ _ (subscriptTail _ _ (Value.ref _) (Value.int _ _)) _ _ _); (k_dflt (refine Mine.item_B 2 (by assumption) (by k_mem) rfl rfl ?a ?b ?c ?d ?_)); (case a => assumption); (case b => (simp only [List.length_cons, List.length_nil]; first | assumption | omega)); (case c => exact Int.lt_of_lt_of_le (by assumption) (by decide)); (case d => (repeat (first | exact Mine.allP_nil | refine Mine.allP_cons (Mine.isB_of (by decide)) ?_)); done); intro c9 t9 z9))
  (k_with "subscriptTail" => (k_here; (with_reducible show wpAny _ _ (subscriptTail _ (Expr.Slice _ _ none _) (Value.bytes _ _) (Value.ref _)) _ _ _); (with_reducible rename Fr _ _ _ _ => F'); (with_reducible rename News _ _ _ _ => N'); (refine Mine.slice_sz (s := ⟨_, _, _, _, _⟩) F' N' (by constructor) (by constructor) (by k_extra "om") ?_); intro c9 h' t' k' z9 F' N'; (replace z9 := Nat.le_trans z9 (by assumption))))
  trivial
theorem c_law_spoilt {w : World} {mean mg mb} {bx : Addr} {b : Array UInt8} {tb : Tok} (hb1 : 1 ≤ b.size) (hb2 : b.size ≤ 300) : DC w mean mg mb 195 9 90 bx [.bytes b tb] (fun r => ∃ c t, r = .bytes c t ∧ c.size ≤ 1000) := by
  intro A base g outer s o Q E Z hb hg hbox hh hd hu ok
  refine wpAny_call ?_
  obtain ⟨B, X, T, _, _⟩ := id Z
  refine enterAt (hid := [(bx, o)]) (binds := [(Str.ofString "box", .ref bx), (Str.ofString "octets", .bytes b tb)]) Z (fun q hq => by obtain rfl := List.mem_singleton.mp hq; exact ⟨hb, hg⟩) (by k_is) (by k_is) (by k_extra "om") (BindsTo.of_eq rfl) (locs rfl) ?_ (by decide) rfl rfl rfl
  intro L' h' F' N' l'
  dsimp only [mapOf, List.reverse, List.reverseAux] at F' ⊢
  have ll : @LT.lt Nat _ bx L' := l' _ (.head _)
  show wpAny _ _ _ _ _ _
  k_fold
  k_extra "tb_start"
  all_goals (refine ok _ _ _ _ ⟨_, _, rfl, ?_⟩ (Fr.keep (by assumption)) (News.get (by assumption) (by k_mem)) (by assumption); exact Nat.le_trans (by assumption) (by decide))
end Mine
end

section
open PySem PySem.W PySem.Calls PyProof.Rows PySem.Spec
set_option Elab.async false
set_option maxRecDepth 100000
namespace Mine
section
variable {b : Array UInt8} {i : Int}
theorem cd_uniq {e e' : Int} (h : Cd b i e) (h' : Cd b i e') : e = e' := by
  obtain ⟨a1, a2, a3, a4⟩ := h
  obtain ⟨b1, b2, b3, b4⟩ := h'
  rcases Int.lt_trichotomy e e' with h | h | h
  · exact absurd (b3 e (by omega) h) a4
  · exact h
  · exact absurd (a3 e' (by omega) h) b4
theorem fst_uniq {p p' : Int} (h : Fst b i p) (h' : Fst b i p') : p = p' := by
  obtain ⟨a1, a2, a3⟩ := h
  obtain ⟨b1, b2, b3⟩ := h'
  rcases Int.lt_trichotomy p p' with h | h | h
  · exact absurd a2 (b3 p a1 h)
  · exact h
  · exact absurd b2 (a3 p' b1 h)
/-- the ways in which a read from a code fails -/
def Er (b : Array UInt8) (e : Int) (C : Nat) : Prop :=
  ((O b e = 0 ∨ (208 ≤ O b e ∧ O b e ≤ 216)) ∧ C = 44) ∨ (Len (O b e) ∧
    ((b.size < e + 3 ∧ C = 68) ∨ (e + 3 ≤ b.size ∧ ((sz b (e + 1) < 2 ∧ C = 56) ∨ (2 ≤ sz b (e + 1) ∧ ((b.size < e + 1 + sz b (e + 1) ∧ C = 68) ∨
      (e + 1 + sz b (e + 1) ≤ b.size ∧ O b e = 218 ∧ (∀ p, e + 1 + sz b (e + 1) ≤ p → ¬ Mn b p) ∧ C = 68)))))))
def Gd (b : Array UInt8) (e : Int) (c a : Int) : Prop :=
  c = O b e ∧ (((O b e = 1 ∨ O b e = 217) ∧ a = e + 1) ∨ (Len (O b e) ∧ e + 3 ≤ b.size ∧ 2 ≤ sz b (e + 1) ∧ e + 1 + sz b (e + 1) ≤ b.size ∧
    ((O b e ≠ 218 ∧ a = e + 1 + sz b (e + 1)) ∨ (O b e = 218 ∧ Fst b (e + 1 + sz b (e + 1)) a))))
theorem err_cases {C : Nat} (h : StErr b i C) : ((∀ q, i ≤ q → q < b.size → O b q = 255) ∧ C = 68) ∨ (i < b.size ∧ O b i ≠ 255 ∧ C = 44) ∨ ∃ e, Cd b i e ∧ Er b e C := by
  cases h with
  | fill h => exact .inl ⟨h, rfl⟩
  | none h1 h2 => exact .inr (.inl ⟨h1, h2, rfl⟩)
  | code e c h => exact .inr (.inr ⟨e, c, .inl ⟨h, rfl⟩⟩)
  | short e c l h => exact .inr (.inr ⟨e, c, .inr ⟨l, .inl ⟨h, rfl⟩⟩⟩)
  | small e c l h1 h2 => exact .inr (.inr ⟨e, c, .inr ⟨l, .inr ⟨h1, .inl ⟨h2, rfl⟩⟩⟩⟩)
  | over e c l h1 h2 h3 => exact .inr (.inr ⟨e, c, .inr ⟨l, .inr ⟨h1, .inr ⟨h2, .inl ⟨h3, rfl⟩⟩⟩⟩⟩)
  | scan e c l h1 h2 h3 h4 h5 => exact .inr (.inr ⟨e, c, .inr ⟨l, .inr ⟨h1, .inr ⟨h2, .inr ⟨h3, h4, h5, rfl⟩⟩⟩⟩⟩)
theorem ok_cases {c a : Int} (h : StOk b i c a) : ∃ e, Cd b i e ∧ Gd b e c a := by
  cases h with
  | alone e cd h => exact ⟨e, cd, rfl, .inl ⟨h, rfl⟩⟩
  | seg e cd l h1 h2 h3 h4 => exact ⟨e, cd, rfl, .inr ⟨l, h1, h2, h3, .inl ⟨h4, rfl⟩⟩⟩
  | scan e p cd l h1 h2 h3 h4 h5 => exact ⟨e, cd, rfl, .inr ⟨l, h1, h2, h3, .inr ⟨h4, h5⟩⟩⟩
theorem len_x {c : Int} (l : Len c) (h : c = 0 ∨ (208 ≤ c ∧ c ≤ 216)) : False := by unfold Len at l; omega
theorem len_a {c : Int} (l : Len c) (h : c = 1 ∨ c = 217) : False := h.elim l.2.1 l.2.2.1
theorem x_a {c : Int} (l : c = 0 ∨ (208 ≤ c ∧ c ≤ 216)) (h : c = 1 ∨ c = 217) : False := by omega
noncomputable def erF (b : Array UInt8) (e : Int) : Nat := if O b e = 0 ∨ (208 ≤ O b e ∧ O b e ≤ 216) then 44 else if b.size < e + 3 then 68 else if sz b (e + 1) < 2 then 56 else 68
theorem er_val {e : Int} {C : Nat} (h : Er b e C) : C = erF b e := by
  unfold erF
  rcases h with ⟨h1, h⟩ | ⟨h1, h⟩
  · rw [if_pos h1, h]
  rw [if_neg (fun q => len_x h1 q)]
  rcases h with ⟨h2, h⟩ | ⟨h2, h⟩
  · rw [if_pos h2, h]
  rw [if_neg (Int.not_lt.mpr h2)]
  rcases h with ⟨h3, h⟩ | ⟨h3, h⟩
  · rw [if_pos h3, h]
  rw [if_neg (Int.not_lt.mpr h3)]
  rcases h with ⟨_, h⟩ | ⟨_, _, _, h⟩
  · exact h
  · exact h
theorem er_uniq {e : Int} {C C' : Nat} (h : Er b e C) (h' : Er b e C') : C = C' := (er_val h).trans (er_val h').symm
theorem er_gd {e c a : Int} {C : Nat} (h : Er b e C) (h' : Gd b e c a) : False := by
  obtain ⟨_, h'⟩ := h'
  rcases h with ⟨h1, h⟩ | ⟨h1, h⟩
  · rcases h' with ⟨g, _⟩ | ⟨g, _⟩
    · exact x_a h1 g
    · exact len_x g h1
  rcases h' with ⟨g, _⟩ | ⟨_, g2, g3, g4, g⟩
  · exact len_a h1 g
  rcases h with ⟨h2, _⟩ | ⟨_, ⟨h3, _⟩ | ⟨_, ⟨h4, _⟩ | ⟨_, h5, h6, _⟩⟩⟩
  · exact absurd h2 (Int.not_lt.mpr g2)
  · exact absurd h3 (Int.not_lt.mpr g3)
  · exact absurd h4 (Int.not_lt.mpr g4)
  · rcases g with ⟨g, _⟩ | ⟨_, g⟩
    · exact absurd h5 g
    · exact h6 _ g.1 g.2.1
theorem gd_uniq {e c a c' a' : Int} (h : Gd b e c a) (h' : Gd b e c' a') : c = c' ∧ a = a' := by
  obtain ⟨h0, h⟩ := h
  obtain ⟨h0', h'⟩ := h'
  refine ⟨h0.trans h0'.symm, ?_⟩
  rcases h with ⟨h1, h2⟩ | ⟨h1, _, _, _, h⟩ <;> rcases h' with ⟨g1, g2⟩ | ⟨g1, _, _, _, g⟩
  · exact h2.trans g2.symm
  · exact (len_a g1 h1).elim
  · exact (len_a h1 g1).elim
  · rcases h with ⟨h5, h6⟩ | ⟨h5, h6⟩ <;> rcases g with ⟨g5, g6⟩ | ⟨g5, g6⟩
    · exact h6.trans g6.symm
    · exact absurd g5 h5
    · exact absurd h5 g5
    · exact fst_uniq h6 g6
theorem err_uniq {C C' : Nat} (h : StErr b i C) (h' : StErr b i C') : C = C' := by
  rcases err_cases h with ⟨a1, a2⟩ | ⟨a1, a2, a3⟩ | ⟨e, a1, a2⟩ <;> rcases err_cases h' with ⟨b1, b2⟩ | ⟨b1, b2, b3⟩ | ⟨e', b1, b2⟩
  · rw [a2, b2]
  · exact absurd (a1 i (by omega) b1) b2
  · exact absurd (a1 e' (by have := b1.1; omega) b1.2.1) b1.2.2.2
  · exact absurd (b1 i (by omega) a1) a2
  · rw [a3, b3]
  · exact absurd (b1.2.2.1 i (by omega) b1.1) a2
  · exact absurd (b1 e (by have := a1.1; omega) a1.2.1) a1.2.2.2
  · exact absurd (a1.2.2.1 i (by omega) a1.1) b2
  · obtain rfl := cd_uniq a1 b1
    exact er_uniq a2 b2
theorem err_ok {c a : Int} {C : Nat} (h : StErr b i C) (h' : StOk b i c a) : False := by
  obtain ⟨e', b1, b2⟩ := ok_cases h'
  rcases err_cases h with ⟨a1, a2⟩ | ⟨a1, a2, a3⟩ | ⟨e, a1, a2⟩
  · exact absurd (a1 e' (by have := b1.1; omega) b1.2.1) b1.2.2.2
  · exact absurd (b1.2.2.1 i (by omega) b1.1) a2
  · obtain rfl := cd_uniq a1 b1
    exact er_gd a2 b2
theorem ok_uniq {c a c' a' : Int} (h : StOk b i c a) (h' : StOk b i c' a') : c = c' ∧ a = a' := by
  obtain ⟨e, a1, a2⟩ := ok_cases h
  obtain ⟨e', b1, b2⟩ := ok_cases h'
  obtain rfl := cd_uniq a1 b1
  exact gd_uniq a2 b2
end
theorem tr_uniq {b : Array UInt8} {i : Int} {cs : List Int} {o : Option Addr} (h : Tr b i cs o) : ∀ {cs' : List Int} {o' : Option Addr}, Tr b i cs' o' → cs = cs' ∧ o = o' := by
  induction h with
  | stop e =>
    intro cs' o' h'
    cases h' with
    | stop e' => exact ⟨rfl, congrArg some (err_uniq e e')⟩
    | eoi k => exact (err_ok e k).elim
    | more k _ _ => exact (err_ok e k).elim
  | eoi k =>
    intro cs' o' h'
    cases h' with
    | stop e' => exact (err_ok e' k).elim
    | eoi k' => exact ⟨rfl, rfl⟩
    | more k' hc _ => exact absurd (ok_uniq k k').1.symm hc
  | more k hc t ih =>
    intro cs' o' h'
    cases h' with
    | stop e' => exact (err_ok e' k).elim
    | eoi k' => exact absurd (ok_uniq k k').1 hc
    | more k' hc' t' =>
      obtain ⟨rfl, rfl⟩ := ok_uniq k k'
      obtain ⟨e1, e2⟩ := ih t'
      exact ⟨by rw [e1], e2⟩
theorem pe_ok {b : Array UInt8} {C : Addr} {ds : List Int} (h : PiecesErr b C) (t : Tr b 2 ds none) (hd : 2 ≤ (b.size : Int) ∧ O b 0 = 255 ∧ O b 1 = 216) : False := by
  rcases h with ⟨_, h⟩ | ⟨_, _, h⟩ | ⟨_, _, _, ds', t'⟩
  · omega
  · omega
  · have := (tr_uniq t t').2
    cases this
theorem nlt {x y : Int} (h : x < y) (g : y ≤ x) : False := Int.not_lt.mpr g h
theorem pe_uniq {b : Array UInt8} {C C' : Nat} (h : PiecesErr b C) (h' : PiecesErr b C') : C = C' := by
  rcases h with ⟨h, h1⟩ | ⟨h, h1, h2⟩ | ⟨h1, h2, h3, ds, t⟩ <;> rcases h' with ⟨h', g1⟩ | ⟨h', g1, g2⟩ | ⟨g1, g2, g3, ds', t'⟩
  · exact h.trans h'.symm
  · exact (nlt h1 g1).elim
  · exact (nlt h1 g1).elim
  · exact (nlt g1 h1).elim
  · exact h.trans h'.symm
  · exact (h2.elim (fun q => q g2) (fun q => q g3)).elim
  · exact (nlt g1 h1).elim
  · exact (g2.elim (fun q => q h2) (fun q => q h3)).elim
  · exact Option.some.inj (tr_uniq t t').2
theorem er_three {b : Array UInt8} {i : Int} {C : Nat} (h : StErr b i C) : C = 68 ∨ C = 44 ∨ C = 56 := by
  cases h <;> simp
theorem tr_three {b : Array UInt8} {i : Int} {cs : List Int} {o : Option Addr} (h : Tr b i cs o) : ∀ {C : Nat}, o = some C → C = 68 ∨ C = 44 ∨ C = 56 := by
  induction h with
  | stop e => intro C q; exact Option.some.inj q ▸ er_three e
  | eoi => intro C q; cases q
  | more _ _ _ ih => intro C q; exact ih q
theorem pe_three {b : Array UInt8} {C : Nat} (h : PiecesErr b C) : C = 68 ∨ C = 44 ∨ C = 56 := by
  rcases h with ⟨h, _⟩ | ⟨h, _⟩ | ⟨_, _, _, _, t⟩
  · exact .inl h
  · exact .inr (.inl h)
  · exact tr_three t rfl
/-- what both readers tell -/
def Due (b : Array UInt8) (x : Str) : Prop := (∃ C, PiecesErr b C ∧ x = nmC C) ∨ (∃ ds, Tr b 2 ds none ∧ (2 ≤ (b.size : Int) ∧ O b 0 = 255 ∧ O b 1 = 216) ∧ x = kindS ds)
theorem due_err {b : Array UInt8} {x : Str} {C : Addr} (d : Due b x) (h : PiecesErr b C) : x = nmC C := by
  rcases d with ⟨C', h', e⟩ | ⟨ds, t, hd, _⟩
  · rw [e, pe_uniq h' h]
  · exact (pe_ok h t hd).elim
theorem due_ok {b : Array UInt8} {x : Str} {ds : List Int} (d : Due b x) (t : Tr b 2 ds none) (hd : 2 ≤ (b.size : Int) ∧ O b 0 = 255 ∧ O b 1 = 216) : x = kindS ds := by
  rcases d with ⟨C', h', e⟩ | ⟨ds', t', _, e⟩
  · exact (pe_ok h' t hd).elim
  · rw [e, (tr_uniq t t').1]
end Mine
end

section
open PySem PySem.W PySem.Calls PyProof.Rows PySem.Spec
set_option Elab.async false
set_option maxRecDepth 100000
set_option maxHeartbeats 4000000
namespace Mine
theorem setT19 : True := by
  w_top off
  k_with_none
  (k_with "om" => (first | assumption | decide | exact Mine.dp (by assumption) | exact Mine.dp1 (by assumption) | exact Mine.dp0 (by assumption) | exact Nat.le_trans (by assumption) (by decide) | exact Int.le_refl _ | exact Int.not_lt.mp (by assumption) | exact Int.not_le.mp (by assumption) | exact Int.le_of_lt (by assumption) | exact Int.add_one_le_of_lt (by assumption) | omega))
  (k_with "tb_start" => repeat' ((fail_if_success (with_reducible show wpAny _ _ (exec (Stmt.While _ _ _ _) _) _ _ _)); (fail_if_success (with_reducible show wpAny _ _ (pyIter _) (fun it s₂ => LoopAtV _ _ _ _ _ _ _ _ _ it s₂) _ _)); first | (k_unfold; (try dsimp only)) | (k_end; wrow_close) | walk1 | (dsimp only; walk1) | fail "no step"))
  (k_with "call builtin:len" => ((with_reducible show wpAny _ _ (call (Value.builtin "len") [Value.bytes _ _]) _ _ _); refine len_bytes (by k_extra "om") ?_))
  (k_with "subscriptTail" => ((with_reducible show wpAny _ _ (subscriptTail _ _ (Value.bytes _ _) (Value.int _ _)) _ _ _); (refine Mine.item_O (by k_extra "om") (by k_extra "om") (by k_extra "om") ?_); intro _ _ _ _))
  (k_with "tb_rel" => (intro y; (try dsimp only); (repeat' split) <;> first | rfl | (simp_all; done) | (simp_all; contradiction) | (rename_i p1 p2; exact absurd (p1.symm.trans p2) (by decide)) | (rename_i p1 p2 p3; exact absurd (p1.symm.trans p3) (by decide))))
  (k_with "exec Raise some none" => (k_here; refine Mine.raise_made (by assumption) ?_))
  (k_with "call ref" => (k_here; (with_reducible show wpAny _ _ (call (Value.ref _) [Value.str _ _]) _ _ _); (refine Mine.make_exc (by unfold Mine.XCls; decide) (by assumption) (by assumption) (by assumption) (by assumption) rfl (by assumption) (by k_extra "om") (by k_extra "om") ?_); intro e9 h9 tk9 x9 c9; refine ⟨_, _, rfl, x9.2.2, c9, ?_⟩; try dsimp only))
  (k_with "leaving ref" => (k_here; (refine Mine.leave_newC (by assumption) (by assumption) (by assumption) ?_); intro h' R' U'; (try dsimp only at R' U' ⊢)))
  (k_with "subscriptTail" => (k_here; (with_reducible show wpAny _ _ (subscriptTail _ (Expr.Slice _ _ none _) (Value.bytes _ _) (Value.ref _)) _ _ _); (with_reducible rename Fr _ _ _ _ => F'); (with_reducible rename News _ _ _ _ => N'); (refine KBc.slice_K (s := ⟨_, _, _, _, _⟩) F' N' rfl (by constructor) (by constructor) (by rw [KBw.ints_length]; omega) ?_); intro h' t' k' F' N' _))
  (k_with "call type:bytes" => (k_here; (with_reducible show wpAny _ _ (call (Value.type _) [Value.bytes _ _]) _ _ _); refine Mine.bytes_same ?_))
  (k_with "assign Tuple" => (k_here; (with_reducible show wpAny _ _ (assign (Expr.Tuple _ _ _) _ (Value.ref _)) _ _ _); (refine unpackN_ (by assumption) (by assumption) (News.isTup (by assumption) (by k_mem)) (by assumption) rfl rfl ?_); intro h' F' N'))
  (k_with "unpackItems" => (k_here; (refine unpackItemsN_ (by assumption) (by assumption) (News.isTup (by assumption) (by k_mem)) (by assumption) rfl ?_); intro h' F' N'; (try dsimp only)))
  trivial
theorem use_box {w : World} {mean mg mb} {a : Addr} {vs : List Value} {ns : List Int} {A : Around} {base g : Heap} {outer : List Env} {L : Addr} {m : Str → Option Value} {cn : Str} {cs : Scope} {ad : Addr} {ccd : Value} {news : List (Addr × Obj)} {s : Shared} {Q E : Value → Shared → Prop}
    (B : Below A base outer g) (F : Fr g L s.heap m) (N : News g L s.heap news) (X : (Mine.hd.heap_39 w.params).In g) (T : Top hd.view_39 (looseW hd.view_39 [PySem.Str.ofString "Piece"]) mean mg mb g) (hk : cs.kind = .function)
    (hls : g.IsList a vs.toArray) (hi : IntsAre vs ns) (hl : ns.length ≤ 63) (hh : A.handled = none) (hd : A.depth + 1 + 3 < recursionLimit) (hu : A.units + 3 + 40 < cLine)
    (ok : ∀ d o h' tk', Fr g L h' m → News g L h' ((d, o) :: news) → BoxOk w d o → Q (.ref d) { s with heap := h', toks := tk' }) :
    wpAny (model PySem.Challenge.rw_ok0134_01.row.prog w) (A.deeper (envOf cn cs L ad ccd)) (call (.ref 169) [.ref a]) Q E s := by
  refine c_law_box hi (by rw [hi.length]; exact hl) (At.ofFr B F X T hk) (by obtain ⟨o, e, r⟩ := hls; exact ⟨o, F.keep _ _ e, r⟩) hh hd hu fun d o h' tk' st e1 e2 bo => ?_
  refine ok d o h' tk' ⟨F.ns.keeps st, fun b q e => st _ _ (F.keep b q e), F.above⟩ (fun q hq => ?_) bo
  rcases List.mem_cons.mp hq with rfl | hq
  · refine ⟨e1, fun e => ?_, ?_⟩
    · obtain ⟨q, _, _, e', _⟩ := F.ns
      rw [← e] at e'; rw [e2] at e'; cases e'
    · cases q : g.get? d with
      | none => rfl
      | some o' => rw [F.keep _ _ q] at e2; cases e2
  · exact ⟨st _ _ (N q hq).1, (N q hq).2⟩
theorem PC.use {w : World} {mean : ExcName → Option Value} {mg mb : Str → Option Value} {f : Addr} {d u : Nat} {vs : List Value}
    {Ok : Heap → Value → Heap → Prop} {Er : Addr → Prop} (C : PC w mean mg mb f d u vs Ok Er)
    {A : Around} {base g : Heap} {outer : List Env} {L : Addr} {m : Str → Option Value} {cn : Str} {cs : Scope} {a : Addr} {ccd : Value} {news : List (Addr × Obj)} {s : Shared} {Q E : Value → Shared → Prop}
    (B : Below A base outer g) (F : Fr g L s.heap m) (N : News g L s.heap news) (X : (Mine.hd.heap_39 w.params).In g) (T : Top hd.view_39 (looseW hd.view_39 [PySem.Str.ofString "Piece"]) mean mg mb g) (hk : cs.kind = .function)
    (hh : A.handled = none) (hd : A.depth + 1 + d < recursionLimit) (hu : A.units + 3 + u < cLine)
    (ok : ∀ r h' tk', Fr g L h' m → News g L h' news → s.heap.StaysIn h' → Ok s.heap r h' → Q r { s with heap := h', toks := tk' })
    (er : ∀ C e h' tk', Er C → RaisedSN base s.heap (envOf cn cs L a ccd :: outer) e (.ref C) [] h' → s.heap.UpToSlots h' → E (.ref e) { s with heap := h', toks := tk' }) :
    wpAny (model PySem.Challenge.rw_ok0134_01.row.prog w) (A.deeper (envOf cn cs L a ccd)) (call (.ref f) vs) Q E s := Pure.use C B F N X T hk hh hd hu ok er
end Mine
namespace Mine
theorem setT19a : True := by
  (k_with "call ref" => (k_here; (with_reducible show wpAny _ _ (call (Value.ref 169) [Value.ref _]) _ _ _); (refine Mine.use_box (by assumption) (by assumption) (by assumption) (by assumption) (by assumption) rfl (by assumption) (by assumption) (by k_extra "om") (by with_unfolding_all rfl) (by decide) (by decide) ?_); intro d9 o' h' tk' F' N' bo9; (try dsimp only at N' ⊢)))
  (k_with "call ref" => (k_here; (with_reducible show wpAny _ _ (call (Value.ref 188) [Value.ref _]) _ _ _); (refine Mine.DC.useE Mine.c_law_file (by assumption) (by assumption) (by assumption) (by k_updF) (by assumption) (by assumption) (by assumption) rfl rfl (by with_unfolding_all rfl) (by decide) (by decide) ?_); intro r9 h' tk' o' ok9 F' N' bo9; (obtain ⟨c9, t9, e9, y9, z9⟩ := ok9); subst e9; (try dsimp only at N' ⊢)))
  (k_with "call ref" => (k_here; (with_reducible show wpAny _ _ (call (Value.ref 195) [Value.ref _, Value.bytes _ _]) _ _ _); (refine Mine.DC.useE (Mine.c_law_spoilt (by k_extra "om") (by k_extra "om")) (by assumption) (by assumption) (by assumption) (by k_updF) (by assumption) (by assumption) (by assumption) rfl rfl (by with_unfolding_all rfl) (by decide) (by decide) ?_); intro r9 h' tk' o' ok9 F' N' bo9; (obtain ⟨c9, t9, e9, z9⟩ := ok9); subst e9; (try dsimp only at N' ⊢)))
  (k_with "call ref" => (k_here; (with_reducible show wpAny _ _ (call (Value.ref 214) [Value.bytes _ _]) _ _ _); (refine Mine.PC.use (Mine.c_law_read (by k_extra "om")) (by assumption) (by assumption) (by assumption) (by assumption) (by assumption) rfl (by with_unfolding_all rfl) (by decide) (by decide) ?_ ?_); rotate_left 1; (intro C9 e9 h' tk' er9; exact er9.elim); intro r9 h' tk' F' N' st9 ok9; (unfold Mine.ReadOk at ok9); (obtain ⟨x9, t9, e9, ok9⟩ := ok9); subst e9))
  (k_with "call ref" => (k_here; (with_reducible show wpAny _ _ (call (Value.ref 162) [Value.bytes _ _]) _ _ _); (refine Mine.PC.use (Mine.c_kind_of_file (by k_extra "om")) (by assumption) (by assumption) (by assumption) (by assumption) (by assumption) rfl (by with_unfolding_all rfl) (by decide) (by decide) ?_ ?_); intro r9 h' tk' F' N' st9 ok9; (unfold Mine.KindOk at ok9); (obtain ⟨x9, t9, e9, ok9, hd9⟩ := ok9); subst e9; rotate_left 1; (intro C9 e9 h' tk' er9 R9 U9; (try dsimp only at er9 R9 U9 ⊢)); rcases Mine.pe_three er9 with q9 | q9 | q9 <;> subst q9))
  trivial
theorem below_of_fr {g h : Heap} {L : Addr} {m : Str → Option Value} (_ : Fr g L h m) : Below callerA g [] g := below_caller g
theorem dicts_of_fr {g h : Heap} {L : Addr} {m : Str → Option Value} (_ : Fr g L h m) : KtsDicts (([] : List Env).filterMap (·.frame)) g := fun _ h => nomatch h
theorem fr_down {A : Around} {outer : List Env} {base g h : Heap} {L : Addr} {m : Str → Option Value} (K : Below A base outer g) (F : Fr g L h m) (z : base.objs.size ≤ L) : Fr base L h m := ⟨F.ns, fun b o e => F.keep b o (K.stays b o e), z⟩
theorem law_end : PySem.Challenge.rw_ok0134_01.Holds := hd (by
  k_go0
  rename_i K0 _ _ F0 N0
  have B9 := below_of_fr F0
  have D9 := dicts_of_fr F0
  clear K0
  show wpAny _ _ _ _ _ _
  k_extra "tb_start"
  · rename PiecesErr _ _ => er9
    rename (Exists _ ∨ Exists _) => ok9
    obtain rfl := due_err ok9 er9
    have e9 : (nmC 68 == Str.ofString "cut") = true := by decide
    rw [e9]
    rename Below callerA _ [] _ => K9
    rename Fr _ _ _ _ => F9
    have F8 := fr_down K9 F9 (Nat.le_refl _)
    dsimp only
    wrow_close
  · rename PiecesErr _ _ => er9
    rename (Exists _ ∨ Exists _) => ok9
    obtain rfl := due_err ok9 er9
    have e9 : (nmC 44 == Str.ofString "marker") = true := by decide
    rw [e9]
    rename Below callerA _ [] _ => K9
    rename Fr _ _ _ _ => F9
    have F8 := fr_down K9 F9 (Nat.le_refl _)
    dsimp only
    wrow_close
  · rename PiecesErr _ _ => er9
    rename (Exists _ ∨ Exists _) => ok9
    obtain rfl := due_err ok9 er9
    have e9 : (nmC 56 == Str.ofString "segment") = true := by decide
    rw [e9]
    rename Below callerA _ [] _ => K9
    rename Fr _ _ _ _ => F9
    have F8 := fr_down K9 F9 (Nat.le_refl _)
    dsimp only
    wrow_close
  · rename Tr _ _ _ _ => tr9
    rename (_ ∧ _ ∧ _) => hd9
    rename (Exists _ ∨ Exists _) => ok9
    obtain rfl := due_ok ok9 tr9 hd9
    rw [beq_self_eq_true]
    first | (k_end; wrow_close) | (dsimp only; k_end; wrow_close))
end Mine
end

set_option Elab.async false
theorem PySem.Challenge.cw_ok0134_01_holds : PySem.Challenge.rw_ok0134_01.Holds :=
  Mine.law_end
