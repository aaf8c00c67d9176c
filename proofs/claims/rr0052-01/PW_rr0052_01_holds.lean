import PyProof.Rows.All
import Wide.All
import OpenK.AllK
import Wide.FinOn
import PySem.Challenge.RW_rr0052_01
set_option Elab.async false
section
open PySem PySem.W PyProof.Rows
set_option maxRecDepth 100000
set_option maxHeartbeats 8000000
namespace Mine
open_top hd for PySem.Challenge.rw_rr0052_01
end Mine
end
section
open PySem PySem.W PyProof.Rows PySem.Calls PySem.Spec
set_option maxRecDepth 100000
set_option maxHeartbeats 8000000
namespace Mine

abbrev NoE : Value → Shared → Prop := fun _ _ => False

theorem enter {prog : Program} {w : World} {A : Around} {E : Value → Shared → Prop} {s : Shared} {K : Frag} {name qual : Str} {params : Arguments} {body : List Stmt} {scope : Scope} {dV kV doc pm cdv ct oc : Value} {an od : Option Addr} {osl : Array (Option Value)} {f : Addr} {pos : List Value} {kw : List (Str × Value)} {binds : List (Str × Value)} {Q : Value → Shared → Prop}
    (X : K.In s.heap) (hlim : s.heap.NoLimit)
    (ho : K.lookup f = some ⟨oc, od, .func (fnOf name qual params body scope dV kV doc pm an cdv ct), osl⟩) (hcd : codeIn K cdv qual = true) (hroom : A.depth < recursionLimit)
    (hbind : BindsTo s (fnOf name qual params body scope dV kV doc pm an cdv ct) ⟨pos, kw⟩ binds) (hloc : ∀ y ∈ binds, scope.names.lookup y.1 = some .local)
    (h : ∀ L h₁, Fr s.heap L h₁ (fun y => binds.reverse.lookup y) →
      wpAny (model prog w) (A.deeper (envOf qual scope L f cdv)) (execs body (envOf qual scope L f cdv)) (fun fl s' => Q (match fl with | .ret v => v | _ => .none) s') NoE { s with heap := h₁, toks := s.toks + binds.length })
    (hco : scope.isCoroutine = false) (hgen : scope.isGenerator = false) (hk : scope.kind = .function) (hcell : ∀ x ∈ scope.names, x.2 ≠ .cell) :
    wpAny (model prog w) A (call (.ref f) pos kw) Q E s := by
  refine wpAny_call ?_
  refine codeAny_call_def (fd := fnOf name qual params body scope dV kV doc pm an cdv ct) (body := body) (binds := binds) hroom (X _ _ ho) rfl hlim (codeRec_of X hcd) rfl hbind hcell hloc (fun h₁ hns hk₁ => ?_) hco hgen hk
  exact wpAny_mono (h _ h₁ ⟨hns, hk₁, Nat.le_refl _⟩) (fun fl s' q => q) (fun _ _ q => q.elim)

end Mine
end
section
open PySem PySem.W PyProof.Rows PySem.Calls PySem.Spec
set_option maxRecDepth 100000
set_option maxHeartbeats 8000000
namespace Mine

section
variable {prog : Program} {w : World} {A : Around} {s : Shared} {env : Env} {h₀ : Heap} {x : Str} {body : List Stmt} {Q : Flow → Shared → Prop}

def HasAll (m : Str → Option Value) : List (Str × Value) → Prop
  | [] => True
  | p :: r => m p.1 = some p.2 ∧ HasAll m r
theorem HasAll.mem {m : Str → Option Value} : ∀ {ps : List (Str × Value)}, HasAll m ps → ∀ p ∈ ps, m p.1 = some p.2
  | [], _, _, hp => nomatch hp
  | q :: r, h, p, hp => by
    rcases List.mem_cons.mp hp with rfl | hp
    · exact h.1
    · exact HasAll.mem h.2 p hp
/-- what a turn of a loop hands on -/
def TurnEnd {σ : Type} (h₀ : Heap) (L I : Addr) (own : List (Addr × Obj)) (ps : σ → List (Str × Value)) (J : σ → List (Addr × Obj) → Prop) (s₁ s₂ : Shared) : Prop :=
  ∃ h' tk m' c nx, s₂ = { s₁ with heap := h', toks := tk } ∧ Fr h₀ L h' m' ∧ News h₀ L h' (own ++ nx) ∧ (∀ p ∈ nx, p.1 ≠ I) ∧ HasAll m' (ps c) ∧ J c nx

theorem kst_all {ps : List (Str × Value)} {m : Str → Option Value} (h : HasAll m ps) : kstB m ps = m := by
  funext z
  exact kstB_eq h.mem fun _ => rfl

theorem loop_core {σ : Type} {I : Addr} {fp : List Addr} {n : Nat} {P : Nat → Value → Prop} {St : Nat → Heap → Prop} {m₀ : Str → Option Value} {news : List (Addr × Obj)}
    (ps : σ → List (Str × Value)) (J : Nat → σ → List (Addr × Obj) → Prop)
    (W : Walks prog w A I fp [I] n P St) (hLf : env.locals ∉ fp) (hI : h₀.get? I = none) (hnw : ∀ p ∈ news, p.1 ≠ I) (hst : St 0 s.heap) (hIs : ∀ i h, St i h → ∃ o, h.get? I = some o)
    (F : Fr h₀ env.locals s.heap m₀) (N : News h₀ env.locals s.heap news) (h0 : ∃ c₀, HasAll m₀ (ps c₀) ∧ J 0 c₀ news)
    (turn : ∀ i v c u nx own h tk, i < n → P i v → J i c nx → (∀ p ∈ nx, p.1 ≠ I) → (∃ o, (I, o) ∈ own) → (∀ p ∈ own, p.1 ∈ fp) →
      Fr h₀ env.locals h (fun y => if y = x then some v else kstB u (ps c) y) → News h₀ env.locals h (own ++ nx) →
      wpAny (model prog w) A (execs body env) (fun f s₂ => f = .next ∧ TurnEnd h₀ env.locals I own ps (J (i + 1)) { s with heap := h, toks := tk } s₂) NoE { s with heap := h, toks := tk })
    (done : ∀ c u nx h tk, J n c nx → (∀ p ∈ nx, p.1 ≠ I) → Fr h₀ env.locals h (kstB u (ps c)) → News h₀ env.locals h nx → Q .next { s with heap := h, toks := tk }) :
    LoopAtV prog w A h₀ env x body Q NoE (.ref I) s := by
  refine ⟨I, fp, [I], n, P, St, m₀, news, (fun i m nx => ∃ c, HasAll m (ps c) ∧ J i c nx), rfl, W, hLf, ?_, ?_, hst, F, N, h0, ?_, ?_⟩
  · intro b hb; rw [List.mem_singleton.mp hb]; exact hI
  · intro p hp hm; exact hnw p hp (List.mem_singleton.mp hm)
  · rintro i v m₁ nx s₁ own ⟨h, tk, rfl⟩ hi hP ⟨c, hc, hJ'⟩ hoff hown _ hmem hst' F₁ N₁
    obtain ⟨oI, hoI⟩ := hIs _ _ hst'
    have hIfp : I ∈ fp := W.sub _ (List.mem_singleton.mpr rfl)
    have hIo : (I, oI) ∈ own := hmem I hIfp hI oI hoI
    have F₂ : Fr h₀ env.locals h (fun y => if y = x then some v else kstB m₁ (ps c) y) := by rw [kst_all hc]; exact F₁
    refine wpAny_mono (turn i v c m₁ nx own h tk hi hP hJ' (fun p hp e => hoff p hp (List.mem_singleton.mpr e)) ⟨oI, hIo⟩ hown F₂ N₁) (fun f s₂ q => ?_) fun _ _ q => q.elim
    obtain ⟨rfl, h', tk', m', c', nx', rfl, F', N', hI', hc', hJ''⟩ := q
    refine .next ⟨rfl, h', tk', m', nx', rfl, F', N', fun p hp hm => hI' p hp (List.mem_singleton.mp hm), c', hc', hJ''⟩
  · rintro h' tk m' nx F' N' hoff ⟨c, hc, hJ'⟩
    refine done c m' nx h' tk hJ' (fun p hp e => hoff p hp (List.mem_singleton.mpr e)) ?_ N'
    rw [kst_all hc]; exact F'

theorem new_not {L : Addr} {h : Heap} {m : Str → Option Value} (F : Fr h₀ L h m) : h₀.get? h.objs.size = none := by
  cases e : h₀.get? h.objs.size with
  | none => rfl
  | some o => exact absurd (Heap.lt_size (F.keep _ _ e)) (Nat.lt_irrefl _)

theorem iter_range {σ : Type} {r : Addr} {a b c : Int} {t u v : Tok} {n : Nat} {m₀ : Str → Option Value} {news : List (Addr × Obj)}
    (ps : σ → List (Str × Value)) (J : Nat → σ → List (Addr × Obj) → Prop)
    (hh : A.handled = none) (hr : IsRange s.heap r a b c t u v) (hsmall : Builtin.Range.small a b c = true) (hn : Builtin.Range.rangeSize a b c = (n : Int))
    (F : Fr h₀ env.locals s.heap m₀) (N : News h₀ env.locals s.heap news) (h0 : ∃ c₀, HasAll m₀ (ps c₀) ∧ J 0 c₀ news)
    (turn : ∀ I i v e u nx own h tk, s.heap.objs.size = I → i < n → (∃ t, v = .int (a + (i : Int) * c) t) → J i e nx → (∀ p ∈ nx, p.1 ≠ I) → (∃ o, (I, o) ∈ own) → (∀ p ∈ own, p.1 = I) →
      Fr h₀ env.locals h (fun y => if y = x then some v else kstB u (ps e) y) → News h₀ env.locals h (own ++ nx) →
      wpAny (model prog w) A (execs body env) (fun f s₂ => f = .next ∧ TurnEnd h₀ env.locals I own ps (J (i + 1)) { s with heap := h, toks := tk } s₂) NoE { s with heap := h, toks := tk })
    (done : ∀ e u nx h tk, J n e nx → Fr h₀ env.locals h (kstB u (ps e)) → News h₀ env.locals h nx → Q .next { s with heap := h, toks := tk }) :
    wpAny (model prog w) A (pyIter (.ref r)) (fun it s₂ => LoopAtV prog w A h₀ env x body Q NoE it s₂) NoE s := by
  refine wpAny_pyIter_range hr hsmall ?_
  refine loop_core (fp := [s.heap.objs.size]) ps J (Walks.range hh s.heap.objs.size a c n) ?_ (new_not F) ?_ ?_ ?_ (F.push _) (fun p hp => ⟨Heap.get?_push_of_some _ (N p hp).1, (N p hp).2⟩) h0 ?_ ?_
  · intro hm; exact Nat.lt_irrefl _ ((List.mem_singleton.mp hm) ▸ F.ns.lt)
  · intro p hp e; exact Nat.lt_irrefl _ (e ▸ Heap.lt_size (N p hp).1)
  · show IsRangeIter _ _ _ _ _
    rw [hn]
    have e1 : a + ((0 : Nat) : Int) * c = a := by simp
    have e2 : (n : Int) - ((0 : Nat) : Int) = n := by simp
    rw [e1, e2]
    exact Heap.get?_push_size _ rfl
  · intro i h hst; exact ⟨_, hst⟩
  · intro i v c u nx own h tk hi hv hJ' hoff hIo hown F' N'
    exact turn _ i v c u nx own h tk rfl hi hv hJ' hoff hIo (fun p hp => List.mem_singleton.mp (hown p hp)) F' N'
  · intro c u nx h tk hJ' _ F' N'
    exact done c u nx h tk hJ' F' N'

theorem iter_list {σ : Type} {l : Addr} {items : List Value} {m₀ : Str → Option Value} {news : List (Addr × Obj)}
    (ps : σ → List (Str × Value)) (J : Nat → σ → List (Addr × Obj) → Prop)
    (hh : A.handled = none) (hl : s.heap.IsList l items.toArray) (hlL : l ≠ env.locals)
    (F : Fr h₀ env.locals s.heap m₀) (N : News h₀ env.locals s.heap news) (h0 : ∃ c₀, HasAll m₀ (ps c₀) ∧ J 0 c₀ news)
    (turn : ∀ I i v c u nx own h tk, s.heap.objs.size = I → items[i]? = some v → J i c nx → (∀ p ∈ nx, p.1 ≠ I) → (∃ o, (I, o) ∈ own) → (∀ p ∈ own, p.1 = I ∨ p.1 = l) →
      Fr h₀ env.locals h (fun y => if y = x then some v else kstB u (ps c) y) → News h₀ env.locals h (own ++ nx) →
      wpAny (model prog w) A (execs body env) (fun f s₂ => f = .next ∧ TurnEnd h₀ env.locals I own ps (J (i + 1)) { s with heap := h, toks := tk } s₂) NoE { s with heap := h, toks := tk })
    (done : ∀ c u nx h tk, J items.length c nx → Fr h₀ env.locals h (kstB u (ps c)) → News h₀ env.locals h nx → Q .next { s with heap := h, toks := tk }) :
    wpAny (model prog w) A (pyIter (.ref l)) (fun it s₂ => LoopAtV prog w A h₀ env x body Q NoE it s₂) NoE s := by
  obtain ⟨ol, hol, hol'⟩ := id hl
  have hne : l ≠ s.heap.objs.size := Nat.ne_of_lt (Heap.lt_size hol)
  refine wpAny_pyIter_list hl ?_
  have W := Walks.list (prog := prog) (w := w) hh s.heap.objs.size l hne items.toArray
  rw [List.size_toArray] at W
  refine loop_core (fp := [s.heap.objs.size, l]) ps J W ?_ (new_not F) ?_ ?_ ?_ (F.push _) (fun p hp => ⟨Heap.get?_push_of_some _ (N p hp).1, (N p hp).2⟩) h0 ?_ ?_
  · intro hm
    rcases List.mem_cons.mp hm with e | hm
    · exact Nat.lt_irrefl _ (e ▸ F.ns.lt)
    · exact hlL (List.mem_singleton.mp hm).symm
  · intro p hp e; exact Nat.lt_irrefl _ (e ▸ Heap.lt_size (N p hp).1)
  · exact ⟨⟨_, Heap.get?_push_size _ rfl, rfl, rfl⟩, hl.at fun o e => Heap.get?_push_of_some _ e⟩
  · intro i h hst
    obtain ⟨⟨o, ho, _⟩, _⟩ := hst
    exact ⟨o, ho⟩
  · intro i v c u nx own h tk hi hv hJ' hoff hIo hown F' N'
    refine turn _ i v c u nx own h tk rfl (by simpa using hv) hJ' hoff hIo (fun p hp => ?_) F' N'
    rcases List.mem_cons.mp (hown p hp) with e | e
    · exact .inl e
    · exact .inr (List.mem_singleton.mp e)
  · intro c u nx h tk hJ' _ F' N'
    exact done c u nx h tk hJ' F' N'
end

/-- the frame and the ledger behind a call that keeps all -/
theorem grow {h₀ h h' : Heap} {L : Addr} {m : Str → Option Value} {news tl : List (Addr × Obj)} (F : Fr h₀ L h m) (N : News h₀ L h news)
    (k : ∀ b o, h.get? b = some o → h'.get? b = some o) (ht : ∀ p ∈ tl, h'.get? p.1 = some p.2 ∧ h.get? p.1 = none) :
    Fr h₀ L h' m ∧ News h₀ L h' (news ++ tl) ∧ ∀ p ∈ tl, ∀ q ∈ news, p.1 ≠ q.1 := by
  refine ⟨F.keeps k, fun p hp => ?_, fun p hp q hq e => ?_⟩
  · rcases List.mem_append.mp hp with hp | hp
    · exact ⟨k _ _ (N p hp).1, (N p hp).2⟩
    · refine ⟨(ht p hp).1, fun e => ?_, ?_⟩
      · obtain ⟨o, _, _, ho, _⟩ := F.ns
        have := (ht p hp).2
        rw [e, ho] at this; cases this
      · cases e : h₀.get? p.1 with
        | none => rfl
        | some o =>
          have h1 := F.keep _ _ e
          have := (ht p hp).2
          rw [h1] at this; cases this
  · have h1 := (N q hq).1
    have := (ht p hp).2
    rw [e, h1] at this; cases this

section
variable {prog : Program} {w : World} {A : Around} {s : Shared} {env : Env} {h₀ : Heap} {Q : Flow → Shared → Prop}
theorem while_rule {σ : Type} {test : Expr} {body : List Stmt} {pos : Pos} {m₀ : Str → Option Value} {news : List (Addr × Obj)}
    (ps : σ → List (Str × Value)) (J : Nat → σ → List (Addr × Obj) → Prop)
    (F : Fr h₀ env.locals s.heap m₀) (N : News h₀ env.locals s.heap news) (h0 : ∃ n c, HasAll m₀ (ps c) ∧ J n c news)
    (turn : ∀ n c u nx h tk, J n c nx → Fr h₀ env.locals h (kstB u (ps c)) → News h₀ env.locals h nx →
      wpAny (model prog w) A (isTrue test env (eval test env)) (fun b s₂ => if b = true then
        wpAny (model prog w) A (execs body env) (fun f s₃ => f = .next ∧ ∃ h' tk' m' c' nx' n', s₃ = { s with heap := h', toks := tk' } ∧ n' < n ∧ Fr h₀ env.locals h' m' ∧ News h₀ env.locals h' nx' ∧ HasAll m' (ps c') ∧ J n' c' nx') NoE s₂
        else Q .next s₂) NoE { s with heap := h, toks := tk }) :
    wpAny (model prog w) A (exec (.While test body [] pos) env) Q NoE s := by
  obtain ⟨n, c, hc, hJ⟩ := h0
  refine wpAny_While (codeAny_whileLoop (fun n s' => ∃ h tk m c nx, s' = { s with heap := h, toks := tk } ∧ Fr h₀ env.locals h m ∧ News h₀ env.locals h nx ∧ HasAll m (ps c) ∧ J n c nx) ?_ n ⟨s.heap, s.toks, m₀, c, news, rfl, F, N, hc, hJ⟩)
  rintro n s' ⟨h, tk, m, c, nx, rfl, F₁, N₁, hc₁, hJ₁⟩
  have F₂ : Fr h₀ env.locals h (kstB m (ps c)) := by rw [kst_all hc₁]; exact F₁
  refine wpAny_mono (turn n c m nx h tk hJ₁ F₂ N₁) (fun b s₂ h₂ => ?_) fun _ _ e => e.elim
  cases b with
  | false =>
    simp only [Bool.false_eq_true, if_false] at h₂ ⊢
    exact wpAny_execs_nil h₂
  | true =>
    simp only [if_true] at h₂ ⊢
    refine wpAny_mono h₂ (fun f s₃ h₃ => ?_) fun _ _ e => e.elim
    obtain ⟨rfl, h', tk', m', c', nx', n', rfl, hn, F', N', hc', hJ'⟩ := h₃
    exact ⟨n', hn, h', tk', m', c', nx', rfl, F', N', hc', hJ'⟩
end
end Mine
end
section
open PySem PySem.W PyProof.Rows PySem.Calls PySem.Spec
set_option maxRecDepth 100000
set_option maxHeartbeats 8000000
namespace Mine
/-- a place where the walk waits for a hand -/
def Stop (P : Prop) : Prop := P
theorem Stop.of {P : Prop} (h : Stop P) : P := h
theorem Stop.mk {P : Prop} (h : P) : Stop P := h

theorem mulOk {a b : Int} {m n : Nat} (ha : a.natAbs < 2 ^ m) (hb : b.natAbs < 2 ^ n) (h : m + n ≤ 134217728) : IntMulOk a b :=
  IntMulOk.of_le (intBits_le_iff.mpr ha) (intBits_le_iff.mpr hb) h

def bigP : List Nat → Nat
  | [] => 1
  | k :: r => max 1 k * bigP r
theorem bigP_pos : ∀ ks, 1 ≤ bigP ks
  | [] => Nat.le_refl _
  | k :: r => Nat.mul_le_mul (Nat.le_max_left 1 k) (bigP_pos r)
theorem bigP_append : ∀ a b, bigP (a ++ b) = bigP a * bigP b
  | [], b => by simp [bigP]
  | k :: r, b => by simp [bigP, bigP_append r b, Nat.mul_assoc]
theorem bigP_take_le (ks : List Nat) (i : Nat) : bigP (ks.take i) ≤ bigP ks := by
  have h := bigP_append (ks.take i) (ks.drop i)
  rw [List.take_append_drop] at h
  rw [h]
  exact Nat.le_mul_of_pos_right _ (bigP_pos _)
theorem bigP_drop_le (ks : List Nat) (i : Nat) : bigP (ks.drop i) ≤ bigP ks := by
  have h := bigP_append (ks.take i) (ks.drop i)
  rw [List.take_append_drop] at h
  rw [h]
  exact Nat.le_mul_of_pos_left _ (bigP_pos _)
def prodN : List Nat → Nat
  | [] => 1
  | k :: r => k * prodN r
theorem prodN_append : ∀ a b, prodN (a ++ b) = prodN a * prodN b
  | [], b => by simp [prodN]
  | k :: r, b => by simp [prodN, prodN_append r b, Nat.mul_assoc]
theorem prodN_le_bigP : ∀ ks, prodN ks ≤ bigP ks
  | [] => Nat.le_refl _
  | k :: r => Nat.mul_le_mul (Nat.le_max_right 1 k) (prodN_le_bigP r)
theorem mem_le_bigP : ∀ {ks : List Nat} {k : Nat}, k ∈ ks → k ≤ bigP ks
  | a :: r, k, h => by
    rcases List.mem_cons.mp h with rfl | h
    · exact Nat.le_trans (Nat.le_max_right 1 k) (Nat.le_mul_of_pos_right _ (bigP_pos _))
    · exact Nat.le_trans (mem_le_bigP h) (Nat.le_mul_of_pos_left _ (Nat.le_max_left 1 a))
theorem prodN_take_succ {ks : List Nat} {i k : Nat} (h : ks[i]? = some k) : prodN (ks.take (i + 1)) = prodN (ks.take i) * k := by
  rw [List.take_add_one, h, prodN_append]; simp [prodN]

theorem not_local {h₀ h : Heap} {L l : Addr} {m : Str → Option Value} {items : Array Value} (F : Fr h₀ L h m) (hl : h₀.IsList l items) : l ≠ L := by
  obtain ⟨o, ho, _⟩ := hl
  exact Nat.ne_of_lt (Nat.lt_of_lt_of_le (Heap.lt_size ho) F.above)

abbrev castZ (ks : List Nat) : List Int := ks.map (fun k => ((k : Nat) : Int))

theorem natAt {vs : List Value} {ks : List Nat} (hi : IntsAre vs (castZ ks)) {i : Nat} {v : Value} (hv : vs[i]? = some v) : ∃ (k : Nat) (t : Tok), v = .int ((k : Nat) : Int) t ∧ ks[i]? = some k := by
  obtain ⟨n, t, rfl, hn⟩ := hi.at i v hv
  rw [List.getElem?_map] at hn
  obtain ⟨k, hk, rfl⟩ := Option.map_eq_some_iff.mp hn
  exact ⟨k, t, rfl, hk⟩

local macro_rules | `(tactic| walk_at "pyIter ref") => `(tactic| ((with_reducible show wpAny _ _ (pyIter (Value.ref _)) _ _ _); refine Stop.of ?_))
local macro_rules | `(tactic| walk_at "call ref") => `(tactic| (refine Stop.of ?_))
local macro_rules | `(tactic| walk_at "exec For") => `(tactic| (refine Stop.of ?_))
local macro_rules | `(tactic| walk_at "exec For Name Name cons nil") => `(tactic| (refine Stop.of ?_))
local macro_rules | `(tactic| walk_at "exec For Name Call cons nil") => `(tactic| (refine Stop.of ?_))
local macro_rules | `(tactic| ktr_unf) => `(tactic| (w_top off; repeat' (first | ((with_reducible show wpAny _ _ _ _ _ _); walk1) | ((with_reducible show ite _ _ _); walk1) | (dsimp only; (with_reducible show wpAny _ _ _ _ _ _); walk1) | (dsimp only; (with_reducible show ite _ _ _); walk1))))

theorem c_product {w : World} {A : Around} {s : Shared} {mean : ExcName → Option Value} {mg mb : Str → Option Value} {a : Addr} {vs : List Value} {ks : List Nat}
    (X : (Mine.hd.heap_39 w.params).In s.heap) (T : Top Mine.hd.view_39 (looseW Mine.hd.view_39 []) mean mg mb s.heap)
    (hA : A.handled = none) (hd : A.depth < 900)
    (hl : s.heap.IsList a vs.toArray) (hi : IntsAre vs (castZ ks)) (hb : bigP ks < 2 ^ 1000) :
    wpAny (model PySem.Challenge.rw_rr0052_01.row.prog w) A (call (.ref 89) [.ref a] []) (fun r s' => (∃ t, r = .int ((prodN ks : Nat) : Int) t) ∧ Keeps s s') NoE s := by
  revert X; k_fill; intro X
  k_dflt (refine' enter (K := Mine.hd.heap_39 w.params) (binds := [(Str.ofString "some", .ref a)]) X T.nolimit ?k6 ?k7 ?k8 ?k9 ?kB ?_ ?c2 ?c3 ?c4 ?c5; (case k6 => k_is); (case k7 => k_is); (case k9 => exact BindsTo.of_eq rfl); (case kB => exact locs rfl); (case c2 => exact rfl); (case c3 => exact rfl); (case c4 => exact rfl); (case c5 => decide); (case k8 => (simp only [recursionLimit]; omega)))
  intro L h₁ F
  have N : News s.heap L h₁ [] := News.nil
  ktr_unf
  refine Stop.mk ?_
  refine For_invV s.heap (by rfl) (by rfl) ?_ (hE := PassesOwn.never)
  ktr_unf
  refine Stop.mk ?_
  have hlen : vs.length = ks.length := by rw [hi.length, List.length_map]
  rename Fr _ _ _ _ => F1
  rename News _ _ _ _ => N1
  refine' iter_list (items := vs) (news := []) (fun c : Value => [(Str.ofString "found", c)]) (fun i c nx => nx = [] ∧ ∃ t, c = .int ((prodN (ks.take i) : Nat) : Int) t) hA (hl.at fun o e => F1.keep a o e) ?hlL F1 N1 ?h0 ?turn ?done
  case h0 => exact ⟨_, ⟨rfl, trivial⟩, rfl, _, rfl⟩
  case hlL => exact (not_local F1 hl)
  case turn =>
    rintro I i v c u nx own h tk hI hv ⟨rfl, t, rfl⟩ hoff hIo hown F2 N2
    obtain ⟨k, tt, rfl, hk⟩ := natAt hi hv
    have hm : IntMulOk ((prodN (ks.take i) : Nat) : Int) ((k : Nat) : Int) := by
      refine mulOk (m := 1000) (n := 1000) ?_ ?_ (by decide)
      · rw [Int.natAbs_natCast]; exact Nat.lt_of_le_of_lt (Nat.le_trans (prodN_le_bigP _) (bigP_take_le _ _)) hb
      · rw [Int.natAbs_natCast]; exact Nat.lt_of_le_of_lt (mem_le_bigP (List.mem_of_getElem? hk)) hb
    ktr_unf
    rename Fr _ _ _ _ => F3
    rename News _ _ _ _ => N3
    refine ⟨rfl, _, _, _, _, [], rfl, F3, N3, fun p hp => (by cases hp), ⟨rfl, trivial⟩, rfl, ?_⟩
    exact ⟨_, by rw [prodN_take_succ hk, Int.natCast_mul]⟩
  case done =>
    rintro c u nx h tk ⟨rfl, t, rfl⟩ F2 N2
    ktr_unf
    exact ⟨⟨_, by rw [hlen, List.take_length]⟩, _, _, rfl, F2.keep⟩
end Mine
end
section
open PySem PySem.W PyProof.Rows PySem.Calls PySem.Spec
set_option maxRecDepth 100000
set_option maxHeartbeats 8000000
namespace Mine

def limbs (b n : Nat) : List Nat := if _h : 2 ≤ b ∧ 0 < n then (n % b) :: limbs b (n / b) else []
termination_by n
decreasing_by exact Nat.div_lt_self _h.2 _h.1

theorem limbs_zero (b : Nat) : limbs b 0 = [] := by rw [limbs]; simp
theorem limbs_pos {b n : Nat} (hb : 2 ≤ b) (hn : 0 < n) : limbs b n = (n % b) :: limbs b (n / b) := by rw [limbs]; simp [hb, hn]
theorem limbs_len {b : Nat} (hb : 2 ≤ b) : ∀ (m n : Nat), n < 2 ^ m → (limbs b n).length ≤ m
  | m, n, h => by
    by_cases hn : 0 < n
    · rw [limbs_pos hb hn, List.length_cons]
      cases m with
      | zero => omega
      | succ m =>
        have h1 : n / b ≤ n / 2 := Nat.div_le_div_left hb (by decide)
        have h2 : n / 2 < 2 ^ m := by rw [Nat.pow_succ] at h; omega
        have := limbs_len hb m (n / b) (Nat.lt_of_le_of_lt h1 h2)
        omega
    · have : n = 0 := by omega
      rw [this, limbs_zero]; exact Nat.zero_le _

abbrev SP := Addr → Obj → Prop
def IsL (S : SP) (a : Addr) (vs : List Value) : Prop := ∃ o, S a o ∧ o.cls = .type "list" ∧ ∃ n, o.data = .seq vs.toArray n
def AllR {α : Type} (R : Value → α → Prop) (vs : List Value) (ks : List α) : Prop := vs.length = ks.length ∧ ∀ (i : Nat) (v : Value) (k : α), vs[i]? = some v → ks[i]? = some k → R v k
def NumV (S : SP) (b : Nat) (v : Value) (k : Nat) : Prop := ∃ a vs, v = .ref a ∧ IsL S a vs ∧ IntsAre vs (castZ (limbs b k))
def NumsV (S : SP) (b : Nat) (v : Value) (ks : List Nat) : Prop := ∃ a vs, v = .ref a ∧ IsL S a vs ∧ AllR (NumV S b) vs ks
def LevsV (S : SP) (b : Nat) (v : Value) (kss : List (List Nat)) : Prop := ∃ a vs, v = .ref a ∧ IsL S a vs ∧ AllR (NumsV S b) vs kss

theorem IsL.mono {S S' : SP} {a : Addr} {vs : List Value} (h : IsL S a vs) (hs : ∀ a o, S a o → S' a o) : IsL S' a vs := let ⟨o, h1, h2⟩ := h; ⟨o, hs _ _ h1, h2⟩
theorem AllR.mono {α : Type} {R R' : Value → α → Prop} {vs : List Value} {ks : List α} (h : AllR R vs ks) (hs : ∀ v k, R v k → R' v k) : AllR R' vs ks := ⟨h.1, fun i v k a b => hs _ _ (h.2 i v k a b)⟩
theorem NumV.mono {S S' : SP} {b : Nat} {v : Value} {k : Nat} (h : NumV S b v k) (hs : ∀ a o, S a o → S' a o) : NumV S' b v k := let ⟨a, vs, h1, h2, h3⟩ := h; ⟨a, vs, h1, h2.mono hs, h3⟩
theorem NumsV.mono {S S' : SP} {b : Nat} {v : Value} {k : List Nat} (h : NumsV S b v k) (hs : ∀ a o, S a o → S' a o) : NumsV S' b v k := let ⟨a, vs, h1, h2, h3⟩ := h; ⟨a, vs, h1, h2.mono hs, h3.mono fun _ _ x => x.mono hs⟩
theorem LevsV.mono {S S' : SP} {b : Nat} {v : Value} {k : List (List Nat)} (h : LevsV S b v k) (hs : ∀ a o, S a o → S' a o) : LevsV S' b v k := let ⟨a, vs, h1, h2, h3⟩ := h; ⟨a, vs, h1, h2.mono hs, h3.mono fun _ _ x => x.mono hs⟩
theorem IsL.heap {S : SP} {h : Heap} {a : Addr} {vs : List Value} (x : IsL S a vs) (hs : ∀ a o, S a o → h.get? a = some o) : h.IsList a vs.toArray := let ⟨o, h1, h2⟩ := x; ⟨o, hs _ _ h1, h2⟩

theorem AllR.nil {α : Type} {R : Value → α → Prop} : AllR R [] ([] : List α) := ⟨rfl, fun i v k h => by simp at h⟩
theorem AllR.append {α : Type} {R : Value → α → Prop} {vs ws : List Value} {ks js : List α} (h : AllR R vs ks) (h' : AllR R ws js) : AllR R (vs ++ ws) (ks ++ js) := by
  refine ⟨by rw [List.length_append, List.length_append, h.1, h'.1], fun i v k hv hk => ?_⟩
  by_cases hi : i < vs.length
  · rw [List.getElem?_append_left hi] at hv
    rw [List.getElem?_append_left (h.1 ▸ hi)] at hk
    exact h.2 i v k hv hk
  · rw [List.getElem?_append_right (Nat.le_of_not_lt hi)] at hv
    rw [List.getElem?_append_right (h.1 ▸ Nat.le_of_not_lt hi), ← h.1] at hk
    exact h'.2 _ v k hv hk
theorem AllR.one {α : Type} {R : Value → α → Prop} {v : Value} {k : α} (h : R v k) : AllR R [v] [k] := by
  refine ⟨rfl, fun i v' k' hv hk => ?_⟩
  cases i with
  | zero => simp at hv hk; subst hv; subst hk; exact h
  | succ i => simp at hv
theorem AllR.take {α : Type} {R : Value → α → Prop} {vs : List Value} {ks : List α} (h : AllR R vs ks) (n : Nat) : AllR R (vs.take n) (ks.take n) := by
  refine ⟨by rw [List.length_take, List.length_take, h.1], fun i v k hv hk => ?_⟩
  rw [List.getElem?_take] at hv hk
  by_cases hi : i < n
  · rw [if_pos hi] at hv hk; exact h.2 i v k hv hk
  · rw [if_neg hi] at hv; cases hv
theorem AllR.drop {α : Type} {R : Value → α → Prop} {vs : List Value} {ks : List α} (h : AllR R vs ks) (n : Nat) : AllR R (vs.drop n) (ks.drop n) := by
  refine ⟨by rw [List.length_drop, List.length_drop, h.1], fun i v k hv hk => ?_⟩
  rw [List.getElem?_drop] at hv hk
  exact h.2 _ v k hv hk
theorem AllR.at {α : Type} {R : Value → α → Prop} {vs : List Value} {ks : List α} (h : AllR R vs ks) {i : Nat} (hi : i < ks.length) : ∃ v, vs[i]? = some v ∧ R v ks[i] := by
  have hv : i < vs.length := h.1 ▸ hi
  exact ⟨vs[i], List.getElem?_eq_getElem hv, h.2 i _ _ (List.getElem?_eq_getElem hv) (List.getElem?_eq_getElem hi)⟩

theorem powZ (k : Nat) : (2 : Int) ^ ((k : Nat) : Int).toNat = ((2 ^ k : Nat) : Int) := by rw [Int.toNat_natCast, Int.natCast_pow]; rfl
theorem fmodZ (n b : Nat) : ((n : Nat) : Int).fmod ((b : Nat) : Int) = ((n % b : Nat) : Int) := by rw [Int.fmod_eq_emod_of_nonneg _ (Int.natCast_nonneg b)]; exact (Int.natCast_emod n b).symm
theorem fdivZ (n b : Nat) : ((n : Nat) : Int).fdiv ((b : Nat) : Int) = ((n / b : Nat) : Int) := by rw [Int.fdiv_eq_ediv_of_nonneg _ (Int.natCast_nonneg b)]; exact (Int.natCast_ediv n b).symm
theorem castZ_append (a b : List Nat) : castZ (a ++ b) = castZ a ++ castZ b := List.map_append
theorem two_le_pow {wn : Nat} (hw : 2 ≤ wn) : 2 ≤ 2 ^ wn := Nat.le_trans (by decide : 2 ≤ 2 ^ 1) (Nat.pow_le_pow_right (by decide) (by omega))
/-- what a call of the text's that keeps all hands back -/
def Res (S : SP) (s s' : Shared) (R : SP → Prop) : Prop :=
  ∃ (h' : Heap) (tk : Nat) (tl : List (Addr × Obj)), s' = { s with heap := h', toks := tk } ∧ (∀ b o, s.heap.get? b = some o → h'.get? b = some o) ∧ (∀ p ∈ tl, h'.get? p.1 = some p.2 ∧ s.heap.get? p.1 = none) ∧ R (fun a o => S a o ∨ (a, o) ∈ tl)
end Mine
end
section
open PySem PySem.W PyProof.Rows PySem.Calls PySem.Spec
set_option maxRecDepth 100000
set_option maxHeartbeats 8000000
namespace Mine
local macro_rules | `(tactic| walk_at "pad") => `(tactic| fail "pad")
local macro_rules | `(tactic| walk_at "pyIter ref") => `(tactic| ((with_reducible show wpAny _ _ (pyIter (Value.ref _)) _ _ _); refine Stop.of ?_))
local macro_rules | `(tactic| walk_at "call ref") => `(tactic| (refine Stop.of ?_))
local macro_rules | `(tactic| walk_at "exec For Name Name cons nil") => `(tactic| (refine Stop.of ?_))
local macro_rules | `(tactic| walk_at "exec For Name Call cons nil") => `(tactic| (refine Stop.of ?_))
local macro_rules | `(tactic| walk_at "exec While Compare cons nil") => `(tactic| (refine Stop.of ?_))
local macro_rules | `(tactic| ktr_unf) => `(tactic| (w_top off; repeat' (first | ((with_reducible show wpAny _ _ _ _ _ _); walk1) | ((with_reducible show ite _ _ _); walk1) | (dsimp only; (with_reducible show wpAny _ _ _ _ _ _); walk1) | (dsimp only; (with_reducible show ite _ _ _); walk1))))

theorem c_limbs {w : World} {A : Around} {s : Shared} {mean : ExcName → Option Value} {mg mb : Str → Option Value} {S : SP} {n wn : Nat} {t tw : Tok}
    (X : (Mine.hd.heap_39 w.params).In s.heap) (T : Top Mine.hd.view_39 (looseW Mine.hd.view_39 []) mean mg mb s.heap)
    (hA : A.handled = none) (hd : A.depth < 900) (hn : n < 2 ^ 1000) (hw : 2 ≤ wn) (hw7 : wn ≤ 7) :
    wpAny (model PySem.Challenge.rw_rr0052_01.row.prog w) A (call (.ref 63) [.int ((n : Nat) : Int) t, .int ((wn : Nat) : Int) tw] []) (fun r s' => Res S s s' fun S' => NumV S' (2 ^ wn) r n) NoE s := by
  revert X; k_fill; intro X
  k_dflt (refine' enter (K := Mine.hd.heap_39 w.params) (binds := [(Str.ofString "number", .int ((n : Nat) : Int) t), (Str.ofString "w", .int ((wn : Nat) : Int) tw)]) X T.nolimit ?k6 ?k7 ?k8 ?k9 ?kB ?_ ?c2 ?c3 ?c4 ?c5; (case k6 => k_is); (case k7 => k_is); (case k9 => exact BindsTo.of_eq rfl); (case kB => exact locs rfl); (case c2 => exact rfl); (case c3 => exact rfl); (case c4 => exact rfl); (case c5 => decide); (case k8 => (simp only [recursionLimit]; omega)))
  intro L h₁ F
  have N : News s.heap L h₁ [] := News.nil
  ktr_unf
  refine Stop.mk ?_
  rename Fr _ _ _ _ => F1
  rename News _ _ _ _ => N1
  rename_i d _ _ _
  refine while_rule (fun c : Value => [(Str.ofString "number", c), (Str.ofString "w", .int ((wn : Nat) : Int) tw), (Str.ofString "found", .ref d)])
    (fun n' c nx => ∃ (k : Nat) (tk : Tok) (pre : List Nat) (vs : List Value) (cnt : Nat), c = .int ((k : Nat) : Int) tk ∧ nx = [(d, W.listOf vs.toArray cnt)] ∧ IntsAre vs (castZ pre) ∧ pre ++ limbs (2 ^ wn) k = limbs (2 ^ wn) n ∧ n' = k ∧ k ≤ n)
    F1 N1 ⟨_, _, ⟨rfl, rfl, rfl, trivial⟩, n, _, [], [], _, rfl, rfl, .nil, rfl, rfl, Nat.le_refl _⟩ ?_
  rintro n' c u nx h tk ⟨k, tk', pre, vs, cnt, rfl, rfl, hi, hpre, rfl, hkn⟩ F2 N2
  have hb2 := two_le_pow hw
  have hlen := limbs_len hb2 1000 n hn
  have hpl : pre.length ≤ 1000 := by rw [← hpre, List.length_append] at hlen; omega
  have hvl : vs.length = pre.length := by rw [hi.length, List.length_map]
  have hsz : vs.toArray.size ≤ sizeLine := by rw [List.size_toArray, hvl, sizeLine_eq]; omega
  clear F1 N1
  ktr_unf
  · rename Fr _ _ _ _ => F3
    rename News _ _ _ _ => N3
    rename (0 : Int) < _ => hpos
    have hpos' : 0 < n' := Int.natCast_pos.mp hpos
    rw [limbs_pos hb2 hpos'] at hpre
    simp only [powZ, fmodZ, fdivZ, List.push_toArray] at F3 N3
    refine ⟨rfl, _, _, _, _, _, n' / 2 ^ wn, rfl, Nat.div_lt_self hpos' hb2, F3, N3, ⟨rfl, rfl, rfl, trivial⟩, n' / 2 ^ wn, _, pre ++ [n' % 2 ^ wn], _, _, rfl, rfl, ?_, ?_, rfl, ?_⟩
    · rw [castZ_append]; exact hi.append (.cons _ _ .nil)
    · rw [List.append_assoc]; exact hpre
    · exact Nat.le_trans (Nat.div_le_self _ _) hkn
  · rename ¬ (0 : Int) < _ => hpos
    have h0 : n' = 0 := by omega
    subst h0
    rw [limbs_zero, List.append_nil] at hpre
    subst hpre
    refine ⟨_, _, [(d, W.listOf vs.toArray cnt)], rfl, F2.keep, ?_, d, vs, rfl, ⟨_, .inr (List.mem_singleton.mpr rfl), rfl, _, rfl⟩, hi⟩
    intro p hp
    exact ⟨(N2 p hp).1, (N2 p hp).2.2⟩
end Mine
end
section
open PySem PySem.W PyProof.Rows PySem.Calls PySem.Spec
set_option maxRecDepth 100000
set_option maxHeartbeats 8000000
namespace Mine

theorem enterC {prog : Program} {w : World} {A : Around} {E : Value → Shared → Prop} {s : Shared} {K : Frag} {name qual : Str} {params : Arguments} {body : List Stmt} {scope : Scope} {dV kV doc pm cdv ct oc : Value} {an od : Option Addr} {osl : Array (Option Value)} {f : Addr} {pos : List Value} {kw : List (Str × Value)} {binds : List (Str × Value)} {Q : Value → Shared → Prop}
    (X : K.In s.heap) (hlim : s.heap.NoLimit)
    (ho : K.lookup f = some ⟨oc, od, .func (fnOf name qual params body scope dV kV doc pm an cdv ct), osl⟩) (hcd : codeIn K cdv qual = true) (hroom : A.depth < recursionLimit)
    (hbind : BindsTo s (fnOf name qual params body scope dV kV doc pm an cdv ct) ⟨pos, kw⟩ binds)
    (hkind : (binds.all fun y => scope.names.lookup y.1 == some .local || scope.names.lookup y.1 == some .cell) = true)
    (hnd : ((cellsFrom 0 scope.names []).map (·.1)).Nodup)
    (h : ∀ L h₁ tk cells, Fr s.heap L h₁ (bindL (envOfC qual scope L f cdv).kindOf binds fun _ => none) → News s.heap L h₁ cells →
      CellsAre (bindC (envOfC qual scope L f cdv).kindOf binds fun _ => none) (cellsFrom (L + 1) scope.names []) cells →
      wpAny (model prog w) (A.deeper (envOfC qual scope L f cdv)) (execs body (envOfC qual scope L f cdv)) (fun fl s' => Q (match fl with | .ret v => v | _ => .none) s') NoE { s with heap := h₁, toks := tk })
    (hco : scope.isCoroutine = false) (hgen : scope.isGenerator = false) (hk : scope.kind = .function) :
    wpAny (model prog w) A (call (.ref f) pos kw) Q E s := by
  refine wpAny_call ?_
  refine codeAny_call_function hroom (X _ _ ho) rfl hco hgen rfl (codeRec_of X hcd) (hbind _ _ _ _ ?_)
  refine wpAny_newFunctionEnv_cells hk (kindsX hkind _) fun env' he s' x => ?_
  subst he
  refine ⟨hlim.keeps x.toInCall.keep, codeAny_func ?_⟩
  obtain ⟨h₁, tk, rfl, _⟩ := x.done
  obtain ⟨cells, NC, Y⟩ := Cl.news (h₀ := s.heap) (Nat.le_refl _) fun n c hm => ⟨x.cell n c (lookup_of_mem_nodup (cellsFrom_names scope.names 0 (s.heap.objs.size + 1) [] [] rfl ▸ hnd) hm), x.above n c hm⟩
  exact wpAny_mono (h s.heap.objs.size h₁ tk cells ⟨x.toInCall.ns, x.toInCall.keep, Nat.le_refl _⟩ NC Y) (fun _ _ q => q) fun _ _ q => q.elim
end Mine
end
section
open PySem PySem.W PyProof.Rows PySem.Calls PySem.Spec
open PyProof.Rows.LCg
set_option maxRecDepth 100000
set_option maxHeartbeats 4000000
namespace Mine
section
variable {prog : Program} {w : World} {A : Around} {s : Shared} {env : Env}

/-- a list comprehension over enumerate of a list, its element keeping all that stands -/
theorem comp_enum {elt iter : Expr} {xi xv : Str} {pi pv tp : Pos} {x1 : Nat} {scope : Scope} {cl : List (Str × Addr)} {pos : Pos} {s₂ : Shared} {e it l : Addr} {items : Array Value} {RR : Value → Addr → Result → Shared → Prop}
    (Fy : Nat → Value → Value → Prop)
    (hh : A.handled = none) (hei : e ≠ it) (hle : l ≠ e) (hli : l ≠ it) (hsz : items.size ≤ sizeLine)
    (he : IsEnum s₂.heap e it 0 .none) (hit : s₂.heap.IsListIter it l 0) (hl : s₂.heap.IsList l items)
    (hcell : ∀ y ∈ scope.names, y.2 ≠ .cell) (hkind : scope.kind = .function) (hxi : scope.names.lookup xi = some .local) (hxv : scope.names.lookup xv = some .local)
    (helt : ∀ (C : Addr) (i : Nat) (v : Value) (tk : Tok) (mC : Str → Option Value) (h : Heap) (tk' : Nat), s₂.heap.objs.size ≤ C → items[i]? = some v → h.Ns C (fun y => if y = xv then some v else if y = xi then some (.int (i : Nat) tk) else mC y) →
      (∀ b o, b ≠ e → b ≠ it → s₂.heap.get? b = some o → h.get? b = some o) →
      wpAny (model prog w) A (eval elt (compEnvC scope cl C env)) (fun y s₄ => Fy i v y ∧ Keeps { s₂ with heap := h, toks := tk' } s₄) NoE { s₂ with heap := h, toks := tk' })
    (hRR : ∀ (D C : Addr) (h : Heap) (tk : Nat) (mC : Str → Option Value) (ys : List Value), s₂.heap.get? D = none → s₂.heap.get? C = none → C ≠ D → h.Ns C mC → h.get? D = some (lst ys) → ys.length = items.size → (∀ (i : Nat) v y, items[i]? = some v → ys[i]? = some y → Fy i v y) →
      (∀ b o, b ≠ e → b ≠ it → s₂.heap.get? b = some o → h.get? b = some o) → RR (.ref D) C (.ok .next) { s₂ with heap := h, toks := tk }) :
    wpAny (model prog w) A (newList []) (fun acc s₃ => wpAny (model prog w) A (newFunctionEnv scope env.globals cl [] env.qual none .none (some env)) (fun cenv s₄ =>
      codeAny (model prog w) A (.compStart (.ListComp elt [⟨.Tuple [.Name xi pi, .Name xv pv] x1 tp, iter, [], 0⟩] scope pos) 0 (.ref e) acc { cenv with scope := relabel scope env }) (RR acc cenv.locals) s₄) NoE s₃) NoE s₂ := by
  refine wpAny_newObj_type (wpAny_newFunctionEnv hcell (by intro y hy; simp at hy) (fun h₁ hns₁ hsb₁ => ?_) hkind)
  dsimp only at hns₁ hsb₁ ⊢
  generalize hH2 : s₂.heap.push { cls := .type "list", dict := none, data := .seq ([] : List Value).toArray } = H2 at hns₁ hsb₁ ⊢
  have hC : H2.objs.size = s₂.heap.objs.size + 1 := by rw [← hH2, Heap.size_push]
  have hDC : s₂.heap.objs.size ≠ H2.objs.size := by rw [hC]; exact Nat.ne_of_lt (Nat.lt_succ_self _)
  have below : ∀ b, b < s₂.heap.objs.size → b ≠ H2.objs.size ∧ b ≠ s₂.heap.objs.size := fun b hb => ⟨by rw [hC]; exact Nat.ne_of_lt (Nat.lt_succ_of_lt hb), Nat.ne_of_lt hb⟩
  have old : ∀ b o, s₂.heap.get? b = some o → h₁.get? b = some o := fun b o x => hsb₁.extBut b o (below b (Heap.lt_size x)).1 (Heap.get?_push_of_some _ (hH2 ▸ Heap.get?_push_of_some _ x))
  have hacc : h₁.get? s₂.heap.objs.size = some (lst []) := hsb₁.extBut _ _ hDC (Heap.get?_push_of_some _ (hH2 ▸ Heap.get?_push_size _ rfl))
  have fresh : ∀ a, s₂.heap.objs.size ≤ a → s₂.heap.get? a = none := fun a ha => by
    cases x : s₂.heap.get? a with
    | none => rfl
    | some o' => exact absurd (Heap.lt_size x) (Nat.not_lt.mpr ha)
  have helt' : e < s₂.heap.objs.size := Heap.lt_size he
  have hitlt : it < s₂.heap.objs.size := by obtain ⟨_, x, _⟩ := hit; exact Heap.lt_size x
  have W := WalksT.enumerate (prog := prog) (w := w) hh e it l hei hle hli items
  generalize hD0 : s₂.heap.objs.size = D at *
  generalize hC0 : H2.objs.size = C at *
  have loop : ∀ s₃ : Shared, s₃ = { s₂ with heap := h₁, toks := s₂.toks + ([] : List (Str × Value)).length } →
      codeAny (model prog w) A (.compLoop (.ListComp elt [⟨.Tuple [.Name xi pi, .Name xv pv] x1 tp, iter, [], 0⟩] scope pos) 0 (.ref e) (.ref D) (compEnvC scope cl C env))
        (RR (.ref D) C) s₃ := by
    rintro s₃ rfl
    refine LCp.codeAny_compLoop_pair
      (fun k s' => ∃ h' tk i ys m', s' = { s₂ with heap := h', toks := tk } ∧ i ≤ items.size ∧ k = items.size + 1 - i ∧ ys.length = i ∧ ((∃ o, IsEnum h' e it ((i : Nat) : Int) o) ∧ h'.IsListIter it l i ∧ h'.IsList l items) ∧
        h'.Ns C m' ∧ h'.get? D = some (lst ys) ∧ (∀ (j : Nat) v y, items[j]? = some v → ys[j]? = some y → Fy j v y) ∧ (∀ b o, b ≠ e → b ≠ it → s₂.heap.get? b = some o → h'.get? b = some o)) ?_ (items.size + 1)
      ⟨h₁, _, 0, [], _, rfl, Nat.zero_le _, rfl, rfl, ⟨⟨_, old _ _ he⟩, hit.at (fun o x => old _ o x), hl.at (fun o x => old _ o x)⟩, hns₁, hacc, fun j v y _ hy => by simp at hy, fun b o _ _ x => old b o x⟩
    rintro k s' ⟨h', tk, i, ys, m', rfl, hi, rfl, hyl, hst, hn, hD, hF, hk⟩
    by_cases hlt : i < items.size
    · refine W.item i _ _ _ hlt hst fun T vals h₂ tk₂ hP hTs hT hMid hk₂ => ?_
      obtain ⟨t, v, hv, rfl⟩ := hP
      refine W.go _ _ _ i T _ _ _ hMid fun h₃ hst₃ hk₃ => ?_
      have hTw := W.apart _ _ _ hMid
      have hT₃ : h₃.IsTuple T #[.int (i : Nat) t, v] := by obtain ⟨o, x, r⟩ := hT; exact ⟨o, hk₃ _ _ hTw x, r⟩
      have up₃ : ∀ b o, b ≠ e → b ≠ it → h'.get? b = some o → h₃.get? b = some o := fun b o h1 h2 x => hk₃ b o (by simp [h1, h2]) (hk₂ b o (by simp [h1, h2]) x)
      have hCe : C ≠ e := by have := (below e helt').1; exact Ne.symm this
      have hCi : C ≠ it := by have := (below it hitlt).1; exact Ne.symm this
      have hDe : D ≠ e := by have := (below e helt').2; exact Ne.symm this
      have hDi : D ≠ it := by have := (below it hitlt).2; exact Ne.symm this
      refine wpAny_assign_Tuple hh hT₃ rfl rfl fun h₄ hx₄ => ?_
      replace hx₄ : Heap.ExtBut h₃.objs.size h₃ h₄ := hx₄
      have up₄ : ∀ b o, h₃.get? b = some o → h₄.get? b = some o := fun b o x => hx₄ b o (Nat.ne_of_lt (Heap.lt_size x)) x
      have hn₄ : h₄.Ns C m' := hn.at' fun o x => up₄ _ o (up₃ _ o hCe hCi x)
      have hxi' : (compEnvC scope cl C env).kindOf xi = some .local := lookup_relabel_local hxi
      have hxv' : (compEnvC scope cl C env).kindOf xv = some .local := lookup_relabel_local hxv
      have hp' : ((compEnvC scope cl C env).scope.kind == .class || ((compEnvC scope cl C env).scope.kind == .module && (compEnvC scope cl C env).locals != (compEnvC scope cl C env).globals)) = false := by simp [compEnvC, relabel, hkind]
      show wpAny _ A (do holding [v] (assign (.Name xi pi) (compEnvC scope cl C env) (.int (i : Nat) t)); do holding [] (assign (.Name xv pv) (compEnvC scope cl C env) v); pure ()) _ _ _
      refine wpAny_bind (wpAny_holding (wpAny_assign_Name (wpAny_storeName_local hxi' hn₄ (fun h₅ hn₅ hs₅ => ?_) hp')))
      replace hs₅ : Heap.SameBut C h₄ h₅ := hs₅
      refine wpAny_bind (wpAny_holding (wpAny_assign_Name (wpAny_storeName_local hxv' hn₅ (fun h₆ hn₆ hs₆ => wpAny_pure ?_) hp')))
      replace hs₆ : Heap.SameBut C h₅ h₆ := hs₆
      have up₆ : ∀ b o, b ≠ C → h₃.get? b = some o → h₆.get? b = some o := fun b o hb x => hs₆.extBut b o hb (hs₅.extBut b o hb (up₄ b o x))
      refine wpAny_mono (helt C i v t m' h₆ _ (by rw [← hC0, ← hD0] at *; omega) hv hn₆ fun b o h1 h2 x => ?_) (fun y s₇ h₇ => ?_) fun _ _ x => x.elim
      · have hb : b ≠ C := (below b (by rw [← hD0]; exact Heap.lt_size x)).1
        exact up₆ b o hb (up₃ b o h1 h2 (hk b o h1 h2 x))
      · obtain ⟨hFy, h₇, tk₇, rfl, hk₇⟩ := h₇
        have hD₇ : h₇.get? D = some (lst ys) := hk₇ _ _ (up₆ _ _ hDC (up₃ _ _ hDe hDi hD))
        refine append_at (hsz := by show ys.toArray.size ≤ sizeLine; rw [List.size_toArray, hyl]; exact Nat.le_trans hi hsz) hD₇ fun h₈ hs₈ hD₈ => ?_
        have hst₈ : (∃ o, IsEnum h₈ e it (((i + 1 : Nat)) : Int) o) ∧ h₈.IsListIter it l (i + 1) ∧ h₈.IsList l items := by
          obtain ⟨⟨o, a1⟩, a2, a3⟩ := hst₃
          have fin : ∀ b o, b ≠ C → b ≠ D → h₃.get? b = some o → h₈.get? b = some o := fun b o h1 h2 x => hs₈.extBut b o h2 (hk₇ _ _ (up₆ b o h1 x))
          have hl3 : ∃ o, h₃.get? l = some o := by obtain ⟨o, x, _⟩ := a3; exact ⟨o, x⟩
          have hlC : l ≠ C := by
            obtain ⟨o, x, _⟩ := hl
            exact (below l (by rw [← hD0]; exact Heap.lt_size x)).1
          have hlD : l ≠ D := by
            obtain ⟨o, x, _⟩ := hl
            exact (below l (by rw [← hD0]; exact Heap.lt_size x)).2
          exact ⟨⟨o, fin e _ (Ne.symm hCe) (Ne.symm hDe) a1⟩, a2.at (fun o x => fin it o (Ne.symm hCi) (Ne.symm hDi) x), a3.at (fun o x => fin l o hlC hlD x)⟩
        refine ⟨items.size + 1 - (i + 1), by omega, h₈, _, i + 1, ys ++ [y], _, rfl, hlt, rfl, by rw [List.length_append, List.length_singleton, hyl], hst₈, (hn₆.keeps hk₇).sameBut hs₈ (Ne.symm hDC), hD₈.trans (congrArg some (lst_snoc ys y)), fun j v' y' hv' hy' => ?_, fun b o h1 h2 x => ?_⟩
        · by_cases hj : j < ys.length
          · rw [List.getElem?_append_left hj] at hy'; exact hF j v' y' hv' hy'
          · rw [List.getElem?_append_right (Nat.le_of_not_lt hj)] at hy'
            have hj0 : j - ys.length = 0 := by
              cases hz : j - ys.length with
              | zero => rfl
              | succ q => rw [hz] at hy'; simp at hy'
            rw [hj0] at hy'
            have hji : j = i := by omega
            subst hji
            rw [hv] at hv'
            simp at hy' hv'
            subst hy'; subst hv'; exact hFy
        · have hb := below b (by rw [← hD0]; exact Heap.lt_size x)
          exact hs₈.extBut b o hb.2 (hk₇ _ _ (up₆ b o hb.1 (up₃ b o h1 h2 (hk b o h1 h2 x))))
    · obtain rfl : i = items.size := Nat.le_antisymm hi (Nat.not_lt.mp hlt)
      refine W.done _ _ _ hst fun h₂ tk₂ hk₂ => ?_
      have hCe : C ≠ e := by have := (below e helt').1; exact Ne.symm this
      have hCi : C ≠ it := by have := (below it hitlt).1; exact Ne.symm this
      have hDe : D ≠ e := by have := (below e helt').2; exact Ne.symm this
      have hDi : D ≠ it := by have := (below it hitlt).2; exact Ne.symm this
      exact hRR D C h₂ tk₂ m' ys (fresh _ (by omega)) (fresh _ (by omega)) (Ne.symm hDC) (hn.at' fun o x => hk₂ _ o (by simp [hCe, hCi]) x) (hk₂ _ _ (by simp [hDe, hDi]) hD) hyl hF fun b o h1 h2 x => hk₂ b o (by simp [h1, h2]) (hk b o h1 h2 x)
  exact codeAny_compStart_list (loop _ rfl) (W.self 0 _ _ _ ⟨⟨_, old _ _ he⟩, hit.at (fun o x => old _ o x), hl.at (fun o x => old _ o x)⟩ (loop _ rfl))

theorem ListComp_enum {elt iter : Expr} {xi xv : Str} {pi pv tp : Pos} {x1 : Nat} {scope : Scope} {cl : List (Str × Addr)} {pos : Pos} {Q : Value → Shared → Prop} (Fy : Nat → Value → Value → Prop)
    (hh : A.handled = none) (hclos : closureFor scope env = pure cl) (hcell : ∀ y ∈ scope.names, y.2 ≠ .cell) (hkind : scope.kind = .function)
    (hnames : ∀ y ∈ scope.names, y.2 = .local → scope.names.lookup y.1 = some .local) (hxi : scope.names.lookup xi = some .local) (hxv : scope.names.lookup xv = some .local)
    (h : wpAny (model prog w) A (eval iter env) (fun xv' s₁ => ∃ (e it l : Addr) (items : Array Value), xv' = .ref e ∧ e ≠ it ∧ l ≠ e ∧ l ≠ it ∧ items.size ≤ sizeLine ∧ IsEnum s₁.heap e it 0 .none ∧ s₁.heap.IsListIter it l 0 ∧ s₁.heap.IsList l items ∧
      (∀ (C : Addr) (i : Nat) (v : Value) (tk : Tok) (mC : Str → Option Value) (h : Heap) (tk' : Nat), s₁.heap.objs.size ≤ C → items[i]? = some v → h.Ns C (fun y => if y = xv then some v else if y = xi then some (.int (i : Nat) tk) else mC y) →
        (∀ b o, b ≠ e → b ≠ it → s₁.heap.get? b = some o → h.get? b = some o) →
        wpAny (model prog w) A (eval elt (compEnvC scope cl C env)) (fun y s₄ => Fy i v y ∧ Keeps { s₁ with heap := h, toks := tk' } s₄) NoE { s₁ with heap := h, toks := tk' }) ∧
      (∀ (D : Addr) (h : Heap) (tk : Nat) (ys : List Value), s₁.heap.get? D = none → h.get? D = some (lst ys) → ys.length = items.size → (∀ (i : Nat) v y, items[i]? = some v → ys[i]? = some y → Fy i v y) →
        (∀ b o, b ≠ e → b ≠ it → s₁.heap.get? b = some o → h.get? b = some o) → Q (.ref D) { s₁ with heap := h, toks := tk })) NoE s)
    (hs : ∀ x, foldedSetIterable iter env x = pure x := by intro _; rfl) :
    wpAny (model prog w) A (eval (.ListComp elt [⟨.Tuple [.Name xi pi, .Name xv pv] x1 tp, iter, [], 0⟩] scope pos) env) Q NoE s := by
  rw [eval_ListComp]
  refine wpAny_comprehension_free (use := none) rfl hs hclos hkind hnames (wpAny_mono h (fun xv' s₁ h₁ => ?_) fun _ _ e => e)
  obtain ⟨e, it, l, items, rfl, hei, hle, hli, hsz, he, hit, hl, helt, fin⟩ := h₁
  refine wpAny_pyIter_enum he ?_
  refine comp_enum (RR := fun acc C => compPost (model prog w) A NoE none Q acc C) Fy hh hei hle hli hsz he hit hl hcell hkind hxi hxv helt ?_
  intro D C h tk mC ys hD hC hCD hn hDo hlen hF hk
  refine ⟨mC, hn, fun h'' hs'' => fin D h'' tk ys hD (hs''.extBut _ _ (Ne.symm hCD) hDo) hlen hF fun b o h1 h2 x => hs''.extBut b o (fun q => ?_) (hk b o h1 h2 x)⟩
  rw [q, hC] at x; cases x
end

theorem nm_local {M : Model} {A : Around} {E : Value → Shared → Prop} {s : Shared} {env : Env} {g : Heap} {m : Str → Option Value} {x : Str} {pos : Pos} {v : Value} {Q : Value → Shared → Prop} (F : Fr g env.locals s.heap m) (hv : m x = some v) (h : Q v s)
    (hk : env.scope.kind = .function) (hl : env.kindOf x = some .local) (hd : (x == ("__debug__" : Str)) = false) : wpAny M A (eval (.Name x pos) env) Q E s := wpAny_Name (wpAny_loadName_local hk hl F.ns hv h) hd

theorem sum_castZ : ∀ (ks : List Nat), (castZ ks).sum = ((ks.sum : Nat) : Int)
  | [] => rfl
  | k :: r => by
    show ((k : Nat) : Int) + (castZ r).sum = ((k + r.sum : Nat) : Int)
    rw [sum_castZ r, Int.natCast_add]
theorem intsAre_of : ∀ {ys : List Value} {zs : List Nat}, ys.length = zs.length → (∀ (i : Nat) (y : Value) (z : Nat), ys[i]? = some y → zs[i]? = some z → ∃ t, y = .int ((z : Nat) : Int) t) → IntsAre ys (castZ zs)
  | [], [], _, _ => .nil
  | [], _ :: _, h, _ => by simp at h
  | _ :: _, [], h, _ => by simp at h
  | y :: ys, z :: zs, h, hh => by
    obtain ⟨t, rfl⟩ := hh 0 y z rfl rfl
    exact .cons _ t (intsAre_of (by simpa using h) fun i y' z' a b => hh (i + 1) y' z' (by simpa using a) (by simpa using b))

def whole (b : Nat) : List Nat → Nat
  | [] => 0
  | k :: r => k + b * whole b r
def wl (b : Nat) : Nat → List Nat → List Nat
  | _, [] => []
  | i, k :: r => k * b ^ i :: wl b (i + 1) r
theorem wl_length (b : Nat) : ∀ (i : Nat) (ks : List Nat), (wl b i ks).length = ks.length
  | _, [] => rfl
  | i, k :: r => by simp [wl, wl_length b (i + 1) r]
theorem wl_at (b : Nat) : ∀ (i j : Nat) (ks : List Nat), (wl b i ks)[j]? = (ks[j]?).map fun k => k * b ^ (i + j)
  | _, _, [] => by simp [wl]
  | i, 0, k :: r => by simp [wl]
  | i, j + 1, k :: r => by
    simp only [wl, List.getElem?_cons_succ]
    rw [wl_at b (i + 1) j r, show i + 1 + j = i + (j + 1) by omega]
theorem wl_sum (b : Nat) : ∀ (i : Nat) (ks : List Nat), (wl b i ks).sum = b ^ i * whole b ks
  | _, [] => by simp [wl, whole]
  | i, k :: r => by
    simp only [wl, List.sum_cons, whole]
    rw [wl_sum b (i + 1) r, Nat.pow_succ, Nat.mul_add, Nat.mul_comm k, Nat.mul_assoc]
theorem whole_limbs {b : Nat} (hb : 2 ≤ b) (n : Nat) : whole b (limbs b n) = n := by
  induction n using Nat.strongRecOn with
  | ind n ih =>
    by_cases hn : 0 < n
    · rw [limbs_pos hb hn, whole, ih _ (Nat.div_lt_self hn hb)]
      exact Nat.mod_add_div n b
    · have : n = 0 := by omega
      rw [this, limbs_zero]; rfl

local macro_rules | `(tactic| walk_at "binaryOp Pow int int") => `(tactic| (refine PyProof.Rows.pow_int_small (by first | assumption | omega) (by first | assumption | omega) (by decide) ?_))
local macro_rules | `(tactic| walk_at "eval Name") => `(tactic| ((with_reducible show wpAny _ _ (eval (Expr.Name _ _) (compEnvC _ _ _ _)) _ _ _); k_dflt (refine nm_local (by assumption) (by rfl) ?_ (by rfl) (by rfl) (by decide))))
local macro_rules | `(tactic| walk_at "pyIter ref") => `(tactic| ((with_reducible show wpAny _ _ (pyIter (Value.ref _)) _ _ _); refine Stop.of ?_))
local macro_rules | `(tactic| walk_at "call ref") => `(tactic| (refine Stop.of ?_))
local macro_rules | `(tactic| walk_at "call type:enumerate") => `(tactic| (refine Stop.of ?_))
local macro_rules | `(tactic| walk_at "call builtin:sum") => `(tactic| (refine Stop.of ?_))
local macro_rules | `(tactic| walk_at "eval ListComp") => `(tactic| (refine Stop.of ?_))
local macro_rules | `(tactic| walk_at "exec For Name Name cons nil") => `(tactic| (refine Stop.of ?_))
local macro_rules | `(tactic| walk_at "exec For Name Call cons nil") => `(tactic| (refine Stop.of ?_))
local macro_rules | `(tactic| walk_at "exec While Compare cons nil") => `(tactic| (refine Stop.of ?_))
local macro_rules | `(tactic| ktr_unf) => `(tactic| (w_top off; repeat' (first | ((with_reducible show wpAny _ _ _ _ _ _); walk1) | ((with_reducible show ite _ _ _); walk1) | (dsimp only; (with_reducible show wpAny _ _ _ _ _ _); walk1) | (dsimp only; (with_reducible show ite _ _ _); walk1))))

set_option maxHeartbeats 1000000 in
theorem c_whole {w : World} {A : Around} {s : Shared} {mean : ExcName → Option Value} {mg mb : Str → Option Value} {wn : Nat} {tw : Tok} {a : Addr} {vs : List Value} {ks : List Nat}
    (X : (Mine.hd.heap_39 w.params).In s.heap) (T : Top Mine.hd.view_39 (looseW Mine.hd.view_39 []) mean mg mb s.heap)
    (hA : A.handled = none) (hd : A.depth < 900) (hw : 2 ≤ wn) (hw7 : wn ≤ 7) (hl : s.heap.IsList a vs.toArray) (hi : IntsAre vs (castZ ks)) (hk : ks.length ≤ 1000) (hk64 : ∀ k ∈ ks, k < 2 ^ 64) :
    wpAny (model PySem.Challenge.rw_rr0052_01.row.prog w) A (call (.ref 68) [.ref a, .int ((wn : Nat) : Int) tw] []) (fun r s' => (∃ t, r = .int ((whole (2 ^ wn) ks : Nat) : Int) t) ∧ Keeps s s') NoE s := by
  revert X; k_fill; intro X
  k_dflt (refine' enterC (K := Mine.hd.heap_39 w.params) (binds := [(Str.ofString "limbs", .ref a), (Str.ofString "w", .int ((wn : Nat) : Int) tw)]) X T.nolimit ?k6 ?k7 ?k8 ?k9 ?kB ?kD ?_ ?c2 ?c3 ?c4; (case k6 => k_is); (case k7 => k_is); (case k9 => exact BindsTo.of_eq rfl); (case kB => exact rfl); (case kD => decide +kernel); (case c2 => exact rfl); (case c3 => exact rfl); (case c4 => exact rfl); (case k8 => (simp only [recursionLimit]; omega)))
  intro L h₁ tk cells F N Y
  have hY := CellsAre.one Y; obtain ⟨o', hE', d1'⟩ := hY; subst hE'; clear Y
  have d1 : o'.data = .cell (some (.int ((wn : Nat) : Int) tw)) := d1'
  clear d1'
  have hvl : vs.length = ks.length := by rw [hi.length, List.length_map]
  have hlf := not_local F hl
  ktr_unf
  refine Stop.mk ?_
  refine ListComp_enum (cl := [(Str.ofString "w", L + 1)]) (fun i v y => ∀ k : Nat, ks[i]? = some k → ∃ t, y = .int ((k * (2 ^ wn) ^ i : Nat) : Int) t) hA (by rfl) (by decide) (by rfl) (by decide) (by rfl) (by rfl) ?_
  ktr_unf
  refine Stop.mk ?_
  refine call_enumerate_list (hl.at fun o e => F.keep a o e) fun h₂ he₂ hit₂ hz₂ hk₂ => ?_
  refine ⟨_, _, a, vs.toArray, rfl, ?_, ?_, ?_, ?_, he₂, hit₂, hl.at (fun o e => hk₂ _ _ (F.keep a o e)), ?_, ?_⟩
  · exact Nat.succ_ne_self _
  · obtain ⟨o, x, _⟩ := hl
    exact Nat.ne_of_lt (Nat.lt_succ_of_lt (Heap.lt_size (F.keep _ _ x)))
  · obtain ⟨o, x, _⟩ := hl
    exact Nat.ne_of_lt (Heap.lt_size (F.keep _ _ x))
  · rw [List.size_toArray, hvl, sizeLine_eq]; omega
  · intro C i v tk mC h tk' hC hv hn hkp
    have F2 : Fr s.heap C h (fun y => if y = Str.ofString "limb" then some v else if y = Str.ofString "at" then some (.int (i : Nat) tk) else mC y) := by
      refine ⟨hn, fun b o x => ?_, ?_⟩
      · have x1 := F.keep b o x
        exact hkp b o (Nat.ne_of_lt (Nat.lt_succ_of_lt (Heap.lt_size x1))) (Nat.ne_of_lt (Heap.lt_size x1)) (hk₂ b o x1)
      · exact Nat.le_trans F.above (Nat.le_trans (Nat.le_of_lt F.ns.lt) (Nat.le_trans (by rw [hz₂]; exact Nat.le_add_right _ _) hC))
    have N2 : News s.heap C h [(L + 1, o')] := by
      intro p hp
      rw [List.mem_singleton.mp hp]
      have z := N _ (List.mem_singleton.mpr rfl)
      have x1 := Heap.lt_size z.1
      refine ⟨hkp _ _ (Nat.ne_of_lt (Nat.lt_succ_of_lt x1)) (Nat.ne_of_lt x1) (hk₂ _ _ z.1), ?_, z.2.2⟩
      exact Nat.ne_of_lt (Nat.lt_of_lt_of_le (Heap.lt_size (hk₂ _ _ z.1)) hC)
    obtain ⟨k, tt, rfl, hk⟩ := natAt hi (by simpa using hv)
    clear F N
    have hi1 : i < ks.length := (List.getElem?_eq_some_iff.mp hk).1
    have hwi : wn * i ≤ 7000 := Nat.le_trans (Nat.mul_le_mul hw7 (Nat.le_of_lt (Nat.lt_of_lt_of_le hi1 (by assumption)))) (by decide)
    have e1 : ((wn : Nat) : Int) * ((i : Nat) : Int) = ((wn * i : Nat) : Int) := (Int.natCast_mul wn i).symm
    have h0 : (0 : Int) ≤ ((wn : Nat) : Int) * ((i : Nat) : Int) := by omega
    have h1 : ((wn : Nat) : Int) * ((i : Nat) : Int) ≤ 1000000 := by omega
    have hm : IntMulOk ((k : Nat) : Int) (2 ^ (((wn : Nat) : Int) * ((i : Nat) : Int)).toNat) := IntMulOk.of_left (intBits_le_iff.mpr (by rw [Int.natAbs_natCast]; exact hk64 k (List.mem_of_getElem? hk)))
    ktr_unf
    refine ⟨fun k' hk' => ?_, _, _, rfl, fun _ _ e => e⟩
    rw [hk] at hk'; cases hk'
    exact ⟨_, by rw [e1, powZ, ← Int.natCast_mul, Nat.pow_mul]⟩
  · intro D h tk ys hD hDo hlen hF hkp
    rw [List.size_toArray] at hlen
    have hys : IntsAre ys (castZ (wl (2 ^ wn) 0 ks)) := by
      refine intsAre_of (by rw [wl_length, hlen, hvl]) fun i y z hy hz => ?_
      rw [wl_at] at hz
      obtain ⟨k, hk', rfl⟩ := Option.map_eq_some_iff.mp hz
      have hlt : i < vs.length := by rw [hvl]; exact (List.getElem?_eq_some_iff.mp hk').1
      rw [Nat.zero_add]
      exact hF i vs[i] y (by simp [hlt]) hy k hk'
    have F2 := F.keeps (h' := h) fun b o x => hkp b o (Nat.ne_of_lt (Nat.lt_succ_of_lt (Heap.lt_size x))) (Nat.ne_of_lt (Heap.lt_size x)) (hk₂ b o x)
    clear F N
    have N2 : News s.heap L h [] := News.nil
    ktr_unf
    refine Stop.mk ?_
    refine LSm.sum_ints F2 N2 hA ⟨_, hDo, rfl, _, rfl⟩ hys fun h₃ tk₃ t₃ F3 N3 => ?_
    exact ⟨⟨_, by rw [sum_castZ, wl_sum, Nat.pow_zero, Nat.one_mul]⟩, _, _, rfl, F3.keep⟩
end Mine
end
section
open PySem PySem.W PyProof.Rows PySem.Calls PySem.Spec
open PyProof.Rows.LCg
set_option maxRecDepth 100000
set_option maxHeartbeats 1000000
namespace Mine
local macro_rules | `(tactic| walk_at "pad") => `(tactic| fail "pad")
local macro_rules | `(tactic| walk_at "binaryOp Pow int int") => `(tactic| (refine PyProof.Rows.pow_int_small (by first | assumption | omega) (by first | assumption | omega) (by decide) ?_))
local macro_rules | `(tactic| walk_at "eval Name") => `(tactic| ((with_reducible show wpAny _ _ (eval (Expr.Name _ _) (compEnvC _ _ _ _)) _ _ _); k_dflt (refine nm_local (by assumption) (by rfl) ?_ (by rfl) (by rfl) (by decide))))
local macro_rules | `(tactic| walk_at "pyIter ref") => `(tactic| ((with_reducible show wpAny _ _ (pyIter (Value.ref _)) _ _ _); refine Stop.of ?_))
local macro_rules | `(tactic| walk_at "call ref") => `(tactic| (refine Stop.of ?_))
local macro_rules | `(tactic| walk_at "call type:enumerate") => `(tactic| (refine Stop.of ?_))
local macro_rules | `(tactic| walk_at "call builtin:sum") => `(tactic| (refine Stop.of ?_))
local macro_rules | `(tactic| walk_at "eval ListComp") => `(tactic| (refine Stop.of ?_))
local macro_rules | `(tactic| walk_at "exec For Name Name cons nil") => `(tactic| (refine Stop.of ?_))
local macro_rules | `(tactic| walk_at "exec For Name Call cons nil") => `(tactic| (refine Stop.of ?_))
local macro_rules | `(tactic| walk_at "exec While Compare cons nil") => `(tactic| (refine Stop.of ?_))
local macro_rules | `(tactic| ktr_unf) => `(tactic| (w_top off; repeat' (first | ((with_reducible show wpAny _ _ _ _ _ _); walk1) | ((with_reducible show ite _ _ _); walk1) | (dsimp only; (with_reducible show wpAny _ _ _ _ _ _); walk1) | (dsimp only; (with_reducible show ite _ _ _); walk1) | ((with_reducible show Frag.In _ _ ∧ _); refine ⟨by k_in, ?_⟩; try dsimp only [List.nil_append, List.cons_append]))))

theorem limbs_lt {b : Nat} (hb : 2 ≤ b) : ∀ (n : Nat), ∀ k ∈ limbs b n, k < b := by
  intro n
  induction n using Nat.strongRecOn with
  | ind n ih =>
    by_cases hn : 0 < n
    · rw [limbs_pos hb hn]
      intro k hk
      rcases List.mem_cons.mp hk with rfl | hk
      · exact Nat.mod_lt _ (by omega)
      · exact ih _ (Nat.div_lt_self hn hb) k hk
    · have : n = 0 := by omega
      rw [this, limbs_zero]; intro k hk; cases hk

theorem c_wholeV {w : World} {A : Around} {s : Shared} {mean : ExcName → Option Value} {mg mb : Str → Option Value} {S : SP} {n wn : Nat} {tw : Tok} {v : Value}
    (X : (Mine.hd.heap_39 w.params).In s.heap) (T : Top Mine.hd.view_39 (looseW Mine.hd.view_39 []) mean mg mb s.heap)
    (hA : A.handled = none) (hd : A.depth < 900) (hw : 2 ≤ wn) (hw7 : wn ≤ 7) (hS : ∀ a o, S a o → s.heap.get? a = some o) (hv : NumV S (2 ^ wn) v n) (hn : n < 2 ^ 1000) :
    wpAny (model PySem.Challenge.rw_rr0052_01.row.prog w) A (call (.ref 68) [v, .int ((wn : Nat) : Int) tw] []) (fun r s' => (∃ t, r = .int ((n : Nat) : Int) t) ∧ Keeps s s') NoE s := by
  obtain ⟨a, vs, rfl, hl, hi⟩ := hv
  have hb := two_le_pow hw
  have h7 : 2 ^ wn ≤ 2 ^ 7 := Nat.pow_le_pow_right (by decide) hw7
  have := c_whole (tw := tw) X T hA hd hw hw7 (hl.heap hS) hi (limbs_len hb 1000 n hn) (fun k hk => Nat.lt_of_lt_of_le (limbs_lt hb n k hk) (Nat.le_trans h7 (by decide)))
  rw [whole_limbs hb] at this
  exact this

theorem item_at {prog : Program} {w : World} {A : Around} {E : Value → Shared → Prop} {s : Shared} {h₀ : Heap} {L l : Addr} {m : Str → Option Value} {vs : List Value} {i : Nat} {u : Tok} {v : Value} {value slice : PySem.Expr} {Q : Value → Shared → Prop}
    (F : Fr h₀ L s.heap m) (hl : h₀.IsList l vs.toArray) (hx : vs[i]? = some v) (hi : i < 2 ^ 63) (h : Q v s)
    (hs : subscripted slice false (.ref l) (.int ((i : Nat) : Int) u) = operate [.ref l, .int ((i : Nat) : Int) u] (getItem (.ref l) (.int ((i : Nat) : Int) u)) := by with_unfolding_all rfl) :
    wpAny (model prog w) A (subscriptTail value slice (.ref l) (.int ((i : Nat) : Int) u)) Q E s :=
  tail_any (hl.at fun o e => F.keep l o e).typeIs slot_list_getitem.lookup (wpAny_getItem_list (hl.at fun o e => F.keep l o e) (by omega) (by omega) (by simpa using hx) h) hs

theorem use {α : Type} {M : Model} {A : Around} {t : Sem α} {Q Q' : α → Shared → Prop} {E : Value → Shared → Prop} {s : Shared} (h : wpAny M A t Q' NoE s) (k : ∀ a s', Q' a s' → Q a s') : wpAny M A t Q E s := wpAny_mono h k fun _ _ e => e.elim

theorem Res.back {S : SP} {s s' : Shared} {R : SP → Prop} {h1 : Heap} {tk1 : Nat} (k : ∀ b o, s.heap.get? b = some o → h1.get? b = some o) (r : Res S { s with heap := h1, toks := tk1 } s' R) : Res S s s' R := by
  obtain ⟨h', tk, tl, rfl, k', ht, hR⟩ := r
  refine ⟨h', tk, tl, rfl, fun b o e => k' b o (k b o e), fun p hp => ⟨(ht p hp).1, ?_⟩, hR⟩
  cases e : s.heap.get? p.1 with
  | none => rfl
  | some o =>
    have h1 := k _ _ e
    have h2 := (ht p hp).2
    rw [h1] at h2; cases h2

theorem c_mul {w : World} {A : Around} {s : Shared} {mean : ExcName → Option Value} {mg mb : Str → Option Value} {S : SP} {na nb wn : Nat} {tw : Tok} {va vb : Value}
    (X : (Mine.hd.heap_39 w.params).In s.heap) (T : Top Mine.hd.view_39 (looseW Mine.hd.view_39 []) mean mg mb s.heap)
    (hA : A.handled = none) (hd : A.depth < 890) (hw : 2 ≤ wn) (hw7 : wn ≤ 7) (hS : ∀ a o, S a o → s.heap.get? a = some o) (hva : NumV S (2 ^ wn) va na) (hvb : NumV S (2 ^ wn) vb nb)
    (hna : na < 2 ^ 1000) (hnb : nb < 2 ^ 1000) (hab : na * nb < 2 ^ 1000) :
    wpAny (model PySem.Challenge.rw_rr0052_01.row.prog w) A (call (.ref 75) [va, vb, .int ((wn : Nat) : Int) tw] []) (fun r s' => Res S s s' fun S' => NumV S' (2 ^ wn) r (na * nb)) NoE s := by
  revert X; k_fill; intro X
  k_dflt (refine' enter (K := Mine.hd.heap_39 w.params) (binds := [(Str.ofString "a", va), (Str.ofString "b", vb), (Str.ofString "w", .int ((wn : Nat) : Int) tw)]) X T.nolimit ?k6 ?k7 ?k8 ?k9 ?kB ?_ ?c2 ?c3 ?c4 ?c5; (case k6 => k_is); (case k7 => k_is); (case k9 => exact BindsTo.of_eq rfl); (case kB => exact locs rfl); (case c2 => exact rfl); (case c3 => exact rfl); (case c4 => exact rfl); (case c5 => decide); (case k8 => (simp only [recursionLimit]; omega)))
  intro L h₁ F
  have N : News s.heap L h₁ [] := News.nil
  ktr_unf
  refine Stop.mk ?_
  refine use (c_wholeV (S := S) (X.keeps F.keep) (T.keeps F.keep) hA (by rw [depth_deeper]; omega) hw hw7 (fun a o e => F.keep _ _ (hS a o e)) hva hna) ?_
  intro r s' q
  obtain ⟨⟨t1, rfl⟩, h2, tk2, rfl, hk2⟩ := q
  have F2 := F.keeps hk2
  clear F N
  have N2 : News s.heap L h2 [] := News.nil
  ktr_unf
  refine Stop.mk ?_
  refine use (c_wholeV (S := S) (X.keeps F2.keep) (T.keeps F2.keep) hA (by rw [depth_deeper]; omega) hw hw7 (fun a o e => F2.keep _ _ (hS a o e)) hvb hnb) ?_
  intro r s' q
  obtain ⟨⟨t3, rfl⟩, h3, tk3, rfl, hk3⟩ := q
  have F3 := F2.keeps hk3
  clear F2 N2
  have N3 : News s.heap L h3 [] := News.nil
  have hm : IntMulOk ((na : Nat) : Int) ((nb : Nat) : Int) := mulOk (m := 1000) (n := 1000) (by rw [Int.natAbs_natCast]; exact hna) (by rw [Int.natAbs_natCast]; exact hnb) (by decide)
  ktr_unf
  refine Stop.mk ?_
  rw [← Int.natCast_mul]
  refine use (c_limbs (S := S) (X.keeps F3.keep) (T.keeps F3.keep) hA (by rw [depth_deeper]; omega) hab hw hw7) ?_
  intro r s' q
  ktr_unf
  exact Res.back F3.keep q
end Mine
end
section
open PySem PySem.W PyProof.Rows PySem.Calls PySem.Spec
open PyProof.Rows.LCg
set_option maxRecDepth 100000
set_option maxHeartbeats 1000000
namespace Mine

section
variable {prog : Program} {w : World} {A : Around} {s : Shared} {env : Env} {h₀ : Heap} {x : Str} {body : List Stmt} {Q : Flow → Shared → Prop}
theorem rng2 {σ : Type} {a b : Nat} {t u : Tok} {m₀ : Str → Option Value} {news : List (Addr × Obj)} (hab : a ≤ b) (hb : b < 2 ^ 60)
    (ps : σ → List (Str × Value)) (J : Nat → σ → List (Addr × Obj) → Prop) (hh : A.handled = none)
    (F : Fr h₀ env.locals s.heap m₀) (N : News h₀ env.locals s.heap news) (h0 : ∃ c₀, HasAll m₀ (ps c₀) ∧ J a c₀ news)
    (turn : ∀ I i t e u nx own h tk, s.heap.objs.size < I → a ≤ i → i < b → J i e nx → (∀ p ∈ nx, p.1 ≠ I) → (∃ o, (I, o) ∈ own) → (∀ p ∈ own, p.1 = I) →
      Fr h₀ env.locals h (fun y => if y = x then some (.int ((i : Nat) : Int) t) else kstB u (ps e) y) → News h₀ env.locals h (own ++ nx) →
      wpAny (model prog w) A (execs body env) (fun f s₂ => f = .next ∧ TurnEnd h₀ env.locals I own ps (J (i + 1)) { s with heap := h, toks := tk } s₂) NoE { s with heap := h, toks := tk })
    (done : ∀ e u nx h tk, J b e nx → Fr h₀ env.locals h (kstB u (ps e)) → News h₀ env.locals h nx → Q .next { s with heap := h, toks := tk }) :
    wpAny (model prog w) A (call (.type "range") [.int ((a : Nat) : Int) t, .int ((b : Nat) : Int) u]) (fun xv s₁ => wpAny (model prog w) A (pyIter xv) (fun it s₂ => LoopAtV prog w A h₀ env x body Q NoE it s₂) NoE s₁) NoE s := by
  refine call_range_2 ?_
  refine iter_range (n := b - a) ps (fun i => J (a + i)) hh (IsRange.new ..) (small_one (by omega) (by omega) (by omega) (by omega)) ?_ (F.push _) (N.grown fun _ _ e => Heap.get?_push_of_some _ e) (by simpa using h0) ?_ ?_
  · rw [rangeSize_one]; split <;> omega
  · rintro I i v e u nx own h tk hI hi ⟨t, rfl⟩ hJ hoff hIo hown F' N'
    have hI' : s.heap.objs.size < I := by
      rw [← hI]; show s.heap.objs.size < (s.heap.push _).objs.size; rw [Heap.size_push]; exact Nat.lt_succ_self _
    have e1 : ((a : Nat) : Int) + ((i : Nat) : Int) * 1 = ((a + i : Nat) : Int) := by omega
    rw [e1] at F'
    exact turn I (a + i) t e u nx own h tk hI' (by omega) (by omega) hJ hoff hIo hown F' N'
  · intro e u nx h tk hJ F' N'
    rw [show a + (b - a) = b by omega] at hJ
    exact done e u nx h tk hJ F' N'
theorem rng1 {σ : Type} {b : Nat} {u : Tok} {m₀ : Str → Option Value} {news : List (Addr × Obj)} (hb : b < 2 ^ 60)
    (ps : σ → List (Str × Value)) (J : Nat → σ → List (Addr × Obj) → Prop) (hh : A.handled = none)
    (F : Fr h₀ env.locals s.heap m₀) (N : News h₀ env.locals s.heap news) (h0 : ∃ c₀, HasAll m₀ (ps c₀) ∧ J 0 c₀ news)
    (turn : ∀ I i t e u nx own h tk, s.heap.objs.size < I → i < b → J i e nx → (∀ p ∈ nx, p.1 ≠ I) → (∃ o, (I, o) ∈ own) → (∀ p ∈ own, p.1 = I) →
      Fr h₀ env.locals h (fun y => if y = x then some (.int ((i : Nat) : Int) t) else kstB u (ps e) y) → News h₀ env.locals h (own ++ nx) →
      wpAny (model prog w) A (execs body env) (fun f s₂ => f = .next ∧ TurnEnd h₀ env.locals I own ps (J (i + 1)) { s with heap := h, toks := tk } s₂) NoE { s with heap := h, toks := tk })
    (done : ∀ e u nx h tk, J b e nx → Fr h₀ env.locals h (kstB u (ps e)) → News h₀ env.locals h nx → Q .next { s with heap := h, toks := tk }) :
    wpAny (model prog w) A (call (.type "range") [.int ((b : Nat) : Int) u]) (fun xv s₁ => wpAny (model prog w) A (pyIter xv) (fun it s₂ => LoopAtV prog w A h₀ env x body Q NoE it s₂) NoE s₁) NoE s := by
  refine call_range_1 ?_
  refine iter_range (n := b) ps J hh (IsRange.new ..) (small_one (by omega) (by omega) (by omega) (by omega)) ?_ (F.push _) (N.grown fun _ _ e => Heap.get?_push_of_some _ e) h0 ?_ ?_
  · rw [rangeSize_one]; split <;> omega
  · rintro I i v e u nx own h tk hI hi ⟨t, rfl⟩ hJ hoff hIo hown F' N'
    have hI' : s.heap.objs.size < I := by
      rw [← hI]; show s.heap.objs.size < (s.heap.push _).objs.size; rw [Heap.size_push]; exact Nat.lt_succ_self _
    have e1 : (0 : Int) + ((i : Nat) : Int) * 1 = ((i : Nat) : Int) := by omega
    rw [e1] at F'
    exact turn I i t e u nx own h tk hI' hi hJ hoff hIo hown F' N'
  · intro e u nx h tk hJ F' N'
    exact done e u nx h tk hJ F' N'
theorem rng3 {σ : Type} {n : Nat} {b : Int} {t u v : Tok} {m₀ : Str → Option Value} {news : List (Addr × Obj)} (hb0 : -1 ≤ b) (hb : b < 2 ^ 60) (hn : (n : Int) = (b + 1) / 2)
    (ps : σ → List (Str × Value)) (J : Nat → σ → List (Addr × Obj) → Prop) (hh : A.handled = none)
    (F : Fr h₀ env.locals s.heap m₀) (N : News h₀ env.locals s.heap news) (h0 : ∃ c₀, HasAll m₀ (ps c₀) ∧ J 0 c₀ news)
    (turn : ∀ I i t e u nx own h tk, s.heap.objs.size < I → i < n → J i e nx → (∀ p ∈ nx, p.1 ≠ I) → (∃ o, (I, o) ∈ own) → (∀ p ∈ own, p.1 = I) →
      Fr h₀ env.locals h (fun y => if y = x then some (.int ((2 * i : Nat) : Int) t) else kstB u (ps e) y) → News h₀ env.locals h (own ++ nx) →
      wpAny (model prog w) A (execs body env) (fun f s₂ => f = .next ∧ TurnEnd h₀ env.locals I own ps (J (i + 1)) { s with heap := h, toks := tk } s₂) NoE { s with heap := h, toks := tk })
    (done : ∀ e u nx h tk, J n e nx → Fr h₀ env.locals h (kstB u (ps e)) → News h₀ env.locals h nx → Q .next { s with heap := h, toks := tk }) :
    wpAny (model prog w) A (call (.type "range") [.int 0 t, .int b u, .int 2 v]) (fun xv s₁ => wpAny (model prog w) A (pyIter xv) (fun it s₂ => LoopAtV prog w A h₀ env x body Q NoE it s₂) NoE s₁) NoE s := by
  have hsz : Builtin.Range.rangeSize 0 b 2 = (n : Int) := by
    unfold Builtin.Range.rangeSize
    simp only [show (2 : Int) > 0 by decide, if_true]
    split <;> omega
  have hsm : Builtin.Range.small 0 b 2 = true := by
    unfold Builtin.Range.small
    rw [hsz]
    simp only [Builtin.Range.rangeFitsLong, Bool.and_eq_true, Bool.or_eq_true, decide_eq_true_eq, beq_iff_eq, show (2 : Int) > 0 by decide, if_true]
    omega
  refine call_range_3 (by decide) ?_ (Or.inl (PyProof.noPylong_small (by decide)))
  refine iter_range (n := n) ps J hh (IsRange.new ..) hsm hsz (F.push _) (N.grown fun _ _ e => Heap.get?_push_of_some _ e) h0 ?_ ?_
  · rintro I i v e u nx own h tk hI hi ⟨t, rfl⟩ hJ hoff hIo hown F' N'
    have hI' : s.heap.objs.size < I := by
      rw [← hI]; show s.heap.objs.size < (s.heap.push _).objs.size; rw [Heap.size_push]; exact Nat.lt_succ_self _
    have e1 : (0 : Int) + ((i : Nat) : Int) * 2 = ((2 * i : Nat) : Int) := by omega
    rw [e1] at F'
    exact turn I i t e u nx own h tk hI' hi hJ hoff hIo hown F' N'
  · intro e u nx h tk hJ F' N'
    exact done e u nx h tk hJ F' N'
end
end Mine
end
section
open PySem PySem.W PyProof.Rows PySem.Calls PySem.Spec
open PyProof.Rows.LCg
set_option maxRecDepth 100000
set_option maxHeartbeats 1000000
namespace Mine
local macro_rules | `(tactic| walk_at "binaryOp Pow int int") => `(tactic| (refine PyProof.Rows.pow_int_small (by first | assumption | omega) (by first | assumption | omega) (by decide) ?_))
local macro_rules | `(tactic| walk_at "eval Name") => `(tactic| ((with_reducible show wpAny _ _ (eval (Expr.Name _ _) (compEnvC _ _ _ _)) _ _ _); k_dflt (refine nm_local (by assumption) (by rfl) ?_ (by rfl) (by rfl) (by decide))))
local macro_rules | `(tactic| walk_at "subscriptTail") => `(tactic| ((with_reducible show wpAny _ _ (subscriptTail _ _ (Value.ref _) (Value.int _ _)) _ _ _); k_dflt (refine item_at (by assumption) (by assumption) (by assumption) (by first | assumption | omega) ?_)))
local macro_rules | `(tactic| walk_at "subscriptTail Name Name ref int") => `(tactic| ((with_reducible show wpAny _ _ (subscriptTail _ _ (Value.ref _) (Value.int _ _)) _ _ _); k_dflt (refine item_at (by assumption) (by assumption) (by assumption) (by first | assumption | omega) ?_)))
local macro_rules | `(tactic| walk_at "subscriptTail Name BinOp ref int") => `(tactic| ((with_reducible show wpAny _ _ (subscriptTail _ _ (Value.ref _) (Value.int _ _)) _ _ _); k_dflt (refine item_at (by assumption) (by assumption) (by assumption) (by first | assumption | omega) ?_)))
local macro_rules | `(tactic| walk_at "call builtin:list.append") => `(tactic| ((with_reducible show wpAny _ _ (call (Value.builtin _) [Value.ref _, _]) _ _ _); k_dflt (refine' append_K ?k1 ?k2 (Upd.head ?k3) ?_ ?z; (case k1 => k_asm); (case k2 => k_asm); (case k3 => first | assumption | exact List.forall_mem_nil _); (case z => first | assumption | size_fits)); intro h' F' N'; (try k_sweep)))
local macro_rules | `(tactic| walk_at "pyIter ref") => `(tactic| ((with_reducible show wpAny _ _ (pyIter (Value.ref _)) _ _ _); refine Stop.of ?_))
local macro_rules | `(tactic| walk_at "call ref") => `(tactic| (refine Stop.of ?_))
local macro_rules | `(tactic| walk_at "call type:enumerate") => `(tactic| (refine Stop.of ?_))
local macro_rules | `(tactic| walk_at "call type:range") => `(tactic| (refine Stop.of ?_))
local macro_rules | `(tactic| walk_at "call builtin:sum") => `(tactic| (refine Stop.of ?_))
local macro_rules | `(tactic| walk_at "exec If") => `(tactic| (refine Stop.of ?_))
local macro_rules | `(tactic| walk_at "eval ListComp") => `(tactic| (refine Stop.of ?_))
local macro_rules | `(tactic| walk_at "exec Assign cons ListComp") => `(tactic| (refine Stop.of ?_))
local macro_rules | `(tactic| walk_at "exec For Name Name cons nil") => `(tactic| (refine Stop.of ?_))
local macro_rules | `(tactic| walk_at "exec For Name Call cons nil") => `(tactic| (refine Stop.of ?_))
local macro_rules | `(tactic| walk_at "exec For Name Subscript cons nil") => `(tactic| (refine Stop.of ?_))
local macro_rules | `(tactic| walk_at "exec While Compare cons nil") => `(tactic| (refine Stop.of ?_))
local macro_rules | `(tactic| walk_at "exec While Compare") => `(tactic| (refine Stop.of ?_))
local macro_rules | `(tactic| ktr_unf) => `(tactic| (w_top off; repeat' (first | ((with_reducible show wpAny _ _ _ _ _ _); walk1) | ((with_reducible show ite _ _ _); walk1) | (dsimp only; (with_reducible show wpAny _ _ _ _ _ _); walk1) | (dsimp only; (with_reducible show ite _ _ _); walk1) | ((with_reducible show Frag.In _ _ ∧ _); refine ⟨by k_in, ?_⟩; try dsimp only [List.nil_append, List.cons_append]))))

theorem natGet {vs : List Value} {ks : List Nat} (hi : IntsAre vs (castZ ks)) {i : Nat} (h : i < ks.length) : ∃ (k : Nat) (t : Tok), vs[i]? = some (.int ((k : Nat) : Int) t) ∧ ks[i]? = some k := by
  have hl : vs.length = ks.length := by rw [hi.length, List.length_map]
  have hv : vs[i]? = some vs[i] := List.getElem?_eq_getElem (hl ▸ h)
  obtain ⟨k, t, e, hk⟩ := natAt hi hv
  exact ⟨k, t, by rw [hv, e], hk⟩
theorem whole_append (b : Nat) : ∀ (xs ys : List Nat), whole b (xs ++ ys) = whole b xs + b ^ xs.length * whole b ys
  | [], ys => by simp [whole]
  | k :: r, ys => by simp only [List.cons_append, whole, List.length_cons, whole_append b r ys, Nat.pow_succ]; rw [Nat.mul_add, Nat.add_assoc, Nat.mul_comm (b ^ r.length) b, Nat.mul_assoc]
theorem whole_lt {b : Nat} (hb : 2 ≤ b) : ∀ (xs : List Nat), (∀ x ∈ xs, x < b) → whole b xs < b ^ xs.length
  | [], _ => by simp [whole]
  | k :: r, h => by
    have h1 := h k (.head _)
    have h2 := whole_lt hb r fun x hx => h x (.tail _ hx)
    simp only [whole, List.length_cons, Nat.pow_succ]
    have h3 : whole b r + 1 ≤ b ^ r.length := h2
    have h4 := Nat.mul_le_mul_left b h3
    rw [Nat.mul_add, Nat.mul_comm b (b ^ r.length)] at h4
    omega
theorem digits_unique {b : Nat} (hb : 2 ≤ b) : ∀ (xs ys : List Nat), xs.length = ys.length → (∀ x ∈ xs, x < b) → (∀ y ∈ ys, y < b) → whole b xs = whole b ys → xs = ys
  | [], [], _, _, _, _ => rfl
  | [], _ :: _, h, _, _, _ => by simp at h
  | _ :: _, [], h, _, _, _ => by simp at h
  | x :: xs, y :: ys, hl, hx, hy, hw => by
    have h1 := hx x (.head _)
    have h2 := hy y (.head _)
    simp only [whole] at hw
    have e1 : x = y := by
      have a1 : (x + b * whole b xs) % b = x := by rw [Nat.add_mul_mod_self_left, Nat.mod_eq_of_lt h1]
      have a2 : (y + b * whole b ys) % b = y := by rw [Nat.add_mul_mod_self_left, Nat.mod_eq_of_lt h2]
      rw [← a1, ← a2, hw]
    subst e1
    have e2 : whole b xs = whole b ys := Nat.eq_of_mul_eq_mul_left (by omega : 0 < b) (by omega)
    rw [digits_unique hb xs ys (by simpa using hl) (fun z hz => hx z (.tail _ hz)) (fun z hz => hy z (.tail _ hz)) e2]
theorem limbs_len_eq {b : Nat} (hb : 2 ≤ b) : ∀ (m n : Nat), b ^ m ≤ n → n < b ^ (m + 1) → (limbs b n).length = m + 1
  | 0, n, h1, h2 => by
    rw [Nat.pow_zero] at h1
    rw [Nat.zero_add, Nat.pow_one] at h2
    rw [limbs_pos hb h1, Nat.div_eq_of_lt h2, limbs_zero]; rfl
  | m + 1, n, h1, h2 => by
    have hp : 0 < b ^ (m + 1) := Nat.pow_pos (by omega)
    rw [limbs_pos hb (Nat.lt_of_lt_of_le hp h1), List.length_cons, limbs_len_eq hb m (n / b)]
    · rw [Nat.le_div_iff_mul_le (by omega)]; rw [Nat.pow_succ] at h1; exact h1
    · rw [Nat.div_lt_iff_lt_mul (by omega)]; rw [Nat.pow_succ] at h2; exact h2
theorem limbs_ge {b : Nat} (hb : 2 ≤ b) (m n : Nat) (h : (limbs b n).length = m + 1) : b ^ m ≤ n := by
  induction m generalizing n with
  | zero =>
    rw [Nat.pow_zero]
    by_cases hn : 0 < n
    · exact hn
    · have : n = 0 := by omega
      rw [this, limbs_zero] at h; simp at h
  | succ m ih =>
    by_cases hn : 0 < n
    · rw [limbs_pos hb hn, List.length_cons] at h
      have := ih (n / b) (by omega)
      rw [Nat.le_div_iff_mul_le (by omega)] at this
      rw [Nat.pow_succ]; exact this
    · have : n = 0 := by omega
      rw [this, limbs_zero] at h; simp at h
theorem num_res {S : SP} {s : Shared} {L d : Addr} {h : Heap} {tk : Nat} {m : Str → Option Value} {vs : List Value} {cnt : Nat} {xs : List Nat} {b n : Nat} (F : Fr s.heap L h m) (N : News s.heap L h [(d, W.listOf vs.toArray cnt)])
    (hvs : IntsAre vs (castZ xs)) (hx : xs = limbs b n) : Res S s { s with heap := h, toks := tk } (fun S' => NumV S' b (.ref d) n) := by
  subst hx
  refine ⟨_, _, [(d, W.listOf vs.toArray cnt)], rfl, F.keep, fun p hp => ⟨(N p hp).1, (N p hp).2.2⟩, d, vs, rfl, ⟨_, .inr (List.mem_singleton.mpr rfl), rfl, _, rfl⟩, hvs⟩
theorem addStep {b P i cy x y A B N : Nat} (hb : 2 ≤ b) (hJ : P + b ^ i * (cy + (x + b * A) + (y + b * B)) = N) :
    (P + b ^ i * ((cy + (x + y)) % b + b * 0)) + b ^ (i + 1) * ((cy + (x + y)) / b + A + B) = N := by
  have h := Nat.mod_add_div (cy + (x + y)) b
  generalize (cy + (x + y)) % b = r at *
  generalize (cy + (x + y)) / b = q at *
  rw [← hJ, Nat.pow_succ, Nat.mul_zero, Nat.add_zero]
  have e : cy + (x + b * A) + (y + b * B) = r + b * (q + A + B) := by
    rw [Nat.mul_add, Nat.mul_add]; omega
  rw [e, Nat.mul_add (b ^ i), Nat.mul_assoc, Nat.add_assoc]
theorem carryStep {b cy x y : Nat} (_hb : 2 ≤ b) (hcy : cy ≤ 1) (hx : x < b) (hy : y < b) : (cy + (x + y)) / b ≤ 1 := by
  have : (cy + (x + y)) / b < 2 := Nat.div_lt_of_lt_mul (by omega)
  omega
theorem maskZ (wn : Nat) : (1 * 2 ^ ((wn : Nat) : Int).toNat - 1 : Int) = ((2 ^ wn - 1 : Nat) : Int) := by
  rw [powZ, Int.one_mul]
  have : 1 ≤ 2 ^ wn := Nat.one_le_two_pow
  omega
theorem andMask (x wn : Nat) : Builtin.bitAnd ((x : Nat) : Int) ((2 ^ wn - 1 : Nat) : Int) = ((x % 2 ^ wn : Nat) : Int) := by
  unfold Builtin.bitAnd
  rw [decide_eq_true (Int.natCast_nonneg _), decide_eq_true (Int.natCast_nonneg _)]
  show (((x : Int).toNat &&& ((2 ^ wn - 1 : Nat) : Int).toNat : Nat) : Int) = _
  rw [Int.toNat_natCast, Int.toNat_natCast, Nat.and_two_pow_sub_one_eq_mod]
/-- a digit list of the right length is the number's own -/
theorem limbs_of {b : Nat} (hb : 2 ≤ b) {xs : List Nat} {n : Nat} (hx : ∀ x ∈ xs, x < b) (hw : whole b xs = n) (hl : xs.length = 0 ∨ b ^ (xs.length - 1) ≤ n) : xs = limbs b n := by
  rcases hl with hl | hl
  · have : xs = [] := List.length_eq_zero_iff.mp hl
    subst this
    rw [← hw]; show [] = limbs b 0; rw [limbs_zero]
  · by_cases h0 : xs.length = 0
    · have : xs = [] := List.length_eq_zero_iff.mp h0
      subst this
      rw [← hw]; show [] = limbs b 0; rw [limbs_zero]
    · have h1 := whole_lt hb xs hx
      rw [hw] at h1
      have e : xs.length = xs.length - 1 + 1 := by omega
      rw [e] at h1
      refine digits_unique hb _ _ ?_ hx (limbs_lt hb n) (by rw [hw, whole_limbs hb])
      rw [limbs_len_eq hb _ n hl h1]; exact e
theorem whole_drop {b : Nat} {xs : List Nat} {i x : Nat} (h : xs[i]? = some x) : whole b (xs.drop i) = x + b * whole b (xs.drop (i + 1)) := by
  have hlt := (List.getElem?_eq_some_iff.mp h).1
  have he := (List.getElem?_eq_some_iff.mp h).2
  rw [List.drop_eq_getElem_cons hlt, he]; rfl

theorem c_add {w : World} {A : Around} {s : Shared} {mean : ExcName → Option Value} {mg mb : Str → Option Value} {S : SP} {na nb wn : Nat} {tw : Tok} {va vb : Value}
    (X : (Mine.hd.heap_39 w.params).In s.heap) (T : Top Mine.hd.view_39 (looseW Mine.hd.view_39 []) mean mg mb s.heap)
    (hA : A.handled = none) (hd : A.depth < 890) (hw : 2 ≤ wn) (hw7 : wn ≤ 7) (hS : ∀ a o, S a o → s.heap.get? a = some o) (hva : NumV S (2 ^ wn) va na) (hvb : NumV S (2 ^ wn) vb nb)
    (hna : na < 2 ^ 1000) (hnb : nb < 2 ^ 1000) :
    wpAny (model PySem.Challenge.rw_rr0052_01.row.prog w) A (call (.ref 21) [va, vb, .int ((wn : Nat) : Int) tw] []) (fun r s' => Res S s s' fun S' => NumV S' (2 ^ wn) r (na + nb)) NoE s := by
  obtain ⟨ahd, adp, afr, agd, aun⟩ := A
  obtain rfl : ahd = none := hA
  replace hd : adp < 890 := hd
  revert X; k_fill; intro X
  k_dflt (refine' enter (K := Mine.hd.heap_39 w.params) (binds := [(Str.ofString "a", va), (Str.ofString "b", vb), (Str.ofString "w", .int ((wn : Nat) : Int) tw)]) X T.nolimit ?k6 ?k7 ?k8 ?k9 ?kB ?_ ?c2 ?c3 ?c4 ?c5; (case k6 => k_is); (case k7 => k_is); (case k9 => exact BindsTo.of_eq rfl); (case kB => exact locs rfl); (case c2 => exact rfl); (case c3 => exact rfl); (case c4 => exact rfl); (case c5 => decide); (case k8 => (show adp < 1000; omega)))
  intro L h₁ F
  have N : News s.heap L h₁ [] := News.nil
  obtain ⟨aa, vas, rfl, hla, hia⟩ := hva
  obtain ⟨ab, vbs, rfl, hlb, hib⟩ := hvb
  have hlaH := hla.heap hS
  have hlbH := hlb.heap hS
  have hlena : vas.length = (limbs (2 ^ wn) na).length := by rw [hia.length, List.length_map]
  have hlenb : vbs.length = (limbs (2 ^ wn) nb).length := by rw [hib.length, List.length_map]
  have hb2 := two_le_pow hw
  have hla1 := limbs_len hb2 1000 na hna
  have hlb1 := limbs_len hb2 1000 nb hnb
  ktr_unf
  refine Stop.mk ?_
  refine use (Q' := fun f s' => f = .next ∧ ∃ h' tk' m' a1 a2 v1 v2 n1 n2, s' = { s with heap := h', toks := tk' } ∧ Fr s.heap L h' m' ∧ News s.heap L h' [] ∧ HasAll m' [(Str.ofString "a", .ref a1), (Str.ofString "b", .ref a2), (Str.ofString "w", .int ((wn : Nat) : Int) tw)] ∧
    s.heap.IsList a1 v1.toArray ∧ s.heap.IsList a2 v2.toArray ∧ IntsAre v1 (castZ (limbs (2 ^ wn) n1)) ∧ IntsAre v2 (castZ (limbs (2 ^ wn) n2)) ∧ n1 < 2 ^ 1000 ∧ n2 < 2 ^ 1000 ∧ n1 + n2 = na + nb ∧ (limbs (2 ^ wn) n2).length ≤ (limbs (2 ^ wn) n1).length) ?_ ?_
  · refine wpAny_If ?_
    ktr_unf
    · rename (_ : Int) < _ => hc
      rename Fr _ _ _ _ => F4
      rw [List.length_map, List.length_map] at hc
      exact ⟨rfl, _, _, _, ab, aa, vbs, vas, nb, na, rfl, F4, News.nil, ⟨rfl, rfl, rfl, trivial⟩, hlbH, hlaH, hib, hia, hnb, hna, Nat.add_comm _ _, by omega⟩
    · rename ¬ (_ : Int) < _ => hc
      rw [List.length_map, List.length_map] at hc
      exact ⟨rfl, _, _, _, aa, ab, vas, vbs, na, nb, rfl, F, News.nil, ⟨rfl, rfl, rfl, trivial⟩, hlaH, hlbH, hia, hib, hna, hnb, rfl, by omega⟩
  · rintro f s' ⟨rfl, h2, tk2, m2, a1, a2, v1, v2, n1, n2, rfl, F2, N2, hm2, hl1, hl2, hi1, hi2, hn1, hn2, hsum, hlen⟩
    have F3 : Fr s.heap L h2 (kstB m2 [(Str.ofString "a", .ref a1), (Str.ofString "b", .ref a2), (Str.ofString "w", .int ((wn : Nat) : Int) tw)]) := by rw [kst_all hm2]; exact F2
    clear F N F2 hla1 hlb1 hlena hlenb hlaH hlbH
    have hlen1 : v1.length = (limbs (2 ^ wn) n1).length := by rw [hi1.length, List.length_map]
    have hlen2 : v2.length = (limbs (2 ^ wn) n2).length := by rw [hi2.length, List.length_map]
    have hl1k := limbs_len hb2 1000 n1 hn1
    ktr_unf
    refine Stop.mk ?_
    rename Fr _ _ _ _ => F4
    rename News _ _ _ _ => N4
    rename_i d _ _ _ _ _ _ _ _ _
    have N5 : News s.heap L _ [(d, W.listOf #[] 0)] := fun p hp => N4 p (.tail _ hp)
    clear N4
    refine For_invV s.heap (by rfl) (by rfl) ?_ (hE := PassesOwn.never)
    ktr_unf
    refine Stop.mk ?_
    have hJ0 : whole (2 ^ wn) ([] : List Nat) + (2 ^ wn) ^ 0 * (0 + whole (2 ^ wn) ((limbs (2 ^ wn) n1).drop 0) + whole (2 ^ wn) ((limbs (2 ^ wn) n2).drop 0)) = n1 + n2 := by
      simp [whole, whole_limbs hb2]
    rw [List.length_map]
    rw [maskZ] at F4
    refine rng1 (by omega) (fun c : Value => [(Str.ofString "carry", c), (Str.ofString "found", .ref d), (Str.ofString "mask", .int ((2 ^ wn - 1 : Nat) : Int) (tk2 + 1 + 1 + 1 + 1)), (Str.ofString "a", .ref a1), (Str.ofString "b", .ref a2), (Str.ofString "w", .int ((wn : Nat) : Int) tw)])
      (fun i c nx => ∃ (cy : Nat) (t : Tok) (pre : List Nat) (vs : List Value) (cnt : Nat), c = .int ((cy : Nat) : Int) t ∧ nx = [(d, W.listOf vs.toArray cnt)] ∧ IntsAre vs (castZ pre) ∧ pre.length = i ∧ (∀ x ∈ pre, x < 2 ^ wn) ∧ cy ≤ 1 ∧
        whole (2 ^ wn) pre + (2 ^ wn) ^ i * (cy + whole (2 ^ wn) ((limbs (2 ^ wn) n1).drop i) + whole (2 ^ wn) ((limbs (2 ^ wn) n2).drop i)) = n1 + n2)
      rfl F4 N5 ⟨_, ⟨rfl, rfl, rfl, rfl, rfl, rfl, trivial⟩, 0, _, [], [], _, rfl, rfl, .nil, rfl, (by intro x hx; cases hx), Nat.zero_le _, hJ0⟩ ?_ ?_
    · rintro I i t c u nx own h tk hI hi ⟨cy, t', pre, vs, cnt, rfl, rfl, hvs, hpl, hpb, hcy, hJ⟩ hoff hIo hown F6 N6
      obtain ⟨x, tx, hx, hx'⟩ := natGet hi1 (Nat.lt_of_lt_of_le hi hlen)
      obtain ⟨y, ty, hy, hy'⟩ := natGet hi2 hi
      have hi63 : i < 2 ^ 63 := by omega
      have hsz : vs.toArray.size ≤ sizeLine := by rw [List.size_toArray, hvs.length, List.length_map, hpl, sizeLine_eq]; omega
      have hdI : d < I := Nat.lt_trans (Heap.lt_size (N5 _ (.head _)).1) hI
      have hne : ∀ p ∈ own, p.1 ≠ d := fun p hp => by rw [hown p hp]; exact Nat.ne_of_gt hdI
      have N7 : News s.heap L h ((d, W.listOf vs.toArray cnt) :: own) := fun p hp => N6 p (by rcases List.mem_cons.mp hp with rfl | hp; exact List.mem_append_right _ (.head _); exact List.mem_append_left _ hp)
      have e2 : (((cy : Nat) : Int) + (((x : Nat) : Int) + ((y : Nat) : Int))) = ((cy + (x + y) : Nat) : Int) := by omega
      clear F4 N5 N6
      ktr_unf
      rename Fr _ _ _ _ => F8
      rename News _ _ _ _ => N8
      simp only [e2, andMask, powZ, fdivZ, List.push_toArray] at F8 N8
      rw [whole_drop hx', whole_drop hy'] at hJ
      have hxb := limbs_lt hb2 n1 x (List.mem_of_getElem? hx')
      have hyb := limbs_lt hb2 n2 y (List.mem_of_getElem? hy')
      refine ⟨rfl, _, _, _, _, [(d, _)], rfl, F8, (fun p hp => N8 p (by rcases List.mem_append.mp hp with hp | hp; exact .tail _ hp; rw [List.mem_singleton.mp hp]; exact .head _)), (by intro p hp; rw [List.mem_singleton.mp hp]; exact Nat.ne_of_lt hdI), ⟨rfl, rfl, rfl, rfl, rfl, rfl, trivial⟩,
        (cy + (x + y)) / 2 ^ wn, _, pre ++ [(cy + (x + y)) % 2 ^ wn], _, _, rfl, rfl, ?_, ?_, ?_, carryStep hb2 hcy hxb hyb, ?_⟩
      · rw [castZ_append]; exact hvs.append (.cons _ _ .nil)
      · rw [List.length_append, hpl]; rfl
      · intro z hz
        rcases List.mem_append.mp hz with hz | hz
        · exact hpb z hz
        · rw [List.mem_singleton.mp hz]; exact Nat.mod_lt _ (by omega)
      · rw [whole_append, hpl]; exact addStep hb2 hJ
    · rintro c u nx h tk ⟨cy, t', pre, vs, cnt, rfl, rfl, hvs, hpl, hpb, hcy, hJ⟩ F6 N6
      clear F4 N5
      ktr_unf
      refine Stop.mk ?_
      refine For_invV s.heap (by rfl) (by rfl) ?_ (hE := PassesOwn.never)
      ktr_unf
      refine Stop.mk ?_
      rw [List.length_map, List.length_map]
      refine rng2 hlen (by omega) (fun c : Value => [(Str.ofString "carry", c), (Str.ofString "found", .ref d), (Str.ofString "mask", .int ((2 ^ wn - 1 : Nat) : Int) (tk2 + 1 + 1 + 1 + 1)), (Str.ofString "a", .ref a1), (Str.ofString "b", .ref a2), (Str.ofString "w", .int ((wn : Nat) : Int) tw)])
        (fun i c nx => ∃ (cy : Nat) (t : Tok) (pre : List Nat) (vs : List Value) (cnt : Nat), c = .int ((cy : Nat) : Int) t ∧ nx = [(d, W.listOf vs.toArray cnt)] ∧ IntsAre vs (castZ pre) ∧ pre.length = i ∧ (∀ x ∈ pre, x < 2 ^ wn) ∧ cy ≤ 1 ∧
          whole (2 ^ wn) pre + (2 ^ wn) ^ i * (cy + whole (2 ^ wn) ((limbs (2 ^ wn) n1).drop i) + whole (2 ^ wn) ((limbs (2 ^ wn) n2).drop i)) = n1 + n2)
        rfl F6 N6 ⟨_, ⟨rfl, rfl, rfl, rfl, rfl, rfl, trivial⟩, cy, _, pre, vs, _, rfl, rfl, hvs, hpl, hpb, hcy, hJ⟩ ?_ ?_
      · clear hJ hcy hpb hpl hvs
        rintro I i t c u nx own h tk hI hki hi ⟨cy, t', pre, vs, cnt, rfl, rfl, hvs, hpl, hpb, hcy, hJ⟩ hoff hIo hown F7 N7
        obtain ⟨x, tx, hx, hx'⟩ := natGet hi1 hi
        have hi63 : i < 2 ^ 63 := by omega
        have hsz : vs.toArray.size ≤ sizeLine := by rw [List.size_toArray, hvs.length, List.length_map, hpl, sizeLine_eq]; omega
        have hdI : d < I := Nat.lt_trans (Heap.lt_size (N6 _ (.head _)).1) hI
        have hne : ∀ p ∈ own, p.1 ≠ d := fun p hp => by rw [hown p hp]; exact Nat.ne_of_gt hdI
        have N8 : News s.heap L h ((d, W.listOf vs.toArray cnt) :: own) := fun p hp => N7 p (by rcases List.mem_cons.mp hp with rfl | hp; exact List.mem_append_right _ (.head _); exact List.mem_append_left _ hp)
        have e2 : (((cy : Nat) : Int) + ((x : Nat) : Int)) = ((cy + (x + 0) : Nat) : Int) := by omega
        clear F6 N6 N7
        ktr_unf
        rename Fr _ _ _ _ => F8
        rename News _ _ _ _ => N8
        simp only [e2, andMask, powZ, fdivZ, List.push_toArray] at F8 N8
        have hd2 : (limbs (2 ^ wn) n2).drop i = [] := List.drop_eq_nil_of_le hki
        have hd3 : (limbs (2 ^ wn) n2).drop (i + 1) = [] := List.drop_eq_nil_of_le (Nat.le_succ_of_le hki)
        rw [whole_drop hx', hd2] at hJ
        have hxb := limbs_lt hb2 n1 x (List.mem_of_getElem? hx')
        refine ⟨rfl, _, _, _, _, [(d, _)], rfl, F8, (fun p hp => N8 p (by rcases List.mem_append.mp hp with hp | hp; exact .tail _ hp; rw [List.mem_singleton.mp hp]; exact .head _)), (by intro p hp; rw [List.mem_singleton.mp hp]; exact Nat.ne_of_lt hdI), ⟨rfl, rfl, rfl, rfl, rfl, rfl, trivial⟩,
          (cy + (x + 0)) / 2 ^ wn, _, pre ++ [(cy + (x + 0)) % 2 ^ wn], _, _, rfl, rfl, ?_, ?_, ?_, carryStep hb2 hcy hxb (by omega), ?_⟩
        · rw [castZ_append]; exact hvs.append (.cons _ _ .nil)
        · rw [List.length_append, hpl]; rfl
        · intro z hz
          rcases List.mem_append.mp hz with hz | hz
          · exact hpb z hz
          · rw [List.mem_singleton.mp hz]; exact Nat.mod_lt _ (by omega)
        · rw [whole_append, hpl, hd3]; exact addStep hb2 (B := 0) (by simpa [whole] using hJ)
      · clear hJ hcy hpb hpl hvs
        rintro c u nx h tk ⟨cy, t', pre, vs, cnt, rfl, rfl, hvs, hpl, hpb, hcy, hJ⟩ F7 N7
        clear F6 N6
        have hsz : vs.toArray.size ≤ sizeLine := by rw [List.size_toArray, hvs.length, List.length_map, hpl, sizeLine_eq]; omega
        have hd1 : (limbs (2 ^ wn) n1).drop (limbs (2 ^ wn) n1).length = [] := List.drop_eq_nil_of_le (Nat.le_refl _)
        have hd2 : (limbs (2 ^ wn) n2).drop (limbs (2 ^ wn) n1).length = [] := List.drop_eq_nil_of_le hlen
        rw [hd1, hd2] at hJ
        simp only [whole, Nat.add_zero] at hJ
        ktr_unf
        refine Stop.mk (wpAny_If ?_)
        ktr_unf
        · rename (0 : Int) < _ => hc
          have hc1 : cy = 1 := by omega
          subst hc1
          rename Fr _ _ _ _ => F8
          rename News _ _ _ _ => N8
          simp only [List.push_toArray] at N8
          refine num_res F8 N8 (xs := pre ++ [1]) (by rw [castZ_append]; exact hvs.append (.cons _ _ .nil)) (limbs_of hb2 ?_ ?_ (.inr ?_))
          · intro z hz
            rcases List.mem_append.mp hz with hz | hz
            · exact hpb z hz
            · rw [List.mem_singleton.mp hz]; omega
          · rw [whole_append, hpl, ← hsum, ← hJ]; simp [whole]
          · rw [List.length_append, hpl, ← hsum, ← hJ]; simp
        · rename ¬ (0 : Int) < _ => hc
          have hc0 : cy = 0 := by omega
          subst hc0
          rw [Nat.mul_zero, Nat.add_zero] at hJ
          refine num_res F7 N7 hvs (limbs_of hb2 hpb (by rw [hJ, hsum]) ?_)
          by_cases h0 : pre.length = 0
          · exact .inl h0
          · refine .inr (Nat.le_trans (limbs_ge hb2 (pre.length - 1) n1 (by omega)) ?_)
            rw [← hsum]; exact Nat.le_add_right _ _
end Mine
end
section
open PySem PySem.W PyProof.Rows PySem.Calls PySem.Spec
open PyProof.Rows.LCg
set_option maxRecDepth 100000
set_option maxHeartbeats 1000000
namespace Mine

theorem item_at1 {prog : Program} {w : World} {A : Around} {E : Value → Shared → Prop} {s : Shared} {h₀ : Heap} {L l : Addr} {m : Str → Option Value} {vs : List Value} {i : Nat} {u : Tok} {v : Value} {value slice : PySem.Expr} {Q : Value → Shared → Prop}
    (_F : Fr h₀ L s.heap m) (hl : s.heap.IsList l vs.toArray) (hx : vs[i]? = some v) (hi : i < 2 ^ 63) (h : Q v s)
    (hs : subscripted slice false (.ref l) (.int ((i : Nat) : Int) u) = operate [.ref l, .int ((i : Nat) : Int) u] (getItem (.ref l) (.int ((i : Nat) : Int) u)) := by with_unfolding_all rfl) :
    wpAny (model prog w) A (subscriptTail value slice (.ref l) (.int ((i : Nat) : Int) u)) Q E s :=
  tail_any hl.typeIs slot_list_getitem.lookup (wpAny_getItem_list hl (by omega) (by omega) (by simpa using hx) h) hs

theorem len_at {prog : Program} {w : World} {A : Around} {E : Value → Shared → Prop} {s : Shared} {h₀ : Heap} {L l : Addr} {m : Str → Option Value} {vs : List Value} {n : Nat} {Q : Value → Shared → Prop}
    (F : Fr h₀ L s.heap m) (hl : h₀.IsList l vs.toArray) (hn : vs.length = n) (hz : n < 2 ^ 60) (h : Q (.int ((n : Nat) : Int) (s.toks + 1)) { s with toks := s.toks + 1 + 1 }) : wpAny (model prog w) A (call (.builtin "len") [.ref l]) Q E s := by
  subst hn
  exact PyProof.Rows.len_list (hl.at fun o e => F.keep l o e) (by rw [List.size_toArray]; omega) (by simpa using h)
theorem len_at1 {prog : Program} {w : World} {A : Around} {E : Value → Shared → Prop} {s : Shared} {h₀ : Heap} {L l : Addr} {m : Str → Option Value} {vs : List Value} {n : Nat} {Q : Value → Shared → Prop}
    (_F : Fr h₀ L s.heap m) (hl : s.heap.IsList l vs.toArray) (hn : vs.length = n) (hz : n < 2 ^ 60) (h : Q (.int ((n : Nat) : Int) (s.toks + 1)) { s with toks := s.toks + 1 + 1 }) : wpAny (model prog w) A (call (.builtin "len") [.ref l]) Q E s := by
  subst hn
  exact PyProof.Rows.len_list hl (by rw [List.size_toArray]; omega) (by simpa using h)
theorem item_last {prog : Program} {w : World} {A : Around} {E : Value → Shared → Prop} {s : Shared} {l : Addr} {vs : List Value} {k : Int} {u : Tok} {v : Value} {value slice : PySem.Expr} {Q : Value → Shared → Prop}
    (hl : s.heap.IsList l vs.toArray) (hx : vs.getLast? = some v) (hk : k = -1) (h : Q v s)
    (hs : subscripted slice false (.ref l) (.int k u) = operate [.ref l, .int k u] (getItem (.ref l) (.int k u)) := by with_unfolding_all rfl) :
    wpAny (model prog w) A (subscriptTail value slice (.ref l) (.int k u)) Q E s := by
  subst hk
  have hne : vs ≠ [] := by intro e; rw [e] at hx; simp at hx
  have hpos : 0 < vs.length := List.length_pos_iff.mpr hne
  refine tail_any hl.typeIs slot_list_getitem.lookup (wpAny_getItem_list_neg (x := v) hl (by decide) (by rw [List.size_toArray]; omega) (by decide) ?_ h) hs
  rw [List.size_toArray, show (-1 + (vs.length : Int)).toNat = vs.length - 1 by omega]
  rw [List.getLast?_eq_getElem?] at hx
  simpa using hx
theorem item_zero {prog : Program} {w : World} {A : Around} {E : Value → Shared → Prop} {s : Shared} {l : Addr} {vs : List Value} {u : Tok} {v : Value} {value slice : PySem.Expr} {Q : Value → Shared → Prop}
    (hl : s.heap.IsList l vs.toArray) (hx : vs[0]? = some v) (h : Q v s)
    (hs : subscripted slice false (.ref l) (.int 0 u) = operate [.ref l, .int 0 u] (getItem (.ref l) (.int 0 u)) := by with_unfolding_all rfl) :
    wpAny (model prog w) A (subscriptTail value slice (.ref l) (.int 0 u)) Q E s :=
  tail_any hl.typeIs slot_list_getitem.lookup (wpAny_getItem_list hl (by decide) (by decide) (by simpa using hx) h) hs
theorem slice_any {prog : Program} {w : World} {A : Around} {E : Value → Shared → Prop} {s : Shared} {h₀ : Heap} {L l : Addr} {m : Str → Option Value} {news : List (Addr × Obj)} {value slice : PySem.Expr} {vs ws : List Value} {vl vu : Value} {lo hi : Option Int} {Q : Value → Shared → Prop}
    (F : Fr h₀ L s.heap m) (N : News h₀ L s.heap news) (hl : s.heap.IsList l vs.toArray) (pl : IsPart vl lo) (pu : IsPart vu hi) (e : slicePick vs.toArray lo hi none = ws.toArray) (hsz : vs.length ≤ 100000)
    (h : ∀ D h', Fr h₀ L h' m → News h₀ L h' ((D, W.listOf ws.toArray 0) :: news) → Q (.ref D) { s with heap := h' })
    (hs : subscripted slice false (.ref l) (.ref s.heap.objs.size) = operate [.ref s.heap.objs.size, .ref l] (getItem (.ref l) (.ref s.heap.objs.size)) := by with_unfolding_all rfl)
    (ht : ∀ r, letTemporaryGo value (.ref l) r = pure () := by intro _; with_unfolding_all rfl) :
    wpAny (model prog w) A (subscriptTail value slice (.ref l) (.ref s.heap.objs.size)) Q E { s with heap := s.heap.push { cls := .type "slice", data := .fields #[vl, vu, .none] } } := by
  refine slice_list F N hl pl pu (fun h' F' N' => h _ h' F' ?_) hs ht (hsz := by rw [List.size_toArray, sizeLine_eq]; omega)
  rw [e] at N'
  exact N'
/-- what stands, and a ledger -/
def SU (S : SP) (l : List (Addr × Obj)) : SP := fun a o => S a o ∨ (a, o) ∈ l
theorem SU.left {S : SP} {l : List (Addr × Obj)} : ∀ a o, S a o → SU S l a o := fun _ _ h => .inl h
theorem SU.more {S : SP} {l l' : List (Addr × Obj)} (h : ∀ p ∈ l, p ∈ l') : ∀ a o, SU S l a o → SU S l' a o := fun _ _ x => x.imp id (h _)
theorem SU.app {S : SP} {l l' : List (Addr × Obj)} : ∀ a o, SU (SU S l) l' a o → SU S (l ++ l') a o := fun _ _ x => by
  rcases x with (x | x) | x
  · exact .inl x
  · exact .inr (List.mem_append_left _ x)
  · exact .inr (List.mem_append_right _ x)
theorem SU.stand {S : SP} {h₀ h : Heap} {L : Addr} {m : Str → Option Value} {news l : List (Addr × Obj)} (F : Fr h₀ L h m) (N : News h₀ L h news) (hS : ∀ a o, S a o → h₀.get? a = some o) (hl : ∀ p ∈ l, p ∈ news) : ∀ a o, SU S l a o → h.get? a = some o := fun a o x => by
  rcases x with x | x
  · exact F.keep _ _ (hS _ _ x)
  · exact (N _ (hl _ x)).1
theorem after_res {S : SP} {h₀ h : Heap} {L : Addr} {m : Str → Option Value} {news : List (Addr × Obj)} {s s' : Shared} {tk : Nat} {R : SP → Prop} (F : Fr h₀ L h m) (N : News h₀ L h news) (r : Res S { s with heap := h, toks := tk } s' R) :
    ∃ h' tk' tl, s' = { s with heap := h', toks := tk' } ∧ Fr h₀ L h' m ∧ News h₀ L h' (news ++ tl) ∧ (∀ p ∈ tl, ∀ q ∈ news, p.1 ≠ q.1) ∧ R (SU S tl) := by
  obtain ⟨h', tk', tl, rfl, k, ht, hR⟩ := r
  obtain ⟨F', N', hd⟩ := grow F N k ht
  exact ⟨h', tk', tl, rfl, F', N', hd, hR⟩

theorem sub {h₀ h : Heap} {L : Addr} {l l' : List (Addr × Obj)} (N : News h₀ L h l) (k : ∀ p ∈ l', p ∈ l) : News h₀ L h l' := fun p hp => N p (k p hp)
section
variable {own rest tl : List (Addr × Obj)} {x : Addr × Obj}
theorem m1 : ∀ p ∈ x :: (own ++ rest ++ tl), p ∈ (own ++ x :: rest) ++ tl := by grind
theorem m2 : ∀ p ∈ own ++ x :: (rest ++ tl), p ∈ x :: (own ++ rest ++ tl) := by grind
theorem m3 : ∀ p ∈ rest, p ∈ rest ++ tl := by grind
theorem m4 : ∀ p ∈ rest, p ∈ own ++ x :: rest := by grind
theorem m5 : ∀ p ∈ rest ++ tl, p ∈ own ++ rest ++ tl := by grind
theorem m7 : ∀ p ∈ own ++ x :: (rest ++ tl), p ∈ (own ++ x :: rest) ++ tl := by grind
theorem m8 : ∀ p ∈ x :: (own ++ rest), p ∈ own ++ x :: rest := by grind
theorem m9 : ∀ p ∈ own ++ x :: rest, p ∈ x :: (own ++ rest) := by grind
theorem m6 : x ∈ own ++ x :: rest := by grind
end
theorem led_step {S : SP} {h₀ h : Heap} {L I : Addr} {m : Str → Option Value} {own rest : List (Addr × Obj)} {x : Addr × Obj} {s s' : Shared} {tk : Nat} {R : SP → Prop} (F : Fr h₀ L h m) (N : News h₀ L h (own ++ x :: rest))
    (hIo : ∃ o, (I, o) ∈ own) (hr : ∀ p ∈ rest, p.1 ≠ x.1 ∧ p.1 ≠ I) (r : Res S { s with heap := h, toks := tk } s' R) :
    ∃ h' tk' tl, s' = { s with heap := h', toks := tk' } ∧ Fr h₀ L h' m ∧ News h₀ L h' (own ++ x :: (rest ++ tl)) ∧ (∀ p ∈ rest ++ tl, p.1 ≠ x.1 ∧ p.1 ≠ I) ∧ R (SU S tl) := by
  obtain ⟨h', tk', tl, e, F', N', hd, hR⟩ := after_res F N r
  refine ⟨h', tk', tl, e, F', sub N' m7, fun p hp => ?_, hR⟩
  rcases List.mem_append.mp hp with hp | hp
  · exact hr p hp
  · obtain ⟨o, ho⟩ := hIo
    exact ⟨hd p hp x m6, hd p hp (I, o) (List.mem_append_left _ ho)⟩
theorem big400 {a b : Nat} (h1 : a < 2 ^ 400) (h2 : b < 2 ^ 400) : a * b < 2 ^ 800 := by
  rw [show 800 = 400 + 400 by decide, Nat.pow_add]
  exact Nat.mul_lt_mul_of_lt_of_lt h1 h2
theorem up400 {a : Nat} (h : a < 2 ^ 400) : a < 2 ^ 1000 := Nat.lt_of_lt_of_le h (Nat.pow_le_pow_right (by decide) (by decide))
theorem up800 {a : Nat} (h : a < 2 ^ 800) : a < 2 ^ 1000 := Nat.lt_of_lt_of_le h (Nat.pow_le_pow_right (by decide) (by decide))
def pairUp : List Nat → List Nat
  | x :: y :: r => x * y :: pairUp r
  | l => l
theorem pairUp_nil : pairUp [] = [] := by simp [pairUp]
theorem pairUp_one (x : Nat) : pairUp [x] = [x] := by simp [pairUp]
theorem pairUp_two (x y : Nat) (r : List Nat) : pairUp (x :: y :: r) = x * y :: pairUp r := by simp [pairUp]
theorem pairUp_len : ∀ ks : List Nat, (pairUp ks).length = (ks.length + 1) / 2
  | [] => by simp [pairUp_nil]
  | [x] => by simp [pairUp_one]
  | x :: y :: r => by rw [pairUp_two, List.length_cons, pairUp_len r]; simp only [List.length_cons]; omega
theorem pairUp_at : ∀ (ks : List Nat) (i x y : Nat), ks[2 * i]? = some x → ks[2 * i + 1]? = some y → (pairUp ks)[i]? = some (x * y)
  | [], i, x, y, h, _ => by simp at h
  | [a], i, x, y, _, h => by simp at h
  | a :: b :: r, 0, x, y, h, h' => by rw [pairUp_two]; simp at h h' ⊢; rw [h, h']
  | a :: b :: r, i + 1, x, y, h, h' => by
    rw [pairUp_two, List.getElem?_cons_succ]
    refine pairUp_at r i x y ?_ ?_
    · rw [show 2 * (i + 1) = 2 * i + 1 + 1 by omega, List.getElem?_cons_succ, List.getElem?_cons_succ] at h; exact h
    · rw [show 2 * (i + 1) + 1 = 2 * i + 1 + 1 + 1 by omega, List.getElem?_cons_succ, List.getElem?_cons_succ] at h'; exact h'
theorem pairUp_rest : ∀ (ks : List Nat), (pairUp ks).take (ks.length / 2) ++ ks.drop (2 * (ks.length / 2)) = pairUp ks
  | [] => by simp [pairUp_nil]
  | [x] => by simp [pairUp_one]
  | x :: y :: r => by
    have e : (x :: y :: r).length / 2 = r.length / 2 + 1 := by simp only [List.length_cons]; omega
    rw [e, pairUp_two, List.take_succ_cons, show 2 * (r.length / 2 + 1) = 2 * (r.length / 2) + 1 + 1 by omega, List.drop_succ_cons, List.drop_succ_cons, List.cons_append, pairUp_rest r]
theorem mul_le_bigP : ∀ {ks : List Nat} {i x y : Nat}, ks[i]? = some x → ks[i + 1]? = some y → x * y ≤ bigP ks
  | [], _, _, _, h, _ => by simp at h
  | a :: r, 0, x, y, h, h' => by
    simp at h h'
    subst h
    exact Nat.mul_le_mul (Nat.le_max_right 1 a) (mem_le_bigP (List.mem_of_getElem? (by simpa using h')))
  | a :: r, i + 1, x, y, h, h' => by
    simp only [List.getElem?_cons_succ] at h h'
    exact Nat.le_trans (mul_le_bigP h h') (Nat.le_mul_of_pos_left _ (Nat.le_max_left 1 a))
theorem bigP_pairUp : ∀ ks : List Nat, bigP (pairUp ks) ≤ bigP ks
  | [] => by simp [pairUp_nil]
  | [x] => by simp [pairUp_one]
  | x :: y :: r => by
    rw [pairUp_two]
    simp only [bigP]
    rw [← Nat.mul_assoc]
    refine Nat.mul_le_mul ?_ (bigP_pairUp r)
    refine Nat.max_le.mpr ⟨?_, Nat.mul_le_mul (Nat.le_max_right 1 x) (Nat.le_max_right 1 y)⟩
    exact Nat.mul_le_mul (Nat.le_max_left 1 x) (Nat.le_max_left 1 y)
def crossUp : List Nat → List Nat → List Nat
  | s :: t :: ss, x :: y :: ks => (s * y + t * x) :: crossUp ss ks
  | l, _ => l
theorem crossUp_two (s t x y : Nat) (ss ks : List Nat) : crossUp (s :: t :: ss) (x :: y :: ks) = (s * y + t * x) :: crossUp ss ks := by simp [crossUp]
theorem crossUp_nil (ks : List Nat) : crossUp [] ks = [] := by simp [crossUp]
theorem crossUp_one (s : Nat) (ks : List Nat) : crossUp [s] ks = [s] := by simp [crossUp]
theorem crossUp_len : ∀ ss ks : List Nat, ss.length = ks.length → (crossUp ss ks).length = (ks.length + 1) / 2
  | [], [], _ => by simp [crossUp_nil]
  | [s], [x], _ => by simp [crossUp_one]
  | s :: t :: ss, x :: y :: ks, h => by rw [crossUp_two, List.length_cons, crossUp_len ss ks (by simpa using h)]; simp only [List.length_cons]; omega
  | [], _ :: _, h => by simp at h
  | [_], [], h => by simp at h
  | [_], _ :: _ :: _, h => by simp at h
  | _ :: _ :: _, [], h => by simp at h
  | _ :: _ :: _, [_], h => by simp at h
theorem crossUp_at : ∀ (ss ks : List Nat) (i s t x y : Nat), ss[2 * i]? = some s → ss[2 * i + 1]? = some t → ks[2 * i]? = some x → ks[2 * i + 1]? = some y → (crossUp ss ks)[i]? = some (s * y + t * x)
  | [], _, i, s, t, x, y, h, _, _, _ => by simp at h
  | [_], _, i, s, t, x, y, _, h, _, _ => by simp at h
  | _, [], i, s, t, x, y, _, _, h, _ => by simp at h
  | _, [_], i, s, t, x, y, _, _, _, h => by simp at h
  | a :: b :: ss, c :: d :: ks, 0, s, t, x, y, h1, h2, h3, h4 => by rw [crossUp_two]; simp at h1 h2 h3 h4 ⊢; rw [h1, h2, h3, h4]
  | a :: b :: ss, c :: d :: ks, i + 1, s, t, x, y, h1, h2, h3, h4 => by
    rw [crossUp_two, List.getElem?_cons_succ]
    rw [show 2 * (i + 1) = 2 * i + 1 + 1 by omega, List.getElem?_cons_succ, List.getElem?_cons_succ] at h1 h2 h3 h4
    exact crossUp_at ss ks i s t x y h1 h2 h3 h4
theorem crossUp_rest : ∀ (ss ks : List Nat), ss.length = ks.length → (crossUp ss ks).take (ks.length / 2) ++ ss.drop (2 * (ks.length / 2)) = crossUp ss ks
  | [], [], _ => by simp [crossUp_nil]
  | [s], [x], _ => by simp [crossUp_one]
  | s :: t :: ss, x :: y :: ks, h => by
    have e : (x :: y :: ks).length / 2 = ks.length / 2 + 1 := by simp only [List.length_cons]; omega
    rw [e, crossUp_two, List.take_succ_cons, show 2 * (ks.length / 2 + 1) = 2 * (ks.length / 2) + 1 + 1 by omega, List.drop_succ_cons, List.drop_succ_cons, List.cons_append, crossUp_rest ss ks (by simpa using h)]
  | [], _ :: _, h => by simp at h
  | [_], [], h => by simp at h
  | [_], _ :: _ :: _, h => by simp at h
  | _ :: _ :: _, [], h => by simp at h
  | _ :: _ :: _, [_], h => by simp at h
theorem pairUp_lt {ks : List Nat} (h : 1 < ks.length) : (pairUp ks).length < ks.length := by rw [pairUp_len]; omega
def tree (ks : List Nat) : List (List Nat) := if _h : 1 < ks.length then ks :: tree (pairUp ks) else [ks]
termination_by ks.length
decreasing_by exact pairUp_lt _h
theorem tree_more {ks : List Nat} (h : 1 < ks.length) : tree ks = ks :: tree (pairUp ks) := by rw [tree]; simp [h]
theorem tree_one {ks : List Nat} (h : ¬ 1 < ks.length) : tree ks = [ks] := by rw [tree]; simp [h]
def crossAll : List Nat → List (List Nat) → List Nat
  | ss, [] => ss
  | ss, ks :: r => crossAll (crossUp ss ks) r
def Ok : List Nat → List (List Nat) → Prop
  | ss, [] => ss.length ≤ 1000
  | ss, ks :: r => ss.length = ks.length ∧ ks.length ≤ 1000 ∧ (∀ k ∈ ks, k < 2 ^ 400) ∧ (∀ s ∈ ss, s < 2 ^ 400) ∧ Ok (crossUp ss ks) r
theorem Ok.small {ss : List Nat} : ∀ {kss : List (List Nat)}, Ok ss kss → ss.length ≤ 1000
  | [], h => h
  | _ :: _, h => h.1 ▸ h.2.1
theorem pick_butlast (vs : List Value) : slicePick vs.toArray none (some (-1)) none = (vs.take (vs.length - 1)).toArray := by
  rw [PySem.slicePick_plain]
  simp only [Option.elim, List.size_toArray, Nat.sub_zero, List.drop_zero]
  rw [show (-1 : Int) = -((1 : Nat) : Int) by rfl, PySem.clipAt_neg _ _ (Nat.le_refl 1)]
theorem pick_from (vs : List Value) (a : Nat) : slicePick vs.toArray (some ((a : Nat) : Int)) none none = (vs.drop a).toArray := PySem.slicePick_from' _ _
end Mine
end
section
open PySem PySem.W PyProof.Rows PySem.Calls PySem.Spec
open PyProof.Rows.LCg
set_option maxRecDepth 100000
set_option maxHeartbeats 1000000
namespace Mine
local macro_rules | `(tactic| walk_at "binaryOp Pow int int") => `(tactic| (refine PyProof.Rows.pow_int_small (by first | assumption | omega) (by first | assumption | omega) (by decide) ?_))
local macro_rules | `(tactic| walk_at "eval Name") => `(tactic| ((with_reducible show wpAny _ _ (eval (Expr.Name _ _) (compEnvC _ _ _ _)) _ _ _); k_dflt (refine nm_local (by assumption) (by rfl) ?_ (by rfl) (by rfl) (by decide))))
local macro_rules | `(tactic| walk_at "subscriptTail") => `(tactic| ((with_reducible show wpAny _ _ (subscriptTail _ _ (Value.ref _) (Value.int _ _)) _ _ _); k_dflt (first | refine item_at (by assumption) (by assumption) (by assumption) (by first | assumption | omega) ?_ | refine item_at1 (by assumption) (by assumption) (by assumption) (by first | assumption | omega) ?_)))
local macro_rules | `(tactic| walk_at "subscriptTail Name Name ref int") => `(tactic| ((with_reducible show wpAny _ _ (subscriptTail _ _ (Value.ref _) (Value.int _ _)) _ _ _); k_dflt (first | refine item_at (by assumption) (by assumption) (by assumption) (by first | assumption | omega) ?_ | refine item_at1 (by assumption) (by assumption) (by assumption) (by first | assumption | omega) ?_)))
local macro_rules | `(tactic| walk_at "subscriptTail Name BinOp ref int") => `(tactic| ((with_reducible show wpAny _ _ (subscriptTail _ _ (Value.ref _) (Value.int _ _)) _ _ _); k_dflt (first | refine item_at (by assumption) (by assumption) (by assumption) (by first | assumption | omega) ?_ | refine item_at1 (by assumption) (by assumption) (by assumption) (by first | assumption | omega) ?_)))
local macro_rules | `(tactic| walk_at "call builtin:list.append") => `(tactic| ((with_reducible show wpAny _ _ (call (Value.builtin _) [Value.ref _, _]) _ _ _); k_dflt (refine' append_K ?k1 ?k2 (Upd.head ?k3) ?_ ?z; (case k1 => k_asm); (case k2 => k_asm); (case k3 => first | assumption | exact List.forall_mem_nil _); (case z => first | assumption | size_fits)); intro h' F' N'; (try k_sweep)))
local macro_rules | `(tactic| walk_at "call builtin:len") => `(tactic| ((with_reducible show wpAny _ _ (call (Value.builtin "len") [Value.ref _]) _ _ _); k_dflt (first | refine len_at (by assumption) (by assumption) (by assumption) (by omega) ?_ | refine len_at1 (by assumption) (by assumption) (by assumption) (by omega) ?_ | refine len_at1 (by assumption) (News.isList (by k_asm) (by k_mem)) (by assumption) (by omega) ?_)))
local macro_rules | `(tactic| walk_at "pyIter ref") => `(tactic| ((with_reducible show wpAny _ _ (pyIter (Value.ref _)) _ _ _); refine Stop.of ?_))
local macro_rules | `(tactic| walk_at "execs cons Assign cons") => `(tactic| (refine wpAny_execs_cons ?_))
local macro_rules | `(tactic| walk_at "execs cons") => `(tactic| (refine wpAny_execs_cons ?_))
local macro_rules | `(tactic| walk_at "subscriptTail Name Slice ref ref") => `(tactic| (refine Stop.of ?_))
local macro_rules | `(tactic| walk_at "binaryOp Add ref ref") => `(tactic| (refine Stop.of ?_))
local macro_rules | `(tactic| walk_at "call ref") => `(tactic| (refine Stop.of ?_))
local macro_rules | `(tactic| walk_at "call type:enumerate") => `(tactic| (refine Stop.of ?_))
local macro_rules | `(tactic| walk_at "call type:range") => `(tactic| (refine Stop.of ?_))
local macro_rules | `(tactic| walk_at "call builtin:sum") => `(tactic| (refine Stop.of ?_))
local macro_rules | `(tactic| walk_at "exec If") => `(tactic| (refine Stop.of ?_))
local macro_rules | `(tactic| walk_at "eval ListComp") => `(tactic| (refine Stop.of ?_))
local macro_rules | `(tactic| walk_at "exec Assign cons ListComp") => `(tactic| (refine Stop.of ?_))
local macro_rules | `(tactic| walk_at "exec For Name Name cons nil") => `(tactic| (refine Stop.of ?_))
local macro_rules | `(tactic| walk_at "exec For Name Call cons nil") => `(tactic| (refine Stop.of ?_))
local macro_rules | `(tactic| walk_at "exec For Name Subscript cons nil") => `(tactic| (refine Stop.of ?_))
local macro_rules | `(tactic| walk_at "exec While Compare cons nil") => `(tactic| (refine Stop.of ?_))
local macro_rules | `(tactic| walk_at "exec While Compare") => `(tactic| (refine Stop.of ?_))
local macro_rules | `(tactic| ktr_unf) => `(tactic| (w_top off; repeat' (first | ((with_reducible show wpAny _ _ _ _ _ _); walk1) | ((with_reducible show ite _ _ _); walk1) | (dsimp only; (with_reducible show wpAny _ _ _ _ _ _); walk1) | (dsimp only; (with_reducible show ite _ _ _); walk1) | ((with_reducible show Frag.In _ _ ∧ _); refine ⟨by k_in, ?_⟩; try dsimp only [List.nil_append, List.cons_append]))))

theorem c_above {w : World} {A : Around} {s : Shared} {mean : ExcName → Option Value} {mg mb : Str → Option Value} {S : SP} {wn : Nat} {tw : Tok} {va : Value} {ks : List Nat}
    (X : (Mine.hd.heap_39 w.params).In s.heap) (T : Top Mine.hd.view_39 (looseW Mine.hd.view_39 []) mean mg mb s.heap)
    (hA : A.handled = none) (hd : A.depth < 880) (hw : 2 ≤ wn) (hw7 : wn ≤ 7) (hS : ∀ a o, S a o → s.heap.get? a = some o) (hva : NumsV S (2 ^ wn) va ks)
    (hb : bigP ks < 2 ^ 1000) (hk : ks.length ≤ 1000) :
    wpAny (model PySem.Challenge.rw_rr0052_01.row.prog w) A (call (.ref 28) [va, .int ((wn : Nat) : Int) tw, .ref 75] []) (fun r s' => Res S s s' fun S' => NumsV S' (2 ^ wn) r (pairUp ks)) NoE s := by
  obtain ⟨ahd, adp, afr, agd, aun⟩ := A
  obtain rfl : ahd = none := hA
  replace hd : adp < 880 := hd
  revert X; k_fill; intro X
  k_dflt (refine' enter (K := Mine.hd.heap_39 w.params) (binds := [(Str.ofString "level", va), (Str.ofString "w", .int ((wn : Nat) : Int) tw), (Str.ofString "mul", .ref 75)]) X T.nolimit ?k6 ?k7 ?k8 ?k9 ?kB ?_ ?c2 ?c3 ?c4 ?c5; (case k6 => k_is); (case k7 => k_is); (case k9 => exact BindsTo.of_eq rfl); (case kB => exact locs rfl); (case c2 => exact rfl); (case c3 => exact rfl); (case c4 => exact rfl); (case c5 => decide); (case k8 => (show adp < 1000; omega)))
  intro L h₁ F
  have N : News s.heap L h₁ [] := News.nil
  obtain ⟨aa, vas, rfl, hla, hra⟩ := hva
  have hlaH := hla.heap hS
  have hlen : vas.length = ks.length := hra.1
  ktr_unf
  refine Stop.mk ?_
  rename Fr _ _ _ _ => F1
  rename News _ _ _ _ => N1
  rename_i d _ _ _
  refine For_invV s.heap (by rfl) (by rfl) ?_ (hE := PassesOwn.never)
  ktr_unf
  refine Stop.mk ?_

  refine rng3 (n := ks.length / 2) (by omega) (by omega) (by omega) (fun c : Nat => [(Str.ofString "level", .ref aa), (Str.ofString "w", .int ((wn : Nat) : Int) tw), (Str.ofString "mul", .ref 75), (Str.ofString "found", .ref d)])
    (fun i c nx => ∃ vs cnt rest, nx = (d, W.listOf vs.toArray cnt) :: rest ∧ AllR (NumV (SU S rest) (2 ^ wn)) vs ((pairUp ks).take i) ∧ (∀ p ∈ rest, p.1 ≠ d))
    rfl F1 N1 ⟨0, ⟨rfl, rfl, rfl, rfl, trivial⟩, [], _, [], rfl, .nil, by intro p hp; cases hp⟩ ?_ ?_
  · rintro I i t c u nx own h tk hI hi ⟨vs, cnt, rest, rfl, hvs, hrd⟩ hoff hIo hown F2 N2
    have h63 : 2 * i < 2 ^ 63 := by omega
    have h64 : 2 * i + 1 < 2 ^ 63 := by omega
    obtain ⟨x, hx, hxR⟩ := hra.at (i := 2 * i) (by omega)
    obtain ⟨y, hy, hyR⟩ := hra.at (i := 2 * i + 1) (by omega)
    have e1 : ((2 * i : Nat) : Int) + 1 = ((2 * i + 1 : Nat) : Int) := by omega
    ktr_unf
    refine Stop.mk ?_
    have hi2 : 2 * i + 1 < ks.length := by omega
    have hmx := mem_le_bigP (List.getElem_mem (show 2 * i < ks.length by omega))
    have hmy := mem_le_bigP (List.getElem_mem hi2)
    have hmm := mul_le_bigP (List.getElem?_eq_getElem (show 2 * i < ks.length by omega)) (List.getElem?_eq_getElem hi2)
    refine use (c_mul (S := SU S rest) (X.keeps F2.keep) (T.keeps F2.keep) rfl (by show adp + 1 < 890; omega) hw hw7 (SU.stand F2 N2 hS (fun p hp => List.mem_append_right _ (.tail _ hp))) (hxR.mono SU.left) (hyR.mono SU.left) (Nat.lt_of_le_of_lt hmx hb) (Nat.lt_of_le_of_lt hmy hb) (Nat.lt_of_le_of_lt hmm hb)) ?_
    intro r s' q
    obtain ⟨h3, tk3, tl, rfl, F3, N3, hdj, hR⟩ := after_res F2 N2 q
    have hdI : d < I := Nat.lt_trans (Heap.lt_size (N1 _ (.head _)).1) hI
    have hap : ∀ p ∈ own ++ rest ++ tl, p.1 ≠ d := by
      intro p hp e
      rcases List.mem_append.mp hp with hp | hp
      · rcases List.mem_append.mp hp with hp | hp
        · exact Nat.ne_of_gt hdI ((hown p hp).symm.trans e)
        · exact hrd p hp e
      · exact hdj p hp (d, W.listOf vs.toArray cnt) m6 e
    have hoI : ∀ p ∈ tl, p.1 ≠ I := by
      intro p hp e
      obtain ⟨o, ho⟩ := hIo
      exact hdj p hp (I, o) (List.mem_append_left _ ho) e
    have N4 := sub N3 m1
    have hsz : vs.toArray.size ≤ sizeLine := by rw [List.size_toArray, hvs.1, List.length_take, sizeLine_eq]; omega
    clear F2 N2 N3 F1
    ktr_unf
    rename Fr _ _ _ _ => F8
    rename News _ _ _ _ => N8
    simp only [List.push_toArray] at N8
    refine ⟨rfl, _, _, _, 0, (d, W.listOf (vs ++ [r]).toArray (cnt + 1)) :: (rest ++ tl), rfl, F8, sub N8 m2, ?_, ⟨rfl, rfl, rfl, rfl, trivial⟩, vs ++ [r], _, rest ++ tl, rfl, ?_, ?_⟩
    · intro p hp
      rcases List.mem_cons.mp hp with rfl | hp
      · exact Nat.ne_of_lt hdI
      · rcases List.mem_append.mp hp with hp | hp
        · exact hoff p (.tail _ hp)
        · exact hoI p hp
    · rw [List.take_add_one, pairUp_at ks i _ _ (List.getElem?_eq_getElem (show 2 * i < ks.length by omega)) (List.getElem?_eq_getElem hi2)]
      exact (hvs.mono fun _ _ x => x.mono (SU.more m3)).append (.one (hR.mono SU.app))
    · intro p hp; exact hap p (m5 p hp)
  · rintro c u nx h tk ⟨vs, cnt, rest, rfl, hvs, hrd⟩ F2 N2
    have hvl : vs.length = ks.length / 2 := by rw [hvs.1, List.length_take, pairUp_len]; omega
    clear F1 N1
    ktr_unf
    refine Stop.mk ?_
    have e2 : ((ks.length / 2 : Nat) : Int) * 2 = ((2 * (ks.length / 2) : Nat) : Int) := by omega
    rw [e2]
    refine slice_list F2 N2 (hlaH.at fun o e => F2.keep _ _ e) (.int _ _) .none (fun h4 F4 N4 => ?_) (hsz := by rw [List.size_toArray, hlen, sizeLine_eq]; omega)
    rw [pick_from] at N4
    clear F2 N2
    ktr_unf
    refine Stop.mk ?_
    refine add_lists (vs := vs) (ws := vas.drop (2 * (ks.length / 2))) F4 N4 (N4.isList (.tail _ (.head _))) (N4.isList (.head _)) (fun h5 F5 N5 => ?_) (hsz := by rw [List.length_drop, hvl, hlen, sizeLine_eq]; omega)
    clear F4 N4
    ktr_unf
    refine ⟨_, _, _, rfl, F5.keep, fun p hp => ⟨(N5 p hp).1, (N5 p hp).2.2⟩, _, _, rfl, ⟨_, .inr (.head _), rfl, _, rfl⟩, ?_⟩
    rw [← pairUp_rest ks]
    exact (hvs.mono fun _ _ x => x.mono (SU.more (by intro p hp; exact .tail _ (.tail _ (.tail _ hp))))).append ((hra.drop _).mono fun _ _ x => x.mono SU.left)
end Mine
end
section
open PySem PySem.W PyProof.Rows PySem.Calls PySem.Spec
open PyProof.Rows.LCg
set_option maxRecDepth 100000
set_option maxHeartbeats 1000000
namespace Mine
local macro_rules | `(tactic| walk_at "pad") => `(tactic| fail "pad")
local macro_rules | `(tactic| walk_at "binaryOp Pow int int") => `(tactic| (refine PyProof.Rows.pow_int_small (by first | assumption | omega) (by first | assumption | omega) (by decide) ?_))
local macro_rules | `(tactic| walk_at "eval Name") => `(tactic| ((with_reducible show wpAny _ _ (eval (Expr.Name _ _) (compEnvC _ _ _ _)) _ _ _); k_dflt (refine nm_local (by assumption) (by rfl) ?_ (by rfl) (by rfl) (by decide))))
local macro_rules | `(tactic| walk_at "subscriptTail") => `(tactic| ((with_reducible show wpAny _ _ (subscriptTail _ _ (Value.ref _) (Value.int _ _)) _ _ _); k_dflt (first | refine item_at (by assumption) (by assumption) (by assumption) (by first | assumption | omega) ?_ | refine item_at1 (by assumption) (by assumption) (by assumption) (by first | assumption | omega) ?_)))
local macro_rules | `(tactic| walk_at "subscriptTail Name Name ref int") => `(tactic| ((with_reducible show wpAny _ _ (subscriptTail _ _ (Value.ref _) (Value.int _ _)) _ _ _); k_dflt (first | refine item_at (by assumption) (by assumption) (by assumption) (by first | assumption | omega) ?_ | refine item_at1 (by assumption) (by assumption) (by assumption) (by first | assumption | omega) ?_)))
local macro_rules | `(tactic| walk_at "subscriptTail Name BinOp ref int") => `(tactic| ((with_reducible show wpAny _ _ (subscriptTail _ _ (Value.ref _) (Value.int _ _)) _ _ _); k_dflt (first | refine item_at (by assumption) (by assumption) (by assumption) (by first | assumption | omega) ?_ | refine item_at1 (by assumption) (by assumption) (by assumption) (by first | assumption | omega) ?_)))
local macro_rules | `(tactic| walk_at "call builtin:list.append") => `(tactic| ((with_reducible show wpAny _ _ (call (Value.builtin _) [Value.ref _, _]) _ _ _); k_dflt (refine' append_K ?k1 ?k2 (Upd.head ?k3) ?_ ?z; (case k1 => k_asm); (case k2 => k_asm); (case k3 => first | assumption | exact List.forall_mem_nil _); (case z => first | assumption | size_fits)); intro h' F' N'; (try k_sweep)))
local macro_rules | `(tactic| walk_at "call builtin:len") => `(tactic| ((with_reducible show wpAny _ _ (call (Value.builtin "len") [Value.ref _]) _ _ _); k_dflt (first | refine len_at (by assumption) (by assumption) (by assumption) (by omega) ?_ | refine len_at1 (by assumption) (by assumption) (by assumption) (by omega) ?_ | refine len_at1 (by assumption) (News.isList (by k_asm) (by k_mem)) (by assumption) (by omega) ?_)))
local macro_rules | `(tactic| walk_at "pyIter ref") => `(tactic| ((with_reducible show wpAny _ _ (pyIter (Value.ref _)) _ _ _); refine Stop.of ?_))
local macro_rules | `(tactic| walk_at "execs cons Assign cons") => `(tactic| (refine wpAny_execs_cons ?_))
local macro_rules | `(tactic| walk_at "execs cons") => `(tactic| (refine wpAny_execs_cons ?_))
local macro_rules | `(tactic| walk_at "subscriptTail Name Slice ref ref") => `(tactic| (refine Stop.of ?_))
local macro_rules | `(tactic| walk_at "binaryOp Add ref ref") => `(tactic| (refine Stop.of ?_))
local macro_rules | `(tactic| walk_at "call ref") => `(tactic| (refine Stop.of ?_))
local macro_rules | `(tactic| walk_at "call type:enumerate") => `(tactic| (refine Stop.of ?_))
local macro_rules | `(tactic| walk_at "call type:range") => `(tactic| (refine Stop.of ?_))
local macro_rules | `(tactic| walk_at "call builtin:sum") => `(tactic| (refine Stop.of ?_))
local macro_rules | `(tactic| walk_at "exec If") => `(tactic| (refine Stop.of ?_))
local macro_rules | `(tactic| walk_at "eval ListComp") => `(tactic| (refine Stop.of ?_))
local macro_rules | `(tactic| walk_at "exec Assign cons ListComp") => `(tactic| (refine Stop.of ?_))
local macro_rules | `(tactic| walk_at "exec For Name Name cons nil") => `(tactic| (refine Stop.of ?_))
local macro_rules | `(tactic| walk_at "exec For Name Call cons nil") => `(tactic| (refine Stop.of ?_))
local macro_rules | `(tactic| walk_at "exec For Name Subscript cons nil") => `(tactic| (refine Stop.of ?_))
local macro_rules | `(tactic| walk_at "exec While Compare cons nil") => `(tactic| (refine Stop.of ?_))
local macro_rules | `(tactic| walk_at "exec While Compare") => `(tactic| (refine Stop.of ?_))
local macro_rules | `(tactic| ktr_unf) => `(tactic| (w_top off; repeat' (first | ((with_reducible show wpAny _ _ _ _ _ _); walk1) | ((with_reducible show ite _ _ _); walk1) | (dsimp only; (with_reducible show wpAny _ _ _ _ _ _); walk1) | (dsimp only; (with_reducible show ite _ _ _); walk1) | ((with_reducible show Frag.In _ _ ∧ _); refine ⟨by k_in, ?_⟩; try dsimp only [List.nil_append, List.cons_append]))))

theorem c_xabove {w : World} {A : Around} {s : Shared} {mean : ExcName → Option Value} {mg mb : Str → Option Value} {S : SP} {wn : Nat} {tw : Tok} {va vb : Value} {ss ks : List Nat}
    (X : (Mine.hd.heap_39 w.params).In s.heap) (T : Top Mine.hd.view_39 (looseW Mine.hd.view_39 []) mean mg mb s.heap)
    (hA : A.handled = none) (hd : A.depth < 880) (hw : 2 ≤ wn) (hw7 : wn ≤ 7) (hS : ∀ a o, S a o → s.heap.get? a = some o) (hvb : NumsV S (2 ^ wn) vb ss) (hva : NumsV S (2 ^ wn) va ks)
    (hb : ∀ k ∈ ks, k < 2 ^ 400) (hbs : ∀ k ∈ ss, k < 2 ^ 400) (hk : ks.length ≤ 1000) (hsk : ss.length = ks.length) :
    wpAny (model PySem.Challenge.rw_rr0052_01.row.prog w) A (call (.ref 42) [vb, va, .int ((wn : Nat) : Int) tw, .ref 75] []) (fun r s' => Res S s s' fun S' => NumsV S' (2 ^ wn) r (crossUp ss ks)) NoE s := by
  obtain ⟨ahd, adp, afr, agd, aun⟩ := A
  obtain rfl : ahd = none := hA
  replace hd : adp < 880 := hd
  revert X; k_fill; intro X
  k_dflt (refine' enter (K := Mine.hd.heap_39 w.params) (binds := [(Str.ofString "sums", vb), (Str.ofString "level", va), (Str.ofString "w", .int ((wn : Nat) : Int) tw), (Str.ofString "mul", .ref 75)]) X T.nolimit ?k6 ?k7 ?k8 ?k9 ?kB ?_ ?c2 ?c3 ?c4 ?c5; (case k6 => k_is); (case k7 => k_is); (case k9 => exact BindsTo.of_eq rfl); (case kB => exact locs rfl); (case c2 => exact rfl); (case c3 => exact rfl); (case c4 => exact rfl); (case c5 => decide); (case k8 => (show adp < 1000; omega)))
  intro L h₁ F
  have N : News s.heap L h₁ [] := News.nil
  obtain ⟨aa, vas, rfl, hla, hra⟩ := hva
  have hlaH := hla.heap hS
  have hlen : vas.length = ks.length := hra.1
  obtain ⟨ab, vbs, rfl, hlb, hrb⟩ := hvb
  have hlbH := hlb.heap hS
  have hlenb : vbs.length = ks.length := hrb.1.trans hsk
  ktr_unf
  refine Stop.mk ?_
  rename Fr _ _ _ _ => F1
  rename News _ _ _ _ => N1
  rename_i d _ _ _
  refine For_invV s.heap (by rfl) (by rfl) ?_ (hE := PassesOwn.never)
  ktr_unf
  refine Stop.mk ?_

  refine rng3 (n := ks.length / 2) (by omega) (by omega) (by omega) (fun c : Nat => [(Str.ofString "sums", .ref ab), (Str.ofString "level", .ref aa), (Str.ofString "w", .int ((wn : Nat) : Int) tw), (Str.ofString "mul", .ref 75), (Str.ofString "found", .ref d)])
    (fun i c nx => ∃ vs cnt rest, nx = (d, W.listOf vs.toArray cnt) :: rest ∧ AllR (NumV (SU S rest) (2 ^ wn)) vs ((crossUp ss ks).take i) ∧ (∀ p ∈ rest, p.1 ≠ d))
    rfl F1 N1 ⟨0, ⟨rfl, rfl, rfl, rfl, rfl, trivial⟩, [], _, [], rfl, .nil, by intro p hp; cases hp⟩ ?_ ?_
  · rintro I i t c u nx own h tk hI hi ⟨vs, cnt, rest, rfl, hvs, hrd⟩ hoff hIo hown F2 N2
    have h63 : 2 * i < 2 ^ 63 := by omega
    have h64 : 2 * i + 1 < 2 ^ 63 := by omega
    obtain ⟨x, hx, hxR⟩ := hra.at (i := 2 * i) (by omega)
    obtain ⟨y, hy, hyR⟩ := hra.at (i := 2 * i + 1) (by omega)
    obtain ⟨sx, hsx, hsxR⟩ := hrb.at (i := 2 * i) (by omega)
    obtain ⟨sy, hsy, hsyR⟩ := hrb.at (i := 2 * i + 1) (by omega)
    have hdI : d < I := Nat.lt_trans (Heap.lt_size (N1 _ (.head _)).1) hI
    have e1 : ((2 * i : Nat) : Int) + 1 = ((2 * i + 1 : Nat) : Int) := by omega
    have hi2 : 2 * i + 1 < ks.length := by omega
    have hi3 : 2 * i + 1 < ss.length := by omega
    have bx := hb _ (List.getElem_mem (show 2 * i < ks.length by omega))
    have by' := hb _ (List.getElem_mem hi2)
    have bsx := hbs _ (List.getElem_mem (show 2 * i < ss.length by omega))
    have bsy := hbs _ (List.getElem_mem hi3)
    ktr_unf
    refine Stop.mk ?_
    refine use (c_mul (S := SU S rest) (X.keeps F2.keep) (T.keeps F2.keep) rfl (by show adp + 1 < 890; omega) hw hw7 (SU.stand F2 N2 hS m4) (hsxR.mono SU.left) (hyR.mono SU.left) (up400 bsx) (up400 by') (up800 (big400 bsx by'))) ?_
    intro r1 s' q
    have hr0 : ∀ p ∈ rest, p.1 ≠ (d, W.listOf vs.toArray cnt).1 ∧ p.1 ≠ I := fun p hp => ⟨hrd p hp, hoff p (.tail _ hp)⟩
    obtain ⟨h3, tk3, tl3, rfl, F3, N3, hr3, hR3⟩ := led_step F2 N2 hIo hr0 q
    clear q F2 N2
    ktr_unf
    refine Stop.mk ?_
    refine use (c_mul (S := SU S (rest ++ tl3)) (X.keeps F3.keep) (T.keeps F3.keep) rfl (by show adp + 1 < 890; omega) hw hw7 (SU.stand F3 N3 hS m4) (hsyR.mono SU.left) (hxR.mono SU.left) (up400 bsy) (up400 bx) (up800 (big400 bsy bx))) ?_
    intro r2 s' q
    obtain ⟨h4, tk4, tl4, rfl, F4, N4, hr4, hR4⟩ := led_step F3 N3 hIo hr3 q
    clear q F3 N3
    ktr_unf
    rename Fr _ _ _ _ => F5
    rename News _ _ _ _ => N5x
    have N5 := sub N5x fun p hp => List.mem_cons_of_mem _ hp
    clear N5x
    dsimp only
    ktr_unf
    refine Stop.mk ?_
    refine use (c_add (S := SU S (rest ++ tl3 ++ tl4)) (X.keeps F5.keep) (T.keeps F5.keep) ?hA ?hd hw hw7 (SU.stand F5 N5 hS m4) (hR3.mono fun a o z => SU.more m3 _ _ (SU.app _ _ z)) (hR4.mono SU.app) (up800 (big400 bsx by')) (up800 (big400 bsy bx))) ?_
    case hA => rfl
    case hd => show adp + 1 < 890; omega
    intro r s' q
    obtain ⟨h6, tk6, tl6, rfl, F6, N6, hr6, hR6⟩ := led_step F5 N5 hIo hr4 q
    have hap : ∀ p ∈ own ++ (rest ++ tl3 ++ tl4 ++ tl6), p.1 ≠ d := by
      intro p hp e
      rcases List.mem_append.mp hp with hp | hp
      · exact Nat.ne_of_gt hdI ((hown p hp).symm.trans e)
      · exact (hr6 p hp).1 e
    have N7 := sub N6 m8
    have hsz : vs.toArray.size ≤ sizeLine := by rw [List.size_toArray, hvs.1, List.length_take, sizeLine_eq]; omega
    clear F5 N5 N6 q
    ktr_unf
    rename Fr _ _ _ _ => F8
    rename News _ _ _ _ => N8
    simp only [List.push_toArray] at N8
    refine ⟨rfl, _, _, _, 0, (d, W.listOf (vs ++ [r]).toArray (cnt + 1)) :: (rest ++ tl3 ++ tl4 ++ tl6), rfl, F8, sub N8 m9, ?_, ⟨rfl, rfl, rfl, rfl, rfl, trivial⟩, vs ++ [r], _, rest ++ tl3 ++ tl4 ++ tl6, rfl, ?_, fun p hp => (hr6 p hp).1⟩
    · intro p hp
      rcases List.mem_cons.mp hp with rfl | hp
      · exact Nat.ne_of_lt hdI
      · exact (hr6 p hp).2
    · rw [List.take_add_one, crossUp_at ss ks i _ _ _ _ (List.getElem?_eq_getElem (show 2 * i < ss.length by omega)) (List.getElem?_eq_getElem hi3) (List.getElem?_eq_getElem (show 2 * i < ks.length by omega)) (List.getElem?_eq_getElem hi2)]
      exact (hvs.mono fun _ _ x => x.mono (SU.more fun p hp => m3 p (m3 p (m3 p hp)))).append (.one (hR6.mono SU.app))
  · rintro c u nx h tk ⟨vs, cnt, rest, rfl, hvs, hrd⟩ F2 N2
    have hvl : vs.length = ks.length / 2 := by rw [hvs.1, List.length_take, crossUp_len _ _ hsk]; omega
    clear F1 N1
    ktr_unf
    refine Stop.mk ?_
    have e2 : ((ks.length / 2 : Nat) : Int) * 2 = ((2 * (ks.length / 2) : Nat) : Int) := by omega
    rw [e2]
    refine slice_list F2 N2 (hlbH.at fun o e => F2.keep _ _ e) (.int _ _) .none (fun h4 F4 N4 => ?_) (hsz := by rw [List.size_toArray, hlenb, sizeLine_eq]; omega)
    rw [pick_from] at N4
    clear F2 N2
    ktr_unf
    refine Stop.mk ?_
    refine add_lists (vs := vs) (ws := vbs.drop (2 * (ks.length / 2))) F4 N4 (N4.isList (.tail _ (.head _))) (N4.isList (.head _)) (fun h5 F5 N5 => ?_) (hsz := by rw [List.length_drop, hvl, hlenb, sizeLine_eq]; omega)
    clear F4 N4
    ktr_unf
    refine ⟨_, _, _, rfl, F5.keep, fun p hp => ⟨(N5 p hp).1, (N5 p hp).2.2⟩, _, _, rfl, ⟨_, .inr (.head _), rfl, _, rfl⟩, ?_⟩
    rw [← crossUp_rest ss ks hsk]
    exact (hvs.mono fun _ _ x => x.mono (SU.more (by intro p hp; exact .tail _ (.tail _ (.tail _ hp))))).append ((hrb.drop _).mono fun _ _ x => x.mono SU.left)
end Mine
end
section
open PySem PySem.W PyProof.Rows PySem.Calls PySem.Spec
open PyProof.Rows.LCg
set_option maxRecDepth 100000
set_option maxHeartbeats 1000000
namespace Mine
local macro_rules | `(tactic| walk_at "pad") => `(tactic| fail "pad")
local macro_rules | `(tactic| walk_at "binaryOp Pow int int") => `(tactic| (refine PyProof.Rows.pow_int_small (by first | assumption | omega) (by first | assumption | omega) (by decide) ?_))
local macro_rules | `(tactic| walk_at "eval Name") => `(tactic| ((with_reducible show wpAny _ _ (eval (Expr.Name _ _) (compEnvC _ _ _ _)) _ _ _); k_dflt (refine nm_local (by assumption) (by rfl) ?_ (by rfl) (by rfl) (by decide))))
local macro_rules | `(tactic| walk_at "subscriptTail") => `(tactic| ((with_reducible show wpAny _ _ (subscriptTail _ _ (Value.ref _) (Value.int _ _)) _ _ _); k_dflt (first | refine item_at (by assumption) (by assumption) (by assumption) (by first | assumption | omega) ?_ | refine item_at1 (by assumption) (by assumption) (by assumption) (by first | assumption | omega) ?_)))
local macro_rules | `(tactic| walk_at "subscriptTail Name Name ref int") => `(tactic| ((with_reducible show wpAny _ _ (subscriptTail _ _ (Value.ref _) (Value.int _ _)) _ _ _); k_dflt (first | refine item_at (by assumption) (by assumption) (by assumption) (by first | assumption | omega) ?_ | refine item_at1 (by assumption) (by assumption) (by assumption) (by first | assumption | omega) ?_)))
local macro_rules | `(tactic| walk_at "subscriptTail Name BinOp ref int") => `(tactic| ((with_reducible show wpAny _ _ (subscriptTail _ _ (Value.ref _) (Value.int _ _)) _ _ _); k_dflt (first | refine item_at (by assumption) (by assumption) (by assumption) (by first | assumption | omega) ?_ | refine item_at1 (by assumption) (by assumption) (by assumption) (by first | assumption | omega) ?_)))
local macro_rules | `(tactic| walk_at "subscriptTail Name UnaryOp ref int") => `(tactic| ((with_reducible show wpAny _ _ (subscriptTail _ _ (Value.ref _) (Value.int _ _)) _ _ _); k_dflt (first | refine item_last (News.isList (by k_asm) (by k_mem)) (by assumption) (by decide) ?_ | refine item_last (by assumption) (by assumption) (by decide) ?_)))
local macro_rules | `(tactic| walk_at "call builtin:list.append") => `(tactic| ((with_reducible show wpAny _ _ (call (Value.builtin _) [Value.ref _, _]) _ _ _); k_dflt (refine' append_K ?k1 ?k2 (Upd.head ?k3) ?_ ?z; (case k1 => k_asm); (case k2 => k_asm); (case k3 => first | assumption | exact List.forall_mem_nil _); (case z => first | assumption | size_fits)); intro h' F' N'; (try k_sweep)))
local macro_rules | `(tactic| walk_at "call builtin:len") => `(tactic| ((with_reducible show wpAny _ _ (call (Value.builtin "len") [Value.ref _]) _ _ _); k_dflt (first | refine len_at (by assumption) (by assumption) (by assumption) (by omega) ?_ | refine len_at1 (by assumption) (by assumption) (by assumption) (by omega) ?_ | refine len_at1 (by assumption) (News.isList (by k_asm) (by k_mem)) (by assumption) (by omega) ?_)))
local macro_rules | `(tactic| walk_at "pyIter ref") => `(tactic| ((with_reducible show wpAny _ _ (pyIter (Value.ref _)) _ _ _); refine Stop.of ?_))
local macro_rules | `(tactic| walk_at "execs cons Assign cons") => `(tactic| (refine wpAny_execs_cons ?_))
local macro_rules | `(tactic| walk_at "execs cons") => `(tactic| (refine wpAny_execs_cons ?_))
local macro_rules | `(tactic| walk_at "subscriptTail Name Slice ref ref") => `(tactic| (refine Stop.of ?_))
local macro_rules | `(tactic| walk_at "binaryOp Add ref ref") => `(tactic| (refine Stop.of ?_))
local macro_rules | `(tactic| walk_at "call ref") => `(tactic| (refine Stop.of ?_))
local macro_rules | `(tactic| walk_at "call type:enumerate") => `(tactic| (refine Stop.of ?_))
local macro_rules | `(tactic| walk_at "call type:range") => `(tactic| (refine Stop.of ?_))
local macro_rules | `(tactic| walk_at "call builtin:sum") => `(tactic| (refine Stop.of ?_))
local macro_rules | `(tactic| walk_at "exec If") => `(tactic| (refine Stop.of ?_))
local macro_rules | `(tactic| walk_at "eval ListComp") => `(tactic| (refine Stop.of ?_))
local macro_rules | `(tactic| walk_at "exec Assign cons ListComp") => `(tactic| (refine Stop.of ?_))
local macro_rules | `(tactic| walk_at "exec For Name Name cons nil") => `(tactic| (refine Stop.of ?_))
local macro_rules | `(tactic| walk_at "exec For Name Call cons nil") => `(tactic| (refine Stop.of ?_))
local macro_rules | `(tactic| walk_at "exec For Name Subscript cons nil") => `(tactic| (refine Stop.of ?_))
local macro_rules | `(tactic| walk_at "exec While Compare cons nil") => `(tactic| (refine Stop.of ?_))
local macro_rules | `(tactic| walk_at "exec While Compare") => `(tactic| (refine Stop.of ?_))
local macro_rules | `(tactic| ktr_unf) => `(tactic| (w_top off; repeat' (first | ((with_reducible show wpAny _ _ _ _ _ _); walk1) | ((with_reducible show ite _ _ _); walk1) | (dsimp only; (with_reducible show wpAny _ _ _ _ _ _); walk1) | (dsimp only; (with_reducible show ite _ _ _); walk1) | ((with_reducible show Frag.In _ _ ∧ _); refine ⟨by k_in, ?_⟩; try dsimp only [List.nil_append, List.cons_append]))))


theorem c_tree {w : World} {A : Around} {s : Shared} {mean : ExcName → Option Value} {mg mb : Str → Option Value} {S : SP} {wn : Nat} {tw : Tok} {va : Value} {ks : List Nat}
    (X : (Mine.hd.heap_39 w.params).In s.heap) (T : Top Mine.hd.view_39 (looseW Mine.hd.view_39 []) mean mg mb s.heap)
    (hA : A.handled = none) (hd : A.depth < 870) (hw : 2 ≤ wn) (hw7 : wn ≤ 7) (hS : ∀ a o, S a o → s.heap.get? a = some o) (hva : NumsV S (2 ^ wn) va ks)
    (hb : bigP ks < 2 ^ 1000) (hk : ks.length ≤ 1000) :
    wpAny (model PySem.Challenge.rw_rr0052_01.row.prog w) A (call (.ref 35) [va, .int ((wn : Nat) : Int) tw, .ref 75] []) (fun r s' => Res S s s' fun S' => LevsV S' (2 ^ wn) r (tree ks)) NoE s := by
  obtain ⟨ahd, adp, afr, agd, aun⟩ := A
  obtain rfl : ahd = none := hA
  replace hd : adp < 870 := hd
  revert X; k_fill; intro X
  k_dflt (refine' enter (K := Mine.hd.heap_39 w.params) (binds := [(Str.ofString "some", va), (Str.ofString "w", .int ((wn : Nat) : Int) tw), (Str.ofString "mul", .ref 75)]) X T.nolimit ?k6 ?k7 ?k8 ?k9 ?kB ?_ ?c2 ?c3 ?c4 ?c5; (case k6 => k_is); (case k7 => k_is); (case k9 => exact BindsTo.of_eq rfl); (case kB => exact locs rfl); (case c2 => exact rfl); (case c3 => exact rfl); (case c4 => exact rfl); (case c5 => decide); (case k8 => (show adp < 1000; omega)))
  intro L h₁ F
  have N : News s.heap L h₁ [] := News.nil
  obtain ⟨aa, vas, rfl, hla, hra⟩ := hva
  have hlaH := hla.heap hS
  have hlen : vas.length = ks.length := hra.1
  ktr_unf
  refine Stop.mk ?_
  refine slice_any (ws := vas) F N (hlaH.at fun o e => F.keep _ _ e) .none .none (PySem.slicePick_all _) (by omega) fun D h2 F2 N2 => ?_
  clear F N
  ktr_unf
  refine Stop.mk ?_
  rename Fr _ _ _ _ => F3
  rename News _ _ _ _ => N3
  rename_i d _ hlt _
  have hDd : ∀ p ∈ [(D, W.listOf vas.toArray 0)], p.1 ≠ d := by intro p hp; rw [List.mem_singleton.mp hp]; exact Nat.ne_of_lt hlt
  refine while_rule (fun c : Nat => [(Str.ofString "some", .ref aa), (Str.ofString "w", .int ((wn : Nat) : Int) tw), (Str.ofString "mul", .ref 75), (Str.ofString "levels", .ref d)])
    (fun n' _ nx => ∃ (pvs : List Value) (ac : Addr) (vcs : List Value) (cnt : Nat) (rest : List (Addr × Obj)) (pre : List (List Nat)) (cur : List Nat), nx = (d, W.listOf (pvs ++ [Value.ref ac]).toArray cnt) :: rest ∧
      AllR (NumsV (SU S rest) (2 ^ wn)) pvs pre ∧ IsL (SU S rest) ac vcs ∧ AllR (NumV (SU S rest) (2 ^ wn)) vcs cur ∧ pre ++ tree cur = tree ks ∧ n' = cur.length ∧ bigP cur ≤ bigP ks ∧ pre.length + cur.length ≤ ks.length ∧ (∀ p ∈ rest, p.1 ≠ d))
    F3 N3 ⟨_, 0, ⟨rfl, rfl, rfl, rfl, trivial⟩, [], D, vas, 0, [(D, W.listOf vas.toArray 0)], [], ks, rfl, .nil, ⟨_, .inr (.head _), rfl, _, rfl⟩, hra.mono fun _ _ z => z.mono SU.left, rfl, rfl, Nat.le_refl _, by simp, hDd⟩ ?_
  rintro n' c u nx h tk ⟨pvs, ac, vcs, cnt, rest, pre, cur, rfl, hpv, hcl, hcr, htr, rfl, hbc, hsz, hrd⟩ F4 N4
  clear F3 N3 hDd
  have hclH := hcl.heap (SU.stand F4 N4 hS fun p hp => .tail _ hp)
  have hvcl : vcs.length = cur.length := hcr.1
  have hgl : (pvs ++ [Value.ref ac]).getLast? = some (.ref ac) := by simp
  have hc60 : cur.length < 2 ^ 60 := by omega
  ktr_unf
  · rename (1 : Int) < _ => hgt
    have hgt' : 1 < cur.length := by omega
    refine Stop.mk ?_
    have hdp := hd
    refine use (c_above (S := SU S rest) (X.keeps F4.keep) (T.keeps F4.keep) ?hA ?hd hw hw7 (SU.stand F4 N4 hS fun p hp => .tail _ hp) ⟨ac, vcs, rfl, hcl, hcr⟩ (Nat.lt_of_le_of_lt hbc hb) (by omega)) ?_
    case hA => rfl
    case hd => show adp + 1 < 880; omega
    intro r s' q
    obtain ⟨h5, tk5, tl, rfl, F5, N5, hdj, hR⟩ := after_res F4 N4 q
    obtain ⟨a2, v2, rfl, hl2, hr2⟩ := hR
    have hap : ∀ p ∈ rest ++ tl, p.1 ≠ d := by
      intro p hp
      rcases List.mem_append.mp hp with hp | hp
      · exact hrd p hp
      · exact hdj p hp _ (.head _)
    have hsz2 : (pvs ++ [Value.ref ac]).toArray.size ≤ sizeLine := by rw [List.size_toArray, List.length_append, hpv.1, sizeLine_eq, List.length_singleton]; omega
    clear q F4 N4 hclH
    ktr_unf
    rename Fr _ _ _ _ => F8
    rename News _ _ _ _ => N8
    simp only [List.push_toArray] at N8
    have hlt2 := pairUp_lt hgt'
    refine ⟨rfl, _, _, _, 0, (d, W.listOf ((pvs ++ [Value.ref ac]) ++ [Value.ref a2]).toArray (cnt + 1)) :: (rest ++ tl), _, rfl, hlt2, F8, N8, ⟨rfl, rfl, rfl, rfl, trivial⟩, pvs ++ [Value.ref ac], a2, v2, cnt + 1, rest ++ tl, pre ++ [cur], pairUp cur, rfl, ?_, hl2.mono SU.app, hr2.mono fun _ _ z => z.mono SU.app, ?_, rfl, Nat.le_trans (bigP_pairUp cur) hbc, ?_, hap⟩
    · exact (hpv.mono fun _ _ z => z.mono (SU.more m3)).append (.one ⟨ac, vcs, rfl, hcl.mono (SU.more m3), hcr.mono fun _ _ z => z.mono (SU.more m3)⟩)
    · rw [← htr, tree_more hgt', List.append_assoc]; rfl
    · rw [List.length_append, List.length_singleton]; rw [pairUp_len] at *; omega
  · rename ¬ (1 : Int) < _ => hgt
    have hgt' : ¬ 1 < cur.length := by omega
    rw [tree_one hgt'] at htr
    rw [← htr]
    refine ⟨_, _, _, rfl, F4.keep, fun p hp => ⟨(N4 p hp).1, (N4 p hp).2.2⟩, d, _, rfl, ⟨_, .inr (.head _), rfl, _, rfl⟩, ?_⟩
    exact (hpv.mono fun _ _ z => z.mono (SU.more fun p hp => .tail _ hp)).append (.one ⟨ac, vcs, rfl, hcl.mono (SU.more fun p hp => .tail _ hp), hcr.mono fun _ _ z => z.mono (SU.more fun p hp => .tail _ hp)⟩)
end Mine
end
section
open PySem PySem.W PyProof.Rows PySem.Calls PySem.Spec
open PyProof.Rows.LCg
set_option maxRecDepth 100000
set_option maxHeartbeats 1000000
namespace Mine
local macro_rules | `(tactic| walk_at "pad") => `(tactic| fail "pad")
local macro_rules | `(tactic| walk_at "binaryOp Pow int int") => `(tactic| (refine PyProof.Rows.pow_int_small (by first | assumption | omega) (by first | assumption | omega) (by decide) ?_))
local macro_rules | `(tactic| walk_at "eval Name") => `(tactic| ((with_reducible show wpAny _ _ (eval (Expr.Name _ _) (compEnvC _ _ _ _)) _ _ _); k_dflt (refine nm_local (by assumption) (by rfl) ?_ (by rfl) (by rfl) (by decide))))
local macro_rules | `(tactic| walk_at "subscriptTail") => `(tactic| ((with_reducible show wpAny _ _ (subscriptTail _ _ (Value.ref _) (Value.int _ _)) _ _ _); k_dflt (first | refine item_at (by assumption) (by assumption) (by assumption) (by first | assumption | omega) ?_ | refine item_at1 (by assumption) (by assumption) (by assumption) (by first | assumption | omega) ?_)))
local macro_rules | `(tactic| walk_at "subscriptTail Name Name ref int") => `(tactic| ((with_reducible show wpAny _ _ (subscriptTail _ _ (Value.ref _) (Value.int _ _)) _ _ _); k_dflt (first | refine item_at (by assumption) (by assumption) (by assumption) (by first | assumption | omega) ?_ | refine item_at1 (by assumption) (by assumption) (by assumption) (by first | assumption | omega) ?_)))
local macro_rules | `(tactic| walk_at "subscriptTail Name BinOp ref int") => `(tactic| ((with_reducible show wpAny _ _ (subscriptTail _ _ (Value.ref _) (Value.int _ _)) _ _ _); k_dflt (first | refine item_at (by assumption) (by assumption) (by assumption) (by first | assumption | omega) ?_ | refine item_at1 (by assumption) (by assumption) (by assumption) (by first | assumption | omega) ?_)))
local macro_rules | `(tactic| walk_at "subscriptTail Name UnaryOp ref int") => `(tactic| ((with_reducible show wpAny _ _ (subscriptTail _ _ (Value.ref _) (Value.int _ _)) _ _ _); k_dflt (first | refine item_last (News.isList (by k_asm) (by k_mem)) (by assumption) (by decide) ?_ | refine item_last (by assumption) (by assumption) (by decide) ?_)))
local macro_rules | `(tactic| walk_at "subscriptTail Name Constant ref int") => `(tactic| ((with_reducible show wpAny _ _ (subscriptTail _ _ (Value.ref _) (Value.int _ _)) _ _ _); k_dflt (refine item_zero (by assumption) (by assumption) ?_)))
local macro_rules | `(tactic| walk_at "call builtin:list.append") => `(tactic| ((with_reducible show wpAny _ _ (call (Value.builtin _) [Value.ref _, _]) _ _ _); k_dflt (refine' append_K ?k1 ?k2 (Upd.head ?k3) ?_ ?z; (case k1 => k_asm); (case k2 => k_asm); (case k3 => first | assumption | exact List.forall_mem_nil _); (case z => first | assumption | size_fits)); intro h' F' N'; (try k_sweep)))
local macro_rules | `(tactic| walk_at "call builtin:len") => `(tactic| ((with_reducible show wpAny _ _ (call (Value.builtin "len") [Value.ref _]) _ _ _); k_dflt (first | refine len_at (by assumption) (by assumption) (by assumption) (by omega) ?_ | refine len_at1 (by assumption) (by assumption) (by assumption) (by omega) ?_ | refine len_at1 (by assumption) (News.isList (by k_asm) (by k_mem)) (by assumption) (by omega) ?_)))
local macro_rules | `(tactic| walk_at "pyIter ref") => `(tactic| ((with_reducible show wpAny _ _ (pyIter (Value.ref _)) _ _ _); refine Stop.of ?_))
local macro_rules | `(tactic| walk_at "execs cons Assign cons") => `(tactic| (refine wpAny_execs_cons ?_))
local macro_rules | `(tactic| walk_at "execs cons") => `(tactic| (refine wpAny_execs_cons ?_))
local macro_rules | `(tactic| walk_at "subscriptTail Name Slice ref ref") => `(tactic| (refine Stop.of ?_))
local macro_rules | `(tactic| walk_at "binaryOp Add ref ref") => `(tactic| (refine Stop.of ?_))
local macro_rules | `(tactic| walk_at "call ref") => `(tactic| (refine Stop.of ?_))
local macro_rules | `(tactic| walk_at "call type:enumerate") => `(tactic| (refine Stop.of ?_))
local macro_rules | `(tactic| walk_at "call type:range") => `(tactic| (refine Stop.of ?_))
local macro_rules | `(tactic| walk_at "call builtin:sum") => `(tactic| (refine Stop.of ?_))
local macro_rules | `(tactic| walk_at "exec If") => `(tactic| (refine Stop.of ?_))
local macro_rules | `(tactic| walk_at "eval ListComp") => `(tactic| (refine Stop.of ?_))
local macro_rules | `(tactic| walk_at "exec Assign cons ListComp") => `(tactic| (refine Stop.of ?_))
local macro_rules | `(tactic| walk_at "exec For Name Name cons nil") => `(tactic| (refine Stop.of ?_))
local macro_rules | `(tactic| walk_at "exec For Name Call cons nil") => `(tactic| (refine Stop.of ?_))
local macro_rules | `(tactic| walk_at "exec For Name Subscript cons nil") => `(tactic| (refine Stop.of ?_))
local macro_rules | `(tactic| walk_at "exec While Compare cons nil") => `(tactic| (refine Stop.of ?_))
local macro_rules | `(tactic| walk_at "exec While Compare") => `(tactic| (refine Stop.of ?_))
local macro_rules | `(tactic| ktr_unf) => `(tactic| (w_top off; repeat' (first | ((with_reducible show wpAny _ _ _ _ _ _); walk1) | ((with_reducible show ite _ _ _); walk1) | (dsimp only; (with_reducible show wpAny _ _ _ _ _ _); walk1) | (dsimp only; (with_reducible show ite _ _ _); walk1) | ((with_reducible show Frag.In _ _ ∧ _); refine ⟨by k_in, ?_⟩; try dsimp only [List.nil_append, List.cons_append]))))


theorem c_crossed {w : World} {A : Around} {s : Shared} {mean : ExcName → Option Value} {mg mb : Str → Option Value} {S : SP} {wn : Nat} {tw : Tok} {va vb : Value} {ss : List Nat} {kss : List (List Nat)}
    (X : (Mine.hd.heap_39 w.params).In s.heap) (T : Top Mine.hd.view_39 (looseW Mine.hd.view_39 []) mean mg mb s.heap)
    (hA : A.handled = none) (hd : A.depth < 870) (hw : 2 ≤ wn) (hw7 : wn ≤ 7) (hS : ∀ a o, S a o → s.heap.get? a = some o) (hvb : NumsV S (2 ^ wn) vb ss) (hva : LevsV S (2 ^ wn) va kss)
    (hk : kss.length ≤ 1000) (hok : Ok ss (kss.take (kss.length - 1))) :
    wpAny (model PySem.Challenge.rw_rr0052_01.row.prog w) A (call (.ref 49) [vb, va, .int ((wn : Nat) : Int) tw, .ref 75] []) (fun r s' => Res S s s' fun S' => NumV S' (2 ^ wn) r ((crossAll ss (kss.take (kss.length - 1))).headD 0)) NoE s := by
  obtain ⟨ahd, adp, afr, agd, aun⟩ := A
  obtain rfl : ahd = none := hA
  replace hd : adp < 870 := hd
  revert X; k_fill; intro X
  k_dflt (refine' enter (K := Mine.hd.heap_39 w.params) (binds := [(Str.ofString "sums", vb), (Str.ofString "levels", va), (Str.ofString "w", .int ((wn : Nat) : Int) tw), (Str.ofString "mul", .ref 75)]) X T.nolimit ?k6 ?k7 ?k8 ?k9 ?kB ?_ ?c2 ?c3 ?c4 ?c5; (case k6 => k_is); (case k7 => k_is); (case k9 => exact BindsTo.of_eq rfl); (case kB => exact locs rfl); (case c2 => exact rfl); (case c3 => exact rfl); (case c4 => exact rfl); (case c5 => decide); (case k8 => (show adp < 1000; omega)))
  intro L h₁ F
  have N : News s.heap L h₁ [] := News.nil
  obtain ⟨aa, vas, rfl, hla, hra⟩ := hva
  have hlaH := hla.heap hS
  have hlen : vas.length = kss.length := hra.1
  ktr_unf
  refine Stop.mk ?_
  refine For_invV s.heap (by rfl) (by rfl) ?_ (hE := PassesOwn.never)
  ktr_unf
  refine Stop.mk ?_
  refine slice_any (ws := vas.take (vas.length - 1)) F N (hlaH.at fun o e => F.keep _ _ e) .none (.int _ _) (pick_butlast _) (by omega) fun D h2 F2 N2 => ?_
  clear F N
  ktr_unf
  refine Stop.mk ?_
  refine iter_list (items := vas.take (vas.length - 1)) (fun c : Value => [(Str.ofString "sums", c), (Str.ofString "levels", .ref aa), (Str.ofString "w", .int ((wn : Nat) : Int) tw), (Str.ofString "mul", .ref 75)])
    (fun i c nx => ∃ cur, NumsV (SU S nx) (2 ^ wn) c cur ∧ crossAll cur ((kss.take (kss.length - 1)).drop i) = crossAll ss (kss.take (kss.length - 1)) ∧ Ok cur ((kss.take (kss.length - 1)).drop i))
    rfl (N2.isList (.head _)) (N2 _ (.head _)).2.1 F2 N2 ⟨_, ⟨rfl, rfl, rfl, rfl, trivial⟩, ss, hvb.mono SU.left, rfl, hok⟩ ?_ ?_
  · rintro I i v c u nx own h tk hI hv ⟨cur, hcv, hca, hco⟩ hoff hIo hown F3 N3
    have hrt := hra.take (vas.length - 1)
    rw [show kss.take (vas.length - 1) = kss.take (kss.length - 1) by rw [hlen]] at hrt
    obtain ⟨hi1, hi2⟩ := List.getElem?_eq_some_iff.mp hv
    have hik : i < (kss.take (kss.length - 1)).length := hrt.1 ▸ hi1
    have hvR : NumsV S (2 ^ wn) v (kss.take (kss.length - 1))[i] := hrt.2 i _ _ hv (List.getElem?_eq_getElem hik)
    rw [List.drop_eq_getElem_cons hik] at hca hco
    generalize (kss.take (kss.length - 1))[i] = ks at hca hco hvR
    obtain ⟨ho1, ho2, ho3, ho4, ho5⟩ := hco
    ktr_unf
    refine Stop.mk ?_
    refine use (c_xabove (S := SU S nx) (X.keeps F3.keep) (T.keeps F3.keep) ?hA ?hd hw hw7 (SU.stand F3 N3 hS fun p hp => List.mem_append_right _ hp) hcv (hvR.mono SU.left) ho3 ho4 ho2 ho1) ?_
    case hA => rfl
    case hd => show adp + 1 < 880; omega
    intro r s' q
    obtain ⟨h5, tk5, tl, rfl, F5, N5, hdj, hR⟩ := after_res F3 N3 q
    clear q
    ktr_unf
    rename Fr _ _ _ _ => F8
    rename News _ _ _ _ => N8
    rw [List.append_assoc] at N8
    refine ⟨rfl, _, _, _, r, nx ++ tl, rfl, F8, N8, ?_, ⟨rfl, rfl, rfl, rfl, trivial⟩, crossUp cur ks, hR.mono SU.app, hca, ho5⟩
    intro p hp
    rcases List.mem_append.mp hp with hp | hp
    · exact hoff p hp
    · obtain ⟨o, ho⟩ := hIo
      exact hdj p hp (I, o) (List.mem_append_left _ ho)
  · rintro c u nx h tk ⟨cur, hcv, hca, hco⟩ F3 N3
    have e0 : (kss.take (kss.length - 1)).drop (vas.take (vas.length - 1)).length = [] := by rw [List.length_take, hlen]; exact List.drop_eq_nil_of_le (by rw [List.length_take]; omega)
    rw [e0] at hca hco
    have hca' : cur = crossAll ss (kss.take (kss.length - 1)) := hca
    have hco' : cur.length ≤ 1000 := hco
    rw [← hca']
    clear F2 N2 hca hco hca' e0
    obtain ⟨ac, vcs, rfl, hcl, hcr⟩ := hcv
    have hclH := hcl.heap (SU.stand F3 N3 hS fun p hp => hp)
    have hvcl : vcs.length = cur.length := hcr.1
    have hc60 : cur.length < 2 ^ 60 := by omega
    cases cur with
    | nil =>
      ktr_unf
      rename Fr _ _ _ _ => F8
      rename News _ _ _ _ => N8
      refine num_res (n := 0) (cnt := 0) (vs := []) (xs := []) F8 (sub N8 fun p hp => by rw [List.mem_singleton.mp hp]; exact .head _) .nil (limbs_zero _).symm
    | cons x xs =>
      obtain ⟨v0, hv0, hR0⟩ := hcr.at (i := 0) (by simp)
      have hR0' : NumV (SU S nx) (2 ^ wn) v0 x := hR0
      ktr_unf
      · exact ⟨_, _, nx, rfl, F3.keep, fun p hp => ⟨(N3 p hp).1, (N3 p hp).2.2⟩, hR0'⟩
      · rename ¬ (0 : Int) < _ => hc
        exact absurd (by simp only [List.length_cons]; omega) hc
end Mine
end
section
open PySem PySem.W PyProof.Rows PySem.Calls PySem.Spec
open PyProof.Rows.LCg
set_option maxRecDepth 100000
set_option maxHeartbeats 1000000
namespace Mine
local macro_rules | `(tactic| walk_at "binaryOp Pow int int") => `(tactic| (refine PyProof.Rows.pow_int_small (by first | with_reducible assumption | omega) (by first | with_reducible assumption | omega) (by decide) ?_))
local macro_rules | `(tactic| walk_at "eval Name") => `(tactic| ((with_reducible show wpAny _ _ (eval (Expr.Name _ _) (compEnvC _ _ _ _)) _ _ _); k_dflt (refine nm_local (by with_reducible assumption) (by rfl) ?_ (by rfl) (by rfl) (by decide))))
local macro_rules | `(tactic| walk_at "subscriptTail") => `(tactic| ((with_reducible show wpAny _ _ (subscriptTail _ _ (Value.ref _) (Value.int _ _)) _ _ _); k_dflt (first | refine item_at (by with_reducible assumption) (by with_reducible assumption) (by with_reducible assumption) (by first | with_reducible assumption | omega) ?_ | refine item_at1 (by with_reducible assumption) (by with_reducible assumption) (by with_reducible assumption) (by first | with_reducible assumption | omega) ?_)))
local macro_rules | `(tactic| walk_at "subscriptTail Name Name ref int") => `(tactic| ((with_reducible show wpAny _ _ (subscriptTail _ _ (Value.ref _) (Value.int _ _)) _ _ _); k_dflt (first | refine item_at (by with_reducible assumption) (by with_reducible assumption) (by with_reducible assumption) (by first | with_reducible assumption | omega) ?_ | refine item_at1 (by with_reducible assumption) (by with_reducible assumption) (by with_reducible assumption) (by first | with_reducible assumption | omega) ?_)))
local macro_rules | `(tactic| walk_at "subscriptTail Name BinOp ref int") => `(tactic| ((with_reducible show wpAny _ _ (subscriptTail _ _ (Value.ref _) (Value.int _ _)) _ _ _); k_dflt (first | refine item_at (by with_reducible assumption) (by with_reducible assumption) (by with_reducible assumption) (by first | with_reducible assumption | omega) ?_ | refine item_at1 (by with_reducible assumption) (by with_reducible assumption) (by with_reducible assumption) (by first | with_reducible assumption | omega) ?_)))
local macro_rules | `(tactic| walk_at "subscriptTail Name UnaryOp ref int") => `(tactic| ((with_reducible show wpAny _ _ (subscriptTail _ _ (Value.ref _) (Value.int _ _)) _ _ _); k_dflt (first | refine item_last (News.isList (by k_asm) (by k_mem)) (by with_reducible assumption) (by decide) ?_ | refine item_last (by with_reducible assumption) (by with_reducible assumption) (by decide) ?_)))
local macro_rules | `(tactic| walk_at "subscriptTail Name Constant ref int") => `(tactic| ((with_reducible show wpAny _ _ (subscriptTail _ _ (Value.ref _) (Value.int _ _)) _ _ _); k_dflt (refine item_zero (by with_reducible assumption) (by with_reducible assumption) ?_)))
local macro_rules | `(tactic| walk_at "call builtin:list.append") => `(tactic| ((with_reducible show wpAny _ _ (call (Value.builtin _) [Value.ref _, _]) _ _ _); k_dflt (refine' append_K ?k1 ?k2 (Upd.head ?k3) ?_ ?z; (case k1 => k_asm); (case k2 => k_asm); (case k3 => first | assumption | exact List.forall_mem_nil _); (case z => first | assumption | size_fits)); intro h' F' N'; (try k_sweep)))
local macro_rules | `(tactic| walk_at "call builtin:len") => `(tactic| ((with_reducible show wpAny _ _ (call (Value.builtin "len") [Value.ref _]) _ _ _); k_dflt (first | refine len_at (by with_reducible assumption) (by with_reducible assumption) (by with_reducible assumption) (by omega) ?_ | refine len_at1 (by with_reducible assumption) (by with_reducible assumption) (by with_reducible assumption) (by omega) ?_ | refine len_at1 (by with_reducible assumption) (News.isList (by k_asm) (by k_mem)) (by with_reducible assumption) (by omega) ?_)))
local macro_rules | `(tactic| walk_at "pyIter ref") => `(tactic| ((with_reducible show wpAny _ _ (pyIter (Value.ref _)) _ _ _); refine Stop.of ?_))
local macro_rules | `(tactic| walk_at "execs cons Assign cons") => `(tactic| (refine wpAny_execs_cons ?_))
local macro_rules | `(tactic| walk_at "execs cons") => `(tactic| (refine wpAny_execs_cons ?_))
local macro_rules | `(tactic| walk_at "subscriptTail Name Slice ref ref") => `(tactic| (refine Stop.of ?_))
local macro_rules | `(tactic| walk_at "binaryOp Add ref ref") => `(tactic| (refine Stop.of ?_))
local macro_rules | `(tactic| walk_at "call ref") => `(tactic| (refine Stop.of ?_))
local macro_rules | `(tactic| walk_at "call type:enumerate") => `(tactic| (refine Stop.of ?_))
local macro_rules | `(tactic| walk_at "call type:range") => `(tactic| (refine Stop.of ?_))
local macro_rules | `(tactic| walk_at "call builtin:sum") => `(tactic| (refine Stop.of ?_))
local macro_rules | `(tactic| walk_at "exec If") => `(tactic| (refine Stop.of ?_))
local macro_rules | `(tactic| walk_at "eval ListComp") => `(tactic| (refine Stop.of ?_))
local macro_rules | `(tactic| walk_at "exec Assign cons ListComp") => `(tactic| (refine Stop.of ?_))
local macro_rules | `(tactic| walk_at "exec For Name Name cons nil") => `(tactic| (refine Stop.of ?_))
local macro_rules | `(tactic| walk_at "exec For Name Call cons nil") => `(tactic| (refine Stop.of ?_))
local macro_rules | `(tactic| walk_at "exec For Name Subscript cons nil") => `(tactic| (refine Stop.of ?_))
local macro_rules | `(tactic| walk_at "exec While Compare cons nil") => `(tactic| (refine Stop.of ?_))
local macro_rules | `(tactic| walk_at "exec While Compare") => `(tactic| (refine Stop.of ?_))
local macro_rules | `(tactic| ktr_unf) => `(tactic| (w_top off; repeat' (first | ((with_reducible show wpAny _ _ _ _ _ _); walk1) | ((with_reducible show ite _ _ _); walk1) | (dsimp only; (with_reducible show wpAny _ _ _ _ _ _); walk1) | (dsimp only; (with_reducible show ite _ _ _); walk1) | ((with_reducible show Frag.In _ _ ∧ _); refine ⟨by k_in, ?_⟩; try dsimp only [List.nil_append, List.cons_append]))))


theorem enterB {prog : Program} {w : World} {A : Around} {E : Value → Shared → Prop} {s : Shared} {h0 : Heap} {K : Frag} {name qual : Str} {params : Arguments} {body : List Stmt} {scope : Scope} {dV kV doc pm cdv ct oc : Value} {an od : Option Addr} {osl : Array (Option Value)} {f : Addr} {pos : List Value} {kw : List (Str × Value)} {binds : List (Str × Value)} {Q : Value → Shared → Prop} {news : List (Addr × Obj)}
    (hsub : ∀ b o, h0.get? b = some o → s.heap.get? b = some o) (hsz : h0.objs.size ≤ s.heap.objs.size) (hnews : ∀ p ∈ news, s.heap.get? p.1 = some p.2 ∧ h0.get? p.1 = none)
    (X : K.In h0) (hlim : h0.NoLimit)
    (ho : K.lookup f = some ⟨oc, od, .func (fnOf name qual params body scope dV kV doc pm an cdv ct), osl⟩) (hcd : codeIn K cdv qual = true) (hroom : A.depth < recursionLimit)
    (hbind : BindsTo s (fnOf name qual params body scope dV kV doc pm an cdv ct) ⟨pos, kw⟩ binds) (hloc : ∀ y ∈ binds, scope.names.lookup y.1 = some .local)
    (h : ∀ L h₁, s.heap.objs.size ≤ L → (∀ b o, s.heap.get? b = some o → h₁.get? b = some o) → Fr h0 L h₁ (fun y => binds.reverse.lookup y) → News h0 L h₁ news →
      wpAny (model prog w) (A.deeper (envOf qual scope L f cdv)) (execs body (envOf qual scope L f cdv)) (fun fl s' => Q (match fl with | .ret v => v | _ => .none) s') NoE { s with heap := h₁, toks := s.toks + binds.length })
    (hco : scope.isCoroutine = false) (hgen : scope.isGenerator = false) (hk : scope.kind = .function) (hcell : ∀ x ∈ scope.names, x.2 ≠ .cell) :
    wpAny (model prog w) A (call (.ref f) pos kw) Q E s := by
  refine enter (X.keeps hsub) (hlim.keeps hsub) ho hcd hroom hbind hloc (fun L h₁ F => ?_) hco hgen hk hcell
  refine h L h₁ F.above F.keep ⟨F.ns, fun b o x => F.keep _ _ (hsub _ _ x), Nat.le_trans hsz F.above⟩ fun p hp => ?_
  obtain ⟨h1, h2⟩ := hnews p hp
  exact ⟨F.keep _ _ h1, Nat.ne_of_lt (Nat.lt_of_lt_of_le (Heap.lt_size h1) F.above), h2⟩

theorem item_fst {prog : Program} {w : World} {A : Around} {E : Value → Shared → Prop} {s : Shared} {h₀ : Heap} {L l : Addr} {a b : Value} {n : Nat} {rest : List (Addr × Obj)} {u : Tok} {value slice : PySem.Expr} {Q : Value → Shared → Prop}
    (N : News h₀ L s.heap ((l, W.listOf #[a, b] n) :: rest)) (h : Q a s)
    (hs : subscripted slice false (.ref l) (.int 0 u) = operate [.ref l, .int 0 u] (getItem (.ref l) (.int 0 u)) := by with_unfolding_all rfl) :
    wpAny (model prog w) A (subscriptTail value slice (.ref l) (.int 0 u)) Q E s :=
  tail_any (N.isList (.head _)).typeIs slot_list_getitem.lookup (wpAny_getItem_list (N.isList (.head _)) (by decide) (by decide) (by rfl) h) hs
theorem item_snd {prog : Program} {w : World} {A : Around} {E : Value → Shared → Prop} {s : Shared} {h₀ : Heap} {L l : Addr} {a b : Value} {n : Nat} {rest : List (Addr × Obj)} {u : Tok} {value slice : PySem.Expr} {Q : Value → Shared → Prop}
    (N : News h₀ L s.heap ((l, W.listOf #[a, b] n) :: rest)) (h : Q b s)
    (hs : subscripted slice false (.ref l) (.int 1 u) = operate [.ref l, .int 1 u] (getItem (.ref l) (.int 1 u)) := by with_unfolding_all rfl) :
    wpAny (model prog w) A (subscriptTail value slice (.ref l) (.int 1 u)) Q E s :=
  tail_any (N.isList (.head _)).typeIs slot_list_getitem.lookup (wpAny_getItem_list (N.isList (.head _)) (by decide) (by decide) (by rfl) h) hs
theorem item_int {prog : Program} {w : World} {A : Around} {E : Value → Shared → Prop} {s : Shared} {h₀ : Heap} {L l : Addr} {m : Str → Option Value} {vs : List Value} {ns : List Int} {k : Int} {u : Tok} {value slice : PySem.Expr} {Q : Value → Shared → Prop}
    (F : Fr h₀ L s.heap m) (hl : h₀.IsList l vs.toArray) (hi : IntsAre vs ns) (h0 : 0 ≤ k) (h1 : k < ns.length) (h2 : k < 2 ^ 63) (h : ∀ n t, Q (.int n t) s)
    (hs : subscripted slice false (.ref l) (.int k u) = operate [.ref l, .int k u] (getItem (.ref l) (.int k u)) := by with_unfolding_all rfl) :
    wpAny (model prog w) A (subscriptTail value slice (.ref l) (.int k u)) Q E s := by
  have hl2 := hl.at fun o e => F.keep l o e
  have hlt : k.toNat < vs.length := by rw [hi.length]; omega
  obtain ⟨n, t, e, _⟩ := hi.at k.toNat _ (List.getElem?_eq_getElem hlt)
  refine tail_any hl2.typeIs slot_list_getitem.lookup (wpAny_getItem_list hl2 h0 h2 (x := vs[k.toNat]) (by simp [hlt]) ?_) hs
  rw [e]
  exact h n t
local macro_rules | `(tactic| walk_at "subscriptTail") => `(tactic| first
  | ((with_reducible show wpAny _ _ (subscriptTail _ _ (Value.ref _) (Value.int 0 _)) _ _ _); k_dflt (refine item_fst (by with_reducible assumption) ?_))
  | ((with_reducible show wpAny _ _ (subscriptTail _ _ (Value.ref _) (Value.int 1 _)) _ _ _); k_dflt (refine item_snd (by with_reducible assumption) ?_))
  | ((with_reducible show wpAny _ _ (subscriptTail _ _ (Value.ref _) (Value.int _ _)) _ _ _); k_dflt (refine item_int (by with_reducible assumption) (by with_reducible assumption) (by with_reducible assumption) (by omega) (by omega) (by omega) ?_); intro _ _))
local macro_rules | `(tactic| walk_at "subscriptTail Name Constant ref int") => `(tactic| first
  | ((with_reducible show wpAny _ _ (subscriptTail _ _ (Value.ref _) (Value.int 0 _)) _ _ _); k_dflt (refine item_fst (by with_reducible assumption) ?_))
  | ((with_reducible show wpAny _ _ (subscriptTail _ _ (Value.ref _) (Value.int 1 _)) _ _ _); k_dflt (refine item_snd (by with_reducible assumption) ?_)))
def without (h : Heap) (B : Addr) : Heap := h.update B fun o => { o with data := .freed }
theorem without_self (h : Heap) (B : Addr) : (without h B).get? B = none := by
  cases e : (without h B).get? B with
  | none => rfl
  | some o =>
    obtain ⟨h1, h2⟩ := Heap.get?_some_iff.mp e
    obtain ⟨objs, l⟩ := h
    simp only [without, Heap.update, Array.getElem?_modify, if_true] at h1
    obtain ⟨x, _, hx⟩ := Option.map_eq_some_iff.mp h1
    rw [← hx] at h2
    cases h2
theorem without_other (h : Heap) {B b : Addr} (hb : b ≠ B) : (without h B).get? b = h.get? b := Heap.get?_update_other h _ (Ne.symm hb)
theorem without_size (h : Heap) (B : Addr) : (without h B).objs.size = h.objs.size := Heap.size_after_update ..
theorem without_sub {h0 h : Heap} {B : Addr} (hsub : ∀ b o, h0.get? b = some o → h.get? b = some o) (hB : h0.get? B = none) : ∀ b o, h0.get? b = some o → (without h B).get? b = some o := fun b o e => by
  rw [without_other h]
  · exact hsub b o e
  · rintro rfl; rw [hB] at e; cases e

theorem picked_end {M : Nat} (hM : 1 ≤ M) (Z : Int) (t : Tok) : ∃ (k : Nat) (u : Tok), Value.int (Z.fmod ((M : Nat) : Int)) t = .int ((k : Nat) : Int) u ∧ k < M := by
  have h0 : 0 ≤ Z.fmod ((M : Nat) : Int) := by rw [Int.fmod_eq_emod_of_nonneg _ (by omega)]; exact Int.emod_nonneg _ (by omega)
  have h1 : Z.fmod ((M : Nat) : Int) < M := by rw [Int.fmod_eq_emod_of_nonneg _ (by omega)]; exact Int.emod_lt_of_pos _ (by omega)
  exact ⟨(Z.fmod ((M : Nat) : Int)).toNat, t, by rw [Int.toNat_of_nonneg h0], by omega⟩

theorem c_picked {w : World} {A : Around} {s : Shared} {h0 : Heap} {mean : ExcName → Option Value} {mg mb : Str → Option Value} {B C : Addr} {c cn : Nat} {t tm : Tok} {vs : List Value} {ns : List Int} {M : Nat}
    (hsub : ∀ b o, h0.get? b = some o → s.heap.get? b = some o)
    (X : (Mine.hd.heap_39 w.params).In h0) (T : Top Mine.hd.view_39 (looseW Mine.hd.view_39 []) mean mg mb h0)
    (hA : A.handled = none) (hd : A.depth < 880)
    (hB0 : h0.get? B = none) (hBC : C ≠ B)
    (hB : s.heap.get? B = some (W.listOf #[.int ((c : Nat) : Int) t, .ref C] cn)) (hC : s.heap.IsList C vs.toArray) (hi : IntsAre vs ns) (hlen : vs.length ≤ 1000) (hc : c < 100000) (hM : 1 ≤ M) (hM2 : M ≤ 128) :
    wpAny (model PySem.Challenge.rw_rr0052_01.row.prog w) A (call (.ref 56) [.ref B, .int ((M : Nat) : Int) tm] []) (fun r s' => (∃ (k : Nat) (u : Tok), r = .int ((k : Nat) : Int) u ∧ k < M) ∧
      ∃ (h' : Heap) (tk : Nat) (t' : Tok) (cn' : Nat), s' = { s with heap := h', toks := tk } ∧ h'.get? B = some (W.listOf #[.int ((c + 1 : Nat) : Int) t', .ref C] cn') ∧ ∀ b o, b ≠ B → s.heap.get? b = some o → h'.get? b = some o) NoE s := by
  obtain ⟨ahd, adp, afr, agd, aun⟩ := A
  obtain rfl : ahd = none := hA
  replace hd : adp < 880 := hd
  have hsub2 := without_sub hsub hB0
  replace X := X.keeps hsub2
  replace T := T.keeps hsub2
  revert X; k_fill; intro X
  k_dflt (refine' enterB (K := Mine.hd.heap_39 w.params) (h0 := without s.heap B) (news := [(B, W.listOf #[.int ((c : Nat) : Int) t, .ref C] cn)]) (binds := [(Str.ofString "bin_here", .ref B), (Str.ofString "many", .int ((M : Nat) : Int) tm)]) ?kS ?kZ ?kN X T.nolimit ?k6 ?k7 ?k8 ?k9 ?kB ?_ ?c2 ?c3 ?c4 ?c5; (case k6 => k_is); (case k7 => k_is); (case k9 => exact BindsTo.of_eq rfl); (case kB => exact locs rfl); (case c2 => exact rfl); (case c3 => exact rfl); (case c4 => exact rfl); (case c5 => decide); (case k8 => (show adp < 1000; omega)))
  case kS =>
    intro b o e
    have hb : b ≠ B := by rintro rfl; rw [without_self] at e; cases e
    rwa [without_other _ hb] at e
  case kZ => rw [without_size]; exact Nat.le_refl _
  case kN =>
    intro p hp
    rw [List.mem_singleton.mp hp]; exact ⟨hB, without_self _ _⟩
  intro L h₁ hL hk₁ F N
  have hC2 : (without s.heap B).IsList C vs.toArray := by
    obtain ⟨o, ho, r⟩ := hC
    exact ⟨o, by rw [without_other _ hBC]; exact ho, r⟩
  have hln : vs.length = ns.length := hi.length
  have hn60 : ns.length < 2 ^ 60 := by omega
  have hM0 : (0 : Int) < ((M : Nat) : Int) := by omega
  ktr_unf
  refine Stop.mk ?_
  refine wpAny_If ?_
  ktr_unf
  all_goals
    rename Fr _ _ _ _ => F8
    rename News _ _ _ _ => N8
    have h8 := (N8 _ (.head _)).1
    exact ⟨picked_end hM _ _, _, _, _, _, rfl, h8, fun b o hb e => F8.keep b o (by rw [without_other _ hb]; exact e)⟩
end Mine
end
section
open PySem PySem.W PyProof.Rows PySem.Calls PySem.Spec
open PyProof.Rows.LCg
set_option maxRecDepth 100000
set_option maxHeartbeats 1000000
namespace Mine
local macro_rules | `(tactic| walk_at "pad") => `(tactic| fail "pad")
local macro_rules | `(tactic| walk_at "pad") => `(tactic| fail "pad")
local macro_rules | `(tactic| walk_at "pad") => `(tactic| fail "pad")
local macro_rules | `(tactic| walk_at "binaryOp Pow int int") => `(tactic| (refine PyProof.Rows.pow_int_small (by first | with_reducible assumption | omega) (by first | with_reducible assumption | omega) (by decide) ?_))
local macro_rules | `(tactic| walk_at "eval Name") => `(tactic| ((with_reducible show wpAny _ _ (eval (Expr.Name _ _) (compEnvC _ _ _ _)) _ _ _); k_dflt (refine nm_local (by with_reducible assumption) (by rfl) ?_ (by rfl) (by rfl) (by decide))))
local macro_rules | `(tactic| walk_at "subscriptTail") => `(tactic| ((with_reducible show wpAny _ _ (subscriptTail _ _ (Value.ref _) (Value.int _ _)) _ _ _); k_dflt (first | refine item_at (by with_reducible assumption) (by with_reducible assumption) (by with_reducible assumption) (by first | with_reducible assumption | omega) ?_ | refine item_at1 (by with_reducible assumption) (by with_reducible assumption) (by with_reducible assumption) (by first | with_reducible assumption | omega) ?_)))
local macro_rules | `(tactic| walk_at "subscriptTail Name Name ref int") => `(tactic| ((with_reducible show wpAny _ _ (subscriptTail _ _ (Value.ref _) (Value.int _ _)) _ _ _); k_dflt (first | refine item_at (by with_reducible assumption) (by with_reducible assumption) (by with_reducible assumption) (by first | with_reducible assumption | omega) ?_ | refine item_at1 (by with_reducible assumption) (by with_reducible assumption) (by with_reducible assumption) (by first | with_reducible assumption | omega) ?_)))
local macro_rules | `(tactic| walk_at "subscriptTail Name BinOp ref int") => `(tactic| ((with_reducible show wpAny _ _ (subscriptTail _ _ (Value.ref _) (Value.int _ _)) _ _ _); k_dflt (first | refine item_at (by with_reducible assumption) (by with_reducible assumption) (by with_reducible assumption) (by first | with_reducible assumption | omega) ?_ | refine item_at1 (by with_reducible assumption) (by with_reducible assumption) (by with_reducible assumption) (by first | with_reducible assumption | omega) ?_)))
local macro_rules | `(tactic| walk_at "subscriptTail Name UnaryOp ref int") => `(tactic| ((with_reducible show wpAny _ _ (subscriptTail _ _ (Value.ref _) (Value.int _ _)) _ _ _); k_dflt (first | refine item_last (News.isList (by k_asm) (by k_mem)) (by with_reducible assumption) (by decide) ?_ | refine item_last (by with_reducible assumption) (by with_reducible assumption) (by decide) ?_)))
local macro_rules | `(tactic| walk_at "subscriptTail Name Constant ref int") => `(tactic| ((with_reducible show wpAny _ _ (subscriptTail _ _ (Value.ref _) (Value.int _ _)) _ _ _); k_dflt (refine item_zero (by with_reducible assumption) (by with_reducible assumption) ?_)))
local macro_rules | `(tactic| walk_at "call builtin:list.append") => `(tactic| ((with_reducible show wpAny _ _ (call (Value.builtin _) [Value.ref _, _]) _ _ _); k_dflt (refine' append_K ?k1 ?k2 (Upd.head ?k3) ?_ ?z; (case k1 => k_asm); (case k2 => k_asm); (case k3 => first | assumption | exact List.forall_mem_nil _); (case z => first | assumption | size_fits)); intro h' F' N'; (try k_sweep)))
local macro_rules | `(tactic| walk_at "call builtin:len") => `(tactic| ((with_reducible show wpAny _ _ (call (Value.builtin "len") [Value.ref _]) _ _ _); k_dflt (first | refine len_at (by with_reducible assumption) (by with_reducible assumption) (by with_reducible assumption) (by omega) ?_ | refine len_at1 (by with_reducible assumption) (by with_reducible assumption) (by with_reducible assumption) (by omega) ?_ | refine len_at1 (by with_reducible assumption) (News.isList (by k_asm) (by k_mem)) (by with_reducible assumption) (by omega) ?_)))
local macro_rules | `(tactic| walk_at "pyIter ref") => `(tactic| ((with_reducible show wpAny _ _ (pyIter (Value.ref _)) _ _ _); refine Stop.of ?_))
local macro_rules | `(tactic| walk_at "execs cons Assign cons") => `(tactic| (refine wpAny_execs_cons ?_))
local macro_rules | `(tactic| walk_at "execs cons") => `(tactic| (refine wpAny_execs_cons ?_))
local macro_rules | `(tactic| walk_at "subscriptTail Name Slice ref ref") => `(tactic| (refine Stop.of ?_))
local macro_rules | `(tactic| walk_at "binaryOp Add ref ref") => `(tactic| (refine Stop.of ?_))
local macro_rules | `(tactic| walk_at "call ref") => `(tactic| (refine Stop.of ?_))
local macro_rules | `(tactic| walk_at "call type:enumerate") => `(tactic| (refine Stop.of ?_))
local macro_rules | `(tactic| walk_at "call type:range") => `(tactic| (refine Stop.of ?_))
local macro_rules | `(tactic| walk_at "call builtin:sum") => `(tactic| (refine Stop.of ?_))
local macro_rules | `(tactic| walk_at "exec If") => `(tactic| (refine Stop.of ?_))
local macro_rules | `(tactic| walk_at "eval ListComp") => `(tactic| (refine Stop.of ?_))
local macro_rules | `(tactic| walk_at "exec Assign cons ListComp") => `(tactic| (refine Stop.of ?_))
local macro_rules | `(tactic| walk_at "exec For Name Name cons nil") => `(tactic| (refine Stop.of ?_))
local macro_rules | `(tactic| walk_at "exec For Name Call cons nil") => `(tactic| (refine Stop.of ?_))
local macro_rules | `(tactic| walk_at "exec For Name Subscript cons nil") => `(tactic| (refine Stop.of ?_))
local macro_rules | `(tactic| walk_at "exec While Compare cons nil") => `(tactic| (refine Stop.of ?_))
local macro_rules | `(tactic| walk_at "exec While Compare") => `(tactic| (refine Stop.of ?_))
local macro_rules | `(tactic| ktr_unf) => `(tactic| (w_top off; repeat' (first | ((with_reducible show wpAny _ _ _ _ _ _); walk1) | ((with_reducible show ite _ _ _); walk1) | (dsimp only; (with_reducible show wpAny _ _ _ _ _ _); walk1) | (dsimp only; (with_reducible show ite _ _ _); walk1) | ((with_reducible show Frag.In _ _ ∧ _); refine ⟨by k_in, ?_⟩; try dsimp only [List.nil_append, List.cons_append]))))


theorem grow_but {h₀ h h' : Heap} {L B : Addr} {m : Str → Option Value} {o o' : Obj} {news : List (Addr × Obj)} (F : Fr h₀ L h m) (N : News h₀ L h ((B, o) :: news)) (hap : ∀ p ∈ news, p.1 ≠ B)
    (k : ∀ b x, b ≠ B → h.get? b = some x → h'.get? b = some x) (hB : h'.get? B = some o') : Fr h₀ L h' m ∧ News h₀ L h' ((B, o') :: news) := by
  obtain ⟨n1, n2, n3⟩ := N _ (.head _)
  refine ⟨⟨F.ns.at' fun x e => k _ x (Ne.symm n2) e, fun b x e => k b x ?_ (F.keep b x e), F.above⟩, fun p hp => ?_⟩
  · rintro rfl; rw [n3] at e; cases e
  · rcases List.mem_cons.mp hp with rfl | hp
    · exact ⟨hB, n2, n3⟩
    · obtain ⟨q1, q2⟩ := N _ (.tail _ hp)
      exact ⟨k _ _ (hap p hp) q1, q2⟩

theorem c_number {w : World} {A : Around} {s : Shared} {h0 : Heap} {mean : ExcName → Option Value} {mg mb : Str → Option Value} {B C : Addr} {c cn wn : Nat} {t tw : Tok} {vs : List Value} {ns : List Int}
    (hsub : ∀ b o, h0.get? b = some o → s.heap.get? b = some o)
    (X : (Mine.hd.heap_39 w.params).In h0) (T : Top Mine.hd.view_39 (looseW Mine.hd.view_39 []) mean mg mb h0)
    (hA : A.handled = none) (hd : A.depth < 870)
    (hB0 : h0.get? B = none) (hBC : C ≠ B)
    (hB : s.heap.get? B = some (W.listOf #[.int ((c : Nat) : Int) t, .ref C] cn)) (hC : s.heap.IsList C vs.toArray) (hi : IntsAre vs ns) (hlen : vs.length ≤ 1000) (hc : c < 10000) (hw : 2 ≤ wn) (hw7 : wn ≤ 7) :
    wpAny (model PySem.Challenge.rw_rr0052_01.row.prog w) A (call (.ref 82) [.ref B, .int ((wn : Nat) : Int) tw] []) (fun r s' => (∃ (k : Nat) (u : Tok), r = .int ((k : Nat) : Int) u ∧ k < 2 ^ 21) ∧
      ∃ (h' : Heap) (tk : Nat) (t' : Tok) (c' cn' : Nat), s' = { s with heap := h', toks := tk } ∧ c' ≤ c + 4 ∧ h'.get? B = some (W.listOf #[.int ((c' : Nat) : Int) t', .ref C] cn') ∧ ∀ b o, b ≠ B → s.heap.get? b = some o → h'.get? b = some o) NoE s := by
  obtain ⟨ahd, adp, afr, agd, aun⟩ := A
  obtain rfl : ahd = none := hA
  replace hd : adp < 870 := hd
  have hsub2 := without_sub hsub hB0
  have hC2 : (without s.heap B).IsList C vs.toArray := by
    obtain ⟨o, ho, r⟩ := hC
    exact ⟨o, by rw [without_other _ hBC]; exact ho, r⟩
  replace X := X.keeps hsub2
  replace T := T.keeps hsub2
  revert X; k_fill; intro X
  k_dflt (refine' enterB (K := Mine.hd.heap_39 w.params) (h0 := without s.heap B) (news := [(B, W.listOf #[.int ((c : Nat) : Int) t, .ref C] cn)]) (binds := [(Str.ofString "bin_here", .ref B), (Str.ofString "w", .int ((wn : Nat) : Int) tw)]) ?kS ?kZ ?kN X T.nolimit ?k6 ?k7 ?k8 ?k9 ?kB ?_ ?c2 ?c3 ?c4 ?c5; (case k6 => k_is); (case k7 => k_is); (case k9 => exact BindsTo.of_eq rfl); (case kB => exact locs rfl); (case c2 => exact rfl); (case c3 => exact rfl); (case c4 => exact rfl); (case c5 => decide); (case k8 => (show adp < 1000; omega)))
  case kS =>
    intro b o e
    have hb : b ≠ B := by rintro rfl; rw [without_self] at e; cases e
    rwa [without_other _ hb] at e
  case kZ => rw [without_size]; exact Nat.le_refl _
  case kN =>
    intro p hp
    rw [List.mem_singleton.mp hp]; exact ⟨hB, without_self _ _⟩
  intro L h₁ hL hk₁ F N
  ktr_unf
  refine Stop.mk ?_
  rename Fr _ _ _ _ => F1
  rename News _ _ _ _ => N1
  refine For_invV (without s.heap B) (by rfl) (by rfl) ?_ (hE := PassesOwn.never)
  ktr_unf
  refine Stop.mk ?_
  refine use (c_picked (M := 4) F1.keep X T ?hA ?hd (without_self _ _) hBC (N1 _ (.head _)).1 (hC2.at fun o e => F1.keep _ _ e) hi hlen (by omega) (by decide) (by decide)) ?_
  case hA => rfl
  case hd => show adp + 1 < 880; omega
  rintro r s' ⟨⟨k, u, rfl, hk4⟩, h2, tk2, t2, cn2, rfl, hB2, hk2⟩
  obtain ⟨F2, N2⟩ := grow_but F1 N1 (by intro p hp; cases hp) hk2 hB2
  clear F1 N1
  ktr_unf
  refine Stop.mk ?_
  refine rng1 (by omega) (fun e : Value => [(Str.ofString "found", e), (Str.ofString "bin_here", .ref B), (Str.ofString "w", .int ((wn : Nat) : Int) tw)])
    (fun i e nx => ∃ (f c' : Nat) (t0 t' : Tok) (cn' : Nat), e = .int ((f : Nat) : Int) t0 ∧ nx = [(B, W.listOf #[.int ((c' : Nat) : Int) t', .ref C] cn')] ∧ f < (2 ^ wn) ^ i ∧ c' ≤ c + 1 + i)
    rfl F2 N2 ⟨_, ⟨rfl, rfl, rfl, trivial⟩, 0, c + 1, _, _, _, rfl, rfl, by simp, by omega⟩ ?_ ?_
  · rintro I i t1 e u1 nx own h tk hI hik ⟨f, c', t0, t', cn', rfl, rfl, hf, hcc⟩ hoff hIo hown F3 N3
    clear F2 N2
    have hfb : f < 2 ^ 100 := by
      refine Nat.lt_of_lt_of_le hf ?_
      rw [← Nat.pow_mul]
      refine Nat.pow_le_pow_right (by decide) ?_
      exact Nat.le_trans (Nat.mul_le_mul hw7 (show i ≤ 4 by omega)) (by decide)
    have h7 : 2 ^ wn ≤ 128 := Nat.le_trans (Nat.pow_le_pow_right (by decide) hw7) (by decide)
    have h72 := two_le_pow hw
    have hm : IntMulOk ((f : Nat) : Int) (2 ^ ((wn : Nat) : Int).toNat) := by
      rw [powZ]
      exact mulOk (m := 100) (n := 100) (by rw [Int.natAbs_natCast]; exact hfb) (by rw [Int.natAbs_natCast]; exact Nat.lt_of_le_of_lt h7 (by decide)) (by decide)
    have N4 := sub (l' := (B, W.listOf #[.int ((c' : Nat) : Int) t', .ref C] cn') :: own) N3 (by intro p hp; rcases List.mem_cons.mp hp with rfl | hp; exact List.mem_append_right _ (.head _); exact List.mem_append_left _ hp)
    have hap : ∀ p ∈ own, p.1 ≠ B := by
      intro p hp e
      exact hoff _ (.head _) ((hown p hp).symm.trans e).symm
    ktr_unf
    refine Stop.mk ?_
    rw [powZ]
    refine use (c_picked (M := 2 ^ wn) F3.keep X T ?hA ?hd (without_self _ _) hBC (N4 _ (.head _)).1 (hC2.at fun o e => F3.keep _ _ e) hi hlen (by omega) (by omega) h7) ?_
    case hA => rfl
    case hd => show adp + 1 < 880; omega
    rintro r s' ⟨⟨k5, u5, rfl, hk5⟩, h5, tk5, t5, cn5, rfl, hB5, hkk5⟩
    obtain ⟨F5, N5⟩ := grow_but F3 N4 hap hkk5 hB5
    clear F3 N3 N4
    ktr_unf
    rename Fr _ _ _ _ => F8
    rename News _ _ _ _ => N8
    have e2 : ((f : Nat) : Int) * ((2 ^ wn : Nat) : Int) + ((k5 : Nat) : Int) = ((f * 2 ^ wn + k5 : Nat) : Int) := by rw [Int.natCast_add, Int.natCast_mul]
    simp only [e2] at F8
    refine ⟨rfl, _, _, _, _, [(B, W.listOf #[.int ((c' + 1 : Nat) : Int) t5, .ref C] cn5)], rfl, F8, sub N8 (by intro p hp; rcases List.mem_append.mp hp with hp | hp; exact .tail _ hp; rw [List.mem_singleton.mp hp]; exact .head _), (by intro p hp; rw [List.mem_singleton.mp hp]; exact hoff (B, W.listOf #[.int ((c' : Nat) : Int) t', .ref C] cn') (.head _)), ⟨rfl, rfl, rfl, trivial⟩, f * 2 ^ wn + k5, c' + 1, _, _, _, rfl, rfl, ?_, by omega⟩
    rw [Nat.pow_succ]
    have : (f + 1) * 2 ^ wn ≤ (2 ^ wn) ^ i * 2 ^ wn := Nat.mul_le_mul_right _ hf
    rw [Nat.add_mul, Nat.one_mul] at this
    omega
  · rintro e u1 nx h tk ⟨f, c', t0, t', cn', rfl, rfl, hf, hcc⟩ F3 N3
    clear F2 N2
    ktr_unf
    refine ⟨⟨f, _, rfl, Nat.lt_of_lt_of_le hf ?_⟩, _, _, _, c', _, rfl, by omega, (N3 _ (.head _)).1, fun b o hb e => F3.keep b o (by rw [without_other _ hb]; exact e)⟩
    rw [← Nat.pow_mul]
    refine Nat.pow_le_pow_right (by decide) ?_
    exact Nat.le_trans (Nat.mul_le_mul hw7 (show k ≤ 3 by omega)) (by decide)
end Mine
end
section
open PySem PySem.W PyProof.Rows PySem.Calls PySem.Spec
open PyProof.Rows.LCg
set_option maxRecDepth 100000
set_option maxHeartbeats 1000000
namespace Mine

def lawStmt : Option Stmt := PySem.Challenge.rw_rr0052_01.row.prog.main.body.getLast?
def lawBody : List Stmt := match lawStmt with
  | some (.FunctionDef _ _ b _ _ _ _ _ _ _) => b
  | _ => []
def lawScope : Scope := match lawStmt with
  | some (.FunctionDef _ _ _ _ _ _ s _ _ _) => s
  | _ => default

theorem CompEnd.weak {h₀ : Heap} {L I C D : Addr} {m : Str → Option Value} {s₁ s₂ : Shared} {oI oC oD : Obj} {S : List (Addr × Obj) → Prop} {r r' : Value → List (Addr × Obj) → Prop} {y : Value} (h : CompEnd h₀ L m s₁ I oI C oC D oD S r y s₂) (k : ∀ nx, r y nx → r' y nx) : CompEnd h₀ L m s₁ I oI C oC D oD S r' y s₂ := by
  obtain ⟨h', tk, nx, e, F, N, o, hS, hr⟩ := h
  exact ⟨h', tk, nx, e, F, N, o, hS, k _ hr⟩
theorem restOf {prog : Program} {w : World} {A : Around} {s : Shared} {h₀ : Heap} {L : Addr} {m : Str → Option Value} {env : Env} {elt : Expr} {x : Str} {scope : Scope} {cl : List (Str × Addr)} {S : List (Addr × Obj) → Prop} {P : Nat → Value → Prop} {Fin : List Value → List (Addr × Obj) → Prop}
    (n : Nat) (J : Nat → List Value → List (Addr × Obj) → Prop)
    (turn : ∀ i ys news v I oI C oC D m₂ h tk, i < n → J i ys news → P i v → NsObj oC m₂ → m₂ x = some v → Fr h₀ L h m → News h₀ L h ((I, oI) :: (C, oC) :: (D, lst ys) :: news) → Off3 I C D news → ((@Ne Nat I C) ∧ (@Ne Nat I D) ∧ (@Ne Nat C D)) →
      wpAny (model prog w) A (eval elt (compEnvC scope cl C env)) (CompEnd h₀ L m { s with heap := h, toks := tk } I oI C oC D (lst ys) S (fun y news' => J (i + 1) (ys ++ [y]) news')) NoE { s with heap := h, toks := tk })
    (fin : ∀ ys news, J n ys news → Fin ys news) :
    ∀ k i ys news, i + k = n → J i ys news → CompRest prog w A h₀ L m env elt x scope cl s S P Fin k i ys news
  | 0, i, ys, news, hi, hJ => CompRest.zero (fin _ _ (by rw [← hi]; exact hJ))
  | k + 1, i, ys, news, hi, hJ => CompRest.succ fun v I oI C oC D m₂ h tk E' hP hC hx F N off ne =>
    wpAny_mono (turn i ys news v I oI C oC D m₂ h tk (by omega) hJ hP hC hx F N off ne) (fun y s₂ q => CompEnd.weak q fun nx hr => restOf n J turn fin k (i + 1) _ nx (by omega) hr) fun _ _ e => e.elim
theorem pick_upto (vs : List Value) (n : Nat) (b : Int) (hb : b = (n : Int)) : slicePick vs.toArray none (some b) none = (vs.take n).toArray := by
  subst hb
  rw [PySem.slicePick_plain]
  simp only [Option.elim, List.size_toArray, Nat.sub_zero, List.drop_zero]
  rw [PySem.clipAt_nat]
  congr 1
  rcases Nat.le_total n vs.length with h | h
  · rw [Nat.min_eq_left h]
  · rw [Nat.min_eq_right h, List.take_of_length_le (Nat.le_refl _), List.take_of_length_le h]
theorem pick_run (vs : List Value) (a b : Nat) (x y : Int) (ha : x = (a : Int)) (hb : y = (b : Int)) : slicePick vs.toArray (some x) (some y) none = ((vs.take b).drop a).toArray := by
  subst ha; subst hb
  rw [PySem.slicePick_plain]
  simp only [Option.elim, List.size_toArray, PySem.clipAt_nat]
  rw [List.drop_take]
  congr 1
  rcases Nat.le_total a vs.length with h | h
  · rw [Nat.min_eq_left h]
    rcases Nat.le_total b vs.length with h2 | h2
    · rw [Nat.min_eq_left h2]
    · rw [Nat.min_eq_right h2, List.take_of_length_le (by simp), List.take_of_length_le (by simp; omega)]
  · rw [Nat.min_eq_right h, List.drop_of_length_le (Nat.le_refl _), List.drop_of_length_le h]
    simp
theorem st_cell {M : Model} {A : Around} {E : Value → Shared → Prop} {s : Shared} {h₀ : Heap} {L c f : Addr} {m : Str → Option Value} {nm : Str} {scope : Scope} {cdv : Value} {x : Str} {v : Value} {v₀ : Option Value} {o : Obj} {news news' : List (Addr × Obj)} {Q : Unit → Shared → Prop}
    (F : Fr h₀ L s.heap m) (N : News h₀ L s.heap news) (hc : (cellsFrom (L + 1) scope.names []).lookup x = some c) (hm : (c, o) ∈ news) (hd : o.data = .cell v₀)
    (hsub : ∀ p ∈ news', p ∈ news ∧ p.1 ≠ c)
    (h : ∀ h' o', Fr h₀ L h' m → News h₀ L h' ((c, o') :: news') → o'.data = .cell (some v) → Q () { s with heap := h' })
    (hk : scope.kind = .function) (hx : (envOfC nm scope L f cdv).kindOf x = some .cell) : wpAny M A (storeName (envOfC nm scope L f cdv) x v) Q E s := by
  have hmem := N (c, o) hm
  refine wpAny_storeName_cell hk hx hc ⟨o, hmem.1, hd⟩ fun h' hv hs => ?_
  obtain ⟨o', ho', hd'⟩ := hv
  refine h h' o' ⟨F.ns.sameBut hs (Ne.symm hmem.2.1), fun b ob e => (hs.2 b (fun q => ?_)).trans (F.keep b ob e), F.above⟩ (fun p hp => ?_) hd'
  · rw [q, hmem.2.2] at e; cases e
  · rcases List.mem_cons.mp hp with rfl | hp
    · exact ⟨ho', hmem.2⟩
    · obtain ⟨h1, h2⟩ := hsub p hp
      exact ⟨(hs.2 _ h2).trans (N p h1).1, (N p h1).2⟩
theorem lst_listOf (ys : List Value) : lst ys = W.listOf ys.toArray ys.length := rfl
end Mine
end
section
open PySem PySem.W PyProof.Rows PySem.Calls PySem.Spec
open PyProof.Rows.LCg
set_option maxRecDepth 100000
set_option maxHeartbeats 1000000
namespace Mine
local macro_rules | `(tactic| walk_at "pad") => `(tactic| fail "pad")
local macro_rules | `(tactic| walk_at "pad") => `(tactic| fail "pad")
local macro_rules | `(tactic| walk_at "pad") => `(tactic| fail "pad")
local macro_rules | `(tactic| walk_at "binaryOp Pow int int") => `(tactic| (refine PyProof.Rows.pow_int_small (by first | with_reducible assumption | omega) (by first | with_reducible assumption | omega) (by decide) ?_))
local macro_rules | `(tactic| walk_at "eval Name") => `(tactic| ((with_reducible show wpAny _ _ (eval (Expr.Name _ _) (compEnvC _ _ _ _)) _ _ _); k_dflt (refine nm_local (by with_reducible assumption) (by rfl) ?_ (by rfl) (by rfl) (by decide))))
local macro_rules | `(tactic| walk_at "subscriptTail") => `(tactic| ((with_reducible show wpAny _ _ (subscriptTail _ _ (Value.ref _) (Value.int _ _)) _ _ _); k_dflt (first | refine item_at (by with_reducible assumption) (by with_reducible assumption) (by with_reducible assumption) (by first | with_reducible assumption | omega) ?_ | refine item_at1 (by with_reducible assumption) (by with_reducible assumption) (by with_reducible assumption) (by first | with_reducible assumption | omega) ?_)))
local macro_rules | `(tactic| walk_at "subscriptTail Name Name ref int") => `(tactic| ((with_reducible show wpAny _ _ (subscriptTail _ _ (Value.ref _) (Value.int _ _)) _ _ _); k_dflt (first | refine item_at (by with_reducible assumption) (by with_reducible assumption) (by with_reducible assumption) (by first | with_reducible assumption | omega) ?_ | refine item_at1 (by with_reducible assumption) (by with_reducible assumption) (by with_reducible assumption) (by first | with_reducible assumption | omega) ?_)))
local macro_rules | `(tactic| walk_at "subscriptTail Name BinOp ref int") => `(tactic| ((with_reducible show wpAny _ _ (subscriptTail _ _ (Value.ref _) (Value.int _ _)) _ _ _); k_dflt (first | refine item_at (by with_reducible assumption) (by with_reducible assumption) (by with_reducible assumption) (by first | with_reducible assumption | omega) ?_ | refine item_at1 (by with_reducible assumption) (by with_reducible assumption) (by with_reducible assumption) (by first | with_reducible assumption | omega) ?_)))
local macro_rules | `(tactic| walk_at "subscriptTail Name UnaryOp ref int") => `(tactic| ((with_reducible show wpAny _ _ (subscriptTail _ _ (Value.ref _) (Value.int _ _)) _ _ _); k_dflt (first | refine item_last (News.isList (by k_asm) (by k_mem)) (by with_reducible assumption) (by decide) ?_ | refine item_last (by with_reducible assumption) (by with_reducible assumption) (by decide) ?_)))
local macro_rules | `(tactic| walk_at "subscriptTail Name Constant ref int") => `(tactic| ((with_reducible show wpAny _ _ (subscriptTail _ _ (Value.ref _) (Value.int _ _)) _ _ _); k_dflt (refine item_zero (by with_reducible assumption) (by with_reducible assumption) ?_)))
local macro_rules | `(tactic| walk_at "call builtin:list.append") => `(tactic| ((with_reducible show wpAny _ _ (call (Value.builtin _) [Value.ref _, _]) _ _ _); k_dflt (refine' append_K ?k1 ?k2 (Upd.head ?k3) ?_ ?z; (case k1 => k_asm); (case k2 => k_asm); (case k3 => first | assumption | exact List.forall_mem_nil _); (case z => first | assumption | size_fits)); intro h' F' N'; (try k_sweep)))
local macro_rules | `(tactic| walk_at "call builtin:len") => `(tactic| ((with_reducible show wpAny _ _ (call (Value.builtin "len") [Value.ref _]) _ _ _); k_dflt (first | refine len_at (by with_reducible assumption) (by with_reducible assumption) (by with_reducible assumption) (by omega) ?_ | refine len_at1 (by with_reducible assumption) (by with_reducible assumption) (by with_reducible assumption) (by omega) ?_ | refine len_at1 (by with_reducible assumption) (News.isList (by k_asm) (by k_mem)) (by with_reducible assumption) (by omega) ?_)))
local macro_rules | `(tactic| walk_at "storeName") => `(tactic| ((with_reducible show wpAny _ _ (storeName (envOfC _ _ _ _ _) _ _) _ _ _); first | (k_here; k_dflt (refine' storeX_L ?F ?N ?_ ?a ?b; (case F => k_asm); (case N => k_asm); (case a => rfl); (case b => rfl); k_whole; intro h' F' N'; (try k_sweep))) | refine Stop.of ?_))
local macro_rules | `(tactic| walk_at "pyIter ref") => `(tactic| ((with_reducible show wpAny _ _ (pyIter (Value.ref _)) _ _ _); refine Stop.of ?_))
local macro_rules | `(tactic| walk_at "execs cons Assign cons") => `(tactic| (refine wpAny_execs_cons ?_))
local macro_rules | `(tactic| walk_at "execs cons") => `(tactic| (refine wpAny_execs_cons ?_))
local macro_rules | `(tactic| walk_at "subscriptTail Name Slice ref ref") => `(tactic| (refine Stop.of ?_))
local macro_rules | `(tactic| walk_at "binaryOp Add ref ref") => `(tactic| (refine Stop.of ?_))
local macro_rules | `(tactic| walk_at "call ref") => `(tactic| (refine Stop.of ?_))
local macro_rules | `(tactic| walk_at "call type:enumerate") => `(tactic| (refine Stop.of ?_))
local macro_rules | `(tactic| walk_at "call type:range") => `(tactic| (refine Stop.of ?_))
local macro_rules | `(tactic| walk_at "call builtin:sum") => `(tactic| (refine Stop.of ?_))
local macro_rules | `(tactic| walk_at "exec If") => `(tactic| (refine Stop.of ?_))
local macro_rules | `(tactic| walk_at "eval ListComp") => `(tactic| (refine Stop.of ?_))
local macro_rules | `(tactic| walk_at "exec Assign cons ListComp") => `(tactic| (refine Stop.of ?_))
local macro_rules | `(tactic| walk_at "exec For Name Name cons nil") => `(tactic| (refine Stop.of ?_))
local macro_rules | `(tactic| walk_at "exec For Name Call cons nil") => `(tactic| (refine Stop.of ?_))
local macro_rules | `(tactic| walk_at "exec For Name Subscript cons nil") => `(tactic| (refine Stop.of ?_))
local macro_rules | `(tactic| walk_at "exec While Compare cons nil") => `(tactic| (refine Stop.of ?_))
local macro_rules | `(tactic| walk_at "exec While Compare") => `(tactic| (refine Stop.of ?_))
local macro_rules | `(tactic| ktr_unf) => `(tactic| (w_top off; repeat' (first | ((with_reducible show wpAny _ _ _ _ _ _); walk1) | ((with_reducible show ite _ _ _); walk1) | (dsimp only; (with_reducible show wpAny _ _ _ _ _ _); walk1) | (dsimp only; (with_reducible show ite _ _ _); walk1) | ((with_reducible show Frag.In _ _ ∧ _); refine ⟨by k_in, ?_⟩; try dsimp only [List.nil_append, List.cons_append]))))


abbrev E0 : SP := fun _ _ => False
theorem SU.mem {S : SP} {l : List (Addr × Obj)} {a : Addr} {o : Obj} (h : (a, o) ∈ l) : SU S l a o := .inr h
theorem SU.stand0 {h₀ h : Heap} {L : Addr} {news l : List (Addr × Obj)} (N : News h₀ L h news) (hl : ∀ p ∈ l, p ∈ news) : ∀ a o, SU E0 l a o → h.get? a = some o := fun a o x => by
  rcases x with x | x
  · exact x.elim
  · exact (N _ (hl _ x)).1
theorem off_app {I C D : Addr} {nx tl : List (Addr × Obj)} {oI oC oD : Obj} (off : Off3 I C D nx) (hdj : ∀ p ∈ tl, ∀ q ∈ (I, oI) :: (C, oC) :: (D, oD) :: nx, p.1 ≠ q.1) : Off3 I C D (nx ++ tl) := Off3.of fun p hp => by
  rcases List.mem_append.mp hp with hp | hp
  · exact Off3.mem off p hp
  · exact ⟨hdj p hp _ (.head _), hdj p hp _ (.tail _ (.head _)), hdj p hp _ (.tail _ (.tail _ (.head _)))⟩
theorem Off1.mem {D : Addr} : ∀ {l : List (Addr × Obj)}, Off1 D l → ∀ p ∈ l, p.1 ≠ D
  | [], _, _, h => nomatch h
  | _ :: _, x, p, h => by
    rcases List.mem_cons.mp h with rfl | h
    · exact x.1
    · exact Off1.mem x.2 p h

theorem m10 {a b c d e f : Addr × Obj} {rest tl : List (Addr × Obj)} : ∀ p ∈ a :: b :: c :: d :: e :: f :: rest, p ∈ a :: b :: c :: d :: e :: f :: (rest ++ tl) := by grind
theorem comp_limbs {w : World} {s : Shared} {mean : ExcName → Option Value} {mg mb : Str → Option Value} {L f M K c l : Addr} {cdv : Value} {mvs kvs lv : List Value} {xs : List Nat} {h : Heap} {tk wn adp aun : Nat} {afr : Option (List Env)} {agd : Option (List Code)} {tw : Tok} {m : Str → Option Value} {o2 o3 o4 o5 o : Obj} {rest : List (Addr × Obj)}
    {p1 p2 p3 p4 p5 p6 p7 : Pos} {src : Str} {Q : Value → Shared → Prop}
    (X : (Mine.hd.heap_39 w.params).In s.heap) (T : Top Mine.hd.view_39 (looseW Mine.hd.view_39 []) mean mg mb s.heap)
    (hd : adp < 800) (hw : 2 ≤ wn) (hw7 : wn ≤ 7)
    (F : Fr s.heap L h m) (N : News s.heap L h ((L + 1 + 1 + 1 + 1 + 1, o5) :: (L + 1 + 1, o2) :: (L + 1 + 1 + 1, o3) :: (L + 1 + 1 + 1 + 1, o4) :: (M, lst mvs) :: (K, lst kvs) :: rest))
    (d2 : o2.data = .cell (some (.int ((wn : Nat) : Int) tw))) (hr5 : ∀ p ∈ rest, L + 1 + 1 + 1 + 1 + 1 ≠ p.1)
    (hck : (envOfC (Str.ofString "law") lawScope L f cdv).kindOf src = some .cell) (hdb : (src == ("__debug__" : Str)) = false) (hcl : (cellsFrom (L + 1) lawScope.names []).lookup src = some c)
    (hcm : (c, o) ∈ (L + 1 + 1 + 1 + 1 + 1, o5) :: (L + 1 + 1, o2) :: (L + 1 + 1 + 1, o3) :: (L + 1 + 1 + 1 + 1, o4) :: (M, lst mvs) :: (K, lst kvs) :: rest) (hod : o.data = .cell (some (.ref l)))
    (hlm : (l, lst lv) ∈ (L + 1 + 1 + 1 + 1 + 1, o5) :: (L + 1 + 1, o2) :: (L + 1 + 1 + 1, o3) :: (L + 1 + 1 + 1 + 1, o4) :: (M, lst mvs) :: (K, lst kvs) :: rest)
    (hi : IntsAre lv (castZ xs)) (hxl : xs.length ≤ 1000) (hxb : ∀ x ∈ xs, x < 2 ^ 1000)
    (fin : ∀ D h' tk' tl yy, Fr s.heap L h' m → News s.heap L h' ((D, lst yy) :: (L + 1 + 1 + 1 + 1 + 1, o5) :: (L + 1 + 1, o2) :: (L + 1 + 1 + 1, o3) :: (L + 1 + 1 + 1 + 1, o4) :: (M, lst mvs) :: (K, lst kvs) :: (rest ++ tl)) →
      (∀ p ∈ (D, lst yy) :: (rest ++ tl), L + 1 + 1 + 1 + 1 + 1 ≠ p.1) → AllR (NumV (SU E0 tl) (2 ^ wn)) yy xs → Q (.ref D) { s with heap := h', toks := tk' }) :
    wpAny (model PySem.Challenge.rw_rr0052_01.row.prog w) (Around.deeper ⟨none, adp, afr, agd, aun⟩ (envOfC (Str.ofString "law") lawScope L f cdv)) (eval (.ListComp (.Call (.Name (Str.ofString "_law_limbs") p1) [.Name (Str.ofString "one") p2, .Name (Str.ofString "w") p3] [] p4) [{ target := .Name (Str.ofString "one") p5, iter := .Name src p6, ifs := [], is_async := 0 }]
      { kind := ScopeKind.function, names := [(Str.ofString ".0", NameKind.local), (Str.ofString "one", NameKind.local), (Str.ofString "_law_limbs", NameKind.globalImplicit), (Str.ofString "w", NameKind.free)], isGenerator := false, isCoroutine := false } p7) (envOfC (Str.ofString "law") lawScope L f cdv)) Q NoE { s with heap := h, toks := tk } := by
  revert X; k_fill; intro X
  have hlv : lv.length = xs.length := by rw [hi.length, List.length_map]
  refine LCg.ListComp_U (F₀ := F) (by with_unfolding_all rfl) (by decide) (by rfl) (by decide) (by rfl) ?_
  refine wpAny_Name (wpAny_loadName_cell (by rfl) hck hcl ⟨o, N.get hcm, hod⟩ ?_) hdb
  refine CompSrc.ledger rfl F N hlm (by rw [List.size_toArray, hlv, sizeLine_eq]; omega) fun g => ?_
  refine restOf _ (fun i yy nx => ∃ tl, nx = (L + 1 + 1 + 1 + 1 + 1, o5) :: (L + 1 + 1, o2) :: (L + 1 + 1 + 1, o3) :: (L + 1 + 1 + 1 + 1, o4) :: (M, lst mvs) :: (K, lst kvs) :: (rest ++ tl) ∧ AllR (NumV (SU E0 tl) (2 ^ wn)) yy (xs.take i) ∧ (∀ p ∈ rest ++ tl, L + 1 + 1 + 1 + 1 + 1 ≠ p.1)) ?turn ?fin _ 0 [] _ (Nat.zero_add _) ⟨[], by rw [List.append_nil], .nil, by rw [List.append_nil]; exact hr5⟩
  case turn =>
    rintro i yy nx v I oI C2 oC D2 m₂ h2 tk2 hi1 ⟨tl, rfl, hyy, hr⟩ hv hC hx F3 N3 off ne
    obtain ⟨k, t, rfl, hk⟩ := natAt hi (by simpa using hv)
    clear F N
    ktr_unf
    refine Stop.mk ?_
    refine use (c_limbs (S := E0) (X.keeps F3.keep) (T.keeps F3.keep) ?hA ?hd (hxb k (List.mem_of_getElem? hk)) hw hw7) ?_
    case hA => rfl
    case hd => show adp + 1 < 900; omega
    intro r s' q
    obtain ⟨h5, tk5, tl2, rfl, F5, N5, hdj, hR⟩ := after_res F3 N3 q
    have off2 := off_app off hdj
    refine CompEnd.intro F5 N5 _ (fun p hp => hp) off2 ?_ ⟨tl ++ tl2, ?_, ?_, ?_⟩
    · exact .inr ⟨lst lv, List.mem_append_left _ (m10 _ hlm), rfl, _, rfl⟩
    · rw [← List.append_assoc]; rfl
    · rw [List.take_add_one, hk]
      exact (hyy.mono fun _ _ z => z.mono (SU.more fun p hp => List.mem_append_left _ hp)).append (.one (hR.mono (SU.more fun p hp => List.mem_append_right _ hp)))
    · intro p hp
      rw [← List.append_assoc] at hp
      rcases List.mem_append.mp hp with hp | hp
      · exact hr p hp
      · exact Ne.symm (hdj p hp _ (.tail _ (.tail _ (.tail _ (.head _)))))
  case fin =>
    rintro yy nx ⟨tl, rfl, hyy, hr⟩
    intro D2 h3 tk3 F3 N3 off
    refine fin D2 h3 tk3 tl yy F3 N3 ?_ ?_
    · simp only [List.forall_mem_cons]
      exact ⟨off.1, hr⟩
    · rw [List.size_toArray, hlv, List.take_length] at hyy
      exact hyy
end Mine
end
section
open PySem PySem.W PyProof.Rows PySem.Calls PySem.Spec
open PyProof.Rows.LCg
set_option maxRecDepth 100000
set_option maxHeartbeats 1000000
namespace Mine

def dNum (b k : Nat) : PyData := .list ((castZ (limbs b k)).map .int)
def dNums (b : Nat) (ks : List Nat) : PyData := .list (ks.map (dNum b))
theorem depth_num (b k : Nat) : (dNum b k).depth ≤ 2 := by
  have := PySem.W.depthAll_ints (castZ (limbs b k))
  show PyData.depthAll _ + 1 ≤ 2
  omega
theorem depth_nums (b : Nat) : ∀ ks : List Nat, PyData.depthAll (ks.map (dNum b)) ≤ 2
  | [] => by simp [PyData.depthAll]
  | k :: r => by
    simp only [List.map_cons, PyData.depthAll]
    exact Nat.max_le.mpr ⟨depth_num b k, depth_nums b r⟩
theorem lay_num (b k : Nat) : (dNum b k).canLay0 = true := by
  show PyData.canLay0 (.list _) = true
  rw [PyData.canLay0]; exact PySem.W.canLayAll0_ints _
theorem lay_nums (b : Nat) : ∀ ks : List Nat, PyData.canLayAll0 (ks.map (dNum b)) = true
  | [] => by simp [PyData.canLayAll0]
  | k :: r => by
    simp only [List.map_cons, PyData.canLayAll0, lay_num, lay_nums b r, Bool.and_self]
theorem shaped_num (b k : Nat) : SeqAt.shaped (dNum b k) = true := PySem.W.shaped_ints _
theorem shaped_nums (b : Nat) (ks : List Nat) : SeqAt.shaped (dNums b ks) = true := by
  have h1 := depth_nums b ks
  have h2 : PyData.depth (dNums b ks) ≤ 64 := by show PyData.depthAll _ + 1 ≤ 64; omega
  show (PyData.canLay0 (dNums b ks) && decide (PyData.depth (dNums b ks) ≤ 64)) = true
  rw [Bool.and_eq_true]
  exact ⟨by show PyData.canLay0 (.list _) = true; rw [PyData.canLay0]; exact lay_nums b ks, decide_eq_true h2⟩
theorem eqv_num (b k : Nat) : PyData.eqv (dNum b k) (dNum b k) = true := SeqAt.eqv_refl _ (lay_num b k)
theorem eqv_nums (b : Nat) (ks : List Nat) : PyData.eqv (dNums b ks) (dNums b ks) = true := SeqAt.eqv_refl _ (by show PyData.canLay0 (.list _) = true; rw [PyData.canLay0]; exact lay_nums b ks)

theorem reads_num {S : SP} {h : Heap} {b k : Nat} {v : Value} (hS : ∀ a o, S a o → h.get? a = some o) (x : NumV S b v k) : ∃ as, Reads h v (dNum b k) as := by
  obtain ⟨a, vs, rfl, hl, hi⟩ := x
  exact ⟨_, PySem.W.reads_of_ints (hl.heap hS) hi⟩
theorem readsAll_nums {S : SP} {h : Heap} {b : Nat} (hS : ∀ a o, S a o → h.get? a = some o) : ∀ {vs : List Value} {ks : List Nat}, AllR (NumV S b) vs ks → ∃ as, ReadsAll h vs (ks.map (dNum b)) as
  | [], [], _ => ⟨_, .nil⟩
  | [], _ :: _, x => by have := x.1; simp at this
  | _ :: _, [], x => by have := x.1; simp at this
  | v :: vs, k :: ks, x => by
    obtain ⟨as, h1⟩ := reads_num hS (x.2 0 v k rfl rfl)
    obtain ⟨bs, h2⟩ := readsAll_nums hS (vs := vs) (ks := ks) ⟨by simpa using x.1, fun i v' k' a b' => x.2 (i + 1) v' k' (by simpa using a) (by simpa using b')⟩
    exact ⟨_, .cons h1 h2⟩
theorem reads_nums {S : SP} {h : Heap} {b : Nat} {v : Value} {ks : List Nat} (hS : ∀ a o, S a o → h.get? a = some o) (x : NumsV S b v ks) : ∃ as, Reads h v (dNums b ks) as := by
  obtain ⟨a, vs, rfl, ⟨o, ho, hc, n, hd⟩, hr⟩ := x
  obtain ⟨as, h1⟩ := readsAll_nums hS hr
  exact ⟨_, Reads.list (hS _ _ ho) hc hd (by simpa using h1)⟩
section
variable {prog : Program} {w : World} {A : Around} {E : Value → Shared → Prop} {s : Shared} {S S' : SP} {b : Nat} {va vb : Value} {Q : Value → Shared → Prop}
theorem ne_num {n : Nat} (hS : ∀ a o, S a o → s.heap.get? a = some o) (hS' : ∀ a o, S' a o → s.heap.get? a = some o) (ha : NumV S b va n) (hb : NumV S' b vb n) (hu : A.units + 64 < cLine) (h : Q (.bool false) s) : wpAny (model prog w) A (compareOp .NotEq va vb) Q E s := by
  obtain ⟨as, ra⟩ := reads_num hS ha
  obtain ⟨bs, rb⟩ := reads_num hS' hb
  exact ne_dataH ra rb (shaped_num _ _) (shaped_num _ _) hu (by rw [eqv_num]; exact h)
theorem ne_nums {ks : List Nat} (hS : ∀ a o, S a o → s.heap.get? a = some o) (hS' : ∀ a o, S' a o → s.heap.get? a = some o) (ha : NumsV S b va ks) (hb : NumsV S' b vb ks) (hu : A.units + 64 < cLine) (h : Q (.bool false) s) : wpAny (model prog w) A (compareOp .NotEq va vb) Q E s := by
  obtain ⟨as, ra⟩ := reads_nums hS ha
  obtain ⟨bs, rb⟩ := reads_nums hS' hb
  exact ne_dataH ra rb (shaped_nums _ _) (shaped_nums _ _) hu (by rw [eqv_nums]; exact h)
theorem eq_nums {ks : List Nat} (hS : ∀ a o, S a o → s.heap.get? a = some o) (hS' : ∀ a o, S' a o → s.heap.get? a = some o) (ha : NumsV S b va ks) (hb : NumsV S' b vb ks) (hu : A.units + 64 < cLine) (h : Q (.bool true) s) : wpAny (model prog w) A (compareOp .Eq va vb) Q E s := by
  obtain ⟨as, ra⟩ := reads_nums hS ha
  obtain ⟨bs, rb⟩ := reads_nums hS' hb
  exact eq_dataH ra rb (shaped_nums _ _) (shaped_nums _ _) hu (by rw [eqv_nums]; exact h)
end

/-! the plain law -/
def dueAt (ks ms : List Nat) (i : Nat) : Nat := ks.getD i 0 * prodN (ms.take i ++ ms.drop (i + 1))
def dueSum (ks ms : List Nat) : Nat := ((List.range ks.length).map (dueAt ks ms)).sum
def cs : List Nat → List Nat → Nat
  | s :: ss, k :: ks => s * prodN ks + k * cs ss ks
  | _, _ => 0
theorem dueSum_cs : ∀ (ks ms : List Nat), ks.length = ms.length → dueSum ks ms = cs ks ms
  | [], [], _ => rfl
  | [], _ :: _, h => by simp at h
  | _ :: _, [], h => by simp at h
  | s :: ss, k :: ms, h => by
    have hl : ss.length = ms.length := by simpa using h
    have e : ∀ i, dueAt (s :: ss) (k :: ms) (i + 1) = k * dueAt ss ms i := by
      intro i
      simp only [dueAt, List.getD_cons_succ, List.take_succ_cons, List.drop_succ_cons, List.cons_append, prodN]
      rw [← Nat.mul_assoc, ← Nat.mul_assoc, Nat.mul_comm k]
    have e2 : ∀ l : List Nat, (l.map (fun i => k * dueAt ss ms i)).sum = k * (l.map (dueAt ss ms)).sum := by
      intro l
      induction l with
      | nil => simp
      | cons a r ih => simp only [List.map_cons, List.sum_cons, ih, Nat.mul_add]
    unfold dueSum
    rw [List.length_cons, List.range_succ_eq_map, List.map_cons, List.sum_cons, List.map_map]
    have e3 : (dueAt (s :: ss) (k :: ms) ∘ Nat.succ) = fun i => k * dueAt ss ms i := by funext i; exact e i
    rw [e3, e2]
    have e0 : dueAt (s :: ss) (k :: ms) 0 = s * prodN ms := by simp [dueAt]
    rw [e0, cs, ← dueSum_cs ss ms hl]
    rfl
theorem prodN_pairUp : ∀ ks : List Nat, prodN (pairUp ks) = prodN ks
  | [] => by simp [pairUp_nil]
  | [x] => by simp [pairUp_one]
  | x :: y :: r => by rw [pairUp_two]; simp only [prodN, prodN_pairUp r, Nat.mul_assoc]
theorem cs_crossUp : ∀ (ss ks : List Nat), ss.length = ks.length → cs (crossUp ss ks) (pairUp ks) = cs ss ks
  | [], [], _ => by simp [crossUp_nil, pairUp_nil]
  | [s], [x], _ => by simp [crossUp_one, pairUp_one]
  | s :: t :: ss, x :: y :: ks, h => by
    rw [crossUp_two, pairUp_two]
    simp only [cs, prodN, prodN_pairUp ks]
    rw [cs_crossUp ss ks (by simpa using h), Nat.add_mul, Nat.mul_add]
    have a1 : s * y * prodN ks = s * (y * prodN ks) := Nat.mul_assoc ..
    have a2 : t * x * prodN ks = x * (t * prodN ks) := by rw [Nat.mul_comm t x, Nat.mul_assoc]
    have a3 : x * y * cs ss ks = x * (y * cs ss ks) := Nat.mul_assoc ..
    rw [a1, a2, a3, Nat.add_assoc]
  | [], _ :: _, h => by simp at h
  | [_], [], h => by simp at h
  | [_], _ :: _ :: _, h => by simp at h
  | _ :: _ :: _, [], h => by simp at h
  | _ :: _ :: _, [_], h => by simp at h
theorem cs_short : ∀ (ss ks : List Nat), ss.length = ks.length → ¬ 1 < ks.length → cs ss ks = ss.headD 0
  | [], [], _, _ => rfl
  | [s], [x], _, _ => by simp [cs, prodN]
  | _ :: _ :: _, [_], h, _ => by simp at h
  | [], _ :: _, h, _ => by simp at h
  | _ :: _, [], h, _ => by simp at h
  | _, _ :: _ :: _, _, h => by simp at h
theorem tree_ne (ks : List Nat) : tree ks ≠ [] := by
  by_cases h : 1 < ks.length
  · rw [tree_more h]; simp
  · rw [tree_one h]; simp
theorem butlast_more {ks : List Nat} (h : 1 < ks.length) : (tree ks).take ((tree ks).length - 1) = ks :: (tree (pairUp ks)).take ((tree (pairUp ks)).length - 1) := by
  rw [tree_more h, List.length_cons, Nat.add_sub_cancel]
  have hp : 0 < (tree (pairUp ks)).length := List.length_pos_iff.mpr (tree_ne _)
  obtain ⟨j, hj⟩ : ∃ j, (tree (pairUp ks)).length = j + 1 := ⟨(tree (pairUp ks)).length - 1, by omega⟩
  rw [hj, List.take_succ_cons, Nat.add_sub_cancel]
theorem butlast_one {ks : List Nat} (h : ¬ 1 < ks.length) : (tree ks).take ((tree ks).length - 1) = [] := by rw [tree_one h]; rfl
theorem cross_law (ss ks : List Nat) (h : ss.length = ks.length) : (crossAll ss ((tree ks).take ((tree ks).length - 1))).headD 0 = cs ss ks := by
  induction hn : ks.length using Nat.strongRecOn generalizing ks ss with
  | ind n ih =>
    subst hn
    by_cases h1 : 1 < ks.length
    · rw [butlast_more h1]
      show (crossAll (crossUp ss ks) _).headD 0 = _
      rw [ih _ (pairUp_lt h1) (crossUp ss ks) (pairUp ks) (by rw [crossUp_len ss ks h, pairUp_len]) rfl, cs_crossUp ss ks h]
    · rw [butlast_one h1]
      exact (cs_short ss ks h h1).symm
/-- sizes -/
theorem pairUp_mem (e : Nat) (he : 1 ≤ e) : ∀ ks : List Nat, (∀ k ∈ ks, k < 2 ^ e) → ∀ x ∈ pairUp ks, x < 2 ^ (3 * e)
  | [], _ => by rw [pairUp_nil]; intro x h; cases h
  | [a], h => by
    rw [pairUp_one]
    intro x hx
    rw [List.mem_singleton.mp hx]
    exact Nat.lt_of_lt_of_le (h a (.head _)) (Nat.pow_le_pow_right (by decide) (by omega))
  | a :: b :: r, h => by
    rw [pairUp_two]
    intro x hx
    rcases List.mem_cons.mp hx with rfl | hx
    · refine Nat.lt_of_lt_of_le (Nat.mul_lt_mul_of_lt_of_lt (h a (.head _)) (h b (.tail _ (.head _)))) ?_
      rw [← Nat.pow_add]; exact Nat.pow_le_pow_right (by decide) (by omega)
    · exact pairUp_mem e he r (fun k hk => h k (.tail _ (.tail _ hk))) x hx
theorem crossUp_mem (e : Nat) (he : 1 ≤ e) : ∀ ss ks : List Nat, (∀ k ∈ ks, k < 2 ^ e) → (∀ s ∈ ss, s < 2 ^ e) → ∀ x ∈ crossUp ss ks, x < 2 ^ (3 * e)
  | s :: t :: ss, a :: b :: ks, hk, hs => by
    rw [crossUp_two]
    intro x hx
    rcases List.mem_cons.mp hx with rfl | hx
    · have h1 := Nat.mul_lt_mul_of_lt_of_lt (hs s (.head _)) (hk b (.tail _ (.head _)))
      have h2 := Nat.mul_lt_mul_of_lt_of_lt (hs t (.tail _ (.head _))) (hk a (.head _))
      have h3 : 2 ^ e * 2 ^ e + 2 ^ e * 2 ^ e ≤ 2 ^ (3 * e) := by
        rw [← Nat.pow_add, ← Nat.two_mul, ← Nat.pow_succ']
        exact Nat.pow_le_pow_right (by decide) (by omega)
      omega
    · exact crossUp_mem e he ss ks (fun k hk' => hk k (.tail _ (.tail _ hk'))) (fun k hk' => hs k (.tail _ (.tail _ hk'))) x hx
  | [], _, _, _ => by rw [crossUp_nil]; intro x h; cases h
  | [s], _, _, hs => by
    rw [crossUp_one]
    intro x hx
    exact Nat.lt_of_lt_of_le (hs x hx) (Nat.pow_le_pow_right (by decide) (by omega))
  | s :: t :: ss, [], _, hs => by
    intro x hx
    exact Nat.lt_of_lt_of_le (hs x (by simpa [crossUp] using hx)) (Nat.pow_le_pow_right (by decide) (by omega))
  | s :: t :: ss, [_], _, hs => by
    intro x hx
    exact Nat.lt_of_lt_of_le (hs x (by simpa [crossUp] using hx)) (Nat.pow_le_pow_right (by decide) (by omega))
theorem ok_of : ∀ (d e : Nat) (ss ks : List Nat), 1 ≤ e → ss.length = ks.length → ks.length ≤ 2 ^ d → ks.length ≤ 1000 → (∀ k ∈ ks, k < 2 ^ e) → (∀ s ∈ ss, s < 2 ^ e) → (d = 0 ∨ e * 3 ^ (d - 1) ≤ 400) →
    Ok ss ((tree ks).take ((tree ks).length - 1)) := by
  intro d
  induction d with
  | zero =>
    intro e ss ks _ h hl h1000 _ _ _
    rw [butlast_one (by rw [Nat.pow_zero] at hl; omega)]
    show ss.length ≤ 1000
    omega
  | succ d ih =>
    intro e ss ks he h hl h1000 hk hs hr
    by_cases h1 : 1 < ks.length
    · rw [butlast_more h1]
      have hr' : e * 3 ^ d ≤ 400 := by
        rcases hr with hr | hr
        · omega
        · exact hr
      have he4 : e ≤ 400 := Nat.le_trans (Nat.le_mul_of_pos_right e (Nat.pow_pos (by decide))) hr'
      have hp : 2 ^ e ≤ 2 ^ 400 := Nat.pow_le_pow_right (by decide) he4
      refine ⟨h, h1000, fun k hk' => Nat.lt_of_lt_of_le (hk k hk') hp, fun k hk' => Nat.lt_of_lt_of_le (hs k hk') hp, ?_⟩
      have hlen := pairUp_len ks
      refine ih (3 * e) _ _ (by omega) (by rw [crossUp_len ss ks h, hlen]) (by rw [hlen]; rw [Nat.pow_succ] at hl; omega) (by rw [hlen]; omega) (pairUp_mem e he ks hk) (crossUp_mem e he ss ks hk hs) ?_
      rcases Nat.eq_zero_or_pos d with h0 | h0
      · exact .inl h0
      · refine .inr ?_
        have e3 : 3 ^ d = 3 * 3 ^ (d - 1) := by rw [← Nat.pow_succ']; congr 1; omega
        rw [e3] at hr'
        rw [Nat.mul_comm 3 e, Nat.mul_assoc]; exact hr'
    · rw [butlast_one h1]
      show ss.length ≤ 1000
      omega
theorem bigP_le : ∀ ms : List Nat, (∀ m ∈ ms, m < 2 ^ 21) → bigP ms ≤ 2 ^ (21 * ms.length)
  | [], _ => by simp [bigP]
  | m :: r, h => by
    simp only [bigP, List.length_cons]
    rw [Nat.mul_add, Nat.mul_one, Nat.add_comm (21 * r.length), Nat.pow_add]
    refine Nat.mul_le_mul ?_ (bigP_le r fun x hx => h x (.tail _ hx))
    exact Nat.max_le.mpr ⟨Nat.one_le_two_pow, Nat.le_of_lt (h m (.head _))⟩
theorem bigP_small {ms : List Nat} (h : ∀ m ∈ ms, m < 2 ^ 21) (hl : ms.length ≤ 7) : bigP ms ≤ 2 ^ 147 := Nat.le_trans (bigP_le ms h) (Nat.pow_le_pow_right (by decide) (by omega))

/-- the levels -/
def halves : Nat → Nat → Nat
  | n, 0 => n
  | n, j + 1 => (halves n j + 1) / 2
def pairIter : Nat → List Nat → List Nat
  | 0, ks => ks
  | j + 1, ks => pairUp (pairIter j ks)
theorem pairIter_len (ks : List Nat) : ∀ j, (pairIter j ks).length = halves ks.length j
  | 0 => rfl
  | j + 1 => by rw [pairIter, pairUp_len, pairIter_len ks j]; rfl
theorem pairIter_succ (ks : List Nat) : ∀ j, pairIter (j + 1) ks = pairIter j (pairUp ks)
  | 0 => rfl
  | j + 1 => by rw [pairIter, pairIter_succ ks j]; rfl
theorem tree_at : ∀ (j : Nat) (ks lv : List Nat), (tree ks)[j]? = some lv → lv = pairIter j ks ∧ (j = 0 ∨ 1 < halves ks.length (j - 1))
  | 0, ks, lv, h => by
    by_cases h1 : 1 < ks.length
    · rw [tree_more h1] at h; simp at h; exact ⟨h.symm, .inl rfl⟩
    · rw [tree_one h1] at h; simp at h; exact ⟨h.symm, .inl rfl⟩
  | j + 1, ks, lv, h => by
    by_cases h1 : 1 < ks.length
    · rw [tree_more h1, List.getElem?_cons_succ] at h
      obtain ⟨e1, e2⟩ := tree_at j _ _ h
      refine ⟨by rw [pairIter_succ]; exact e1, .inr ?_⟩
      rcases e2 with rfl | e2
      · exact h1
      · rcases Nat.eq_zero_or_pos j with rfl | hj
        · exact h1
        · obtain ⟨q, rfl⟩ : ∃ q, j = q + 1 := ⟨j - 1, by omega⟩
          simp only [Nat.add_sub_cancel] at e2 ⊢
          rw [← pairIter_len, ← pairIter_succ, pairIter_len] at e2
          exact e2
    · rw [tree_one h1] at h; simp at h
def grp (p : Nat) (ks : List Nat) (i : Nat) : Nat := prodN ((ks.take ((i + 1) * p)).drop (i * p))
theorem pairUp_getD : ∀ (l : List Nat) (i : Nat), (pairUp l).getD i 1 = l.getD (2 * i) 1 * l.getD (2 * i + 1) 1
  | [], i => by simp [pairUp_nil]
  | [x], 0 => by simp [pairUp_one]
  | [x], i + 1 => by simp [pairUp_one, show 2 * (i + 1) = 2 * i + 1 + 1 by omega]
  | x :: y :: r, 0 => by simp [pairUp_two]
  | x :: y :: r, i + 1 => by
    rw [pairUp_two, List.getD_cons_succ, pairUp_getD r i, show 2 * (i + 1) = 2 * i + 1 + 1 by omega, List.getD_cons_succ, List.getD_cons_succ, List.getD_cons_succ, List.getD_cons_succ]
theorem grp_two (p : Nat) (ks : List Nat) (i : Nat) : grp (p * 2) ks i = grp p ks (2 * i) * grp p ks (2 * i + 1) := by
  unfold grp
  rw [← prodN_append]
  have e1 : i * (p * 2) = 2 * i * p := by rw [Nat.mul_comm p 2, ← Nat.mul_assoc, Nat.mul_comm i 2]
  have e2 : (i + 1) * (p * 2) = (2 * i + 1 + 1) * p := by rw [Nat.mul_comm p 2, ← Nat.mul_assoc]; congr 1; omega
  rw [e1, e2]
  congr 1
  have h1 : 2 * i * p ≤ (2 * i + 1) * p := Nat.mul_le_mul_right _ (by omega)
  have h2 : (2 * i + 1) * p ≤ (2 * i + 1 + 1) * p := Nat.mul_le_mul_right _ (by omega)
  generalize 2 * i * p = a at *
  generalize (2 * i + 1) * p = b at *
  generalize (2 * i + 1 + 1) * p = c at *
  rw [List.drop_take, List.drop_take, List.drop_take]
  have e3 : c - a = (b - a) + (c - b) := by omega
  have e4 : ks.drop b = (ks.drop a).drop (b - a) := by rw [List.drop_drop]; congr 1; omega
  rw [e3, e4, List.take_add]
theorem pairIter_getD (ks : List Nat) : ∀ (j i : Nat), (pairIter j ks).getD i 1 = grp (2 ^ j) ks i
  | 0, i => by
    simp only [pairIter, grp, Nat.pow_zero, Nat.mul_one]
    rw [List.drop_take, Nat.add_sub_cancel_left]
    by_cases h : i < ks.length
    · have e : (ks.drop i).take 1 = [ks[i]] := by rw [List.drop_eq_getElem_cons h]; rfl
      rw [e]; simp [prodN, h]
    · rw [List.drop_eq_nil_of_le (by omega)]; simp [prodN, h]
  | j + 1, i => by
    rw [pairIter, pairUp_getD, pairIter_getD ks j, pairIter_getD ks j, ← grp_two, Nat.pow_succ]
theorem level_is {j : Nat} {ks lv : List Nat} (h : (tree ks)[j]? = some lv) : lv = (List.range lv.length).map (grp (2 ^ j) ks) := by
  obtain ⟨rfl, _⟩ := tree_at j ks lv h
  refine List.ext_getElem (by simp) fun i h1 h2 => ?_
  rw [List.getElem_map, List.getElem_range, ← pairIter_getD]
  simp [h1]
theorem part_fact : ∀ n : Fin 8, ∀ j : Fin 4, (j.1 = 0 ∨ 1 < halves n.1 (j.1 - 1)) → n.1 ≤ 2 ^ j.1 * halves n.1 j.1 ∧ ∀ q : Fin 4, q.1 < j.1 → 2 ^ q.1 * halves n.1 j.1 < n.1 := by decide
theorem halves3 : ∀ n : Fin 8, halves n.1 3 ≤ 1 := by decide
theorem halves_le (n : Nat) (h : n ≤ 1) : ∀ j, halves n j ≤ 1
  | 0 => h
  | j + 1 => by have := halves_le n h j; show (halves n j + 1) / 2 ≤ 1; omega
theorem halves_mono (n : Nat) : ∀ i j, halves n i ≤ 1 → halves n (i + j) ≤ 1
  | i, 0, h => h
  | i, j + 1, h => by have := halves_mono n i j h; show (halves n (i + j) + 1) / 2 ≤ 1; omega
theorem level_few {j : Nat} {ks lv : List Nat} (hn : ks.length ≤ 7) (h : (tree ks)[j]? = some lv) : j ≤ 3 := by
  rcases (tree_at j ks lv h).2 with rfl | h1
  · omega
  · by_cases hj : j ≤ 3
    · exact hj
    · have h3 := halves3 ⟨ks.length, by omega⟩
      have := halves_mono ks.length 3 (j - 1 - 3) h3
      rw [show 3 + (j - 1 - 3) = j - 1 by omega] at this
      omega
theorem level_part {j : Nat} {ks lv : List Nat} (hn : ks.length ≤ 7) (h : (tree ks)[j]? = some lv) : lv.length = halves ks.length j ∧ ks.length ≤ 2 ^ j * lv.length ∧ ∀ q, q < j → 2 ^ q * lv.length < ks.length := by
  have hj := level_few hn h
  obtain ⟨e1, e2⟩ := tree_at j ks lv h
  have el : lv.length = halves ks.length j := by rw [e1, pairIter_len]
  obtain ⟨p1, p2⟩ := part_fact ⟨ks.length, by omega⟩ ⟨j, by omega⟩ e2
  rw [el]
  exact ⟨rfl, p1, fun q hq => p2 ⟨q, by omega⟩ hq⟩
theorem prodN_pairIter (ks : List Nat) : ∀ j, prodN (pairIter j ks) = prodN ks
  | 0 => rfl
  | j + 1 => by rw [pairIter, prodN_pairUp, prodN_pairIter ks j]
theorem tree_last (ks : List Nat) (h0 : 0 < ks.length) : (tree ks).getLast? = some [prodN ks] := by
  induction hn : ks.length using Nat.strongRecOn generalizing ks with
  | ind n ih =>
    subst hn
    by_cases h1 : 1 < ks.length
    · rw [tree_more h1, List.getLast?_cons, ih _ (pairUp_lt h1) (pairUp ks) (by rw [pairUp_len]; omega) rfl, prodN_pairUp]
      rfl
    · rw [tree_one h1]
      obtain ⟨x, rfl⟩ : ∃ x, ks = [x] := List.length_eq_one_iff.mp (by omega)
      simp [prodN]
end Mine
end
section
open PySem PySem.W PyProof.Rows PySem.Calls PySem.Spec
open PyProof.Rows.LCg
set_option maxRecDepth 100000
set_option maxHeartbeats 1000000
namespace Mine
local macro_rules | `(tactic| walk_at "binaryOp Pow int int") => `(tactic| (refine PyProof.Rows.pow_int_small (by first | with_reducible assumption | omega) (by first | with_reducible assumption | omega) (by decide) ?_))
local macro_rules | `(tactic| walk_at "eval Name") => `(tactic| ((with_reducible show wpAny _ _ (eval (Expr.Name _ _) (compEnvC _ _ _ _)) _ _ _); k_dflt (refine nm_local (by with_reducible assumption) (by rfl) ?_ (by rfl) (by rfl) (by decide))))
local macro_rules | `(tactic| walk_at "subscriptTail") => `(tactic| ((with_reducible show wpAny _ _ (subscriptTail _ _ (Value.ref _) (Value.int _ _)) _ _ _); k_dflt (first | refine item_at (by with_reducible assumption) (by with_reducible assumption) (by with_reducible assumption) (by first | with_reducible assumption | omega) ?_ | refine item_at1 (by with_reducible assumption) (by with_reducible assumption) (by with_reducible assumption) (by first | with_reducible assumption | omega) ?_)))
local macro_rules | `(tactic| walk_at "subscriptTail Name Name ref int") => `(tactic| ((with_reducible show wpAny _ _ (subscriptTail _ _ (Value.ref _) (Value.int _ _)) _ _ _); k_dflt (first | refine item_at (by with_reducible assumption) (by with_reducible assumption) (by with_reducible assumption) (by first | with_reducible assumption | omega) ?_ | refine item_at1 (by with_reducible assumption) (by with_reducible assumption) (by with_reducible assumption) (by first | with_reducible assumption | omega) ?_)))
local macro_rules | `(tactic| walk_at "subscriptTail Name BinOp ref int") => `(tactic| ((with_reducible show wpAny _ _ (subscriptTail _ _ (Value.ref _) (Value.int _ _)) _ _ _); k_dflt (first | refine item_at (by with_reducible assumption) (by with_reducible assumption) (by with_reducible assumption) (by first | with_reducible assumption | omega) ?_ | refine item_at1 (by with_reducible assumption) (by with_reducible assumption) (by with_reducible assumption) (by first | with_reducible assumption | omega) ?_)))
local macro_rules | `(tactic| walk_at "subscriptTail Name UnaryOp ref int") => `(tactic| ((with_reducible show wpAny _ _ (subscriptTail _ _ (Value.ref _) (Value.int _ _)) _ _ _); k_dflt (first | refine item_last (News.isList (by k_asm) (by k_mem)) (by with_reducible assumption) (by decide) ?_ | refine item_last (by with_reducible assumption) (by with_reducible assumption) (by decide) ?_)))
local macro_rules | `(tactic| walk_at "subscriptTail Name Constant ref int") => `(tactic| ((with_reducible show wpAny _ _ (subscriptTail _ _ (Value.ref _) (Value.int _ _)) _ _ _); k_dflt (refine item_zero (by with_reducible assumption) (by with_reducible assumption) ?_)))
local macro_rules | `(tactic| walk_at "call builtin:list.append") => `(tactic| ((with_reducible show wpAny _ _ (call (Value.builtin _) [Value.ref _, _]) _ _ _); k_dflt (refine' append_K ?k1 ?k2 (Upd.head ?k3) ?_ ?z; (case k1 => k_asm); (case k2 => k_asm); (case k3 => first | assumption | exact List.forall_mem_nil _); (case z => first | assumption | size_fits)); intro h' F' N'; (try k_sweep)))
local macro_rules | `(tactic| walk_at "call builtin:len") => `(tactic| ((with_reducible show wpAny _ _ (call (Value.builtin "len") [Value.ref _]) _ _ _); k_dflt (first | refine len_at (by with_reducible assumption) (by with_reducible assumption) (by with_reducible assumption) (by omega) ?_ | refine len_at1 (by with_reducible assumption) (by with_reducible assumption) (by with_reducible assumption) (by omega) ?_ | refine len_at1 (by with_reducible assumption) (News.isList (by k_asm) (by k_mem)) (by with_reducible assumption) (by omega) ?_)))
local macro_rules | `(tactic| walk_at "storeName") => `(tactic| ((with_reducible show wpAny _ _ (storeName (envOfC _ _ _ _ _) _ _) _ _ _); first | (k_here; k_dflt (refine' storeX_L ?F ?N ?_ ?a ?b; (case F => k_asm); (case N => k_asm); (case a => rfl); (case b => rfl); k_whole; intro h' F' N'; (try k_sweep))) | refine Stop.of ?_))
local macro_rules | `(tactic| walk_at "pyIter ref") => `(tactic| ((with_reducible show wpAny _ _ (pyIter (Value.ref _)) _ _ _); refine Stop.of ?_))
local macro_rules | `(tactic| walk_at "execs cons Assign cons") => `(tactic| (refine wpAny_execs_cons ?_))
local macro_rules | `(tactic| walk_at "execs cons") => `(tactic| (refine wpAny_execs_cons ?_))
local macro_rules | `(tactic| walk_at "subscriptTail Name Slice ref ref") => `(tactic| (refine Stop.of ?_))
local macro_rules | `(tactic| walk_at "binaryOp Add ref ref") => `(tactic| (refine Stop.of ?_))
local macro_rules | `(tactic| walk_at "call ref") => `(tactic| (refine Stop.of ?_))
local macro_rules | `(tactic| walk_at "call type:enumerate") => `(tactic| (refine Stop.of ?_))
local macro_rules | `(tactic| walk_at "call type:range") => `(tactic| (refine Stop.of ?_))
local macro_rules | `(tactic| walk_at "call builtin:sum") => `(tactic| (refine Stop.of ?_))
local macro_rules | `(tactic| walk_at "exec If") => `(tactic| (refine Stop.of ?_))
local macro_rules | `(tactic| walk_at "eval ListComp") => `(tactic| (refine Stop.of ?_))
local macro_rules | `(tactic| walk_at "exec Assign cons ListComp") => `(tactic| (refine Stop.of ?_))
local macro_rules | `(tactic| walk_at "exec For Name Name cons nil") => `(tactic| (refine Stop.of ?_))
local macro_rules | `(tactic| walk_at "exec For Name Call cons nil") => `(tactic| (refine Stop.of ?_))
local macro_rules | `(tactic| walk_at "exec For Name Subscript cons nil") => `(tactic| (refine Stop.of ?_))
local macro_rules | `(tactic| walk_at "exec While Compare cons nil") => `(tactic| (refine Stop.of ?_))
local macro_rules | `(tactic| walk_at "exec While Compare") => `(tactic| (refine Stop.of ?_))
local macro_rules | `(tactic| ktr_unf) => `(tactic| (w_top off; repeat' (first | ((with_reducible show wpAny _ _ _ _ _ _); walk1) | ((with_reducible show ite _ _ _); walk1) | (dsimp only; (with_reducible show wpAny _ _ _ _ _ _); walk1) | (dsimp only; (with_reducible show ite _ _ _); walk1) | ((with_reducible show Frag.In _ _ ∧ _); refine ⟨by k_in, ?_⟩; try dsimp only [List.nil_append, List.cons_append]))))


local macro_rules | `(tactic| walk_at "execs cons Assign cons") => `(tactic| (refine Stop.of ?_))
local macro_rules | `(tactic| walk_at "execs cons") => `(tactic| (refine Stop.of ?_))
local macro_rules | `(tactic| walk_at "compareOp NotEq ref ref") => `(tactic| (refine Stop.of ?_))
local macro_rules | `(tactic| walk_at "compareOp Eq ref ref") => `(tactic| (refine Stop.of ?_))

theorem ints_run {vs : List Value} {ms : List Nat} (h : IntsAre vs (castZ ms)) (a b : Nat) : IntsAre ((vs.take b).drop a) (castZ ((ms.take b).drop a)) := by
  show IntsAre _ (((ms.take b).drop a).map _)
  rw [List.map_drop, List.map_take]; exact (h.take b).drop a
theorem big_run {ms : List Nat} (h : bigP ms ≤ 2 ^ 147) (a b : Nat) : bigP ((ms.take b).drop a) < 2 ^ 1000 :=
  Nat.lt_of_le_of_lt (Nat.le_trans (bigP_drop_le _ _) (Nat.le_trans (bigP_take_le _ _) h)) (Nat.pow_lt_pow_right (by decide) (by decide))
theorem frK {h₀ h : Heap} {L : Addr} {m : Str → Option Value} {ps : List (Str × Value)} (F : Fr h₀ L h m) (hm : HasAll m ps) : Fr h₀ L h (kstB m ps) := by rw [kst_all hm]; exact F
theorem isL {h₀ h : Heap} {L a : Addr} {ys : List Value} {news : List (Addr × Obj)} (N : News h₀ L h news) (hm : (a, lst ys) ∈ news) : h.IsList a ys.toArray := ⟨_, (N _ hm).1, rfl, _, rfl⟩
def loopBody : List Stmt := match lawBody.drop 9 with
  | .For _ _ b _ _ :: _ => b
  | _ => []

theorem law_turn {w : World} {A : Around} {s : Shared} {mean : ExcName → Option Value} {mg mb : Str → Option Value} {L f M K av : Addr} {cdv vR vS vL : Value} {mvs kvs vls : List Value} {ms lv : List Nat} {h : Heap} {tk wn n i : Nat} {tw tn ts : Tok} {u : Str → Option Value} {v5 : Option Value} {o2 o3 o4 o5 : Obj} {env : Env} {body : List Stmt} {rest : List (Addr × Obj)}
    (X : (Mine.hd.heap_39 w.params).In s.heap) (T : Top Mine.hd.view_39 (looseW Mine.hd.view_39 []) mean mg mb s.heap)
    (hA : A.handled = none) (hd : A.depth < 800) (hu : A.units ≤ 9000) (hw : 2 ≤ wn) (hw7 : wn ≤ 7) (hn : n ≤ 7)
    (hms : IntsAre mvs (castZ ms)) (hml : ms.length = n) (hmb : ∀ m ∈ ms, m < 2 ^ 21)
    (he : env = envOfC (Str.ofString "law") lawScope L f cdv) (hb : body = loopBody)
    (F : Fr s.heap L h (kstB u [(Str.ofString "level", .ref av), (Str.ofString "size", .int ((halves n i : Nat) : Int) ts), (Str.ofString "many", .int ((n : Nat) : Int) tn), (Str.ofString "rows", vR), (Str.ofString "sums", vS), (Str.ofString "levels", vL)]))
    (N : News s.heap L h ((L + 1 + 1 + 1 + 1 + 1, o5) :: (L + 1 + 1, o2) :: (L + 1 + 1 + 1, o3) :: (L + 1 + 1 + 1 + 1, o4) :: (M, lst mvs) :: (K, lst kvs) :: rest))
    (hM5 : L + 1 + 1 + 1 + 1 + 1 ≠ M) (hK5 : L + 1 + 1 + 1 + 1 + 1 ≠ K) (hr5 : ∀ p ∈ rest, L + 1 + 1 + 1 + 1 + 1 ≠ p.1)
    (hvl : IsL (SU E0 rest) av vls) (hvr : AllR (NumV (SU E0 rest) (2 ^ wn)) vls lv) (htr : (tree ms)[i]? = some lv)
    (d2 : o2.data = .cell (some (.int ((wn : Nat) : Int) tw))) (d3 : o3.data = .cell (some (.ref M))) (d5 : o5.data = .cell v5) :
    wpAny (model PySem.Challenge.rw_rr0052_01.row.prog w) (A.deeper env) (execs body env) (fun fl s' => fl = .next ∧ ∃ h' tk' m' o5' v5' t', s' = { s with heap := h', toks := tk' } ∧ Fr s.heap L h' m' ∧ News s.heap L h' ((L + 1 + 1 + 1 + 1 + 1, o5') :: (L + 1 + 1, o2) :: (L + 1 + 1 + 1, o3) :: (L + 1 + 1 + 1 + 1, o4) :: (M, lst mvs) :: (K, lst kvs) :: rest) ∧
      HasAll m' [(Str.ofString "size", .int ((halves n (i + 1) : Nat) : Int) t'), (Str.ofString "many", .int ((n : Nat) : Int) tn), (Str.ofString "rows", vR), (Str.ofString "sums", vS), (Str.ofString "levels", vL)] ∧ o5'.data = .cell v5') NoE { s with heap := h, toks := tk } := by
  obtain ⟨ahd, adp, afr, agd, aun⟩ := A
  obtain rfl : ahd = none := hA
  replace hd : adp < 800 := hd
  replace hu : aun ≤ 9000 := hu
  revert X; k_fill; intro X
  conv at hb => rhs; whnf
  subst hb
  conv at he => rhs; arg 2; whnf
  subst he
  have hbig : bigP ms ≤ 2 ^ 147 := bigP_small hmb (by omega)
  obtain ⟨hlv1, hlv2, hlv3⟩ := level_part (by omega) htr
  have hi3 := level_few (by omega) htr
  have hlv7 : lv.length ≤ 7 := by
    rcases Nat.eq_zero_or_pos i with rfl | hi0
    · rw [hlv1]; show ms.length ≤ 7; omega
    · have := hlv3 0 hi0
      rw [Nat.pow_zero, Nat.one_mul] at this; omega
  have hlvn : lv.length = halves n i := by rw [hlv1, hml]
  have hvlH := hvl.heap (SU.stand0 N (l := rest) (by grind))
  have hvn : vls.length = halves n i := hvr.1.trans hlvn
  have hh60 : halves n i < 2 ^ 60 := by omega
  refine wpAny_execs_cons ?_
  ktr_unf
  refine Stop.mk (wpAny_If ?_)
  ktr_unf
  · rename (_ : Int) ≠ _ => hne
    exact absurd rfl hne
  have c52 : (L + 1 + 1 : Nat) ≠ L + 1 + 1 + 1 + 1 + 1 := by intro e; replace e : @Eq Nat (L + 2) (L + 5) := e; omega
  have c53 : (L + 1 + 1 + 1 : Nat) ≠ L + 1 + 1 + 1 + 1 + 1 := by intro e; replace e : @Eq Nat (L + 3) (L + 5) := e; omega
  have c54 : (L + 1 + 1 + 1 + 1 : Nat) ≠ L + 1 + 1 + 1 + 1 + 1 := by intro e; replace e : @Eq Nat (L + 4) (L + 5) := e; omega
  have hsubs : ∀ (o : Obj), ∀ p ∈ (L + 1 + 1, o2) :: (L + 1 + 1 + 1, o3) :: (L + 1 + 1 + 1 + 1, o4) :: (M, lst mvs) :: (K, lst kvs) :: rest, p ∈ (L + 1 + 1 + 1 + 1 + 1, o) :: (L + 1 + 1, o2) :: (L + 1 + 1 + 1, o3) :: (L + 1 + 1 + 1 + 1, o4) :: (M, lst mvs) :: (K, lst kvs) :: rest ∧ p.1 ≠ L + 1 + 1 + 1 + 1 + 1 := by
    intro o p hp
    refine ⟨.tail _ hp, ?_⟩
    simp only [List.mem_cons] at hp
    rcases hp with rfl | rfl | rfl | rfl | rfl | hp
    · exact c52
    · exact c53
    · exact c54
    · exact Ne.symm hM5
    · exact Ne.symm hK5
    · exact Ne.symm (hr5 p hp)
  refine Stop.mk (wpAny_execs_cons ?_)
  ktr_unf
  refine Stop.mk ?_
  refine st_cell F N (by rfl) (.head _) d5 (hsubs o5) ?_ (by rfl) (by rfl)
  intro h2 o5a F2 N2 d5a
  clear F N
  ktr_unf
  refine Stop.mk (wpAny_execs_cons ?_)
  ktr_unf
  refine Stop.mk ?_
  refine while_rule (fun _ : Nat => [(Str.ofString "level", .ref av), (Str.ofString "size", .int ((halves n i : Nat) : Int) ts), (Str.ofString "many", .int ((n : Nat) : Int) tn), (Str.ofString "rows", vR), (Str.ofString "sums", vS), (Str.ofString "levels", vL)])
    (fun k _ nx => ∃ (q : Nat) (o : Obj) (t : Tok), nx = (L + 1 + 1 + 1 + 1 + 1, o) :: (L + 1 + 1, o2) :: (L + 1 + 1 + 1, o3) :: (L + 1 + 1 + 1 + 1, o4) :: (M, lst mvs) :: (K, lst kvs) :: rest ∧ o.data = .cell (some (.int ((2 ^ q : Nat) : Int) t)) ∧ q + k = i)
    F2 N2 ⟨i, 0, ⟨rfl, rfl, rfl, rfl, rfl, rfl, trivial⟩, 0, o5a, _, rfl, d5a, by omega⟩ ?_
  rintro k c u3 nx h3 tk3 ⟨q, o5b, t3, rfl, d5b, hqk⟩ F3 N3
  clear F2 N2
  have hq8 : 2 ^ q ≤ 8 := Nat.le_trans (Nat.pow_le_pow_right (by decide) (show q ≤ 3 by omega)) (by decide)
  have hvlH3 := hvl.heap (SU.stand0 N3 (l := rest) (by grind))
  have hm1 : IntMulOk ((2 ^ q : Nat) : Int) ((halves n i : Nat) : Int) := mulOk (m := 4) (n := 4) (by rw [Int.natAbs_natCast]; omega) (by rw [Int.natAbs_natCast]; omega) (by decide)
  have hm2 : IntMulOk (2 : Int) ((2 ^ q : Nat) : Int) := mulOk (m := 4) (n := 4) (by decide) (by rw [Int.natAbs_natCast]; omega) (by decide)
  rw [hml] at hlv2 hlv3
  rw [hlvn] at hlv2 hlv3
  ktr_unf
  · rename _ < ((n : Nat) : Int) => hlt
    rw [← Int.natCast_mul] at hlt
    have hlt' : 2 ^ q * halves n i < n := Int.ofNat_lt.mp hlt
    have hqi : q < i := by
      by_cases h : q < i
      · exact h
      · obtain rfl : q = i := by omega
        omega
    refine Stop.mk (wpAny_execs_cons ?_)
    ktr_unf
    refine Stop.mk ?_
    have e2 : (2 : Int) * ((2 ^ q : Nat) : Int) = ((2 ^ (q + 1) : Nat) : Int) := by rw [Nat.pow_succ', Int.natCast_mul]; rfl
    rw [e2]
    refine st_cell F3 N3 (by rfl) (.head _) d5b (hsubs o5b) ?_ (by rfl) (by rfl)
    intro h4 o5c F4 N4 d5c
    ktr_unf
    exact ⟨rfl, _, _, _, 0, _, k - 1, rfl, by omega, F4, N4, ⟨rfl, rfl, rfl, rfl, rfl, rfl, trivial⟩, q + 1, o5c, _, rfl, d5c, by omega⟩
  · rename ¬ (_ < ((n : Nat) : Int)) => hge
    rw [← Int.natCast_mul] at hge
    have hge' : ¬ 2 ^ q * halves n i < n := fun h => hge (Int.ofNat_lt.mpr h)
    have hqi : q = i := by
      by_cases h : q < i
      · exact absurd (hlv3 q h) hge'
      · omega
    subst hqi
    clear hge hge'
    refine Stop.mk (wpAny_execs_cons ?_)
    ktr_unf
    refine Stop.mk ?_
    refine LCg.Assign_ListComp_U (F₀ := F3) (by rfl) (by with_unfolding_all rfl) (by with_unfolding_all rfl) (by decide) (by rfl) (by decide) (by rfl) (by rfl) (by rfl) ?_
    ktr_unf
    refine Stop.mk ?_
    refine call_range_1 ?_
    refine CompSrc.range (n := halves n q) rfl (F3.push _) (N3.grown fun _ _ e => Heap.get?_push_of_some _ e) (IsRange.new ..) (small_one (by omega) (by omega) (by omega) (by omega)) (by rw [rangeSize_one]; split <;> omega) (by rw [sizeLine_eq]; omega) fun g => ?_
    refine restOf _ (fun j yy nx => ∃ tl, nx = (L + 1 + 1 + 1 + 1 + 1, o5b) :: (L + 1 + 1, o2) :: (L + 1 + 1 + 1, o3) :: (L + 1 + 1 + 1 + 1, o4) :: (M, lst mvs) :: (K, lst kvs) :: (rest ++ tl) ∧ AllR (NumV (SU E0 tl) (2 ^ wn)) yy ((List.range j).map (grp (2 ^ q) ms))) ?turn ?fin _ 0 [] _ (Nat.zero_add _) ⟨[], by rw [List.append_nil], .nil⟩
    case turn =>
      rintro j yy nx v I oI C2 oC D2 m₂ h5 tk5 hj1 ⟨tl, rfl, hyy⟩ ⟨t, rfl⟩ hC hx F5 N5 off ne
      rw [Int.zero_add] at hx
      clear F3 N3
      have hMH : h5.IsList M mvs.toArray := isL N5 (by simp)
      have hm3 : IntMulOk ((j : Nat) : Int) ((2 ^ q : Nat) : Int) := mulOk (m := 4) (n := 4) (by rw [Int.natAbs_natCast]; omega) (by rw [Int.natAbs_natCast]; omega) (by decide)
      have hm4 : IntMulOk (((j : Nat) : Int) + 1) ((2 ^ q : Nat) : Int) := mulOk (m := 4) (n := 4) (by omega) (by rw [Int.natAbs_natCast]; omega) (by decide)
      ktr_unf
      refine Stop.mk ?_
      refine slice_any (ws := (mvs.take ((j + 1) * 2 ^ q)).drop (j * 2 ^ q)) F5 N5 hMH (.int _ _) (.int _ _) (pick_run mvs (j * 2 ^ q) ((j + 1) * 2 ^ q) _ _ (by rw [Int.natCast_mul]) (by rw [Int.natCast_mul]; rfl)) (by rw [hms.length, List.length_map]; omega) fun D3 h6 F6 N6 => ?_
      clear F5 N5
      ktr_unf
      refine Stop.mk ?_
      have hwi := big_run hbig (j * 2 ^ q) ((j + 1) * 2 ^ q)
      refine use (c_product (X.keeps F6.keep) (T.keeps F6.keep) ?hA ?hd (N6.isList (.head _)) (ints_run hms (j * 2 ^ q) ((j + 1) * 2 ^ q)) hwi) ?_
      case hA => rfl
      case hd => show adp + 1 < 900; omega
      rintro r s' ⟨⟨t7, rfl⟩, h7, tk7, rfl, hk7⟩
      have F7 := F6.keeps hk7
      have N7 := N6.grown hk7
      clear F6 N6
      ktr_unf
      refine Stop.mk ?_
      refine use (c_limbs (S := E0) (X.keeps F7.keep) (T.keeps F7.keep) ?hA ?hd (Nat.lt_of_le_of_lt (prodN_le_bigP _) hwi) hw hw7) ?_
      case hA => rfl
      case hd => show adp + 1 < 900; omega
      intro r s' q7
      have N8 := sub (l' := (I, oI) :: (C2, oC) :: (D2, lst yy) :: (L + 1 + 1 + 1 + 1 + 1, o5b) :: (L + 1 + 1, o2) :: (L + 1 + 1 + 1, o3) :: (L + 1 + 1 + 1 + 1, o4) :: (M, lst mvs) :: (K, lst kvs) :: (rest ++ tl)) N7 (fun p hp => .tail _ hp)
      obtain ⟨h9, tk9, tl2, rfl, F9, N9, hdj, hR⟩ := after_res F7 N8 q7
      clear q7 F7 N7 N8
      ktr_unf
      refine CompEnd.intro F9 N9 _ (fun p hp => hp) (off_app off hdj) trivial ⟨tl ++ tl2, by rw [← List.append_assoc]; rfl, ?_⟩
      rw [List.range_succ, List.map_append]
      exact (hyy.mono fun _ _ z => z.mono (SU.more fun p hp => List.mem_append_left _ hp)).append (.one (hR.mono (SU.more fun p hp => List.mem_append_right _ hp)))
    case fin =>
      rintro yy nx ⟨tl, rfl, hyy⟩
      intro D2 h5 tk5 F5 N5 off
      clear F3 N3
      have hlevel := level_is htr
      rw [hlvn] at hlevel
      rw [← hlevel] at hyy
      have hvlN : NumsV (SU E0 rest) (2 ^ wn) (.ref av) lv := ⟨av, vls, rfl, hvl, hvr⟩
      have hsomeN : NumsV (SU E0 ((D2, lst yy) :: tl)) (2 ^ wn) (.ref D2) lv := ⟨D2, yy, rfl, ⟨lst yy, .inr (.head _), rfl, _, rfl⟩, hyy.mono fun _ _ z => z.mono (SU.more fun p hp => .tail _ hp)⟩
      dsimp only
      refine wpAny_execs_cons ?_
      ktr_unf
      refine Stop.mk (wpAny_If ?_)
      ktr_unf
      refine Stop.mk ?_
      refine ne_nums (S := SU E0 rest) (S' := SU E0 ((D2, lst yy) :: tl)) ?hs1 ?hs2 hvlN hsomeN ?hu2 ?_
      case hs1 => exact SU.stand0 N5 (by grind)
      case hs2 => exact SU.stand0 N5 (by grind)
      case hu2 => show aun + 3 + 64 < 9900; omega
      ktr_unf
      refine Stop.mk (wpAny_execs_cons ?_)
      ktr_unf
      rename Fr _ _ _ _ => F8
      rename News _ _ _ _ => N8
      have e9 : (((halves n q : Nat) : Int) + 1).fdiv 2 = ((halves n (q + 1) : Nat) : Int) := fdivZ (halves n q + 1) 2
      simp only [e9] at F8
      exact ⟨rfl, _, _, _, o5b, _, _, rfl, F8, sub N8 (fun p hp => .tail _ (m10 p hp)), ⟨rfl, rfl, rfl, rfl, rfl, trivial⟩, d5b⟩
end Mine
end
section
open PySem PySem.W PyProof.Rows PySem.Calls PySem.Spec
open PyProof.Rows.LCg
set_option maxRecDepth 100000
set_option maxHeartbeats 1000000
namespace Mine
local macro_rules | `(tactic| walk_at "pad") => `(tactic| fail "pad")
local macro_rules | `(tactic| walk_at "binaryOp Pow int int") => `(tactic| (refine PyProof.Rows.pow_int_small (by first | with_reducible assumption | omega) (by first | with_reducible assumption | omega) (by decide) ?_))
local macro_rules | `(tactic| walk_at "eval Name") => `(tactic| ((with_reducible show wpAny _ _ (eval (Expr.Name _ _) (compEnvC _ _ _ _)) _ _ _); k_dflt (refine nm_local (by with_reducible assumption) (by rfl) ?_ (by rfl) (by rfl) (by decide))))
local macro_rules | `(tactic| walk_at "subscriptTail") => `(tactic| ((with_reducible show wpAny _ _ (subscriptTail _ _ (Value.ref _) (Value.int _ _)) _ _ _); k_dflt (first | refine item_at (by with_reducible assumption) (by with_reducible assumption) (by with_reducible assumption) (by first | with_reducible assumption | omega) ?_ | refine item_at1 (by with_reducible assumption) (by with_reducible assumption) (by with_reducible assumption) (by first | with_reducible assumption | omega) ?_)))
local macro_rules | `(tactic| walk_at "subscriptTail Name Name ref int") => `(tactic| ((with_reducible show wpAny _ _ (subscriptTail _ _ (Value.ref _) (Value.int _ _)) _ _ _); k_dflt (first | refine item_at (by with_reducible assumption) (by with_reducible assumption) (by with_reducible assumption) (by first | with_reducible assumption | omega) ?_ | refine item_at1 (by with_reducible assumption) (by with_reducible assumption) (by with_reducible assumption) (by first | with_reducible assumption | omega) ?_)))
local macro_rules | `(tactic| walk_at "subscriptTail Name BinOp ref int") => `(tactic| ((with_reducible show wpAny _ _ (subscriptTail _ _ (Value.ref _) (Value.int _ _)) _ _ _); k_dflt (first | refine item_at (by with_reducible assumption) (by with_reducible assumption) (by with_reducible assumption) (by first | with_reducible assumption | omega) ?_ | refine item_at1 (by with_reducible assumption) (by with_reducible assumption) (by with_reducible assumption) (by first | with_reducible assumption | omega) ?_)))
local macro_rules | `(tactic| walk_at "subscriptTail Name UnaryOp ref int") => `(tactic| ((with_reducible show wpAny _ _ (subscriptTail _ _ (Value.ref _) (Value.int _ _)) _ _ _); k_dflt (first | refine item_last (News.isList (by k_asm) (by k_mem)) (by with_reducible assumption) (by decide) ?_ | refine item_last (by with_reducible assumption) (by with_reducible assumption) (by decide) ?_)))
local macro_rules | `(tactic| walk_at "subscriptTail Name Constant ref int") => `(tactic| ((with_reducible show wpAny _ _ (subscriptTail _ _ (Value.ref _) (Value.int _ _)) _ _ _); k_dflt (refine item_zero (by with_reducible assumption) (by with_reducible assumption) ?_)))
local macro_rules | `(tactic| walk_at "call builtin:list.append") => `(tactic| ((with_reducible show wpAny _ _ (call (Value.builtin _) [Value.ref _, _]) _ _ _); k_dflt (refine' append_K ?k1 ?k2 (Upd.head ?k3) ?_ ?z; (case k1 => k_asm); (case k2 => k_asm); (case k3 => first | assumption | exact List.forall_mem_nil _); (case z => first | assumption | size_fits)); intro h' F' N'; (try k_sweep)))
local macro_rules | `(tactic| walk_at "call builtin:len") => `(tactic| ((with_reducible show wpAny _ _ (call (Value.builtin "len") [Value.ref _]) _ _ _); k_dflt (first | refine len_at (by with_reducible assumption) (by with_reducible assumption) (by with_reducible assumption) (by omega) ?_ | refine len_at1 (by with_reducible assumption) (by with_reducible assumption) (by with_reducible assumption) (by omega) ?_ | refine len_at1 (by with_reducible assumption) (News.isList (by k_asm) (by k_mem)) (by with_reducible assumption) (by omega) ?_)))
local macro_rules | `(tactic| walk_at "storeName") => `(tactic| ((with_reducible show wpAny _ _ (storeName (envOfC _ _ _ _ _) _ _) _ _ _); first | (k_here; k_dflt (refine' storeX_L ?F ?N ?_ ?a ?b; (case F => k_asm); (case N => k_asm); (case a => rfl); (case b => rfl); k_whole; intro h' F' N'; (try k_sweep))) | refine Stop.of ?_))
local macro_rules | `(tactic| walk_at "pyIter ref") => `(tactic| ((with_reducible show wpAny _ _ (pyIter (Value.ref _)) _ _ _); refine Stop.of ?_))
local macro_rules | `(tactic| walk_at "execs cons Assign cons") => `(tactic| (refine wpAny_execs_cons ?_))
local macro_rules | `(tactic| walk_at "execs cons") => `(tactic| (refine wpAny_execs_cons ?_))
local macro_rules | `(tactic| walk_at "subscriptTail Name Slice ref ref") => `(tactic| (refine Stop.of ?_))
local macro_rules | `(tactic| walk_at "binaryOp Add ref ref") => `(tactic| (refine Stop.of ?_))
local macro_rules | `(tactic| walk_at "call ref") => `(tactic| (refine Stop.of ?_))
local macro_rules | `(tactic| walk_at "call type:enumerate") => `(tactic| (refine Stop.of ?_))
local macro_rules | `(tactic| walk_at "call type:range") => `(tactic| (refine Stop.of ?_))
local macro_rules | `(tactic| walk_at "call builtin:sum") => `(tactic| (refine Stop.of ?_))
local macro_rules | `(tactic| walk_at "exec If") => `(tactic| (refine Stop.of ?_))
local macro_rules | `(tactic| walk_at "eval ListComp") => `(tactic| (refine Stop.of ?_))
local macro_rules | `(tactic| walk_at "exec Assign cons ListComp") => `(tactic| (refine Stop.of ?_))
local macro_rules | `(tactic| walk_at "exec For Name Name cons nil") => `(tactic| (refine Stop.of ?_))
local macro_rules | `(tactic| walk_at "exec For Name Call cons nil") => `(tactic| (refine Stop.of ?_))
local macro_rules | `(tactic| walk_at "exec For Name Subscript cons nil") => `(tactic| (refine Stop.of ?_))
local macro_rules | `(tactic| walk_at "exec While Compare cons nil") => `(tactic| (refine Stop.of ?_))
local macro_rules | `(tactic| walk_at "exec While Compare") => `(tactic| (refine Stop.of ?_))
local macro_rules | `(tactic| ktr_unf) => `(tactic| (w_top off; repeat' (first | ((with_reducible show wpAny _ _ _ _ _ _); walk1) | ((with_reducible show ite _ _ _); walk1) | (dsimp only; (with_reducible show wpAny _ _ _ _ _ _); walk1) | (dsimp only; (with_reducible show ite _ _ _); walk1) | ((with_reducible show Frag.In _ _ ∧ _); refine ⟨by k_in, ?_⟩; try dsimp only [List.nil_append, List.cons_append]))))


local macro_rules | `(tactic| walk_at "execs cons Assign cons") => `(tactic| (refine Stop.of ?_))
local macro_rules | `(tactic| walk_at "execs cons") => `(tactic| (refine Stop.of ?_))
local macro_rules | `(tactic| walk_at "compareOp NotEq ref ref") => `(tactic| (refine Stop.of ?_))
local macro_rules | `(tactic| walk_at "compareOp Eq ref ref") => `(tactic| (refine Stop.of ?_))

theorem m11 {x a b c d e f : Addr × Obj} {rest tl : List (Addr × Obj)} : ∀ p ∈ x :: tl, p ∈ x :: a :: b :: c :: d :: e :: f :: (rest ++ tl) := by grind
theorem m12 {x a b c d e f : Addr × Obj} {rest tl tl2 : List (Addr × Obj)} : ∀ p ∈ rest, p ∈ x :: a :: b :: c :: d :: e :: f :: (rest ++ tl ++ tl2) := by grind
theorem law11 {w : World} {A : Around} {s : Shared} {mean : ExcName → Option Value} {mg mb : Str → Option Value} {L f M K : Addr} {cdv vR vS vL : Value} {mvs kvs : List Value} {ms ks : List Nat} {h : Heap} {tk wn n : Nat} {tw tn : Tok} {u : Str → Option Value} {o2 o3 o4 o5 : Obj} {env : Env} {body : List Stmt} {rest : List (Addr × Obj)}
    (X : (Mine.hd.heap_39 w.params).In s.heap) (T : Top Mine.hd.view_39 (looseW Mine.hd.view_39 []) mean mg mb s.heap)
    (hA : A.handled = none) (hd : A.depth < 800) (hu : A.units ≤ 9000) (hw : 2 ≤ wn) (hw7 : wn ≤ 7) (hn : n ≤ 7)
    (hms : IntsAre mvs (castZ ms)) (hml : ms.length = n) (hmb : ∀ m ∈ ms, m < 2 ^ 21) (hks : IntsAre kvs (castZ ks)) (hkl : ks.length = n) (hkb : ∀ m ∈ ks, m < 2 ^ 21)
    (he : env = envOfC (Str.ofString "law") lawScope L f cdv) (hb : body = lawBody.drop 11)
    (F : Fr s.heap L h (kstB u [(Str.ofString "many", .int ((n : Nat) : Int) tn), (Str.ofString "rows", vR), (Str.ofString "sums", vS), (Str.ofString "levels", vL)]))
    (N : News s.heap L h ((L + 1 + 1 + 1 + 1 + 1, o5) :: (L + 1 + 1, o2) :: (L + 1 + 1 + 1, o3) :: (L + 1 + 1 + 1 + 1, o4) :: (M, lst mvs) :: (K, lst kvs) :: rest))
    (hM5 : L + 1 + 1 + 1 + 1 + 1 ≠ M) (hK5 : L + 1 + 1 + 1 + 1 + 1 ≠ K) (hr5 : ∀ p ∈ rest, L + 1 + 1 + 1 + 1 + 1 ≠ p.1)
    (hR : NumsV (SU E0 rest) (2 ^ wn) vR ms) (hS : NumsV (SU E0 rest) (2 ^ wn) vS ks) (hL : LevsV (SU E0 rest) (2 ^ wn) vL (tree ms))
    (d2 : o2.data = .cell (some (.int ((wn : Nat) : Int) tw))) (d3 : o3.data = .cell (some (.ref M))) (d4 : o4.data = .cell (some (.ref K))) :
    wpAny (model PySem.Challenge.rw_rr0052_01.row.prog w) (A.deeper env) (execs body env) (fun fl s' => fl = .ret (.bool true) ∧ Keeps s s') NoE { s with heap := h, toks := tk } := by
  obtain ⟨ahd, adp, afr, agd, aun⟩ := A
  obtain rfl : ahd = none := hA
  replace hd : adp < 800 := hd
  replace hu : aun ≤ 9000 := hu
  revert X; k_fill; intro X
  conv at hb => rhs; whnf
  subst hb
  conv at he => rhs; arg 2; whnf
  subst he
  have up21 : ∀ x : Nat, x < 2 ^ 21 → x < 2 ^ 1000 := fun x h => Nat.lt_of_lt_of_le h (Nat.pow_le_pow_right (by decide) (by decide))
  refine wpAny_execs_cons ?_
  ktr_unf
  refine Stop.mk ?_
  refine comp_limbs X T hd hw hw7 F N d2 hr5 (by rfl) (by rfl) (by rfl) (.tail _ (.tail _ (.head _))) d3 (.tail _ (.tail _ (.tail _ (.tail _ (.head _))))) hms (by omega) (fun x hx => up21 x (hmb x hx)) ?_
  intro D h2 tk2 tl yy F2 N2 hr2 hyy
  clear F N
  have hone : NumsV (SU E0 ((D, lst yy) :: tl)) (2 ^ wn) (.ref D) ms := ⟨D, yy, rfl, ⟨lst yy, .inr (.head _), rfl, _, rfl⟩, hyy.mono fun _ _ z => z.mono (SU.more fun p hp => .tail _ hp)⟩
  ktr_unf
  refine eq_nums (S := SU E0 rest) (S' := SU E0 ((D, lst yy) :: tl)) (ks := ms) ?hs1 ?hs2 hR hone ?hu2 ?_
  case hs1 => exact SU.stand0 N2 (by grind)
  case hs2 => exact SU.stand0 N2 (by grind)
  case hu2 => show aun + 3 + 64 < 9900; omega
  have N3 := sub (l' := (L + 1 + 1 + 1 + 1 + 1, o5) :: (L + 1 + 1, o2) :: (L + 1 + 1 + 1, o3) :: (L + 1 + 1 + 1 + 1, o4) :: (M, lst mvs) :: (K, lst kvs) :: (rest ++ tl)) N2 (fun p hp => .tail _ hp)
  have hr3 : ∀ p ∈ rest ++ tl, L + 1 + 1 + 1 + 1 + 1 ≠ p.1 := fun p hp => hr2 p (.tail _ hp)
  clear N2
  ktr_unf
  refine Stop.mk ?_
  refine comp_limbs X T hd hw hw7 F2 N3 d2 hr3 (by rfl) (by rfl) (by rfl) (.tail _ (.tail _ (.tail _ (.head _)))) d4 (.tail _ (.tail _ (.tail _ (.tail _ (.tail _ (.head _)))))) hks (by omega) (fun x hx => up21 x (hkb x hx)) ?_
  intro D2 h4 tk4 tl2 yy2 F4 N4 hr4 hyy2
  clear F2 N3
  have hone2 : NumsV (SU E0 ((D2, lst yy2) :: tl2)) (2 ^ wn) (.ref D2) ks := ⟨D2, yy2, rfl, ⟨lst yy2, .inr (.head _), rfl, _, rfl⟩, hyy2.mono fun _ _ z => z.mono (SU.more fun p hp => .tail _ hp)⟩
  ktr_unf
  refine eq_nums (S := SU E0 rest) (S' := SU E0 ((D2, lst yy2) :: tl2)) (ks := ks) ?hs3 ?hs4 hS hone2 ?hu4 ?_
  case hs3 => exact SU.stand0 N4 m12
  case hs4 => exact SU.stand0 N4 m11
  case hu4 => show aun + 3 + 64 < 9900; omega
  ktr_unf
  exact ⟨rfl, _, _, rfl, F4.keep⟩
end Mine
end
section
open PySem PySem.W PyProof.Rows PySem.Calls PySem.Spec
open PyProof.Rows.LCg
set_option maxRecDepth 100000
set_option maxHeartbeats 1000000
namespace Mine
local macro_rules | `(tactic| walk_at "pad") => `(tactic| fail "pad")
local macro_rules | `(tactic| walk_at "pad") => `(tactic| fail "pad")
local macro_rules | `(tactic| walk_at "binaryOp Pow int int") => `(tactic| (refine PyProof.Rows.pow_int_small (by first | with_reducible assumption | omega) (by first | with_reducible assumption | omega) (by decide) ?_))
local macro_rules | `(tactic| walk_at "eval Name") => `(tactic| ((with_reducible show wpAny _ _ (eval (Expr.Name _ _) (compEnvC _ _ _ _)) _ _ _); k_dflt (refine nm_local (by with_reducible assumption) (by rfl) ?_ (by rfl) (by rfl) (by decide))))
local macro_rules | `(tactic| walk_at "subscriptTail") => `(tactic| ((with_reducible show wpAny _ _ (subscriptTail _ _ (Value.ref _) (Value.int _ _)) _ _ _); k_dflt (first | refine item_at (by with_reducible assumption) (by with_reducible assumption) (by with_reducible assumption) (by first | with_reducible assumption | omega) ?_ | refine item_at1 (by with_reducible assumption) (by with_reducible assumption) (by with_reducible assumption) (by first | with_reducible assumption | omega) ?_)))
local macro_rules | `(tactic| walk_at "subscriptTail Name Name ref int") => `(tactic| ((with_reducible show wpAny _ _ (subscriptTail _ _ (Value.ref _) (Value.int _ _)) _ _ _); k_dflt (first | refine item_at (by with_reducible assumption) (by with_reducible assumption) (by with_reducible assumption) (by first | with_reducible assumption | omega) ?_ | refine item_at1 (by with_reducible assumption) (by with_reducible assumption) (by with_reducible assumption) (by first | with_reducible assumption | omega) ?_)))
local macro_rules | `(tactic| walk_at "subscriptTail Name BinOp ref int") => `(tactic| ((with_reducible show wpAny _ _ (subscriptTail _ _ (Value.ref _) (Value.int _ _)) _ _ _); k_dflt (first | refine item_at (by with_reducible assumption) (by with_reducible assumption) (by with_reducible assumption) (by first | with_reducible assumption | omega) ?_ | refine item_at1 (by with_reducible assumption) (by with_reducible assumption) (by with_reducible assumption) (by first | with_reducible assumption | omega) ?_)))
local macro_rules | `(tactic| walk_at "subscriptTail Name UnaryOp ref int") => `(tactic| ((with_reducible show wpAny _ _ (subscriptTail _ _ (Value.ref _) (Value.int _ _)) _ _ _); k_dflt (first | refine item_last (News.isList (by k_asm) (by k_mem)) (by with_reducible assumption) (by decide) ?_ | refine item_last (by with_reducible assumption) (by with_reducible assumption) (by decide) ?_)))
local macro_rules | `(tactic| walk_at "subscriptTail Name Constant ref int") => `(tactic| ((with_reducible show wpAny _ _ (subscriptTail _ _ (Value.ref _) (Value.int _ _)) _ _ _); k_dflt (refine item_zero (by with_reducible assumption) (by with_reducible assumption) ?_)))
local macro_rules | `(tactic| walk_at "call builtin:list.append") => `(tactic| ((with_reducible show wpAny _ _ (call (Value.builtin _) [Value.ref _, _]) _ _ _); k_dflt (refine' append_K ?k1 ?k2 (Upd.head ?k3) ?_ ?z; (case k1 => k_asm); (case k2 => k_asm); (case k3 => first | assumption | exact List.forall_mem_nil _); (case z => first | assumption | size_fits)); intro h' F' N'; (try k_sweep)))
local macro_rules | `(tactic| walk_at "call builtin:len") => `(tactic| ((with_reducible show wpAny _ _ (call (Value.builtin "len") [Value.ref _]) _ _ _); k_dflt (first | refine len_at (by with_reducible assumption) (by with_reducible assumption) (by with_reducible assumption) (by omega) ?_ | refine len_at1 (by with_reducible assumption) (by with_reducible assumption) (by with_reducible assumption) (by omega) ?_ | refine len_at1 (by with_reducible assumption) (News.isList (by k_asm) (by k_mem)) (by with_reducible assumption) (by omega) ?_)))
local macro_rules | `(tactic| walk_at "storeName") => `(tactic| ((with_reducible show wpAny _ _ (storeName (envOfC _ _ _ _ _) _ _) _ _ _); first | (k_here; k_dflt (refine' storeX_L ?F ?N ?_ ?a ?b; (case F => k_asm); (case N => k_asm); (case a => rfl); (case b => rfl); k_whole; intro h' F' N'; (try k_sweep))) | refine Stop.of ?_))
local macro_rules | `(tactic| walk_at "pyIter ref") => `(tactic| ((with_reducible show wpAny _ _ (pyIter (Value.ref _)) _ _ _); refine Stop.of ?_))
local macro_rules | `(tactic| walk_at "execs cons Assign cons") => `(tactic| (refine wpAny_execs_cons ?_))
local macro_rules | `(tactic| walk_at "execs cons") => `(tactic| (refine wpAny_execs_cons ?_))
local macro_rules | `(tactic| walk_at "subscriptTail Name Slice ref ref") => `(tactic| (refine Stop.of ?_))
local macro_rules | `(tactic| walk_at "binaryOp Add ref ref") => `(tactic| (refine Stop.of ?_))
local macro_rules | `(tactic| walk_at "call ref") => `(tactic| (refine Stop.of ?_))
local macro_rules | `(tactic| walk_at "call type:enumerate") => `(tactic| (refine Stop.of ?_))
local macro_rules | `(tactic| walk_at "call type:range") => `(tactic| (refine Stop.of ?_))
local macro_rules | `(tactic| walk_at "call builtin:sum") => `(tactic| (refine Stop.of ?_))
local macro_rules | `(tactic| walk_at "exec If") => `(tactic| (refine Stop.of ?_))
local macro_rules | `(tactic| walk_at "eval ListComp") => `(tactic| (refine Stop.of ?_))
local macro_rules | `(tactic| walk_at "exec Assign cons ListComp") => `(tactic| (refine Stop.of ?_))
local macro_rules | `(tactic| walk_at "exec For Name Name cons nil") => `(tactic| (refine Stop.of ?_))
local macro_rules | `(tactic| walk_at "exec For Name Call cons nil") => `(tactic| (refine Stop.of ?_))
local macro_rules | `(tactic| walk_at "exec For Name Subscript cons nil") => `(tactic| (refine Stop.of ?_))
local macro_rules | `(tactic| walk_at "exec While Compare cons nil") => `(tactic| (refine Stop.of ?_))
local macro_rules | `(tactic| walk_at "exec While Compare") => `(tactic| (refine Stop.of ?_))
local macro_rules | `(tactic| ktr_unf) => `(tactic| (w_top off; repeat' (first | ((with_reducible show wpAny _ _ _ _ _ _); walk1) | ((with_reducible show ite _ _ _); walk1) | (dsimp only; (with_reducible show wpAny _ _ _ _ _ _); walk1) | (dsimp only; (with_reducible show ite _ _ _); walk1) | ((with_reducible show Frag.In _ _ ∧ _); refine ⟨by k_in, ?_⟩; try dsimp only [List.nil_append, List.cons_append]))))


local macro_rules | `(tactic| walk_at "execs cons Assign cons") => `(tactic| (refine Stop.of ?_))
local macro_rules | `(tactic| walk_at "execs cons") => `(tactic| (refine Stop.of ?_))
local macro_rules | `(tactic| walk_at "compareOp NotEq ref ref") => `(tactic| (refine Stop.of ?_))
local macro_rules | `(tactic| walk_at "compareOp Eq ref ref") => `(tactic| (refine Stop.of ?_))

theorem tl5 {L : Addr} {o5 : Obj} {c d e f g : Addr × Obj} {rest tl : List (Addr × Obj)} (hr5 : ∀ p ∈ rest, L ≠ p.1) (hdj : ∀ p ∈ tl, ∀ q ∈ (L, o5) :: c :: d :: e :: f :: g :: rest, p.1 ≠ q.1) : ∀ p ∈ rest ++ tl, L ≠ p.1 := by
  intro p hp
  rcases List.mem_append.mp hp with hp | hp
  · exact hr5 p hp
  · exact Ne.symm (hdj p hp _ (.head _))

theorem law10 {w : World} {A : Around} {s : Shared} {mean : ExcName → Option Value} {mg mb : Str → Option Value} {L f M K : Addr} {cdv vR vS vL : Value} {mvs kvs : List Value} {ms ks : List Nat} {h : Heap} {tk wn n : Nat} {tw tn : Tok} {u : Str → Option Value} {o2 o3 o4 o5 : Obj} {env : Env} {body : List Stmt} {rest : List (Addr × Obj)}
    (X : (Mine.hd.heap_39 w.params).In s.heap) (T : Top Mine.hd.view_39 (looseW Mine.hd.view_39 []) mean mg mb s.heap)
    (hA : A.handled = none) (hd : A.depth < 800) (hu : A.units ≤ 9000) (hw : 2 ≤ wn) (hw7 : wn ≤ 7) (hn : n ≤ 7)
    (hms : IntsAre mvs (castZ ms)) (hml : ms.length = n) (hmb : ∀ m ∈ ms, m < 2 ^ 21) (hks : IntsAre kvs (castZ ks)) (hkl : ks.length = n) (hkb : ∀ m ∈ ks, m < 2 ^ 21)
    (he : env = envOfC (Str.ofString "law") lawScope L f cdv) (hb : body = lawBody.drop 10)
    (F : Fr s.heap L h (kstB u [(Str.ofString "many", .int ((n : Nat) : Int) tn), (Str.ofString "rows", vR), (Str.ofString "sums", vS), (Str.ofString "levels", vL)]))
    (N : News s.heap L h ((L + 1 + 1 + 1 + 1 + 1, o5) :: (L + 1 + 1, o2) :: (L + 1 + 1 + 1, o3) :: (L + 1 + 1 + 1 + 1, o4) :: (M, lst mvs) :: (K, lst kvs) :: rest))
    (hM5 : L + 1 + 1 + 1 + 1 + 1 ≠ M) (hK5 : L + 1 + 1 + 1 + 1 + 1 ≠ K) (hr5 : ∀ p ∈ rest, L + 1 + 1 + 1 + 1 + 1 ≠ p.1)
    (hR : NumsV (SU E0 rest) (2 ^ wn) vR ms) (hS : NumsV (SU E0 rest) (2 ^ wn) vS ks) (hL : LevsV (SU E0 rest) (2 ^ wn) vL (tree ms))
    (d2 : o2.data = .cell (some (.int ((wn : Nat) : Int) tw))) (d3 : o3.data = .cell (some (.ref M))) (d4 : o4.data = .cell (some (.ref K))) :
    wpAny (model PySem.Challenge.rw_rr0052_01.row.prog w) (A.deeper env) (execs body env) (fun fl s' => fl = .ret (.bool true) ∧ Keeps s s') NoE { s with heap := h, toks := tk } := by
  obtain ⟨ahd, adp, afr, agd, aun⟩ := A
  obtain rfl : ahd = none := hA
  replace hd : adp < 800 := hd
  replace hu : aun ≤ 9000 := hu
  revert X; k_fill; intro X
  conv at hb => rhs; whnf
  subst hb
  conv at he => rhs; arg 2; whnf
  subst he
  have hbig : bigP ms ≤ 2 ^ 147 := bigP_small hmb (by omega)
  have hbig2 : bigP ms < 2 ^ 1000 := Nat.lt_of_le_of_lt hbig (Nat.pow_lt_pow_right (by decide) (by decide))
  refine wpAny_execs_cons ?_
  ktr_unf
  refine Stop.mk (wpAny_If ?_)
  by_cases hn0 : 0 < n
  · obtain ⟨aL, lvs, rfl, hLl, hLr⟩ := id hL
    have hLlen : lvs.length = (tree ms).length := hLr.1
    have hlast := tree_last ms (by omega)
    rw [List.getLast?_eq_getElem?] at hlast
    obtain ⟨hl1, _⟩ := List.getElem?_eq_some_iff.mp hlast
    have hgl0 : lvs[(tree ms).length - 1]? = some lvs[(tree ms).length - 1] := List.getElem?_eq_getElem (by omega)
    have hvlast : NumsV (SU E0 rest) (2 ^ wn) lvs[(tree ms).length - 1] [prodN ms] := hLr.2 _ _ _ hgl0 hlast
    generalize lvs[(tree ms).length - 1] = vlast at hvlast hgl0
    have hgl : lvs.getLast? = some vlast := by rw [List.getLast?_eq_getElem?, hLlen]; exact hgl0
    have hLH := hLl.heap (SU.stand0 N (l := rest) (by grind))
    ktr_unf
    refine Stop.mk ?_
    refine use (c_product (X.keeps F.keep) (T.keeps F.keep) ?hA ?hd (isL N (.tail _ (.tail _ (.tail _ (.tail _ (.head _)))))) hms hbig2) ?_
    case hA => rfl
    case hd => show adp + 1 < 900; omega
    rintro r s' ⟨⟨t7, rfl⟩, h7, tk7, rfl, hk7⟩
    have F7 := F.keeps hk7
    have N7 := N.grown hk7
    clear F N hLH
    ktr_unf
    refine Stop.mk ?_
    refine use (c_limbs (S := E0) (X.keeps F7.keep) (T.keeps F7.keep) ?hA ?hd (Nat.lt_of_le_of_lt (prodN_le_bigP _) hbig2) hw hw7) ?_
    case hA => rfl
    case hd => show adp + 1 < 900; omega
    intro r s' q
    obtain ⟨h9, tk9, tl, rfl, F9, N9, hdj, hR1⟩ := after_res F7 N7 q
    clear q F7 N7
    ktr_unf
    rename Fr _ _ _ _ => F10
    rename News _ _ _ _ => N10
    rename ∀ (p : Addr × Obj), _ → p.1 < _ => l10
    rename Addr => D
    have hone : NumsV (SU E0 ((D, W.listOf #[r] 0) :: tl)) (2 ^ wn) (.ref D) [prodN ms] := ⟨D, [r], rfl, ⟨_, .inr (.head _), rfl, _, rfl⟩, .one (hR1.mono (SU.more fun p hp => .tail _ hp))⟩
    refine ne_nums (S := SU E0 rest) (S' := SU E0 ((D, W.listOf #[r] 0) :: tl)) ?hs1 ?hs2 hvlast hone ?hu2 ?_
    case hs1 => exact SU.stand0 N10 (by grind)
    case hs2 => exact SU.stand0 N10 (by grind)
    case hu2 => show aun + 3 + 64 < 9900; omega
    ktr_unf
    refine Stop.mk ?_
    refine law11 (s := s) (rest := rest ++ tl) X T ?hA2 ?hd2 ?hu3 hw hw7 hn hms hml hmb hks hkl hkb rfl rfl F10 (sub N10 fun p hp => .tail _ hp) hM5 hK5 (tl5 hr5 hdj) (hR.mono (SU.more m3)) (hS.mono (SU.more m3)) (hL.mono (SU.more m3)) d2 d3 d4
    case hA2 => rfl
    case hd2 => exact hd
    case hu3 => exact hu
  · have hn00 : n = 0 := by omega
    ktr_unf
    refine Stop.mk ?_
    refine law11 X T ?hA2 ?hd2 ?hu2 hw hw7 hn hms hml hmb hks hkl hkb rfl rfl F N hM5 hK5 hr5 hR hS hL d2 d3 d4
    case hA2 => rfl
    case hd2 => exact hd
    case hu2 => exact hu
end Mine
end
section
open PySem PySem.W PyProof.Rows PySem.Calls PySem.Spec
open PyProof.Rows.LCg
set_option maxRecDepth 100000
set_option maxHeartbeats 1000000
namespace Mine
local macro_rules | `(tactic| walk_at "pad") => `(tactic| fail "pad")
local macro_rules | `(tactic| walk_at "pad") => `(tactic| fail "pad")
local macro_rules | `(tactic| walk_at "pad") => `(tactic| fail "pad")
local macro_rules | `(tactic| walk_at "pad") => `(tactic| fail "pad")
local macro_rules | `(tactic| walk_at "pad") => `(tactic| fail "pad")
local macro_rules | `(tactic| walk_at "binaryOp Pow int int") => `(tactic| (refine PyProof.Rows.pow_int_small (by first | with_reducible assumption | omega) (by first | with_reducible assumption | omega) (by decide) ?_))
local macro_rules | `(tactic| walk_at "eval Name") => `(tactic| ((with_reducible show wpAny _ _ (eval (Expr.Name _ _) (compEnvC _ _ _ _)) _ _ _); k_dflt (refine nm_local (by with_reducible assumption) (by rfl) ?_ (by rfl) (by rfl) (by decide))))
local macro_rules | `(tactic| walk_at "subscriptTail") => `(tactic| ((with_reducible show wpAny _ _ (subscriptTail _ _ (Value.ref _) (Value.int _ _)) _ _ _); k_dflt (first | refine item_at (by with_reducible assumption) (by with_reducible assumption) (by with_reducible assumption) (by first | with_reducible assumption | omega) ?_ | refine item_at1 (by with_reducible assumption) (by with_reducible assumption) (by with_reducible assumption) (by first | with_reducible assumption | omega) ?_)))
local macro_rules | `(tactic| walk_at "subscriptTail Name Name ref int") => `(tactic| ((with_reducible show wpAny _ _ (subscriptTail _ _ (Value.ref _) (Value.int _ _)) _ _ _); k_dflt (first | refine item_at (by with_reducible assumption) (by with_reducible assumption) (by with_reducible assumption) (by first | with_reducible assumption | omega) ?_ | refine item_at1 (by with_reducible assumption) (by with_reducible assumption) (by with_reducible assumption) (by first | with_reducible assumption | omega) ?_)))
local macro_rules | `(tactic| walk_at "subscriptTail Name BinOp ref int") => `(tactic| ((with_reducible show wpAny _ _ (subscriptTail _ _ (Value.ref _) (Value.int _ _)) _ _ _); k_dflt (first | refine item_at (by with_reducible assumption) (by with_reducible assumption) (by with_reducible assumption) (by first | with_reducible assumption | omega) ?_ | refine item_at1 (by with_reducible assumption) (by with_reducible assumption) (by with_reducible assumption) (by first | with_reducible assumption | omega) ?_)))
local macro_rules | `(tactic| walk_at "subscriptTail Name UnaryOp ref int") => `(tactic| ((with_reducible show wpAny _ _ (subscriptTail _ _ (Value.ref _) (Value.int _ _)) _ _ _); k_dflt (first | refine item_last (News.isList (by k_asm) (by k_mem)) (by with_reducible assumption) (by decide) ?_ | refine item_last (by with_reducible assumption) (by with_reducible assumption) (by decide) ?_)))
local macro_rules | `(tactic| walk_at "subscriptTail Name Constant ref int") => `(tactic| ((with_reducible show wpAny _ _ (subscriptTail _ _ (Value.ref _) (Value.int _ _)) _ _ _); k_dflt (refine item_zero (by with_reducible assumption) (by with_reducible assumption) ?_)))
local macro_rules | `(tactic| walk_at "call builtin:list.append") => `(tactic| ((with_reducible show wpAny _ _ (call (Value.builtin _) [Value.ref _, _]) _ _ _); k_dflt (refine' append_K ?k1 ?k2 (Upd.head ?k3) ?_ ?z; (case k1 => k_asm); (case k2 => k_asm); (case k3 => first | assumption | exact List.forall_mem_nil _); (case z => first | assumption | size_fits)); intro h' F' N'; (try k_sweep)))
local macro_rules | `(tactic| walk_at "call builtin:len") => `(tactic| ((with_reducible show wpAny _ _ (call (Value.builtin "len") [Value.ref _]) _ _ _); k_dflt (first | refine len_at (by with_reducible assumption) (by with_reducible assumption) (by with_reducible assumption) (by omega) ?_ | refine len_at1 (by with_reducible assumption) (by with_reducible assumption) (by with_reducible assumption) (by omega) ?_ | refine len_at1 (by with_reducible assumption) (News.isList (by k_asm) (by k_mem)) (by with_reducible assumption) (by omega) ?_)))
local macro_rules | `(tactic| walk_at "storeName") => `(tactic| ((with_reducible show wpAny _ _ (storeName (envOfC _ _ _ _ _) _ _) _ _ _); first | (k_here; k_dflt (refine' storeX_L ?F ?N ?_ ?a ?b; (case F => k_asm); (case N => k_asm); (case a => rfl); (case b => rfl); k_whole; intro h' F' N'; (try k_sweep))) | refine Stop.of ?_))
local macro_rules | `(tactic| walk_at "pyIter ref") => `(tactic| ((with_reducible show wpAny _ _ (pyIter (Value.ref _)) _ _ _); refine Stop.of ?_))
local macro_rules | `(tactic| walk_at "execs cons Assign cons") => `(tactic| (refine wpAny_execs_cons ?_))
local macro_rules | `(tactic| walk_at "execs cons") => `(tactic| (refine wpAny_execs_cons ?_))
local macro_rules | `(tactic| walk_at "subscriptTail Name Slice ref ref") => `(tactic| (refine Stop.of ?_))
local macro_rules | `(tactic| walk_at "binaryOp Add ref ref") => `(tactic| (refine Stop.of ?_))
local macro_rules | `(tactic| walk_at "call ref") => `(tactic| (refine Stop.of ?_))
local macro_rules | `(tactic| walk_at "call type:enumerate") => `(tactic| (refine Stop.of ?_))
local macro_rules | `(tactic| walk_at "call type:range") => `(tactic| (refine Stop.of ?_))
local macro_rules | `(tactic| walk_at "call builtin:sum") => `(tactic| (refine Stop.of ?_))
local macro_rules | `(tactic| walk_at "exec If") => `(tactic| (refine Stop.of ?_))
local macro_rules | `(tactic| walk_at "eval ListComp") => `(tactic| (refine Stop.of ?_))
local macro_rules | `(tactic| walk_at "exec Assign cons ListComp") => `(tactic| (refine Stop.of ?_))
local macro_rules | `(tactic| walk_at "exec For Name Name cons nil") => `(tactic| (refine Stop.of ?_))
local macro_rules | `(tactic| walk_at "exec For Name Call cons nil") => `(tactic| (refine Stop.of ?_))
local macro_rules | `(tactic| walk_at "exec For Name Subscript cons nil") => `(tactic| (refine Stop.of ?_))
local macro_rules | `(tactic| walk_at "exec While Compare cons nil") => `(tactic| (refine Stop.of ?_))
local macro_rules | `(tactic| walk_at "exec While Compare") => `(tactic| (refine Stop.of ?_))
local macro_rules | `(tactic| ktr_unf) => `(tactic| (w_top off; repeat' (first | ((with_reducible show wpAny _ _ _ _ _ _); walk1) | ((with_reducible show ite _ _ _); walk1) | (dsimp only; (with_reducible show wpAny _ _ _ _ _ _); walk1) | (dsimp only; (with_reducible show ite _ _ _); walk1) | ((with_reducible show Frag.In _ _ ∧ _); refine ⟨by k_in, ?_⟩; try dsimp only [List.nil_append, List.cons_append]))))


local macro_rules | `(tactic| walk_at "execs cons Assign cons") => `(tactic| (refine Stop.of ?_))
local macro_rules | `(tactic| walk_at "execs cons") => `(tactic| (refine Stop.of ?_))

theorem law8 {w : World} {A : Around} {s : Shared} {mean : ExcName → Option Value} {mg mb : Str → Option Value} {L f M K : Addr} {cdv vR vS vL : Value} {mvs kvs : List Value} {ms ks : List Nat} {h : Heap} {tk wn n : Nat} {tw tn td : Tok} {u : Str → Option Value} {o2 o3 o4 o5 : Obj} {env : Env} {body : List Stmt} {rest : List (Addr × Obj)}
    (X : (Mine.hd.heap_39 w.params).In s.heap) (T : Top Mine.hd.view_39 (looseW Mine.hd.view_39 []) mean mg mb s.heap)
    (hA : A.handled = none) (hd : A.depth < 800) (hu : A.units ≤ 9000) (hw : 2 ≤ wn) (hw7 : wn ≤ 7) (hn : n ≤ 7)
    (hms : IntsAre mvs (castZ ms)) (hml : ms.length = n) (hmb : ∀ m ∈ ms, m < 2 ^ 21) (hks : IntsAre kvs (castZ ks)) (hkl : ks.length = n) (hkb : ∀ m ∈ ks, m < 2 ^ 21)
    (he : env = envOfC (Str.ofString "law") lawScope L f cdv) (hb : body = lawBody.drop 8)
    (F : Fr s.heap L h (kstB u [(Str.ofString "many", .int ((n : Nat) : Int) tn), (Str.ofString "rows", vR), (Str.ofString "sums", vS), (Str.ofString "levels", vL), (Str.ofString "due", .int ((dueSum ks ms : Nat) : Int) td)]))
    (N : News s.heap L h ((L + 1 + 1 + 1 + 1 + 1, o5) :: (L + 1 + 1, o2) :: (L + 1 + 1 + 1, o3) :: (L + 1 + 1 + 1 + 1, o4) :: (M, lst mvs) :: (K, lst kvs) :: rest))
    (hM5 : L + 1 + 1 + 1 + 1 + 1 ≠ M) (hK5 : L + 1 + 1 + 1 + 1 + 1 ≠ K) (hr5 : ∀ p ∈ rest, L + 1 + 1 + 1 + 1 + 1 ≠ p.1)
    (hR : NumsV (SU E0 rest) (2 ^ wn) vR ms) (hS : NumsV (SU E0 rest) (2 ^ wn) vS ks) (hL : LevsV (SU E0 rest) (2 ^ wn) vL (tree ms))
    (d2 : o2.data = .cell (some (.int ((wn : Nat) : Int) tw))) (d3 : o3.data = .cell (some (.ref M))) (d4 : o4.data = .cell (some (.ref K))) (d5 : o5.data = .cell none) :
    wpAny (model PySem.Challenge.rw_rr0052_01.row.prog w) (A.deeper env) (execs body env) (fun fl s' => fl = .ret (.bool true) ∧ Keeps s s') NoE { s with heap := h, toks := tk } := by
  obtain ⟨ahd, adp, afr, agd, aun⟩ := A
  obtain rfl : ahd = none := hA
  replace hd : adp < 800 := hd
  replace hu : aun ≤ 9000 := hu
  revert X; k_fill; intro X
  conv at hb => rhs; whnf
  subst hb
  conv at he => rhs; arg 2; whnf
  subst he
  have hbig : bigP ms ≤ 2 ^ 147 := bigP_small hmb (by omega)
  obtain ⟨aL, lvs, rfl, hLl, hLr⟩ := hL
  have hLlen : lvs.length = (tree ms).length := hLr.1
  refine wpAny_execs_cons ?_
  ktr_unf
  refine Stop.mk (wpAny_execs_cons ?_)
  ktr_unf
  refine Stop.mk ?_
  rename Fr _ _ _ _ => F1
  rename News _ _ _ _ => N1
  refine For_invV s.heap (by rfl) (by rfl) ?_ (hE := PassesOwn.never)
  ktr_unf
  refine Stop.mk ?_
  have hLH := hLl.heap (SU.stand0 N1 (l := rest) (by grind))
  have hLL : aL ≠ L := by obtain ⟨o, ho, _⟩ := hLl; rcases ho with ho | ho; exact ho.elim; exact (N1 (aL, o) (by grind)).2.1
  have hL5 : L + 1 + 1 + 1 + 1 + 1 ≠ aL := by obtain ⟨o, ho, _⟩ := hLl; rcases ho with ho | ho; exact ho.elim; exact hr5 (aL, o) ho
  refine iter_list (items := lvs) (fun c : Value => [(Str.ofString "size", c), (Str.ofString "many", .int ((n : Nat) : Int) tn), (Str.ofString "rows", vR), (Str.ofString "sums", vS), (Str.ofString "levels", .ref aL)])
    (fun i c nx => ∃ (o5 : Obj) (v5 : Option Value) (rest' : List (Addr × Obj)) (t : Tok), c = .int ((halves n i : Nat) : Int) t ∧ nx = (L + 1 + 1 + 1 + 1 + 1, o5) :: (L + 1 + 1, o2) :: (L + 1 + 1 + 1, o3) :: (L + 1 + 1 + 1 + 1, o4) :: (M, lst mvs) :: (K, lst kvs) :: rest' ∧ o5.data = .cell v5 ∧
      (∀ p ∈ rest, p ∈ rest') ∧ (∀ p ∈ rest', L + 1 + 1 + 1 + 1 + 1 ≠ p.1))
    rfl hLH hLL F1 N1 ⟨_, ⟨rfl, rfl, rfl, rfl, rfl, trivial⟩, o5, none, rest, _, rfl, rfl, d5, fun p hp => hp, hr5⟩ ?_ ?_
  · rintro I i v c u1 nx own h2 tk2 hI hv ⟨o5', v5, rest', t, rfl, rfl, d5', hsub, hr5'⟩ hoff hIo hown F2 N2
    clear F1 N1
    obtain ⟨hi1, _⟩ := List.getElem?_eq_some_iff.mp hv
    have hil : i < (tree ms).length := hLlen ▸ hi1
    have hvR : NumsV (SU E0 rest) (2 ^ wn) v (tree ms)[i] := hLr.2 i _ _ hv (List.getElem?_eq_getElem hil)
    have htr : (tree ms)[i]? = some (tree ms)[i] := List.getElem?_eq_getElem hil
    generalize (tree ms)[i] = lv at hvR htr
    obtain ⟨av, vls, rfl, hvl, hvr⟩ := hvR
    have F3 := frK (ps := [(Str.ofString "level", .ref av), (Str.ofString "size", .int ((halves n i : Nat) : Int) t), (Str.ofString "many", .int ((n : Nat) : Int) tn), (Str.ofString "rows", vR), (Str.ofString "sums", vS), (Str.ofString "levels", .ref aL)]) F2 ⟨rfl, rfl, rfl, rfl, rfl, rfl, trivial⟩
    have N3 := sub (l' := (L + 1 + 1 + 1 + 1 + 1, o5') :: (L + 1 + 1, o2) :: (L + 1 + 1 + 1, o3) :: (L + 1 + 1 + 1 + 1, o4) :: (M, lst mvs) :: (K, lst kvs) :: (own ++ rest')) N2 (by grind)
    have hr6 : ∀ p ∈ own ++ rest', L + 1 + 1 + 1 + 1 + 1 ≠ p.1 := by
      intro p hp
      rcases List.mem_append.mp hp with hp | hp
      · rcases hown p hp with e | e
        · rw [e]; exact hoff _ (.head _)
        · rw [e]; exact hL5
      · exact hr5' p hp
    have hsub2 : ∀ p ∈ rest, p ∈ own ++ rest' := fun p hp => List.mem_append_right _ (hsub p hp)
    refine use (law_turn (s := s) (rest := own ++ rest') X T ?hA ?hd ?hu hw hw7 hn hms hml hmb rfl rfl F3 N3 hM5 hK5 hr6 (hvl.mono (SU.more hsub2)) (hvr.mono fun _ _ z => z.mono (SU.more hsub2)) htr d2 d3 d5') ?_
    case hA => rfl
    case hd => exact hd
    case hu => exact hu
    rintro fl s' ⟨rfl, h4, tk4, m4, o5c, v5c, t4, rfl, F4, N4, hm4, d5c⟩
    refine ⟨rfl, h4, tk4, m4, .int ((halves n (i + 1) : Nat) : Int) t4, (L + 1 + 1 + 1 + 1 + 1, o5c) :: (L + 1 + 1, o2) :: (L + 1 + 1 + 1, o3) :: (L + 1 + 1 + 1 + 1, o4) :: (M, lst mvs) :: (K, lst kvs) :: rest', rfl, F4, sub N4 (by grind), ?_, hm4, o5c, v5c, rest', t4, rfl, rfl, d5c, hsub, hr5'⟩
    intro p hp
    rcases List.mem_cons.mp hp with rfl | hp
    · exact hoff (L + 1 + 1 + 1 + 1 + 1, o5') (.head _)
    · exact hoff p (.tail _ hp)
  · rintro c u1 nx h2 tk2 ⟨o5', v5, rest', t, rfl, rfl, d5', hsub, hr5'⟩ F2 N2
    clear F1 N1
    ktr_unf
    refine Stop.mk ?_
    have F3 := frK (ps := [(Str.ofString "many", .int ((n : Nat) : Int) tn), (Str.ofString "rows", vR), (Str.ofString "sums", vS), (Str.ofString "levels", .ref aL)]) F2 ⟨rfl, rfl, rfl, rfl, trivial⟩
    refine law10 (s := s) X T ?hA2 ?hd2 ?hu2 hw hw7 hn hms hml hmb hks hkl hkb rfl rfl F3 N2 hM5 hK5 hr5' (hR.mono (SU.more hsub)) (hS.mono (SU.more hsub)) ⟨aL, lvs, rfl, hLl.mono (SU.more hsub), hLr.mono fun _ _ z => z.mono (SU.more hsub)⟩ d2 d3 d4
    case hA2 => rfl
    case hd2 => exact hd
    case hu2 => exact hu
end Mine
end
section
open PySem PySem.W PyProof.Rows PySem.Calls PySem.Spec
open PyProof.Rows.LCg
set_option maxRecDepth 100000
set_option maxHeartbeats 1000000
namespace Mine
local macro_rules | `(tactic| walk_at "pad") => `(tactic| fail "pad")
local macro_rules | `(tactic| walk_at "pad") => `(tactic| fail "pad")
local macro_rules | `(tactic| walk_at "pad") => `(tactic| fail "pad")
local macro_rules | `(tactic| walk_at "pad") => `(tactic| fail "pad")
local macro_rules | `(tactic| walk_at "pad") => `(tactic| fail "pad")
local macro_rules | `(tactic| walk_at "pad") => `(tactic| fail "pad")
local macro_rules | `(tactic| walk_at "binaryOp Pow int int") => `(tactic| (refine PyProof.Rows.pow_int_small (by first | with_reducible assumption | omega) (by first | with_reducible assumption | omega) (by decide) ?_))
local macro_rules | `(tactic| walk_at "eval Name") => `(tactic| ((with_reducible show wpAny _ _ (eval (Expr.Name _ _) (compEnvC _ _ _ _)) _ _ _); k_dflt (refine nm_local (by with_reducible assumption) (by rfl) ?_ (by rfl) (by rfl) (by decide))))
local macro_rules | `(tactic| walk_at "subscriptTail") => `(tactic| ((with_reducible show wpAny _ _ (subscriptTail _ _ (Value.ref _) (Value.int _ _)) _ _ _); k_dflt (first | refine item_at (by with_reducible assumption) (by with_reducible assumption) (by with_reducible assumption) (by first | with_reducible assumption | omega) ?_ | refine item_at1 (by with_reducible assumption) (by with_reducible assumption) (by with_reducible assumption) (by first | with_reducible assumption | omega) ?_)))
local macro_rules | `(tactic| walk_at "subscriptTail Name Name ref int") => `(tactic| ((with_reducible show wpAny _ _ (subscriptTail _ _ (Value.ref _) (Value.int _ _)) _ _ _); k_dflt (first | refine item_at (by with_reducible assumption) (by with_reducible assumption) (by with_reducible assumption) (by first | with_reducible assumption | omega) ?_ | refine item_at1 (by with_reducible assumption) (by with_reducible assumption) (by with_reducible assumption) (by first | with_reducible assumption | omega) ?_)))
local macro_rules | `(tactic| walk_at "subscriptTail Name BinOp ref int") => `(tactic| ((with_reducible show wpAny _ _ (subscriptTail _ _ (Value.ref _) (Value.int _ _)) _ _ _); k_dflt (first | refine item_at (by with_reducible assumption) (by with_reducible assumption) (by with_reducible assumption) (by first | with_reducible assumption | omega) ?_ | refine item_at1 (by with_reducible assumption) (by with_reducible assumption) (by with_reducible assumption) (by first | with_reducible assumption | omega) ?_)))
local macro_rules | `(tactic| walk_at "subscriptTail Name UnaryOp ref int") => `(tactic| ((with_reducible show wpAny _ _ (subscriptTail _ _ (Value.ref _) (Value.int _ _)) _ _ _); k_dflt (first | refine item_last (News.isList (by k_asm) (by k_mem)) (by with_reducible assumption) (by decide) ?_ | refine item_last (by with_reducible assumption) (by with_reducible assumption) (by decide) ?_)))
local macro_rules | `(tactic| walk_at "subscriptTail Name Constant ref int") => `(tactic| ((with_reducible show wpAny _ _ (subscriptTail _ _ (Value.ref _) (Value.int _ _)) _ _ _); k_dflt (refine item_zero (by with_reducible assumption) (by with_reducible assumption) ?_)))
local macro_rules | `(tactic| walk_at "call builtin:list.append") => `(tactic| ((with_reducible show wpAny _ _ (call (Value.builtin _) [Value.ref _, _]) _ _ _); k_dflt (refine' append_K ?k1 ?k2 (Upd.head ?k3) ?_ ?z; (case k1 => k_asm); (case k2 => k_asm); (case k3 => first | assumption | exact List.forall_mem_nil _); (case z => first | assumption | size_fits)); intro h' F' N'; (try k_sweep)))
local macro_rules | `(tactic| walk_at "call builtin:len") => `(tactic| ((with_reducible show wpAny _ _ (call (Value.builtin "len") [Value.ref _]) _ _ _); k_dflt (first | refine len_at (by with_reducible assumption) (by with_reducible assumption) (by with_reducible assumption) (by omega) ?_ | refine len_at1 (by with_reducible assumption) (by with_reducible assumption) (by with_reducible assumption) (by omega) ?_ | refine len_at1 (by with_reducible assumption) (News.isList (by k_asm) (by k_mem)) (by with_reducible assumption) (by omega) ?_)))
local macro_rules | `(tactic| walk_at "storeName") => `(tactic| ((with_reducible show wpAny _ _ (storeName (envOfC _ _ _ _ _) _ _) _ _ _); first | (k_here; k_dflt (refine' storeX_L ?F ?N ?_ ?a ?b; (case F => k_asm); (case N => k_asm); (case a => rfl); (case b => rfl); k_whole; intro h' F' N'; (try k_sweep))) | refine Stop.of ?_))
local macro_rules | `(tactic| walk_at "pyIter ref") => `(tactic| ((with_reducible show wpAny _ _ (pyIter (Value.ref _)) _ _ _); refine Stop.of ?_))
local macro_rules | `(tactic| walk_at "execs cons Assign cons") => `(tactic| (refine wpAny_execs_cons ?_))
local macro_rules | `(tactic| walk_at "execs cons") => `(tactic| (refine wpAny_execs_cons ?_))
local macro_rules | `(tactic| walk_at "subscriptTail Name Slice ref ref") => `(tactic| (refine Stop.of ?_))
local macro_rules | `(tactic| walk_at "binaryOp Add ref ref") => `(tactic| (refine Stop.of ?_))
local macro_rules | `(tactic| walk_at "call ref") => `(tactic| (refine Stop.of ?_))
local macro_rules | `(tactic| walk_at "call type:enumerate") => `(tactic| (refine Stop.of ?_))
local macro_rules | `(tactic| walk_at "call type:range") => `(tactic| (refine Stop.of ?_))
local macro_rules | `(tactic| walk_at "call builtin:sum") => `(tactic| (refine Stop.of ?_))
local macro_rules | `(tactic| walk_at "exec If") => `(tactic| (refine Stop.of ?_))
local macro_rules | `(tactic| walk_at "eval ListComp") => `(tactic| (refine Stop.of ?_))
local macro_rules | `(tactic| walk_at "exec Assign cons ListComp") => `(tactic| (refine Stop.of ?_))
local macro_rules | `(tactic| walk_at "exec For Name Name cons nil") => `(tactic| (refine Stop.of ?_))
local macro_rules | `(tactic| walk_at "exec For Name Call cons nil") => `(tactic| (refine Stop.of ?_))
local macro_rules | `(tactic| walk_at "exec For Name Subscript cons nil") => `(tactic| (refine Stop.of ?_))
local macro_rules | `(tactic| walk_at "exec While Compare cons nil") => `(tactic| (refine Stop.of ?_))
local macro_rules | `(tactic| walk_at "exec While Compare") => `(tactic| (refine Stop.of ?_))
local macro_rules | `(tactic| ktr_unf) => `(tactic| (w_top off; repeat' (first | ((with_reducible show wpAny _ _ _ _ _ _); walk1) | ((with_reducible show ite _ _ _); walk1) | (dsimp only; (with_reducible show wpAny _ _ _ _ _ _); walk1) | (dsimp only; (with_reducible show ite _ _ _); walk1) | ((with_reducible show Frag.In _ _ ∧ _); refine ⟨by k_in, ?_⟩; try dsimp only [List.nil_append, List.cons_append]))))


local macro_rules | `(tactic| walk_at "execs cons Assign cons") => `(tactic| (refine Stop.of ?_))
local macro_rules | `(tactic| walk_at "execs cons") => `(tactic| (refine Stop.of ?_))
theorem tree_few {ks : List Nat} (hn : ks.length ≤ 7) : (tree ks).length ≤ 4 := by
  by_cases h : (tree ks).length ≤ 4
  · exact h
  · have := level_few hn (List.getElem?_eq_getElem (show 4 < (tree ks).length by omega))
    omega
theorem sum_le (B : Nat) : ∀ l : List Nat, (∀ x ∈ l, x ≤ B) → l.sum ≤ l.length * B
  | [], _ => by simp
  | x :: r, h => by
    have h1 := h x (.head _)
    have h2 := sum_le B r fun y hy => h y (.tail _ hy)
    rw [List.sum_cons, List.length_cons, Nat.add_mul, Nat.one_mul]; omega
theorem due_small {ks ms : List Nat} (hk : ∀ k ∈ ks, k < 2 ^ 21) (hm : bigP ms ≤ 2 ^ 147) (hl : ks.length ≤ 7) : dueSum ks ms < 2 ^ 1000 := by
  have h1 : ∀ i, dueAt ks ms i ≤ 2 ^ 315 := by
    intro i
    have a1 : ks.getD i 0 ≤ 2 ^ 21 := by
      rw [List.getD_eq_getElem?_getD]
      cases h : ks[i]? with
      | none => exact Nat.zero_le _
      | some x => exact Nat.le_of_lt (hk x (List.mem_of_getElem? h))
    have a2 : prodN (ms.take i ++ ms.drop (i + 1)) ≤ 2 ^ 294 := by
      refine Nat.le_trans (prodN_le_bigP _) ?_
      rw [bigP_append, show 294 = 147 + 147 by decide, Nat.pow_add]
      exact Nat.mul_le_mul (Nat.le_trans (bigP_take_le ms i) hm) (Nat.le_trans (bigP_drop_le ms (i + 1)) hm)
    rw [show 315 = 21 + 294 by decide, Nat.pow_add]
    exact Nat.mul_le_mul a1 a2
  have h2 := sum_le (2 ^ 315) ((List.range ks.length).map (dueAt ks ms)) (by
    intro x hx
    obtain ⟨i, _, rfl⟩ := List.mem_map.mp hx
    exact h1 i)
  rw [List.length_map, List.length_range] at h2
  refine Nat.lt_of_le_of_lt (Nat.le_trans h2 (Nat.mul_le_mul (Nat.le_trans hl (show 7 ≤ 2 ^ 3 by decide)) (Nat.le_refl _))) ?_
  rw [← Nat.pow_add]
  exact Nat.pow_lt_pow_right (by decide) (by decide)
theorem law7 {w : World} {A : Around} {s : Shared} {mean : ExcName → Option Value} {mg mb : Str → Option Value} {L f M K : Addr} {cdv vR vS vL : Value} {mvs kvs : List Value} {ms ks : List Nat} {h : Heap} {tk wn n : Nat} {tw tn td : Tok} {u : Str → Option Value} {o2 o3 o4 o5 : Obj} {env : Env} {body : List Stmt} {rest : List (Addr × Obj)}
    (X : (Mine.hd.heap_39 w.params).In s.heap) (T : Top Mine.hd.view_39 (looseW Mine.hd.view_39 []) mean mg mb s.heap)
    (hA : A.handled = none) (hd : A.depth < 800) (hu : A.units ≤ 9000) (hw : 2 ≤ wn) (hw7 : wn ≤ 7) (hn : n ≤ 7)
    (hms : IntsAre mvs (castZ ms)) (hml : ms.length = n) (hmb : ∀ m ∈ ms, m < 2 ^ 21) (hks : IntsAre kvs (castZ ks)) (hkl : ks.length = n) (hkb : ∀ m ∈ ks, m < 2 ^ 21)
    (he : env = envOfC (Str.ofString "law") lawScope L f cdv) (hb : body = lawBody.drop 7)
    (F : Fr s.heap L h (kstB u [(Str.ofString "many", .int ((n : Nat) : Int) tn), (Str.ofString "rows", vR), (Str.ofString "sums", vS), (Str.ofString "levels", vL), (Str.ofString "due", .int ((dueSum ks ms : Nat) : Int) td)]))
    (N : News s.heap L h ((L + 1 + 1 + 1 + 1 + 1, o5) :: (L + 1 + 1, o2) :: (L + 1 + 1 + 1, o3) :: (L + 1 + 1 + 1 + 1, o4) :: (M, lst mvs) :: (K, lst kvs) :: rest))
    (hM5 : L + 1 + 1 + 1 + 1 + 1 ≠ M) (hK5 : L + 1 + 1 + 1 + 1 + 1 ≠ K) (hr5 : ∀ p ∈ rest, L + 1 + 1 + 1 + 1 + 1 ≠ p.1)
    (hR : NumsV (SU E0 rest) (2 ^ wn) vR ms) (hS : NumsV (SU E0 rest) (2 ^ wn) vS ks) (hL : LevsV (SU E0 rest) (2 ^ wn) vL (tree ms))
    (d2 : o2.data = .cell (some (.int ((wn : Nat) : Int) tw))) (d3 : o3.data = .cell (some (.ref M))) (d4 : o4.data = .cell (some (.ref K))) (d5 : o5.data = .cell none) :
    wpAny (model PySem.Challenge.rw_rr0052_01.row.prog w) (A.deeper env) (execs body env) (fun fl s' => fl = .ret (.bool true) ∧ Keeps s s') NoE { s with heap := h, toks := tk } := by
  obtain ⟨ahd, adp, afr, agd, aun⟩ := A
  obtain rfl : ahd = none := hA
  replace hd : adp < 800 := hd
  replace hu : aun ≤ 9000 := hu
  revert X; k_fill; intro X
  conv at hb => rhs; whnf
  subst hb
  conv at he => rhs; arg 2; whnf
  subst he
  have hbig : bigP ms ≤ 2 ^ 147 := bigP_small hmb (by omega)
  have hdue : dueSum ks ms < 2 ^ 1000 := due_small hkb hbig (by omega)
  have hsame : (crossAll ks ((tree ms).take ((tree ms).length - 1))).headD 0 = dueSum ks ms := by rw [cross_law ks ms (by omega), dueSum_cs ks ms (by omega)]
  have htf := tree_few (ks := ms) (by omega)
  have hok : Ok ks ((tree ms).take ((tree ms).length - 1)) := ok_of 3 21 ks ms (by decide) (by omega) (by omega) (by omega) hmb hkb (.inr (by decide))
  refine wpAny_execs_cons ?_
  ktr_unf
  refine Stop.mk (wpAny_If ?_)
  ktr_unf
  refine Stop.mk ?_
  refine use (c_crossed (S := SU E0 rest) (X.keeps F.keep) (T.keeps F.keep) ?hA ?hd hw hw7 (SU.stand0 N (by grind)) hS hL (by omega) hok) ?_
  case hA => rfl
  case hd => show adp + 1 < 870; omega
  rw [hsame]
  intro r1 s' q
  obtain ⟨h2, tk2, tl, rfl, F2, N2, hdj, hR1⟩ := after_res F N q
  clear F N q
  have hr6 := tl5 hr5 hdj
  ktr_unf
  refine Stop.mk ?_
  refine use (c_limbs (S := E0) (X.keeps F2.keep) (T.keeps F2.keep) ?hA ?hd hdue hw hw7) ?_
  case hA => rfl
  case hd => show adp + 1 < 900; omega
  intro r2 s' q
  obtain ⟨h3, tk3, tl3, rfl, F3, N3, hdj3, hR2⟩ := after_res F2 N2 q
  have hr7 := tl5 (rest := rest ++ tl) hr6 hdj3
  clear F2 N2 q
  ktr_unf
  refine ne_num (S := SU (SU E0 rest) tl) (S' := SU E0 tl3) ?hs1 ?hs2 hR1 hR2 ?hu2 ?_
  case hs1 => exact fun a o z => SU.stand0 (l := rest ++ tl) N3 (by grind) a o (SU.app _ _ z)
  case hs2 => exact SU.stand0 N3 (by grind)
  case hu2 => show aun + 3 + 64 < 9900; omega
  ktr_unf
  refine Stop.mk ?_
  refine law8 (rest := rest ++ tl ++ tl3) X T ?hA ?hd ?hu hw hw7 hn hms hml hmb hks hkl hkb rfl rfl F3 N3 hM5 hK5 hr7 (hR.mono (SU.more fun p hp => m3 p (m3 p hp))) (hS.mono (SU.more fun p hp => m3 p (m3 p hp))) (hL.mono (SU.more fun p hp => m3 p (m3 p hp))) d2 d3 d4 d5
  case hA => rfl
  case hd => exact hd
  case hu => exact hu
end Mine
end
section
open PySem PySem.W PyProof.Rows PySem.Calls PySem.Spec
open PyProof.Rows.LCg
set_option maxRecDepth 100000
set_option maxHeartbeats 1000000
namespace Mine
local macro_rules | `(tactic| walk_at "pad") => `(tactic| fail "pad")
local macro_rules | `(tactic| walk_at "pad") => `(tactic| fail "pad")
local macro_rules | `(tactic| walk_at "pad") => `(tactic| fail "pad")
local macro_rules | `(tactic| walk_at "pad") => `(tactic| fail "pad")
local macro_rules | `(tactic| walk_at "pad") => `(tactic| fail "pad")
local macro_rules | `(tactic| walk_at "pad") => `(tactic| fail "pad")
local macro_rules | `(tactic| walk_at "pad") => `(tactic| fail "pad")
local macro_rules | `(tactic| walk_at "binaryOp Pow int int") => `(tactic| (refine PyProof.Rows.pow_int_small (by first | with_reducible assumption | omega) (by first | with_reducible assumption | omega) (by decide) ?_))
local macro_rules | `(tactic| walk_at "eval Name") => `(tactic| ((with_reducible show wpAny _ _ (eval (Expr.Name _ _) (compEnvC _ _ _ _)) _ _ _); k_dflt (refine nm_local (by with_reducible assumption) (by rfl) ?_ (by rfl) (by rfl) (by decide))))
local macro_rules | `(tactic| walk_at "subscriptTail") => `(tactic| ((with_reducible show wpAny _ _ (subscriptTail _ _ (Value.ref _) (Value.int _ _)) _ _ _); k_dflt (first | refine item_at (by with_reducible assumption) (by with_reducible assumption) (by with_reducible assumption) (by first | with_reducible assumption | omega) ?_ | refine item_at1 (by with_reducible assumption) (by with_reducible assumption) (by with_reducible assumption) (by first | with_reducible assumption | omega) ?_)))
local macro_rules | `(tactic| walk_at "subscriptTail Name Name ref int") => `(tactic| ((with_reducible show wpAny _ _ (subscriptTail _ _ (Value.ref _) (Value.int _ _)) _ _ _); k_dflt (first | refine item_at (by with_reducible assumption) (by with_reducible assumption) (by with_reducible assumption) (by first | with_reducible assumption | omega) ?_ | refine item_at1 (by with_reducible assumption) (by with_reducible assumption) (by with_reducible assumption) (by first | with_reducible assumption | omega) ?_)))
local macro_rules | `(tactic| walk_at "subscriptTail Name BinOp ref int") => `(tactic| ((with_reducible show wpAny _ _ (subscriptTail _ _ (Value.ref _) (Value.int _ _)) _ _ _); k_dflt (first | refine item_at (by with_reducible assumption) (by with_reducible assumption) (by with_reducible assumption) (by first | with_reducible assumption | omega) ?_ | refine item_at1 (by with_reducible assumption) (by with_reducible assumption) (by with_reducible assumption) (by first | with_reducible assumption | omega) ?_)))
local macro_rules | `(tactic| walk_at "subscriptTail Name UnaryOp ref int") => `(tactic| ((with_reducible show wpAny _ _ (subscriptTail _ _ (Value.ref _) (Value.int _ _)) _ _ _); k_dflt (first | refine item_last (News.isList (by k_asm) (by k_mem)) (by with_reducible assumption) (by decide) ?_ | refine item_last (by with_reducible assumption) (by with_reducible assumption) (by decide) ?_)))
local macro_rules | `(tactic| walk_at "subscriptTail Name Constant ref int") => `(tactic| ((with_reducible show wpAny _ _ (subscriptTail _ _ (Value.ref _) (Value.int _ _)) _ _ _); k_dflt (refine item_zero (by with_reducible assumption) (by with_reducible assumption) ?_)))
local macro_rules | `(tactic| walk_at "call builtin:list.append") => `(tactic| ((with_reducible show wpAny _ _ (call (Value.builtin _) [Value.ref _, _]) _ _ _); k_dflt (refine' append_K ?k1 ?k2 (Upd.head ?k3) ?_ ?z; (case k1 => k_asm); (case k2 => k_asm); (case k3 => first | assumption | exact List.forall_mem_nil _); (case z => first | assumption | size_fits)); intro h' F' N'; (try k_sweep)))
local macro_rules | `(tactic| walk_at "call builtin:len") => `(tactic| ((with_reducible show wpAny _ _ (call (Value.builtin "len") [Value.ref _]) _ _ _); k_dflt (first | refine len_at (by with_reducible assumption) (by with_reducible assumption) (by with_reducible assumption) (by omega) ?_ | refine len_at1 (by with_reducible assumption) (by with_reducible assumption) (by with_reducible assumption) (by omega) ?_ | refine len_at1 (by with_reducible assumption) (News.isList (by k_asm) (by k_mem)) (by with_reducible assumption) (by omega) ?_)))
local macro_rules | `(tactic| walk_at "storeName") => `(tactic| ((with_reducible show wpAny _ _ (storeName (envOfC _ _ _ _ _) _ _) _ _ _); first | (k_here; k_dflt (refine' storeX_L ?F ?N ?_ ?a ?b; (case F => k_asm); (case N => k_asm); (case a => rfl); (case b => rfl); k_whole; intro h' F' N'; (try k_sweep))) | refine Stop.of ?_))
local macro_rules | `(tactic| walk_at "pyIter ref") => `(tactic| ((with_reducible show wpAny _ _ (pyIter (Value.ref _)) _ _ _); refine Stop.of ?_))
local macro_rules | `(tactic| walk_at "execs cons Assign cons") => `(tactic| (refine wpAny_execs_cons ?_))
local macro_rules | `(tactic| walk_at "execs cons") => `(tactic| (refine wpAny_execs_cons ?_))
local macro_rules | `(tactic| walk_at "subscriptTail Name Slice ref ref") => `(tactic| (refine Stop.of ?_))
local macro_rules | `(tactic| walk_at "binaryOp Add ref ref") => `(tactic| (refine Stop.of ?_))
local macro_rules | `(tactic| walk_at "call ref") => `(tactic| (refine Stop.of ?_))
local macro_rules | `(tactic| walk_at "call type:enumerate") => `(tactic| (refine Stop.of ?_))
local macro_rules | `(tactic| walk_at "call type:range") => `(tactic| (refine Stop.of ?_))
local macro_rules | `(tactic| walk_at "call builtin:sum") => `(tactic| (refine Stop.of ?_))
local macro_rules | `(tactic| walk_at "exec If") => `(tactic| (refine Stop.of ?_))
local macro_rules | `(tactic| walk_at "eval ListComp") => `(tactic| (refine Stop.of ?_))
local macro_rules | `(tactic| walk_at "exec Assign cons ListComp") => `(tactic| (refine Stop.of ?_))
local macro_rules | `(tactic| walk_at "exec For Name Name cons nil") => `(tactic| (refine Stop.of ?_))
local macro_rules | `(tactic| walk_at "exec For Name Call cons nil") => `(tactic| (refine Stop.of ?_))
local macro_rules | `(tactic| walk_at "exec For Name Subscript cons nil") => `(tactic| (refine Stop.of ?_))
local macro_rules | `(tactic| walk_at "exec While Compare cons nil") => `(tactic| (refine Stop.of ?_))
local macro_rules | `(tactic| walk_at "exec While Compare") => `(tactic| (refine Stop.of ?_))
local macro_rules | `(tactic| ktr_unf) => `(tactic| (w_top off; repeat' (first | ((with_reducible show wpAny _ _ _ _ _ _); walk1) | ((with_reducible show ite _ _ _); walk1) | (dsimp only; (with_reducible show wpAny _ _ _ _ _ _); walk1) | (dsimp only; (with_reducible show ite _ _ _); walk1) | ((with_reducible show Frag.In _ _ ∧ _); refine ⟨by k_in, ?_⟩; try dsimp only [List.nil_append, List.cons_append]))))


local macro_rules | `(tactic| walk_at "execs cons Assign cons") => `(tactic| (refine Stop.of ?_))
local macro_rules | `(tactic| walk_at "execs cons") => `(tactic| (refine Stop.of ?_))

theorem ints_without {vs : List Value} {ms : List Nat} (h : IntsAre vs (castZ ms)) (i : Nat) : IntsAre (vs.take i ++ vs.drop (i + 1)) (castZ (ms.take i ++ ms.drop (i + 1))) := by
  rw [castZ_append]
  refine IntsAre.append ?_ ?_
  · show IntsAre _ ((ms.take i).map _)
    rw [List.map_take]; exact h.take i
  · show IntsAre _ ((ms.drop (i + 1)).map _)
    rw [List.map_drop]; exact h.drop (i + 1)
theorem big_without {ms : List Nat} (h : bigP ms ≤ 2 ^ 147) (i : Nat) : bigP (ms.take i ++ ms.drop (i + 1)) < 2 ^ 1000 := by
  rw [bigP_append]
  have h1 := Nat.le_trans (bigP_take_le ms i) h
  have h2 := Nat.le_trans (bigP_drop_le ms (i + 1)) h
  refine Nat.lt_of_le_of_lt (Nat.mul_le_mul h1 h2) ?_
  rw [← Nat.pow_add]
  exact Nat.pow_lt_pow_right (by decide) (by decide)
theorem law6 {w : World} {A : Around} {s : Shared} {mean : ExcName → Option Value} {mg mb : Str → Option Value} {L f M K : Addr} {cdv vR vS vL : Value} {mvs kvs : List Value} {ms ks : List Nat} {h : Heap} {tk wn n : Nat} {tw tn : Tok} {u : Str → Option Value} {o2 o3 o4 o5 : Obj} {env : Env} {body : List Stmt} {rest : List (Addr × Obj)}
    (X : (Mine.hd.heap_39 w.params).In s.heap) (T : Top Mine.hd.view_39 (looseW Mine.hd.view_39 []) mean mg mb s.heap)
    (hA : A.handled = none) (hd : A.depth < 800) (hu : A.units ≤ 9000) (hw : 2 ≤ wn) (hw7 : wn ≤ 7) (hn : n ≤ 7)
    (hms : IntsAre mvs (castZ ms)) (hml : ms.length = n) (hmb : ∀ m ∈ ms, m < 2 ^ 21) (hks : IntsAre kvs (castZ ks)) (hkl : ks.length = n) (hkb : ∀ m ∈ ks, m < 2 ^ 21)
    (he : env = envOfC (Str.ofString "law") lawScope L f cdv) (hb : body = lawBody.drop 6)
    (F : Fr s.heap L h (kstB u [(Str.ofString "many", .int ((n : Nat) : Int) tn), (Str.ofString "rows", vR), (Str.ofString "sums", vS), (Str.ofString "levels", vL)]))
    (N : News s.heap L h ((L + 1 + 1 + 1 + 1 + 1, o5) :: (L + 1 + 1, o2) :: (L + 1 + 1 + 1, o3) :: (L + 1 + 1 + 1 + 1, o4) :: (M, lst mvs) :: (K, lst kvs) :: rest))
    (hM5 : L + 1 + 1 + 1 + 1 + 1 ≠ M) (hK5 : L + 1 + 1 + 1 + 1 + 1 ≠ K) (hr5 : ∀ p ∈ rest, L + 1 + 1 + 1 + 1 + 1 ≠ p.1)
    (hR : NumsV (SU E0 rest) (2 ^ wn) vR ms) (hS : NumsV (SU E0 rest) (2 ^ wn) vS ks) (hL : LevsV (SU E0 rest) (2 ^ wn) vL (tree ms))
    (d2 : o2.data = .cell (some (.int ((wn : Nat) : Int) tw))) (d3 : o3.data = .cell (some (.ref M))) (d4 : o4.data = .cell (some (.ref K))) (d5 : o5.data = .cell none) :
    wpAny (model PySem.Challenge.rw_rr0052_01.row.prog w) (A.deeper env) (execs body env) (fun fl s' => fl = .ret (.bool true) ∧ Keeps s s') NoE { s with heap := h, toks := tk } := by
  obtain ⟨ahd, adp, afr, agd, aun⟩ := A
  obtain rfl : ahd = none := hA
  replace hd : adp < 800 := hd
  replace hu : aun ≤ 9000 := hu
  revert X; k_fill; intro X
  conv at hb => rhs; whnf
  subst hb
  conv at he => rhs; arg 2; whnf
  subst he
  have hbig : bigP ms ≤ 2 ^ 147 := bigP_small hmb (by omega)
  have hmv : mvs.length = ms.length := by rw [hms.length, List.length_map]
  have hkv : kvs.length = ks.length := by rw [hks.length, List.length_map]
  refine wpAny_execs_cons ?_
  ktr_unf
  refine Stop.mk ?_
  refine LCg.ListComp_U (F₀ := F) (by with_unfolding_all rfl) (by decide) (by rfl) (by decide) (by rfl) ?_
  ktr_unf
  refine Stop.mk ?_
  refine call_range_1 ?_
  refine CompSrc.range (n := n) rfl (F.push _) (N.grown fun _ _ e => Heap.get?_push_of_some _ e) (IsRange.new ..) (small_one (by omega) (by omega) (by omega) (by omega)) (by rw [rangeSize_one]; split <;> omega) (by rw [sizeLine_eq]; omega) fun g => ?_
  refine restOf _ (fun i yy nx => nx = (L + 1 + 1 + 1 + 1 + 1, o5) :: (L + 1 + 1, o2) :: (L + 1 + 1 + 1, o3) :: (L + 1 + 1 + 1 + 1, o4) :: (M, lst mvs) :: (K, lst kvs) :: rest ∧ IntsAre yy (castZ ((List.range i).map (dueAt ks ms)))) ?turn ?fin _ 0 [] _ (Nat.zero_add _) ⟨rfl, .nil⟩
  case turn =>
    rintro i yy nx v I oI C2 oC D2 m₂ h2 tk2 hi1 ⟨rfl, hyy⟩ ⟨t, rfl⟩ hC hx F3 N3 off ne
    rw [Int.zero_add] at hx
    clear F N
    have hKH : h2.IsList K kvs.toArray := isL N3 (by simp)
    have hMH : h2.IsList M mvs.toArray := isL N3 (by simp)
    have hi63 : i < 2 ^ 63 := by omega
    obtain ⟨kx, tx, hkx, hkx'⟩ := natGet hks (show i < ks.length by omega)
    ktr_unf
    refine Stop.mk ?_
    refine slice_any (ws := mvs.take i) F3 N3 hMH .none (.int _ _) (pick_upto mvs i _ rfl) (by omega) fun D3 h4 F4 N4 => ?_
    have hMH4 : h4.IsList M mvs.toArray := isL N4 (by simp)
    clear F3 N3
    ktr_unf
    refine Stop.mk ?_
    refine slice_any (ws := mvs.drop (i + 1)) F4 N4 hMH4 (.int _ _) .none (pick_from mvs (i + 1)) (by omega) fun D4 h5 F5 N5 => ?_
    clear F4 N4
    ktr_unf
    refine Stop.mk ?_
    refine add_lists (vs := mvs.take i) (ws := mvs.drop (i + 1)) F5 N5 (N5.isList (.tail _ (.head _))) (N5.isList (.head _)) (fun h6 F6 N6 => ?_) (hsz := by rw [List.length_take, List.length_drop, sizeLine_eq]; omega)
    clear F5 N5
    ktr_unf
    refine Stop.mk ?_
    have hwi := big_without hbig i
    refine use (c_product (X.keeps F6.keep) (T.keeps F6.keep) ?hA ?hd (N6.isList (.head _)) (ints_without hms i) hwi) ?_
    case hA => rfl
    case hd => show adp + 1 < 900; omega
    rintro r s' ⟨⟨t7, rfl⟩, h7, tk7, rfl, hk7⟩
    have F7 := F6.keeps hk7
    have N7 := N6.grown hk7
    clear F6 N6
    have hkb' := hkb kx (List.mem_of_getElem? hkx')
    have hm : IntMulOk ((kx : Nat) : Int) ((prodN (ms.take i ++ ms.drop (i + 1)) : Nat) : Int) :=
      mulOk (m := 21) (n := 1000) (by rw [Int.natAbs_natCast]; exact hkb') (by rw [Int.natAbs_natCast]; exact Nat.lt_of_le_of_lt (prodN_le_bigP _) hwi) (by decide)
    ktr_unf
    refine CompEnd.intro F7 N7 ((L + 1 + 1 + 1 + 1 + 1, o5) :: (L + 1 + 1, o2) :: (L + 1 + 1 + 1, o3) :: (L + 1 + 1 + 1 + 1, o4) :: (M, lst mvs) :: (K, lst kvs) :: rest) (fun p hp => .tail _ (.tail _ (.tail _ hp))) off trivial ⟨rfl, ?_⟩
    rw [List.range_succ, List.map_append, castZ_append, ← Int.natCast_mul]
    have e : dueAt ks ms i = kx * prodN (ms.take i ++ ms.drop (i + 1)) := by
      unfold dueAt
      rw [List.getD_eq_getElem?_getD, hkx']; rfl
    refine hyy.append ?_
    show IntsAre _ [((dueAt ks ms i : Nat) : Int)]
    rw [e]
    exact .cons _ _ .nil
  case fin =>
    rintro yy nx ⟨rfl, hyy⟩
    intro D2 h3 tk3 F3 N3 off
    clear F N
    ktr_unf
    refine Stop.mk ?_
    refine LSm.sum_ints F3 N3 rfl (News.isList N3 (.head _)) hyy fun h5 tk5 t5 F5 N5 => ?_
    ktr_unf
    refine Stop.mk ?_
    rename Fr _ _ _ _ => F8
    rename News _ _ _ _ => N8
    have F9 := frK (ps := [(Str.ofString "many", .int ((n : Nat) : Int) tn), (Str.ofString "rows", vR), (Str.ofString "sums", vS), (Str.ofString "levels", vL), (Str.ofString "due", .int ((dueSum ks ms : Nat) : Int) t5)]) F8 ⟨rfl, rfl, rfl, rfl, by
      show some _ = some _
      rw [sum_castZ, dueSum, hkl], trivial⟩
    refine law7 X T ?hA ?hd ?hu hw hw7 hn hms hml hmb hks hkl hkb rfl rfl F9 (sub N8 fun p hp => .tail _ hp) hM5 hK5 hr5 hR hS hL d2 d3 d4 d5
    case hA => rfl
    case hd => exact hd
    case hu => exact hu
end Mine
end
section
open PySem PySem.W PyProof.Rows PySem.Calls PySem.Spec
open PyProof.Rows.LCg
set_option maxRecDepth 100000
set_option maxHeartbeats 1000000
namespace Mine
local macro_rules | `(tactic| walk_at "pad") => `(tactic| fail "pad")
local macro_rules | `(tactic| walk_at "pad") => `(tactic| fail "pad")
local macro_rules | `(tactic| walk_at "pad") => `(tactic| fail "pad")
local macro_rules | `(tactic| walk_at "pad") => `(tactic| fail "pad")
local macro_rules | `(tactic| walk_at "pad") => `(tactic| fail "pad")
local macro_rules | `(tactic| walk_at "pad") => `(tactic| fail "pad")
local macro_rules | `(tactic| walk_at "pad") => `(tactic| fail "pad")
local macro_rules | `(tactic| walk_at "pad") => `(tactic| fail "pad")
local macro_rules | `(tactic| walk_at "binaryOp Pow int int") => `(tactic| (refine PyProof.Rows.pow_int_small (by first | with_reducible assumption | omega) (by first | with_reducible assumption | omega) (by decide) ?_))
local macro_rules | `(tactic| walk_at "eval Name") => `(tactic| ((with_reducible show wpAny _ _ (eval (Expr.Name _ _) (compEnvC _ _ _ _)) _ _ _); k_dflt (refine nm_local (by with_reducible assumption) (by rfl) ?_ (by rfl) (by rfl) (by decide))))
local macro_rules | `(tactic| walk_at "subscriptTail") => `(tactic| ((with_reducible show wpAny _ _ (subscriptTail _ _ (Value.ref _) (Value.int _ _)) _ _ _); k_dflt (first | refine item_at (by with_reducible assumption) (by with_reducible assumption) (by with_reducible assumption) (by first | with_reducible assumption | omega) ?_ | refine item_at1 (by with_reducible assumption) (by with_reducible assumption) (by with_reducible assumption) (by first | with_reducible assumption | omega) ?_)))
local macro_rules | `(tactic| walk_at "subscriptTail Name Name ref int") => `(tactic| ((with_reducible show wpAny _ _ (subscriptTail _ _ (Value.ref _) (Value.int _ _)) _ _ _); k_dflt (first | refine item_at (by with_reducible assumption) (by with_reducible assumption) (by with_reducible assumption) (by first | with_reducible assumption | omega) ?_ | refine item_at1 (by with_reducible assumption) (by with_reducible assumption) (by with_reducible assumption) (by first | with_reducible assumption | omega) ?_)))
local macro_rules | `(tactic| walk_at "subscriptTail Name BinOp ref int") => `(tactic| ((with_reducible show wpAny _ _ (subscriptTail _ _ (Value.ref _) (Value.int _ _)) _ _ _); k_dflt (first | refine item_at (by with_reducible assumption) (by with_reducible assumption) (by with_reducible assumption) (by first | with_reducible assumption | omega) ?_ | refine item_at1 (by with_reducible assumption) (by with_reducible assumption) (by with_reducible assumption) (by first | with_reducible assumption | omega) ?_)))
local macro_rules | `(tactic| walk_at "subscriptTail Name UnaryOp ref int") => `(tactic| ((with_reducible show wpAny _ _ (subscriptTail _ _ (Value.ref _) (Value.int _ _)) _ _ _); k_dflt (first | refine item_last (News.isList (by k_asm) (by k_mem)) (by with_reducible assumption) (by decide) ?_ | refine item_last (by with_reducible assumption) (by with_reducible assumption) (by decide) ?_)))
local macro_rules | `(tactic| walk_at "subscriptTail Name Constant ref int") => `(tactic| ((with_reducible show wpAny _ _ (subscriptTail _ _ (Value.ref _) (Value.int _ _)) _ _ _); k_dflt (refine item_zero (by with_reducible assumption) (by with_reducible assumption) ?_)))
local macro_rules | `(tactic| walk_at "call builtin:list.append") => `(tactic| ((with_reducible show wpAny _ _ (call (Value.builtin _) [Value.ref _, _]) _ _ _); k_dflt (refine' append_K ?k1 ?k2 (Upd.head ?k3) ?_ ?z; (case k1 => k_asm); (case k2 => k_asm); (case k3 => first | assumption | exact List.forall_mem_nil _); (case z => first | assumption | size_fits)); intro h' F' N'; (try k_sweep)))
local macro_rules | `(tactic| walk_at "call builtin:len") => `(tactic| ((with_reducible show wpAny _ _ (call (Value.builtin "len") [Value.ref _]) _ _ _); k_dflt (first | refine len_at (by with_reducible assumption) (by with_reducible assumption) (by with_reducible assumption) (by omega) ?_ | refine len_at1 (by with_reducible assumption) (by with_reducible assumption) (by with_reducible assumption) (by omega) ?_ | refine len_at1 (by with_reducible assumption) (News.isList (by k_asm) (by k_mem)) (by with_reducible assumption) (by omega) ?_)))
local macro_rules | `(tactic| walk_at "storeName") => `(tactic| ((with_reducible show wpAny _ _ (storeName (envOfC _ _ _ _ _) _ _) _ _ _); first | (k_here; k_dflt (refine' storeX_L ?F ?N ?_ ?a ?b; (case F => k_asm); (case N => k_asm); (case a => rfl); (case b => rfl); k_whole; intro h' F' N'; (try k_sweep))) | refine Stop.of ?_))
local macro_rules | `(tactic| walk_at "pyIter ref") => `(tactic| ((with_reducible show wpAny _ _ (pyIter (Value.ref _)) _ _ _); refine Stop.of ?_))
local macro_rules | `(tactic| walk_at "execs cons Assign cons") => `(tactic| (refine wpAny_execs_cons ?_))
local macro_rules | `(tactic| walk_at "execs cons") => `(tactic| (refine wpAny_execs_cons ?_))
local macro_rules | `(tactic| walk_at "subscriptTail Name Slice ref ref") => `(tactic| (refine Stop.of ?_))
local macro_rules | `(tactic| walk_at "binaryOp Add ref ref") => `(tactic| (refine Stop.of ?_))
local macro_rules | `(tactic| walk_at "call ref") => `(tactic| (refine Stop.of ?_))
local macro_rules | `(tactic| walk_at "call type:enumerate") => `(tactic| (refine Stop.of ?_))
local macro_rules | `(tactic| walk_at "call type:range") => `(tactic| (refine Stop.of ?_))
local macro_rules | `(tactic| walk_at "call builtin:sum") => `(tactic| (refine Stop.of ?_))
local macro_rules | `(tactic| walk_at "exec If") => `(tactic| (refine Stop.of ?_))
local macro_rules | `(tactic| walk_at "eval ListComp") => `(tactic| (refine Stop.of ?_))
local macro_rules | `(tactic| walk_at "exec Assign cons ListComp") => `(tactic| (refine Stop.of ?_))
local macro_rules | `(tactic| walk_at "exec For Name Name cons nil") => `(tactic| (refine Stop.of ?_))
local macro_rules | `(tactic| walk_at "exec For Name Call cons nil") => `(tactic| (refine Stop.of ?_))
local macro_rules | `(tactic| walk_at "exec For Name Subscript cons nil") => `(tactic| (refine Stop.of ?_))
local macro_rules | `(tactic| walk_at "exec While Compare cons nil") => `(tactic| (refine Stop.of ?_))
local macro_rules | `(tactic| walk_at "exec While Compare") => `(tactic| (refine Stop.of ?_))
local macro_rules | `(tactic| ktr_unf) => `(tactic| (w_top off; repeat' (first | ((with_reducible show wpAny _ _ _ _ _ _); walk1) | ((with_reducible show ite _ _ _); walk1) | (dsimp only; (with_reducible show wpAny _ _ _ _ _ _); walk1) | (dsimp only; (with_reducible show ite _ _ _); walk1) | ((with_reducible show Frag.In _ _ ∧ _); refine ⟨by k_in, ?_⟩; try dsimp only [List.nil_append, List.cons_append]))))


local macro_rules | `(tactic| walk_at "execs cons Assign cons") => `(tactic| (refine Stop.of ?_))
local macro_rules | `(tactic| walk_at "execs cons") => `(tactic| (refine Stop.of ?_))

theorem law5 {w : World} {A : Around} {s : Shared} {mean : ExcName → Option Value} {mg mb : Str → Option Value} {L f M K : Addr} {cdv vR vS : Value} {mvs kvs : List Value} {ms ks : List Nat} {h : Heap} {tk wn n : Nat} {tw tn : Tok} {u : Str → Option Value} {o2 o3 o4 o5 : Obj} {env : Env} {body : List Stmt} {rest : List (Addr × Obj)}
    (X : (Mine.hd.heap_39 w.params).In s.heap) (T : Top Mine.hd.view_39 (looseW Mine.hd.view_39 []) mean mg mb s.heap)
    (hA : A.handled = none) (hd : A.depth < 800) (hu : A.units ≤ 9000) (hw : 2 ≤ wn) (hw7 : wn ≤ 7) (hn : n ≤ 7)
    (hms : IntsAre mvs (castZ ms)) (hml : ms.length = n) (hmb : ∀ m ∈ ms, m < 2 ^ 21) (hks : IntsAre kvs (castZ ks)) (hkl : ks.length = n) (hkb : ∀ m ∈ ks, m < 2 ^ 21)
    (he : env = envOfC (Str.ofString "law") lawScope L f cdv) (hb : body = lawBody.drop 5)
    (F : Fr s.heap L h (kstB u [(Str.ofString "many", .int ((n : Nat) : Int) tn), (Str.ofString "rows", vR), (Str.ofString "sums", vS)]))
    (N : News s.heap L h ((L + 1 + 1 + 1 + 1 + 1, o5) :: (L + 1 + 1, o2) :: (L + 1 + 1 + 1, o3) :: (L + 1 + 1 + 1 + 1, o4) :: (M, lst mvs) :: (K, lst kvs) :: rest))
    (hM5 : L + 1 + 1 + 1 + 1 + 1 ≠ M) (hK5 : L + 1 + 1 + 1 + 1 + 1 ≠ K) (hr5 : ∀ p ∈ rest, L + 1 + 1 + 1 + 1 + 1 ≠ p.1)
    (hR : NumsV (SU E0 rest) (2 ^ wn) vR ms) (hS : NumsV (SU E0 rest) (2 ^ wn) vS ks)
    (d2 : o2.data = .cell (some (.int ((wn : Nat) : Int) tw))) (d3 : o3.data = .cell (some (.ref M))) (d4 : o4.data = .cell (some (.ref K))) (d5 : o5.data = .cell none) :
    wpAny (model PySem.Challenge.rw_rr0052_01.row.prog w) (A.deeper env) (execs body env) (fun fl s' => fl = .ret (.bool true) ∧ Keeps s s') NoE { s with heap := h, toks := tk } := by
  obtain ⟨ahd, adp, afr, agd, aun⟩ := A
  obtain rfl : ahd = none := hA
  replace hd : adp < 800 := hd
  replace hu : aun ≤ 9000 := hu
  revert X; k_fill; intro X
  conv at hb => rhs; whnf
  subst hb
  conv at he => rhs; arg 2; whnf
  subst he
  have hbig : bigP ms < 2 ^ 1000 := Nat.lt_of_le_of_lt (bigP_small hmb (by omega)) (Nat.pow_lt_pow_right (by decide) (by decide))
  refine wpAny_execs_cons ?_
  ktr_unf
  refine Stop.mk ?_
  refine use (c_tree (S := SU E0 rest) (X.keeps F.keep) (T.keeps F.keep) ?hA ?hd hw hw7 (SU.stand0 N (by grind)) hR hbig (by omega)) ?_
  case hA => rfl
  case hd => show adp + 1 < 870; omega
  intro r s' q
  obtain ⟨h2, tk2, tl, rfl, F2, N2, hdj, hL⟩ := after_res F N q
  clear F N q
  ktr_unf
  refine Stop.mk ?_
  rename Fr _ _ _ _ => F5
  rename News _ _ _ _ => N5
  have F6 := frK (ps := [(Str.ofString "many", .int ((n : Nat) : Int) tn), (Str.ofString "rows", vR), (Str.ofString "sums", vS), (Str.ofString "levels", r)]) F5 ⟨rfl, rfl, rfl, rfl, trivial⟩
  refine law6 (rest := rest ++ tl) X T ?hA ?hd ?hu hw hw7 hn hms hml hmb hks hkl hkb rfl rfl F6 N5 hM5 hK5 ?_ (hR.mono (SU.more m3)) (hS.mono (SU.more m3)) (hL.mono SU.app) d2 d3 d4 d5
  case hA => rfl
  case hd => exact hd
  case hu => exact hu
  intro p hp
  rcases List.mem_append.mp hp with hp | hp
  · exact hr5 p hp
  · exact Ne.symm (hdj p hp _ (.head _))
end Mine
end
section
open PySem PySem.W PyProof.Rows PySem.Calls PySem.Spec
open PyProof.Rows.LCg
set_option maxRecDepth 100000
set_option maxHeartbeats 1000000
namespace Mine
local macro_rules | `(tactic| walk_at "pad") => `(tactic| fail "pad")
local macro_rules | `(tactic| walk_at "pad") => `(tactic| fail "pad")
local macro_rules | `(tactic| walk_at "pad") => `(tactic| fail "pad")
local macro_rules | `(tactic| walk_at "pad") => `(tactic| fail "pad")
local macro_rules | `(tactic| walk_at "pad") => `(tactic| fail "pad")
local macro_rules | `(tactic| walk_at "pad") => `(tactic| fail "pad")
local macro_rules | `(tactic| walk_at "pad") => `(tactic| fail "pad")
local macro_rules | `(tactic| walk_at "pad") => `(tactic| fail "pad")
local macro_rules | `(tactic| walk_at "pad") => `(tactic| fail "pad")
local macro_rules | `(tactic| walk_at "binaryOp Pow int int") => `(tactic| (refine PyProof.Rows.pow_int_small (by first | with_reducible assumption | omega) (by first | with_reducible assumption | omega) (by decide) ?_))
local macro_rules | `(tactic| walk_at "eval Name") => `(tactic| ((with_reducible show wpAny _ _ (eval (Expr.Name _ _) (compEnvC _ _ _ _)) _ _ _); k_dflt (refine nm_local (by with_reducible assumption) (by rfl) ?_ (by rfl) (by rfl) (by decide))))
local macro_rules | `(tactic| walk_at "subscriptTail") => `(tactic| ((with_reducible show wpAny _ _ (subscriptTail _ _ (Value.ref _) (Value.int _ _)) _ _ _); k_dflt (first | refine item_at (by with_reducible assumption) (by with_reducible assumption) (by with_reducible assumption) (by first | with_reducible assumption | omega) ?_ | refine item_at1 (by with_reducible assumption) (by with_reducible assumption) (by with_reducible assumption) (by first | with_reducible assumption | omega) ?_)))
local macro_rules | `(tactic| walk_at "subscriptTail Name Name ref int") => `(tactic| ((with_reducible show wpAny _ _ (subscriptTail _ _ (Value.ref _) (Value.int _ _)) _ _ _); k_dflt (first | refine item_at (by with_reducible assumption) (by with_reducible assumption) (by with_reducible assumption) (by first | with_reducible assumption | omega) ?_ | refine item_at1 (by with_reducible assumption) (by with_reducible assumption) (by with_reducible assumption) (by first | with_reducible assumption | omega) ?_)))
local macro_rules | `(tactic| walk_at "subscriptTail Name BinOp ref int") => `(tactic| ((with_reducible show wpAny _ _ (subscriptTail _ _ (Value.ref _) (Value.int _ _)) _ _ _); k_dflt (first | refine item_at (by with_reducible assumption) (by with_reducible assumption) (by with_reducible assumption) (by first | with_reducible assumption | omega) ?_ | refine item_at1 (by with_reducible assumption) (by with_reducible assumption) (by with_reducible assumption) (by first | with_reducible assumption | omega) ?_)))
local macro_rules | `(tactic| walk_at "subscriptTail Name UnaryOp ref int") => `(tactic| ((with_reducible show wpAny _ _ (subscriptTail _ _ (Value.ref _) (Value.int _ _)) _ _ _); k_dflt (first | refine item_last (News.isList (by k_asm) (by k_mem)) (by with_reducible assumption) (by decide) ?_ | refine item_last (by with_reducible assumption) (by with_reducible assumption) (by decide) ?_)))
local macro_rules | `(tactic| walk_at "subscriptTail Name Constant ref int") => `(tactic| ((with_reducible show wpAny _ _ (subscriptTail _ _ (Value.ref _) (Value.int _ _)) _ _ _); k_dflt (refine item_zero (by with_reducible assumption) (by with_reducible assumption) ?_)))
local macro_rules | `(tactic| walk_at "call builtin:list.append") => `(tactic| ((with_reducible show wpAny _ _ (call (Value.builtin _) [Value.ref _, _]) _ _ _); k_dflt (refine' append_K ?k1 ?k2 (Upd.head ?k3) ?_ ?z; (case k1 => k_asm); (case k2 => k_asm); (case k3 => first | assumption | exact List.forall_mem_nil _); (case z => first | assumption | size_fits)); intro h' F' N'; (try k_sweep)))
local macro_rules | `(tactic| walk_at "call builtin:len") => `(tactic| ((with_reducible show wpAny _ _ (call (Value.builtin "len") [Value.ref _]) _ _ _); k_dflt (first | refine len_at (by with_reducible assumption) (by with_reducible assumption) (by with_reducible assumption) (by omega) ?_ | refine len_at1 (by with_reducible assumption) (by with_reducible assumption) (by with_reducible assumption) (by omega) ?_ | refine len_at1 (by with_reducible assumption) (News.isList (by k_asm) (by k_mem)) (by with_reducible assumption) (by omega) ?_)))
local macro_rules | `(tactic| walk_at "storeName") => `(tactic| ((with_reducible show wpAny _ _ (storeName (envOfC _ _ _ _ _) _ _) _ _ _); first | (k_here; k_dflt (refine' storeX_L ?F ?N ?_ ?a ?b; (case F => k_asm); (case N => k_asm); (case a => rfl); (case b => rfl); k_whole; intro h' F' N'; (try k_sweep))) | refine Stop.of ?_))
local macro_rules | `(tactic| walk_at "pyIter ref") => `(tactic| ((with_reducible show wpAny _ _ (pyIter (Value.ref _)) _ _ _); refine Stop.of ?_))
local macro_rules | `(tactic| walk_at "execs cons Assign cons") => `(tactic| (refine wpAny_execs_cons ?_))
local macro_rules | `(tactic| walk_at "execs cons") => `(tactic| (refine wpAny_execs_cons ?_))
local macro_rules | `(tactic| walk_at "subscriptTail Name Slice ref ref") => `(tactic| (refine Stop.of ?_))
local macro_rules | `(tactic| walk_at "binaryOp Add ref ref") => `(tactic| (refine Stop.of ?_))
local macro_rules | `(tactic| walk_at "call ref") => `(tactic| (refine Stop.of ?_))
local macro_rules | `(tactic| walk_at "call type:enumerate") => `(tactic| (refine Stop.of ?_))
local macro_rules | `(tactic| walk_at "call type:range") => `(tactic| (refine Stop.of ?_))
local macro_rules | `(tactic| walk_at "call builtin:sum") => `(tactic| (refine Stop.of ?_))
local macro_rules | `(tactic| walk_at "exec If") => `(tactic| (refine Stop.of ?_))
local macro_rules | `(tactic| walk_at "eval ListComp") => `(tactic| (refine Stop.of ?_))
local macro_rules | `(tactic| walk_at "exec Assign cons ListComp") => `(tactic| (refine Stop.of ?_))
local macro_rules | `(tactic| walk_at "exec For Name Name cons nil") => `(tactic| (refine Stop.of ?_))
local macro_rules | `(tactic| walk_at "exec For Name Call cons nil") => `(tactic| (refine Stop.of ?_))
local macro_rules | `(tactic| walk_at "exec For Name Subscript cons nil") => `(tactic| (refine Stop.of ?_))
local macro_rules | `(tactic| walk_at "exec While Compare cons nil") => `(tactic| (refine Stop.of ?_))
local macro_rules | `(tactic| walk_at "exec While Compare") => `(tactic| (refine Stop.of ?_))
local macro_rules | `(tactic| ktr_unf) => `(tactic| (w_top off; repeat' (first | ((with_reducible show wpAny _ _ _ _ _ _); walk1) | ((with_reducible show ite _ _ _); walk1) | (dsimp only; (with_reducible show wpAny _ _ _ _ _ _); walk1) | (dsimp only; (with_reducible show ite _ _ _); walk1) | ((with_reducible show Frag.In _ _ ∧ _); refine ⟨by k_in, ?_⟩; try dsimp only [List.nil_append, List.cons_append]))))


local macro_rules | `(tactic| walk_at "execs cons Assign cons") => `(tactic| (refine Stop.of ?_))
local macro_rules | `(tactic| walk_at "execs cons") => `(tactic| (refine Stop.of ?_))

theorem law4 {w : World} {A : Around} {s : Shared} {mean : ExcName → Option Value} {mg mb : Str → Option Value} {L f M K : Addr} {cdv : Value} {mvs kvs : List Value} {ms ks : List Nat} {h : Heap} {tk wn n : Nat} {tw tn : Tok} {u : Str → Option Value} {o2 o3 o4 o5 : Obj} {env : Env} {body : List Stmt}
    (X : (Mine.hd.heap_39 w.params).In s.heap) (T : Top Mine.hd.view_39 (looseW Mine.hd.view_39 []) mean mg mb s.heap)
    (hA : A.handled = none) (hd : A.depth < 800) (hu : A.units ≤ 9000) (hw : 2 ≤ wn) (hw7 : wn ≤ 7) (hn : n ≤ 7)
    (hms : IntsAre mvs (castZ ms)) (hml : ms.length = n) (hmb : ∀ m ∈ ms, m < 2 ^ 21) (hks : IntsAre kvs (castZ ks)) (hkl : ks.length = n) (hkb : ∀ m ∈ ks, m < 2 ^ 21)
    (he : env = envOfC (Str.ofString "law") lawScope L f cdv) (hb : body = lawBody.drop 4)
    (F : Fr s.heap L h (kstB u [(Str.ofString "many", .int ((n : Nat) : Int) tn)])) (N : News s.heap L h [(L + 1 + 1 + 1 + 1 + 1, o5), (L + 1 + 1, o2), (L + 1 + 1 + 1, o3), (L + 1 + 1 + 1 + 1, o4), (M, lst mvs), (K, lst kvs)])
    (hM5 : L + 1 + 1 + 1 + 1 + 1 ≠ M) (hK5 : L + 1 + 1 + 1 + 1 + 1 ≠ K)
    (d2 : o2.data = .cell (some (.int ((wn : Nat) : Int) tw))) (d3 : o3.data = .cell (some (.ref M))) (d4 : o4.data = .cell (some (.ref K))) (d5 : o5.data = .cell none) :
    wpAny (model PySem.Challenge.rw_rr0052_01.row.prog w) (A.deeper env) (execs body env) (fun fl s' => fl = .ret (.bool true) ∧ Keeps s s') NoE { s with heap := h, toks := tk } := by
  obtain ⟨ahd, adp, afr, agd, aun⟩ := A
  obtain rfl : ahd = none := hA
  replace hd : adp < 800 := hd
  revert X; k_fill; intro X
  conv at hb => rhs; whnf
  subst hb
  conv at he => rhs; arg 2; whnf
  subst he
  have up21 : ∀ x : Nat, x < 2 ^ 21 → x < 2 ^ 1000 := fun x h => Nat.lt_of_lt_of_le h (Nat.pow_le_pow_right (by decide) (by decide))
  refine wpAny_execs_cons ?_
  ktr_unf
  refine Stop.mk ?_
  refine comp_limbs (rest := []) X T hd hw hw7 F N d2 (fun _ h => nomatch h) (by rfl) (by rfl) (by rfl) (.tail _ (.tail _ (.head _))) d3 (.tail _ (.tail _ (.tail _ (.tail _ (.head _))))) hms (by omega) (fun x hx => up21 x (hmb x hx)) ?_
  intro D h2 tk2 tl yy F2 N2 hr2 hyy
  clear F N
  rw [List.nil_append] at N2 hr2
  have N3 := sub (l' := (L + 1 + 1 + 1 + 1 + 1, o5) :: (L + 1 + 1, o2) :: (L + 1 + 1 + 1, o3) :: (L + 1 + 1 + 1 + 1, o4) :: (M, lst mvs) :: (K, lst kvs) :: ((D, lst yy) :: tl)) N2 (by grind)
  clear N2
  ktr_unf
  refine Stop.mk ?_
  refine comp_limbs X T hd hw hw7 F2 N3 d2 hr2 (by rfl) (by rfl) (by rfl) (.tail _ (.tail _ (.tail _ (.head _)))) d4 (.tail _ (.tail _ (.tail _ (.tail _ (.tail _ (.head _)))))) hks (by omega) (fun x hx => up21 x (hkb x hx)) ?_
  intro D2 h4 tk4 tl2 yy2 F4 N4 hr4 hyy2
  clear F2 N3
  ktr_unf
  refine Stop.mk ?_
  rename Fr _ _ _ _ => F5
  rename News _ _ _ _ => N5
  have F6 := F5
  rw [← kst_all (m := fun y => if y = Str.ofString "rows" then some (Value.ref D) else if y = Str.ofString "sums" then some (Value.ref D2) else kstB u [(Str.ofString "many", Value.int ((n : Nat) : Int) tn)] y)
    (ps := [(Str.ofString "many", .int ((n : Nat) : Int) tn), (Str.ofString "rows", .ref D), (Str.ofString "sums", .ref D2)]) ⟨rfl, rfl, rfl, trivial⟩] at F6
  have N6 := sub (l' := (L + 1 + 1 + 1 + 1 + 1, o5) :: (L + 1 + 1, o2) :: (L + 1 + 1 + 1, o3) :: (L + 1 + 1 + 1 + 1, o4) :: (M, lst mvs) :: (K, lst kvs) :: ((D2, lst yy2) :: ((D, lst yy) :: tl ++ tl2))) N5 (by grind)
  refine law5 X T ?hA ?hd ?hu hw hw7 hn hms hml hmb hks hkl hkb rfl rfl F6 N6 hM5 hK5 hr4 ?_ ?_ d2 d3 d4 d5
  case hA => rfl
  case hd => exact hd
  case hu => exact hu
  · exact ⟨D, yy, rfl, ⟨lst yy, .inr (by simp), rfl, _, rfl⟩, hyy.mono fun _ _ z => z.mono (SU.more (by grind))⟩
  · exact ⟨D2, yy2, rfl, ⟨lst yy2, .inr (by simp), rfl, _, rfl⟩, hyy2.mono fun _ _ z => z.mono (SU.more (by grind))⟩
end Mine
end
section
open PySem PySem.W PyProof.Rows PySem.Calls PySem.Spec
open PyProof.Rows.LCg
set_option maxRecDepth 100000
set_option maxHeartbeats 1000000
namespace Mine
local macro_rules | `(tactic| walk_at "pad") => `(tactic| fail "pad")
local macro_rules | `(tactic| walk_at "pad") => `(tactic| fail "pad")
local macro_rules | `(tactic| walk_at "pad") => `(tactic| fail "pad")
local macro_rules | `(tactic| walk_at "pad") => `(tactic| fail "pad")
local macro_rules | `(tactic| walk_at "pad") => `(tactic| fail "pad")
local macro_rules | `(tactic| walk_at "pad") => `(tactic| fail "pad")
local macro_rules | `(tactic| walk_at "pad") => `(tactic| fail "pad")
local macro_rules | `(tactic| walk_at "pad") => `(tactic| fail "pad")
local macro_rules | `(tactic| walk_at "pad") => `(tactic| fail "pad")
local macro_rules | `(tactic| walk_at "pad") => `(tactic| fail "pad")
local macro_rules | `(tactic| walk_at "pad") => `(tactic| fail "pad")
local macro_rules | `(tactic| walk_at "pad") => `(tactic| fail "pad")
local macro_rules | `(tactic| walk_at "binaryOp Pow int int") => `(tactic| (refine PyProof.Rows.pow_int_small (by first | with_reducible assumption | omega) (by first | with_reducible assumption | omega) (by decide) ?_))
local macro_rules | `(tactic| walk_at "eval Name") => `(tactic| ((with_reducible show wpAny _ _ (eval (Expr.Name _ _) (compEnvC _ _ _ _)) _ _ _); k_dflt (refine nm_local (by with_reducible assumption) (by rfl) ?_ (by rfl) (by rfl) (by decide))))
local macro_rules | `(tactic| walk_at "subscriptTail") => `(tactic| ((with_reducible show wpAny _ _ (subscriptTail _ _ (Value.ref _) (Value.int _ _)) _ _ _); k_dflt (first | refine item_at (by with_reducible assumption) (by with_reducible assumption) (by with_reducible assumption) (by first | with_reducible assumption | omega) ?_ | refine item_at1 (by with_reducible assumption) (by with_reducible assumption) (by with_reducible assumption) (by first | with_reducible assumption | omega) ?_)))
local macro_rules | `(tactic| walk_at "subscriptTail Name Name ref int") => `(tactic| ((with_reducible show wpAny _ _ (subscriptTail _ _ (Value.ref _) (Value.int _ _)) _ _ _); k_dflt (first | refine item_at (by with_reducible assumption) (by with_reducible assumption) (by with_reducible assumption) (by first | with_reducible assumption | omega) ?_ | refine item_at1 (by with_reducible assumption) (by with_reducible assumption) (by with_reducible assumption) (by first | with_reducible assumption | omega) ?_)))
local macro_rules | `(tactic| walk_at "subscriptTail Name BinOp ref int") => `(tactic| ((with_reducible show wpAny _ _ (subscriptTail _ _ (Value.ref _) (Value.int _ _)) _ _ _); k_dflt (first | refine item_at (by with_reducible assumption) (by with_reducible assumption) (by with_reducible assumption) (by first | with_reducible assumption | omega) ?_ | refine item_at1 (by with_reducible assumption) (by with_reducible assumption) (by with_reducible assumption) (by first | with_reducible assumption | omega) ?_)))
local macro_rules | `(tactic| walk_at "subscriptTail Name UnaryOp ref int") => `(tactic| ((with_reducible show wpAny _ _ (subscriptTail _ _ (Value.ref _) (Value.int _ _)) _ _ _); k_dflt (first | refine item_last (News.isList (by k_asm) (by k_mem)) (by with_reducible assumption) (by decide) ?_ | refine item_last (by with_reducible assumption) (by with_reducible assumption) (by decide) ?_)))
local macro_rules | `(tactic| walk_at "subscriptTail Name Constant ref int") => `(tactic| ((with_reducible show wpAny _ _ (subscriptTail _ _ (Value.ref _) (Value.int _ _)) _ _ _); k_dflt (refine item_zero (by with_reducible assumption) (by with_reducible assumption) ?_)))
local macro_rules | `(tactic| walk_at "call builtin:list.append") => `(tactic| ((with_reducible show wpAny _ _ (call (Value.builtin _) [Value.ref _, _]) _ _ _); k_dflt (refine' append_K ?k1 ?k2 (Upd.head ?k3) ?_ ?z; (case k1 => k_asm); (case k2 => k_asm); (case k3 => first | assumption | exact List.forall_mem_nil _); (case z => first | assumption | size_fits)); intro h' F' N'; (try k_sweep)))
local macro_rules | `(tactic| walk_at "call builtin:len") => `(tactic| ((with_reducible show wpAny _ _ (call (Value.builtin "len") [Value.ref _]) _ _ _); k_dflt (first | refine len_at (by with_reducible assumption) (by with_reducible assumption) (by with_reducible assumption) (by omega) ?_ | refine len_at1 (by with_reducible assumption) (by with_reducible assumption) (by with_reducible assumption) (by omega) ?_ | refine len_at1 (by with_reducible assumption) (News.isList (by k_asm) (by k_mem)) (by with_reducible assumption) (by omega) ?_)))
local macro_rules | `(tactic| walk_at "storeName") => `(tactic| ((with_reducible show wpAny _ _ (storeName (envOfC _ _ _ _ _) _ _) _ _ _); first | (k_here; k_dflt (refine' storeX_L ?F ?N ?_ ?a ?b; (case F => k_asm); (case N => k_asm); (case a => rfl); (case b => rfl); k_whole; intro h' F' N'; (try k_sweep))) | refine Stop.of ?_))
local macro_rules | `(tactic| walk_at "pyIter ref") => `(tactic| ((with_reducible show wpAny _ _ (pyIter (Value.ref _)) _ _ _); refine Stop.of ?_))
local macro_rules | `(tactic| walk_at "execs cons Assign cons") => `(tactic| (refine wpAny_execs_cons ?_))
local macro_rules | `(tactic| walk_at "execs cons") => `(tactic| (refine wpAny_execs_cons ?_))
local macro_rules | `(tactic| walk_at "subscriptTail Name Slice ref ref") => `(tactic| (refine Stop.of ?_))
local macro_rules | `(tactic| walk_at "binaryOp Add ref ref") => `(tactic| (refine Stop.of ?_))
local macro_rules | `(tactic| walk_at "call ref") => `(tactic| (refine Stop.of ?_))
local macro_rules | `(tactic| walk_at "call type:enumerate") => `(tactic| (refine Stop.of ?_))
local macro_rules | `(tactic| walk_at "call type:range") => `(tactic| (refine Stop.of ?_))
local macro_rules | `(tactic| walk_at "call builtin:sum") => `(tactic| (refine Stop.of ?_))
local macro_rules | `(tactic| walk_at "exec If") => `(tactic| (refine Stop.of ?_))
local macro_rules | `(tactic| walk_at "eval ListComp") => `(tactic| (refine Stop.of ?_))
local macro_rules | `(tactic| walk_at "exec Assign cons ListComp") => `(tactic| (refine Stop.of ?_))
local macro_rules | `(tactic| walk_at "exec For Name Name cons nil") => `(tactic| (refine Stop.of ?_))
local macro_rules | `(tactic| walk_at "exec For Name Call cons nil") => `(tactic| (refine Stop.of ?_))
local macro_rules | `(tactic| walk_at "exec For Name Subscript cons nil") => `(tactic| (refine Stop.of ?_))
local macro_rules | `(tactic| walk_at "exec While Compare cons nil") => `(tactic| (refine Stop.of ?_))
local macro_rules | `(tactic| walk_at "exec While Compare") => `(tactic| (refine Stop.of ?_))
local macro_rules | `(tactic| ktr_unf) => `(tactic| (w_top off; repeat' (first | ((with_reducible show wpAny _ _ _ _ _ _); walk1) | ((with_reducible show ite _ _ _); walk1) | (dsimp only; (with_reducible show wpAny _ _ _ _ _ _); walk1) | (dsimp only; (with_reducible show ite _ _ _); walk1) | ((with_reducible show Frag.In _ _ ∧ _); refine ⟨by k_in, ?_⟩; try dsimp only [List.nil_append, List.cons_append]))))


theorem picked_N {w : World} {A : Around} {s : Shared} {mean : ExcName → Option Value} {mg mb : Str → Option Value} {L B C : Addr} {h : Heap} {m : Str → Option Value} {tk c cn M : Nat} {t tm : Tok} {ys : List Value} {zs : List Int} {news : List (Addr × Obj)}
    (X : (Mine.hd.heap_39 w.params).In s.heap) (T : Top Mine.hd.view_39 (looseW Mine.hd.view_39 []) mean mg mb s.heap)
    (hA : A.handled = none) (hd : A.depth < 870) (hzs : IntsAre ys zs) (hyl : ys.length ≤ 60)
    (F : Fr s.heap L h m) (N : News s.heap L h ((B, W.listOf #[.int ((c : Nat) : Int) t, .ref C] cn) :: news)) (hap : ∀ p ∈ news, p.1 ≠ B) (hC : (C, lst ys) ∈ news) (hc : c < 10000) (hM : 1 ≤ M) (hM2 : M ≤ 128) :
    wpAny (model PySem.Challenge.rw_rr0052_01.row.prog w) A (call (.ref 56) [.ref B, .int ((M : Nat) : Int) tm] []) (fun r s' => ∃ (k : Nat) (u : Tok) (h' : Heap) (tk' : Nat) (t' : Tok) (cn' : Nat), r = .int ((k : Nat) : Int) u ∧ k < M ∧ s' = { s with heap := h', toks := tk' } ∧
      Fr s.heap L h' m ∧ News s.heap L h' ((B, W.listOf #[.int ((c + 1 : Nat) : Int) t', .ref C] cn') :: news)) NoE { s with heap := h, toks := tk } := by
  have nB := N _ (.head _)
  have nC := N _ (.tail _ hC)
  refine use (c_picked (h0 := s.heap) F.keep X T hA (by omega) nB.2.2 (hap _ hC) nB.1 ⟨_, nC.1, rfl, _, rfl⟩ hzs (by omega) (by omega) hM hM2) ?_
  rintro r s' ⟨⟨k, u, rfl, hk⟩, h2, tk2, t2, cn2, rfl, hB2, hk2⟩
  obtain ⟨F2, N2⟩ := grow_but F N hap hk2 hB2
  exact ⟨k, u, h2, tk2, t2, cn2, rfl, hk, rfl, F2, N2⟩

theorem number_N {w : World} {A : Around} {s : Shared} {mean : ExcName → Option Value} {mg mb : Str → Option Value} {L B C : Addr} {h : Heap} {m : Str → Option Value} {tk c cn wn : Nat} {t tw : Tok} {ys : List Value} {zs : List Int} {news : List (Addr × Obj)}
    (X : (Mine.hd.heap_39 w.params).In s.heap) (T : Top Mine.hd.view_39 (looseW Mine.hd.view_39 []) mean mg mb s.heap)
    (hA : A.handled = none) (hd : A.depth < 860) (hzs : IntsAre ys zs) (hyl : ys.length ≤ 60)
    (F : Fr s.heap L h m) (N : News s.heap L h ((B, W.listOf #[.int ((c : Nat) : Int) t, .ref C] cn) :: news)) (hap : ∀ p ∈ news, p.1 ≠ B) (hC : (C, lst ys) ∈ news) (hc : c < 1000) (hw : 2 ≤ wn) (hw7 : wn ≤ 7) :
    wpAny (model PySem.Challenge.rw_rr0052_01.row.prog w) A (call (.ref 82) [.ref B, .int ((wn : Nat) : Int) tw] []) (fun r s' => ∃ (k : Nat) (u : Tok) (h' : Heap) (tk' : Nat) (t' : Tok) (c' cn' : Nat), r = .int ((k : Nat) : Int) u ∧ k < 2 ^ 21 ∧ s' = { s with heap := h', toks := tk' } ∧ c' ≤ c + 4 ∧
      Fr s.heap L h' m ∧ News s.heap L h' ((B, W.listOf #[.int ((c' : Nat) : Int) t', .ref C] cn') :: news)) NoE { s with heap := h, toks := tk } := by
  have nB := N _ (.head _)
  have nC := N _ (.tail _ hC)
  refine use (c_number (h0 := s.heap) F.keep X T hA (by omega) nB.2.2 (hap _ hC) nB.1 ⟨_, nC.1, rfl, _, rfl⟩ hzs (by omega) (by omega) hw hw7) ?_
  rintro r s' ⟨⟨k, u, rfl, hk⟩, h2, tk2, t2, c2, cn2, rfl, hc2, hB2, hk2⟩
  obtain ⟨F2, N2⟩ := grow_but F N hap hk2 hB2
  exact ⟨k, u, h2, tk2, t2, c2, cn2, rfl, hk, rfl, hc2, F2, N2⟩

theorem law3 {w : World} {A : Around} {s : Shared} {mean : ExcName → Option Value} {mg mb : Str → Option Value} {L f B C M : Addr} {cdv : Value} {ys mvs : List Value} {zs : List Int} {ms : List Nat} {h : Heap} {tk cn c0 wn n : Nat} {t0 tw tn : Tok} {u : Str → Option Value} {o1 o2 o3 o4 o5 : Obj} {env : Env} {body : List Stmt}
    (X : (Mine.hd.heap_39 w.params).In s.heap) (T : Top Mine.hd.view_39 (looseW Mine.hd.view_39 []) mean mg mb s.heap)
    (hA : A.handled = none) (hd : A.depth < 800) (hu : A.units ≤ 9000) (hzs : IntsAre ys zs) (hyl : ys.length ≤ 60) (hw : 2 ≤ wn) (hw7 : wn ≤ 7) (hn : n ≤ 7) (hc0 : c0 ≤ 30)
    (hms : IntsAre mvs (castZ ms)) (hml : mvs.length = n) (hmb : ∀ m ∈ ms, m < 2 ^ 21)
    (he : env = envOfC (Str.ofString "law") lawScope L f cdv) (hb : body = lawBody.drop 3)
    (F : Fr s.heap L h (kstB u [(Str.ofString "many", .int ((n : Nat) : Int) tn)])) (N : News s.heap L h [(B, W.listOf #[Value.int ((c0 : Nat) : Int) t0, Value.ref C] cn), (L + 1, o1), (L + 1 + 1 + 1 + 1 + 1, o5), (L + 1 + 1 + 1 + 1, o4), (L + 1 + 1 + 1, o3), (L + 1 + 1, o2), (C, lst ys), (M, lst mvs)])
    (hcB : ∀ p ∈ [L + 1, L + 1 + 1 + 1 + 1 + 1, L + 1 + 1 + 1 + 1, L + 1 + 1 + 1, L + 1 + 1, C, M], p ≠ B) (hML : ∀ p ∈ [L + 1, L + 1 + 1 + 1 + 1 + 1, L + 1 + 1 + 1 + 1, L + 1 + 1 + 1, L + 1 + 1], p ≠ M)
    (d1 : o1.data = .cell (some (.ref B))) (d2 : o2.data = .cell (some (.int ((wn : Nat) : Int) tw))) (d3 : o3.data = .cell (some (.ref M))) (d4 : o4.data = .cell none) (d5 : o5.data = .cell none) :
    wpAny (model PySem.Challenge.rw_rr0052_01.row.prog w) (A.deeper env) (execs body env) (fun fl s' => fl = .ret (.bool true) ∧ Keeps s s') NoE { s with heap := h, toks := tk } := by
  obtain ⟨ahd, adp, afr, agd, aun⟩ := A
  obtain rfl : ahd = none := hA
  replace hd : adp < 800 := hd
  revert X; k_fill; intro X
  conv at hb => rhs; whnf
  subst hb
  conv at he => rhs; arg 2; whnf
  subst he
  simp only [List.forall_mem_cons] at hcB hML
  obtain ⟨b1, b5, b4, b3, b2, bC, bM, -⟩ := hcB
  obtain ⟨m1, m5, m4, m3, m2, -⟩ := hML
  ktr_unf
  refine Stop.mk ?_
  refine wpAny_Assign_Name ?_ (by with_unfolding_all rfl)
  refine LCg.ListComp_U (F₀ := F) (by with_unfolding_all rfl) (by decide) (by rfl) (by decide) (by rfl) ?_
  ktr_unf
  refine Stop.mk ?_
  refine call_range_1 ?_
  refine CompSrc.range (n := n) rfl (F.push _) (N.grown fun _ _ e => Heap.get?_push_of_some _ e) (IsRange.new ..) (small_one (by omega) (by omega) (by omega) (by omega)) (by rw [rangeSize_one]; split <;> omega) (by rw [sizeLine_eq]; omega) fun g => ?_
  refine restOf _ (fun i yy nx => ∃ (c' cn' : Nat) (t' : Tok) (ks : List Nat), nx = [(B, W.listOf #[Value.int ((c' : Nat) : Int) t', Value.ref C] cn'), (L + 1, o1), (L + 1 + 1 + 1 + 1 + 1, o5), (L + 1 + 1 + 1 + 1, o4), (L + 1 + 1 + 1, o3), (L + 1 + 1, o2), (C, lst ys), (M, lst mvs)] ∧
    yy.length = i ∧ IntsAre yy (castZ ks) ∧ (∀ m ∈ ks, m < 2 ^ 21) ∧ c' ≤ c0 + 4 * i) ?turn ?fin _ 0 [] _ (Nat.zero_add _) ⟨c0, cn, t0, [], rfl, rfl, .nil, (fun _ h => nomatch h), Nat.le_refl _⟩
  case turn =>
    rintro i yy nx v I oI C2 oC D2 m₂ h2 tk2 hi1 ⟨c', cn', t', ks, rfl, hyl2, hks, hkb, hcc⟩ hv hC hx F3 N3 off ne
    clear F N
    ktr_unf
    refine Stop.mk ?_
    have hap : ∀ p ∈ [(I, oI), (C2, oC), (D2, lst yy), (L + 1, o1), (L + 1 + 1 + 1 + 1 + 1, o5), (L + 1 + 1 + 1 + 1, o4), (L + 1 + 1 + 1, o3), (L + 1 + 1, o2), (C, lst ys), (M, lst mvs)], p.1 ≠ B := by
      simp only [List.forall_mem_cons]
      exact ⟨Ne.symm off.1.1, Ne.symm off.1.2.1, Ne.symm off.1.2.2, b1, b5, b4, b3, b2, bC, bM, fun _ h => nomatch h⟩
    have N4 := sub (l' := (B, W.listOf #[Value.int ((c' : Nat) : Int) t', Value.ref C] cn') :: [(I, oI), (C2, oC), (D2, lst yy), (L + 1, o1), (L + 1 + 1 + 1 + 1 + 1, o5), (L + 1 + 1 + 1 + 1, o4), (L + 1 + 1 + 1, o3), (L + 1 + 1, o2), (C, lst ys), (M, lst mvs)]) N3 (by simp only [List.forall_mem_cons]; simp)
    refine use (number_N X T ?hA ?hd hzs hyl F3 N4 hap (by simp) (by omega) hw hw7) ?_
    case hA => rfl
    case hd => show adp + 1 < 860; omega
    rintro r s' ⟨k, uk, h5, tk5, t5, c5', cn5, rfl, hk, rfl, hc5, F5, N5⟩
    refine CompEnd.intro F5 N5 ((B, W.listOf #[Value.int ((c5' : Nat) : Int) t5, Value.ref C] cn5) :: [(L + 1, o1), (L + 1 + 1 + 1 + 1 + 1, o5), (L + 1 + 1 + 1 + 1, o4), (L + 1 + 1 + 1, o3), (L + 1 + 1, o2), (C, lst ys), (M, lst mvs)]) (by simp only [List.forall_mem_cons]; simp) off trivial ⟨c5', cn5, t5, ks ++ [k], rfl, ?_, ?_, ?_, by omega⟩
    · rw [List.length_append, hyl2]; rfl
    · rw [castZ_append]; exact hks.append (.cons _ _ .nil)
    · intro m hm
      rcases List.mem_append.mp hm with hm | hm
      · exact hkb m hm
      · rw [List.mem_singleton.mp hm]; exact hk
  case fin =>
    rintro yy nx ⟨c', cn', t', ks, rfl, hyl2, hks, hkb, hcc⟩
    intro D2 h3 tk3 F3 N3 off
    clear F N
    ktr_unf
    refine Stop.mk ?_
    simp only [Off1] at off
    obtain ⟨fB, f1, f5, f4, f3, f2, fC, fM, -⟩ := off
    refine st_cell (news' := [(L + 1 + 1 + 1 + 1 + 1, o5), (L + 1 + 1, o2), (L + 1 + 1 + 1, o3), (M, lst mvs), (D2, lst yy)]) F3 N3 (by rfl) (by simp) d4 ?_ ?_ (by rfl) (by rfl)
    · simp only [List.forall_mem_cons]
      refine ⟨⟨by simp, ?_⟩, ⟨by simp, ?_⟩, ⟨by simp, ?_⟩, ⟨by simp, Ne.symm m4⟩, ⟨by simp, Ne.symm f4⟩, fun _ h => nomatch h⟩
      all_goals (intro e; replace e : (_ : Nat) = _ := e; omega)
    intro h5 o' F5 N5 d'
    have N6 := sub (l' := [(L + 1 + 1 + 1 + 1 + 1, o5), (L + 1 + 1, o2), (L + 1 + 1 + 1, o3), (L + 1 + 1 + 1 + 1, o'), (M, lst mvs), (D2, lst yy)]) N5 (by simp only [List.forall_mem_cons]; simp)
    have hml' : ms.length = n := by rw [← hml, hms.length, List.length_map]
    have hkl' : ks.length = n := by rw [← hyl2, hks.length, List.length_map]
    refine law4 X T ?hA ?hd ?hu hw hw7 hn hms hml' hmb hks hkl' hkb rfl rfl F5 N6 m5 f5 d2 d3 d' d5
    case hA => rfl
    case hd => exact hd
    case hu => exact hu

theorem law2 {w : World} {A : Around} {s : Shared} {mean : ExcName → Option Value} {mg mb : Str → Option Value} {L f B C : Addr} {cdv : Value} {ys : List Value} {zs : List Int} {h : Heap} {tk cn wn n : Nat} {t0 tw tn : Tok} {u : Str → Option Value} {o1 o2 o3 o4 o5 : Obj} {env : Env} {body : List Stmt}
    (X : (Mine.hd.heap_39 w.params).In s.heap) (T : Top Mine.hd.view_39 (looseW Mine.hd.view_39 []) mean mg mb s.heap)
    (hA : A.handled = none) (hd : A.depth < 800) (hu : A.units ≤ 9000) (hzs : IntsAre ys zs) (hyl : ys.length ≤ 60) (hw : 2 ≤ wn) (hw7 : wn ≤ 7) (hn : n ≤ 7)
    (he : env = envOfC (Str.ofString "law") lawScope L f cdv) (hb : body = lawBody.drop 2)
    (F : Fr s.heap L h (kstB u [(Str.ofString "many", .int ((n : Nat) : Int) tn)])) (N : News s.heap L h [(B, W.listOf #[Value.int ((2 : Nat) : Int) t0, Value.ref C] cn), (L + 1, o1), (L + 1 + 1 + 1 + 1 + 1, o5), (L + 1 + 1 + 1 + 1, o4), (L + 1 + 1 + 1, o3), (L + 1 + 1, o2), (C, lst ys)])
    (hcB : ∀ p ∈ [L + 1, L + 1 + 1 + 1 + 1 + 1, L + 1 + 1 + 1 + 1, L + 1 + 1 + 1, L + 1 + 1, C], p ≠ B) (hCL : ∀ p ∈ [L + 1, L + 1 + 1 + 1 + 1 + 1, L + 1 + 1 + 1 + 1, L + 1 + 1 + 1, L + 1 + 1], p ≠ C)
    (d1 : o1.data = .cell (some (.ref B))) (d2 : o2.data = .cell (some (.int ((wn : Nat) : Int) tw))) (d3 : o3.data = .cell none) (d4 : o4.data = .cell none) (d5 : o5.data = .cell none) :
    wpAny (model PySem.Challenge.rw_rr0052_01.row.prog w) (A.deeper env) (execs body env) (fun fl s' => fl = .ret (.bool true) ∧ Keeps s s') NoE { s with heap := h, toks := tk } := by
  obtain ⟨ahd, adp, afr, agd, aun⟩ := A
  obtain rfl : ahd = none := hA
  replace hd : adp < 800 := hd
  revert X; k_fill; intro X
  conv at hb => rhs; whnf
  subst hb
  conv at he => rhs; arg 2; whnf
  subst he
  simp only [List.forall_mem_cons] at hcB hCL
  obtain ⟨b1, b5, b4, b3, b2, bC, -⟩ := hcB
  obtain ⟨c1, c5, c4, c3, c2, -⟩ := hCL
  ktr_unf
  refine Stop.mk ?_
  refine wpAny_Assign_Name ?_ (by with_unfolding_all rfl)
  refine LCg.ListComp_U (F₀ := F) (by with_unfolding_all rfl) (by decide) (by rfl) (by decide) (by rfl) ?_
  ktr_unf
  refine Stop.mk ?_
  refine call_range_1 ?_
  refine CompSrc.range (n := n) rfl (F.push _) (N.grown fun _ _ e => Heap.get?_push_of_some _ e) (IsRange.new ..) (small_one (by omega) (by omega) (by omega) (by omega)) (by rw [rangeSize_one]; split <;> omega) (by rw [sizeLine_eq]; omega) fun g => ?_
  refine restOf _ (fun i yy nx => ∃ (c' cn' : Nat) (t' : Tok) (ms : List Nat), nx = [(B, W.listOf #[Value.int ((c' : Nat) : Int) t', Value.ref C] cn'), (L + 1, o1), (L + 1 + 1 + 1 + 1 + 1, o5), (L + 1 + 1 + 1 + 1, o4), (L + 1 + 1 + 1, o3), (L + 1 + 1, o2), (C, lst ys)] ∧
    yy.length = i ∧ IntsAre yy (castZ ms) ∧ (∀ m ∈ ms, m < 2 ^ 21) ∧ c' ≤ 2 + 4 * i) ?turn ?fin _ 0 [] _ (Nat.zero_add _) ⟨2, cn, t0, [], rfl, rfl, .nil, (fun _ h => nomatch h), Nat.le_refl _⟩
  case turn =>
    rintro i yy nx v I oI C2 oC D2 m₂ h2 tk2 hi1 ⟨c', cn', t', ms, rfl, hyl2, hms, hmb, hcc⟩ hv hC hx F3 N3 off ne
    clear F N
    ktr_unf
    refine Stop.mk ?_
    have hap : ∀ p ∈ [(I, oI), (C2, oC), (D2, lst yy), (L + 1, o1), (L + 1 + 1 + 1 + 1 + 1, o5), (L + 1 + 1 + 1 + 1, o4), (L + 1 + 1 + 1, o3), (L + 1 + 1, o2), (C, lst ys)], p.1 ≠ B := by
      simp only [List.forall_mem_cons]
      exact ⟨Ne.symm off.1.1, Ne.symm off.1.2.1, Ne.symm off.1.2.2, b1, b5, b4, b3, b2, bC, fun _ h => nomatch h⟩
    have N4 := sub (l' := (B, W.listOf #[Value.int ((c' : Nat) : Int) t', Value.ref C] cn') :: [(I, oI), (C2, oC), (D2, lst yy), (L + 1, o1), (L + 1 + 1 + 1 + 1 + 1, o5), (L + 1 + 1 + 1 + 1, o4), (L + 1 + 1 + 1, o3), (L + 1 + 1, o2), (C, lst ys)]) N3 (by simp only [List.forall_mem_cons]; simp)
    refine use (number_N X T ?hA ?hd hzs hyl F3 N4 hap (by simp) (by omega) hw hw7) ?_
    case hA => rfl
    case hd => show adp + 1 < 860; omega
    rintro r s' ⟨k, uk, h5, tk5, t5, c5', cn5, rfl, hk, rfl, hc5, F5, N5⟩
    refine CompEnd.intro F5 N5 ((B, W.listOf #[Value.int ((c5' : Nat) : Int) t5, Value.ref C] cn5) :: [(L + 1, o1), (L + 1 + 1 + 1 + 1 + 1, o5), (L + 1 + 1 + 1 + 1, o4), (L + 1 + 1 + 1, o3), (L + 1 + 1, o2), (C, lst ys)]) (by simp only [List.forall_mem_cons]; simp) off trivial ⟨c5', cn5, t5, ms ++ [k], rfl, ?_, ?_, ?_, by omega⟩
    · rw [List.length_append, hyl2]; rfl
    · rw [castZ_append]; exact hms.append (.cons _ _ .nil)
    · intro m hm
      rcases List.mem_append.mp hm with hm | hm
      · exact hmb m hm
      · rw [List.mem_singleton.mp hm]; exact hk
  case fin =>
    rintro yy nx ⟨c', cn', t', ms, rfl, hyl2, hms, hmb, hcc⟩
    intro D2 h3 tk3 F3 N3 off
    clear F N
    ktr_unf
    refine Stop.mk ?_
    simp only [Off1] at off
    obtain ⟨fB, f1, f5, f4, f3, f2, fC, -⟩ := off
    refine st_cell (news' := [(B, W.listOf #[Value.int ((c' : Nat) : Int) t', Value.ref C] cn'), (L + 1, o1), (L + 1 + 1 + 1 + 1 + 1, o5), (L + 1 + 1 + 1 + 1, o4), (L + 1 + 1, o2), (C, lst ys), (D2, lst yy)]) F3 N3 (by rfl) (by simp) d3 ?_ ?_ (by rfl) (by rfl)
    · simp only [List.forall_mem_cons]
      refine ⟨⟨by simp, Ne.symm b3⟩, ⟨by simp, ?_⟩, ⟨by simp, ?_⟩, ⟨by simp, ?_⟩, ⟨by simp, ?_⟩, ⟨by simp, Ne.symm c3⟩, ⟨by simp, Ne.symm f3⟩, fun _ h => nomatch h⟩
      all_goals (intro e; replace e : (_ : Nat) = _ := e; omega)
    intro h5 o' F5 N5 d'
    have N6 := sub (l' := [(B, W.listOf #[Value.int ((c' : Nat) : Int) t', Value.ref C] cn'), (L + 1, o1), (L + 1 + 1 + 1 + 1 + 1, o5), (L + 1 + 1 + 1 + 1, o4), (L + 1 + 1 + 1, o'), (L + 1 + 1, o2), (C, lst ys), (D2, lst yy)]) N5 (by simp only [List.forall_mem_cons]; simp)
    refine law3 X T ?hA ?hd ?hu hzs hyl hw hw7 hn (by omega) hms hyl2 hmb rfl rfl F5 N6 ?_ ?_ d1 d2 d' d4 d5
    case hA => rfl
    case hd => exact hd
    case hu => exact hu
    · simp only [List.forall_mem_cons]
      exact ⟨b1, b5, b4, b3, b2, bC, Ne.symm fB, fun _ h => nomatch h⟩
    · simp only [List.forall_mem_cons]
      exact ⟨f1, f5, f4, f3, f2, fun _ h => nomatch h⟩

theorem law1 {w : World} {A : Around} {s : Shared} {mean : ExcName → Option Value} {mg mb : Str → Option Value} {L f B C : Addr} {cdv : Value} {ys : List Value} {zs : List Int} {h : Heap} {tk cn : Nat} {t0 : Tok} {m : Str → Option Value} {o1 o2 o3 o4 o5 : Obj} {env : Env} {body : List Stmt}
    (X : (Mine.hd.heap_39 w.params).In s.heap) (T : Top Mine.hd.view_39 (looseW Mine.hd.view_39 []) mean mg mb s.heap)
    (hA : A.handled = none) (hd : A.depth < 800) (hu : A.units ≤ 9000) (hzs : IntsAre ys zs) (hyl : ys.length ≤ 60)
    (he : env = envOfC (Str.ofString "law") lawScope L f cdv) (hb : body = lawBody.drop 1)
    (F : Fr s.heap L h m) (N : News s.heap L h [(L + 1, o1), (L + 1 + 1 + 1 + 1 + 1, o5), (L + 1 + 1 + 1 + 1, o4), (L + 1 + 1 + 1, o3), (L + 1 + 1, o2), (B, W.listOf #[Value.int 0 t0, Value.ref C] cn), (C, lst ys)])
    (hBL : L + 1 + 1 + 1 + 1 + 1 < B) (hCL : ∀ p ∈ [L + 1, L + 1 + 1 + 1 + 1 + 1, L + 1 + 1 + 1 + 1, L + 1 + 1 + 1, L + 1 + 1], p ≠ C) (hCB : C ≠ B)
    (d1 : o1.data = .cell (some (.ref B))) (d2 : o2.data = .cell none) (d3 : o3.data = .cell none) (d4 : o4.data = .cell none) (d5 : o5.data = .cell none) :
    wpAny (model PySem.Challenge.rw_rr0052_01.row.prog w) (A.deeper env) (execs body env) (fun fl s' => fl = .ret (.bool true) ∧ Keeps s s') NoE { s with heap := h, toks := tk } := by
  obtain ⟨ahd, adp, afr, agd, aun⟩ := A
  obtain rfl : ahd = none := hA
  replace hd : adp < 800 := hd
  revert X; k_fill; intro X
  conv at hb => rhs; whnf
  subst hb
  conv at he => rhs; arg 2; whnf
  subst he
  replace hBL : @LT.lt Nat _ (@HAdd.hAdd Nat Nat Nat _ L 5) B := hBL
  have hcB : ∀ p ∈ [(L + 1, o1), (L + 1 + 1 + 1 + 1 + 1, o5), (L + 1 + 1 + 1 + 1, o4), (L + 1 + 1 + 1, o3), (L + 1 + 1, o2), (C, lst ys)], p.1 ≠ B := by
    simp only [List.forall_mem_cons]
    refine ⟨?_, ?_, ?_, ?_, ?_, hCB, fun _ h => nomatch h⟩ <;> (intro e; replace e : (_ : Nat) = _ := e; omega)
  have N2 := sub (l' := (B, W.listOf #[Value.int ((0 : Nat) : Int) t0, Value.ref C] cn) :: [(L + 1, o1), (L + 1 + 1 + 1 + 1 + 1, o5), (L + 1 + 1 + 1 + 1, o4), (L + 1 + 1 + 1, o3), (L + 1 + 1, o2), (C, lst ys)]) N (by simp only [List.forall_mem_cons]; simp)
  clear N
  ktr_unf
  refine Stop.mk ?_
  refine use (picked_N (M := 6) X T ?hA ?hd hzs hyl F N2 hcB (by simp) (by omega) (by decide) (by decide)) ?_
  case hA => rfl
  case hd => show adp + 1 < 870; omega
  rintro r s' ⟨k1, u1, h3, tk3, t3, cn3, rfl, hk1, rfl, F3, N3⟩
  clear F N2
  ktr_unf
  refine Stop.mk ?_
  refine use (picked_N (M := 8) X T ?hA ?hd hzs hyl F3 N3 hcB (by simp) (by omega) (by decide) (by decide)) ?_
  case hA => rfl
  case hd => show adp + 1 < 870; omega
  rintro r s' ⟨k2, u2, h4, tk4, t4, cn4, rfl, hk2, rfl, F4, N4⟩
  clear F3 N3
  ktr_unf
  refine Stop.mk ?_
  rename Fr _ _ _ _ => F5
  rename News _ _ _ _ => N5
  have e1 : (2 : Int) + ((k1 : Nat) : Int) = ((2 + k1 : Nat) : Int) := by omega
  rw [e1]
  refine st_cell (news' := [(B, W.listOf #[Value.int ((2 : Nat) : Int) t4, Value.ref C] cn4), (L + 1, o1), (L + 1 + 1 + 1 + 1 + 1, o5), (L + 1 + 1 + 1 + 1, o4), (L + 1 + 1 + 1, o3), (C, lst ys)]) F5 N5 (by rfl) (by simp) d2 ?_ ?_ (by rfl) (by rfl)
  · simp only [List.forall_mem_cons]
    have hC2 := hCL (L + 1 + 1) (by simp)
    refine ⟨⟨by simp, ?_⟩, ⟨by simp, ?_⟩, ⟨by simp, ?_⟩, ⟨by simp, ?_⟩, ⟨by simp, ?_⟩, ⟨by simp, ?_⟩, fun _ h => nomatch h⟩
    all_goals first | exact Ne.symm hC2 | (intro e; replace e : (_ : Nat) = _ := e; omega)
  clear F5 N5
  intro h5 o2' F5 N5 d2'
  dsimp only
  walk1
  walk1
  walk1
  walk1
  rename Fr _ _ _ _ => F6
  rename News _ _ _ _ => N6
  have F7 := F6
  rw [← kst_all (m := fun y => if y = Str.ofString "many" then some (Value.int ((k2 : Nat) : Int) u2) else m y) (ps := [(Str.ofString "many", .int ((k2 : Nat) : Int) u2)]) ⟨rfl, trivial⟩] at F7
  have N7 := sub (l' := [(B, W.listOf #[Value.int ((2 : Nat) : Int) t4, Value.ref C] cn4), (L + 1, o1), (L + 1 + 1 + 1 + 1 + 1, o5), (L + 1 + 1 + 1 + 1, o4), (L + 1 + 1 + 1, o3), (L + 1 + 1, o2'), (C, lst ys)]) N6 (by simp only [List.forall_mem_cons]; simp)
  refine law2 X T ?hA ?hd ?hu hzs hyl (by omega) (by omega) (by omega) rfl rfl F7 N7 ?_ hCL d1 d2' d3 d4 d5
  case hA => rfl
  case hd => exact hd
  case hu => exact hu
  simp only [List.forall_mem_cons] at hcB ⊢
  exact ⟨hcB.1, hcB.2.1, hcB.2.2.1, hcB.2.2.2.1, hcB.2.2.2.2.1, hcB.2.2.2.2.2.1, fun _ h => nomatch h⟩
end Mine
end
section
open PySem PySem.W PyProof.Rows PySem.Calls PySem.Spec
open PyProof.Rows.LCg
set_option maxRecDepth 100000
set_option maxHeartbeats 1000000
namespace Mine
local macro_rules | `(tactic| walk_at "pad") => `(tactic| fail "pad")
local macro_rules | `(tactic| walk_at "pad") => `(tactic| fail "pad")
local macro_rules | `(tactic| walk_at "pad") => `(tactic| fail "pad")
local macro_rules | `(tactic| walk_at "pad") => `(tactic| fail "pad")
local macro_rules | `(tactic| walk_at "pad") => `(tactic| fail "pad")
local macro_rules | `(tactic| walk_at "pad") => `(tactic| fail "pad")
local macro_rules | `(tactic| walk_at "pad") => `(tactic| fail "pad")
local macro_rules | `(tactic| walk_at "pad") => `(tactic| fail "pad")
local macro_rules | `(tactic| walk_at "pad") => `(tactic| fail "pad")
local macro_rules | `(tactic| walk_at "pad") => `(tactic| fail "pad")
local macro_rules | `(tactic| walk_at "pad") => `(tactic| fail "pad")
local macro_rules | `(tactic| walk_at "pad") => `(tactic| fail "pad")
local macro_rules | `(tactic| walk_at "pad") => `(tactic| fail "pad")
local macro_rules | `(tactic| walk_at "binaryOp Pow int int") => `(tactic| (refine PyProof.Rows.pow_int_small (by first | with_reducible assumption | omega) (by first | with_reducible assumption | omega) (by decide) ?_))
local macro_rules | `(tactic| walk_at "eval Name") => `(tactic| ((with_reducible show wpAny _ _ (eval (Expr.Name _ _) (compEnvC _ _ _ _)) _ _ _); k_dflt (refine nm_local (by with_reducible assumption) (by rfl) ?_ (by rfl) (by rfl) (by decide))))
local macro_rules | `(tactic| walk_at "subscriptTail") => `(tactic| ((with_reducible show wpAny _ _ (subscriptTail _ _ (Value.ref _) (Value.int _ _)) _ _ _); k_dflt (first | refine item_at (by with_reducible assumption) (by with_reducible assumption) (by with_reducible assumption) (by first | with_reducible assumption | omega) ?_ | refine item_at1 (by with_reducible assumption) (by with_reducible assumption) (by with_reducible assumption) (by first | with_reducible assumption | omega) ?_)))
local macro_rules | `(tactic| walk_at "subscriptTail Name Name ref int") => `(tactic| ((with_reducible show wpAny _ _ (subscriptTail _ _ (Value.ref _) (Value.int _ _)) _ _ _); k_dflt (first | refine item_at (by with_reducible assumption) (by with_reducible assumption) (by with_reducible assumption) (by first | with_reducible assumption | omega) ?_ | refine item_at1 (by with_reducible assumption) (by with_reducible assumption) (by with_reducible assumption) (by first | with_reducible assumption | omega) ?_)))
local macro_rules | `(tactic| walk_at "subscriptTail Name BinOp ref int") => `(tactic| ((with_reducible show wpAny _ _ (subscriptTail _ _ (Value.ref _) (Value.int _ _)) _ _ _); k_dflt (first | refine item_at (by with_reducible assumption) (by with_reducible assumption) (by with_reducible assumption) (by first | with_reducible assumption | omega) ?_ | refine item_at1 (by with_reducible assumption) (by with_reducible assumption) (by with_reducible assumption) (by first | with_reducible assumption | omega) ?_)))
local macro_rules | `(tactic| walk_at "subscriptTail Name UnaryOp ref int") => `(tactic| ((with_reducible show wpAny _ _ (subscriptTail _ _ (Value.ref _) (Value.int _ _)) _ _ _); k_dflt (first | refine item_last (News.isList (by k_asm) (by k_mem)) (by with_reducible assumption) (by decide) ?_ | refine item_last (by with_reducible assumption) (by with_reducible assumption) (by decide) ?_)))
local macro_rules | `(tactic| walk_at "subscriptTail Name Constant ref int") => `(tactic| ((with_reducible show wpAny _ _ (subscriptTail _ _ (Value.ref _) (Value.int _ _)) _ _ _); k_dflt (refine item_zero (by with_reducible assumption) (by with_reducible assumption) ?_)))
local macro_rules | `(tactic| walk_at "call builtin:list.append") => `(tactic| ((with_reducible show wpAny _ _ (call (Value.builtin _) [Value.ref _, _]) _ _ _); k_dflt (refine' append_K ?k1 ?k2 (Upd.head ?k3) ?_ ?z; (case k1 => k_asm); (case k2 => k_asm); (case k3 => first | assumption | exact List.forall_mem_nil _); (case z => first | assumption | size_fits)); intro h' F' N'; (try k_sweep)))
local macro_rules | `(tactic| walk_at "call builtin:len") => `(tactic| ((with_reducible show wpAny _ _ (call (Value.builtin "len") [Value.ref _]) _ _ _); k_dflt (first | refine len_at (by with_reducible assumption) (by with_reducible assumption) (by with_reducible assumption) (by omega) ?_ | refine len_at1 (by with_reducible assumption) (by with_reducible assumption) (by with_reducible assumption) (by omega) ?_ | refine len_at1 (by with_reducible assumption) (News.isList (by k_asm) (by k_mem)) (by with_reducible assumption) (by omega) ?_)))
local macro_rules | `(tactic| walk_at "storeName") => `(tactic| ((with_reducible show wpAny _ _ (storeName (envOfC _ _ _ _ _) _ _) _ _ _); first | (k_here; k_dflt (refine' storeX_L ?F ?N ?_ ?a ?b; (case F => k_asm); (case N => k_asm); (case a => rfl); (case b => rfl); k_whole; intro h' F' N'; (try k_sweep))) | refine Stop.of ?_))
local macro_rules | `(tactic| walk_at "pyIter ref") => `(tactic| ((with_reducible show wpAny _ _ (pyIter (Value.ref _)) _ _ _); refine Stop.of ?_))
local macro_rules | `(tactic| walk_at "execs cons Assign cons") => `(tactic| (refine wpAny_execs_cons ?_))
local macro_rules | `(tactic| walk_at "execs cons") => `(tactic| (refine wpAny_execs_cons ?_))
local macro_rules | `(tactic| walk_at "subscriptTail Name Slice ref ref") => `(tactic| (refine Stop.of ?_))
local macro_rules | `(tactic| walk_at "binaryOp Add ref ref") => `(tactic| (refine Stop.of ?_))
local macro_rules | `(tactic| walk_at "call ref") => `(tactic| (refine Stop.of ?_))
local macro_rules | `(tactic| walk_at "call type:enumerate") => `(tactic| (refine Stop.of ?_))
local macro_rules | `(tactic| walk_at "call type:range") => `(tactic| (refine Stop.of ?_))
local macro_rules | `(tactic| walk_at "call builtin:sum") => `(tactic| (refine Stop.of ?_))
local macro_rules | `(tactic| walk_at "exec If") => `(tactic| (refine Stop.of ?_))
local macro_rules | `(tactic| walk_at "eval ListComp") => `(tactic| (refine Stop.of ?_))
local macro_rules | `(tactic| walk_at "exec Assign cons ListComp") => `(tactic| (refine Stop.of ?_))
local macro_rules | `(tactic| walk_at "exec For Name Name cons nil") => `(tactic| (refine Stop.of ?_))
local macro_rules | `(tactic| walk_at "exec For Name Call cons nil") => `(tactic| (refine Stop.of ?_))
local macro_rules | `(tactic| walk_at "exec For Name Subscript cons nil") => `(tactic| (refine Stop.of ?_))
local macro_rules | `(tactic| walk_at "exec While Compare cons nil") => `(tactic| (refine Stop.of ?_))
local macro_rules | `(tactic| walk_at "exec While Compare") => `(tactic| (refine Stop.of ?_))
local macro_rules | `(tactic| ktr_unf) => `(tactic| (w_top off; repeat' (first | ((with_reducible show wpAny _ _ _ _ _ _); walk1) | ((with_reducible show ite _ _ _); walk1) | (dsimp only; (with_reducible show wpAny _ _ _ _ _ _); walk1) | (dsimp only; (with_reducible show ite _ _ _); walk1) | ((with_reducible show Frag.In _ _ ∧ _); refine ⟨by k_in, ?_⟩; try dsimp only [List.nil_append, List.cons_append]))))


theorem law_body {w : World} {A : Around} {s : Shared} {mean : ExcName → Option Value} {mg mb : Str → Option Value} {a L f : Addr} {cdv : Value} {vs : List Value} {ns : List Int} {h₁ : Heap} {tk : Nat} {m₀ : Str → Option Value} {o1 o2 o3 o4 o5 : Obj} {env : Env} {body : List Stmt}
    (X : (Mine.hd.heap_39 w.params).In s.heap) (T : Top Mine.hd.view_39 (looseW Mine.hd.view_39 []) mean mg mb s.heap)
    (hA : A.handled = none) (hd : A.depth < 800) (hu : A.units ≤ 9000) (hl : s.heap.IsList a vs.toArray) (hi : IntsAre vs ns) (hlen : ns.length ≤ 63)
    (he : env = envOfC (Str.ofString "law") lawScope L f cdv) (hb : body = lawBody)
    (F₀ : Fr s.heap L h₁ m₀) (hm₀ : m₀ (Str.ofString "script") = some (.ref a)) (N : News s.heap L h₁ [(L + 1 + 1 + 1 + 1 + 1, o5), (L + 1 + 1 + 1 + 1, o4), (L + 1 + 1 + 1, o3), (L + 1 + 1, o2), (L + 1, o1)])
    (d1 : o1.data = .cell none) (d2 : o2.data = .cell none) (d3 : o3.data = .cell none) (d4 : o4.data = .cell none) (d5 : o5.data = .cell none) :
    wpAny (model PySem.Challenge.rw_rr0052_01.row.prog w) (A.deeper env) (execs body env) (fun fl s' => fl = .ret (.bool true) ∧ Keeps s s') NoE { s with heap := h₁, toks := tk } := by
  obtain ⟨ahd, adp, afr, agd, aun⟩ := A
  obtain rfl : ahd = none := hA
  replace hd : adp < 800 := hd
  revert X; k_fill; intro X
  conv at hb => rhs; whnf
  subst hb
  conv at he => rhs; arg 2; whnf
  subst he
  have F : Fr s.heap L h₁ (kstB m₀ [(Str.ofString "script", .ref a)]) := by rw [kst_all (ps := [(Str.ofString "script", .ref a)]) ⟨hm₀, trivial⟩]; exact F₀
  clear F₀ hm₀
  have hvl : vs.length ≤ 63 := by rw [hi.length]; exact hlen
  have hlL := not_local F hl
  ktr_unf
  refine Stop.mk ?_
  refine LCg.ListComp_U (F₀ := F) (by rfl) (by decide) (by rfl) (by decide) (by rfl) ?_
  ktr_unf
  refine Stop.mk ?_
  refine slice_any (ws := vs.take 60) F N (hl.at fun o e => F.keep _ _ e) .none (.int _ _) (pick_upto vs 60 _ rfl) (by omega) fun D h2 F2 N2 => ?_
  clear F N
  ktr_unf
  have hi60 : IntsAre (vs.take 60) (ns.take 60) := hi.take 60
  refine CompSrc.ledger rfl F2 N2 (.head _) (by rw [List.size_toArray, List.length_take, sizeLine_eq]; omega) fun g => ?_
  refine restOf _ (fun i ys nx => nx = [(D, W.listOf (List.take 60 vs).toArray 0), (L + 1 + 1 + 1 + 1 + 1, o5), (L + 1 + 1 + 1 + 1, o4), (L + 1 + 1 + 1, o3), (L + 1 + 1, o2), (L + 1, o1)] ∧ ys.length = i ∧ ∃ zs, IntsAre ys zs) ?turn ?fin _ 0 [] _ (Nat.zero_add _) ⟨rfl, rfl, [], .nil⟩
  case turn =>
    rintro i ys nx v I oI C oC D2 m₂ h tk2 hi1 ⟨rfl, hyl, zs, hzs⟩ hv hC hx F3 N3 off ne
    obtain ⟨n, t, rfl, _⟩ := hi60.at i v (by simpa using hv)
    clear F2 N2
    ktr_unf
    refine CompEnd.intro F3 N3 _ (fun p hp => hp) off (.inr ⟨_, .head _, rfl, _, rfl⟩) ⟨rfl, ?_, zs ++ [_], hzs.append (.cons _ _ .nil)⟩
    rw [List.length_append, hyl]; rfl
  case fin =>
    rintro ys nx ⟨rfl, hyl, zs, hzs⟩
    intro D2 h3 tk3 F3 N3 off
    clear F2 N2
    ktr_unf
    refine Stop.mk ?_
    rename Fr _ _ _ _ => F4
    rename News _ _ _ _ => N4
    rename _ ∧ _ => l1
    rename Addr => B
    simp only [Off1] at off
    obtain ⟨l11, l12, l13, l14, l15, l16, l17⟩ := l1
    obtain ⟨off1, off2, off3, off4, off5, off6, -⟩ := off
    refine st_cell (news' := [(L + 1 + 1 + 1 + 1 + 1, o5), (L + 1 + 1 + 1 + 1, o4), (L + 1 + 1 + 1, o3), (L + 1 + 1, o2), (B, W.listOf #[Value.int 0 tk, Value.ref D2] 0), (D2, lst ys)]) F4 N4 (by rfl) (by simp) d1 ?_ ?_ (by rfl) (by rfl)
    · clear N4 F4
      simp only [List.forall_mem_cons]
      refine ⟨⟨by simp, ?_⟩, ⟨by simp, ?_⟩, ⟨by simp, ?_⟩, ⟨by simp, ?_⟩, ⟨by simp, ?_⟩, ⟨by simp, ?_⟩, fun _ h => nomatch h⟩
      all_goals first | exact Ne.symm off6 | (intro e; replace e : (_ : Nat) = _ := e; omega)
    intro h5 o' F5 N5 d'
    refine law1 X T ?hA ?hd ?hu hzs (by rw [hyl, List.size_toArray, List.length_take]; omega) rfl rfl F5 N5 l13 ?_ (Nat.ne_of_lt l11) d' d2 d3 d4 d5
    case hA => rfl
    case hd => exact hd
    case hu => exact hu
    simp only [List.forall_mem_cons]
    exact ⟨off6, off2, off3, off4, off5, fun _ h => nomatch h⟩
end Mine
end
open PySem PySem.W PyProof.Rows PySem.Calls PySem.Spec
set_option maxRecDepth 100000 in
set_option maxHeartbeats 8000000 in
theorem PySem.Challenge.cw_rr0052_01_holds : PySem.Challenge.rw_rr0052_01.Holds := by
  exact Mine.hd (by
  k_go0
  rename Fr _ _ _ _ => F
  refine wpAny_mono (Mine.law_body (s := _) (by assumption) (by assumption) rfl (by decide) (by decide) (by assumption) (by assumption) ?len rfl rfl F rfl (by assumption) ?d1 ?d2 ?d3 ?d4 ?d5) ?good ?bad
  case len => omega
  case d1 => assumption
  case d2 => assumption
  case d3 => assumption
  case d4 => assumption
  case d5 => assumption
  case good =>
    rintro fl s' ⟨rfl, h', tk', rfl, hk⟩
    refine ⟨.inl ⟨.bool true, .bool true, [], rfl, ?_, .bool true, ?_, ?_⟩, hk, rfl, by assumption⟩
    · intro cls; rfl
    · wrow_post
    · intro _; exact ⟨.nil, fun _ ha => nomatch ha⟩
  case bad => exact fun _ _ h => h.elim)
