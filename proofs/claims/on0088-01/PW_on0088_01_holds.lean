import PyProof.Rows.All
import Wide.All
import OpenK.AllK
import KE.RegLcTurns
import KE.LcSums
import Wide.FinOn
import PySem.Challenge.RW_on0088_01
open PySem PySem.W PySem.Calls PyProof.Rows
set_option Elab.async false
set_option maxRecDepth 100000
set_option maxHeartbeats 40000000
/-! part HeadA -/
namespace Mine
open_top hd for PySem.Challenge.rw_on0088_01
end Mine

/-! part Base -/
namespace Mine

def Room (A : Around) (n : Nat) : Prop := A.handled = none ∧ A.depth + n < recursionLimit ∧ A.units + 100 * n < cLine
theorem Room.deeper {A : Around} {n : Nat} {env : Env} (h : Room A (n + 1)) : Room (A.deeper env) n :=
  ⟨h.1, by have := h.2.1; show A.depth + 1 + n < _; omega, by have := h.2.2; show A.units + 3 + 100 * n < _; omega⟩
theorem Room.le {A : Around} {n m : Nat} (h : Room A n) (hm : m ≤ n) : Room A m :=
  ⟨h.1, by have := h.2.1; omega, by have := h.2.2; omega⟩
theorem Room.lt {A : Around} {n : Nat} (h : Room A n) : A.depth < recursionLimit := by have := h.2.1; omega

theorem enter {prog : Program} {w : World} {A : Around} {s : Shared} {K : Frag} {p : Program} {loose : List Str} {mean : ExcName → Option Value} {mg mb : Str → Option Value}
    {R : Result → Shared → Prop} {name qual : Str} {params : Arguments} {body : List Stmt} {scope : Scope} {dV kV doc pm cdv ct oc : Value} {an od : Option Addr} {osl : Array (Option Value)} {f : Addr} {args : Args} {n : Nat}
    (binds : List (Str × Value))
    (X : K.In s.heap) (T : Top p loose mean mg mb s.heap) (hroom : Room A (n + 1))
    (ho : K.lookup f = some ⟨oc, od, .func (fnOf name qual params body scope dV kV doc pm an cdv ct), osl⟩) (hcd : codeIn K cdv qual = true)
    (hbind : BindsTo s (fnOf name qual params body scope dV kV doc pm an cdv ct) args binds) (hloc : ∀ y ∈ binds, scope.names.lookup y.1 = some .local)
    (h : ∀ L' h₁, Fr s.heap L' h₁ (fun y => binds.reverse.lookup y) → News s.heap L' h₁ [] → Room (A.deeper (envOf qual scope L' f cdv)) n →
      wpAny (model prog w) (A.deeper (envOf qual scope L' f cdv)) (execs body (envOf qual scope L' f cdv))
        (fun fl s' => R (.ok (.ret (match fl with | .ret v => v | _ => .none))) s') (fun _ _ => False)
        { s with heap := h₁, toks := s.toks + binds.length })
    (hco : scope.isCoroutine = false) (hgen : scope.isGenerator = false) (hk : scope.kind = .function)
    (hcell : ∀ x ∈ scope.names, x.2 ≠ .cell) : codeAny (model prog w) A (.call (.ref f) args) R s := by
  refine codeAny_call_def (fd := fnOf name qual params body scope dV kV doc pm an cdv ct) (body := body) (binds := binds) hroom.lt (X _ _ ho) rfl T.nolimit (codeRec_of X hcd) rfl hbind hcell hloc (fun h₁ hns hk₁ => ?_) hco hgen hk
  exact wpAny_mono (h s.heap.objs.size h₁ ⟨hns, hk₁, Nat.le_refl _⟩ News.nil hroom.deeper) (fun _ _ x => x) (fun _ _ x => x.elim)

def Ext (h h' : Heap) : Prop := ∀ b o, h.get? b = some o → h'.get? b = some o

/-- the fixed facts of the place -/
def Here (w : World) (h : Heap) : Prop := ∃ (mean : ExcName → Option Value) (mg mb : Str → Option Value), (hd.heap_39 w.params).In h ∧ Top hd.view_39 (looseW hd.view_39 []) mean mg mb h
theorem Here.keeps {w : World} {h h' : Heap} (P : Here w h) (k : ∀ b o, h.get? b = some o → h'.get? b = some o) : Here w h' :=
  let ⟨mean, mg, mb, X, T⟩ := P
  ⟨mean, mg, mb, X.keeps k, T.keeps k⟩


theorem bAnd (a b : Nat) : Builtin.bitAnd (a : Int) (b : Int) = ((a &&& b : Nat) : Int) := by
  rw [bitAnd_pp (by omega) (by omega)]; rfl
theorem bOr (a b : Nat) : Builtin.bitOr (a : Int) (b : Int) = ((a ||| b : Nat) : Int) := by
  unfold Builtin.bitOr
  rw [bitAnd_nn (by unfold Builtin.bitNot; omega) (by unfold Builtin.bitNot; omega)]
  have h : ∀ x : Int, Builtin.bitNot (Builtin.bitNot x) = x := fun x => by unfold Builtin.bitNot; omega
  rw [h, h, h]; rfl
theorem or_eq_xor_add_and : ∀ a b : Nat, (a ||| b) = (a ^^^ b) + (a &&& b) := by
  intro a
  induction a using Nat.strongRecOn with
  | _ a ih =>
    intro b
    by_cases ha : a = 0
    · subst ha; simp
    · have h := ih (a / 2) (by omega) (b / 2)
      rw [← Nat.or_div_two, ← Nat.xor_div_two, ← Nat.and_div_two] at h
      have e1 : (a ||| b) % 2 = (a % 2 ||| b % 2) := by
        have := Nat.or_mod_two_pow (a := a) (b := b) (n := 1); simpa using this
      have e2 : (a ^^^ b) % 2 = (a % 2 ^^^ b % 2) := by
        have := Nat.xor_mod_two_pow (a := a) (b := b) (n := 1); simpa using this
      have e3 : (a &&& b) % 2 = (a % 2 &&& b % 2) := by
        have := Nat.and_mod_two_pow (a := a) (b := b) (n := 1); simpa using this
      have m : (a % 2 ||| b % 2) = (a % 2 ^^^ b % 2) + (a % 2 &&& b % 2) := by
        rcases Nat.mod_two_eq_zero_or_one a with h1 | h1 <;> rcases Nat.mod_two_eq_zero_or_one b with h2 | h2 <;> rw [h1, h2] <;> decide
      omega
theorem bXor (a b : Nat) : Builtin.bitXor (a : Int) (b : Int) = ((a ^^^ b : Nat) : Int) := by
  unfold Builtin.bitXor
  rw [bOr, bAnd, or_eq_xor_add_and]; omega

section
variable {prog : Program} {w : World} {A : Around} {E : Value → Shared → Prop} {s : Shared} {Q : Value → Shared → Prop} {a b n : Nat} {t u : Tok}
theorem and_N (h : ∀ t', Q (.int ((a &&& b : Nat) : Int) t') { s with toks := s.toks + 1 }) : wpAny (model prog w) A (binaryOp .BitAnd (.int (a : Int) t) (.int (b : Int) u)) Q E s :=
  and_int (bAnd a b ▸ h _)
theorem and1_N (h : ∀ t', Q (.int ((a % 2 : Nat) : Int) t') { s with toks := s.toks + 1 }) : wpAny (model prog w) A (binaryOp .BitAnd (.int (a : Int) t) (.int 1 u)) Q E s := by
  refine and_int ?_
  have e : Builtin.bitAnd (a : Int) 1 = ((a % 2 : Nat) : Int) := (bAnd a 1).trans (by rw [Nat.and_one_is_mod])
  rw [e]; exact h _
theorem or_N (h : ∀ t', Q (.int ((a ||| b : Nat) : Int) t') { s with toks := s.toks + 1 }) : wpAny (model prog w) A (binaryOp .BitOr (.int (a : Int) t) (.int (b : Int) u)) Q E s :=
  or_int (bOr a b ▸ h _)
theorem ior_N (h : ∀ t', Q (.int ((a ||| b : Nat) : Int) t') { s with toks := s.toks + 1 }) : wpAny (model prog w) A (inplaceOp .BitOr (.int (a : Int) t) (.int (b : Int) u)) Q E s :=
  ior_int (bOr a b ▸ h _)
theorem xor_N (h : ∀ t', Q (.int ((a ^^^ b : Nat) : Int) t') { s with toks := s.toks + 1 }) : wpAny (model prog w) A (binaryOp .BitXor (.int (a : Int) t) (.int (b : Int) u)) Q E s :=
  xor_int (bXor a b ▸ h _)
theorem shl_N (hn : n ≤ 1000000) (ha : a < 2 ^ 64) (h : ∀ t', Q (.int ((a <<< n : Nat) : Int) t') { s with toks := s.toks + 1 }) : wpAny (model prog w) A (binaryOp .LShift (.int (a : Int) t) (.int (n : Int) u)) Q E s := by
  refine lshift_int_small (by omega) (by omega) (by omega) ?_
  have e : (a : Int) * 2 ^ (n : Int).toNat = ((a <<< n : Nat) : Int) := by rw [Nat.shiftLeft_eq]; simp
  rw [e]; exact h _
theorem shl1_N (hn : n ≤ 1000000) (h : ∀ t', Q (.int ((2 ^ n : Nat) : Int) t') { s with toks := s.toks + 1 }) : wpAny (model prog w) A (binaryOp .LShift (.int 1 t) (.int (n : Int) u)) Q E s := by
  refine lshift_int_small (by omega) (by omega) (by decide) ?_
  have e : (1 : Int) * 2 ^ (n : Int).toNat = ((2 ^ n : Nat) : Int) := by simp
  rw [e]; exact h _
theorem shr_N (h : ∀ t', Q (.int ((a >>> n : Nat) : Int) t') { s with toks := s.toks + 1 }) : wpAny (model prog w) A (binaryOp .RShift (.int (a : Int) t) (.int (n : Int) u)) Q E s := by
  refine rshift_int (by omega) ?_
  have e : (a : Int).fdiv (2 ^ (n : Int).toNat) = ((a >>> n : Nat) : Int) := by
    rw [Nat.shiftRight_eq_div_pow, Int.fdiv_eq_ediv_of_nonneg _ (by exact Int.pow_nonneg (by decide))]; simp
  rw [e]; exact h _
theorem sub1_N (ha : 1 ≤ a) (h : ∀ t', Q (.int ((a - 1 : Nat) : Int) t') { s with toks := s.toks + 1 }) : wpAny (model prog w) A (binaryOp .Sub (.int (a : Int) t) (.int 1 u)) Q E s := by
  refine PyProof.Rows.sub_int ?_
  have e : (a : Int) - 1 = ((a - 1 : Nat) : Int) := by omega
  rw [e]; exact h _
theorem add1_N (h : ∀ t', Q (.int ((a + 1 : Nat) : Int) t') { s with toks := s.toks + 1 }) : wpAny (model prog w) A (binaryOp .Add (.int (a : Int) t) (.int 1 u)) Q E s :=
  PyProof.Rows.add_int (h _)
theorem iadd_N (h : ∀ t', Q (.int ((a + b : Nat) : Int) t') { s with toks := s.toks + 1 }) : wpAny (model prog w) A (inplaceOp .Add (.int (a : Int) t) (.int (b : Int) u)) Q E s :=
  PyProof.Rows.iadd_int (h _)
theorem fdiv_N (hb : 0 < b) (hb' : b < 1073741824) (h : ∀ t', Q (.int ((a / b : Nat) : Int) t') { s with toks := s.toks + 1 }) : wpAny (model prog w) A (binaryOp .FloorDiv (.int (a : Int) t) (.int (b : Int) u)) Q E s := by
  refine floordiv_int (by omega) ?_ (Or.inl (PyProof.noPylong_small (by omega)))
  have e : (a : Int).fdiv (b : Int) = ((a / b : Nat) : Int) := by
    rw [Int.fdiv_eq_ediv_of_nonneg _ (by omega)]; simp
  rw [e]; exact h _
end

theorem fillIt : ∀ (w : World) (h : Heap), (hd.heap_39 w.params).In h → PySem.Challenge.rw_on0088_01.row.prog = PySem.Challenge.rw_on0088_01.row.prog := by
  k_fill
  intros
  rfl
end Mine

/-! part Loops -/
namespace Mine

def Turn (h₀ : Heap) (L I : Addr) (own : List (Addr × Obj)) (J : (Str → Option Value) → List (Addr × Obj) → Prop) (s : Shared) (Q : Flow → Shared → Prop) (f : Flow) (s₂ : Shared) : Prop :=
  match f with
  | .ret v => Q (.ret v) s₂
  | .brk => Q .next s₂
  | _ => ∃ h' tk' m' nx', s₂ = { s with heap := h', toks := tk' } ∧ Fr h₀ L h' m' ∧ News h₀ L h' (nx' ++ own) ∧ (∀ p ∈ nx', p.1 ≠ I) ∧ J m' nx'
theorem Turn.go {h₀ h' : Heap} {L I : Addr} {own nx' : List (Addr × Obj)} {J : (Str → Option Value) → List (Addr × Obj) → Prop} {s : Shared} {Q : Flow → Shared → Prop} {tk' : Nat} {m' : Str → Option Value}
    (F : Fr h₀ L h' m') (N : News h₀ L h' (nx' ++ own)) (hI : ∀ p ∈ nx', p.1 ≠ I) (hJ : J m' nx') : Turn h₀ L I own J s Q .next { s with heap := h', toks := tk' } :=
  ⟨h', tk', m', nx', rfl, F, N, hI, hJ⟩

section
variable {prog : Program} {w : World} {A : Around} {E : Value → Shared → Prop} {s : Shared} {env : Env} {h₀ : Heap} {x : Str} {body : List Stmt} {Q : Flow → Shared → Prop}

theorem loop_own {I : Addr} {fp : List Addr} {n : Nat} {P : Nat → Value → Prop} {St : Nat → Heap → Prop} {m₀ : Str → Option Value} {nx₀ : List (Addr × Obj)}
    (J : Nat → (Str → Option Value) → List (Addr × Obj) → Prop)
    (W : Walks prog w A I fp [I] n P St) (hLf : env.locals ∉ fp) (hnI : h₀.get? I = none) (hnw : ∀ p ∈ nx₀, p.1 ≠ I) (hst : St 0 s.heap)
    (hlive : ∀ i h, St i h → ∃ o, h.get? I = some o)
    (F : Fr h₀ env.locals s.heap m₀) (N : News h₀ env.locals s.heap nx₀) (hj : J 0 m₀ nx₀)
    (turn : ∀ i v m₁ nx h tk own, i < n → P i v → St (i + 1) h → J i m₁ nx → (∀ p ∈ nx, p.1 ≠ I) → (∀ p ∈ own, p.1 ∈ fp) → I < h.objs.size →
      Fr h₀ env.locals h (fun y => if y = x then some v else m₁ y) → News h₀ env.locals h (nx ++ own) →
      wpAny (model prog w) A (execs body env) (Turn h₀ env.locals I own (J (i + 1)) s Q) E { s with heap := h, toks := tk })
    (done : ∀ m₁ nx h tk, J n m₁ nx → Fr h₀ env.locals h m₁ → News h₀ env.locals h nx → Q .next { s with heap := h, toks := tk }) :
    LoopAtV prog w A h₀ env x body Q E (.ref I) s := by
  refine ⟨I, fp, [I], n, P, St, m₀, nx₀, J, rfl, W, hLf, ?_, ?_, hst, F, N, hj, ?_, ?_⟩
  · intro b hb; rw [List.mem_singleton.mp hb]; exact hnI
  · intro p hp hb; exact hnw p hp (List.mem_singleton.mp hb)
  · rintro i v m₁ news₁ s₁ own ⟨hh', tk', rfl⟩ hin hP hJ hoff hown _ hall hst₁ F₁ N₁
    have N₂ : News h₀ env.locals hh' (news₁ ++ own) := fun p hp => N₁ p ((List.mem_append.mp hp).elim (fun h => List.mem_append.mpr (.inr h)) fun h => List.mem_append.mpr (.inl h))
    have hI : I < hh'.objs.size := by
      obtain ⟨o, ho⟩ := hlive _ _ hst₁
      exact Heap.lt_size ho
    refine wpAny_mono (turn i v m₁ news₁ hh' tk' own hin hP hst₁ hJ (fun p hp e => hoff p hp (by rw [e]; exact .head _)) hown hI F₁ N₂) (fun f s₂ p => ?_) fun _ _ e => e
    have fin : (∃ h' tk' m' nx', s₂ = { s with heap := h', toks := tk' } ∧ Fr h₀ env.locals h' m' ∧ News h₀ env.locals h' (nx' ++ own) ∧ (∀ p ∈ nx', p.1 ≠ I) ∧ J (i + 1) m' nx') →
        LoopStepU h₀ env.locals [I] own (J (i + 1)) { s with heap := hh', toks := tk' } .next s₂ := by
      rintro ⟨h', tk, m', nx', e, F', N', hn, hm⟩
      refine ⟨rfl, h', tk, m', nx', e, F', fun p hp => N' p ((List.mem_append.mp hp).elim (fun h => List.mem_append.mpr (.inr h)) fun h => List.mem_append.mpr (.inl h)), fun p hp hq => hn p hp (List.mem_singleton.mp hq), hm⟩
    cases f with
    | ret v => exact .ret p
    | brk => exact .brk p
    | next => exact .next (fin p)
    | cont => exact .cont (fin p)
  · rintro h' tk m' news' F' N' _ hJ
    exact done m' news' h' tk hJ F' N'

theorem for_range {r : Addr} {t₀ u₀ v₀ : Tok} {n : Nat} {m₀ : Str → Option Value} {nx₀ : List (Addr × Obj)} (J : Nat → (Str → Option Value) → List (Addr × Obj) → Prop)
    (hh : A.handled = none) (hr : IsRange s.heap r 0 (n : Int) 1 t₀ u₀ v₀) (hn : n < 2 ^ 62) (F : Fr h₀ env.locals s.heap m₀) (N : News h₀ env.locals s.heap nx₀) (hj : J 0 m₀ nx₀)
    (turn : ∀ i t m₁ nx h tk own, i < n → J i m₁ nx → (∀ p ∈ nx, p.1 ≠ s.heap.objs.size) → (∀ p ∈ own, p.1 = s.heap.objs.size) → s.heap.objs.size < h.objs.size →
      Fr h₀ env.locals h (fun y => if y = x then some (.int (i : Int) t) else m₁ y) → News h₀ env.locals h (nx ++ own) →
      wpAny (model prog w) A (execs body env) (Turn h₀ env.locals s.heap.objs.size own (J (i + 1)) s Q) E { s with heap := h, toks := tk })
    (done : ∀ m₁ nx h tk, J n m₁ nx → Fr h₀ env.locals h m₁ → News h₀ env.locals h nx → Q .next { s with heap := h, toks := tk }) :
    wpAny (model prog w) A (pyIter (.ref r)) (fun it s₂ => LoopAtV prog w A h₀ env x body Q E it s₂) E s := by
  refine wpAny_pyIter_range hr (small_one (by decide) (by decide) (by omega) (by omega)) ?_
  have hsz : Builtin.Range.rangeSize 0 (n : Int) 1 = (n : Int) := by rw [rangeSize_nat]; simp
  have W : Walks prog w A s.heap.objs.size [s.heap.objs.size] [s.heap.objs.size] n (fun i v => i < n ∧ ∃ t, v = .int (0 + i * 1) t)
      (fun i h => IsRangeIter h s.heap.objs.size (0 + (i : Nat) * 1) ((n : Int) - (i : Nat)) 1) := (Walks.range hh _ 0 1 n).bound
  refine loop_own J W ?_ (next_is_new F) ?_ (by show IsRangeIter _ _ _ _ _; rw [hsz]; simpa using Heap.get?_push_size _ rfl) (fun i h hst => ⟨_, hst⟩) (F.push _) (fun p hp => ⟨Heap.get?_push_of_some _ (N p hp).1, (N p hp).2⟩) hj ?_ ?_
  · intro hm
    exact absurd F.ns.lt ((List.mem_singleton.mp hm) ▸ Nat.lt_irrefl _)
  · intro p hp hI
    exact absurd (Heap.lt_size (N p hp).1) (hI ▸ Nat.lt_irrefl _)
  · rintro i v m₁ nx h tk own hi ⟨_, t, rfl⟩ _ hJ hoff hown hI F₁ N₁
    have e1 : (0 : Int) + (i : Int) * 1 = (i : Int) := by omega
    rw [e1] at F₁
    exact turn i t m₁ nx h tk own hi hJ hoff (fun p hp => List.mem_singleton.mp (hown p hp)) hI F₁ N₁
  · exact done

theorem for_list {l : Addr} {vs : List Value} {m₀ : Str → Option Value} {nx₀ : List (Addr × Obj)} (J : Nat → (Str → Option Value) → List (Addr × Obj) → Prop)
    (hh : A.handled = none) (hl : s.heap.IsList l vs.toArray) (hL : l ≠ env.locals) (F : Fr h₀ env.locals s.heap m₀) (N : News h₀ env.locals s.heap nx₀) (hj : J 0 m₀ nx₀)
    (turn : ∀ i v m₁ nx h tk own, vs[i]? = some v → J i m₁ nx → (∀ p ∈ nx, p.1 ≠ s.heap.objs.size) → (∀ p ∈ own, p.1 = s.heap.objs.size ∨ p.1 = l) → s.heap.objs.size < h.objs.size → h.IsList l vs.toArray →
      Fr h₀ env.locals h (fun y => if y = x then some v else m₁ y) → News h₀ env.locals h (nx ++ own) →
      wpAny (model prog w) A (execs body env) (Turn h₀ env.locals s.heap.objs.size own (J (i + 1)) s Q) E { s with heap := h, toks := tk })
    (done : ∀ m₁ nx h tk, J vs.length m₁ nx → Fr h₀ env.locals h m₁ → News h₀ env.locals h nx → Q .next { s with heap := h, toks := tk }) :
    wpAny (model prog w) A (pyIter (.ref l)) (fun it s₂ => LoopAtV prog w A h₀ env x body Q E it s₂) E s := by
  obtain ⟨ol, hol, _⟩ := id hl
  have hlt : l < s.heap.objs.size := Heap.lt_size hol
  refine wpAny_pyIter_list hl ?_
  have W := Walks.list (prog := prog) (w := w) hh s.heap.objs.size l (Nat.ne_of_lt hlt) vs.toArray
  rw [List.size_toArray] at W
  refine loop_own J W ?_ (next_is_new F) ?_ ⟨⟨_, Heap.get?_push_size _ rfl, rfl, rfl⟩, hl.at fun o e => Heap.get?_push_of_some _ e⟩ (fun i h hst => by obtain ⟨⟨o, ho, _⟩, _⟩ := hst; exact ⟨o, ho⟩) (F.push _) (fun p hp => ⟨Heap.get?_push_of_some _ (N p hp).1, (N p hp).2⟩) hj ?_ ?_
  · intro hm
    rcases List.mem_cons.mp hm with e | hm
    · exact absurd F.ns.lt (e ▸ Nat.lt_irrefl _)
    · exact hL (List.mem_singleton.mp hm).symm
  · intro p hp hI
    exact absurd (Heap.lt_size (N p hp).1) (hI ▸ Nat.lt_irrefl _)
  · rintro i v m₁ nx h tk own hi hP hst hJ hoff hown hI F₁ N₁
    refine turn i v m₁ nx h tk own (by simpa using hP) hJ hoff (fun p hp => ?_) hI hst.2 F₁ N₁
    rcases List.mem_cons.mp (hown p hp) with e | e
    · exact .inl e
    · exact .inr (List.mem_singleton.mp e)
  · exact done

theorem for_tuple {l : Addr} {vs : List Value} {m₀ : Str → Option Value} {nx₀ : List (Addr × Obj)} (J : Nat → (Str → Option Value) → List (Addr × Obj) → Prop)
    (hh : A.handled = none) (hl : IsTup s.heap l vs.toArray) (hL : l ≠ env.locals) (F : Fr h₀ env.locals s.heap m₀) (N : News h₀ env.locals s.heap nx₀) (hj : J 0 m₀ nx₀)
    (turn : ∀ i v m₁ nx h tk own, vs[i]? = some v → J i m₁ nx → (∀ p ∈ nx, p.1 ≠ s.heap.objs.size) → (∀ p ∈ own, p.1 = s.heap.objs.size ∨ p.1 = l) → s.heap.objs.size < h.objs.size → IsTup h l vs.toArray →
      Fr h₀ env.locals h (fun y => if y = x then some v else m₁ y) → News h₀ env.locals h (nx ++ own) →
      wpAny (model prog w) A (execs body env) (Turn h₀ env.locals s.heap.objs.size own (J (i + 1)) s Q) E { s with heap := h, toks := tk })
    (done : ∀ m₁ nx h tk, J vs.length m₁ nx → Fr h₀ env.locals h m₁ → News h₀ env.locals h nx → Q .next { s with heap := h, toks := tk }) :
    wpAny (model prog w) A (pyIter (.ref l)) (fun it s₂ => LoopAtV prog w A h₀ env x body Q E it s₂) E s := by
  obtain ⟨ol, hol, _⟩ := id hl
  have hlt : l < s.heap.objs.size := Heap.lt_size hol
  refine wpAny_pyIter_tuple hl ?_
  have W := Walks.tuple (prog := prog) (w := w) hh s.heap.objs.size l (Nat.ne_of_lt hlt) vs.toArray
  rw [List.size_toArray] at W
  refine loop_own J W ?_ (next_is_new F) ?_ ⟨⟨_, Heap.get?_push_size _ rfl, rfl, rfl⟩, IsTup.keeps hl fun b o e => Heap.get?_push_of_some _ e⟩ (fun i h hst => by obtain ⟨⟨o, ho, _⟩, _⟩ := hst; exact ⟨o, ho⟩) (F.push _) (fun p hp => ⟨Heap.get?_push_of_some _ (N p hp).1, (N p hp).2⟩) hj ?_ ?_
  · intro hm
    rcases List.mem_cons.mp hm with e | hm
    · exact absurd F.ns.lt (e ▸ Nat.lt_irrefl _)
    · exact hL (List.mem_singleton.mp hm).symm
  · intro p hp hI
    exact absurd (Heap.lt_size (N p hp).1) (hI ▸ Nat.lt_irrefl _)
  · rintro i v m₁ nx h tk own hi hP hst hJ hoff hown hI F₁ N₁
    refine turn i v m₁ nx h tk own (by simpa using hP) hJ hoff (fun p hp => ?_) hI hst.2 F₁ N₁
    rcases List.mem_cons.mp (hown p hp) with e | e
    · exact .inl e
    · exact .inr (List.mem_singleton.mp e)
  · exact done
end

theorem know {h₀ h : Heap} {L : Addr} {m : Str → Option Value} {y : Str} {v : Value} (F : Fr h₀ L h m) (hv : m y = some v) : Fr h₀ L h (fun z => if z = y then some v else m z) := by
  have e : (fun z => if z = y then some v else m z) = m := by
    funext z
    by_cases h : z = y
    · subst h; simp [hv]
    · simp [h]
  rw [e]; exact F
end Mine
namespace Mine
theorem int_at {m : Str → Option Value} {y : Str} {a b : Int} {t : Tok} (h : m y = some (.int a t)) (e : a = b) : ∃ t, m y = some (.int b t) := ⟨t, e ▸ h⟩

theorem enterC {prog : Program} {w : World} {A : Around} {s : Shared} {K : Frag} {p : Program} {loose : List Str} {mean : ExcName → Option Value} {mg mb : Str → Option Value}
    {R : Result → Shared → Prop} {name qual : Str} {params : Arguments} {body : List Stmt} {scope : Scope} {dV kV doc pm cdv ct oc : Value} {an od : Option Addr} {osl : Array (Option Value)} {f : Addr} {args : Args} {n : Nat}
    (binds : List (Str × Value))
    (X : K.In s.heap) (T : Top p loose mean mg mb s.heap) (hroom : Room A (n + 1))
    (ho : K.lookup f = some ⟨oc, od, .func (fnOf name qual params body scope dV kV doc pm an cdv ct), osl⟩) (hcd : codeIn K cdv qual = true)
    (hbind : BindsTo s (fnOf name qual params body scope dV kV doc pm an cdv ct) args binds)
    (hkind : (binds.all fun y => scope.names.lookup y.1 == some .local || scope.names.lookup y.1 == some .cell) = true)
    (hnd : ((cellsFrom 0 scope.names []).map (·.1)).Nodup)
    (h : ∀ L' h₁ tk cells, Fr s.heap L' h₁ (bindL (envOfC qual scope L' f cdv).kindOf binds fun _ => none) → News s.heap L' h₁ cells →
      CellsAre (bindC (envOfC qual scope L' f cdv).kindOf binds fun _ => none) (cellsFrom (L' + 1) scope.names []) cells → Room (A.deeper (envOfC qual scope L' f cdv)) n →
      wpAny (model prog w) (A.deeper (envOfC qual scope L' f cdv)) (execs body (envOfC qual scope L' f cdv))
        (fun fl s' => R (.ok (.ret (match fl with | .ret v => v | _ => .none))) s') (fun _ _ => False)
        { s with heap := h₁, toks := tk })
    (hco : scope.isCoroutine = false) (hgen : scope.isGenerator = false) (hk : scope.kind = .function) : codeAny (model prog w) A (.call (.ref f) args) R s := by
  refine codeAny_call_function hroom.lt (X _ _ ho) rfl hco hgen rfl (codeRec_of X hcd) (hbind _ _ _ _ ?_)
  refine wpAny_newFunctionEnv_cells hk (kindsX hkind _) fun env' he s' x => ?_
  subst he
  refine ⟨T.nolimit.keeps x.toInCall.keep, codeAny_func ?_⟩
  obtain ⟨h₁, tk, rfl, _⟩ := x.done
  have hk₁ := x.toInCall.keep
  obtain ⟨cells, NC, Y⟩ := Cl.news (h₀ := s.heap) (Nat.le_refl _) fun n c hm => ⟨x.cell n c (lookup_of_mem_nodup (cellsFrom_names scope.names 0 (s.heap.objs.size + 1) [] [] rfl ▸ hnd) hm), x.above n c hm⟩
  exact wpAny_mono (h s.heap.objs.size h₁ tk cells ⟨x.toInCall.ns, hk₁, Nat.le_refl _⟩ NC Y hroom.deeper) (fun _ _ x => x) (fun _ _ x => x.elim)
end Mine

/-! part Seqs -/
namespace Mine
abbrev zs (ns : List Nat) : List Int := ns.map fun n : Nat => (n : Int)
theorem zs_getD (bs : List Nat) (i : Nat) : (zs bs).getD (i : Int).toNat 0 = ((bs.getD i 0 : Nat) : Int) := by
  simp [List.getD_eq_getElem?_getD, List.getElem?_map]
  cases bs[i]? <;> simp
theorem zs_get {ns : List Nat} {i : Nat} (h : i < ns.length) : (zs ns)[i]? = some ((ns.getD i 0 : Nat) : Int) := by
  simp [List.getD_eq_getElem?_getD, h]
theorem zs_idxOf (ns : List Nat) (k : Nat) : (zs ns).idxOf (k : Int) = ns.idxOf k := by
  induction ns with
  | nil => rfl
  | cons n r ih =>
    rw [zs, List.map_cons, List.idxOf_cons, List.idxOf_cons, ih]
    have e : ((n : Int) == (k : Int)) = (n == k) := by
      rw [Bool.eq_iff_iff, beq_iff_eq, beq_iff_eq]; omega
    rw [e]
theorem zs_mem {ns : List Nat} {k : Nat} (h : k ∈ ns) : (k : Int) ∈ zs ns := List.mem_map_of_mem h
theorem zs_any (ns : List Nat) (k : Nat) : (zs ns).any (· == (k : Int)) = ns.contains k := by
  induction ns with
  | nil => rfl
  | cons n r ih =>
    rw [zs, List.map_cons, List.any_cons, List.contains_cons, ih]
    have e : ((n : Int) == (k : Int)) = (k == n) := by
      rw [Bool.eq_iff_iff, beq_iff_eq, beq_iff_eq]; omega
    rw [e]

theorem lay_zs {ns : List Nat} (hb : ∀ n ∈ ns, n < 2 ^ 20) (hl : ns.length ≤ 64) : PyData.layable0 (.list ((zs ns).map .int)) = true := by
  have key : ∀ r : List Nat, (∀ n ∈ r, n < 2 ^ 20) → PyData.canLayAll0 ((zs r).map .int) = true ∧ PyData.depthAll ((zs r).map .int) = 0 ∧ PyData.weightAll ((zs r).map .int) ≤ 21 * r.length := by
    intro r
    induction r with
    | nil => intro _; exact ⟨rfl, rfl, Nat.le_refl _⟩
    | cons n r ih =>
      intro h
      obtain ⟨h1, h2, h3⟩ := ih fun m hm => h m (.tail _ hm)
      have hn := h n (.head _)
      refine ⟨?_, ?_, ?_⟩
      · simp only [zs, List.map_cons, PyData.canLayAll0, PyData.canLay0, Bool.true_and]; exact h1
      · simp only [zs, List.map_cons, PyData.depthAll, PyData.depth]; rw [Nat.zero_max]; exact h2
      · simp only [zs, List.map_cons, PyData.weightAll, PyData.weight, List.length_cons]
        have hw : (if ((n : Int) == 0) = true then 0 else (n : Int).natAbs.log2 + 1) ≤ 20 := by
          split
          · omega
          · rename_i hz
            have hz' : n ≠ 0 := by intro e; subst e; exact hz rfl
            have := (Nat.log2_lt hz').mpr hn
            show n.log2 + 1 ≤ 20
            omega
        have h3' : PyData.weightAll (List.map PyData.int (List.map (fun n : Nat => (n : Int)) r)) ≤ 21 * r.length := h3
        omega
  obtain ⟨h1, h2, h3⟩ := key ns hb
  have e1 : PyData.canLay0 (.list ((zs ns).map .int)) = true := by rw [PyData.canLay0]; exact h1
  have e2 : PyData.depth (.list ((zs ns).map .int)) ≤ 64 := by rw [PyData.depth, h2]; omega
  have e3 : PyData.weight (.list ((zs ns).map .int)) ≤ 2 ^ 20 := by rw [PyData.weight]; omega
  unfold PyData.layable0
  rw [e1, decide_eq_true e2, decide_eq_true e3]; rfl

section
variable {prog : Program} {w : World} {A : Around} {E : Value → Shared → Prop} {s : Shared} {Q : Value → Shared → Prop}
theorem item_N {value slice : Expr} {l : Addr} {vs : List Value} {ns : List Nat} {i : Nat} {u : Tok} (hl : s.heap.IsList l vs.toArray) (hi : IntsAre vs (zs ns)) (hlt : i < ns.length) (hfit : i < 2 ^ 63)
    (h : ∀ t, Q (.int ((ns.getD i 0 : Nat) : Int) t) s)
    (hs : subscripted slice false (.ref l) (.int (i : Int) u) = operate [.ref l, .int (i : Int) u] (getItem (.ref l) (.int (i : Int) u)) := by with_unfolding_all rfl) (hg : ∀ r, letTemporaryGo value (.ref l) r = pure () := by intro _; with_unfolding_all rfl) :
    wpAny (model prog w) A (subscriptTail value slice (.ref l) (.int (i : Int) u)) Q E s := by
  obtain ⟨t, hx⟩ := hi.get i _ (zs_get hlt)
  exact item_listL hl (by omega) (by omega) (by simpa using hx) (h t) hs hg
theorem index_N {l : Addr} {vs : List Value} {ns : List Nat} {k : Nat} {t : Tok} (hl : s.heap.IsList l vs.toArray) (hi : IntsAre vs (zs ns))
    (hlay : PyData.layable0 (.list ((zs ns).map .int)) = true) (hk : k ∈ ns) (h : ∀ t', Q (.int ((ns.idxOf k : Nat) : Int) t') { s with toks := s.toks + 1 }) :
    wpAny (model prog w) A (call (.builtin "list.index") [.ref l, .int (k : Int) t]) Q E s := by
  refine index_list_ints hl hi hlay (zs_mem hk) ?_
  rw [zs_idxOf]; exact h _
end
end Mine
namespace Mine
def ListAt (h : Heap) (l : Addr) (vs : List Value) : Prop := ∃ n, h.get? l = some (listOf vs.toArray n)
theorem ListAt.keeps {h h' : Heap} {l : Addr} {vs : List Value} (x : ListAt h l vs) (k : ∀ b o, h.get? b = some o → h'.get? b = some o) : ListAt h' l vs := let ⟨n, e⟩ := x; ⟨n, k _ _ e⟩
theorem ListAt.is {h : Heap} {l : Addr} {vs : List Value} (x : ListAt h l vs) : h.IsList l vs.toArray := let ⟨n, e⟩ := x; ⟨_, e, rfl, n, rfl⟩
theorem ListAt.news {h₀ h : Heap} {L l : Addr} {vs : List Value} {n : Nat} {news : List (Addr × Obj)} (N : News h₀ L h news) (hm : (l, listOf vs.toArray n) ∈ news) : ListAt h l vs := ⟨n, (N _ hm).1⟩
section
variable {prog : Program} {w : World} {A : Around} {E : Value → Shared → Prop} {s : Shared}
theorem listMeth {name : Str} {id : String} {pl : Sem Bool} {l : Addr} {vs : List Value} {Q : Value × List Value → Shared → Prop} (hl : ListAt s.heap l vs) (slot : Slot "list" name id) (hty : typeOf (.builtin id) = pure (.type "method_descriptor"))
    (h : Q (.builtin id, [.ref l]) s) : wpAny (model prog w) A (getMethod (.ref l) name pl) Q E s := by
  obtain ⟨n, e⟩ := hl
  exact getMethod_builtin ⟨_, e, rfl⟩ PySem.F.plainAttrs_list slot hty (fun a q => by cases q; exact ⟨_, e, rfl⟩) h
end
end Mine
namespace Mine
theorem newsAdd {h₀ h h' : Heap} {L a : Addr} {o : Obj} {m : Str → Option Value} {news : List (Addr × Obj)} (F : Fr h₀ L h m) (N : News h₀ L h news) (k : ∀ b o, h.get? b = some o → h'.get? b = some o) (hn : h.get? a = none) (ho : h'.get? a = some o) :
    News h₀ L h' ((a, o) :: news) := by
  intro p hp
  rcases List.mem_cons.mp hp with rfl | hp
  · refine ⟨ho, ?_, ?_⟩
    · intro e
      have e' : a = L := e
      obtain ⟨oL, _, _, hL, _⟩ := F.ns
      rw [e', hL] at hn; cases hn
    · cases q : h₀.get? a with
      | none => rfl
      | some o' => rw [F.keep _ _ q] at hn; cases hn
  · exact ⟨k _ _ (N p hp).1, (N p hp).2⟩
theorem newsSub {h₀ h : Heap} {L : Addr} {news news' : List (Addr × Obj)} (N : News h₀ L h news) (hs : ∀ p ∈ news', p ∈ news) : News h₀ L h news' := fun p hp => N p (hs p hp)
theorem push_list (vs : List Value) (v : Value) : vs.toArray.push v = (vs ++ [v]).toArray := by simp
theorem intsPush {vs : List Value} {ns : List Int} {n : Int} {t : Tok} (h : IntsAre vs ns) : IntsAre (vs ++ [.int n t]) (ns ++ [n]) := h.append (.cons n t .nil)
theorem fitLine {vs : List Value} {k : Nat} (h : vs.length ≤ k) (hk : k ≤ 2 ^ 24) : vs.toArray.size ≤ sizeLine := by
  rw [List.size_toArray]; exact Nat.le_trans h hk
end Mine
namespace Mine
section
variable {prog : Program} {w : World} {A : Around} {E : Value → Shared → Prop} {s : Shared} {Q : Value → Shared → Prop}
theorem len_N {l : Addr} {vs : List Value} {ns : List Nat} (hl : s.heap.IsList l vs.toArray) (hi : IntsAre vs (zs ns)) (hf : ns.length < 2 ^ 62)
    (h : ∀ t, Q (.int ((ns.length : Nat) : Int) t) { s with toks := s.toks + 1 + 1 }) : wpAny (model prog w) A (call (.builtin "len") [.ref l]) Q E s := by
  have e : vs.toArray.size = ns.length := by rw [List.size_toArray, hi.length, zs, List.length_map]
  exact len_list hl (by rw [e]; omega) (by rw [e]; exact h _)
end
def TupAt (h : Heap) (l : Addr) (vs : List Value) : Prop := ∃ n, h.get? l = some { cls := .type "tuple", data := .seq vs.toArray n }
theorem TupAt.keeps {h h' : Heap} {l : Addr} {vs : List Value} (x : TupAt h l vs) (k : ∀ b o, h.get? b = some o → h'.get? b = some o) : TupAt h' l vs := let ⟨n, e⟩ := x; ⟨n, k _ _ e⟩
theorem TupAt.is {h : Heap} {l : Addr} {vs : List Value} (x : TupAt h l vs) : IsTup h l vs.toArray := let ⟨n, e⟩ := x; ⟨_, e, rfl, n, rfl⟩
theorem zs_length (ns : List Nat) : (zs ns).length = ns.length := List.length_map _
theorem lenIs {vs : List Value} {ns : List Nat} (h : IntsAre vs (zs ns)) : vs.length = ns.length := h.length.trans (zs_length ns)
end Mine
namespace Mine
theorem fitLine' {vs : List Value} {n : Nat} (h : vs.length = n) (hn : n ≤ 2 ^ 24) : vs.length ≤ sizeLine := by rw [h]; exact hn
section
variable {M : Model} {A : Around} {E : Value → Shared → Prop} {s : Shared} {env : Env}
theorem comp_noifs {b : Bool} (hb : true = b) (h : Keeps s s) :
    wpAny M A (forIn ([] : List Expr) true fun c r => if r = true then do let ok ← isTrue c env (eval c env); pure (ForInStep.yield ok) else pure (ForInStep.yield r)) (fun ok s₃ => ok = b ∧ Keeps s s₃) E s := by
  simp only [List.forIn_nil]
  exact wpAny_pure ⟨hb, h⟩
end
end Mine
namespace Mine
theorem nilOf {h₀ h : Heap} {L : Addr} {m : Str → Option Value} (_F : Fr h₀ L h m) : News h₀ L h [] := News.nil
end Mine
namespace Mine
theorem newsAdd2 {h₀ h h' : Heap} {L a : Addr} {o : Obj} {m : Str → Option Value} {news : List (Addr × Obj)} (F : Fr h₀ L h m) (N : News h₀ L h news) (k : ∀ b o, b ≠ L → h.get? b = some o → h'.get? b = some o) (hn : h.get? a = none) (ho : h'.get? a = some o) :
    News h₀ L h' ((a, o) :: news) := by
  intro p hp
  rcases List.mem_cons.mp hp with rfl | hp
  · refine ⟨ho, ?_, ?_⟩
    · intro e
      have e' : a = L := e
      obtain ⟨oL, _, _, hL, _⟩ := F.ns
      rw [e', hL] at hn; cases hn
    · cases q : h₀.get? a with
      | none => rfl
      | some o' => rw [F.keep _ _ q] at hn; cases hn
  · exact ⟨k _ _ (N p hp).2.1 (N p hp).1, (N p hp).2⟩
end Mine
namespace Mine
section
variable {prog : Program} {w : World} {A : Around} {E : Value → Shared → Prop} {s : Shared} {Q : Value → Shared → Prop}
theorem in_N {l : Addr} {vs : List Value} {ns : List Nat} {k : Nat} {t : Tok} (hl : s.heap.IsList l vs.toArray) (hi : IntsAre vs (zs ns)) (h : Q (.bool (ns.contains k)) s) :
    wpAny (model prog w) A (compareOp .In (.int (k : Int) t) (.ref l)) Q E s := in_list_ints hl hi (by rw [zs_any]; exact h)
theorem notin_N {l : Addr} {vs : List Value} {ns : List Nat} {k : Nat} {t : Tok} (hl : s.heap.IsList l vs.toArray) (hi : IntsAre vs (zs ns)) (h : Q (.bool (!ns.contains k)) s) :
    wpAny (model prog w) A (compareOp .NotIn (.int (k : Int) t) (.ref l)) Q E s := notin_list_ints hl hi (by rw [zs_any]; exact h)
end
theorem get_zs {vs : List Value} {ns : List Nat} (h : IntsAre vs (zs ns)) {i : Nat} {v : Value} (hv : vs[i]? = some v) : i < ns.length ∧ ns.getD i 0 ∈ ns ∧ ∃ t, v = .int ((ns.getD i 0 : Nat) : Int) t := by
  have hl := lenIs h
  have hi : i < vs.length := by
    rw [List.getElem?_eq_some_iff] at hv; exact hv.1
  have hi' : i < ns.length := by omega
  obtain ⟨t, e⟩ := h.get i _ (zs_get hi')
  rw [hv] at e
  refine ⟨hi', ?_, t, Option.some.inj e⟩
  rw [List.getD_eq_getElem?_getD, List.getElem?_eq_getElem hi']
  exact List.getElem_mem hi'
theorem neTup {h : Heap} {l L : Addr} {its : Array Value} {m : Str → Option Value} {h₀ : Heap} (x : IsTup h₀ l its) (F : Fr h₀ L h m) : l ≠ L := by
  obtain ⟨o, ho, _⟩ := x
  exact Nat.ne_of_lt (Nat.lt_of_lt_of_le (Heap.lt_size ho) F.above)
theorem neLst {h : Heap} {l L : Addr} {its : Array Value} {m : Str → Option Value} {h₀ : Heap} (x : h₀.IsList l its) (F : Fr h₀ L h m) : l ≠ L := by
  obtain ⟨o, ho, _⟩ := x
  exact Nat.ne_of_lt (Nat.lt_of_lt_of_le (Heap.lt_size ho) F.above)
end Mine
namespace Mine
theorem newsPut {h₀ h h' : Heap} {L a : Addr} {o : Obj} {m : Str → Option Value} {news : List (Addr × Obj)} (F : Fr h₀ L h m) (N : News h₀ L h' news) (hn : h.get? a = none) (ho : h'.get? a = some o) :
    News h₀ L h' ((a, o) :: news) := by
  intro p hp
  rcases List.mem_cons.mp hp with rfl | hp
  · refine ⟨ho, ?_, ?_⟩
    · intro e
      have e' : a = L := e
      obtain ⟨oL, _, _, hL, _⟩ := F.ns
      rw [e', hL] at hn; cases hn
    · cases q : h₀.get? a with
      | none => rfl
      | some o' => rw [F.keep _ _ q] at hn; cases hn
  · exact N p hp
end Mine
namespace Mine
section
variable {prog : Program} {w : World} {A : Around} {E : Value → Shared → Prop} {s : Shared} {Q : Value → Shared → Prop}
theorem lenT_N {l : Addr} {vs : List Value} {ns : List Nat} (hl : IsTup s.heap l vs.toArray) (hi : IntsAre vs (zs ns)) (hf : ns.length < 2 ^ 62)
    (h : ∀ t, Q (.int ((ns.length : Nat) : Int) t) { s with toks := s.toks + 1 + 1 }) : wpAny (model prog w) A (call (.builtin "len") [.ref l]) Q E s := by
  have e : vs.toArray.size = ns.length := by rw [List.size_toArray, hi.length, zs, List.length_map]
  exact PyProof.Rows.len_tuple hl (by rw [e]; omega) (by rw [e]; exact h _)
theorem itemT_N {value slice : Expr} {l : Addr} {vs : List Value} {ns : List Nat} {i : Nat} {u : Tok} (hl : IsTup s.heap l vs.toArray) (hi : IntsAre vs (zs ns)) (hlt : i < ns.length) (hfit : i < 2 ^ 62)
    (h : ∀ t, Q (.int ((ns.getD i 0 : Nat) : Int) t) s)
    (hs : subscripted slice false (.ref l) (.int (i : Int) u) = operate [.ref l, .int (i : Int) u] (getItem (.ref l) (.int (i : Int) u)) := by with_unfolding_all rfl) :
    wpAny (model prog w) A (subscriptTail value slice (.ref l) (.int (i : Int) u)) Q E s := by
  obtain ⟨t, hx⟩ := hi.get i _ (zs_get hlt)
  have hlen := lenIs hi
  refine item_tupleT hl (by omega) (by omega) (j := i) ?_ hx (h t) hs
  unfold seqIndex?
  simp only [hlen]
  have h1 : ¬ ((i : Int) < 0) := by omega
  simp [h1, hlt]
end
end Mine
namespace Mine
section
variable {prog : Program} {w : World} {A : Around} {E : Value → Shared → Prop} {s : Shared} {Q : Value → Shared → Prop}
theorem itemT_0 {value slice : Expr} {l : Addr} {vs : List Value} {ns : List Nat} {u : Tok} (hl : IsTup s.heap l vs.toArray) (hi : IntsAre vs (zs ns)) (hlt : 0 < ns.length)
    (h : ∀ t, Q (.int ((ns.getD 0 0 : Nat) : Int) t) s)
    (hs : subscripted slice false (.ref l) (.int 0 u) = operate [.ref l, .int 0 u] (getItem (.ref l) (.int 0 u)) := by with_unfolding_all rfl) :
    wpAny (model prog w) A (subscriptTail value slice (.ref l) (.int 0 u)) Q E s :=
  itemT_N (i := 0) hl hi hlt (by decide) h hs
end
end Mine

/-! part Comps -/
namespace Mine

section
variable {M : Model} {A : Around} {E : Value → Shared → Prop} {s : Shared} {env : Env} {h₀ : Heap} {m : Str → Option Value}
theorem gname_L {x : Str} {pos : Pos} {v : Value} {Q : Value → Shared → Prop} (F : Fr h₀ env.locals s.heap m) (hv : m x = some v) (h : Q v s)
    (hk : env.scope.kind = .function) (hl : env.kindOf x = some .local) (hd : (x == ("__debug__" : Str)) = false) : wpAny M A (eval (.Name x pos) env) Q E s :=
  wpAny_Name (wpAny_loadName_local hk hl F.ns hv h) hd
theorem gname_C {x : Str} {pos : Pos} {c : Addr} {v : Value} {Q : Value → Shared → Prop} (hc : env.cells.lookup x = some c) (hv : s.heap.IsCell c (some v)) (h : Q v s)
    (hk : env.scope.kind = .function) (hl : env.kindOf x = some .cell) (hd : (x == ("__debug__" : Str)) = false) : wpAny M A (eval (.Name x pos) env) Q E s :=
  wpAny_Name (wpAny_loadName_cell hk hl hc hv h) hd
end

section
variable {prog : Program} {w : World} {A : Around} {E : Value → Shared → Prop} {s : Shared} {env : Env}

def EltDone (F : Value → Value → Prop) (v : Value) (s₂ : Shared) (y : Value) (s₃ : Shared) : Prop := F v y ∧ Keeps s₂ s₃
def TestDone (b : Bool) (s₂ : Shared) (ok : Bool) (s₃ : Shared) : Prop := ok = b ∧ Keeps s₂ s₃
/-- what a quiet comprehension over a list or a tuple asks -/
def CompAsk (prog : Program) (w : World) (A : Around) (env : Env) (scope : Scope) (cl : List (Str × Addr)) (x : Str) (ifs : List Expr) (elt : Expr) (p : Value → Bool) (F : Value → Value → Prop)
    (fin : Addr → List Value → Shared → Heap → Nat → Prop) (xv : Value) (s₁ : Shared) : Prop :=
  ∃ (ax : Addr) (vs : List Value), xv = .ref ax ∧ (s₁.heap.IsList ax vs.toArray ∨ IsTup s₁.heap ax vs.toArray) ∧ vs.length ≤ sizeLine ∧
    (∀ C v s₂ m₂ E', s₁.heap.objs.size ≤ C → v ∈ vs → s₂.heap.Ns C m₂ → m₂ x = some v → (∀ b o, s₁.heap.get? b = some o → s₂.heap.get? b = some o) →
      wpAny (model prog w) A (forIn ifs true fun c r => if r = true then do let ok ← isTrue c (compEnvC scope cl C env) (eval c (compEnvC scope cl C env)); pure (ForInStep.yield ok) else pure (ForInStep.yield r))
        (TestDone (p v) s₂) E' s₂) ∧
    (∀ C v s₂ m₂ E', s₁.heap.objs.size ≤ C → v ∈ vs → p v = true → s₂.heap.Ns C m₂ → m₂ x = some v → (∀ b o, s₁.heap.get? b = some o → s₂.heap.get? b = some o) →
      wpAny (model prog w) A (eval elt (compEnvC scope cl C env)) (EltDone F v s₂) E' s₂) ∧
    (∀ D ys h' tk, s₁.heap.get? D = none → ListAt h' D ys → Paired F (vs.filter p) ys → fin D ys s₁ h' tk)

theorem comp_eval {elt iter : Expr} {x : Str} {px : Pos} {ifs : List Expr} {scope : Scope} {cl : List (Str × Addr)} {pos : Pos} {Q : Value → Shared → Prop} (p : Value → Bool) (F : Value → Value → Prop)
    (hh : A.handled = none) (hclos : closureFor scope env = pure cl) (hcell : ∀ y ∈ scope.names, y.2 ≠ .cell) (hkind : scope.kind = .function)
    (hnames : ∀ y ∈ scope.names, y.2 = .local → scope.names.lookup y.1 = some .local) (hx : scope.names.lookup x = some .local)
    (h : wpAny (model prog w) A (eval iter env) (CompAsk prog w A env scope cl x ifs elt p F
      fun D _ s₁ h' tk => (∀ b o, s₁.heap.get? b = some o → h'.get? b = some o) → Q (.ref D) { s₁ with heap := h', toks := tk }) E s)
    (hs : ∀ x, foldedSetIterable iter env x = pure x) :
    wpAny (model prog w) A (eval (.ListComp elt [⟨.Name x px, iter, ifs, 0⟩] scope pos) env) Q E s := by
  refine wpAny_ListComp_free p F hclos hcell hkind hnames hx (wpAny_mono h (fun xv s₁ h₁ => ?_) fun _ _ e => e) hs
  obtain ⟨ax, vs, rfl, hl, hsz, htests, helt, hQ⟩ := h₁
  have hlt : ax < s₁.heap.objs.size := by rcases hl with ⟨_, e, _⟩ | ⟨_, e, _⟩ <;> exact Heap.lt_size e
  have up : ∀ (o' : Obj) (h₃ : Heap), (∀ b o, b ∉ [s₁.heap.objs.size] → (s₁.heap.push o').get? b = some o → h₃.get? b = some o) → ∀ b o, s₁.heap.get? b = some o → h₃.get? b = some o :=
    fun o' h₃ hk b o e => hk b o (fun hm => by rcases List.mem_cons.mp hm with rfl | hm; exact Nat.lt_irrefl _ (Heap.lt_size e); cases hm) (Heap.get?_push_of_some _ e)
  have pre : ∀ (o' : Obj), o'.isFreed = false → ∀ (P : Nat → Value → Prop) (St : Nat → Heap → Prop), Walks prog w A s₁.heap.objs.size [s₁.heap.objs.size, ax] [s₁.heap.objs.size] vs.length P St → (∀ i v, P i v → vs[i]? = some v) →
      St 0 (s₁.heap.push o') → ∃ I fp wr n P St, Value.ref s₁.heap.objs.size = .ref I ∧ Walks prog w A I fp wr n P St ∧ n ≤ sizeLine ∧ St 0 (s₁.heap.push o') ∧ (∀ b ∈ fp, b < (s₁.heap.push o').objs.size) ∧
      QuietOnC prog w A env scope cl x ifs elt wr P p F { s₁ with heap := s₁.heap.push o' } ∧
      (∀ D h' tk ys (vs' : List Value), (s₁.heap.push o').get? D = none → h'.IsList D ys → h'.PlainList D ys → vs'.length = n → (∀ j v, vs'[j]? = some v → P j v) → Paired F (vs'.filter p) ys.toList →
        (∀ b o, b ∉ wr → (s₁.heap.push o').get? b = some o → h'.get? b = some o) → Q (.ref D) { s₁ with heap := h', toks := tk }) := by
    intro o' hof P St W hPv hst
    refine ⟨_, _, _, _, _, _, rfl, W, hsz, hst, ?_, ⟨?_, ?_⟩, ?_⟩
    · intro b hb
      show b < (s₁.heap.push _).objs.size
      rw [Heap.size_push]
      rcases List.mem_cons.mp hb with rfl | hb
      · exact Nat.lt_succ_self _
      · rcases List.mem_cons.mp hb with rfl | hb
        · exact Nat.lt_succ_of_lt hlt
        · cases hb
    · intro C i v s₃ m₃ E' hC hP hn hm hk _
      exact htests C v s₃ m₃ E' (Nat.le_of_succ_le (by simpa [Heap.size_push] using hC)) (List.mem_of_getElem? (hPv i v hP)) hn hm (up o' s₃.heap hk)
    · intro C i v s₃ m₃ E' hC hP hp hn hm hk _
      exact helt C v s₃ m₃ E' (Nat.le_of_succ_le (by simpa [Heap.size_push] using hC)) (List.mem_of_getElem? (hPv i v hP)) hp hn hm (up o' s₃.heap hk)
    · intro D h' tk ys vs' hnew hlD hplD hlen hP hF hk
      have e : vs' = vs := by
        refine List.ext_getElem? fun j => ?_
        by_cases hj : j < vs'.length
        · rw [hPv j vs'[j] (hP j _ (by simp [hj]))]; simp [hj]
        · rw [List.getElem?_eq_none (by omega), List.getElem?_eq_none (by omega)]
      subst e
      have keep : ∀ b o, s₁.heap.get? b = some o → h'.get? b = some o := up o' h' hk
      refine hQ D ys.toList h' tk ?_ ?_ hF keep
      · cases e : s₁.heap.get? D with
        | none => rfl
        | some o'' => rw [Heap.get?_push_of_some _ e] at hnew; cases hnew
      · obtain ⟨n, e⟩ := hplD
        exact ⟨n, by rw [Array.toArray_toList]; exact e⟩
  rcases hl with hl | hl
  · have W := Walks.list (prog := prog) (w := w) hh s₁.heap.objs.size ax (Nat.ne_of_lt hlt) vs.toArray
    rw [List.size_toArray] at W
    exact wpAny_pyIter_list hl (pre _ rfl _ _ W (fun i v hp => by simpa using hp) ⟨⟨_, Heap.get?_push_size _ rfl, rfl, rfl⟩, hl.push _⟩)
  · have W := Walks.tuple (prog := prog) (w := w) hh s₁.heap.objs.size ax (Nat.ne_of_lt hlt) vs.toArray
    rw [List.size_toArray] at W
    exact wpAny_pyIter_tuple hl (pre _ rfl _ _ W (fun i v hp => by simpa using hp) ⟨⟨_, Heap.get?_push_size _ rfl, rfl, rfl⟩, IsTup.keeps hl fun b o e => Heap.get?_push_of_some _ e⟩)

def AsgAsk (prog : Program) (w : World) (A : Around) (env : Env) (scope : Scope) (cl : List (Str × Addr)) (x y : Str) (ifs : List Expr) (elt : Expr) (p : Value → Bool) (F : Value → Value → Prop) (m : Str → Option Value) (Q : Flow → Shared → Prop) (xv : Value) (s₁ : Shared) : Prop :=
  s₁.heap.Ns env.locals m ∧ CompAsk prog w A env scope cl x ifs elt p F
      (fun D _ s₁ h' tk => h'.Ns env.locals (fun z => if z = y then some (.ref D) else m z) → (∀ b o, b ≠ env.locals → s₁.heap.get? b = some o → h'.get? b = some o) → Q .next { s₁ with heap := h', toks := tk }) xv s₁

theorem comp_assign {elt iter : Expr} {x y : Str} {px py : Pos} {ifs : List Expr} {scope : Scope} {cl : List (Str × Addr)} {pos spos : Pos} {Q : Flow → Shared → Prop} {m : Str → Option Value} {h₀ : Heap} (_F : Fr h₀ env.locals s.heap m) (p : Value → Bool) (F : Value → Value → Prop)
    (hsw : swapsWith (.ListComp elt [⟨.Name x px, iter, ifs, 0⟩] scope pos) (some (.Name y py)) spos.line env = pure true)
    (hh : A.handled = none) (hclos : closureFor scope env = pure cl) (hcell : ∀ z ∈ scope.names, z.2 ≠ .cell) (hkind : scope.kind = .function)
    (hnames : ∀ z ∈ scope.names, z.2 = .local → scope.names.lookup z.1 = some .local) (hx : scope.names.lookup x = some .local)
    (hy : env.kindOf y = some .local) (hp : (env.scope.kind == .class || (env.scope.kind == .module && env.locals != env.globals)) = false)
    (h : wpAny (model prog w) A (eval iter env) (AsgAsk prog w A env scope cl x y ifs elt p F m Q) E s)
    (hs : ∀ x, foldedSetIterable iter env x = pure x) :
    wpAny (model prog w) A (exec (.Assign [.Name y py] (.ListComp elt [⟨.Name x px, iter, ifs, 0⟩] scope pos) spos) env) Q E s := by
  refine wpAny_Assign_ListComp_free p F hsw hclos hcell hkind hnames hx hy hp (wpAny_mono h (fun xv s₁ h₁ => ?_) fun _ _ e => e) hs
  obtain ⟨hns, ax, vs, rfl, hl, hsz, htests, helt, hQ⟩ := h₁
  have hlt : ax < s₁.heap.objs.size := by rcases hl with ⟨_, e, _⟩ | ⟨_, e, _⟩ <;> exact Heap.lt_size e
  have up : ∀ (o' : Obj) (h₃ : Heap), (∀ b o, b ∉ [s₁.heap.objs.size] → (s₁.heap.push o').get? b = some o → h₃.get? b = some o) → ∀ b o, s₁.heap.get? b = some o → h₃.get? b = some o :=
    fun o' h₃ hk b o e => hk b o (fun hm => by rcases List.mem_cons.mp hm with rfl | hm; exact Nat.lt_irrefl _ (Heap.lt_size e); cases hm) (Heap.get?_push_of_some _ e)
  have pre : ∀ (o' : Obj), o'.isFreed = false → ∀ (P : Nat → Value → Prop) (St : Nat → Heap → Prop), Walks prog w A s₁.heap.objs.size [s₁.heap.objs.size, ax] [s₁.heap.objs.size] vs.length P St → (∀ i v, P i v → vs[i]? = some v) →
      St 0 (s₁.heap.push o') → ∃ I fp wr n P St m, Value.ref s₁.heap.objs.size = .ref I ∧ Walks prog w A I fp wr n P St ∧ n ≤ sizeLine ∧ St 0 (s₁.heap.push o') ∧ (∀ b ∈ fp, b < (s₁.heap.push o').objs.size) ∧
      env.locals ∉ wr ∧ (s₁.heap.push o').Ns env.locals m ∧ QuietOnC prog w A env scope cl x ifs elt wr P p F { s₁ with heap := s₁.heap.push o' } ∧
      (∀ D h' tk ys (vs' : List Value), (s₁.heap.push o').get? D = none → h'.IsList D ys → h'.PlainList D ys → vs'.length = n → (∀ j v, vs'[j]? = some v → P j v) → Paired F (vs'.filter p) ys.toList →
        h'.Ns env.locals (fun z => if z = y then some (.ref D) else m z) → (∀ b o, b ≠ env.locals → b ∉ wr → (s₁.heap.push o').get? b = some o → h'.get? b = some o) → Q .next { s₁ with heap := h', toks := tk }) := by
    intro o' hof P St W hPv hst
    refine ⟨_, _, _, _, _, _, m, rfl, W, hsz, hst, ?_, ?_, hns.push _, ⟨?_, ?_⟩, ?_⟩
    · intro b hb
      show b < (s₁.heap.push _).objs.size
      rw [Heap.size_push]
      rcases List.mem_cons.mp hb with rfl | hb
      · exact Nat.lt_succ_self _
      · rcases List.mem_cons.mp hb with rfl | hb
        · exact Nat.lt_succ_of_lt hlt
        · cases hb
    · intro hm
      rcases List.mem_cons.mp hm with e | hm
      · exact Nat.lt_irrefl _ (e ▸ hns.lt)
      · cases hm
    · intro C i v s₃ m₃ E' hC hP hn hm hk _
      exact htests C v s₃ m₃ E' (Nat.le_of_succ_le (by simpa [Heap.size_push] using hC)) (List.mem_of_getElem? (hPv i v hP)) hn hm (up o' s₃.heap hk)
    · intro C i v s₃ m₃ E' hC hP hp hn hm hk _
      exact helt C v s₃ m₃ E' (Nat.le_of_succ_le (by simpa [Heap.size_push] using hC)) (List.mem_of_getElem? (hPv i v hP)) hp hn hm (up o' s₃.heap hk)
    · intro D h' tk ys vs' hnew hlD hplD hlen hP hF hns' hk
      have e : vs' = vs := by
        refine List.ext_getElem? fun j => ?_
        by_cases hj : j < vs'.length
        · rw [hPv j vs'[j] (hP j _ (by simp [hj]))]; simp [hj]
        · rw [List.getElem?_eq_none (by omega), List.getElem?_eq_none (by omega)]
      subst e
      have keep : ∀ b o, b ≠ env.locals → s₁.heap.get? b = some o → h'.get? b = some o := fun b o hb e =>
        hk b o hb (fun hm => by rcases List.mem_cons.mp hm with rfl | hm; exact Nat.lt_irrefl _ (Heap.lt_size e); cases hm) (Heap.get?_push_of_some _ e)
      refine hQ D ys.toList h' tk ?_ ?_ hF hns' keep
      · cases e : s₁.heap.get? D with
        | none => rfl
        | some o'' => rw [Heap.get?_push_of_some _ e] at hnew; cases hnew
      · obtain ⟨n, e⟩ := hplD
        exact ⟨n, by rw [Array.toArray_toList]; exact e⟩
  rcases hl with hl | hl
  · have W := Walks.list (prog := prog) (w := w) hh s₁.heap.objs.size ax (Nat.ne_of_lt hlt) vs.toArray
    rw [List.size_toArray] at W
    exact wpAny_pyIter_list hl (pre _ rfl _ _ W (fun i v hp => by simpa using hp) ⟨⟨_, Heap.get?_push_size _ rfl, rfl, rfl⟩, hl.push _⟩)
  · have W := Walks.tuple (prog := prog) (w := w) hh s₁.heap.objs.size ax (Nat.ne_of_lt hlt) vs.toArray
    rw [List.size_toArray] at W
    exact wpAny_pyIter_tuple hl (pre _ rfl _ _ W (fun i v hp => by simpa using hp) ⟨⟨_, Heap.get?_push_size _ rfl, rfl, rfl⟩, IsTup.keeps hl fun b o e => Heap.get?_push_of_some _ e⟩)
end
end Mine
namespace Mine
section
variable {prog : Program} {w : World} {A : Around} {E : Value → Shared → Prop} {s : Shared} {env : Env} {h₀ : Heap} {target : Expr} {body : List Stmt} {Q : Flow → Shared → Prop}
/-- a range whose target is any name (a cell's too); the turn goes to its end -/
theorem for_rangeT {r : Addr} {t₀ u₀ v₀ : Tok} {n : Nat} {m₀ : Str → Option Value} {nx₀ : List (Addr × Obj)} (J : Nat → (Str → Option Value) → List (Addr × Obj) → Prop)
    (hh : A.handled = none) (hr : IsRange s.heap r 0 (n : Int) 1 t₀ u₀ v₀) (hn : n < 2 ^ 62) (F : Fr h₀ env.locals s.heap m₀) (N : News h₀ env.locals s.heap nx₀) (hj : J 0 m₀ nx₀)
    (hgo : ∀ v, letOwnedTupleGo target (.ref s.heap.objs.size) v = pure ())
    (turn : ∀ i t m₁ nx (s₁ : Shared) own, i < n → J i m₁ nx → (∀ p ∈ nx, p.1 ≠ s.heap.objs.size) → (∀ p ∈ own, p.1 = s.heap.objs.size) → s.heap.objs.size < s₁.heap.objs.size →
      Fr h₀ env.locals s₁.heap m₁ → News h₀ env.locals s₁.heap (nx ++ own) →
      wpAny (model prog w) A (assign target env (.int (i : Int) t)) (fun _ s₃ => wpAny (model prog w) A (execs body env) (fun f s₂ => f = .next ∧ Turn h₀ env.locals s.heap.objs.size own (J (i + 1)) s₁ Q f s₂) E s₃) E s₁)
    (done : ∀ m₁ nx h tk, J n m₁ nx → Fr h₀ env.locals h m₁ → News h₀ env.locals h nx → Q .next { s with heap := h, toks := tk }) :
    wpAny (model prog w) A (pyIter (.ref r)) (fun it s₂ => LoopAtT prog w A h₀ env target body Q E it s₂) E s := by
  refine wpAny_pyIter_range hr (small_one (by decide) (by decide) (by omega) (by omega)) ?_
  have hsz : Builtin.Range.rangeSize 0 (n : Int) 1 = (n : Int) := by rw [rangeSize_nat]; simp
  have W : Walks prog w A s.heap.objs.size [s.heap.objs.size] [s.heap.objs.size] n (fun i v => i < n ∧ ∃ t, v = .int (0 + i * 1) t)
      (fun i h => IsRangeIter h s.heap.objs.size (0 + (i : Nat) * 1) ((n : Int) - (i : Nat)) 1) := (Walks.range hh _ 0 1 n).bound
  let J' : Nat → (Str → Option Value) → List (Addr × Obj) → Prop := J
  refine ⟨s.heap.objs.size, [s.heap.objs.size], [s.heap.objs.size], n, _, _, m₀, nx₀, J', rfl, W, ?_, ?_, ?_, (by show IsRangeIter _ _ _ _ _; rw [hsz]; simpa using Heap.get?_push_size _ rfl), F.push _, (fun p hp => ⟨Heap.get?_push_of_some _ (N p hp).1, (N p hp).2⟩), ?_, hj, ?_, ?_⟩
  · intro hm
    exact absurd F.ns.lt ((List.mem_singleton.mp hm) ▸ Nat.lt_irrefl _)
  · intro b hb; rw [List.mem_singleton.mp hb]; exact next_is_new F
  · intro p hp hI
    exact absurd (Heap.lt_size (N p hp).1) ((List.mem_singleton.mp hI) ▸ Nat.lt_irrefl _)
  · intro i s' v Q' _ hq
    exact wpAny_of_eq (hgo v) hq
  · rintro i v m₁ news₁ s₁ own hi ⟨_, t, rfl⟩ hJ hoff hown hget hall hst₁ F₁ N₁
    have e1 : (0 : Int) + (i : Int) * 1 = (i : Int) := by omega
    rw [e1]
    have N₂ : News h₀ env.locals s₁.heap (news₁ ++ own) := fun p hp => N₁ p ((List.mem_append.mp hp).elim (fun h => List.mem_append.mpr (.inr h)) fun h => List.mem_append.mpr (.inl h))
    refine wpAny_mono (turn i t m₁ news₁ s₁ own hi hJ (fun p hp e => hoff p hp (by rw [e]; exact .head _)) (fun p hp => List.mem_singleton.mp (hown p hp)) (Heap.lt_size hst₁) F₁ N₂) (fun _ s₃ h₃ => wpAny_mono h₃ (fun f s₂ p => ?_) fun _ _ e => e) fun _ _ e => e
    obtain ⟨rfl, h', tk, m', nx', e, F', N', hn, hm⟩ := p
    exact ⟨rfl, h', tk, m', nx', e, F', fun p hp => N' p ((List.mem_append.mp hp).elim (fun h => List.mem_append.mpr (.inr h)) fun h => List.mem_append.mpr (.inl h)), fun p hp hq => hn p hp (List.mem_singleton.mp hq), hm⟩
  · rintro h' tk m' news' F' N' _ hJ
    exact done m' news' h' tk hJ F' N'
end
end Mine
namespace Mine
/-- a stop for the walk -/
def Halt (P : Prop) : Prop := P
theorem halt {P : Prop} (h : Halt P) : P := h
end Mine

/-! part F1 -/
namespace Mine
theorem fillIt1 : ∀ (w : World) (h : Heap), (hd.heap_39 w.params).In h → PySem.Challenge.rw_on0088_01.row.prog = PySem.Challenge.rw_on0088_01.row.prog := by
  k_fill
  intros
  rfl

def vt (i k : Nat) : Nat := (2 ^ 2 ^ k - 1) ^^^ ((2 ^ 2 ^ k - 1) / (2 ^ 2 ^ i + 1))
def cof1 (t i k : Nat) : Nat := (t &&& vt i k) ||| ((t &&& vt i k) >>> 2 ^ i)
def cof0 (t i k : Nat) : Nat := (t ^^^ (t &&& vt i k)) ||| ((t ^^^ (t &&& vt i k)) <<< 2 ^ i)
def dep (t i k : Nat) : Bool := ((cof0 t i k : Nat) : Int) != ((cof1 t i k : Nat) : Int)

theorem pow2_le {i : Nat} (h : i ≤ 4) : 2 ^ i ≤ 16 := Nat.pow_le_pow_right (n := 2) (by decide) h
theorem pow22_le {i : Nat} (h : i ≤ 4) : 2 ^ 2 ^ i ≤ 65536 := Nat.pow_le_pow_right (n := 2) (by decide) (pow2_le h)

section
variable {w : World} {A : Around} {s : Shared} {R : Result → Shared → Prop}

local macro_rules | `(tactic| walk_at "binaryOp LShift int int") => `(tactic| first
  | ((with_reducible refine shl1_N ?a1 ?_); (case a1 => omega); intro t')
  | ((with_reducible refine shl_N ?a1 ?a2 ?_); (case a1 => omega); (case a2 => first | assumption | omega); intro t'))
local macro_rules | `(tactic| walk_at "binaryOp Sub int int") => `(tactic| ((with_reducible refine sub1_N ?a1 ?_); (case a1 => first | omega | exact Nat.one_le_two_pow); intro t'))
local macro_rules | `(tactic| walk_at "binaryOp Add int int") => `(tactic| ((with_reducible refine add1_N ?_); intro t'))
local macro_rules | `(tactic| walk_at "binaryOp BitXor int int") => `(tactic| ((with_reducible refine xor_N ?_); intro t'))
local macro_rules | `(tactic| walk_at "binaryOp BitAnd int int") => `(tactic| ((first | with_reducible refine and1_N ?_ | with_reducible refine and_N ?_); intro t'))
local macro_rules | `(tactic| walk_at "binaryOp BitOr int int") => `(tactic| ((with_reducible refine or_N ?_); intro t'))
local macro_rules | `(tactic| walk_at "binaryOp RShift int int") => `(tactic| ((with_reducible refine shr_N ?_); intro t'))
local macro_rules | `(tactic| walk_at "binaryOp FloorDiv int int") => `(tactic| ((with_reducible refine fdiv_N ?a1 ?a2 ?_); (case a1 => omega); (case a2 => omega); intro t'))
local macro_rules | `(tactic| walk_at "eval Call") => `(tactic| refine Call_ ?_)
theorem c_full_table {k : Nat} {t : Tok} (hA : Room A 1) (P : Here w s.heap) (hk : k ≤ 4)
    (hR : ∀ h' tk t', Ext s.heap h' → R (.ok (.ret (.int ((2 ^ 2 ^ k - 1 : Nat) : Int) t'))) { s with heap := h', toks := tk }) :
    codeAny (model PySem.Challenge.rw_on0088_01.row.prog w) A (.call (.ref 28) ⟨[.int (k : Int) t], []⟩) R s := by
  obtain ⟨mean, mg, mb, X, T⟩ := id P
  refine' enter [("k", .int (k : Int) t)] X T hA ?ho ?hcd ?hbind ?hloc ?h ?c2 ?c3 ?c4 ?c5
  case ho => k_is
  case hcd => k_is
  case hbind => exact BindsTo.of_eq rfl
  case c5 => decide
  case c2 => rfl
  case c3 => rfl
  case c4 => rfl
  case hloc => exact locs rfl
  intro L' h' F' N' hA'
  try dsimp only
  try k_fold
  have b1 := pow2_le hk
  k_steps
  exact hR _ _ _ F'.keep

local macro_rules | `(tactic| walk_at "call ref") => `(tactic| k_dflt (refine' wpAny_call (c_full_table ?r0 ?r1 ?r2 ?_); (case r0 => exact Room.le (by assumption) (by omega)); (case r1 => exact Here.keeps (by assumption) (Fr.keep (by assumption))); (case r2 => omega); intro h' tk t' kp; (have F' := Fr.keeps (by assumption) kp); (have N' := News.grown (by assumption) kp); (try dsimp only); (try k_fold)))
theorem c_var_table {i k : Nat} {t t2 : Tok} (hA : Room A 2) (P : Here w s.heap) (hk : k ≤ 4) (hi : i < k)
    (hR : ∀ h' tk t', Ext s.heap h' → R (.ok (.ret (.int ((vt i k : Nat) : Int) t'))) { s with heap := h', toks := tk }) :
    codeAny (model PySem.Challenge.rw_on0088_01.row.prog w) A (.call (.ref 35) ⟨[.int (i : Int) t, .int (k : Int) t2], []⟩) R s := by
  obtain ⟨mean, mg, mb, X, T⟩ := id P
  refine' enter [("i", .int (i : Int) t), ("k", .int (k : Int) t2)] X T hA ?ho ?hcd ?hbind ?hloc ?h ?c2 ?c3 ?c4 ?c5
  case ho => k_is
  case hcd => k_is
  case hbind => exact BindsTo.of_eq rfl
  case c5 => decide
  case c2 => rfl
  case c3 => rfl
  case c4 => rfl
  case hloc => exact locs rfl
  intro L' h' F' N' hA'
  try dsimp only
  try k_fold
  have b1 := pow2_le (i := i) (by omega)
  have b2 := pow22_le (i := i) (by omega)
  have b3 := Nat.two_pow_pos (2 ^ i)
  k_steps
  exact hR _ _ _ (Fr.keep (by assumption))

local macro_rules | `(tactic| walk_at "call ref") => `(tactic| k_dflt (refine' wpAny_call (c_var_table ?r0 ?r1 ?r2 ?r3 ?_); (case r0 => exact Room.le (by assumption) (by omega)); (case r1 => exact Here.keeps (by assumption) (Fr.keep (by assumption))); (case r2 => omega); (case r3 => omega); intro h' tk t' kp; (have F' := Fr.keeps (by assumption) kp); (have N' := News.grown (by assumption) kp); (try dsimp only); (try k_fold)))
theorem c_cofactor1 {tt i k : Nat} {t t2 t3 t4 : Tok} (hA : Room A 3) (P : Here w s.heap) (hk : k ≤ 4) (hi : i < k)
    (hR : ∀ h' tk t', Ext s.heap h' → R (.ok (.ret (.int ((cof1 tt i k : Nat) : Int) t'))) { s with heap := h', toks := tk }) :
    codeAny (model PySem.Challenge.rw_on0088_01.row.prog w) A (.call (.ref 42) ⟨[.int (tt : Int) t, .int (i : Int) t2, .int 1 t3, .int (k : Int) t4], []⟩) R s := by
  obtain ⟨mean, mg, mb, X, T⟩ := id P
  refine' enter [("t", .int (tt : Int) t), ("i", .int (i : Int) t2), ("bit", .int 1 t3), ("k", .int (k : Int) t4)] X T hA ?ho ?hcd ?hbind ?hloc ?h ?c2 ?c3 ?c4 ?c5
  case ho => k_is
  case hcd => k_is
  case hbind => exact BindsTo.of_eq rfl
  case c5 => decide
  case c2 => rfl
  case c3 => rfl
  case c4 => rfl
  case hloc => exact locs rfl
  intro L' h' F' N' hA'
  try dsimp only
  try k_fold
  k_steps
  exact hR _ _ _ (Fr.keep (by assumption))
theorem c_cofactor0 {tt i k : Nat} {t t2 t3 t4 : Tok} (hA : Room A 3) (P : Here w s.heap) (hk : k ≤ 4) (hi : i < k) (htt : tt < 2 ^ 2 ^ k)
    (hR : ∀ h' tk t', Ext s.heap h' → R (.ok (.ret (.int ((cof0 tt i k : Nat) : Int) t'))) { s with heap := h', toks := tk }) :
    codeAny (model PySem.Challenge.rw_on0088_01.row.prog w) A (.call (.ref 42) ⟨[.int (tt : Int) t, .int (i : Int) t2, .int 0 t3, .int (k : Int) t4], []⟩) R s := by
  obtain ⟨mean, mg, mb, X, T⟩ := id P
  refine' enter [("t", .int (tt : Int) t), ("i", .int (i : Int) t2), ("bit", .int 0 t3), ("k", .int (k : Int) t4)] X T hA ?ho ?hcd ?hbind ?hloc ?h ?c2 ?c3 ?c4 ?c5
  case ho => k_is
  case hcd => k_is
  case hbind => exact BindsTo.of_eq rfl
  case c5 => decide
  case c2 => rfl
  case c3 => rfl
  case c4 => rfl
  case hloc => exact locs rfl
  intro L' h' F' N' hA'
  try dsimp only
  try k_fold
  have b1 := pow2_le (i := i) (by omega)
  have b2 := pow22_le (i := k) (by omega)
  have b3 : tt ^^^ (tt &&& vt i k) < 2 ^ 64 := by
    have h1 : tt < 2 ^ 64 := by omega
    exact Nat.xor_lt_two_pow h1 (Nat.lt_of_le_of_lt Nat.and_le_left h1)
  k_steps
  exact hR _ _ _ (Fr.keep (by assumption))

local macro_rules | `(tactic| walk_at "call ref") => `(tactic| k_dflt (refine' wpAny_call (c_cofactor1 ?r0 ?r1 ?r2 ?r3 ?_); (case r0 => exact Room.le (by assumption) (by omega)); (case r1 => exact Here.keeps (by assumption) (Fr.keep (by assumption))); (case r2 => omega); (case r3 => omega); intro h' tk t' kp; (have F' := Fr.keeps (by assumption) kp); (have N' := News.grown (by assumption) kp); (try dsimp only); (try k_fold)))
local macro_rules | `(tactic| walk_at "call ref") => `(tactic| k_dflt (refine' wpAny_call (c_cofactor0 ?r0 ?r1 ?r2 ?r3 ?r4 ?_); (case r0 => exact Room.le (by assumption) (by omega)); (case r1 => exact Here.keeps (by assumption) (Fr.keep (by assumption))); (case r2 => omega); (case r3 => omega); (case r4 => assumption); intro h' tk t' kp; (have F' := Fr.keeps (by assumption) kp); (have N' := News.grown (by assumption) kp); (try dsimp only); (try k_fold)))
theorem c_depends {tt i k : Nat} {t t2 t4 : Tok} (hA : Room A 4) (P : Here w s.heap) (hk : k ≤ 4) (hi : i < k) (htt : tt < 2 ^ 2 ^ k)
    (hR : ∀ h' tk, Ext s.heap h' → R (.ok (.ret (.bool (dep tt i k)))) { s with heap := h', toks := tk }) :
    codeAny (model PySem.Challenge.rw_on0088_01.row.prog w) A (.call (.ref 49) ⟨[.int (tt : Int) t, .int (i : Int) t2, .int (k : Int) t4], []⟩) R s := by
  obtain ⟨mean, mg, mb, X, T⟩ := id P
  refine' enter [("t", .int (tt : Int) t), ("i", .int (i : Int) t2), ("k", .int (k : Int) t4)] X T hA ?ho ?hcd ?hbind ?hloc ?h ?c2 ?c3 ?c4 ?c5
  case ho => k_is
  case hcd => k_is
  case hbind => exact BindsTo.of_eq rfl
  case c5 => decide
  case c2 => rfl
  case c3 => rfl
  case c4 => rfl
  case hloc => exact locs rfl
  intro L' h' F' N' hA'
  try dsimp only
  try k_fold
  k_steps
  exact hR _ _ (Fr.keep (by assumption))
end
end Mine

/-! part F2 -/
namespace Mine
theorem fillIt2 : ∀ (w : World) (h : Heap), (hd.heap_39 w.params).In h → PySem.Challenge.rw_on0088_01.row.prog = PySem.Challenge.rw_on0088_01.row.prog := by
  k_fill
  intros
  rfl

def rnTo (bs : List Nat) : Nat → Nat
  | 0 => 0
  | i + 1 => rnTo bs i + if bs.getD i 0 = 0 then 0 else 2 ^ i
def sprTo (m : Nat) (ps : List Nat) : Nat → Nat
  | 0 => 0
  | i + 1 => sprTo m ps i ||| (((m >>> i) % 2) <<< ps.getD i 0)

def tb (ks : List Nat) (row net : Nat) : Nat := if net = 0 ∨ net = 1 then net else (row >>> ks.idxOf net) % 2

section
variable {w : World} {A : Around} {s : Shared} {R : Result → Shared → Prop}
local macro_rules | `(tactic| walk_at "binaryOp LShift int int") => `(tactic| first
  | ((with_reducible refine shl1_N ?a1 ?_); (case a1 => omega); intro t')
  | ((with_reducible refine shl_N ?a1 ?a2 ?_); (case a1 => omega); (case a2 => first | assumption | omega); intro t'))
local macro_rules | `(tactic| walk_at "binaryOp Sub int int") => `(tactic| ((with_reducible refine sub1_N ?a1 ?_); (case a1 => first | omega | exact Nat.one_le_two_pow); intro t'))
local macro_rules | `(tactic| walk_at "binaryOp Add int int") => `(tactic| ((with_reducible refine add1_N ?_); intro t'))
local macro_rules | `(tactic| walk_at "inplaceOp Add int int") => `(tactic| ((with_reducible refine iadd_N ?_); intro t'))
local macro_rules | `(tactic| walk_at "inplaceOp BitOr int int") => `(tactic| ((with_reducible refine ior_N ?_); intro t'))
local macro_rules | `(tactic| walk_at "binaryOp BitXor int int") => `(tactic| ((with_reducible refine xor_N ?_); intro t'))
local macro_rules | `(tactic| walk_at "binaryOp BitAnd int int") => `(tactic| ((first | with_reducible refine and1_N ?_ | with_reducible refine and_N ?_); intro t'))
local macro_rules | `(tactic| walk_at "binaryOp BitOr int int") => `(tactic| ((with_reducible refine or_N ?_); intro t'))
local macro_rules | `(tactic| walk_at "binaryOp RShift int int") => `(tactic| ((with_reducible refine shr_N ?_); intro t'))
local macro_rules | `(tactic| walk_at "binaryOp FloorDiv int int") => `(tactic| ((with_reducible refine fdiv_N ?a1 ?a2 ?_); (case a1 => omega); (case a2 => omega); intro t'))
local macro_rules | `(tactic| walk_at "eval Call") => `(tactic| refine Call_ ?_)
local macro_rules | `(tactic| walk_at "subscriptTail Name Name ref int") => `(tactic| k_dflt (refine' item_N ?l1 ?l2 ?l3 ?l4 ?_ ?l6 ?l7; (case l1 => is_list); (case l2 => assumption); (case l3 => first | assumption | omega); (case l4 => omega); (case l6 => with_unfolding_all rfl); (case l7 => intro _; with_unfolding_all rfl); intro t'))
local macro_rules | `(tactic| walk_at "getMethod ref") => `(tactic| k_dflt (first
  | (refine' listMeth (name := PySem.Str.ofString "index") ?l1 PySem.F.slot_list_index PySem.F.type_list_index ?_; (case l1 => first | assumption | exact ListAt.keeps (by assumption) (Fr.keep (by assumption)) | exact ListAt.news (by assumption) (by k_mem)))
  | (refine' listMeth (name := PySem.Str.ofString "count") ?l1 PySem.F.slot_list_count PySem.F.type_list_count ?_; (case l1 => first | assumption | exact ListAt.keeps (by assumption) (Fr.keep (by assumption)) | exact ListAt.news (by assumption) (by k_mem)))
  | (refine' listMeth (name := PySem.Str.ofString "append") ?l1 PySem.F.slot_list_append PySem.F.type_list_append ?_; (case l1 => first | assumption | exact ListAt.keeps (by assumption) (Fr.keep (by assumption)) | exact ListAt.news (by assumption) (by k_mem)))))
local macro_rules | `(tactic| walk_at "call type:range") => `(tactic| ((rename Fr _ _ _ _ => F'); (rename News _ _ _ _ => N'); k_dflt (refine range1_rows F' N' ?_); clear F' N'; intro h' tk t₁ u₁ v₁ hrg F' N' kp))
local macro_rules | `(tactic| walk_at "call builtin:len") => `(tactic| k_dflt (refine' len_N ?l1 ?l2 ?l3 ?_; (case l1 => is_list); (case l2 => assumption); (case l3 => omega); intro t'))
local macro_rules | `(tactic| walk_at "call builtin:len") => `(tactic| k_dflt (refine' lenT_N ?l1 ?l2 ?l3 ?_; (case l1 => first | assumption | exact News.isTup (by assumption) (by k_mem) | exact IsTup.keeps (by assumption) (Fr.keep (by assumption))); (case l2 => assumption); (case l3 => omega); intro t'))
local macro_rules | `(tactic| walk_at "compareOp In int ref") => `(tactic| k_dflt (refine' in_N ?l1 ?l2 ?_; (case l1 => is_list); (case l2 => assumption)))
local macro_rules | `(tactic| walk_at "compareOp NotIn int ref") => `(tactic| k_dflt (refine' notin_N ?l1 ?l2 ?_; (case l1 => is_list); (case l2 => assumption)))
local macro_rules | `(tactic| k_all) => `(tactic| assumption)
local macro_rules | `(tactic| walk_at "call builtin:list.append") => `(tactic| k_dflt (refine' append_K ?k1 ?k2 ?k3 ?_ ?z; (case k1 => assumption); (case k2 => assumption); (case k3 => k_upd); (case z => exact fitLine (by assumption) (by decide)); intro h' F' N'))
local macro_rules | `(tactic| walk_at "call builtin:list.index") => `(tactic| k_dflt (refine' index_N ?l1 ?l2 ?l3 ?l4 ?_; (case l1 => is_list); (case l2 => assumption); (case l3 => assumption); (case l4 => assumption); intro t'))
theorem c_row_number {l : Addr} {vs : List Value} {bs : List Nat} (hA : Room A 1) (P : Here w s.heap) (hl : s.heap.IsList l vs.toArray) (hi : IntsAre vs (zs bs)) (hlen : bs.length ≤ 64)
    (hR : ∀ h' tk t', Ext s.heap h' → R (.ok (.ret (.int ((rnTo bs bs.length : Nat) : Int) t'))) { s with heap := h', toks := tk }) :
    codeAny (model PySem.Challenge.rw_on0088_01.row.prog w) A (.call (.ref 21) ⟨[.ref l], []⟩) R s := by
  obtain ⟨mean, mg, mb, X, T⟩ := id P
  refine' enter [("bits", .ref l)] X T hA ?ho ?hcd ?hbind ?hloc ?h ?c2 ?c3 ?c4 ?c5
  case ho => k_is
  case hcd => k_is
  case hbind => exact BindsTo.of_eq rfl
  case c5 => decide
  case c2 => rfl
  case c3 => rfl
  case c4 => rfl
  case hloc => exact locs rfl
  intro L' h' F' N' hA'
  try dsimp only
  try k_fold
  k_steps
  rename IsRange _ _ _ _ _ _ _ _ => hrg
  rename Fr _ _ _ _ => F2
  refine for_range (n := bs.length) (nx₀ := []) (fun i m nx => nx = [] ∧ (∃ t, m "row" = some (.int ((rnTo bs i : Nat) : Int) t)) ∧ m "bits" = some (.ref l)) hA'.1 hrg (by omega) F2 News.nil ⟨rfl, ⟨_, rfl⟩, rfl⟩ ?_ ?_
  · rintro i t m₁ nx h tk own hin ⟨rfl, ⟨tr, h1⟩, h2⟩ hne hown hI F3 N3
    have F4 := know (know F3 (y := "row") h1) (y := "bits") h2
    clear F3 F2 hrg
    try k_fold
    k_steps
    · rename ((bs.getD i 0 : Nat) : Int) ≠ 0 => hc
      refine Turn.go (nx' := []) (by assumption) (by assumption) (fun _ h => nomatch h) ⟨rfl, int_at rfl ?_, rfl⟩
      have hc' : ¬ bs.getD i 0 = 0 := by omega
      rw [rnTo, if_neg hc']
    · rename ((bs.getD i 0 : Nat) : Int) = 0 => hc
      refine Turn.go (nx' := []) (by assumption) (by assumption) (fun _ h => nomatch h) ⟨rfl, int_at rfl ?_, rfl⟩
      have hc' : bs.getD i 0 = 0 := by omega
      rw [rnTo, if_pos hc']; rfl
  · rintro m₁ nx h tk ⟨rfl, ⟨t, h1⟩, h2⟩ F3 N3
    have F4 := know F3 (y := "row") h1
    clear F3 F2 hrg
    try dsimp only
    k_steps
    exact hR _ _ _ (Fr.keep (by assumption))

theorem c_spread {mm : Nat} {t0 : Tok} {l : Addr} {vs : List Value} {ps : List Nat} (hA : Room A 1) (P : Here w s.heap) (hl : s.heap.IsList l vs.toArray) (hi : IntsAre vs (zs ps)) (hlen : ps.length ≤ 64) (hps : ∀ i, ps.getD i 0 ≤ 64)
    (hR : ∀ h' tk t', Ext s.heap h' → R (.ok (.ret (.int ((sprTo mm ps ps.length : Nat) : Int) t'))) { s with heap := h', toks := tk }) :
    codeAny (model PySem.Challenge.rw_on0088_01.row.prog w) A (.call (.ref 63) ⟨[.int (mm : Int) t0, .ref l], []⟩) R s := by
  obtain ⟨mean, mg, mb, X, T⟩ := id P
  refine' enter [("m", .int (mm : Int) t0), ("places", .ref l)] X T hA ?ho ?hcd ?hbind ?hloc ?h ?c2 ?c3 ?c4 ?c5
  case ho => k_is
  case hcd => k_is
  case hbind => exact BindsTo.of_eq rfl
  case c5 => decide
  case c2 => rfl
  case c3 => rfl
  case c4 => rfl
  case hloc => exact locs rfl
  intro L' h' F' N' hA'
  try dsimp only
  try k_fold
  k_steps
  rename IsRange _ _ _ _ _ _ _ _ => hrg
  rename Fr _ _ _ _ => F2
  refine for_range (n := ps.length) (nx₀ := []) (fun i m nx => nx = [] ∧ (∃ t, m "row" = some (.int ((sprTo mm ps i : Nat) : Int) t)) ∧ m "places" = some (.ref l) ∧ m "m" = some (.int (mm : Int) t0)) hA'.1 hrg (by omega) F2 News.nil ⟨rfl, ⟨_, rfl⟩, rfl, rfl⟩ ?_ ?_
  · rintro i t m₁ nx h tk own hin ⟨rfl, ⟨tr, h1⟩, h2, h3⟩ hne hown hI F3 N3
    have F4 := know (know (know F3 (y := "row") h1) (y := "places") h2) (y := "m") h3
    clear F3 F2 hrg
    have hp := hps i
    have hb : (mm >>> i) % 2 < 2 ^ 64 := Nat.lt_of_lt_of_le (Nat.mod_lt _ (by decide)) (by decide)
    try k_fold
    k_steps
    refine Turn.go (nx' := []) (by assumption) (by assumption) (fun _ h => nomatch h) ⟨rfl, int_at rfl ?_, rfl, rfl⟩
    rfl
  · rintro m₁ nx h tk ⟨rfl, ⟨t, h1⟩, h2⟩ F3 N3
    have F4 := know F3 (y := "row") h1
    clear F3 F2 hrg
    try dsimp only
    k_steps
    exact hR _ _ _ (Fr.keep (by assumption))

theorem c_table_bit {net row : Nat} {t0 t1 : Tok} {l : Addr} {vs : List Value} {ks : List Nat} (hA : Room A 1) (P : Here w s.heap) (hl : ListAt s.heap l vs) (hi : IntsAre vs (zs ks)) (hlay : PyData.layable0 (.list ((zs ks).map .int)) = true) (hn : 1 < net → net ∈ ks)
    (hR : ∀ h' tk t', Ext s.heap h' → R (.ok (.ret (.int ((tb ks row net : Nat) : Int) t'))) { s with heap := h', toks := tk }) :
    codeAny (model PySem.Challenge.rw_on0088_01.row.prog w) A (.call (.ref 77) ⟨[.int (net : Int) t0, .ref l, .int (row : Int) t1], []⟩) R s := by
  obtain ⟨mean, mg, mb, X, T⟩ := id P
  refine' enter [("net", .int (net : Int) t0), ("kept", .ref l), ("row", .int (row : Int) t1)] X T hA ?ho ?hcd ?hbind ?hloc ?h ?c2 ?c3 ?c4 ?c5
  case ho => k_is
  case hcd => k_is
  case hbind => exact BindsTo.of_eq rfl
  case c5 => decide
  case c2 => rfl
  case c3 => rfl
  case c4 => rfl
  case hloc => exact locs rfl
  intro L' h' F' N' hA'
  try dsimp only
  try k_fold
  have hl' := hl.is
  by_cases h0 : 1 < net
  · have hm := hn h0
    have e : tb ks row net = (row >>> ks.idxOf net) % 2 := by rw [tb, if_neg (by omega)]
    k_steps
    · exfalso; omega
    · exfalso; omega
    · rw [← e]
      exact hR _ _ _ (Fr.keep (by assumption))
  · have e : tb ks row net = net := by rw [tb, if_pos (by omega)]
    by_cases h1 : net = 0
    · subst h1
      rw [e] at hR
      k_steps
      exact hR _ _ _ (Fr.keep (by assumption))
    · have h2 : net = 1 := by omega
      subst h2
      rw [e] at hR
      k_steps
      exact hR _ _ _ (Fr.keep (by assumption))
end
end Mine

/-! part F3 -/
namespace Mine
theorem fillIt3 : ∀ (w : World) (h : Heap), (hd.heap_39 w.params).In h → PySem.Challenge.rw_on0088_01.row.prog = PySem.Challenge.rw_on0088_01.row.prog := by
  k_fill
  intros
  rfl
def sup (t k : Nat) : List Nat := (List.range k).filter fun i => dep t i k
def supTo (t k i : Nat) : List Nat := (List.range i).filter fun j => dep t j k
theorem supTo_le (t k i : Nat) : (supTo t k i).length ≤ i := by
  have := List.length_filter_le (fun j => dep t j k) (List.range i)
  rw [List.length_range] at this
  exact this
theorem supTo_yes {t k i : Nat} (h : dep t i k = true) : supTo t k (i + 1) = supTo t k i ++ [i] := by
  rw [supTo, List.range_succ, List.filter_append]; simp [h, supTo]
theorem supTo_no {t k i : Nat} (h : dep t i k = false) : supTo t k (i + 1) = supTo t k i := by
  rw [supTo, List.range_succ, List.filter_append]; simp [h, supTo]

section
variable {w : World} {A : Around} {s : Shared} {R : Result → Shared → Prop}
local macro_rules | `(tactic| walk_at "binaryOp LShift int int") => `(tactic| first
  | ((with_reducible refine shl1_N ?a1 ?_); (case a1 => omega); intro t')
  | ((with_reducible refine shl_N ?a1 ?a2 ?_); (case a1 => omega); (case a2 => first | assumption | omega); intro t'))
local macro_rules | `(tactic| walk_at "binaryOp Sub int int") => `(tactic| ((with_reducible refine sub1_N ?a1 ?_); (case a1 => first | omega | exact Nat.one_le_two_pow); intro t'))
local macro_rules | `(tactic| walk_at "binaryOp Add int int") => `(tactic| ((with_reducible refine add1_N ?_); intro t'))
local macro_rules | `(tactic| walk_at "inplaceOp Add int int") => `(tactic| ((with_reducible refine iadd_N ?_); intro t'))
local macro_rules | `(tactic| walk_at "inplaceOp BitOr int int") => `(tactic| ((with_reducible refine ior_N ?_); intro t'))
local macro_rules | `(tactic| walk_at "binaryOp BitXor int int") => `(tactic| ((with_reducible refine xor_N ?_); intro t'))
local macro_rules | `(tactic| walk_at "binaryOp BitAnd int int") => `(tactic| ((first | with_reducible refine and1_N ?_ | with_reducible refine and_N ?_); intro t'))
local macro_rules | `(tactic| walk_at "binaryOp BitOr int int") => `(tactic| ((with_reducible refine or_N ?_); intro t'))
local macro_rules | `(tactic| walk_at "binaryOp RShift int int") => `(tactic| ((with_reducible refine shr_N ?_); intro t'))
local macro_rules | `(tactic| walk_at "binaryOp FloorDiv int int") => `(tactic| ((with_reducible refine fdiv_N ?a1 ?a2 ?_); (case a1 => omega); (case a2 => omega); intro t'))
local macro_rules | `(tactic| walk_at "eval Call") => `(tactic| refine Call_ ?_)
local macro_rules | `(tactic| walk_at "subscriptTail Name Name ref int") => `(tactic| k_dflt (refine' item_N ?l1 ?l2 ?l3 ?l4 ?_ ?l6 ?l7; (case l1 => is_list); (case l2 => assumption); (case l3 => first | assumption | omega); (case l4 => omega); (case l6 => with_unfolding_all rfl); (case l7 => intro _; with_unfolding_all rfl); intro t'))
local macro_rules | `(tactic| walk_at "getMethod ref") => `(tactic| k_dflt (first
  | (refine' listMeth (name := PySem.Str.ofString "index") ?l1 PySem.F.slot_list_index PySem.F.type_list_index ?_; (case l1 => first | assumption | exact ListAt.keeps (by assumption) (Fr.keep (by assumption)) | exact ListAt.news (by assumption) (by k_mem)))
  | (refine' listMeth (name := PySem.Str.ofString "count") ?l1 PySem.F.slot_list_count PySem.F.type_list_count ?_; (case l1 => first | assumption | exact ListAt.keeps (by assumption) (Fr.keep (by assumption)) | exact ListAt.news (by assumption) (by k_mem)))
  | (refine' listMeth (name := PySem.Str.ofString "append") ?l1 PySem.F.slot_list_append PySem.F.type_list_append ?_; (case l1 => first | assumption | exact ListAt.keeps (by assumption) (Fr.keep (by assumption)) | exact ListAt.news (by assumption) (by k_mem)))))
local macro_rules | `(tactic| walk_at "call type:range") => `(tactic| ((rename Fr _ _ _ _ => F'); (rename News _ _ _ _ => N'); k_dflt (refine range1_rows F' N' ?_); clear F' N'; intro h' tk t₁ u₁ v₁ hrg F' N' kp))
local macro_rules | `(tactic| walk_at "call builtin:len") => `(tactic| k_dflt (refine' len_N ?l1 ?l2 ?l3 ?_; (case l1 => is_list); (case l2 => assumption); (case l3 => omega); intro t'))
local macro_rules | `(tactic| walk_at "call builtin:len") => `(tactic| k_dflt (refine' lenT_N ?l1 ?l2 ?l3 ?_; (case l1 => first | assumption | exact News.isTup (by assumption) (by k_mem) | exact IsTup.keeps (by assumption) (Fr.keep (by assumption))); (case l2 => assumption); (case l3 => omega); intro t'))
local macro_rules | `(tactic| walk_at "compareOp In int ref") => `(tactic| k_dflt (refine' in_N ?l1 ?l2 ?_; (case l1 => is_list); (case l2 => assumption)))
local macro_rules | `(tactic| walk_at "compareOp NotIn int ref") => `(tactic| k_dflt (refine' notin_N ?l1 ?l2 ?_; (case l1 => is_list); (case l2 => assumption)))
local macro_rules | `(tactic| k_all) => `(tactic| assumption)
local macro_rules | `(tactic| walk_at "call builtin:list.append") => `(tactic| k_dflt (refine' append_K ?k1 ?k2 ?k3 ?_ ?z; (case k1 => assumption); (case k2 => assumption); (case k3 => k_upd); (case z => exact fitLine (by assumption) (by decide)); intro h' F' N'))
local macro_rules | `(tactic| walk_at "call builtin:list.index") => `(tactic| k_dflt (refine' index_N ?l1 ?l2 ?l3 ?l4 ?_; (case l1 => is_list); (case l2 => assumption); (case l3 => assumption); (case l4 => assumption); intro t'))
local macro_rules | `(tactic| walk_at "call ref") => `(tactic| k_dflt (refine' wpAny_call (c_depends ?r0 ?r1 ?r2 ?r3 ?r4 ?_); (case r0 => exact Room.le (by assumption) (by omega)); (case r1 => exact Here.keeps (by assumption) (Fr.keep (by assumption))); (case r2 => omega); (case r3 => omega); (case r4 => assumption); intro h' tk kp; (have F' := Fr.keeps (by assumption) kp); (have N' := News.grown (by assumption) kp); (try dsimp only); (try k_fold)))
theorem c_support {tt k : Nat} {t0 t1 : Tok} (hA : Room A 5) (P : Here w s.heap) (hk : k ≤ 4) (htt : tt < 2 ^ 2 ^ k)
    (hR : ∀ h' tk a vs, Ext s.heap h' → s.heap.get? a = none → ListAt h' a vs → IntsAre vs (zs (sup tt k)) → R (.ok (.ret (.ref a))) { s with heap := h', toks := tk }) :
    codeAny (model PySem.Challenge.rw_on0088_01.row.prog w) A (.call (.ref 56) ⟨[.int (tt : Int) t0, .int (k : Int) t1], []⟩) R s := by
  obtain ⟨mean, mg, mb, X, T⟩ := id P
  refine' enter [("t", .int (tt : Int) t0), ("k", .int (k : Int) t1)] X T hA ?ho ?hcd ?hbind ?hloc ?h ?c2 ?c3 ?c4 ?c5
  case ho => k_is
  case hcd => k_is
  case hbind => exact BindsTo.of_eq rfl
  case c5 => decide
  case c2 => rfl
  case c3 => rfl
  case c4 => rfl
  case hloc => exact locs rfl
  intro L' h' F' N' hA'
  try dsimp only
  try k_fold
  k_steps
  rename IsRange _ _ _ _ _ _ _ _ => hrg
  rename Fr _ _ _ _ => F2
  rename News _ _ _ _ => N2
  refine for_range (n := k) (nx₀ := _) (fun i m nx => ∃ a vs e, nx = [(a, listOf vs.toArray e)] ∧ IntsAre vs (zs (supTo tt k i)) ∧ m "found" = some (.ref a) ∧ m "t" = some (.int (tt : Int) t0) ∧ m "k" = some (.int (k : Int) t1)) hA'.1 hrg (by omega) F2 N2 ⟨_, [], _, rfl, .nil, rfl, rfl, rfl⟩ ?_ ?_
  · rintro i t m₁ nx h tk own hin ⟨a, vs, e, rfl, hi, h1, h2, h3⟩ hne hown hI F3 N3
    have F4 := know (know (know F3 (y := "found") h1) (y := "t") h2) (y := "k") h3
    have N4 : News _ _ h ((a, listOf vs.toArray e) :: own) := N3
    clear F3 F2 hrg N3 N2
    have hna := hne (a, listOf vs.toArray e) (.head _)
    have hoa : ∀ p ∈ own, p.1 ≠ a := fun p hp q => hne _ (.head _) (q ▸ hown p hp)
    have hlv : vs.length ≤ 1000 := by
      have e1 := hi.length
      have e2 := supTo_le tt k i
      rw [zs, List.length_map] at e1
      omega
    try k_fold
    k_steps
    · rename dep tt i k = true => hc
      refine' Turn.go (nx' := [(a, listOf (vs ++ [Value.int (i : Int) ?tk9]).toArray (e + 1))]) ?F9 ?N9 (fun p hp => by rw [List.mem_singleton.mp hp]; exact hna) ?J9
      case F9 => assumption
      case N9 => rw [← push_list]; assumption
      case J9 =>
        refine ⟨a, _, _, rfl, ?_, rfl, rfl, rfl⟩
        rw [supTo_yes hc, zs, List.map_append]
        exact intsPush hi
    · rename dep tt i k = false => hc
      refine Turn.go (nx' := [(a, listOf vs.toArray e)]) (by assumption) (by assumption) (fun p hp => by rw [List.mem_singleton.mp hp]; exact hna) ⟨a, _, _, rfl, ?_, rfl, rfl, rfl⟩
      rw [supTo_no hc]
      exact hi
  · rintro m₁ nx h tk ⟨a, vs, e, rfl, hi, h1, h2, h3⟩ F3 N3
    have F4 := know F3 (y := "found") h1
    clear F3 F2 hrg N2
    try dsimp only
    k_steps
    refine hR _ _ a vs (Fr.keep (by assumption)) (N3 _ (.head _)).2.2 ⟨e, (N3 _ (.head _)).1⟩ hi
end
end Mine

/-! part F4 -/
namespace Mine
theorem fillIt4 : ∀ (w : World) (h : Heap), (hd.heap_39 w.params).In h → PySem.Challenge.rw_on0088_01.row.prog = PySem.Challenge.rw_on0088_01.row.prog := by
  k_fill
  intros
  rfl
theorem sup_len (t k : Nat) : (sup t k).length ≤ k := supTo_le t k k
theorem sup_getD (t k i : Nat) : (sup t k).getD i 0 ≤ k := by
  rw [List.getD_eq_getElem?_getD]
  cases h : (sup t k)[i]? with
  | none => exact Nat.zero_le _
  | some x =>
    have := List.mem_of_getElem? h
    rw [sup, List.mem_filter, List.mem_range] at this
    exact Nat.le_of_lt this.1
def shrTo (t : Nat) (ks : List Nat) : Nat → Nat
  | 0 => 0
  | i + 1 => shrTo t ks i ||| (((t >>> sprTo i ks ks.length) % 2) <<< i)
def shr (t k : Nat) : Nat := shrTo t (sup t k) (2 ^ (sup t k).length)

section
variable {w : World} {A : Around} {s : Shared} {R : Result → Shared → Prop}
local macro_rules | `(tactic| walk_at "binaryOp LShift int int") => `(tactic| first
  | ((with_reducible refine shl1_N ?a1 ?_); (case a1 => omega); intro t')
  | ((with_reducible refine shl_N ?a1 ?a2 ?_); (case a1 => omega); (case a2 => first | assumption | omega); intro t'))
local macro_rules | `(tactic| walk_at "binaryOp Sub int int") => `(tactic| ((with_reducible refine sub1_N ?a1 ?_); (case a1 => first | omega | exact Nat.one_le_two_pow); intro t'))
local macro_rules | `(tactic| walk_at "binaryOp Add int int") => `(tactic| ((with_reducible refine add1_N ?_); intro t'))
local macro_rules | `(tactic| walk_at "inplaceOp Add int int") => `(tactic| ((with_reducible refine iadd_N ?_); intro t'))
local macro_rules | `(tactic| walk_at "inplaceOp BitOr int int") => `(tactic| ((with_reducible refine ior_N ?_); intro t'))
local macro_rules | `(tactic| walk_at "binaryOp BitXor int int") => `(tactic| ((with_reducible refine xor_N ?_); intro t'))
local macro_rules | `(tactic| walk_at "binaryOp BitAnd int int") => `(tactic| ((first | with_reducible refine and1_N ?_ | with_reducible refine and_N ?_); intro t'))
local macro_rules | `(tactic| walk_at "binaryOp BitOr int int") => `(tactic| ((with_reducible refine or_N ?_); intro t'))
local macro_rules | `(tactic| walk_at "binaryOp RShift int int") => `(tactic| ((with_reducible refine shr_N ?_); intro t'))
local macro_rules | `(tactic| walk_at "binaryOp FloorDiv int int") => `(tactic| ((with_reducible refine fdiv_N ?a1 ?a2 ?_); (case a1 => omega); (case a2 => omega); intro t'))
local macro_rules | `(tactic| walk_at "eval Call") => `(tactic| refine Call_ ?_)
local macro_rules | `(tactic| walk_at "subscriptTail Name Name ref int") => `(tactic| k_dflt (refine' item_N ?l1 ?l2 ?l3 ?l4 ?_ ?l6 ?l7; (case l1 => is_list); (case l2 => assumption); (case l3 => first | assumption | omega); (case l4 => omega); (case l6 => with_unfolding_all rfl); (case l7 => intro _; with_unfolding_all rfl); intro t'))
local macro_rules | `(tactic| walk_at "getMethod ref") => `(tactic| k_dflt (first
  | (refine' listMeth (name := PySem.Str.ofString "index") ?l1 PySem.F.slot_list_index PySem.F.type_list_index ?_; (case l1 => first | assumption | exact ListAt.keeps (by assumption) (Fr.keep (by assumption)) | exact ListAt.news (by assumption) (by k_mem)))
  | (refine' listMeth (name := PySem.Str.ofString "count") ?l1 PySem.F.slot_list_count PySem.F.type_list_count ?_; (case l1 => first | assumption | exact ListAt.keeps (by assumption) (Fr.keep (by assumption)) | exact ListAt.news (by assumption) (by k_mem)))
  | (refine' listMeth (name := PySem.Str.ofString "append") ?l1 PySem.F.slot_list_append PySem.F.type_list_append ?_; (case l1 => first | assumption | exact ListAt.keeps (by assumption) (Fr.keep (by assumption)) | exact ListAt.news (by assumption) (by k_mem)))))
local macro_rules | `(tactic| walk_at "call type:range") => `(tactic| ((rename Fr _ _ _ _ => F'); (rename News _ _ _ _ => N'); k_dflt (refine range1_rows F' N' ?_); clear F' N'; intro h' tk t₁ u₁ v₁ hrg F' N' kp))
local macro_rules | `(tactic| walk_at "call builtin:len") => `(tactic| k_dflt (refine' len_N ?l1 ?l2 ?l3 ?_; (case l1 => is_list); (case l2 => assumption); (case l3 => omega); intro t'))
local macro_rules | `(tactic| walk_at "call builtin:len") => `(tactic| k_dflt (refine' lenT_N ?l1 ?l2 ?l3 ?_; (case l1 => first | assumption | exact News.isTup (by assumption) (by k_mem) | exact IsTup.keeps (by assumption) (Fr.keep (by assumption))); (case l2 => assumption); (case l3 => omega); intro t'))
local macro_rules | `(tactic| walk_at "compareOp In int ref") => `(tactic| k_dflt (refine' in_N ?l1 ?l2 ?_; (case l1 => is_list); (case l2 => assumption)))
local macro_rules | `(tactic| walk_at "compareOp NotIn int ref") => `(tactic| k_dflt (refine' notin_N ?l1 ?l2 ?_; (case l1 => is_list); (case l2 => assumption)))
local macro_rules | `(tactic| k_all) => `(tactic| assumption)
local macro_rules | `(tactic| walk_at "call builtin:list.append") => `(tactic| k_dflt (refine' append_K ?k1 ?k2 ?k3 ?_ ?z; (case k1 => assumption); (case k2 => assumption); (case k3 => k_upd); (case z => exact fitLine (by assumption) (by decide)); intro h' F' N'))
local macro_rules | `(tactic| walk_at "call builtin:list.index") => `(tactic| k_dflt (refine' index_N ?l1 ?l2 ?l3 ?l4 ?_; (case l1 => is_list); (case l2 => assumption); (case l3 => assumption); (case l4 => assumption); intro t'))
local macro_rules | `(tactic| walk_at "call ref") => `(tactic| k_dflt (refine' wpAny_call (c_spread ?r0 ?r1 ?r2 ?r3 ?r4 ?r5 ?_); (case r0 => exact Room.le (by assumption) (by omega)); (case r1 => exact Here.keeps (by assumption) (Fr.keep (by assumption))); (case r2 => is_list); (case r3 => assumption); (case r4 => assumption); (case r5 => assumption); intro h' tk t' kp; (have F' := Fr.keeps (by assumption) kp); (have N' := News.grown (by assumption) kp); (try dsimp only); (try k_fold)))
local macro_rules | `(tactic| walk_at "call ref") => `(tactic| k_dflt (refine' wpAny_call (c_support ?r0 ?r1 ?r2 ?r3 ?_); (case r0 => exact Room.le (by assumption) (by omega)); (case r1 => exact Here.keeps (by assumption) (Fr.keep (by assumption))); (case r2 => omega); (case r3 => assumption); intro h' tk a vs kp hn hls hin; obtain ⟨n, hle⟩ := hls; (have N' := newsAdd (by assumption) (by assumption) kp hn hle); (have F' := Fr.keeps (by assumption) kp); (try dsimp only); (try k_fold)))
theorem c_shrink {tt k : Nat} {t0 t1 : Tok} (hA : Room A 6) (P : Here w s.heap) (hk : k ≤ 4) (htt : tt < 2 ^ 2 ^ k)
    (hR : ∀ h' tk p a vs t', Ext s.heap h' → s.heap.get? p = none → s.heap.get? a = none → TupAt h' p [.int ((shr tt k : Nat) : Int) t', .ref a] → ListAt h' a vs → IntsAre vs (zs (sup tt k)) → R (.ok (.ret (.ref p))) { s with heap := h', toks := tk }) :
    codeAny (model PySem.Challenge.rw_on0088_01.row.prog w) A (.call (.ref 70) ⟨[.int (tt : Int) t0, .int (k : Int) t1], []⟩) R s := by
  obtain ⟨mean, mg, mb, X, T⟩ := id P
  refine' enter [("t", .int (tt : Int) t0), ("k", .int (k : Int) t1)] X T hA ?ho ?hcd ?hbind ?hloc ?h ?c2 ?c3 ?c4 ?c5
  case ho => k_is
  case hcd => k_is
  case hbind => exact BindsTo.of_eq rfl
  case c5 => decide
  case c2 => rfl
  case c3 => rfl
  case c4 => rfl
  case hloc => exact locs rfl
  intro L' h' F' N' hA'
  try dsimp only
  try k_fold
  have hsl := sup_len tt k
  k_steps
  rename IsRange _ _ _ _ _ _ _ _ => hrg
  rename Fr _ _ _ _ => F2
  rename News _ _ _ _ => N2
  rename IntsAre _ _ => hin
  have hp2 : 2 ^ (sup tt k).length ≤ 16 := pow2_le (by omega)
  have hl64 : (sup tt k).length ≤ 64 := by omega
  have hps : ∀ i, (sup tt k).getD i 0 ≤ 64 := fun i => Nat.le_trans (sup_getD tt k i) (by omega)
  refine for_range (n := 2 ^ (sup tt k).length) (nx₀ := _) (fun i m nx => nx = [(_, listOf _ _)] ∧ (∃ t, m "result" = some (.int ((shrTo tt (sup tt k) i : Nat) : Int) t)) ∧ m "kept" = some (.ref _) ∧ m "t" = some (.int (tt : Int) t0)) hA'.1 hrg (by omega) F2 N2 ⟨rfl, ⟨_, rfl⟩, rfl, rfl⟩ ?_ ?_
  · rintro i t m₁ nx h tk own hi ⟨rfl, ⟨tr, h1⟩, h2, h3⟩ hne hown hI F3 N3
    have F4 := know (know (know F3 (y := "result") h1) (y := "kept") h2) (y := "t") h3
    have N4 : News _ _ h ((_, listOf _ _) :: own) := N3
    have hna := hne _ (.head _)
    clear F3 F2 hrg N3 N2
    have hb : tt >>> sprTo i (sup tt k) (sup tt k).length % 2 < 2 ^ 64 := Nat.lt_of_lt_of_le (Nat.mod_lt _ (by decide)) (by decide)
    try k_fold
    k_steps
    refine' Turn.go (nx' := [(_, listOf _ _)]) ?F9 ?N9 ?I9 ?J9
    case F9 => assumption
    case N9 => assumption
    case I9 => exact fun p hp => by rw [List.mem_singleton.mp hp]; exact hna
    case J9 => exact ⟨rfl, ⟨_, rfl⟩, rfl, rfl⟩
  · rintro m₁ nx h tk ⟨rfl, ⟨tr, h1⟩, h2, h3⟩ F3 N3
    have F4 := know (know F3 (y := "result") h1) (y := "kept") h2
    clear F3 F2 hrg N2
    try dsimp only
    k_steps
    rename News _ _ _ _ => N9
    exact hR _ _ _ _ _ _ (Fr.keep (by assumption)) (N9 _ (.head _)).2.2 (N9 _ (.tail _ (.head _))).2.2 ⟨_, (N9 _ (.head _)).1⟩ ⟨_, (N9 _ (.tail _ (.head _))).1⟩ hin
end
end Mine

/-! part F5 -/
namespace Mine
theorem fillIt5 : ∀ (w : World) (h : Heap), (hd.heap_39 w.params).In h → PySem.Challenge.rw_on0088_01.row.prog = PySem.Challenge.rw_on0088_01.row.prog := by
  k_fill
  intros
  rfl
def bitsAt (ins ks : List Nat) (row : Nat) : List Nat := ins.map (tb ks row)
def tovTo (table : Nat) (ins ks : List Nat) : Nat → Nat
  | 0 => 0
  | i + 1 => tovTo table ins ks i + if (table >>> rnTo (bitsAt ins ks i) (bitsAt ins ks i).length) % 2 = 0 then 0 else 2 ^ i

theorem mem_zs {vs : List Value} {ns : List Nat} (h : IntsAre vs (zs ns)) {v : Value} (hv : v ∈ vs) : ∃ n t, n ∈ ns ∧ v = .int ((n : Nat) : Int) t := by
  induction ns generalizing vs with
  | nil => cases h; cases hv
  | cons n r ih =>
    cases h with
    | cons _ t h' =>
      rcases List.mem_cons.mp hv with rfl | hv
      · exact ⟨n, t, .head _, rfl⟩
      · obtain ⟨k, u, hk, e⟩ := ih h' hv
        exact ⟨k, u, .tail _ hk, e⟩
theorem paired_zs {g : Nat → Nat} : ∀ {vs : List Value} {ns : List Nat} {ys : List Value}, IntsAre vs (zs ns) → Paired (fun v y => ∀ n t, v = Value.int ((n : Nat) : Int) t → ∃ t', y = Value.int ((g n : Nat) : Int) t') vs ys → IntsAre ys (zs (ns.map g))
  | _, [], _, h, hp => by cases h; cases hp; exact .nil
  | _, n :: r, _, h, hp => by
    cases h with
    | cons _ t h' =>
      cases hp with
      | cons h1 h2 =>
        obtain ⟨t', rfl⟩ := h1 n t rfl
        exact .cons _ t' (paired_zs h' h2)
theorem filter_all (vs : List Value) : vs.filter (fun _ => true) = vs := by simp

section
variable {w : World} {A : Around} {s : Shared} {R : Result → Shared → Prop}
local macro_rules | `(tactic| walk_at "binaryOp LShift int int") => `(tactic| first
  | ((with_reducible refine shl1_N ?a1 ?_); (case a1 => omega); intro t')
  | ((with_reducible refine shl_N ?a1 ?a2 ?_); (case a1 => omega); (case a2 => first | assumption | omega); intro t'))
local macro_rules | `(tactic| walk_at "binaryOp Sub int int") => `(tactic| ((with_reducible refine sub1_N ?a1 ?_); (case a1 => first | omega | exact Nat.one_le_two_pow); intro t'))
local macro_rules | `(tactic| walk_at "binaryOp Add int int") => `(tactic| ((with_reducible refine add1_N ?_); intro t'))
local macro_rules | `(tactic| walk_at "inplaceOp Add int int") => `(tactic| ((with_reducible refine iadd_N ?_); intro t'))
local macro_rules | `(tactic| walk_at "inplaceOp BitOr int int") => `(tactic| ((with_reducible refine ior_N ?_); intro t'))
local macro_rules | `(tactic| walk_at "binaryOp BitXor int int") => `(tactic| ((with_reducible refine xor_N ?_); intro t'))
local macro_rules | `(tactic| walk_at "binaryOp BitAnd int int") => `(tactic| ((first | with_reducible refine and1_N ?_ | with_reducible refine and_N ?_); intro t'))
local macro_rules | `(tactic| walk_at "binaryOp BitOr int int") => `(tactic| ((with_reducible refine or_N ?_); intro t'))
local macro_rules | `(tactic| walk_at "binaryOp RShift int int") => `(tactic| ((with_reducible refine shr_N ?_); intro t'))
local macro_rules | `(tactic| walk_at "binaryOp FloorDiv int int") => `(tactic| ((with_reducible refine fdiv_N ?a1 ?a2 ?_); (case a1 => omega); (case a2 => omega); intro t'))
local macro_rules | `(tactic| walk_at "eval Call") => `(tactic| refine Call_ ?_)
local macro_rules | `(tactic| walk_at "subscriptTail Name Name ref int") => `(tactic| k_dflt (refine' item_N ?l1 ?l2 ?l3 ?l4 ?_ ?l6 ?l7; (case l1 => is_list); (case l2 => assumption); (case l3 => first | assumption | omega); (case l4 => omega); (case l6 => with_unfolding_all rfl); (case l7 => intro _; with_unfolding_all rfl); intro t'))
local macro_rules | `(tactic| walk_at "getMethod ref") => `(tactic| k_dflt (first
  | (refine' listMeth (name := PySem.Str.ofString "index") ?l1 PySem.F.slot_list_index PySem.F.type_list_index ?_; (case l1 => first | assumption | exact ListAt.keeps (by assumption) (Fr.keep (by assumption)) | exact ListAt.news (by assumption) (by k_mem)))
  | (refine' listMeth (name := PySem.Str.ofString "count") ?l1 PySem.F.slot_list_count PySem.F.type_list_count ?_; (case l1 => first | assumption | exact ListAt.keeps (by assumption) (Fr.keep (by assumption)) | exact ListAt.news (by assumption) (by k_mem)))
  | (refine' listMeth (name := PySem.Str.ofString "append") ?l1 PySem.F.slot_list_append PySem.F.type_list_append ?_; (case l1 => first | assumption | exact ListAt.keeps (by assumption) (Fr.keep (by assumption)) | exact ListAt.news (by assumption) (by k_mem)))))
local macro_rules | `(tactic| walk_at "call type:range") => `(tactic| ((rename Fr _ _ _ _ => F'); (rename News _ _ _ _ => N'); k_dflt (refine range1_rows F' N' ?_); clear F' N'; intro h' tk t₁ u₁ v₁ hrg F' N' kp))
local macro_rules | `(tactic| walk_at "call builtin:len") => `(tactic| k_dflt (refine' len_N ?l1 ?l2 ?l3 ?_; (case l1 => is_list); (case l2 => assumption); (case l3 => omega); intro t'))
local macro_rules | `(tactic| walk_at "call builtin:len") => `(tactic| k_dflt (refine' lenT_N ?l1 ?l2 ?l3 ?_; (case l1 => first | assumption | exact News.isTup (by assumption) (by k_mem) | exact IsTup.keeps (by assumption) (Fr.keep (by assumption))); (case l2 => assumption); (case l3 => omega); intro t'))
local macro_rules | `(tactic| walk_at "compareOp In int ref") => `(tactic| k_dflt (refine' in_N ?l1 ?l2 ?_; (case l1 => is_list); (case l2 => assumption)))
local macro_rules | `(tactic| walk_at "compareOp NotIn int ref") => `(tactic| k_dflt (refine' notin_N ?l1 ?l2 ?_; (case l1 => is_list); (case l2 => assumption)))
local macro_rules | `(tactic| k_all) => `(tactic| assumption)
local macro_rules | `(tactic| walk_at "call builtin:list.append") => `(tactic| k_dflt (refine' append_K ?k1 ?k2 ?k3 ?_ ?z; (case k1 => assumption); (case k2 => assumption); (case k3 => k_upd); (case z => exact fitLine (by assumption) (by decide)); intro h' F' N'))
local macro_rules | `(tactic| walk_at "call builtin:list.index") => `(tactic| k_dflt (refine' index_N ?l1 ?l2 ?l3 ?l4 ?_; (case l1 => is_list); (case l2 => assumption); (case l3 => assumption); (case l4 => assumption); intro t'))
local macro_rules | `(tactic| walk_at "exec Assign cons ListComp") => `(tactic| refine halt ?_)
local macro_rules | `(tactic| walk_at "eval Name") => `(tactic| k_dflt (first
  | (refine' gname_L ?n1 ?n2 ?_ ?n4 ?n5 ?n6; (case n1 => with_reducible assumption); (case n4 => rfl); (case n5 => rfl); (case n6 => decide); (case n2 => first | exact rfl | assumption))
  | (refine' gname_C ?n1 ?n2 ?_ ?n4 ?n5 ?n6; (case n1 => exact rfl); (case n4 => rfl); (case n5 => rfl); (case n6 => decide); (case n2 => assumption))
  | (refine' nameG_K ?n1 ?n2 ?n3 ?n4 ?_ ?n6 ?n7 ?n8 ?n9; (case n6 => rfl); (case n7 => rfl); (case n8 => rfl); (case n9 => decide); (case n1 => with_reducible assumption); (case n2 => k_asm); (case n3 => k_asm); (case n4 => k_is))))
local macro_rules | `(tactic| walk_at "call ref") => `(tactic| k_dflt (refine' wpAny_call (c_table_bit ?r0 ?r1 ?r2 ?r3 ?r4 ?r5 ?_); (case r0 => exact Room.le (by assumption) (by omega)); (case r1 => exact Here.keeps (by assumption) (Fr.keep (by assumption))); (case r2 => assumption); (case r3 => assumption); (case r4 => assumption); (case r5 => assumption); intro h' tk t' kp; (have F' := Fr.keeps (by assumption) kp); (have N' := News.grown (by assumption) kp); (try dsimp only); (try k_fold)))
local macro_rules | `(tactic| walk_at "call ref") => `(tactic| k_dflt (refine' wpAny_call (c_row_number ?r0 ?r1 ?r2 ?r3 ?r4 ?_); (case r0 => exact Room.le (by assumption) (by omega)); (case r1 => exact Here.keeps (by assumption) (Fr.keep (by assumption))); (case r2 => is_list); (case r3 => assumption); (case r4 => assumption); intro h' tk t' kp; (have F' := Fr.keeps (by assumption) kp); (have N' := News.grown (by assumption) kp); (try dsimp only); (try k_fold)))
theorem c_table_over {tab : Nat} {t0 : Tok} {li lk : Addr} {vi vk : List Value} {ins ks : List Nat} (hA : Room A 2) (P : Here w s.heap) (hli : IsTup s.heap li vi.toArray) (hvi : IntsAre vi (zs ins)) (hlk : ListAt s.heap lk vk) (hvk : IntsAre vk (zs ks))
    (hlay : PyData.layable0 (.list ((zs ks).map .int)) = true) (hks : ks.length ≤ 4) (hins : ins.length ≤ 4) (hm : ∀ n ∈ ins, 1 < n → n ∈ ks)
    (hR : ∀ h' tk t', Ext s.heap h' → R (.ok (.ret (.int ((tovTo tab ins ks (2 ^ ks.length) : Nat) : Int) t'))) { s with heap := h', toks := tk }) :
    codeAny (model PySem.Challenge.rw_on0088_01.row.prog w) A (.call (.ref 82) ⟨[.int (tab : Int) t0, .ref li, .ref lk], []⟩) R s := by
  obtain ⟨mean, mg, mb, X, T⟩ := id P
  refine' enterC [("table", .int (tab : Int) t0), ("ins", .ref li), ("kept", .ref lk)] X T hA ?ho ?hcd ?hbind ?hkind ?hnd ?h ?c2 ?c3 ?c4
  case ho => k_is
  case hcd => k_is
  case hbind => exact BindsTo.of_eq rfl
  case hkind => exact rfl
  case hnd => decide +kernel
  case c2 => rfl
  case c3 => rfl
  case c4 => rfl
  intro L' h' tk' cells' F' N' Y' hA'
  have hY := CellsAre.two Y'
  obtain ⟨oC1, oC2, hE, dC1, dC2⟩ := hY
  subst hE
  clear Y'
  try simp only [List.cons_append, List.nil_append] at N'
  try dsimp only
  try k_fold
  have hlk' := hlk.is
  k_steps
  refine For_invTF (by assumption) ?_ (fun _ => by with_unfolding_all rfl)
  k_steps
  rename IsRange _ _ _ _ _ _ _ _ => hrg
  rename Fr _ _ _ _ => F2
  rename News _ _ _ _ => N2
  have hp2 : 2 ^ ks.length ≤ 16 := pow2_le hks
  refine for_rangeT (n := 2 ^ ks.length) (nx₀ := _) (fun i m nx => ∃ oR vR, nx = [(L' + 1 + 1, oR), (L' + 1, oC2)] ∧ oR.data = .cell vR ∧ (∃ t, m "small" = some (.int ((tovTo tab ins ks i : Nat) : Int) t)) ∧ m "table" = some (.int (tab : Int) t0) ∧ m "ins" = some (.ref li)) hA'.1 hrg (by omega) F2 N2 ⟨_, _, rfl, dC1, ⟨_, rfl⟩, rfl, rfl⟩ (fun _ => by with_unfolding_all rfl) ?_ ?_
  · rintro i t m₁ nx s₁ own hi ⟨oR, vR, rfl, dR, ⟨tr, h1⟩, h2, h3⟩ hne hown hI F3 N3
    have F4 := know (know (know F3 (y := "small") h1) (y := "table") h2) (y := "ins") h3
    have N4 : News _ _ s₁.heap ((L' + 1 + 1, oR) :: (L' + 1, oC2) :: own) := N3
    have hnR := hne _ (.head _)
    have hnK := hne _ (.tail _ (.head _))
    have hoR : ∀ p ∈ own, p.1 ≠ L' + 1 + 1 := fun p hp q => hnR (q ▸ hown p hp)
    clear F3 F2 hrg N3 N2
    refine wpAny_assign_Name ?_
    try k_fold
    k_steps
    refine comp_assign (by assumption) (fun _ => true) (fun v y => ∀ n t, v = Value.int ((n : Nat) : Int) t → ∃ t', y = Value.int ((tb ks i n : Nat) : Int) t') (by with_unfolding_all rfl) hA'.1 (by with_unfolding_all rfl) (by decide) (by rfl) (by decide) (by rfl) (by rfl) (by rfl) ?_ (fun _ => by with_unfolding_all rfl)
    k_steps
    rename Fr _ _ _ _ => F5
    rename News _ _ _ _ => N5
    rename Obj.data _ = Data.cell _ => dR'
    have hlen := lenIs hvi
    refine ⟨F5.ns, li, vi, rfl, .inr (IsTup.keeps hli F5.keep), fitLine' hlen (by omega), ?_, ?_, ?_⟩
    · intro C v s₂ m₂ E' hC hv hns hxm hk
      exact comp_noifs rfl ⟨_, _, rfl, fun _ _ e => e⟩
    · intro C v s₂ m₂ E' hC hv _ hns hxm hk
      obtain ⟨n, tn, hn, rfl⟩ := mem_zs hvi hv
      have F6 : Fr _ C s₂.heap m₂ := ⟨hns, hk, hC⟩
      have F7 := know F6 hxm
      have N7 := nilOf F6
      have X7 := X.keeps F5.keep
      have T7 := T.keeps F5.keep
      have P7 := P.keeps F5.keep
      have hl7 : ListAt s₂.heap lk vk := (hlk.keeps F5.keep).keeps hk
      have cR : s₂.heap.IsCell (L' + 1 + 1) (some (.int (i : Int) t)) := ⟨_, hk _ _ (N5 _ (.head _)).1, dR'⟩
      have cK : s₂.heap.IsCell (L' + 1) (some (.ref lk)) := ⟨_, hk _ _ (N5 _ (.tail _ (.head _))).1, dC2⟩
      have hmn := hm n hn
      clear F6
      k_steps
      all_goals (try k_data)
      rename Ext _ _ => kp
      exact ⟨fun n' t' e => by cases e; exact ⟨_, rfl⟩, _, _, rfl, kp⟩
    · intro D ys h' tk hD hl hp hns hk
      have F8 : Fr s.heap L' h' _ := ⟨hns, fun b o e => hk b o (Nat.ne_of_lt (Nat.lt_of_lt_of_le (Heap.lt_size e) F5.above)) (F5.keep b o e), F5.above⟩
      obtain ⟨nD, eD⟩ := hl
      have N8 : News s.heap L' h' ((D, listOf ys.toArray nD) :: (L' + 1 + 1, _) :: (L' + 1, oC2) :: own) := newsAdd2 F5 N5 hk hD eD
      rw [filter_all] at hp
      have hys : IntsAre ys (zs (bitsAt ins ks i)) := paired_zs hvi hp
      have hbl : (bitsAt ins ks i).length ≤ 64 := by rw [bitsAt, List.length_map]; omega
      clear F5 N5 F4 N4
      dsimp only
      k_steps
      all_goals (try k_data)
      · rename ((tab >>> rnTo (bitsAt ins ks i) (bitsAt ins ks i).length % 2 : Nat) : Int) ≠ 0 => hc
        have hc' : ¬ tab >>> rnTo (bitsAt ins ks i) (bitsAt ins ks i).length % 2 = 0 := by omega
        rename Fr _ _ _ _ => F9
        rename News _ _ _ _ => N9
        have e9 : tovTo tab ins ks i + 2 ^ i = tovTo tab ins ks (i + 1) := by rw [tovTo, if_neg hc']
        refine Turn.go (nx' := [(L' + 1 + 1, _), (L' + 1, oC2)]) F9 (newsSub N9 fun p hp => .tail _ hp) (fun p hp => ?_) ⟨_, _, rfl, dR', ⟨_, congrArg (fun z : Nat => some (Value.int (z : Int) _)) e9⟩, rfl, rfl⟩
        rcases List.mem_cons.mp hp with rfl | hp
        · exact hnR
        · rw [List.mem_singleton.mp hp]; exact hnK
      · rename ((tab >>> rnTo (bitsAt ins ks i) (bitsAt ins ks i).length % 2 : Nat) : Int) = 0 => hc
        have hc' : tab >>> rnTo (bitsAt ins ks i) (bitsAt ins ks i).length % 2 = 0 := by omega
        rename Fr _ _ _ _ => F9
        rename News _ _ _ _ => N9
        have e9 : tovTo tab ins ks i = tovTo tab ins ks (i + 1) := by rw [tovTo, if_pos hc', Nat.add_zero]
        refine Turn.go (nx' := [(L' + 1 + 1, _), (L' + 1, oC2)]) F9 (newsSub N9 fun p hp => .tail _ hp) (fun p hp => ?_) ⟨_, _, rfl, dR', ⟨_, congrArg (fun z : Nat => some (Value.int (z : Int) _)) e9⟩, rfl, rfl⟩
        rcases List.mem_cons.mp hp with rfl | hp
        · exact hnR
        · rw [List.mem_singleton.mp hp]; exact hnK
  · rintro m₁ nx h tk ⟨oR, vR, rfl, dR, ⟨tr, h1⟩, h2, h3⟩ F3 N3
    have F4 := know F3 (y := "small") h1
    clear F3 F2 hrg N2
    try dsimp only
    k_steps
    all_goals (try k_data)
    exact hR _ _ _ (Fr.keep (by assumption))
end
end Mine

/-! part F6 -/
namespace Mine
theorem fillIt6 : ∀ (w : World) (h : Heap), (hd.heap_39 w.params).In h → PySem.Challenge.rw_on0088_01.row.prog = PySem.Challenge.rw_on0088_01.row.prog := by
  k_fill
  intros
  rfl
def keptStep (k : List Nat) (n : Nat) : List Nat := if 1 < n ∧ k.contains n = false then k ++ [n] else k
def keptTo (ins : List Nat) (i : Nat) : List Nat := (ins.take i).foldl keptStep []
def keptOf (ins : List Nat) : List Nat := ins.foldl keptStep []
theorem keptTo_succ {ins : List Nat} {i : Nat} (h : i < ins.length) : keptTo ins (i + 1) = keptStep (keptTo ins i) (ins.getD i 0) := by
  rw [keptTo, List.take_add_one, List.foldl_append]
  simp [keptTo, List.getD_eq_getElem?_getD, h]
theorem keptTo_all (ins : List Nat) : keptTo ins ins.length = keptOf ins := by rw [keptTo, List.take_length]; rfl
theorem sup_lt {t k n : Nat} (h : n ∈ sup t k) : n < k := by
  rw [sup, List.mem_filter, List.mem_range] at h; exact h.1
theorem keptStep_len (k : List Nat) (n : Nat) : (keptStep k n).length ≤ k.length + 1 := by
  unfold keptStep; split <;> simp
theorem kept_len (ins : List Nat) : ∀ k : List Nat, (ins.foldl keptStep k).length ≤ k.length + ins.length := by
  induction ins with
  | nil => intro k; exact Nat.le_refl _
  | cons n r ih =>
    intro k
    have h1 := ih (keptStep k n)
    have h2 := keptStep_len k n
    rw [List.foldl_cons, List.length_cons]; omega
theorem keptTo_len (ins : List Nat) (i : Nat) : (keptTo ins i).length ≤ ins.length := by
  have h := kept_len (ins.take i) []
  have h2 : (ins.take i).length ≤ ins.length := by rw [List.length_take]; omega
  have h3 : (keptTo ins i).length ≤ 0 + (ins.take i).length := h
  omega
theorem keptOf_len (ins : List Nat) : (keptOf ins).length ≤ ins.length := by rw [← keptTo_all]; exact keptTo_len ins _
theorem kept_mono {n : Nat} (ins : List Nat) : ∀ k : List Nat, n ∈ k → n ∈ ins.foldl keptStep k := by
  induction ins with
  | nil => intro k h; exact h
  | cons m r ih =>
    intro k h
    refine ih _ ?_
    unfold keptStep; split
    · exact List.mem_append_left _ h
    · exact h
theorem kept_has {n : Nat} (ins : List Nat) : ∀ k : List Nat, n ∈ ins → 1 < n → n ∈ ins.foldl keptStep k := by
  induction ins with
  | nil => intro k h; cases h
  | cons m r ih =>
    intro k h hn
    rcases List.mem_cons.mp h with rfl | h
    · refine kept_mono r _ ?_
      unfold keptStep; split
      · exact List.mem_append_right _ (.head _)
      · rename_i hc
        cases hk : k.contains n with
        | true => exact List.contains_iff_mem.mp hk
        | false => exact absurd ⟨hn, hk⟩ hc
    · exact ih _ h hn
theorem keptOf_has {ins : List Nat} {n : Nat} (h : n ∈ ins) (hn : 1 < n) : n ∈ keptOf ins := kept_has ins [] h hn
theorem kept_sub {n : Nat} (ins : List Nat) : ∀ k : List Nat, n ∈ ins.foldl keptStep k → n ∈ k ∨ n ∈ ins := by
  induction ins with
  | nil => intro k h; exact .inl h
  | cons m r ih =>
    intro k h
    rcases ih _ h with h | h
    · unfold keptStep at h; split at h
      · rcases List.mem_append.mp h with h | h
        · exact .inl h
        · exact .inr (List.mem_singleton.mp h ▸ .head _)
      · exact .inl h
    · exact .inr (.tail _ h)
theorem keptOf_sub {ins : List Nat} {n : Nat} (h : n ∈ keptOf ins) : n ∈ ins := (kept_sub ins [] h).resolve_left (fun h => nomatch h)
theorem tov_lt (tab : Nat) (ins ks : List Nat) : ∀ n, tovTo tab ins ks n < 2 ^ n
  | 0 => Nat.one_pos
  | n + 1 => by
    have h := tov_lt tab ins ks n
    rw [tovTo, Nat.pow_succ]
    split <;> omega
def tabS (tab : Nat) (ins : List Nat) : Nat := tovTo tab ins (keptOf ins) (2 ^ (keptOf ins).length)
def smallOf (tab : Nat) (ins : List Nat) : Nat := shr (tabS tab ins) (keptOf ins).length
def netsOf (tab : Nat) (ins : List Nat) : List Nat := (sup (tabS tab ins) (keptOf ins).length).map fun p => (keptOf ins).getD p 0
def kindOf' (tab : Nat) (ins : List Nat) : Str := if (netsOf tab ins).length = 0 then Str.ofString "buf" else if (netsOf tab ins).length = 1 then (if smallOf tab ins = 2 then Str.ofString "buf" else Str.ofString "not") else Str.ofString "lut"
def outNets (tab : Nat) (ins : List Nat) : List Nat := if (netsOf tab ins).length = 0 then [smallOf tab ins % 2] else netsOf tab ins
def outTab (tab : Nat) (ins : List Nat) : Option Nat := if (netsOf tab ins).length = 0 then none else if (netsOf tab ins).length = 1 then none else some (smallOf tab ins)
def TabVal : Value → Option Nat → Prop
  | .none, none => True
  | .int x _, some n => x = ((n : Nat) : Int)
  | _, _ => False

section
variable {w : World} {A : Around} {s : Shared} {R : Result → Shared → Prop}
local macro_rules | `(tactic| walk_at "binaryOp LShift int int") => `(tactic| first
  | ((with_reducible refine shl1_N ?a1 ?_); (case a1 => omega); intro t')
  | ((with_reducible refine shl_N ?a1 ?a2 ?_); (case a1 => omega); (case a2 => first | assumption | omega); intro t'))
local macro_rules | `(tactic| walk_at "binaryOp Sub int int") => `(tactic| ((with_reducible refine sub1_N ?a1 ?_); (case a1 => first | omega | exact Nat.one_le_two_pow); intro t'))
local macro_rules | `(tactic| walk_at "binaryOp Add int int") => `(tactic| ((with_reducible refine add1_N ?_); intro t'))
local macro_rules | `(tactic| walk_at "inplaceOp Add int int") => `(tactic| ((with_reducible refine iadd_N ?_); intro t'))
local macro_rules | `(tactic| walk_at "inplaceOp BitOr int int") => `(tactic| ((with_reducible refine ior_N ?_); intro t'))
local macro_rules | `(tactic| walk_at "binaryOp BitXor int int") => `(tactic| ((with_reducible refine xor_N ?_); intro t'))
local macro_rules | `(tactic| walk_at "binaryOp BitAnd int int") => `(tactic| ((first | with_reducible refine and1_N ?_ | with_reducible refine and_N ?_); intro t'))
local macro_rules | `(tactic| walk_at "binaryOp BitOr int int") => `(tactic| ((with_reducible refine or_N ?_); intro t'))
local macro_rules | `(tactic| walk_at "binaryOp RShift int int") => `(tactic| ((with_reducible refine shr_N ?_); intro t'))
local macro_rules | `(tactic| walk_at "binaryOp FloorDiv int int") => `(tactic| ((with_reducible refine fdiv_N ?a1 ?a2 ?_); (case a1 => omega); (case a2 => omega); intro t'))
local macro_rules | `(tactic| walk_at "eval Call") => `(tactic| refine Call_ ?_)
local macro_rules | `(tactic| walk_at "subscriptTail Name Name ref int") => `(tactic| k_dflt (refine' item_N ?l1 ?l2 ?l3 ?l4 ?_ ?l6 ?l7; (case l1 => is_list); (case l2 => assumption); (case l3 => first | assumption | omega); (case l4 => omega); (case l6 => with_unfolding_all rfl); (case l7 => intro _; with_unfolding_all rfl); intro t'))
local macro_rules | `(tactic| walk_at "getMethod ref") => `(tactic| k_dflt (first
  | (refine' listMeth (name := PySem.Str.ofString "index") ?l1 PySem.F.slot_list_index PySem.F.type_list_index ?_; (case l1 => first | assumption | exact ListAt.keeps (by assumption) (Fr.keep (by assumption)) | exact ListAt.news (by assumption) (by k_mem)))
  | (refine' listMeth (name := PySem.Str.ofString "count") ?l1 PySem.F.slot_list_count PySem.F.type_list_count ?_; (case l1 => first | assumption | exact ListAt.keeps (by assumption) (Fr.keep (by assumption)) | exact ListAt.news (by assumption) (by k_mem)))
  | (refine' listMeth (name := PySem.Str.ofString "append") ?l1 PySem.F.slot_list_append PySem.F.type_list_append ?_; (case l1 => first | assumption | exact ListAt.keeps (by assumption) (Fr.keep (by assumption)) | exact ListAt.news (by assumption) (by k_mem)))))
local macro_rules | `(tactic| walk_at "call type:range") => `(tactic| ((rename Fr _ _ _ _ => F'); (rename News _ _ _ _ => N'); k_dflt (refine range1_rows F' N' ?_); clear F' N'; intro h' tk t₁ u₁ v₁ hrg F' N' kp))
local macro_rules | `(tactic| walk_at "call builtin:len") => `(tactic| k_dflt (refine' len_N ?l1 ?l2 ?l3 ?_; (case l1 => is_list); (case l2 => assumption); (case l3 => omega); intro t'))
local macro_rules | `(tactic| walk_at "call builtin:len") => `(tactic| k_dflt (refine' lenT_N ?l1 ?l2 ?l3 ?_; (case l1 => first | assumption | exact News.isTup (by assumption) (by k_mem) | exact IsTup.keeps (by assumption) (Fr.keep (by assumption))); (case l2 => assumption); (case l3 => omega); intro t'))
local macro_rules | `(tactic| walk_at "compareOp In int ref") => `(tactic| k_dflt (refine' in_N ?l1 ?l2 ?_; (case l1 => is_list); (case l2 => assumption)))
local macro_rules | `(tactic| walk_at "compareOp NotIn int ref") => `(tactic| k_dflt (refine' notin_N ?l1 ?l2 ?_; (case l1 => is_list); (case l2 => assumption)))
local macro_rules | `(tactic| k_all) => `(tactic| assumption)
local macro_rules | `(tactic| walk_at "call builtin:list.append") => `(tactic| k_dflt (refine' append_K ?k1 ?k2 ?k3 ?_ ?z; (case k1 => assumption); (case k2 => assumption); (case k3 => k_upd); (case z => exact fitLine (by assumption) (by decide)); intro h' F' N'))
local macro_rules | `(tactic| walk_at "call builtin:list.index") => `(tactic| k_dflt (refine' index_N ?l1 ?l2 ?l3 ?l4 ?_; (case l1 => is_list); (case l2 => assumption); (case l3 => assumption); (case l4 => assumption); intro t'))
local macro_rules | `(tactic| walk_at "exec Assign cons ListComp") => `(tactic| refine halt ?_)
local macro_rules | `(tactic| walk_at "eval ListComp") => `(tactic| refine halt ?_)
local macro_rules | `(tactic| walk_at "pyIter ref") => `(tactic| refine halt ?_)
local macro_rules | `(tactic| walk_at "eval Name") => `(tactic| k_dflt (first
  | (refine' gname_L ?n1 ?n2 ?_ ?n4 ?n5 ?n6; (case n1 => with_reducible assumption); (case n4 => rfl); (case n5 => rfl); (case n6 => decide); (case n2 => first | exact rfl | assumption))
  | (refine' gname_C ?n1 ?n2 ?_ ?n4 ?n5 ?n6; (case n1 => exact rfl); (case n4 => rfl); (case n5 => rfl); (case n6 => decide); (case n2 => assumption))
  | (refine' nameG_K ?n1 ?n2 ?n3 ?n4 ?_ ?n6 ?n7 ?n8 ?n9; (case n6 => rfl); (case n7 => rfl); (case n8 => rfl); (case n9 => decide); (case n1 => with_reducible assumption); (case n2 => k_asm); (case n3 => k_asm); (case n4 => k_is))))
local macro_rules | `(tactic| walk_at "call ref") => `(tactic| k_dflt (refine' wpAny_call (c_shrink ?r0 ?r1 ?r2 ?r3 ?_); (case r0 => exact Room.le (by assumption) (by omega)); (case r1 => exact Here.keeps (by assumption) (Fr.keep (by assumption))); (case r2 => omega); (case r3 => assumption); intro h' tk p a vs t' kp hnp hna htp hls hin; obtain ⟨np, hpe⟩ := htp; obtain ⟨n, hle⟩ := hls; (have N' := newsPut (by assumption) (newsPut (by assumption) (News.grown (by assumption) kp) hna hle) hnp hpe); (have F' := Fr.keeps (by assumption) kp); (try dsimp only); (try k_fold)))
local macro_rules | `(tactic| walk_at "call ref") => `(tactic| k_dflt (refine' wpAny_call (c_table_over ?r0 ?r1 ?r2 ?r3 ?r4 ?r5 ?r6 ?r7 ?r8 ?r9 ?_); (case r0 => exact Room.le (by assumption) (by omega)); (case r1 => exact Here.keeps (by assumption) (Fr.keep (by assumption))); (case r2 => first | assumption | exact IsTup.keeps (by assumption) (Fr.keep (by assumption))); (case r3 => assumption); (case r4 => first | assumption | exact ListAt.news (by assumption) (by k_mem)); (case r5 => assumption); (case r6 => assumption); (case r7 => omega); (case r8 => omega); (case r9 => assumption); intro h' tk t' kp; (have F' := Fr.keeps (by assumption) kp); (have N' := News.grown (by assumption) kp); (try dsimp only); (try k_fold)))
theorem c_table_form {tab : Nat} {t0 : Tok} {li : Addr} {vi : List Value} {ins : List Nat} (hA : Room A 7) (P : Here w s.heap) (hli : IsTup s.heap li vi.toArray) (hvi : IntsAre vi (zs ins))
    (hb : ∀ n ∈ ins, n < 2 ^ 20) (hins : ins.length ≤ 4)
    (hR : ∀ h' tk p q vn kt tv, Ext s.heap h' → s.heap.get? p = none → s.heap.get? q = none → TupAt h' p [.str (kindOf' tab ins) kt, .ref q, tv] → TupAt h' q vn → IntsAre vn (zs (outNets tab ins)) → TabVal tv (outTab tab ins) → R (.ok (.ret (.ref p))) { s with heap := h', toks := tk }) :
    codeAny (model PySem.Challenge.rw_on0088_01.row.prog w) A (.call (.ref 87) ⟨[.int (tab : Int) t0, .ref li], []⟩) R s := by
  have hvi9 : ∀ {_ : Unit}, IntsAre vi (zs ins) := fun {_} => hvi
  obtain ⟨hnd, dp, fr, gs, un⟩ := A
  have hnd0 : hnd = none := hA.1
  subst hnd0
  obtain ⟨mean, mg, mb, X, T⟩ := id P
  refine' enterC [("table", .int (tab : Int) t0), ("ins", .ref li)] X T hA ?ho ?hcd ?hbind ?hkind ?hnd ?h ?c2 ?c3 ?c4
  case ho => k_is
  case hcd => k_is
  case hbind => exact BindsTo.of_eq rfl
  case hkind => exact rfl
  case hnd => decide +kernel
  case c2 => rfl
  case c3 => rfl
  case c4 => rfl
  intro L' h' tk' cells' F' N' Y' hA'
  have hY := CellsAre.one Y'
  obtain ⟨oC1, hE, dC1⟩ := hY
  subst hE
  clear Y'
  try simp only [List.cons_append, List.nil_append] at N'
  try dsimp only
  try k_fold
  k_steps
  have hvi := @hvi9 ()
  rename_i l' hA1 lt1 hB1 oC2 lF lN dC2
  have hli' := IsTup.keeps hli lF.keep
  refine for_tuple (nx₀ := _) (fun i m nx => ∃ vs e oC, nx = [(l', listOf vs.toArray e), (L' + 1, oC)] ∧ oC.data = .cell (some (.ref l')) ∧ IntsAre vs (zs (keptTo ins i)) ∧ m "table" = some (.int (tab : Int) t0) ∧ m "ins" = some (.ref li)) hA'.1 hli' (neTup hli lF) lF lN ⟨[], _, _, rfl, dC2, .nil, rfl, rfl⟩ ?_ ?_
  · rintro i v m₁ nx h tk own hv ⟨vs, e, oC, rfl, dC, hi, h1, h2⟩ hne hown hI hlt F3 N3
    obtain ⟨hin, hmem, t, rfl⟩ := get_zs hvi hv
    have F4 := know (know F3 (y := "table") h1) (y := "ins") h2
    have N4 : News _ _ h ((l', listOf vs.toArray e) :: (L' + 1, oC) :: own) := N3
    have hn1 := hne _ (.head _)
    have hn2 := hne _ (.tail _ (.head _))
    have hcell : h.IsCell (L' + 1) (some (.ref l')) := ⟨_, (N4 _ (.tail _ (.head _))).1, dC⟩
    have hol : ∀ p ∈ own, p.1 ≠ l' := fun p hp q => by
      rcases hown p hp with e1 | e1
      · exact hn1 (q ▸ e1)
      · have e2 := (N3 p (List.mem_append_right _ hp)).2.2
        obtain ⟨o9, e3, _⟩ := hli
        rw [e1, e3] at e2; cases e2
    have hlv : vs.length ≤ 1000 := by
      have e1 := lenIs hi
      have e2 := keptTo_len ins i
      omega
    clear F3 N3 lF lN hlt
    try k_fold
    k_steps
    · rename (keptTo ins i).contains (ins.getD i 0) = true => hc
      rename Fr _ _ _ _ => F9
      have e9 : keptTo ins (i + 1) = keptTo ins i := by rw [keptTo_succ hin, keptStep, if_neg (by rw [hc]; exact fun h => nomatch h.2)]
      refine Turn.go (nx' := [(l', listOf vs.toArray e), (L' + 1, oC)]) F9 N4 (fun p hp => ?_) ⟨vs, e, oC, rfl, dC, by rw [e9]; exact hi, rfl, rfl⟩
      rcases List.mem_cons.mp hp with rfl | hp
      · exact hn1
      · rw [List.mem_singleton.mp hp]; exact hn2
    · rename (keptTo ins i).contains (ins.getD i 0) = false => hc
      rename 1 < ((ins.getD i 0 : Nat) : Int) => hg
      rename Fr _ _ _ _ => F9
      rename News _ _ _ _ => N9
      have e9 : keptTo ins (i + 1) = keptTo ins i ++ [ins.getD i 0] := by rw [keptTo_succ hin, keptStep, if_pos ⟨by omega, hc⟩]
      rw [push_list] at N9
      refine Turn.go (nx' := [(l', listOf _ _), (L' + 1, oC)]) F9 N9 (fun p hp => ?_) ⟨_, _, oC, rfl, dC, by rw [e9, zs, List.map_append]; exact intsPush hi, rfl, rfl⟩
      rcases List.mem_cons.mp hp with rfl | hp
      · exact hn1
      · rw [List.mem_singleton.mp hp]; exact hn2
    · rename ¬ 1 < ((ins.getD i 0 : Nat) : Int) => hg
      rename Fr _ _ _ _ => F9
      have e9 : keptTo ins (i + 1) = keptTo ins i := by rw [keptTo_succ hin, keptStep, if_neg (by omega)]
      refine Turn.go (nx' := [(l', listOf vs.toArray e), (L' + 1, oC)]) F9 N4 (fun p hp => ?_) ⟨vs, e, oC, rfl, dC, by rw [e9]; exact hi, rfl, rfl⟩
      rcases List.mem_cons.mp hp with rfl | hp
      · exact hn1
      · rw [List.mem_singleton.mp hp]; exact hn2
  · rintro m₁ nx h tk ⟨vs, e, oC, rfl, dC, hi, h1, h2⟩ F3 N3
    have F4 := know (know F3 (y := "table") h1) (y := "ins") h2
    rw [show vi.length = ins.length from lenIs hvi, keptTo_all] at hi
    have hkl := keptOf_len ins
    have hlay : PyData.layable0 (.list ((zs (keptOf ins)).map .int)) = true := lay_zs (fun n hn => hb n (keptOf_sub hn)) (by omega)
    have hmem : ∀ n ∈ ins, 1 < n → n ∈ keptOf ins := fun n hn h => keptOf_has hn h
    have htt : tovTo tab ins (keptOf ins) (2 ^ (keptOf ins).length) < 2 ^ 2 ^ (keptOf ins).length := tov_lt _ _ _ _
    have hlk : ListAt h l' vs := ⟨e, (N3 _ (.head _)).1⟩
    clear F3 lF lN hli'
    try dsimp only
    k_steps
    rename Fr _ _ _ _ => F5
    rename News _ _ _ _ => N5
    rename IntsAre _ (zs (sup _ _)) => hsup
    refine comp_eval (fun _ => true) (fun v y => ∀ n t, v = Value.int ((n : Nat) : Int) t → ∃ t', y = Value.int (((keptOf ins).getD n 0 : Nat) : Int) t') rfl (by with_unfolding_all rfl) (by decide) (by rfl) (by decide) (by rfl) ?_ (fun _ => by with_unfolding_all rfl)
    k_steps
    refine ⟨_, _, rfl, .inl (News.isList N5 (by k_mem)), fitLine' (lenIs hsup) (Nat.le_trans (sup_len _ _) (by omega)), ?_, ?_, ?_⟩
    · intro C v s₂ m₂ E' hC hv hns hxm hk
      exact comp_noifs rfl ⟨_, _, rfl, fun _ _ e => e⟩
    · intro C v s₂ m₂ E' hC hv _ hns hxm hk
      obtain ⟨n, tn, hn, rfl⟩ := mem_zs hsup hv
      have hnk := sup_lt hn
      have F6 : Fr _ C s₂.heap m₂ := ⟨hns, hk, hC⟩
      have F7 := know F6 hxm
      have N7 := nilOf F6
      have hl7 : s₂.heap.IsList l' vs.toArray := ((News.isList N5 (by k_mem)) : Heap.IsList _ l' vs.toArray).at (fun o e => hk _ _ e)
      have cK : s₂.heap.IsCell (L' + 1) (some (.ref l')) := ⟨_, hk _ _ (N5 (L' + 1, oC) (by k_mem)).1, dC⟩
      clear F6
      k_steps
      all_goals (try k_data)
      exact ⟨fun n' t' e => by cases e; exact ⟨_, rfl⟩, _, _, rfl, fun _ _ e => e⟩
    · intro D ys h' tk hD hl hp kp
      have F8 := Fr.keeps F5 kp
      obtain ⟨nD, eD⟩ := hl
      have N8 := newsPut F5 (News.grown N5 kp) hD eD
      rw [filter_all] at hp
      have hys : IntsAre ys (zs (netsOf tab ins)) := paired_zs hsup hp
      have hnl : (netsOf tab ins).length ≤ 4 := by rw [netsOf, List.length_map]; exact Nat.le_trans (sup_len _ _) (by omega)
      clear F5 N5
      dsimp only
      k_steps
      all_goals (try k_data)
      · rename ((netsOf tab ins).length : Int) = 0 => hz
        have hz0 : (netsOf tab ins).length = 0 := by omega
        rename Fr _ _ _ _ => F9
        rename News _ _ _ _ => N9
        have k1 : kindOf' tab ins = Str.ofString "buf" := by rw [kindOf', if_pos hz0]
        have k2 : outNets tab ins = [smallOf tab ins % 2] := by rw [outNets, if_pos hz0]
        have k3 : outTab tab ins = none := by rw [outTab, if_pos hz0]
        simp only [k1, k2, k3] at hR
        exact hR _ _ _ _ _ _ _ F9.keep (N9 _ (.head _)).2.2 (N9 _ (.tail _ (.head _))).2.2 ⟨_, (N9 _ (.head _)).1⟩ ⟨_, (N9 _ (.tail _ (.head _))).1⟩ (.cons _ _ .nil) True.intro
      · rename ((netsOf tab ins).length : Int) = 1 => ho
        have ho1 : (netsOf tab ins).length = 1 := by omega
        have hz0 : ¬ (netsOf tab ins).length = 0 := by omega
        rename ((shr _ _ : Nat) : Int) = 2 => hs
        have hs2 : smallOf tab ins = 2 := by show shr (tovTo tab ins (keptOf ins) (2 ^ (keptOf ins).length)) (keptOf ins).length = 2; omega
        rename Fr _ _ _ _ => F9
        rename News _ _ _ _ => N9
        have k1 : kindOf' tab ins = Str.ofString "buf" := by rw [kindOf', if_neg hz0, if_pos ho1, if_pos hs2]
        have k2 : outNets tab ins = netsOf tab ins := by rw [outNets, if_neg hz0]
        have k3 : outTab tab ins = none := by rw [outTab, if_neg hz0, if_pos ho1]
        simp only [k1, k2, k3] at hR
        exact hR _ _ _ _ _ _ _ F9.keep (N9 _ (.head _)).2.2 (N9 _ (.tail _ (.head _))).2.2 ⟨_, (N9 _ (.head _)).1⟩ ⟨_, (N9 _ (.tail _ (.head _))).1⟩ hys True.intro
      · rename ((netsOf tab ins).length : Int) = 1 => ho
        have ho1 : (netsOf tab ins).length = 1 := by omega
        have hz0 : ¬ (netsOf tab ins).length = 0 := by omega
        rename ((shr _ _ : Nat) : Int) ≠ 2 => hs
        have hs2 : ¬ smallOf tab ins = 2 := by show ¬ shr (tovTo tab ins (keptOf ins) (2 ^ (keptOf ins).length)) (keptOf ins).length = 2; omega
        rename Fr _ _ _ _ => F9
        rename News _ _ _ _ => N9
        have k1 : kindOf' tab ins = Str.ofString "not" := by rw [kindOf', if_neg hz0, if_pos ho1, if_neg hs2]
        have k2 : outNets tab ins = netsOf tab ins := by rw [outNets, if_neg hz0]
        have k3 : outTab tab ins = none := by rw [outTab, if_neg hz0, if_pos ho1]
        simp only [k1, k2, k3] at hR
        exact hR _ _ _ _ _ _ _ F9.keep (N9 _ (.head _)).2.2 (N9 _ (.tail _ (.head _))).2.2 ⟨_, (N9 _ (.head _)).1⟩ ⟨_, (N9 _ (.tail _ (.head _))).1⟩ hys True.intro
      · rename ((netsOf tab ins).length : Int) ≠ 1 => ho
        rename ((netsOf tab ins).length : Int) ≠ 0 => hz
        have ho1 : ¬ (netsOf tab ins).length = 1 := by omega
        have hz0 : ¬ (netsOf tab ins).length = 0 := by omega
        rename Fr _ _ _ _ => F9
        rename News _ _ _ _ => N9
        have k1 : kindOf' tab ins = Str.ofString "lut" := by rw [kindOf', if_neg hz0, if_neg ho1]
        have k2 : outNets tab ins = netsOf tab ins := by rw [outNets, if_neg hz0]
        have k3 : outTab tab ins = some (smallOf tab ins) := by rw [outTab, if_neg hz0, if_neg ho1]
        simp only [k1, k2, k3] at hR
        exact hR _ _ _ _ _ _ _ F9.keep (N9 _ (.head _)).2.2 (N9 _ (.tail _ (.head _))).2.2 ⟨_, (N9 _ (.head _)).1⟩ ⟨_, (N9 _ (.tail _ (.head _))).1⟩ hys rfl
end
end Mine

/-! part F7 -/
namespace Mine
theorem fillIt7 : ∀ (w : World) (h : Heap), (hd.heap_39 w.params).In h → PySem.Challenge.rw_on0088_01.row.prog = PySem.Challenge.rw_on0088_01.row.prog := by
  k_fill
  intros
  rfl
section
variable {w : World} {A : Around} {s : Shared} {R : Result → Shared → Prop}
local macro_rules | `(tactic| walk_at "binaryOp LShift int int") => `(tactic| first
  | ((with_reducible refine shl1_N ?a1 ?_); (case a1 => omega); intro t')
  | ((with_reducible refine shl_N ?a1 ?a2 ?_); (case a1 => omega); (case a2 => first | assumption | omega); intro t'))
local macro_rules | `(tactic| walk_at "binaryOp Sub int int") => `(tactic| ((with_reducible refine sub1_N ?a1 ?_); (case a1 => first | omega | exact Nat.one_le_two_pow); intro t'))
local macro_rules | `(tactic| walk_at "binaryOp Add int int") => `(tactic| ((with_reducible refine add1_N ?_); intro t'))
local macro_rules | `(tactic| walk_at "inplaceOp Add int int") => `(tactic| ((with_reducible refine iadd_N ?_); intro t'))
local macro_rules | `(tactic| walk_at "inplaceOp BitOr int int") => `(tactic| ((with_reducible refine ior_N ?_); intro t'))
local macro_rules | `(tactic| walk_at "binaryOp BitXor int int") => `(tactic| ((with_reducible refine xor_N ?_); intro t'))
local macro_rules | `(tactic| walk_at "binaryOp BitAnd int int") => `(tactic| ((first | with_reducible refine and1_N ?_ | with_reducible refine and_N ?_); intro t'))
local macro_rules | `(tactic| walk_at "binaryOp BitOr int int") => `(tactic| ((with_reducible refine or_N ?_); intro t'))
local macro_rules | `(tactic| walk_at "binaryOp RShift int int") => `(tactic| ((with_reducible refine shr_N ?_); intro t'))
local macro_rules | `(tactic| walk_at "binaryOp FloorDiv int int") => `(tactic| ((with_reducible refine fdiv_N ?a1 ?a2 ?_); (case a1 => omega); (case a2 => omega); intro t'))
local macro_rules | `(tactic| walk_at "eval Call") => `(tactic| refine Call_ ?_)
local macro_rules | `(tactic| walk_at "subscriptTail Name Name ref int") => `(tactic| k_dflt (refine' item_N ?l1 ?l2 ?l3 ?l4 ?_ ?l6 ?l7; (case l1 => is_list); (case l2 => assumption); (case l3 => first | assumption | omega); (case l4 => omega); (case l6 => with_unfolding_all rfl); (case l7 => intro _; with_unfolding_all rfl); intro t'))
local macro_rules | `(tactic| walk_at "getMethod ref") => `(tactic| k_dflt (first
  | (refine' listMeth (name := PySem.Str.ofString "index") ?l1 PySem.F.slot_list_index PySem.F.type_list_index ?_; (case l1 => first | assumption | exact ListAt.keeps (by assumption) (Fr.keep (by assumption)) | exact ListAt.news (by assumption) (by k_mem)))
  | (refine' listMeth (name := PySem.Str.ofString "count") ?l1 PySem.F.slot_list_count PySem.F.type_list_count ?_; (case l1 => first | assumption | exact ListAt.keeps (by assumption) (Fr.keep (by assumption)) | exact ListAt.news (by assumption) (by k_mem)))
  | (refine' listMeth (name := PySem.Str.ofString "append") ?l1 PySem.F.slot_list_append PySem.F.type_list_append ?_; (case l1 => first | assumption | exact ListAt.keeps (by assumption) (Fr.keep (by assumption)) | exact ListAt.news (by assumption) (by k_mem)))))
local macro_rules | `(tactic| walk_at "call type:range") => `(tactic| ((rename Fr _ _ _ _ => F'); (rename News _ _ _ _ => N'); k_dflt (refine range1_rows F' N' ?_); clear F' N'; intro h' tk t₁ u₁ v₁ hrg F' N' kp))
local macro_rules | `(tactic| walk_at "call builtin:len") => `(tactic| k_dflt (refine' len_N ?l1 ?l2 ?l3 ?_; (case l1 => is_list); (case l2 => assumption); (case l3 => omega); intro t'))
local macro_rules | `(tactic| walk_at "call builtin:len") => `(tactic| k_dflt (refine' lenT_N ?l1 ?l2 ?l3 ?_; (case l1 => first | assumption | exact News.isTup (by assumption) (by k_mem) | exact IsTup.keeps (by assumption) (Fr.keep (by assumption))); (case l2 => assumption); (case l3 => omega); intro t'))
local macro_rules | `(tactic| walk_at "compareOp In int ref") => `(tactic| k_dflt (refine' in_N ?l1 ?l2 ?_; (case l1 => is_list); (case l2 => assumption)))
local macro_rules | `(tactic| walk_at "compareOp NotIn int ref") => `(tactic| k_dflt (refine' notin_N ?l1 ?l2 ?_; (case l1 => is_list); (case l2 => assumption)))
local macro_rules | `(tactic| k_all) => `(tactic| assumption)
local macro_rules | `(tactic| walk_at "call builtin:list.append") => `(tactic| k_dflt (refine' append_K ?k1 ?k2 ?k3 ?_ ?z; (case k1 => assumption); (case k2 => assumption); (case k3 => k_upd); (case z => exact fitLine (by assumption) (by decide)); intro h' F' N'))
local macro_rules | `(tactic| walk_at "call builtin:list.index") => `(tactic| k_dflt (refine' index_N ?l1 ?l2 ?l3 ?l4 ?_; (case l1 => is_list); (case l2 => assumption); (case l3 => assumption); (case l4 => assumption); intro t'))
local macro_rules | `(tactic| walk_at "call ref") => `(tactic| k_dflt (refine' wpAny_call (c_table_form ?r0 ?r1 ?r2 ?r3 ?r4 ?r5 ?_); (case r0 => exact Room.le (by assumption) (by omega)); (case r1 => exact Here.keeps (by assumption) (Fr.keep (by assumption))); (case r2 => first | assumption | exact IsTup.keeps (by assumption) (Fr.keep (by assumption))); (case r3 => assumption); (case r4 => assumption); (case r5 => omega); intro h' tk p q vn kt tv kp hnp hnq htp htq hin htv; obtain ⟨np, hpe⟩ := htp; obtain ⟨nq, hqe⟩ := htq; (have N' := newsPut (by assumption) (newsPut (by assumption) (News.grown (by assumption) kp) hnq hqe) hnp hpe); (have F' := Fr.keeps (by assumption) kp); (try dsimp only); (try k_fold)))
theorem c_library_form {tab : Nat} {tg t1 : Tok} {li lp : Addr} {vi : List Value} {ins : List Nat} {g : Str} (hA : Room A 8) (P : Here w s.heap) (hli : IsTup s.heap li vi.toArray) (hvi : IntsAre vi (zs ins)) (hlp : TupAt s.heap lp [.str g tg, .int (tab : Int) t1])
    (hb : ∀ n ∈ ins, n < 2 ^ 20) (hins : ins.length ≤ 4)
    (hR1 : kindOf' tab ins = Str.ofString "lut" → ∀ h' tk p kt, Ext s.heap h' → s.heap.get? p = none → TupAt h' p [.str (Str.ofString "cell") kt, .ref li, .ref lp] → R (.ok (.ret (.ref p))) { s with heap := h', toks := tk })
    (hR2 : ¬ kindOf' tab ins = Str.ofString "lut" → ∀ h' tk p q vn kt, Ext s.heap h' → s.heap.get? p = none → s.heap.get? q = none → TupAt h' p [.str (kindOf' tab ins) kt, .ref q, .none] → TupAt h' q vn → IntsAre vn (zs (outNets tab ins)) → R (.ok (.ret (.ref p))) { s with heap := h', toks := tk }) :
    codeAny (model PySem.Challenge.rw_on0088_01.row.prog w) A (.call (.ref 94) ⟨[.ref li, .ref lp], []⟩) R s := by
  obtain ⟨hnd, dp, fr, gs, un⟩ := A
  have hnd0 : hnd = none := hA.1
  subst hnd0
  obtain ⟨mean, mg, mb, X, T⟩ := id P
  refine' enter [("ins", .ref li), ("param", .ref lp)] X T hA ?ho ?hcd ?hbind ?hloc ?h ?c2 ?c3 ?c4 ?c5
  case ho => k_is
  case hcd => k_is
  case hbind => exact BindsTo.of_eq rfl
  case c5 => decide
  case c2 => rfl
  case c3 => rfl
  case c4 => rfl
  case hloc => exact locs rfl
  intro L' h' F' N' hA'
  try dsimp only
  try k_fold
  have hlp' := hlp.is
  k_steps
  all_goals (try k_data)
  · rename (kindOf' tab ins == _) = true => hc
    rename Fr _ _ _ _ => F9
    rename News _ _ _ _ => N9
    exact hR1 (eq_of_beq hc) _ _ _ _ F9.keep (N9 _ (.head _)).2.2 ⟨_, (N9 _ (.head _)).1⟩
  · rename (kindOf' tab ins == _) = false => hc
    rename Fr _ _ _ _ => F9
    rename News _ _ _ _ => N9
    rename IntsAre _ (zs (outNets _ _)) => hin
    exact hR2 (fun e => by rw [e, beq_self_eq_true] at hc; cases hc) _ _ _ _ _ _ F9.keep (N9 _ (.head _)).2.2 (N9 _ (.tail _ (.tail _ (.head _)))).2.2 ⟨_, (N9 _ (.head _)).1⟩ ⟨_, (N9 _ (.tail _ (.tail _ (.head _)))).1⟩ hin
end
end Mine

/-! part Dicts -/
namespace Mine
open PyProof.V (FlatPairs Flat putD)

/-- a dict's object: keys 0 .. d - 1 bear f; at most b keys -/
def HeldObj (w : World) (o : Obj) (f : Nat → Nat) (d b : Nat) : Prop :=
  ∃ kvs D, o.IsDictOf (intKind PySem.Challenge.rw_on0088_01.row.prog w) kvs ∧ FlatPairs PyData.int kvs D ∧ D.length ≤ b ∧ ∀ n, n < d → PySem.Spec.lookup (.int ((n : Nat) : Int)) D = some (.int ((f n : Nat) : Int))
def HeldAt (w : World) (h : Heap) (a : Addr) (f : Nat → Nat) (d b : Nat) : Prop := (a == sysModules) = false ∧ ∃ o, h.get? a = some o ∧ HeldObj w o f d b
theorem HeldAt.keeps {w : World} {h h' : Heap} {a : Addr} {f : Nat → Nat} {d b : Nat} (x : HeldAt w h a f d b) (k : ∀ b o, h.get? b = some o → h'.get? b = some o) : HeldAt w h' a f d b :=
  let ⟨lo, o, e, r⟩ := x; ⟨lo, o, k _ _ e, r⟩
def upd (f : Nat → Nat) (n v : Nat) : Nat → Nat := fun m => if m = n then v else f m

section
variable {w : World} {A : Around} {E : Value → Shared → Prop} {s : Shared} {h₀ : Heap} {L : Addr} {m : Str → Option Value} {news : List (Addr × Obj)} {f : Nat → Nat} {d b : Nat}

theorem held_item {value slice : Expr} {a : Addr} {n : Nat} {t : Tok} {Q : Value → Shared → Prop} (H : HeldAt w s.heap a f d b) (hn : n < d)
    (h : ∀ t', Q (.int ((f n : Nat) : Int) t') { s with toks := s.toks + 1 })
    (hs : subscripted slice false (.ref a) (.int (n : Int) t) = operate [.ref a, .int (n : Int) t] (getItem (.ref a) (.int (n : Int) t)) := by with_unfolding_all rfl) (hg : ∀ r, letTemporaryGo value (.ref a) r = pure () := by intro _; with_unfolding_all rfl) :
    wpAny (model PySem.Challenge.rw_on0088_01.row.prog w) A (subscriptTail value slice (.ref a) (.int (n : Int) t)) Q E s := by
  obtain ⟨lo, o, ho, kvs, D, hd, hf, hb, hl⟩ := H
  refine item_intTab (TabAt.ofObj lo ho hd hf) (hl n hn) (fun v hv => ?_) hs hg
  obtain ⟨t', rfl⟩ := hv.int_inv
  exact h t'

theorem held_set {a : Addr} {o : Obj} {n v : Nat} {t t2 : Tok} {g : Obj → List (Addr × Obj)} {Q : Unit → Shared → Prop} {d' : Nat} (F : Fr h₀ L s.heap m) (N : News h₀ L s.heap news) (U : UpdF a o news g) (H : HeldObj w o f d b) (hb : b ≤ 1000)
    (hd' : d' = d ∨ (d' = d + 1 ∧ n = d))
    (h : ∀ h' o', Fr h₀ L h' m → News h₀ L h' (g o') → HeldObj w o' (upd f n v) d' (b + 1) → Q () { s with heap := h', toks := s.toks + 1 }) :
    wpAny (model PySem.Challenge.rw_on0088_01.row.prog w) A (setItem (.ref a) (.int (n : Int) t) (.int (v : Int) t2)) Q E s := by
  obtain ⟨kvs, D, hd, hf, hbD, hl⟩ := H
  refine setItem_K PyProof.V.same_int (intKind_is _ _ _ _) (Flat.int _ _) F N U hd hf (fun h' o' F' N' hd2 hf2 => h h' o' F' N' ⟨_, _, hd2, hf2, Nat.le_trans (PyProof.V.putD_length_le _ _ _) (Nat.succ_le_succ hbD), fun k hk => ?_⟩) (Nat.le_trans hbD (Nat.le_trans hb (by decide)))
  by_cases e : k = n
  · subst e
    rw [PyProof.V.lookup_putD_same, upd, if_pos rfl]
  · rw [PyProof.V.lookup_putD_other (by omega), upd, if_neg e]
    exact hl k (by omega)

theorem held_copy {a : Addr} {Q : Value → Shared → Prop} (F : Fr h₀ L s.heap m) (N : News h₀ L s.heap news) (hbig : h₀.NoLimit) (H : HeldAt w s.heap a f d b) (hb : b ≤ 1000)
    (k : ∀ a' h' o, Fr h₀ L h' m → News h₀ L h' ((a', o) :: news) → (∀ p ∈ news, p.1 < a') → (a' == sysModules) = false → HeldObj w o f d b → Q (.ref a') { s with heap := h' }) :
    wpAny (model PySem.Challenge.rw_on0088_01.row.prog w) A (call (.type "dict") [.ref a]) Q E s := by
  obtain ⟨lo, o, ho, kvs, D, hd, hf, hbD, hl⟩ := H
  exact kt_dict_K F N hbig (TabAt.ofObj lo ho hd hf) (Nat.le_trans hbD (Nat.le_trans hb (by decide))) fun a' h' o' kvs' F' N' hlt lo' hd' hf' => k a' h' o' F' N' hlt lo' ⟨kvs', D, hd', hf', hbD, hl⟩
end

section
variable {prog : Program} {w : World} {A : Around} {E : Value → Shared → Prop} {s : Shared} {Q : Value → Shared → Prop} {a b n : Nat} {t u : Tok}
theorem pow2_N (hn : n ≤ 1000000) (h : ∀ t', Q (.int ((2 ^ n : Nat) : Int) t') { s with toks := s.toks + 1 }) : wpAny (model prog w) A (binaryOp .Pow (.int 2 t) (.int (n : Int) u)) Q E s := by
  refine pow_int_small (by omega) (by omega) (by decide) ?_
  have e : (2 : Int) ^ (n : Int).toNat = ((2 ^ n : Nat) : Int) := by simp
  rw [e]; exact h _
theorem mul_N (ha : a < 2 ^ 60) (h : ∀ t', Q (.int ((a * b : Nat) : Int) t') { s with toks := s.toks + 1 }) : wpAny (model prog w) A (binaryOp .Mult (.int (a : Int) t) (.int (b : Int) u)) Q E s := by
  refine PyProof.Rows.mul_int ?_ (IntMulOk.of_left (PySem.intBits_le_64 (by omega) (by omega)))
  have e : (a : Int) * (b : Int) = ((a * b : Nat) : Int) := by simp
  rw [e]; exact h _
theorem mod2_N (h : ∀ t', Q (.int ((a % 2 : Nat) : Int) t') { s with toks := s.toks + 1 }) : wpAny (model prog w) A (binaryOp .Mod (.int (a : Int) t) (.int 2 u)) Q E s := by
  refine mod_int' (by decide) ?_
  have e : (a : Int).fmod 2 = ((a % 2 : Nat) : Int) := by
    rw [Int.fmod_eq_emod_of_nonneg _ (by decide)]; simp
  rw [e]; exact h _
theorem sub1_from (ha : a ≤ 1) (h : ∀ t', Q (.int ((1 - a : Nat) : Int) t') { s with toks := s.toks + 1 }) : wpAny (model prog w) A (binaryOp .Sub (.int 1 t) (.int (a : Int) u)) Q E s := by
  refine PyProof.Rows.sub_int ?_
  have e : (1 : Int) - (a : Int) = ((1 - a : Nat) : Int) := by omega
  rw [e]; exact h _
end
end Mine
namespace Mine
section
variable {prog : Program} {w : World} {A : Around} {E : Value → Shared → Prop} {s : Shared} {env : Env} {h₀ : Heap} {x : Str} {body : List Stmt} {Q : Flow → Shared → Prop}

/-- as loop_own, and the iterator's own object stands in own -/
theorem loop_own2 {I : Addr} {fp : List Addr} {n : Nat} {P : Nat → Value → Prop} {St : Nat → Heap → Prop} {m₀ : Str → Option Value} {nx₀ : List (Addr × Obj)}
    (J : Nat → (Str → Option Value) → List (Addr × Obj) → Prop)
    (W : Walks prog w A I fp [I] n P St) (hLf : env.locals ∉ fp) (hnI : h₀.get? I = none) (hnw : ∀ p ∈ nx₀, p.1 ≠ I) (hst : St 0 s.heap)
    (hlive : ∀ i h, St i h → ∃ o, h.get? I = some o)
    (F : Fr h₀ env.locals s.heap m₀) (N : News h₀ env.locals s.heap nx₀) (hj : J 0 m₀ nx₀)
    (turn : ∀ i v m₁ nx h tk own, i < n → P i v → St (i + 1) h → J i m₁ nx → (∀ p ∈ nx, p.1 ≠ I) → (∀ p ∈ own, p.1 ∈ fp) → (∃ o, (I, o) ∈ own) → I < h.objs.size →
      Fr h₀ env.locals h (fun y => if y = x then some v else m₁ y) → News h₀ env.locals h (nx ++ own) →
      wpAny (model prog w) A (execs body env) (Turn h₀ env.locals I own (J (i + 1)) s Q) E { s with heap := h, toks := tk })
    (done : ∀ m₁ nx h tk, J n m₁ nx → Fr h₀ env.locals h m₁ → News h₀ env.locals h nx → Q .next { s with heap := h, toks := tk }) :
    LoopAtV prog w A h₀ env x body Q E (.ref I) s := by
  refine ⟨I, fp, [I], n, P, St, m₀, nx₀, J, rfl, W, hLf, ?_, ?_, hst, F, N, hj, ?_, ?_⟩
  · intro b hb; rw [List.mem_singleton.mp hb]; exact hnI
  · intro p hp hb; exact hnw p hp (List.mem_singleton.mp hb)
  · rintro i v m₁ news₁ s₁ own ⟨hh', tk', rfl⟩ hin hP hJ hoff hown _ hall hst₁ F₁ N₁
    have N₂ : News h₀ env.locals hh' (news₁ ++ own) := fun p hp => N₁ p ((List.mem_append.mp hp).elim (fun h => List.mem_append.mpr (.inr h)) fun h => List.mem_append.mpr (.inl h))
    obtain ⟨oI, hoI⟩ := hlive _ _ hst₁
    have hI : I < hh'.objs.size := Heap.lt_size hoI
    refine wpAny_mono (turn i v m₁ news₁ hh' tk' own hin hP hst₁ hJ (fun p hp e => hoff p hp (by rw [e]; exact .head _)) hown ⟨oI, hall I (W.sub I (.head _)) hnI oI hoI⟩ hI F₁ N₂) (fun f s₂ p => ?_) fun _ _ e => e
    have fin : (∃ h' tk' m' nx', s₂ = { s with heap := h', toks := tk' } ∧ Fr h₀ env.locals h' m' ∧ News h₀ env.locals h' (nx' ++ own) ∧ (∀ p ∈ nx', p.1 ≠ I) ∧ J (i + 1) m' nx') →
        LoopStepU h₀ env.locals [I] own (J (i + 1)) { s with heap := hh', toks := tk' } .next s₂ := by
      rintro ⟨h', tk, m', nx', e, F', N', hn, hm⟩
      refine ⟨rfl, h', tk, m', nx', e, F', fun p hp => N' p ((List.mem_append.mp hp).elim (fun h => List.mem_append.mpr (.inr h)) fun h => List.mem_append.mpr (.inl h)), fun p hp hq => hn p hp (List.mem_singleton.mp hq), hm⟩
    cases f with
    | ret v => exact .ret p
    | brk => exact .brk p
    | next => exact .next (fin p)
    | cont => exact .cont (fin p)
  · rintro h' tk m' news' F' N' _ hJ
    exact done m' news' h' tk hJ F' N'

theorem for_range2 {r : Addr} {t₀ u₀ v₀ : Tok} {n : Nat} {m₀ : Str → Option Value} {nx₀ : List (Addr × Obj)} (J : Nat → (Str → Option Value) → List (Addr × Obj) → Prop)
    (hh : A.handled = none) (hr : IsRange s.heap r 0 (n : Int) 1 t₀ u₀ v₀) (hn : n < 2 ^ 62) (F : Fr h₀ env.locals s.heap m₀) (N : News h₀ env.locals s.heap nx₀) (hj : J 0 m₀ nx₀)
    (turn : ∀ i t m₁ nx h tk own, i < n → J i m₁ nx → (∀ p ∈ nx, p.1 ≠ s.heap.objs.size) → (∀ p ∈ own, p.1 = s.heap.objs.size) → (∃ o, (s.heap.objs.size, o) ∈ own) → s.heap.objs.size < h.objs.size →
      Fr h₀ env.locals h (fun y => if y = x then some (.int (i : Int) t) else m₁ y) → News h₀ env.locals h (nx ++ own) →
      wpAny (model prog w) A (execs body env) (Turn h₀ env.locals s.heap.objs.size own (J (i + 1)) s Q) E { s with heap := h, toks := tk })
    (done : ∀ m₁ nx h tk, J n m₁ nx → Fr h₀ env.locals h m₁ → News h₀ env.locals h nx → Q .next { s with heap := h, toks := tk }) :
    wpAny (model prog w) A (pyIter (.ref r)) (fun it s₂ => LoopAtV prog w A h₀ env x body Q E it s₂) E s := by
  refine wpAny_pyIter_range hr (small_one (by decide) (by decide) (by omega) (by omega)) ?_
  have hsz : Builtin.Range.rangeSize 0 (n : Int) 1 = (n : Int) := by rw [rangeSize_nat]; simp
  have W : Walks prog w A s.heap.objs.size [s.heap.objs.size] [s.heap.objs.size] n (fun i v => i < n ∧ ∃ t, v = .int (0 + i * 1) t)
      (fun i h => IsRangeIter h s.heap.objs.size (0 + (i : Nat) * 1) ((n : Int) - (i : Nat)) 1) := (Walks.range hh _ 0 1 n).bound
  refine loop_own2 J W ?_ (next_is_new F) ?_ (by show IsRangeIter _ _ _ _ _; rw [hsz]; simpa using Heap.get?_push_size _ rfl) (fun i h hst => ⟨_, hst⟩) (F.push _) (fun p hp => ⟨Heap.get?_push_of_some _ (N p hp).1, (N p hp).2⟩) hj ?_ ?_
  · intro hm
    exact absurd F.ns.lt ((List.mem_singleton.mp hm) ▸ Nat.lt_irrefl _)
  · intro p hp hI
    exact absurd (Heap.lt_size (N p hp).1) (hI ▸ Nat.lt_irrefl _)
  · rintro i v m₁ nx h tk own hi ⟨_, t, rfl⟩ _ hJ hoff hown hio hI F₁ N₁
    have e1 : (0 : Int) + (i : Int) * 1 = (i : Int) := by omega
    rw [e1] at F₁
    exact turn i t m₁ nx h tk own hi hJ hoff (fun p hp => List.mem_singleton.mp (hown p hp)) hio hI F₁ N₁
  · exact done

theorem for_list2 {l : Addr} {vs : List Value} {m₀ : Str → Option Value} {nx₀ : List (Addr × Obj)} (J : Nat → (Str → Option Value) → List (Addr × Obj) → Prop)
    (hh : A.handled = none) (hl : s.heap.IsList l vs.toArray) (hL : l ≠ env.locals) (F : Fr h₀ env.locals s.heap m₀) (N : News h₀ env.locals s.heap nx₀) (hj : J 0 m₀ nx₀)
    (turn : ∀ i v m₁ nx h tk own, vs[i]? = some v → J i m₁ nx → (∀ p ∈ nx, p.1 ≠ s.heap.objs.size) → (∀ p ∈ own, p.1 = s.heap.objs.size ∨ p.1 = l) → (∃ o, (s.heap.objs.size, o) ∈ own) → s.heap.objs.size < h.objs.size → h.IsList l vs.toArray →
      Fr h₀ env.locals h (fun y => if y = x then some v else m₁ y) → News h₀ env.locals h (nx ++ own) →
      wpAny (model prog w) A (execs body env) (Turn h₀ env.locals s.heap.objs.size own (J (i + 1)) s Q) E { s with heap := h, toks := tk })
    (done : ∀ m₁ nx h tk, J vs.length m₁ nx → Fr h₀ env.locals h m₁ → News h₀ env.locals h nx → Q .next { s with heap := h, toks := tk }) :
    wpAny (model prog w) A (pyIter (.ref l)) (fun it s₂ => LoopAtV prog w A h₀ env x body Q E it s₂) E s := by
  obtain ⟨ol, hol, _⟩ := id hl
  have hlt : l < s.heap.objs.size := Heap.lt_size hol
  refine wpAny_pyIter_list hl ?_
  have W := Walks.list (prog := prog) (w := w) hh s.heap.objs.size l (Nat.ne_of_lt hlt) vs.toArray
  rw [List.size_toArray] at W
  refine loop_own2 J W ?_ (next_is_new F) ?_ ⟨⟨_, Heap.get?_push_size _ rfl, rfl, rfl⟩, hl.at fun o e => Heap.get?_push_of_some _ e⟩ (fun i h hst => by obtain ⟨⟨o, ho, _⟩, _⟩ := hst; exact ⟨o, ho⟩) (F.push _) (fun p hp => ⟨Heap.get?_push_of_some _ (N p hp).1, (N p hp).2⟩) hj ?_ ?_
  · intro hm
    rcases List.mem_cons.mp hm with e | hm
    · exact absurd F.ns.lt (e ▸ Nat.lt_irrefl _)
    · exact hL (List.mem_singleton.mp hm).symm
  · intro p hp hI
    exact absurd (Heap.lt_size (N p hp).1) (hI ▸ Nat.lt_irrefl _)
  · rintro i v m₁ nx h tk own hi hP hst hJ hoff hown hio hI F₁ N₁
    refine turn i v m₁ nx h tk own (by simpa using hP) hJ hoff (fun p hp => ?_) hio hI hst.2 F₁ N₁
    rcases List.mem_cons.mp (hown p hp) with e | e
    · exact .inl e
    · exact .inr (List.mem_singleton.mp e)
  · exact done
end

/-- the lines' dicts -/
def asg (i : Nat) : Nat → Nat := fun n => if n = 0 then 0 else if n = 1 then 1 else i / 2 ^ (n - 2) % 2
theorem asg_le (i n : Nat) : asg i n ≤ 1 := by
  unfold asg
  split
  · omega
  · split <;> omega
theorem asg_upd (i k : Nat) : upd (asg i) (2 + k) (i / 2 ^ k % 2) = asg i := by
  funext n
  unfold upd
  by_cases h : n = 2 + k
  · rw [if_pos h, h, asg, if_neg (by omega), if_neg (by omega)]
    rw [show 2 + k - 2 = k from by omega]
  · rw [if_neg h]
def LinesTo (w : World) (hs : List (Addr × Obj)) (vs : List Value) (i : Nat) : Prop :=
  vs.length = i ∧ ∀ j, j < i → ∃ b o, vs[j]? = some (.ref b) ∧ (b, o) ∈ hs ∧ (b == sysModules) = false ∧ HeldObj w o (asg j) 6 6
end Mine

/-! part F8 -/
namespace Mine
theorem fillIt8 : ∀ (w : World) (h : Heap), (hd.heap_39 w.params).In h → PySem.Challenge.rw_on0088_01.row.prog = PySem.Challenge.rw_on0088_01.row.prog := by
  k_fill
  intros
  rfl
def lineTo (f : Nat → Nat) (ins : List Nat) : Nat → Nat
  | 0 => 0
  | i + 1 => lineTo f ins i + f (ins.getD i 0) * 2 ^ i
def readOf (tab : Nat) (ins : List Nat) (f : Nat → Nat) : Nat := tab / 2 ^ lineTo f ins ins.length % 2
theorem lineTo_lt {f : Nat → Nat} (hf : ∀ n, f n ≤ 1) (ins : List Nat) : ∀ i, lineTo f ins i < 2 ^ i
  | 0 => Nat.one_pos
  | i + 1 => by
    have h := lineTo_lt hf ins i
    have h2 := hf (ins.getD i 0)
    have h3 : f (ins.getD i 0) * 2 ^ i ≤ 1 * 2 ^ i := Nat.mul_le_mul_right _ h2
    rw [lineTo, Nat.pow_succ]; omega
theorem getD_lt {ns : List Nat} {d i : Nat} (h : ∀ n ∈ ns, n < d) (hi : i < ns.length) : ns.getD i 0 < d := by
  refine h _ ?_
  rw [List.getD_eq_getElem?_getD, List.getElem?_eq_getElem hi]
  exact List.getElem_mem hi

section
variable {w : World} {A : Around} {s : Shared} {R : Result → Shared → Prop}
local macro_rules | `(tactic| walk_at "binaryOp LShift int int") => `(tactic| first
  | ((with_reducible refine shl1_N ?a1 ?_); (case a1 => omega); intro t')
  | ((with_reducible refine shl_N ?a1 ?a2 ?_); (case a1 => omega); (case a2 => first | assumption | omega); intro t'))
local macro_rules | `(tactic| walk_at "binaryOp Sub int int") => `(tactic| ((with_reducible refine sub1_N ?a1 ?_); (case a1 => first | omega | exact Nat.one_le_two_pow); intro t'))
local macro_rules | `(tactic| walk_at "binaryOp Add int int") => `(tactic| ((with_reducible refine add1_N ?_); intro t'))
local macro_rules | `(tactic| walk_at "inplaceOp Add int int") => `(tactic| ((with_reducible refine iadd_N ?_); intro t'))
local macro_rules | `(tactic| walk_at "inplaceOp BitOr int int") => `(tactic| ((with_reducible refine ior_N ?_); intro t'))
local macro_rules | `(tactic| walk_at "binaryOp BitXor int int") => `(tactic| ((with_reducible refine xor_N ?_); intro t'))
local macro_rules | `(tactic| walk_at "binaryOp BitAnd int int") => `(tactic| ((first | with_reducible refine and1_N ?_ | with_reducible refine and_N ?_); intro t'))
local macro_rules | `(tactic| walk_at "binaryOp BitOr int int") => `(tactic| ((with_reducible refine or_N ?_); intro t'))
local macro_rules | `(tactic| walk_at "binaryOp RShift int int") => `(tactic| ((with_reducible refine shr_N ?_); intro t'))
local macro_rules | `(tactic| walk_at "binaryOp FloorDiv int int") => `(tactic| ((with_reducible refine fdiv_N ?a1 ?a2 ?_); (case a1 => omega); (case a2 => omega); intro t'))
local macro_rules | `(tactic| walk_at "eval Call") => `(tactic| refine Call_ ?_)
local macro_rules | `(tactic| walk_at "subscriptTail Name Name ref int") => `(tactic| k_dflt (refine' item_N ?l1 ?l2 ?l3 ?l4 ?_ ?l6 ?l7; (case l1 => is_list); (case l2 => assumption); (case l3 => first | assumption | omega); (case l4 => omega); (case l6 => with_unfolding_all rfl); (case l7 => intro _; with_unfolding_all rfl); intro t'))
local macro_rules | `(tactic| walk_at "getMethod ref") => `(tactic| k_dflt (first
  | (refine' listMeth (name := PySem.Str.ofString "index") ?l1 PySem.F.slot_list_index PySem.F.type_list_index ?_; (case l1 => first | assumption | exact ListAt.keeps (by assumption) (Fr.keep (by assumption)) | exact ListAt.news (by assumption) (by k_mem)))
  | (refine' listMeth (name := PySem.Str.ofString "count") ?l1 PySem.F.slot_list_count PySem.F.type_list_count ?_; (case l1 => first | assumption | exact ListAt.keeps (by assumption) (Fr.keep (by assumption)) | exact ListAt.news (by assumption) (by k_mem)))
  | (refine' listMeth (name := PySem.Str.ofString "append") ?l1 PySem.F.slot_list_append PySem.F.type_list_append ?_; (case l1 => first | assumption | exact ListAt.keeps (by assumption) (Fr.keep (by assumption)) | exact ListAt.news (by assumption) (by k_mem)))))
local macro_rules | `(tactic| walk_at "call type:range") => `(tactic| ((rename Fr _ _ _ _ => F'); (rename News _ _ _ _ => N'); k_dflt (refine range1_rows F' N' ?_); clear F' N'; intro h' tk t₁ u₁ v₁ hrg F' N' kp))
local macro_rules | `(tactic| walk_at "call builtin:len") => `(tactic| k_dflt (refine' len_N ?l1 ?l2 ?l3 ?_; (case l1 => is_list); (case l2 => assumption); (case l3 => omega); intro t'))
local macro_rules | `(tactic| walk_at "call builtin:len") => `(tactic| k_dflt (refine' lenT_N ?l1 ?l2 ?l3 ?_; (case l1 => first | assumption | exact News.isTup (by assumption) (by k_mem) | exact IsTup.keeps (by assumption) (Fr.keep (by assumption))); (case l2 => assumption); (case l3 => omega); intro t'))
local macro_rules | `(tactic| walk_at "compareOp In int ref") => `(tactic| k_dflt (refine' in_N ?l1 ?l2 ?_; (case l1 => is_list); (case l2 => assumption)))
local macro_rules | `(tactic| walk_at "compareOp NotIn int ref") => `(tactic| k_dflt (refine' notin_N ?l1 ?l2 ?_; (case l1 => is_list); (case l2 => assumption)))
local macro_rules | `(tactic| k_all) => `(tactic| assumption)
local macro_rules | `(tactic| walk_at "call builtin:list.append") => `(tactic| k_dflt (refine' append_K ?k1 ?k2 ?k3 ?_ ?z; (case k1 => assumption); (case k2 => assumption); (case k3 => k_upd); (case z => exact fitLine (by assumption) (by decide)); intro h' F' N'))
local macro_rules | `(tactic| walk_at "call builtin:list.index") => `(tactic| k_dflt (refine' index_N ?l1 ?l2 ?l3 ?l4 ?_; (case l1 => is_list); (case l2 => assumption); (case l3 => assumption); (case l4 => assumption); intro t'))
local macro_rules | `(tactic| walk_at "pyIter ref") => `(tactic| refine halt ?_)
local macro_rules | `(tactic| walk_at "subscriptTail Name Constant ref int") => `(tactic| k_dflt (refine' item_tupleT ?l1 ?l2 ?l3 ?l4 ?l5 ?_ ?l6; (case l1 => first | assumption | exact News.isTup (by assumption) (by k_mem) | exact IsTup.keeps (by assumption) (Fr.keep (by assumption))); (case l2 => decide); (case l3 => decide); (case l4 => rfl); (case l5 => rfl); (case l6 => with_unfolding_all rfl)))
local macro_rules | `(tactic| walk_at "subscriptTail Name Subscript ref int") => `(tactic| k_dflt (refine' held_item ?l1 ?l2 ?_ ?l6 ?l7; (case l1 => first | assumption | exact HeldAt.keeps (by assumption) (Fr.keep (by assumption))); (case l2 => first | assumption | omega); (case l6 => with_unfolding_all rfl); (case l7 => intro _; with_unfolding_all rfl); intro t'))
local macro_rules | `(tactic| walk_at "subscriptTail Name Name ref int") => `(tactic| k_dflt (first
  | (refine' itemT_N ?l1 ?l2 ?l3 ?l4 ?_ ?l6; (case l1 => first | assumption | exact News.isTup (by assumption) (by k_mem) | exact IsTup.keeps (by assumption) (Fr.keep (by assumption))); (case l2 => assumption); (case l3 => first | assumption | omega); (case l4 => omega); (case l6 => with_unfolding_all rfl); intro t')
  | (refine' held_item ?l1 ?l2 ?_ ?l6 ?l7; (case l1 => first | assumption | exact HeldAt.keeps (by assumption) (Fr.keep (by assumption))); (case l2 => first | assumption | omega); (case l6 => with_unfolding_all rfl); (case l7 => intro _; with_unfolding_all rfl); intro t')))
local macro_rules | `(tactic| walk_at "subscriptTail Subscript Name Constant Constant ref int") => `(tactic| k_dflt (refine' itemT_0 ?l1 ?l2 ?l3 ?_ ?l6; (case l1 => first | assumption | exact News.isTup (by assumption) (by k_mem) | exact IsTup.keeps (by assumption) (Fr.keep (by assumption))); (case l2 => assumption); (case l3 => first | assumption | omega); (case l6 => with_unfolding_all rfl); intro t'))
local macro_rules | `(tactic| walk_at "binaryOp Pow int int") => `(tactic| ((with_reducible refine pow2_N ?a1 ?_); (case a1 => omega); intro t'))
local macro_rules | `(tactic| walk_at "binaryOp Mult int int") => `(tactic| ((with_reducible refine mul_N ?a1 ?_); (case a1 => first | assumption | omega); intro t'))
local macro_rules | `(tactic| walk_at "binaryOp Mod int int") => `(tactic| ((with_reducible refine mod2_N ?_); intro t'))
local macro_rules | `(tactic| walk_at "binaryOp Sub int int") => `(tactic| ((with_reducible refine sub1_from ?a1 ?_); (case a1 => first | assumption | omega); intro t'))
theorem c_law_read {tab : Nat} {t0 : Tok} {li a : Addr} {vi : List Value} {ins : List Nat} {f : Nat → Nat} {b : Nat} (hA : Room A 1) (P : Here w s.heap) (hli : IsTup s.heap li vi.toArray) (hvi : IntsAre vi (zs ins)) (H : HeldAt w s.heap a f 6 b)
    (hd : ∀ n ∈ ins, n < 6) (hf : ∀ n, f n ≤ 1) (hins : ins.length ≤ 4)
    (hR : ∀ h' tk t', Ext s.heap h' → R (.ok (.ret (.int ((readOf tab ins f : Nat) : Int) t'))) { s with heap := h', toks := tk }) :
    codeAny (model PySem.Challenge.rw_on0088_01.row.prog w) A (.call (.ref 115) ⟨[.int (tab : Int) t0, .ref li, .ref a], []⟩) R s := by
  obtain ⟨hnd, dp, fr, gs, un⟩ := A
  have hnd0 : hnd = none := hA.1
  subst hnd0
  obtain ⟨mean, mg, mb, X, T⟩ := id P
  refine' enter [("table", .int (tab : Int) t0), ("ins", .ref li), ("held", .ref a)] X T hA ?ho ?hcd ?hbind ?hloc ?h ?c2 ?c3 ?c4 ?c5
  case ho => k_is
  case hcd => k_is
  case hbind => exact BindsTo.of_eq rfl
  case c5 => decide
  case c2 => rfl
  case c3 => rfl
  case c4 => rfl
  case hloc => exact locs rfl
  intro L' h' F' N' hA'
  try dsimp only
  try k_fold
  k_steps
  rename IsRange _ _ _ _ _ _ _ _ => hrg
  rename Fr _ _ _ _ => F2
  refine for_range (n := ins.length) (nx₀ := []) (fun i m nx => nx = [] ∧ (∃ t, m "line" = some (.int ((lineTo f ins i : Nat) : Int) t)) ∧ m "table" = some (.int (tab : Int) t0) ∧ m "ins" = some (.ref li) ∧ m "held" = some (.ref a)) rfl hrg (by omega) F2 News.nil ⟨rfl, ⟨_, rfl⟩, rfl, rfl, rfl⟩ ?_ ?_
  · rintro i t m₁ nx h tk own hin ⟨rfl, ⟨tr, h1⟩, h2, h3, h4⟩ hne hown hI F3 N3
    have F4 := know (know (know (know F3 (y := "line") h1) (y := "table") h2) (y := "ins") h3) (y := "held") h4
    clear F3 F2 hrg
    have hk := getD_lt hd hin
    have hf1 := hf (ins.getD i 0)
    try k_fold
    k_steps
    all_goals (try k_data)
    rename Fr _ _ _ _ => F9
    rename News _ _ _ _ => N9
    exact Turn.go (nx' := []) F9 N9 (fun _ h => nomatch h) ⟨rfl, ⟨_, rfl⟩, rfl, rfl, rfl⟩
  · rintro m₁ nx h tk ⟨rfl, ⟨tr, h1⟩, h2, h3, h4⟩ F3 N3
    have F4 := know (know F3 (y := "line") h1) (y := "table") h2
    have hlt := lineTo_lt hf ins ins.length
    have hp : 2 ^ ins.length ≤ 16 := pow2_le hins
    have hp2 : 2 ^ lineTo f ins ins.length ≤ 2 ^ 16 := Nat.pow_le_pow_right (by decide) (by omega)
    have hp3 := Nat.two_pow_pos (lineTo f ins ins.length)
    clear F3 F2 hrg
    try dsimp only
    k_steps
    all_goals (try k_data)
    exact hR _ _ _ (Fr.keep (by assumption))

def formed (kind : Str) (nets : List Nat) (tab : Option Nat) (f : Nat → Nat) : Nat :=
  if kind = Str.ofString "buf" then f (nets.getD 0 0) else if kind = Str.ofString "not" then 1 - f (nets.getD 0 0) else readOf (tab.getD 0) nets f
def goodForm (kind : Str) (nets : List Nat) (tab : Option Nat) : Prop :=
  (kind = Str.ofString "buf" ∧ nets.length = 1) ∨ (kind = Str.ofString "not" ∧ nets.length = 1) ∨ (kind = Str.ofString "lut" ∧ ∃ n, tab = some n)
local macro_rules | `(tactic| walk_at "call ref") => `(tactic| k_dflt (refine' wpAny_call (c_law_read ?r0 ?r1 ?r2 ?r3 ?r4 ?r5 ?r6 ?r7 ?_); (case r0 => exact Room.le (by assumption) (by omega)); (case r1 => exact Here.keeps (by assumption) (Fr.keep (by assumption))); (case r2 => first | assumption | exact IsTup.keeps (by assumption) (Fr.keep (by assumption))); (case r3 => assumption); (case r4 => first | assumption | exact HeldAt.keeps (by assumption) (Fr.keep (by assumption))); (case r5 => assumption); (case r6 => assumption); (case r7 => omega); intro h' tk t' kp; (have F' := Fr.keeps (by assumption) kp); (have N' := News.grown (by assumption) kp); (try dsimp only); (try k_fold)))
theorem c_law_formed {kind : Str} {kt : Tok} {p q a : Addr} {vn : List Value} {tv : Value} {nets : List Nat} {tab : Option Nat} {f : Nat → Nat} {b : Nat} (hA : Room A 2) (P : Here w s.heap) (hp : TupAt s.heap p [.str kind kt, .ref q, tv]) (hq : IsTup s.heap q vn.toArray) (hvn : IntsAre vn (zs nets)) (htv : TabVal tv tab) (H : HeldAt w s.heap a f 6 b)
    (hg : goodForm kind nets tab) (hd : ∀ n ∈ nets, n < 6) (hf : ∀ n, f n ≤ 1) (hnl : nets.length ≤ 4)
    (hR : ∀ h' tk t', Ext s.heap h' → R (.ok (.ret (.int ((formed kind nets tab f : Nat) : Int) t'))) { s with heap := h', toks := tk }) :
    codeAny (model PySem.Challenge.rw_on0088_01.row.prog w) A (.call (.ref 122) ⟨[.ref p, .ref a], []⟩) R s := by
  rcases hg with ⟨rfl, hl⟩ | ⟨rfl, hl⟩ | ⟨rfl, n, rfl⟩
  · have hn0 := getD_lt hd (i := 0) (by omega)
    have hf1 := hf (nets.getD 0 0)
    have ef : formed (Str.ofString "buf") nets tab f = f (nets.getD 0 0) := by rw [formed, if_pos rfl]
    rw [ef] at hR
    obtain ⟨hnd, dp, fr, gs, un⟩ := A
    have hnd0 : hnd = none := hA.1
    subst hnd0
    obtain ⟨mean, mg, mb, X, T⟩ := id P
    refine' enter [("form", .ref p), ("held", .ref a)] X T hA ?ho ?hcd ?hbind ?hloc ?h ?c2 ?c3 ?c4 ?c5
    case ho => k_is
    case hcd => k_is
    case hbind => exact BindsTo.of_eq rfl
    case c5 => decide
    case c2 => rfl
    case c3 => rfl
    case c4 => rfl
    case hloc => exact locs rfl
    intro L' h' F' N' hA'
    try dsimp only
    try k_fold
    have hp' := hp.is
    k_steps
    all_goals (try k_data)
    exact hR _ _ _ (Fr.keep (by assumption))
  · have hn0 := getD_lt hd (i := 0) (by omega)
    have hf1 := hf (nets.getD 0 0)
    have ef : formed (Str.ofString "not") nets tab f = 1 - f (nets.getD 0 0) := by rw [formed, if_neg (by decide), if_pos rfl]
    rw [ef] at hR
    obtain ⟨hnd, dp, fr, gs, un⟩ := A
    have hnd0 : hnd = none := hA.1
    subst hnd0
    obtain ⟨mean, mg, mb, X, T⟩ := id P
    refine' enter [("form", .ref p), ("held", .ref a)] X T hA ?ho ?hcd ?hbind ?hloc ?h ?c2 ?c3 ?c4 ?c5
    case ho => k_is
    case hcd => k_is
    case hbind => exact BindsTo.of_eq rfl
    case c5 => decide
    case c2 => rfl
    case c3 => rfl
    case c4 => rfl
    case hloc => exact locs rfl
    intro L' h' F' N' hA'
    try dsimp only
    try k_fold
    have hp' := hp.is
    k_steps
    all_goals (try k_data)
    exact hR _ _ _ (Fr.keep (by assumption))
  · have ef : formed (Str.ofString "lut") nets (some n) f = readOf n nets f := by rw [formed, if_neg (by decide), if_neg (by decide)]; rfl
    rw [ef] at hR
    obtain ⟨x, tx, rfl, hx⟩ : ∃ x tx, tv = .int x tx ∧ x = ((n : Nat) : Int) := by
      cases tv <;> first | exact ⟨_, _, rfl, htv⟩ | exact htv.elim
    subst hx
    obtain ⟨hnd, dp, fr, gs, un⟩ := A
    have hnd0 : hnd = none := hA.1
    subst hnd0
    obtain ⟨mean, mg, mb, X, T⟩ := id P
    refine' enter [("form", .ref p), ("held", .ref a)] X T hA ?ho ?hcd ?hbind ?hloc ?h ?c2 ?c3 ?c4 ?c5
    case ho => k_is
    case hcd => k_is
    case hbind => exact BindsTo.of_eq rfl
    case c5 => decide
    case c2 => rfl
    case c3 => rfl
    case c4 => rfl
    case hloc => exact locs rfl
    intro L' h' F' N' hA'
    try dsimp only
    try k_fold
    have hp' := hp.is
    k_steps
    all_goals (try k_data)
    exact hR _ _ _ (Fr.keep (by assumption))
end
end Mine

/-! part F9 -/
namespace Mine
theorem fillIt9 : ∀ (w : World) (h : Heap), (hd.heap_39 w.params).In h → PySem.Challenge.rw_on0088_01.row.prog = PySem.Challenge.rw_on0088_01.row.prog := by
  k_fill
  intros
  rfl
theorem held01 {w : World} {o : Obj} {i : Nat} {t1 t2 t3 t4 : Tok} (hd : o.IsDictOf (intKind PySem.Challenge.rw_on0088_01.row.prog w) (intKeyPairs [(.int 0 t1, .int 0 t2), (.int 1 t3, .int 1 t4)]))
    (hf : PyProof.V.FlatPairs PyData.int (intKeyPairs [(.int 0 t1, .int 0 t2), (.int 1 t3, .int 1 t4)]) (intData [(.int 0 t1, .int 0 t2), (.int 1 t3, .int 1 t4)])) : HeldObj w o (asg i) 2 2 := by
  refine ⟨_, _, hd, hf, Nat.le_refl 2, fun n hn => ?_⟩
  have : n = 0 ∨ n = 1 := by omega
  rcases this with rfl | rfl <;> rfl

section
variable {w : World} {A : Around} {s : Shared} {R : Result → Shared → Prop}
local macro_rules | `(tactic| walk_at "binaryOp LShift int int") => `(tactic| first
  | ((with_reducible refine shl1_N ?a1 ?_); (case a1 => omega); intro t')
  | ((with_reducible refine shl_N ?a1 ?a2 ?_); (case a1 => omega); (case a2 => first | assumption | omega); intro t'))
local macro_rules | `(tactic| walk_at "binaryOp Sub int int") => `(tactic| ((with_reducible refine sub1_N ?a1 ?_); (case a1 => first | omega | exact Nat.one_le_two_pow); intro t'))
local macro_rules | `(tactic| walk_at "binaryOp Add int int") => `(tactic| ((with_reducible refine add1_N ?_); intro t'))
local macro_rules | `(tactic| walk_at "inplaceOp Add int int") => `(tactic| ((with_reducible refine iadd_N ?_); intro t'))
local macro_rules | `(tactic| walk_at "inplaceOp BitOr int int") => `(tactic| ((with_reducible refine ior_N ?_); intro t'))
local macro_rules | `(tactic| walk_at "binaryOp BitXor int int") => `(tactic| ((with_reducible refine xor_N ?_); intro t'))
local macro_rules | `(tactic| walk_at "binaryOp BitAnd int int") => `(tactic| ((first | with_reducible refine and1_N ?_ | with_reducible refine and_N ?_); intro t'))
local macro_rules | `(tactic| walk_at "binaryOp BitOr int int") => `(tactic| ((with_reducible refine or_N ?_); intro t'))
local macro_rules | `(tactic| walk_at "binaryOp RShift int int") => `(tactic| ((with_reducible refine shr_N ?_); intro t'))
local macro_rules | `(tactic| walk_at "binaryOp FloorDiv int int") => `(tactic| ((with_reducible refine fdiv_N ?a1 ?a2 ?_); (case a1 => omega); (case a2 => omega); intro t'))
local macro_rules | `(tactic| walk_at "eval Call") => `(tactic| refine Call_ ?_)
local macro_rules | `(tactic| walk_at "subscriptTail Name Name ref int") => `(tactic| k_dflt (refine' item_N ?l1 ?l2 ?l3 ?l4 ?_ ?l6 ?l7; (case l1 => is_list); (case l2 => assumption); (case l3 => first | assumption | omega); (case l4 => omega); (case l6 => with_unfolding_all rfl); (case l7 => intro _; with_unfolding_all rfl); intro t'))
local macro_rules | `(tactic| walk_at "getMethod ref") => `(tactic| k_dflt (first
  | (refine' listMeth (name := PySem.Str.ofString "index") ?l1 PySem.F.slot_list_index PySem.F.type_list_index ?_; (case l1 => first | assumption | exact ListAt.keeps (by assumption) (Fr.keep (by assumption)) | exact ListAt.news (by assumption) (by k_mem)))
  | (refine' listMeth (name := PySem.Str.ofString "count") ?l1 PySem.F.slot_list_count PySem.F.type_list_count ?_; (case l1 => first | assumption | exact ListAt.keeps (by assumption) (Fr.keep (by assumption)) | exact ListAt.news (by assumption) (by k_mem)))
  | (refine' listMeth (name := PySem.Str.ofString "append") ?l1 PySem.F.slot_list_append PySem.F.type_list_append ?_; (case l1 => first | assumption | exact ListAt.keeps (by assumption) (Fr.keep (by assumption)) | exact ListAt.news (by assumption) (by k_mem)))))
local macro_rules | `(tactic| walk_at "call type:range") => `(tactic| ((rename Fr _ _ _ _ => F'); (rename News _ _ _ _ => N'); k_dflt (refine range1_rows F' N' ?_); clear F' N'; intro h' tk t₁ u₁ v₁ hrg F' N' kp))
local macro_rules | `(tactic| walk_at "call builtin:len") => `(tactic| k_dflt (refine' len_N ?l1 ?l2 ?l3 ?_; (case l1 => is_list); (case l2 => assumption); (case l3 => omega); intro t'))
local macro_rules | `(tactic| walk_at "call builtin:len") => `(tactic| k_dflt (refine' lenT_N ?l1 ?l2 ?l3 ?_; (case l1 => first | assumption | exact News.isTup (by assumption) (by k_mem) | exact IsTup.keeps (by assumption) (Fr.keep (by assumption))); (case l2 => assumption); (case l3 => omega); intro t'))
local macro_rules | `(tactic| walk_at "compareOp In int ref") => `(tactic| k_dflt (refine' in_N ?l1 ?l2 ?_; (case l1 => is_list); (case l2 => assumption)))
local macro_rules | `(tactic| walk_at "compareOp NotIn int ref") => `(tactic| k_dflt (refine' notin_N ?l1 ?l2 ?_; (case l1 => is_list); (case l2 => assumption)))
local macro_rules | `(tactic| k_all) => `(tactic| assumption)
local macro_rules | `(tactic| walk_at "call builtin:list.append") => `(tactic| k_dflt (refine' append_K ?k1 ?k2 ?k3 ?_ ?z; (case k1 => assumption); (case k2 => assumption); (case k3 => k_upd); (case z => exact fitLine (by assumption) (by decide)); intro h' F' N'))
local macro_rules | `(tactic| walk_at "call builtin:list.index") => `(tactic| k_dflt (refine' index_N ?l1 ?l2 ?l3 ?l4 ?_; (case l1 => is_list); (case l2 => assumption); (case l3 => assumption); (case l4 => assumption); intro t'))
local macro_rules | `(tactic| walk_at "pyIter ref") => `(tactic| refine halt ?_)
local macro_rules | `(tactic| walk_at "subscriptTail Name Constant ref int") => `(tactic| k_dflt (refine' item_tupleT ?l1 ?l2 ?l3 ?l4 ?l5 ?_ ?l6; (case l1 => first | assumption | exact News.isTup (by assumption) (by k_mem) | exact IsTup.keeps (by assumption) (Fr.keep (by assumption))); (case l2 => decide); (case l3 => decide); (case l4 => rfl); (case l5 => rfl); (case l6 => with_unfolding_all rfl)))
local macro_rules | `(tactic| walk_at "subscriptTail Name Subscript ref int") => `(tactic| k_dflt (refine' held_item ?l1 ?l2 ?_ ?l6 ?l7; (case l1 => first | assumption | exact HeldAt.keeps (by assumption) (Fr.keep (by assumption))); (case l2 => first | assumption | omega); (case l6 => with_unfolding_all rfl); (case l7 => intro _; with_unfolding_all rfl); intro t'))
local macro_rules | `(tactic| walk_at "subscriptTail Name Name ref int") => `(tactic| k_dflt (first
  | (refine' itemT_N ?l1 ?l2 ?l3 ?l4 ?_ ?l6; (case l1 => first | assumption | exact News.isTup (by assumption) (by k_mem) | exact IsTup.keeps (by assumption) (Fr.keep (by assumption))); (case l2 => assumption); (case l3 => first | assumption | omega); (case l4 => omega); (case l6 => with_unfolding_all rfl); intro t')
  | (refine' held_item ?l1 ?l2 ?_ ?l6 ?l7; (case l1 => first | assumption | exact HeldAt.keeps (by assumption) (Fr.keep (by assumption))); (case l2 => first | assumption | omega); (case l6 => with_unfolding_all rfl); (case l7 => intro _; with_unfolding_all rfl); intro t')))
local macro_rules | `(tactic| walk_at "subscriptTail Subscript Name Constant Constant ref int") => `(tactic| k_dflt (refine' itemT_0 ?l1 ?l2 ?l3 ?_ ?l6; (case l1 => first | assumption | exact News.isTup (by assumption) (by k_mem) | exact IsTup.keeps (by assumption) (Fr.keep (by assumption))); (case l2 => assumption); (case l3 => first | assumption | omega); (case l6 => with_unfolding_all rfl); intro t'))
local macro_rules | `(tactic| walk_at "binaryOp Pow int int") => `(tactic| ((with_reducible refine pow2_N ?a1 ?_); (case a1 => omega); intro t'))
local macro_rules | `(tactic| walk_at "binaryOp Mult int int") => `(tactic| ((with_reducible refine mul_N ?a1 ?_); (case a1 => first | assumption | omega); intro t'))
local macro_rules | `(tactic| walk_at "binaryOp Mod int int") => `(tactic| ((with_reducible refine mod2_N ?_); intro t'))
local macro_rules | `(tactic| walk_at "binaryOp Sub int int") => `(tactic| ((with_reducible refine sub1_from ?a1 ?_); (case a1 => first | assumption | omega); intro t'))
local macro_rules | `(tactic| walk_at "setItem ref int") => `(tactic| k_dflt (refine' held_set (d' := _) ?s1 ?s2 ?s3 ?s4 ?s5 ?s6 ?_; (case s1 => assumption); (case s2 => assumption); (case s3 => k_updF); (case s4 => assumption); (case s5 => omega); (case s6 => first | exact .inr ⟨rfl, by assumption⟩ | exact .inl rfl); intro h' o' F' N' H'))
local macro_rules | `(tactic| walk_at "call builtin:list.append") => `(tactic| refine halt ?_)
theorem c_law_lines {l : Addr} {vl : List Value} (hA : Room A 1) (P : Here w s.heap) (hl : s.heap.IsList l vl.toArray) {ns : List Nat} (hvl : IntsAre vl (zs ns)) (hn4 : ns.length = 4) (hnk : ∀ k, k < 4 → ns.getD k 0 = 2 + k)
    (hR : ∀ h' tk a vs e hs, Ext s.heap h' → (∀ p ∈ (a, listOf vs.toArray e) :: hs, h'.get? p.1 = some p.2 ∧ s.heap.get? p.1 = none) → LinesTo w hs vs 16 → R (.ok (.ret (.ref a))) { s with heap := h', toks := tk }) :
    codeAny (model PySem.Challenge.rw_on0088_01.row.prog w) A (.call (.ref 129) ⟨[.ref l], []⟩) R s := by
  obtain ⟨hnd, dp, fr, gs, un⟩ := A
  have hnd0 : hnd = none := hA.1
  subst hnd0
  obtain ⟨mean, mg, mb, X, T⟩ := id P
  refine' enter [("nets", .ref l)] X T hA ?ho ?hcd ?hbind ?hloc ?h ?c2 ?c3 ?c4 ?c5
  case ho => k_is
  case hcd => k_is
  case hbind => exact BindsTo.of_eq rfl
  case c5 => decide
  case c2 => rfl
  case c3 => rfl
  case c4 => rfl
  case hloc => exact locs rfl
  intro L' h' F' N' hA'
  try dsimp only
  try k_fold
  k_steps
  rename IsRange _ _ _ _ _ _ _ _ => hrg
  rename Fr _ _ _ _ => F2
  rename News _ _ _ _ => N2
  have hp16 : 2 ^ ns.length = 16 := by rw [hn4]
  refine for_range2 (n := 2 ^ ns.length) (nx₀ := _) (fun i m nx => ∃ a vs e hs, nx = (a, listOf vs.toArray e) :: hs ∧ LinesTo w hs vs i ∧ (∀ p ∈ hs, p.1 ≠ a) ∧ m "found" = some (.ref a) ∧ m "nets" = some (.ref l)) rfl hrg (by omega) F2 N2 ⟨_, [], _, [], rfl, ⟨rfl, fun j hj => absurd hj (Nat.not_lt_zero _)⟩, (fun _ h => nomatch h), rfl, rfl⟩ ?_ ?_
  · rintro i t m₁ nx h tk own hin ⟨a, vs, e, hs, rfl, hL, hsa, h1, h2⟩ hne hown ⟨oI, hoI⟩ hI F3 N3
    have F4 := know (know F3 (y := "found") h1) (y := "nets") h2
    have N4 : News _ _ h ((a, listOf vs.toArray e) :: (hs ++ own)) := N3
    clear F3 F2 hrg N3 N2
    try k_fold
    k_steps
    all_goals (try k_data)
    rename Obj.IsDictOf _ _ _ => hd9
    rename PyProof.V.FlatPairs _ _ _ => hf9
    have H9 := held01 (i := i) hd9 hf9
    clear hd9 hf9
    rename (_ == sysModules) = false => lo9
    rename IsRange _ _ _ _ _ _ _ _ => hrg
    rename Fr _ _ _ _ => F5
    rename News _ _ _ _ => N5
    have had : a < h.objs.size := Heap.lt_size (N4 _ (.head _)).1
    have hrd : ∀ p ∈ ((a, listOf vs.toArray e) :: (hs ++ own)), p.1 ≠ h.objs.size := fun p hp => Nat.ne_of_lt (Heap.lt_size (N4 p hp).1)
    refine for_range2 (n := ns.length) (nx₀ := _) (fun k m nx => ∃ o, nx = (h.objs.size, o) :: (a, listOf vs.toArray e) :: (hs ++ own) ∧ HeldObj w o (asg i) (2 + k) (2 + k) ∧ m "held" = some (.ref h.objs.size) ∧ m "line" = some (.int (i : Int) t) ∧ m "found" = some (.ref a) ∧ m "nets" = some (.ref l)) rfl hrg (by omega) F5 N5 ⟨_, rfl, H9, rfl, rfl, rfl, rfl⟩ ?_ ?_
    · rintro k t2 m₂ nx2 h2 tk2 own2 hk ⟨o, rfl, HO, g1, g2, g3, g4⟩ hne2 hown2 _ hI2 F6 N6
      have F7 := know (know (know (know F6 (y := "held") g1) (y := "line") g2) (y := "found") g3) (y := "nets") g4
      have N7 : News _ _ h2 ((h.objs.size, o) :: ((a, listOf vs.toArray e) :: (hs ++ own) ++ own2)) := N6
      have hkey := hnk k (by omega)
      have hrd2 : ∀ p ∈ ((a, listOf vs.toArray e) :: (hs ++ own) ++ own2), p.1 ≠ h.objs.size := fun p hp => by
        rcases List.mem_append.mp hp with hp | hp
        · exact hrd p hp
        · exact fun q => hne2 _ (.head _) (q ▸ hown2 p hp)
      have hp1 := Nat.two_pow_pos k
      have hp2 : 2 ^ k ≤ 16 := pow2_le (by omega)
      clear F6 N6 F5 N5 hrg
      try k_fold
      k_steps
      all_goals (try k_data)
      refine held_set (d' := 2 + (k + 1)) F7 N7 (by k_updF) HO (by omega) (.inr ⟨rfl, hkey⟩) ?_
      intro h' o' F8 N8 H8
      rw [hkey, asg_upd] at H8
      try k_fold
      k_steps
      all_goals (try k_data)
      exact Turn.go (nx' := (h.objs.size, o') :: (a, listOf vs.toArray e) :: (hs ++ own)) F8 N8 (fun p hp => by
        rcases List.mem_cons.mp hp with rfl | hp
        · exact hne2 (h.objs.size, o) (.head _)
        · exact hne2 _ (.tail _ hp)) ⟨o', rfl, H8, rfl, rfl, rfl, rfl⟩
    · rintro m₂ nx2 h2 tk2 ⟨o, rfl, HO, g1, g2, g3, g4⟩ F6 N6
      have F7 := know (know (know (know F6 (y := "held") g1) (y := "line") g2) (y := "found") g3) (y := "nets") g4
      clear F6 F5 hrg N5
      have hvl9 := hL.1
      have hra : ∀ p ∈ hs ++ own, p.1 ≠ a := fun p hp => by
        rcases List.mem_append.mp hp with hp | hp
        · exact hsa p hp
        · exact fun q => hne _ (.head _) (q ▸ hown p hp)
      try k_fold
      k_steps
      all_goals (try k_data)
      refine append_K F7 N6 (.tail (Nat.ne_of_gt had) (.head hra)) ?_ (fitLine (k := 1000) (by omega) (by decide))
      intro h' F8 N8
      rw [push_list] at N8
      try k_fold
      k_steps
      all_goals (try k_data)
      rw [hn4] at HO
      exact Turn.go (nx' := (a, listOf (vs ++ [Value.ref h.objs.size]).toArray (e + 1)) :: (h.objs.size, o) :: hs) F8 (by
        intro p hp
        apply N8
        simp only [List.mem_cons, List.mem_append] at hp ⊢
        rcases hp with (rfl | rfl | hp) | hp
        · exact .inr (.inl rfl)
        · exact .inl rfl
        · exact .inr (.inr (.inl hp))
        · exact .inr (.inr (.inr hp))) (fun p hp => by
        rcases List.mem_cons.mp hp with rfl | hp
        · exact hne (a, listOf vs.toArray e) (.head _)
        · rcases List.mem_cons.mp hp with rfl | hp
          · exact Nat.ne_of_gt hI
          · exact hne _ (.tail _ hp)) ⟨a, vs ++ [Value.ref h.objs.size], e + 1, (h.objs.size, o) :: hs, rfl, ⟨by rw [List.length_append]; show vs.length + 1 = _; omega, fun j hj => by
        by_cases hji : j < i
        · obtain ⟨b, ob, hb, hm, hlo, hH⟩ := hL.2 j hji
          exact ⟨b, ob, by rw [List.getElem?_append_left (by omega)]; exact hb, .tail _ hm, hlo, hH⟩
        · have hj2 : j = i := by omega
          subst hj2
          exact ⟨h.objs.size, o, by rw [List.getElem?_append_right (by omega), hvl9, Nat.sub_self]; rfl, .head _, lo9, HO⟩⟩, (fun p hp => by
        rcases List.mem_cons.mp hp with rfl | hp
        · exact Nat.ne_of_gt had
        · exact hsa p hp), rfl, rfl⟩
  · rintro m₁ nx h tk ⟨a, vs, e, hs, rfl, hL, hsa, h1, h2⟩ F3 N3
    have F4 := know (know F3 (y := "found") h1) (y := "nets") h2
    clear F3
    try k_fold
    k_steps
    all_goals (try k_data)
    rw [hp16] at hL
    exact hR _ _ _ _ _ _ F4.keep (fun p hp => ⟨(N3 p hp).1, (N3 p hp).2.2⟩) hL
end
end Mine

/-! part F10 -/
namespace Mine
theorem fillIt10 : ∀ (w : World) (h : Heap), (hd.heap_39 w.params).In h → PySem.Challenge.rw_on0088_01.row.prog = PySem.Challenge.rw_on0088_01.row.prog := by
  k_fill
  intros
  rfl
def onceStep (k : List Nat) (n : Nat) : List Nat := if k.contains n = false then k ++ [n] else k
def onceTo (ins : List Nat) (i : Nat) : List Nat := (ins.take i).foldl onceStep []
def onceOf (ins : List Nat) : List Nat := ins.foldl onceStep []
theorem onceTo_succ {ins : List Nat} {i : Nat} (h : i < ins.length) : onceTo ins (i + 1) = onceStep (onceTo ins i) (ins.getD i 0) := by
  rw [onceTo, List.take_add_one, List.foldl_append]
  simp [onceTo, List.getD_eq_getElem?_getD, h]
theorem onceTo_all (ins : List Nat) : onceTo ins ins.length = onceOf ins := by rw [onceTo, List.take_length]; rfl
theorem onceStep_len (k : List Nat) (n : Nat) : (onceStep k n).length ≤ k.length + 1 := by
  unfold onceStep; split <;> simp
theorem once_len (ins : List Nat) : ∀ k : List Nat, (ins.foldl onceStep k).length ≤ k.length + ins.length := by
  induction ins with
  | nil => intro k; exact Nat.le_refl _
  | cons n r ih =>
    intro k
    have h1 := ih (onceStep k n)
    have h2 := onceStep_len k n
    rw [List.foldl_cons, List.length_cons]; omega
theorem onceTo_len (ins : List Nat) (i : Nat) : (onceTo ins i).length ≤ ins.length := by
  have h := once_len (ins.take i) []
  have h2 : (ins.take i).length ≤ ins.length := by rw [List.length_take]; omega
  have h3 : (onceTo ins i).length ≤ 0 + (ins.take i).length := h
  omega
theorem onceOf_len (ins : List Nat) : (onceOf ins).length ≤ ins.length := by rw [← onceTo_all]; exact onceTo_len ins _

section
variable {w : World} {A : Around} {s : Shared} {R : Result → Shared → Prop}
local macro_rules | `(tactic| walk_at "binaryOp LShift int int") => `(tactic| first
  | ((with_reducible refine shl1_N ?a1 ?_); (case a1 => omega); intro t')
  | ((with_reducible refine shl_N ?a1 ?a2 ?_); (case a1 => omega); (case a2 => first | assumption | omega); intro t'))
local macro_rules | `(tactic| walk_at "binaryOp Sub int int") => `(tactic| ((with_reducible refine sub1_N ?a1 ?_); (case a1 => first | omega | exact Nat.one_le_two_pow); intro t'))
local macro_rules | `(tactic| walk_at "binaryOp Add int int") => `(tactic| ((with_reducible refine add1_N ?_); intro t'))
local macro_rules | `(tactic| walk_at "inplaceOp Add int int") => `(tactic| ((with_reducible refine iadd_N ?_); intro t'))
local macro_rules | `(tactic| walk_at "inplaceOp BitOr int int") => `(tactic| ((with_reducible refine ior_N ?_); intro t'))
local macro_rules | `(tactic| walk_at "binaryOp BitXor int int") => `(tactic| ((with_reducible refine xor_N ?_); intro t'))
local macro_rules | `(tactic| walk_at "binaryOp BitAnd int int") => `(tactic| ((first | with_reducible refine and1_N ?_ | with_reducible refine and_N ?_); intro t'))
local macro_rules | `(tactic| walk_at "binaryOp BitOr int int") => `(tactic| ((with_reducible refine or_N ?_); intro t'))
local macro_rules | `(tactic| walk_at "binaryOp RShift int int") => `(tactic| ((with_reducible refine shr_N ?_); intro t'))
local macro_rules | `(tactic| walk_at "binaryOp FloorDiv int int") => `(tactic| ((with_reducible refine fdiv_N ?a1 ?a2 ?_); (case a1 => omega); (case a2 => omega); intro t'))
local macro_rules | `(tactic| walk_at "eval Call") => `(tactic| refine Call_ ?_)
local macro_rules | `(tactic| walk_at "subscriptTail Name Name ref int") => `(tactic| k_dflt (refine' item_N ?l1 ?l2 ?l3 ?l4 ?_ ?l6 ?l7; (case l1 => is_list); (case l2 => assumption); (case l3 => first | assumption | omega); (case l4 => omega); (case l6 => with_unfolding_all rfl); (case l7 => intro _; with_unfolding_all rfl); intro t'))
local macro_rules | `(tactic| walk_at "getMethod ref") => `(tactic| k_dflt (first
  | (refine' listMeth (name := PySem.Str.ofString "index") ?l1 PySem.F.slot_list_index PySem.F.type_list_index ?_; (case l1 => first | assumption | exact ListAt.keeps (by assumption) (Fr.keep (by assumption)) | exact ListAt.news (by assumption) (by k_mem)))
  | (refine' listMeth (name := PySem.Str.ofString "count") ?l1 PySem.F.slot_list_count PySem.F.type_list_count ?_; (case l1 => first | assumption | exact ListAt.keeps (by assumption) (Fr.keep (by assumption)) | exact ListAt.news (by assumption) (by k_mem)))
  | (refine' listMeth (name := PySem.Str.ofString "append") ?l1 PySem.F.slot_list_append PySem.F.type_list_append ?_; (case l1 => first | assumption | exact ListAt.keeps (by assumption) (Fr.keep (by assumption)) | exact ListAt.news (by assumption) (by k_mem)))))
local macro_rules | `(tactic| walk_at "call type:range") => `(tactic| ((rename Fr _ _ _ _ => F'); (rename News _ _ _ _ => N'); k_dflt (refine range1_rows F' N' ?_); clear F' N'; intro h' tk t₁ u₁ v₁ hrg F' N' kp))
local macro_rules | `(tactic| walk_at "call builtin:len") => `(tactic| k_dflt (refine' len_N ?l1 ?l2 ?l3 ?_; (case l1 => is_list); (case l2 => assumption); (case l3 => omega); intro t'))
local macro_rules | `(tactic| walk_at "call builtin:len") => `(tactic| k_dflt (refine' lenT_N ?l1 ?l2 ?l3 ?_; (case l1 => first | assumption | exact News.isTup (by assumption) (by k_mem) | exact IsTup.keeps (by assumption) (Fr.keep (by assumption))); (case l2 => assumption); (case l3 => omega); intro t'))
local macro_rules | `(tactic| walk_at "compareOp In int ref") => `(tactic| k_dflt (refine' in_N ?l1 ?l2 ?_; (case l1 => is_list); (case l2 => assumption)))
local macro_rules | `(tactic| walk_at "compareOp NotIn int ref") => `(tactic| k_dflt (refine' notin_N ?l1 ?l2 ?_; (case l1 => is_list); (case l2 => assumption)))
local macro_rules | `(tactic| k_all) => `(tactic| assumption)
local macro_rules | `(tactic| walk_at "call builtin:list.append") => `(tactic| k_dflt (refine' append_K ?k1 ?k2 ?k3 ?_ ?z; (case k1 => assumption); (case k2 => assumption); (case k3 => k_upd); (case z => exact fitLine (by assumption) (by decide)); intro h' F' N'))
local macro_rules | `(tactic| walk_at "call builtin:list.index") => `(tactic| k_dflt (refine' index_N ?l1 ?l2 ?l3 ?l4 ?_; (case l1 => is_list); (case l2 => assumption); (case l3 => assumption); (case l4 => assumption); intro t'))
local macro_rules | `(tactic| walk_at "pyIter ref") => `(tactic| refine halt ?_)
theorem c_law_once {li : Addr} {vi : List Value} {ins : List Nat} (hA : Room A 1) (P : Here w s.heap) (hli : IsTup s.heap li vi.toArray) (hvi : IntsAre vi (zs ins)) (hins : ins.length ≤ 4)
    (hR : ∀ h' tk a vs, Ext s.heap h' → s.heap.get? a = none → ListAt h' a vs → IntsAre vs (zs (onceOf ins)) → R (.ok (.ret (.ref a))) { s with heap := h', toks := tk }) :
    codeAny (model PySem.Challenge.rw_on0088_01.row.prog w) A (.call (.ref 136) ⟨[.ref li], []⟩) R s := by
  have hvi9 : ∀ {_ : Unit}, IntsAre vi (zs ins) := fun {_} => hvi
  obtain ⟨hnd, dp, fr, gs, un⟩ := A
  have hnd0 : hnd = none := hA.1
  subst hnd0
  obtain ⟨mean, mg, mb, X, T⟩ := id P
  refine' enter [("ins", .ref li)] X T hA ?ho ?hcd ?hbind ?hloc ?h ?c2 ?c3 ?c4 ?c5
  case ho => k_is
  case hcd => k_is
  case hbind => exact BindsTo.of_eq rfl
  case c5 => decide
  case c2 => rfl
  case c3 => rfl
  case c4 => rfl
  case hloc => exact locs rfl
  intro L' h' F' N' hA'
  try dsimp only
  try k_fold
  k_steps
  have hvi := @hvi9 ()
  rename_i l' hA1 lt1 hB1
  rename Fr _ _ _ _ => lF
  rename News _ _ _ _ => lN
  have hli' := IsTup.keeps hli lF.keep
  refine for_tuple (nx₀ := _) (fun i m nx => ∃ a vs e, nx = [(a, listOf vs.toArray e)] ∧ IntsAre vs (zs (onceTo ins i)) ∧ m "found" = some (.ref a) ∧ m "ins" = some (.ref li)) rfl hli' (neTup hli lF) lF lN ⟨_, [], _, rfl, .nil, rfl, rfl⟩ ?_ ?_
  · rintro i v m₁ nx h tk own hv ⟨l', vs, e, rfl, hi, h1, h2⟩ hne hown hI hlt F3 N3
    obtain ⟨hin, hmem, t, rfl⟩ := get_zs hvi hv
    have F4 := know (know F3 (y := "found") h1) (y := "ins") h2
    have N4 : News _ _ h ((l', listOf vs.toArray e) :: own) := N3
    have hn1 := hne _ (.head _)
    have hol : ∀ p ∈ own, p.1 ≠ l' := fun p hp q => by
      rcases hown p hp with e1 | e1
      · exact hn1 (q ▸ e1)
      · have e2 := (N3 p (List.mem_append_right _ hp)).2.2
        obtain ⟨o9, e3, _⟩ := hli
        rw [e1, e3] at e2; cases e2
    have hlv : vs.length ≤ 1000 := by
      have e1 := lenIs hi
      have e2 := onceTo_len ins i
      omega
    clear F3 N3 lF lN hlt
    try k_fold
    k_steps
    · rename (onceTo ins i).contains (ins.getD i 0) = true => hc
      rename Fr _ _ _ _ => F9
      have e9 : onceTo ins (i + 1) = onceTo ins i := by rw [onceTo_succ hin, onceStep, if_neg (by rw [hc]; exact fun h => nomatch h)]
      refine Turn.go (nx' := [(l', listOf vs.toArray e)]) F9 N4 (fun p hp => ?_) ⟨_, vs, e, rfl, by rw [e9]; exact hi, rfl, rfl⟩
      rw [List.mem_singleton.mp hp]; exact hn1
    · rename (onceTo ins i).contains (ins.getD i 0) = false => hc
      rename Fr _ _ _ _ => F9
      rename News _ _ _ _ => N9
      have e9 : onceTo ins (i + 1) = onceTo ins i ++ [ins.getD i 0] := by rw [onceTo_succ hin, onceStep, if_pos hc]
      rw [push_list] at N9
      refine Turn.go (nx' := [(l', listOf _ _)]) F9 N9 (fun p hp => ?_) ⟨_, _, _, rfl, by rw [e9, zs, List.map_append]; exact intsPush hi, rfl, rfl⟩
      rw [List.mem_singleton.mp hp]; exact hn1
  · rintro m₁ nx h tk ⟨l', vs, e, rfl, hi, h1, h2⟩ F3 N3
    have F4 := know F3 (y := "found") h1
    clear F3 lF lN
    try k_fold
    k_steps
    all_goals (try k_data)
    have hlen := lenIs hvi
    rw [show vi.length = ins.length from hlen, onceTo_all] at hi
    exact hR _ _ _ _ F4.keep (N3 _ (.head _)).2.2 ⟨_, (N3 _ (.head _)).1⟩ hi
end
end Mine

/-! part F11 -/
namespace Mine
theorem fillIt11 : ∀ (w : World) (h : Heap), (hd.heap_39 w.params).In h → PySem.Challenge.rw_on0088_01.row.prog = PySem.Challenge.rw_on0088_01.row.prog := by
  k_fill
  intros
  rfl
def differs (kind : Str) (nets : List Nat) (tab : Option Nat) (n i : Nat) : Bool := formed kind nets tab (asg i) != formed kind nets tab (upd (asg i) n (1 - asg i n))
def matters (kind : Str) (nets : List Nat) (tab : Option Nat) (n : Nat) : Bool := (List.range 16).any (differs kind nets tab n)
theorem matters_yes {kind : Str} {nets : List Nat} {tab : Option Nat} {n i : Nat} (hi : i < 16) (h : differs kind nets tab n i = true) : matters kind nets tab n = true :=
  List.any_eq_true.mpr ⟨i, List.mem_range.mpr hi, h⟩
theorem matters_no {kind : Str} {nets : List Nat} {tab : Option Nat} {n : Nat} (h : ∀ i, i < 16 → differs kind nets tab n i = false) : matters kind nets tab n = false :=
  List.any_eq_false.mpr fun i hi => by rw [h i (List.mem_range.mp hi)]; decide
theorem newsAll {h₀ h h' : Heap} {L : Addr} {m : Str → Option Value} {new news : List (Addr × Obj)} (F : Fr h₀ L h m) (N : News h₀ L h' news) (k : ∀ p ∈ new, h'.get? p.1 = some p.2 ∧ h.get? p.1 = none) :
    News h₀ L h' (new ++ news) := by
  induction new with
  | nil => exact N
  | cons q r ih => exact newsPut F (ih fun p hp => k p (.tail _ hp)) (k q (.head _)).2 (k q (.head _)).1
theorem upd_le {f : Nat → Nat} {n v : Nat} (hf : ∀ n, f n ≤ 1) (hv : v ≤ 1) : ∀ m, upd f n v m ≤ 1 := by
  intro m
  unfold upd
  split
  · exact hv
  · exact hf m

section
variable {w : World} {A : Around} {s : Shared} {R : Result → Shared → Prop}
local macro_rules | `(tactic| walk_at "binaryOp LShift int int") => `(tactic| first
  | ((with_reducible refine shl1_N ?a1 ?_); (case a1 => omega); intro t')
  | ((with_reducible refine shl_N ?a1 ?a2 ?_); (case a1 => omega); (case a2 => first | assumption | omega); intro t'))
local macro_rules | `(tactic| walk_at "binaryOp Sub int int") => `(tactic| ((with_reducible refine sub1_N ?a1 ?_); (case a1 => first | omega | exact Nat.one_le_two_pow); intro t'))
local macro_rules | `(tactic| walk_at "binaryOp Add int int") => `(tactic| ((with_reducible refine add1_N ?_); intro t'))
local macro_rules | `(tactic| walk_at "inplaceOp Add int int") => `(tactic| ((with_reducible refine iadd_N ?_); intro t'))
local macro_rules | `(tactic| walk_at "inplaceOp BitOr int int") => `(tactic| ((with_reducible refine ior_N ?_); intro t'))
local macro_rules | `(tactic| walk_at "binaryOp BitXor int int") => `(tactic| ((with_reducible refine xor_N ?_); intro t'))
local macro_rules | `(tactic| walk_at "binaryOp BitAnd int int") => `(tactic| ((first | with_reducible refine and1_N ?_ | with_reducible refine and_N ?_); intro t'))
local macro_rules | `(tactic| walk_at "binaryOp BitOr int int") => `(tactic| ((with_reducible refine or_N ?_); intro t'))
local macro_rules | `(tactic| walk_at "binaryOp RShift int int") => `(tactic| ((with_reducible refine shr_N ?_); intro t'))
local macro_rules | `(tactic| walk_at "binaryOp FloorDiv int int") => `(tactic| ((with_reducible refine fdiv_N ?a1 ?a2 ?_); (case a1 => omega); (case a2 => omega); intro t'))
local macro_rules | `(tactic| walk_at "eval Call") => `(tactic| refine Call_ ?_)
local macro_rules | `(tactic| walk_at "subscriptTail Name Name ref int") => `(tactic| k_dflt (refine' item_N ?l1 ?l2 ?l3 ?l4 ?_ ?l6 ?l7; (case l1 => is_list); (case l2 => assumption); (case l3 => first | assumption | omega); (case l4 => omega); (case l6 => with_unfolding_all rfl); (case l7 => intro _; with_unfolding_all rfl); intro t'))
local macro_rules | `(tactic| walk_at "getMethod ref") => `(tactic| k_dflt (first
  | (refine' listMeth (name := PySem.Str.ofString "index") ?l1 PySem.F.slot_list_index PySem.F.type_list_index ?_; (case l1 => first | assumption | exact ListAt.keeps (by assumption) (Fr.keep (by assumption)) | exact ListAt.news (by assumption) (by k_mem)))
  | (refine' listMeth (name := PySem.Str.ofString "count") ?l1 PySem.F.slot_list_count PySem.F.type_list_count ?_; (case l1 => first | assumption | exact ListAt.keeps (by assumption) (Fr.keep (by assumption)) | exact ListAt.news (by assumption) (by k_mem)))
  | (refine' listMeth (name := PySem.Str.ofString "append") ?l1 PySem.F.slot_list_append PySem.F.type_list_append ?_; (case l1 => first | assumption | exact ListAt.keeps (by assumption) (Fr.keep (by assumption)) | exact ListAt.news (by assumption) (by k_mem)))))
local macro_rules | `(tactic| walk_at "call type:range") => `(tactic| ((rename Fr _ _ _ _ => F'); (rename News _ _ _ _ => N'); k_dflt (refine range1_rows F' N' ?_); clear F' N'; intro h' tk t₁ u₁ v₁ hrg F' N' kp))
local macro_rules | `(tactic| walk_at "call builtin:len") => `(tactic| k_dflt (refine' len_N ?l1 ?l2 ?l3 ?_; (case l1 => is_list); (case l2 => assumption); (case l3 => omega); intro t'))
local macro_rules | `(tactic| walk_at "call builtin:len") => `(tactic| k_dflt (refine' lenT_N ?l1 ?l2 ?l3 ?_; (case l1 => first | assumption | exact News.isTup (by assumption) (by k_mem) | exact IsTup.keeps (by assumption) (Fr.keep (by assumption))); (case l2 => assumption); (case l3 => omega); intro t'))
local macro_rules | `(tactic| walk_at "compareOp In int ref") => `(tactic| k_dflt (refine' in_N ?l1 ?l2 ?_; (case l1 => is_list); (case l2 => assumption)))
local macro_rules | `(tactic| walk_at "compareOp NotIn int ref") => `(tactic| k_dflt (refine' notin_N ?l1 ?l2 ?_; (case l1 => is_list); (case l2 => assumption)))
local macro_rules | `(tactic| k_all) => `(tactic| assumption)
local macro_rules | `(tactic| walk_at "call builtin:list.append") => `(tactic| k_dflt (refine' append_K ?k1 ?k2 ?k3 ?_ ?z; (case k1 => assumption); (case k2 => assumption); (case k3 => k_upd); (case z => exact fitLine (by assumption) (by decide)); intro h' F' N'))
local macro_rules | `(tactic| walk_at "call builtin:list.index") => `(tactic| k_dflt (refine' index_N ?l1 ?l2 ?l3 ?l4 ?_; (case l1 => is_list); (case l2 => assumption); (case l3 => assumption); (case l4 => assumption); intro t'))
local macro_rules | `(tactic| walk_at "pyIter ref") => `(tactic| refine halt ?_)
local macro_rules | `(tactic| walk_at "subscriptTail Name Constant ref int") => `(tactic| k_dflt (refine' item_tupleT ?l1 ?l2 ?l3 ?l4 ?l5 ?_ ?l6; (case l1 => first | assumption | exact News.isTup (by assumption) (by k_mem) | exact IsTup.keeps (by assumption) (Fr.keep (by assumption))); (case l2 => decide); (case l3 => decide); (case l4 => rfl); (case l5 => rfl); (case l6 => with_unfolding_all rfl)))
local macro_rules | `(tactic| walk_at "subscriptTail Name Subscript ref int") => `(tactic| k_dflt (refine' held_item ?l1 ?l2 ?_ ?l6 ?l7; (case l1 => first | assumption | exact HeldAt.keeps (by assumption) (Fr.keep (by assumption))); (case l2 => first | assumption | omega); (case l6 => with_unfolding_all rfl); (case l7 => intro _; with_unfolding_all rfl); intro t'))
local macro_rules | `(tactic| walk_at "subscriptTail Name Name ref int") => `(tactic| k_dflt (first
  | (refine' itemT_N ?l1 ?l2 ?l3 ?l4 ?_ ?l6; (case l1 => first | assumption | exact News.isTup (by assumption) (by k_mem) | exact IsTup.keeps (by assumption) (Fr.keep (by assumption))); (case l2 => assumption); (case l3 => first | assumption | omega); (case l4 => omega); (case l6 => with_unfolding_all rfl); intro t')
  | (refine' held_item ?l1 ?l2 ?_ ?l6 ?l7; (case l1 => first | assumption | exact HeldAt.keeps (by assumption) (Fr.keep (by assumption))); (case l2 => first | assumption | omega); (case l6 => with_unfolding_all rfl); (case l7 => intro _; with_unfolding_all rfl); intro t')))
local macro_rules | `(tactic| walk_at "subscriptTail Subscript Name Constant Constant ref int") => `(tactic| k_dflt (refine' itemT_0 ?l1 ?l2 ?l3 ?_ ?l6; (case l1 => first | assumption | exact News.isTup (by assumption) (by k_mem) | exact IsTup.keeps (by assumption) (Fr.keep (by assumption))); (case l2 => assumption); (case l3 => first | assumption | omega); (case l6 => with_unfolding_all rfl); intro t'))
local macro_rules | `(tactic| walk_at "binaryOp Pow int int") => `(tactic| ((with_reducible refine pow2_N ?a1 ?_); (case a1 => omega); intro t'))
local macro_rules | `(tactic| walk_at "binaryOp Mult int int") => `(tactic| ((with_reducible refine mul_N ?a1 ?_); (case a1 => first | assumption | omega); intro t'))
local macro_rules | `(tactic| walk_at "binaryOp Mod int int") => `(tactic| ((with_reducible refine mod2_N ?_); intro t'))
local macro_rules | `(tactic| walk_at "binaryOp Sub int int") => `(tactic| ((with_reducible refine sub1_from ?a1 ?_); (case a1 => first | assumption | omega); intro t'))
local macro_rules | `(tactic| walk_at "call ref") => `(tactic| refine halt ?_)
local macro_rules | `(tactic| walk_at "call type:dict") => `(tactic| refine halt ?_)
local macro_rules | `(tactic| walk_at "setItem ref int") => `(tactic| refine halt ?_)
local macro_rules | `(tactic| walk_at "compareOp NotEq int int") => `(tactic| refine halt ?_)
theorem c_law_matters {kind : Str} {kt : Tok} {p q l : Addr} {vn vl : List Value} {tv : Value} {nets ns : List Nat} {tab : Option Nat} {n : Nat} {t0 : Tok} (hA : Room A 3) (P : Here w s.heap) (hp : TupAt s.heap p [.str kind kt, .ref q, tv]) (hq : IsTup s.heap q vn.toArray) (hvn : IntsAre vn (zs nets)) (htv : TabVal tv tab)
    (hg : goodForm kind nets tab) (hd : ∀ n ∈ nets, n < 6) (hnl : nets.length ≤ 4) (hl : s.heap.IsList l vl.toArray) (hvl : IntsAre vl (zs ns)) (hn4 : ns.length = 4) (hnk : ∀ k, k < 4 → ns.getD k 0 = 2 + k) (hn6 : n < 6)
    (hR : ∀ h' tk, Ext s.heap h' → R (.ok (.ret (.bool (matters kind nets tab n)))) { s with heap := h', toks := tk }) :
    codeAny (model PySem.Challenge.rw_on0088_01.row.prog w) A (.call (.ref 143) ⟨[.ref p, .ref l, .int (n : Int) t0], []⟩) R s := by
  obtain ⟨hnd, dp, fr, gs, un⟩ := A
  have hnd0 : hnd = none := hA.1
  subst hnd0
  obtain ⟨mean, mg, mb, X, T⟩ := id P
  refine' enter [("form", .ref p), ("nets", .ref l), ("net", .int (n : Int) t0)] X T hA ?ho ?hcd ?hbind ?hloc ?h ?c2 ?c3 ?c4 ?c5
  case ho => k_is
  case hcd => k_is
  case hbind => exact BindsTo.of_eq rfl
  case c5 => decide
  case c2 => rfl
  case c3 => rfl
  case c4 => rfl
  case hloc => exact locs rfl
  intro L' h' F' N' hA'
  try dsimp only
  try k_fold
  k_steps
  rename Fr _ _ _ _ => F2
  rename News _ _ _ _ => N2
  refine wpAny_call (c_law_lines (Room.le hA' (by omega)) (P.keeps F2.keep) (hl.at fun o e => F2.keep _ o e) hvl hn4 hnk ?_)
  intro h3 tk3 a vs e hs kp hnew hL
  have F3 := F2.keeps kp
  have N3 := newsAll F2 (N2.grown kp) hnew
  clear F2 N2
  try dsimp only
  try k_fold
  have hla : h3.IsList a vs.toArray := ⟨_, (N3 _ (.head _)).1, rfl, _, rfl⟩
  have haL : a ≠ L' := (N3 _ (.head _)).2.1
  refine for_list2 (nx₀ := _) (fun i m nx => nx = (a, listOf vs.toArray e) :: hs ++ [] ∧ (∀ j, j < i → differs kind nets tab n j = false) ∧ m "form" = some (.ref p) ∧ m "net" = some (.int (n : Int) t0)) rfl hla haL F3 N3 ⟨rfl, (fun j hj => absurd hj (Nat.not_lt_zero _)), rfl, rfl⟩ ?_ ?_
  · rintro i v m₁ nx h tk own hv ⟨rfl, hno, h1, h2⟩ hne hown _ hI _ F4 N4
    have hi16 : i < 16 := by
      rw [← hL.1]
      rw [List.getElem?_eq_some_iff] at hv; exact hv.1
    obtain ⟨b, o, hb, hm, hlo, hH⟩ := hL.2 i hi16
    rw [hv] at hb
    obtain rfl := Option.some.inj hb
    have F5 := know (know F4 (y := "form") h1) (y := "net") h2
    have hmem : (b, o) ∈ ((a, listOf vs.toArray e) :: hs ++ []) ++ own := List.mem_append_left _ (List.mem_append_left _ (.tail _ hm))
    have HA1 : HeldAt w h b (asg i) 6 6 := ⟨hlo, o, (N4 _ hmem).1, hH⟩
    have hle := asg_le i
    have hle1 := hle n
    clear F4 F3 N3
    try k_fold
    k_steps
    refine held_copy F5 N4 T.nolimit HA1 (by omega) ?_
    intro a2 h4 o2 F6 N6 hlt lo2 H2
    clear F5
    try k_fold
    k_steps
    rename News _ _ _ _ => N7
    refine held_item ⟨hlo, o, (N7 _ (.tail _ hmem)).1, hH⟩ hn6 ?_
    intro t5
    k_steps
    rename Fr _ _ _ _ => F8
    refine held_set (d' := 6) F8 N7 (.head fun p hp => Nat.ne_of_lt (hlt p hp)) H2 (by omega) (.inl rfl) ?_
    intro h5 o5 F9 N9 H5
    clear F8 N7
    try k_fold
    k_steps
    refine wpAny_call (c_law_formed (Room.le hA' (by omega)) (P.keeps F9.keep) (hp.keeps F9.keep) (hq.keeps F9.keep) hvn htv (f := asg i) (b := 6) ⟨hlo, o, (N9 _ (.tail _ hmem)).1, hH⟩ hg hd hle hnl ?_)
    intro h6 tk6 t6 kp6
    have F10 := F9.keeps kp6
    have N10 := N9.grown kp6
    clear F9 N9
    try dsimp only
    try k_fold
    k_steps
    refine wpAny_call (c_law_formed (Room.le hA' (by omega)) (P.keeps F10.keep) (hp.keeps F10.keep) (hq.keeps F10.keep) hvn htv (f := upd (asg i) n (1 - asg i n)) (b := 7) ⟨lo2, o5, (N10 _ (.head _)).1, H5⟩ hg hd (upd_le hle (by omega)) hnl ?_)
    intro h7 tk7 t7 kp7
    have F11 := F10.keeps kp7
    have N11 := N10.grown kp7
    clear F10 N10
    try dsimp only
    try k_fold
    k_steps
    refine PyProof.Rows.ne_int ?_
    have hde : (((formed kind nets tab (asg i) : Nat) : Int) != ((formed kind nets tab (upd (asg i) n (1 - asg i n)) : Nat) : Int)) = differs kind nets tab n i := by
      unfold differs
      rw [Bool.eq_iff_iff, bne_iff_ne, bne_iff_ne]; omega
    rw [hde]
    cases hdf : differs kind nets tab n i with
    | true =>
      k_steps
      all_goals (try k_data)
      have h9 := hR
      rw [matters_yes hi16 hdf] at h9
      exact h9 _ _ F11.keep
    | false =>
      k_steps
      all_goals (try k_data)
      exact Turn.go (nx' := (a, listOf vs.toArray e) :: hs ++ []) F11 (fun p hp => N11 p (.tail _ hp)) (fun p hp => hne p hp) ⟨rfl, (fun j hj => by
        by_cases hji : j < i
        · exact hno j hji
        · rw [show j = i from by omega]; exact hdf), rfl, rfl⟩
  · rintro m₁ nx h tk ⟨rfl, hno, h1, h2⟩ F4 N4
    rw [hL.1] at hno
    clear F3
    try k_fold
    k_steps
    all_goals (try k_data)
    have h9 := hR
    rw [matters_no hno] at h9
    exact h9 _ _ F4.keep
end
end Mine

/-! part F12 -/
namespace Mine
theorem fillIt12 : ∀ (w : World) (h : Heap), (hd.heap_39 w.params).In h → PySem.Challenge.rw_on0088_01.row.prog = PySem.Challenge.rw_on0088_01.row.prog := by
  k_fill
  intros
  rfl
theorem enterH {prog : Program} {w : World} {A : Around} {s : Shared} {K : Frag} {p : Program} {loose : List Str} {mean : ExcName → Option Value} {mg mb : Str → Option Value} {news : List (Addr × Obj)}
    {R : Result → Shared → Prop} {name qual : Str} {params : Arguments} {body : List Stmt} {scope : Scope} {dV kV doc pm cdv ct oc : Value} {an od : Option Addr} {osl : Array (Option Value)} {f : Addr} {args : Args} {n : Nat}
    (binds : List (Str × Value))
    (X : K.In (hideAll s.heap (news.map (·.1)))) (T : Top p loose mean mg mb (hideAll s.heap (news.map (·.1)))) (hroom : Room A (n + 1)) (hn : ∀ q ∈ news, s.heap.get? q.1 = some q.2)
    (ho : K.lookup f = some ⟨oc, od, .func (fnOf name qual params body scope dV kV doc pm an cdv ct), osl⟩) (hcd : codeIn K cdv qual = true)
    (hbind : BindsTo s (fnOf name qual params body scope dV kV doc pm an cdv ct) args binds) (hloc : ∀ y ∈ binds, scope.names.lookup y.1 = some .local)
    (h : ∀ L' h₁, Fr (hideAll s.heap (news.map (·.1))) L' h₁ (fun y => binds.reverse.lookup y) → News (hideAll s.heap (news.map (·.1))) L' h₁ news → Room (A.deeper (envOf qual scope L' f cdv)) n →
      wpAny (model prog w) (A.deeper (envOf qual scope L' f cdv)) (execs body (envOf qual scope L' f cdv))
        (fun fl s' => R (.ok (.ret (match fl with | .ret v => v | _ => .none))) s') (fun _ _ => False)
        { s with heap := h₁, toks := s.toks + binds.length })
    (hco : scope.isCoroutine = false) (hgen : scope.isGenerator = false) (hk : scope.kind = .function)
    (hcell : ∀ x ∈ scope.names, x.2 ≠ .cell) : codeAny (model prog w) A (.call (.ref f) args) R s := by
  have up : ∀ b o, (hideAll s.heap (news.map (·.1))).get? b = some o → s.heap.get? b = some o := fun b o e => of_hideAll _ e
  refine codeAny_call_def (fd := fnOf name qual params body scope dV kV doc pm an cdv ct) (body := body) (binds := binds) hroom.lt (X.keeps up _ _ ho) rfl (T.keeps up).nolimit (codeRec_of (X.keeps up) hcd) rfl hbind hcell hloc (fun h₁ hns hk₁ => ?_) hco hgen hk
  exact wpAny_mono (h s.heap.objs.size h₁ ⟨hns, fun b o e => hk₁ b o (of_hideAll _ e), Nat.le_of_eq (hideAll_size _ _)⟩ (fun p hp => ⟨hk₁ _ _ (hn p hp), Nat.ne_of_lt (Heap.lt_size (hn p hp)), hideAll_none _ (List.mem_map_of_mem hp)⟩) hroom.deeper) (fun _ _ x => x) (fun _ _ x => x.elim)

section
variable {w : World} {A : Around} {s : Shared} {R : Result → Shared → Prop}
local macro_rules | `(tactic| walk_at "binaryOp LShift int int") => `(tactic| first
  | ((with_reducible refine shl1_N ?a1 ?_); (case a1 => omega); intro t')
  | ((with_reducible refine shl_N ?a1 ?a2 ?_); (case a1 => omega); (case a2 => first | assumption | omega); intro t'))
local macro_rules | `(tactic| walk_at "binaryOp Sub int int") => `(tactic| ((with_reducible refine sub1_N ?a1 ?_); (case a1 => first | omega | exact Nat.one_le_two_pow); intro t'))
local macro_rules | `(tactic| walk_at "binaryOp Add int int") => `(tactic| ((with_reducible refine add1_N ?_); intro t'))
local macro_rules | `(tactic| walk_at "inplaceOp Add int int") => `(tactic| ((with_reducible refine iadd_N ?_); intro t'))
local macro_rules | `(tactic| walk_at "inplaceOp BitOr int int") => `(tactic| ((with_reducible refine ior_N ?_); intro t'))
local macro_rules | `(tactic| walk_at "binaryOp BitXor int int") => `(tactic| ((with_reducible refine xor_N ?_); intro t'))
local macro_rules | `(tactic| walk_at "binaryOp BitAnd int int") => `(tactic| ((first | with_reducible refine and1_N ?_ | with_reducible refine and_N ?_); intro t'))
local macro_rules | `(tactic| walk_at "binaryOp BitOr int int") => `(tactic| ((with_reducible refine or_N ?_); intro t'))
local macro_rules | `(tactic| walk_at "binaryOp RShift int int") => `(tactic| ((with_reducible refine shr_N ?_); intro t'))
local macro_rules | `(tactic| walk_at "binaryOp FloorDiv int int") => `(tactic| ((with_reducible refine fdiv_N ?a1 ?a2 ?_); (case a1 => omega); (case a2 => omega); intro t'))
local macro_rules | `(tactic| walk_at "eval Call") => `(tactic| refine Call_ ?_)
local macro_rules | `(tactic| walk_at "subscriptTail Name Name ref int") => `(tactic| k_dflt (refine' item_N ?l1 ?l2 ?l3 ?l4 ?_ ?l6 ?l7; (case l1 => is_list); (case l2 => assumption); (case l3 => first | assumption | omega); (case l4 => omega); (case l6 => with_unfolding_all rfl); (case l7 => intro _; with_unfolding_all rfl); intro t'))
local macro_rules | `(tactic| walk_at "getMethod ref") => `(tactic| k_dflt (first
  | (refine' listMeth (name := PySem.Str.ofString "index") ?l1 PySem.F.slot_list_index PySem.F.type_list_index ?_; (case l1 => first | assumption | exact ListAt.keeps (by assumption) (Fr.keep (by assumption)) | exact ListAt.news (by assumption) (by k_mem)))
  | (refine' listMeth (name := PySem.Str.ofString "count") ?l1 PySem.F.slot_list_count PySem.F.type_list_count ?_; (case l1 => first | assumption | exact ListAt.keeps (by assumption) (Fr.keep (by assumption)) | exact ListAt.news (by assumption) (by k_mem)))
  | (refine' listMeth (name := PySem.Str.ofString "append") ?l1 PySem.F.slot_list_append PySem.F.type_list_append ?_; (case l1 => first | assumption | exact ListAt.keeps (by assumption) (Fr.keep (by assumption)) | exact ListAt.news (by assumption) (by k_mem)))))
local macro_rules | `(tactic| walk_at "call type:range") => `(tactic| ((rename Fr _ _ _ _ => F'); (rename News _ _ _ _ => N'); k_dflt (refine range1_rows F' N' ?_); clear F' N'; intro h' tk t₁ u₁ v₁ hrg F' N' kp))
local macro_rules | `(tactic| walk_at "call builtin:len") => `(tactic| k_dflt (refine' len_N ?l1 ?l2 ?l3 ?_; (case l1 => is_list); (case l2 => assumption); (case l3 => omega); intro t'))
local macro_rules | `(tactic| walk_at "call builtin:len") => `(tactic| k_dflt (refine' lenT_N ?l1 ?l2 ?l3 ?_; (case l1 => first | assumption | exact News.isTup (by assumption) (by k_mem) | exact IsTup.keeps (by assumption) (Fr.keep (by assumption))); (case l2 => assumption); (case l3 => omega); intro t'))
local macro_rules | `(tactic| walk_at "compareOp In int ref") => `(tactic| k_dflt (refine' in_N ?l1 ?l2 ?_; (case l1 => is_list); (case l2 => assumption)))
local macro_rules | `(tactic| walk_at "compareOp NotIn int ref") => `(tactic| k_dflt (refine' notin_N ?l1 ?l2 ?_; (case l1 => is_list); (case l2 => assumption)))
local macro_rules | `(tactic| k_all) => `(tactic| assumption)
local macro_rules | `(tactic| walk_at "call builtin:list.append") => `(tactic| k_dflt (refine' append_K ?k1 ?k2 ?k3 ?_ ?z; (case k1 => assumption); (case k2 => assumption); (case k3 => k_upd); (case z => exact fitLine (by assumption) (by decide)); intro h' F' N'))
local macro_rules | `(tactic| walk_at "call builtin:list.index") => `(tactic| k_dflt (refine' index_N ?l1 ?l2 ?l3 ?l4 ?_; (case l1 => is_list); (case l2 => assumption); (case l3 => assumption); (case l4 => assumption); intro t'))
local macro_rules | `(tactic| walk_at "call builtin:len") => `(tactic| refine halt ?_)
local macro_rules | `(tactic| walk_at "getMethod ref") => `(tactic| refine halt ?_)
local macro_rules | `(tactic| walk_at "call builtin:list.pop") => `(tactic| refine halt ?_)
local macro_rules | `(tactic| walk_at "binaryOp Mod int int") => `(tactic| refine halt ?_)
theorem c_law_out {lr : Addr} {vs : List Value} {e many : Nat} {zl : List Int} {t0 : Tok} (hA : Room A 1) (P : Here w (hideAll s.heap ([(lr, listOf vs.toArray e)].map (·.1)))) (hl : s.heap.get? lr = some (listOf vs.toArray e)) (hv : IntsAre vs zl) (hz : vs.length ≤ 1000) (hm : 0 < many)
    (hR : ∀ h' tk r t' vs' e' zl', (∀ b o, b ≠ lr → s.heap.get? b = some o → h'.get? b = some o) → h'.get? lr = some (listOf vs'.toArray e') → IntsAre vs' zl' → vs'.length ≤ vs.length → r < many → R (.ok (.ret (.int ((r : Nat) : Int) t'))) { s with heap := h', toks := tk }) :
    codeAny (model PySem.Challenge.rw_on0088_01.row.prog w) A (.call (.ref 108) ⟨[.ref lr, .int (many : Int) t0], []⟩) R s := by
  obtain ⟨hnd, dp, fr, gs, un⟩ := A
  have hnd0 : hnd = none := hA.1
  subst hnd0
  obtain ⟨mean, mg, mb, X, T⟩ := id P
  refine' enterH [("row", .ref lr), ("many", .int (many : Int) t0)] X T hA ?hn ?ho ?hcd ?hbind ?hloc ?h ?c2 ?c3 ?c4 ?c5
  case ho => k_is
  case hcd => k_is
  case hbind => exact BindsTo.of_eq rfl
  case c5 => decide
  case c2 => rfl
  case c3 => rfl
  case c4 => rfl
  case hloc => exact locs rfl
  case hn => exact fun q hq => by rw [List.mem_singleton.mp hq]; exact hl
  intro L' h' F' N' hA'
  try dsimp only
  try k_fold
  have hlr : h'.IsList lr vs.toArray := ⟨_, (N' _ (.head _)).1, rfl, _, rfl⟩
  k_steps
  refine len_list hlr (by rw [List.size_toArray]; omega) ?_
  rw [List.size_toArray]
  k_steps
  all_goals (try k_data)
  · rename_i hpos
    refine listMeth (name := PySem.Str.ofString "pop") ⟨_, (N' _ (.head _)).1⟩ PySem.F.slot_list_pop PySem.F.type_list_pop ?_
    k_steps
    refine kpa_pop F' N' (.head (fun _ h => nomatch h)) hv (by first | omega | exact of_decide_eq_true hpos | (simp at hpos; omega)) (Nat.le_trans hz (by rw [sizeLine_eq]; decide)) ?_
    intro h2 t2 F2 N2 hI2
    k_steps
    refine mod_int' (by omega) ?_
    try dsimp only
    have e9 : (zl.getLastD 0).fmod (many : Int) = (((zl.getLastD 0).fmod (many : Int)).toNat : Int) := by
      rw [Int.toNat_of_nonneg]
      rw [Int.fmod_eq_emod_of_nonneg _ (by omega)]
      exact Int.emod_nonneg _ (by omega)
    have l9 : ((zl.getLastD 0).fmod (many : Int)).toNat < many := by
      have := Int.emod_lt_of_pos (zl.getLastD 0) (b := (many : Int)) (by omega)
      rw [← Int.fmod_eq_emod_of_nonneg _ (by omega)] at this
      omega
    rw [e9]
    k_steps
    all_goals (try k_data)
    exact hR _ _ _ _ _ _ _ (fun b o hb ho => F2.keep _ _ (hideAll_get _ ho fun hm => hb (List.mem_singleton.mp hm))) (N2 _ (.head _)).1 hI2 (by rw [List.length_dropLast]; omega) l9
  · exact hR _ _ 0 _ _ _ _ (fun b o hb ho => F'.keep _ _ (hideAll_get _ ho fun hm => hb (List.mem_singleton.mp hm))) (N' _ (.head _)).1 hv (Nat.le_refl _) hm
end
end Mine

/-! part F13 -/
namespace Mine
theorem fillIt13 : ∀ (w : World) (h : Heap), (hd.heap_39 w.params).In h → PySem.Challenge.rw_on0088_01.row.prog = PySem.Challenge.rw_on0088_01.row.prog := by
  k_fill
  intros
  rfl
section
variable {w : World} {A : Around} {s : Shared} {R : Result → Shared → Prop}
local macro_rules | `(tactic| walk_at "binaryOp LShift int int") => `(tactic| first
  | ((with_reducible refine shl1_N ?a1 ?_); (case a1 => omega); intro t')
  | ((with_reducible refine shl_N ?a1 ?a2 ?_); (case a1 => omega); (case a2 => first | assumption | omega); intro t'))
local macro_rules | `(tactic| walk_at "binaryOp Sub int int") => `(tactic| ((with_reducible refine sub1_N ?a1 ?_); (case a1 => first | omega | exact Nat.one_le_two_pow); intro t'))
local macro_rules | `(tactic| walk_at "binaryOp Add int int") => `(tactic| ((with_reducible refine add1_N ?_); intro t'))
local macro_rules | `(tactic| walk_at "inplaceOp Add int int") => `(tactic| ((with_reducible refine iadd_N ?_); intro t'))
local macro_rules | `(tactic| walk_at "inplaceOp BitOr int int") => `(tactic| ((with_reducible refine ior_N ?_); intro t'))
local macro_rules | `(tactic| walk_at "binaryOp BitXor int int") => `(tactic| ((with_reducible refine xor_N ?_); intro t'))
local macro_rules | `(tactic| walk_at "binaryOp BitAnd int int") => `(tactic| ((first | with_reducible refine and1_N ?_ | with_reducible refine and_N ?_); intro t'))
local macro_rules | `(tactic| walk_at "binaryOp BitOr int int") => `(tactic| ((with_reducible refine or_N ?_); intro t'))
local macro_rules | `(tactic| walk_at "binaryOp RShift int int") => `(tactic| ((with_reducible refine shr_N ?_); intro t'))
local macro_rules | `(tactic| walk_at "binaryOp FloorDiv int int") => `(tactic| ((with_reducible refine fdiv_N ?a1 ?a2 ?_); (case a1 => omega); (case a2 => omega); intro t'))
local macro_rules | `(tactic| walk_at "eval Call") => `(tactic| refine Call_ ?_)
local macro_rules | `(tactic| walk_at "subscriptTail Name Name ref int") => `(tactic| k_dflt (refine' item_N ?l1 ?l2 ?l3 ?l4 ?_ ?l6 ?l7; (case l1 => is_list); (case l2 => assumption); (case l3 => first | assumption | omega); (case l4 => omega); (case l6 => with_unfolding_all rfl); (case l7 => intro _; with_unfolding_all rfl); intro t'))
local macro_rules | `(tactic| walk_at "getMethod ref") => `(tactic| k_dflt (first
  | (refine' listMeth (name := PySem.Str.ofString "index") ?l1 PySem.F.slot_list_index PySem.F.type_list_index ?_; (case l1 => first | assumption | exact ListAt.keeps (by assumption) (Fr.keep (by assumption)) | exact ListAt.news (by assumption) (by k_mem)))
  | (refine' listMeth (name := PySem.Str.ofString "count") ?l1 PySem.F.slot_list_count PySem.F.type_list_count ?_; (case l1 => first | assumption | exact ListAt.keeps (by assumption) (Fr.keep (by assumption)) | exact ListAt.news (by assumption) (by k_mem)))
  | (refine' listMeth (name := PySem.Str.ofString "append") ?l1 PySem.F.slot_list_append PySem.F.type_list_append ?_; (case l1 => first | assumption | exact ListAt.keeps (by assumption) (Fr.keep (by assumption)) | exact ListAt.news (by assumption) (by k_mem)))))
local macro_rules | `(tactic| walk_at "call type:range") => `(tactic| ((rename Fr _ _ _ _ => F'); (rename News _ _ _ _ => N'); k_dflt (refine range1_rows F' N' ?_); clear F' N'; intro h' tk t₁ u₁ v₁ hrg F' N' kp))
local macro_rules | `(tactic| walk_at "call builtin:len") => `(tactic| k_dflt (refine' len_N ?l1 ?l2 ?l3 ?_; (case l1 => is_list); (case l2 => assumption); (case l3 => omega); intro t'))
local macro_rules | `(tactic| walk_at "call builtin:len") => `(tactic| k_dflt (refine' lenT_N ?l1 ?l2 ?l3 ?_; (case l1 => first | assumption | exact News.isTup (by assumption) (by k_mem) | exact IsTup.keeps (by assumption) (Fr.keep (by assumption))); (case l2 => assumption); (case l3 => omega); intro t'))
local macro_rules | `(tactic| walk_at "compareOp In int ref") => `(tactic| k_dflt (refine' in_N ?l1 ?l2 ?_; (case l1 => is_list); (case l2 => assumption)))
local macro_rules | `(tactic| walk_at "compareOp NotIn int ref") => `(tactic| k_dflt (refine' notin_N ?l1 ?l2 ?_; (case l1 => is_list); (case l2 => assumption)))
local macro_rules | `(tactic| k_all) => `(tactic| assumption)
local macro_rules | `(tactic| walk_at "call builtin:list.append") => `(tactic| k_dflt (refine' append_K ?k1 ?k2 ?k3 ?_ ?z; (case k1 => assumption); (case k2 => assumption); (case k3 => k_upd); (case z => exact fitLine (by assumption) (by decide)); intro h' F' N'))
local macro_rules | `(tactic| walk_at "call builtin:list.index") => `(tactic| k_dflt (refine' index_N ?l1 ?l2 ?l3 ?l4 ?_; (case l1 => is_list); (case l2 => assumption); (case l3 => assumption); (case l4 => assumption); intro t'))
local macro_rules | `(tactic| walk_at "pyIter ref") => `(tactic| refine halt ?_)
local macro_rules | `(tactic| walk_at "subscriptTail Name Slice ref ref") => `(tactic| refine halt ?_)
local macro_rules | `(tactic| walk_at "binaryOp Mod int int") => `(tactic| refine halt ?_)
local macro_rules | `(tactic| walk_at "binaryOp FloorDiv int int") => `(tactic| refine halt ?_)
local macro_rules | `(tactic| walk_at "getMethod ref") => `(tactic| refine halt ?_)
local macro_rules | `(tactic| walk_at "call builtin:list.append") => `(tactic| refine halt ?_)
local macro_rules | `(tactic| walk_at "call builtin:list.reverse") => `(tactic| refine halt ?_)
local macro_rules | `(tactic| walk_at "exec For Name Subscript cons nil") => `(tactic| ((rename Fr _ _ _ _ => lF'); (with_unfolding_all refine' For_invVF lF' ?k1 ?k2 ?_; (case k1 => exact rfl); (case k2 => exact rfl))))
theorem c_law_row {l : Addr} {vl : List Value} {zl : List Int} (hA : Room A 1) (P : Here w s.heap) (hl : s.heap.IsList l vl.toArray) (hv : IntsAre vl zl) (hz : vl.length ≤ 2 ^ 24)
    (hR : ∀ h' tk a vs e zs', Ext s.heap h' → s.heap.get? a = none → h'.get? a = some (listOf vs.toArray e) → IntsAre vs zs' → vs.length ≤ 60 → R (.ok (.ret (.ref a))) { s with heap := h', toks := tk }) :
    codeAny (model PySem.Challenge.rw_on0088_01.row.prog w) A (.call (.ref 101) ⟨[.ref l], []⟩) R s := by
  obtain ⟨hnd, dp, fr, gs, un⟩ := A
  have hnd0 : hnd = none := hA.1
  subst hnd0
  obtain ⟨mean, mg, mb, X, T⟩ := id P
  refine' enter [("script", .ref l)] X T hA ?ho ?hcd ?hbind ?hloc ?h ?c2 ?c3 ?c4 ?c5
  case ho => k_is
  case hcd => k_is
  case hbind => exact BindsTo.of_eq rfl
  case c5 => decide
  case c2 => rfl
  case c3 => rfl
  case c4 => rfl
  case hloc => exact locs rfl
  intro L' h' F' N' hA'
  try dsimp only
  try k_fold
  k_steps
  rename Fr _ _ _ _ => F1
  rename News _ _ _ _ => N1
  refine kmk_slice_ints F1 N1 (hl.at fun o e => F1.keep _ o e) IsPart.none (IsPart.int _ _) hv (kmk_upto hv (by decide)) rfl ?_ (by with_unfolding_all rfl) (by intro _; with_unfolding_all rfl) (by rw [List.size_toArray]; exact hz)
  intro c ws h2 F2 N2 hlt hI2 _ _
  have hc40 : ws.length ≤ 40 := by
    rw [hI2.length, List.length_take]; omega
  clear F1 N1
  try k_fold
  k_steps
  obtain ⟨l', N3, hlc, F3⟩ : ∃ l', News s.heap L' h2 [(l', listOf #[] 0)] ∧ l' < c ∧ Fr s.heap L' h2 (fun y => if y = Str.ofString "row" then some (.ref l') else List.lookup y [(Str.ofString "script", Value.ref l)].reverse) := ⟨_, fun p hp => N2 p (.tail _ hp), hlt _ (.head _), F2⟩
  have hlist : h2.IsList c ws.toArray := ⟨_, (N2 _ (.head _)).1, rfl, _, rfl⟩
  have hcL : c ≠ L' := (N2 _ (.head _)).2.1
  refine for_list (nx₀ := _) (fun i m nx => ∃ a vs e zz, nx = [(a, listOf vs.toArray e)] ∧ a < c ∧ IntsAre vs zz ∧ vs.length ≤ 20 * i ∧ m "row" = some (.ref a)) rfl hlist hcL F3 N3 ⟨l', [], 0, [], rfl, hlc, .nil, Nat.le_refl _, rfl⟩ ?_ ?_
  · rintro i v m₁ nx h tk own hv9 ⟨a, vs, e, zz, rfl, hac, hi, hle, h1⟩ hne hown hI _ F3 N3
    have hi40 : i < 40 := by
      rw [List.getElem?_eq_some_iff] at hv9
      have := hv9.1
      omega
    obtain ⟨tv, rfl⟩ := hI2.int_at i _ hv9
    generalize (List.take (Int.toNat 40) zl).getD i 0 = x at F3
    have F4 := know F3 (y := "row") h1
    have N4 : News _ _ h ((a, listOf vs.toArray e) :: own) := N3
    have hao : ∀ p ∈ own, p.1 ≠ a := fun p hp q => by
      rcases hown p hp with e1 | e1
      · exact hne (a, listOf vs.toArray e) (.head _) (q ▸ e1)
      · rw [q] at e1; exact Nat.ne_of_lt hac e1
    clear F3 N3 F2 N2
    try k_fold
    k_steps
    all_goals (try k_data)
    all_goals
      rename IsRange _ _ _ _ _ _ _ _ => hrg
      rename Fr _ _ _ _ => F5
      rename News _ _ _ _ => N5
      refine for_range (n := 20) (nx₀ := _) (fun k m nx => ∃ vs' e' zz', nx = (a, listOf vs'.toArray e') :: own ∧ IntsAre vs' zz' ∧ vs'.length ≤ 20 * i + k ∧ (∃ z t, m "left" = some (.int z t)) ∧ m "row" = some (.ref a)) rfl hrg (by decide) F5 N5 ⟨vs, e, zz, rfl, hi, hle, ⟨_, _, rfl⟩, rfl⟩ ?_ ?_
      · rintro k t2 m₂ nx2 h3 tk3 own2 hk ⟨vs', e', zz', rfl, hi', hle', ⟨z, tz, g1⟩, g2⟩ hne2 hown2 hI2' F6 N6
        have F7 := know (know F6 (y := "left") g1) (y := "row") g2
        have N7 : News _ _ h3 ((a, listOf vs'.toArray e') :: (own ++ own2)) := N6
        have hao2 : ∀ p ∈ own ++ own2, p.1 ≠ a := fun p hp => by
          rcases List.mem_append.mp hp with hp | hp
          · exact hao p hp
          · exact fun q => hne2 (a, listOf vs'.toArray e') (.head _) (q ▸ hown2 p hp)
        clear F6 N6 F5 N5 hrg
        try k_fold
        k_steps
        refine listMeth (name := PySem.Str.ofString "append") ⟨_, (N7 _ (.head _)).1⟩ PySem.F.slot_list_append PySem.F.type_list_append ?_
        k_steps
        refine mod_int' (by decide) ?_
        k_steps
        refine append_K F7 N7 (.head hao2) ?_ (fitLine (k := 1000) (by omega) (by decide))
        intro h4 F9 N9
        clear F7 N7
        rw [push_list] at N9
        try k_fold
        k_steps
        refine floordiv_int (by decide) ?_ (Or.inl (PyProof.noPylong_small (by decide)))
        k_steps
        all_goals (try k_data)
        · show wpAny _ _ _ _ _ _
          k_steps
          all_goals (try k_data)
          rename Fr _ _ _ _ => F10
          rename News _ _ _ _ => N10
          exact Turn.go (nx' := [(a, _)]) F10 (fun p hp => N10 p (by
            rcases List.mem_append.mp hp with hp | hp
            · rw [List.mem_singleton.mp hp]; exact .head _
            · exact .tail _ (List.mem_append_left _ hp))) (fun p hp => by rw [List.mem_singleton.mp hp]; exact hne (a, listOf vs.toArray e) (.head _)) ⟨a, _, e' + 1, _, rfl, hac, intsPush hi', by rw [List.length_append]; show vs'.length + 1 ≤ _; omega, rfl⟩
        · rename Fr _ _ _ _ => F10
          rename News _ _ _ _ => N10
          exact Turn.go (nx' := (a, _) :: own) F10 N10 (fun p hp => by
            rcases List.mem_cons.mp hp with rfl | hp
            · exact hne2 (a, listOf vs'.toArray e') (.head _)
            · exact hne2 p (.tail _ hp)) ⟨_, e' + 1, _, rfl, intsPush hi', by rw [List.length_append]; show vs'.length + 1 ≤ _; omega, ⟨_, _, rfl⟩, rfl⟩
      · rintro m₂ nx2 h3 tk3 ⟨vs', e', zz', rfl, hi', hle', ⟨z, tz, g1⟩, g2⟩ F6 N6
        try k_fold
        k_steps
        all_goals (try k_data)
        rename Fr _ _ _ _ => F9
        exact Turn.go (nx' := [(a, listOf vs'.toArray e')]) F9 N6 (fun p hp => by rw [List.mem_singleton.mp hp]; exact hne (a, listOf vs.toArray e) (.head _)) ⟨a, vs', e', zz', rfl, hac, hi', by omega, g2⟩
  · rintro m₁ nx h tk ⟨a, vs, e, zz, rfl, hac, hi, hle, h1⟩ F4 N4
    have F5 := know F4 (y := "row") h1
    have hla : h.IsList a vs.toArray := ⟨_, (N4 _ (.head _)).1, rfl, _, rfl⟩
    have hvs : vs.length ≤ 1000 := by omega
    clear F4
    try k_fold
    k_steps
    refine kmk_slice_ints F5 N4 hla IsPart.none (IsPart.int _ _) hi (kmk_upto hi (by decide)) rfl ?_ (by with_unfolding_all rfl) (by intro _; with_unfolding_all rfl) (fitLine hvs (by decide))
    intro c2 ws2 h5 F6 N6 hlt6 hI6 _ _
    have hl60 : ws2.length ≤ 60 := by
      rw [hI6.length, List.length_take]; omega
    clear F5
    try k_fold
    k_steps
    rename News _ _ _ _ => N7
    refine listMeth (name := PySem.Str.ofString "reverse") ⟨_, (N7 _ (.head _)).1⟩ PySem.F.slot_list_reverse PySem.F.type_list_reverse ?_
    k_steps
    rename Fr _ _ _ _ => F7
    refine kl_reverse F7 N7 rfl (.head fun p hp => Nat.ne_of_lt (hlt6 p hp)) (Nat.le_trans (by simpa using hl60) (by rw [sizeLine_eq]; decide : (60:Nat) ≤ sizeLine)) ?_
    intro h7 F8 N8
    clear F7 N7
    try k_fold
    k_steps
    all_goals (try k_data)
    exact hR _ _ _ _ _ _ F8.keep (N8 _ (.head _)).2.2 (N8 _ (.head _)).1 (by simpa using hI6.reverse) (by simpa using hl60)
end
end Mine

/-! part F14 -/
namespace Mine
theorem out_call {w : World} {A : Around} {E : Value → Shared → Prop} {s : Shared} {Q : Value → Shared → Prop} {h₀ : Heap} {L lr : Addr} {m : Str → Option Value} {news : List (Addr × Obj)} {g : Obj → List (Addr × Obj)} {vs : List Value} {e many : Nat} {zl : List Int} {t0 : Tok}
    (hA : Room A 1) (P : Here w h₀) (F : Fr h₀ L s.heap m) (N : News h₀ L s.heap news) (U : UpdF lr (listOf vs.toArray e) news g) (hv : IntsAre vs zl) (hz : vs.length ≤ 1000) (hm : 0 < many)
    (k : ∀ h' tk r t' vs' e' zl', Fr h₀ L h' m → News h₀ L h' (g (listOf vs'.toArray e')) → IntsAre vs' zl' → vs'.length ≤ vs.length → r < many → Q (.int ((r : Nat) : Int) t') { s with heap := h', toks := tk }) :
    wpAny (model PySem.Challenge.rw_on0088_01.row.prog w) A (call (.ref 108) [.ref lr, .int (many : Int) t0]) Q E s := by
  obtain ⟨pre, post, rfl, hg, ha, hb⟩ := U.split
  have Nl := N (lr, listOf vs.toArray e) (List.mem_append.mpr (.inr (.head _)))
  have st : ∀ b o, h₀.get? b = some o → b ≠ lr := fun b o q r => by rw [r, Nl.2.2] at q; cases q
  refine wpAny_call (c_law_out (e := e) hA (P.keeps fun b o q => hideAll_get _ (F.keep b o q) fun hm9 => st b o q (List.mem_singleton.mp hm9)) Nl.1 hv hz hm ?_)
  intro h' tk r t' vs' e' zl' hk hl' hi' hlen hr
  refine k h' tk r t' vs' e' zl' ⟨F.ns.at' fun o q => hk L o (fun r9 => Nl.2.1 r9.symm) q, fun b o q => hk b o (st b o q) (F.keep b o q), F.above⟩ ?_ hi' hlen hr
  rw [hg]
  intro p hp
  rcases List.mem_append.mp hp with hp | hp
  · have := N p (List.mem_append_left _ hp)
    exact ⟨hk _ _ (ha p hp) this.1, this.2⟩
  · rcases List.mem_cons.mp hp with rfl | hp
    · exact ⟨hl', Nl.2⟩
    · have := N p (List.mem_append_right _ (.tail _ hp))
      exact ⟨hk _ _ (hb p hp) this.1, this.2⟩

open PyProof.Rows.LCg in
theorem compRest_ind {prog : Program} {w : World} {A : Around} {s : Shared} {h₀ : Heap} {L : Addr} {m : Str → Option Value} {env : Env} {elt : Expr} {x : Str} {scope : Scope} {cl : List (Str × Addr)} {S : List (Addr × Obj) → Prop} {P : Nat → Value → Prop} {Fin : List Value → List (Addr × Obj) → Prop}
    (n : Nat) (Inv : Nat → List Value → List (Addr × Obj) → Prop)
    (turn : ∀ i ys news v I oI C oC D m₂ h tk (E' : Value → Shared → Prop), i < n → Inv i ys news → P i v → NsObj oC m₂ → m₂ x = some v → Fr h₀ L h m → News h₀ L h ((I, oI) :: (C, oC) :: (D, lst ys) :: news) → Off3 I C D news → ((@Ne Nat I C) ∧ (@Ne Nat I D) ∧ (@Ne Nat C D)) →
      wpAny (model prog w) A (eval elt (compEnvC scope cl C env)) (CompEnd h₀ L m { s with heap := h, toks := tk } I oI C oC D (lst ys) S (fun y news' => Inv (i + 1) (ys ++ [y]) news')) E' { s with heap := h, toks := tk })
    (fin : ∀ ys news, Inv n ys news → Fin ys news) : ∀ k i ys news, i + k = n → Inv i ys news → CompRest prog w A h₀ L m env elt x scope cl s S P Fin k i ys news
  | 0, i, ys, news, e, hI => .zero (fin ys news (by have : i = n := by omega
                                                    subst this; exact hI))
  | k + 1, i, ys, news, e, hI => .succ fun v I oI C oC D m₂ h tk E' hP hN hx F N off ne =>
    wpAny_mono (turn i ys news v I oI C oC D m₂ h tk E' (by omega) hI hP hN hx F N off ne) (fun y s₂ ⟨h', tk', news', e1, F', N', off', hS, r⟩ =>
      ⟨h', tk', news', e1, F', N', off', hS, compRest_ind n Inv turn fin k (i + 1) (ys ++ [y]) news' (by omega) r⟩) fun _ _ e => e
end Mine

/-! part Pure1 -/
namespace Mine
theorem add_bit {x n c r : Nat} (hx : x < 2 ^ n) (hc : c ≤ 1) (hr : r ≤ n) : (x + c * 2 ^ n) / 2 ^ r % 2 = if r = n then c else x / 2 ^ r % 2 := by
  split
  · rename_i h
    subst h
    rw [Nat.add_mul_div_right _ _ (Nat.two_pow_pos r), Nat.div_eq_of_lt hx]; omega
  · have hlt : r < n := by omega
    obtain ⟨d, rfl⟩ : ∃ d, n = r + (d + 1) := ⟨n - r - 1, by omega⟩
    have e : c * 2 ^ (r + (d + 1)) = 2 ^ r * (2 * (c * 2 ^ d)) := by
      rw [Nat.pow_add, Nat.pow_succ]
      rw [Nat.mul_comm 2 (c * 2 ^ d), Nat.mul_assoc c, ← Nat.mul_assoc, ← Nat.mul_assoc, Nat.mul_comm c (2 ^ r), Nat.mul_assoc, Nat.mul_assoc]
    rw [e, Nat.add_mul_div_left _ _ (Nat.two_pow_pos r), Nat.add_mul_mod_self_left]
theorem or_add {x n c : Nat} (hx : x < 2 ^ n) : x ||| (c <<< n) = x + c * 2 ^ n := by
  rw [Nat.or_comm, ← Nat.shiftLeft_add_eq_or_of_lt hx, Nat.shiftLeft_eq, Nat.add_comm]
theorem line_bit {f : Nat → Nat} (hf : ∀ n, f n ≤ 1) (ks : List Nat) : ∀ {n j : Nat}, j < n → lineTo f ks n / 2 ^ j % 2 = f (ks.getD j 0)
  | n + 1, j, h => by
    rw [lineTo, add_bit (lineTo_lt hf ks n) (hf _) (by omega)]
    split
    · rename_i e; subst e; rfl
    · exact line_bit hf ks (by omega)
theorem tov_bit {tab : Nat} {ins ks : List Nat} : ∀ {n r : Nat}, r < n → tovTo tab ins ks n / 2 ^ r % 2 = (tab >>> rnTo (bitsAt ins ks r) (bitsAt ins ks r).length) % 2
  | n + 1, r, h => by
    have e : tovTo tab ins ks (n + 1) = tovTo tab ins ks n + ((tab >>> rnTo (bitsAt ins ks n) (bitsAt ins ks n).length) % 2) * 2 ^ n := by
      rw [tovTo]
      rcases Nat.mod_two_eq_zero_or_one (tab >>> rnTo (bitsAt ins ks n) (bitsAt ins ks n).length) with h | h
      · rw [if_pos h, h, Nat.zero_mul]
      · rw [if_neg (by omega), h, Nat.one_mul]
    rw [e, add_bit (tov_lt tab ins ks n) (by omega) (by omega)]
    split
    · rename_i e; subst e; rfl
    · exact tov_bit (by omega)
theorem shrTo_lt (t : Nat) (ks : List Nat) : ∀ n, shrTo t ks n < 2 ^ n
  | 0 => Nat.one_pos
  | n + 1 => by
    have h := shrTo_lt t ks n
    have hb : (t >>> sprTo n ks ks.length) % 2 ≤ 1 := by omega
    have h2 : (t >>> sprTo n ks ks.length) % 2 * 2 ^ n ≤ 1 * 2 ^ n := Nat.mul_le_mul_right _ hb
    rw [shrTo, or_add h, Nat.pow_succ]; omega
theorem shr_bit {t : Nat} {ks : List Nat} : ∀ {n r : Nat}, r < n → shrTo t ks n / 2 ^ r % 2 = (t >>> sprTo r ks ks.length) % 2
  | n + 1, r, h => by
    rw [shrTo, or_add (shrTo_lt t ks n), add_bit (shrTo_lt t ks n) (by omega) (by omega)]
    split
    · rename_i e; subst e; rfl
    · exact shr_bit (by omega)
/-- bits of the spread -/
theorem spr_bit {m p : Nat} {ps : List Nat} : ∀ {n : Nat}, (sprTo m ps n).testBit p = true ↔ ∃ j, j < n ∧ ps.getD j 0 = p ∧ m / 2 ^ j % 2 = 1
  | 0 => by simp [sprTo]
  | n + 1 => by
    rw [sprTo, Nat.testBit_or, Bool.or_eq_true, spr_bit (n := n), Nat.testBit_shiftLeft, Bool.and_eq_true, decide_eq_true_eq]
    constructor
    · rintro (⟨j, h1, h2, h3⟩ | ⟨h1, h2⟩)
      · exact ⟨j, by omega, h2, h3⟩
      · refine ⟨n, by omega, ?_, ?_⟩
        · by_cases e : p = ps.getD n 0
          · exact e.symm
          · obtain ⟨d, hd⟩ : ∃ d, p - ps.getD n 0 = d + 1 := ⟨p - ps.getD n 0 - 1, by omega⟩
            rw [hd, Nat.testBit_succ] at h2
            rw [show (m >>> n) % 2 / 2 = 0 from by omega] at h2
            simp at h2
        · rw [← Nat.shiftRight_eq_div_pow]
          by_cases e : (m >>> n) % 2 = 1
          · exact e
          · rw [show (m >>> n) % 2 = 0 from by omega] at h2
            simp at h2
    · rintro ⟨j, h1, h2, h3⟩
      by_cases e : j = n
      · subst e
        refine .inr ⟨by omega, ?_⟩
        rw [h2, Nat.sub_self, Nat.shiftRight_eq_div_pow, h3]; rfl
      · exact .inl ⟨j, by omega, h2, h3⟩
theorem tb_eq (t r : Nat) : t.testBit r = decide (t / 2 ^ r % 2 = 1) := Nat.testBit_eq_decide_div_mod_eq
theorem vt_bit : ∀ k, k < 5 → ∀ i, i < k → ∀ r, r < 2 ^ k → (vt i k).testBit r = r.testBit i := by decide +kernel
theorem vt_lt : ∀ k, k < 5 → ∀ i, i < k → vt i k < 2 ^ 2 ^ k := by decide +kernel
end Mine

/-! part Pure2 -/
namespace Mine
theorem big_false {t k r : Nat} (ht : t < 2 ^ 2 ^ k) (hr : 2 ^ k ≤ r) : t.testBit r = false :=
  Nat.testBit_lt_two_pow (Nat.lt_of_lt_of_le ht (Nat.pow_le_pow_right (by decide) hr))
theorem xor_up : ∀ k, k < 5 → ∀ i, i < k → ∀ r, r < 2 ^ k → r.testBit i = false → r + 2 ^ i = r ^^^ 2 ^ i := by decide +kernel
theorem bit_up : ∀ k, k < 5 → ∀ i, i < k → ∀ r, r < 2 ^ k → r.testBit i = false → r + 2 ^ i < 2 ^ k ∧ (r + 2 ^ i).testBit i = true := by decide +kernel
theorem bit_up1 : ∀ k, k < 5 → ∀ i, i < k → ∀ r, r < 2 ^ k → r.testBit i = true → (r + 2 ^ i).testBit i = false ∧ 2 ^ i ≤ r ∧ (r - 2 ^ i).testBit i = false := by decide +kernel
theorem bit_dn : ∀ k, k < 5 → ∀ i, i < k → ∀ r, r < 2 ^ k → r.testBit i = false → 2 ^ i ≤ r → (r - 2 ^ i).testBit i = true := by decide +kernel
theorem bit_out : ∀ k, k < 5 → ∀ i, i < k → ∀ r, r < 2 ^ k + 2 ^ i → 2 ^ k ≤ r → (r - 2 ^ i).testBit i = true := by decide +kernel
section
variable {t i k r : Nat} (hk : k < 5) (hi : i < k) (ht : t < 2 ^ 2 ^ k)
include hk hi ht
theorem high_bit : (t &&& vt i k).testBit r = (t.testBit r && decide (r < 2 ^ k) && r.testBit i) := by
  rw [Nat.testBit_and]
  by_cases h : r < 2 ^ k
  · rw [vt_bit k hk i hi r h, decide_eq_true h, Bool.and_true]
  · rw [big_false ht (by omega)]; simp
theorem low_bit : (t ^^^ (t &&& vt i k)).testBit r = (t.testBit r && decide (r < 2 ^ k) && !r.testBit i) := by
  rw [Nat.testBit_xor, high_bit hk hi ht]
  by_cases h : r < 2 ^ k
  · rw [decide_eq_true h]; cases t.testBit r <;> cases r.testBit i <;> rfl
  · rw [big_false ht (by omega)]; simp
theorem cof1_bit : (cof1 t i k).testBit r = ((t.testBit r && decide (r < 2 ^ k) && r.testBit i) || (t.testBit (r + 2 ^ i) && decide (r + 2 ^ i < 2 ^ k) && (r + 2 ^ i).testBit i)) := by
  rw [cof1, Nat.testBit_or, Nat.testBit_shiftRight, high_bit hk hi ht, high_bit hk hi ht, Nat.add_comm (2 ^ i) r]
theorem cof0_bit : (cof0 t i k).testBit r = ((t.testBit r && decide (r < 2 ^ k) && !r.testBit i) || (decide (2 ^ i ≤ r) && (t.testBit (r - 2 ^ i) && decide (r - 2 ^ i < 2 ^ k) && !(r - 2 ^ i).testBit i))) := by
  rw [cof0, Nat.testBit_or, Nat.testBit_shiftLeft, low_bit hk hi ht, low_bit hk hi ht]
theorem cof1_lo (hr : r < 2 ^ k) (hb : r.testBit i = false) : (cof1 t i k).testBit r = t.testBit (r + 2 ^ i) := by
  obtain ⟨h1, h2⟩ := bit_up k hk i hi r hr hb
  rw [cof1_bit hk hi ht, hb, h2, decide_eq_true h1]; simp
theorem cof0_lo (hr : r < 2 ^ k) (hb : r.testBit i = false) : (cof0 t i k).testBit r = t.testBit r := by
  rw [cof0_bit hk hi ht, hb, decide_eq_true hr]
  by_cases h : 2 ^ i ≤ r
  · rw [bit_dn k hk i hi r hr hb h]; simp
  · rw [decide_eq_false h]; simp
theorem dep_no (hd : dep t i k = false) (hr : r < 2 ^ k) (hb : r.testBit i = false) : t.testBit r = t.testBit (r + 2 ^ i) := by
  have e : cof0 t i k = cof1 t i k := by
    unfold dep at hd
    have := bne_eq_false_iff_eq.mp hd
    omega
  rw [← cof0_lo hk hi ht hr hb, ← cof1_lo hk hi ht hr hb, e]
theorem dep_yes (hd : dep t i k = true) : ∃ r, r < 2 ^ k ∧ r.testBit i = false ∧ t.testBit r ≠ t.testBit (r + 2 ^ i) := by
  apply Classical.byContradiction
  intro hno
  have hall : ∀ r, r < 2 ^ k → r.testBit i = false → t.testBit r = t.testBit (r + 2 ^ i) := fun r h1 h2 => Classical.byContradiction fun h3 => hno ⟨r, h1, h2, h3⟩
  have e : cof0 t i k = cof1 t i k := by
    apply Nat.eq_of_testBit_eq
    intro r
    have p1 := Nat.two_pow_pos i
    have p2 := Nat.two_pow_pos k
    by_cases hr : r < 2 ^ k
    · cases hb : r.testBit i with
      | false => rw [cof0_lo hk hi ht hr hb, cof1_lo hk hi ht hr hb]; exact hall r hr hb
      | true =>
        obtain ⟨h1, h2, h3⟩ := bit_up1 k hk i hi r hr hb
        rw [cof0_bit hk hi ht, cof1_bit hk hi ht, hb, h1, h3, decide_eq_true hr, decide_eq_true h2, decide_eq_true (show r - 2 ^ i < 2 ^ k by omega)]
        have h4 := hall (r - 2 ^ i) (by omega) h3
        rw [Nat.sub_add_cancel h2] at h4
        rw [h4]; simp
    · rw [cof0_bit hk hi ht, cof1_bit hk hi ht, decide_eq_false hr, decide_eq_false (show ¬ r + 2 ^ i < 2 ^ k by omega)]
      by_cases h : 2 ^ i ≤ r
      · by_cases h2 : r - 2 ^ i < 2 ^ k
        · rw [bit_out k hk i hi r (by omega) (by omega)]; simp
        · rw [decide_eq_false h2]; simp
      · rw [decide_eq_false h]; simp
  unfold dep at hd
  rw [e] at hd
  simp at hd
end
/-- rows that agree on the places that matter read alike -/
theorem alike {t k a b : Nat} (hk : k < 5) (ht : t < 2 ^ 2 ^ k) (hab : ∀ p, p < k → dep t p k = true → a.testBit p = b.testBit p) (ha : a < 2 ^ k) (hb : b < 2 ^ k) : t.testBit a = t.testBit b := by
  have step : ∀ p, p ≤ k → ∃ c, c < 2 ^ k ∧ (∀ q, q < p → c.testBit q = b.testBit q) ∧ (∀ q, p ≤ q → c.testBit q = a.testBit q) ∧ t.testBit a = t.testBit c := by
    intro p
    induction p with
    | zero => intro _; exact ⟨a, ha, fun q h => absurd h (Nat.not_lt_zero _), fun _ _ => rfl, rfl⟩
    | succ p ih =>
      intro hp
      obtain ⟨c, hc, h1, h2, h3⟩ := ih (by omega)
      by_cases e : a.testBit p = b.testBit p
      · refine ⟨c, hc, fun q hq => ?_, fun q hq => h2 q (by omega), h3⟩
        by_cases e2 : q = p
        · rw [e2, h2 p (Nat.le_refl _), e]
        · exact h1 q (by omega)
      · have hd : dep t p k = false := by
          cases hd : dep t p k with
          | false => rfl
          | true => exact absurd (hab p (by omega) hd) e
        have hcp := h2 p (Nat.le_refl _)
        have flip : ∀ c', c' = c ^^^ 2 ^ p → (∀ q, c'.testBit q = if q = p then !c.testBit q else c.testBit q) := by
          intro c' e' q
          rw [e', Nat.testBit_xor, Nat.testBit_two_pow]
          by_cases h : p = q
          · rw [decide_eq_true h, if_pos h.symm]; cases c.testBit q <;> rfl
          · rw [decide_eq_false h, if_neg (fun x => h x.symm)]; cases c.testBit q <;> rfl
        have hf := flip _ rfl
        have hlt : c ^^^ 2 ^ p < 2 ^ k := Nat.xor_lt_two_pow hc (Nat.pow_lt_pow_right (by decide) (by omega))
        refine ⟨c ^^^ 2 ^ p, hlt, fun q hq => ?_, fun q hq => ?_, ?_⟩
        · rw [hf]
          by_cases e2 : q = p
          · rw [if_pos e2, e2, hcp]
            cases h5 : a.testBit p <;> cases h6 : b.testBit p <;> simp [h5, h6] at e ⊢
          · rw [if_neg e2]; exact h1 q (by omega)
        · rw [hf, if_neg (by omega)]; exact h2 q (by omega)
        · rw [h3]
          cases hcb : c.testBit p with
          | false =>
            have e7 := dep_no hk (by omega) ht hd hc hcb
            rw [e7, xor_up k hk p (by omega) c hc hcb]
          | true =>
            have hcf : (c ^^^ 2 ^ p).testBit p = false := by rw [hf, if_pos rfl, hcb]; rfl
            have e7 := dep_no hk (by omega) ht hd hlt hcf
            have e8 : (c ^^^ 2 ^ p) + 2 ^ p = c := by
              rw [xor_up k hk p (by omega) _ hlt hcf, Nat.xor_assoc, Nat.xor_self, Nat.xor_zero]
            rw [e7, e8]
  obtain ⟨c, hc, h1, _, h3⟩ := step k (Nat.le_refl _)
  have e : c = b := by
    apply Nat.eq_of_testBit_eq
    intro q
    by_cases hq : q < k
    · exact h1 q hq
    · rw [Nat.testBit_lt_two_pow (Nat.lt_of_lt_of_le hc (Nat.pow_le_pow_right (by decide) (by omega))), Nat.testBit_lt_two_pow (Nat.lt_of_lt_of_le hb (Nat.pow_le_pow_right (by decide) (by omega)))]
  rw [h3, e]
end Mine

/-! part Pure3 -/
namespace Mine
theorem getD_mem {ns : List Nat} {i : Nat} (hi : i < ns.length) : ns.getD i 0 ∈ ns := by
  rw [List.getD_eq_getElem?_getD, List.getElem?_eq_getElem hi]
  exact List.getElem_mem hi
theorem idx_getD {ns : List Nat} {n : Nat} (h : n ∈ ns) : ns.idxOf n < ns.length ∧ ns.getD (ns.idxOf n) 0 = n := by
  have hl := List.idxOf_lt_length_of_mem h
  refine ⟨hl, ?_⟩
  rw [List.getD_eq_getElem?_getD, List.getElem?_eq_getElem hl]
  exact List.getElem_idxOf hl
theorem rn_line {tab : Nat} {ns ks : List Nat} {f : Nat → Nat} (hf : ∀ n, f n ≤ 1) {row : Nat} (h : ∀ n ∈ ns, tb ks row n = f n) : ∀ i, i ≤ ns.length → rnTo (bitsAt ns ks row) i = lineTo f ns i
  | 0, _ => rfl
  | i + 1, hi => by
    rw [rnTo, lineTo, rn_line (tab := tab) hf h i (by omega)]
    have e : (bitsAt ns ks row).getD i 0 = f (ns.getD i 0) := by
      rw [← h _ (getD_mem (by omega)), bitsAt]
      simp [List.getD_eq_getElem?_getD, show i < ns.length by omega]
    rw [e]
    have := hf (ns.getD i 0)
    rcases (by omega : f (ns.getD i 0) = 0 ∨ f (ns.getD i 0) = 1) with h0 | h0 <;> rw [h0] <;> simp
theorem readA {tab : Nat} {ns : List Nat} {f : Nat → Nat} (hf : ∀ n, f n ≤ 1) (h0 : f 0 = 0) (h1 : f 1 = 1) : readOf tab ns f = readOf (tabS tab ns) (keptOf ns) f := by
  have hr := lineTo_lt hf (keptOf ns) (keptOf ns).length
  have key : ∀ n ∈ ns, tb (keptOf ns) (lineTo f (keptOf ns) (keptOf ns).length) n = f n := by
    intro n hn
    unfold tb
    by_cases e0 : n = 0 ∨ n = 1
    · rw [if_pos e0]; rcases e0 with rfl | rfl
      · exact h0.symm
      · exact h1.symm
    · rw [if_neg e0]
      obtain ⟨hl, he⟩ := idx_getD (keptOf_has hn (by omega))
      rw [Nat.shiftRight_eq_div_pow, line_bit hf _ hl, he]
  rw [readOf, readOf, tabS, tov_bit hr, Nat.shiftRight_eq_div_pow]
  rw [show (bitsAt ns (keptOf ns) (lineTo f (keptOf ns) (keptOf ns).length)).length = ns.length from by simp [bitsAt], rn_line (tab := tab) hf key _ (Nat.le_refl _)]
theorem netsOf_getD {tab : Nat} {ns : List Nat} {j : Nat} (hj : j < (netsOf tab ns).length) : (netsOf tab ns).getD j 0 = (keptOf ns).getD ((sup (tabS tab ns) (keptOf ns).length).getD j 0) 0 := by
  unfold netsOf at hj ⊢
  rw [List.length_map] at hj
  simp [List.getD_eq_getElem?_getD, hj]
theorem tabS_lt (tab : Nat) (ns : List Nat) : tabS tab ns < 2 ^ 2 ^ (keptOf ns).length := tov_lt _ _ _ _
theorem readB {tab : Nat} {ns : List Nat} {f : Nat → Nat} (hf : ∀ n, f n ≤ 1) (hl : ns.length ≤ 4) : readOf (tabS tab ns) (keptOf ns) f = readOf (smallOf tab ns) (netsOf tab ns) f := by
  have hK : (keptOf ns).length < 5 := by have := keptOf_len ns; omega
  have hL : (netsOf tab ns).length = (sup (tabS tab ns) (keptOf ns).length).length := List.length_map _
  have hm := lineTo_lt hf (netsOf tab ns) (netsOf tab ns).length
  have hr := lineTo_lt hf (keptOf ns) (keptOf ns).length
  rw [readOf, readOf, smallOf, shr, shr_bit (by rw [← hL]; exact hm), Nat.shiftRight_eq_div_pow]
  have hmb : ∀ j, j < (netsOf tab ns).length → lineTo f (netsOf tab ns) (netsOf tab ns).length / 2 ^ j % 2 = f ((keptOf ns).getD ((sup (tabS tab ns) (keptOf ns).length).getD j 0) 0) := fun j hj => by
    rw [line_bit hf _ hj, netsOf_getD hj]
  have hb : sprTo (lineTo f (netsOf tab ns) (netsOf tab ns).length) (sup (tabS tab ns) (keptOf ns).length) (sup (tabS tab ns) (keptOf ns).length).length < 2 ^ (keptOf ns).length := by
    apply Nat.lt_pow_two_of_testBit
    intro p hp
    cases hq : Nat.testBit _ p with
    | false => rfl
    | true =>
      obtain ⟨j, h1, h2, _⟩ := spr_bit.mp hq
      have := sup_lt (getD_mem h1)
      omega
  have e := alike hK (tabS_lt tab ns) (a := lineTo f (keptOf ns) (keptOf ns).length) (b := sprTo (lineTo f (netsOf tab ns) (netsOf tab ns).length) (sup (tabS tab ns) (keptOf ns).length) (sup (tabS tab ns) (keptOf ns).length).length) (fun p hp hd => ?_) hr hb
  · rw [tb_eq, tb_eq, decide_eq_decide] at e
    omega
  · rw [Bool.eq_iff_iff, spr_bit, tb_eq, decide_eq_true_eq, line_bit hf _ hp]
    constructor
    · intro h1
      have hmem : p ∈ sup (tabS tab ns) (keptOf ns).length := by rw [sup, List.mem_filter, List.mem_range]; exact ⟨hp, hd⟩
      obtain ⟨hj, he⟩ := idx_getD hmem
      exact ⟨_, hj, he, by rw [hmb _ (by rw [hL]; exact hj), he]; exact h1⟩
    · rintro ⟨j, h1, h2, h3⟩
      rw [hmb _ (by rw [hL]; exact h1), h2] at h3
      exact h3
theorem smallOf_lt (tab : Nat) (ns : List Nat) : smallOf tab ns < 2 ^ 2 ^ (netsOf tab ns).length := by
  rw [show (netsOf tab ns).length = (sup (tabS tab ns) (keptOf ns).length).length from List.length_map _]
  exact shrTo_lt _ _ _
/-! order -/
theorem once_nodup (ins : List Nat) : ∀ k : List Nat, k.Nodup → (ins.foldl onceStep k).Nodup := by
  induction ins with
  | nil => exact fun _ h => h
  | cons n r ih =>
    intro k h
    refine ih _ ?_
    unfold onceStep
    split
    · rename_i hc
      refine List.nodup_append.mpr ⟨h, by simp, ?_⟩
      intro a ha b hb e
      rw [List.mem_singleton.mp hb] at e
      rw [e] at ha
      rw [List.contains_iff_mem.mpr ha] at hc; cases hc
    · exact h
theorem kept_once (ins : List Nat) : ∀ k : List Nat, ins.foldl keptStep (k.filter (1 < ·)) = (ins.foldl onceStep k).filter (1 < ·) := by
  induction ins with
  | nil => exact fun _ => rfl
  | cons n r ih =>
    intro k
    rw [List.foldl_cons, List.foldl_cons, ← ih (onceStep k n)]
    congr 1
    unfold keptStep onceStep
    by_cases h1 : 1 < n
    · have e : (k.filter (1 < ·)).contains n = k.contains n := by
        rw [Bool.eq_iff_iff, List.contains_iff_mem, List.contains_iff_mem, List.mem_filter]
        exact ⟨fun h => h.1, fun h => ⟨h, decide_eq_true h1⟩⟩
      rw [e]
      by_cases h2 : k.contains n = false
      · rw [if_pos ⟨h1, h2⟩, if_pos h2, List.filter_append]
        simp [h1]
      · rw [if_neg (fun h => h2 h.2), if_neg h2]
    · rw [if_neg (fun h => h1 h.1)]
      split
      · rw [List.filter_append]; simp [h1]
      · rfl
theorem kept_sub_once (ns : List Nat) : List.Sublist (keptOf ns) (onceOf ns) := by
  have h := kept_once ns []
  rw [List.filter_nil] at h
  rw [keptOf, h]
  exact List.filter_sublist
theorem keptOf_nodup (ns : List Nat) : (keptOf ns).Nodup := (kept_sub_once ns).nodup (once_nodup ns [] List.nodup_nil)
theorem map_range_getD (ks : List Nat) : (List.range ks.length).map (fun p => ks.getD p 0) = ks := by
  apply List.ext_getElem
  · simp
  · intro i h1 h2
    simp [List.getD_eq_getElem?_getD, h2]
theorem nets_sub (tab : Nat) (ns : List Nat) : List.Sublist (netsOf tab ns) (keptOf ns) := by
  have h : List.Sublist ((sup (tabS tab ns) (keptOf ns).length).map fun p => (keptOf ns).getD p 0) ((List.range (keptOf ns).length).map fun p => (keptOf ns).getD p 0) := List.Sublist.map _ List.filter_sublist
  rw [map_range_getD] at h
  exact h
theorem filter_sub {l l' : List Nat} (h : List.Sublist l' l) : l.Nodup → l.filter (fun n => l'.contains n) = l' := by
  induction h with
  | slnil => intro _; rfl
  | cons a h ih =>
    intro hn
    rw [List.nodup_cons] at hn
    rw [List.filter_cons, if_neg, ih hn.2]
    intro hc
    exact hn.1 (h.subset (List.contains_iff_mem.mp hc))
  | cons_cons a h ih =>
    intro hn
    rw [List.nodup_cons] at hn
    rw [List.filter_cons, if_pos (by simp)]
    congr 1
    refine Eq.trans (List.filter_congr fun n hm => ?_) (ih hn.2)
    have : n ≠ a := fun e => hn.1 (e ▸ hm)
    simp [this]
theorem count_one {l : List Nat} (h : l.Nodup) {n : Nat} (hn : n ∈ l) : l.count n = 1 := by
  induction l with
  | nil => cases hn
  | cons a r ih =>
    rw [List.nodup_cons] at h
    rw [List.count_cons]
    by_cases e : a = n
    · subst e
      rw [List.count_eq_zero_of_not_mem h.1]; simp
    · rw [ih h.2 ((List.mem_cons.mp hn).resolve_left (fun x => e x.symm))]
      simp [e]
end Mine

/-! part Pure4 -/
namespace Mine
structure FormOk (ns : List Nat) (tab : Nat) (kd : Str) (nets : List Nat) (ot : Option Nat) : Prop where
  good : goodForm kd nets ot
  small : ∀ n ∈ nets, n < 6
  len : nets.length ≤ 4
  same : ∀ i, i < 16 → formed kd nets ot (asg i) = readOf tab ns (asg i)
  lut : kd = Str.ofString "lut" → 2 ≤ nets.length ∧ (∀ n ∈ nets, 2 ≤ n ∧ nets.count n = 1) ∧ (onceOf ns).filter (fun n => nets.contains n) = nets ∧ (∀ n ∈ nets, matters kd nets ot n = true) ∧ ∃ sm, ot = some sm ∧ sm < 2 ^ 2 ^ nets.length
  one : kd ≠ Str.ofString "lut" → ot = none ∧ nets.length = 1
  neg : kd = Str.ofString "not" → 2 ≤ nets.getD 0 0
theorem asg_any (g : Nat → Nat) (hg : ∀ n, g n ≤ 1) : ∃ i, i < 16 ∧ ∀ n, 2 ≤ n → n < 6 → asg i n = g n := by
  have h2 := hg 2
  have h3 := hg 3
  have h4 := hg 4
  have h5 := hg 5
  refine ⟨g 2 + 2 * g 3 + 4 * g 4 + 8 * g 5, by omega, fun n h1 h6 => ?_⟩
  have : n = 2 ∨ n = 3 ∨ n = 4 ∨ n = 5 := by omega
  rcases this with rfl | rfl | rfl | rfl
  · show (_ : Nat) / 2 ^ 0 % 2 = _; omega
  · show (_ : Nat) / 2 ^ 1 % 2 = _; omega
  · show (_ : Nat) / 2 ^ 2 % 2 = _; omega
  · show (_ : Nat) / 2 ^ 3 % 2 = _; omega
theorem line_eq {f : Nat → Nat} (hf : ∀ n, f n ≤ 1) (ks : List Nat) {r : Nat} (hr : r < 2 ^ ks.length) (h : ∀ j, j < ks.length → f (ks.getD j 0) = r / 2 ^ j % 2) : lineTo f ks ks.length = r := by
  apply Nat.eq_of_testBit_eq
  intro j
  by_cases hj : j < ks.length
  · rw [tb_eq, tb_eq, line_bit hf ks hj, h j hj]
  · have h1 := lineTo_lt hf ks ks.length
    have h2 : 2 ^ ks.length ≤ 2 ^ j := Nat.pow_le_pow_right (by decide) (by omega)
    rw [Nat.testBit_lt_two_pow (by omega), Nat.testBit_lt_two_pow (by omega)]
theorem idx_nodup {l : List Nat} (h : l.Nodup) {j : Nat} (hj : j < l.length) : l.idxOf (l.getD j 0) = j := by
  rw [List.getD_eq_getElem?_getD, List.getElem?_eq_getElem hj]
  exact h.idxOf_getElem j hj
section
variable {ns : List Nat} {tab : Nat} (hn6 : ∀ n ∈ ns, n < 6) (hl : ns.length ≤ 4)
include hn6 hl
theorem kept_range {n : Nat} (h : n ∈ keptOf ns) : 2 ≤ n ∧ n < 6 := by
  refine ⟨?_, hn6 n (keptOf_sub h)⟩
  have h2 := kept_once ns []
  rw [List.filter_nil] at h2
  rw [keptOf, h2, List.mem_filter, decide_eq_true_eq] at h
  exact h.2
theorem nets_range {n : Nat} (h : n ∈ netsOf tab ns) : 2 ≤ n ∧ n < 6 := kept_range hn6 hl ((nets_sub tab ns).subset h)
theorem matter {n : Nat} (h : n ∈ netsOf tab ns) : ∃ i, i < 16 ∧ asg i n = 0 ∧ readOf (smallOf tab ns) (netsOf tab ns) (asg i) ≠ readOf (smallOf tab ns) (netsOf tab ns) (upd (asg i) n (1 - asg i n)) := by
  have hK : (keptOf ns).length < 5 := by have := keptOf_len ns; omega
  obtain ⟨p, hp, rfl⟩ := List.mem_map.mp h
  have hpk := sup_lt hp
  have hd : dep (tabS tab ns) p (keptOf ns).length = true := by rw [sup, List.mem_filter] at hp; exact hp.2
  obtain ⟨r, hr, hb, hne⟩ := dep_yes hK hpk (tabS_lt tab ns) hd
  have hnd := keptOf_nodup ns
  obtain ⟨i, hi, hg⟩ := asg_any (fun n => r / 2 ^ (keptOf ns).idxOf n % 2) (fun n => by show _ % 2 ≤ 1; omega)
  have hks : ∀ j, j < (keptOf ns).length → asg i ((keptOf ns).getD j 0) = r / 2 ^ j % 2 := fun j hj => by
    obtain ⟨a1, a2⟩ := kept_range hn6 hl (getD_mem hj)
    rw [hg _ a1 a2, idx_nodup hnd hj]
  have h0 : asg i ((keptOf ns).getD p 0) = 0 := by
    rw [hks p hpk]
    rw [tb_eq, decide_eq_false_iff_not] at hb
    omega
  refine ⟨i, hi, h0, ?_⟩
  have hu : ∀ m, upd (asg i) ((keptOf ns).getD p 0) (1 - asg i ((keptOf ns).getD p 0)) m ≤ 1 := upd_le (asg_le i) (by omega)
  rw [← readB (asg_le i) hl, ← readB hu hl, readOf, readOf]
  have hup := bit_up _ hK p hpk r hr hb
  have e1 := line_eq (asg_le i) (keptOf ns) hr hks
  have e2 := line_eq hu (keptOf ns) hup.1 (fun j hj => by
    rw [h0]
    by_cases e : j = p
    · subst e
      rw [upd, if_pos rfl]
      have := hup.2
      rw [tb_eq, decide_eq_true_eq] at this
      omega
    · rw [upd, if_neg (fun q => e (by
        have := congrArg (fun x => (keptOf ns).idxOf x) q
        simp only [idx_nodup hnd hj, idx_nodup hnd hpk] at this
        exact this)), hks j hj]
      have hx : r.testBit j = (r + 2 ^ p).testBit j := by
        rw [xor_up _ hK p hpk r hr hb, Nat.testBit_xor, Nat.testBit_two_pow, decide_eq_false (fun q => e q.symm)]
        simp
      rw [tb_eq, tb_eq, decide_eq_decide] at hx
      omega)
  rw [e1, e2]
  intro q
  apply hne
  rw [tb_eq, tb_eq, q]
theorem formOk : FormOk ns tab (kindOf' tab ns) (outNets tab ns) (outTab tab ns) := by
  have hsame : ∀ i, i < 16 → readOf tab ns (asg i) = readOf (smallOf tab ns) (netsOf tab ns) (asg i) := fun i _ => by
    rw [readA (asg_le i) rfl rfl, readB (asg_le i) hl]
  have hlen : (netsOf tab ns).length ≤ 4 := Nat.le_trans (nets_sub tab ns).length_le (Nat.le_trans (keptOf_len ns) hl)
  have hsm := smallOf_lt tab ns
  by_cases h0 : (netsOf tab ns).length = 0
  · have hk : kindOf' tab ns = Str.ofString "buf" := by rw [kindOf', if_pos h0]
    have hnn : outNets tab ns = [smallOf tab ns % 2] := by rw [outNets, if_pos h0]
    have ho : outTab tab ns = none := by rw [outTab, if_pos h0]
    rw [hk, hnn, ho]
    rw [h0] at hsm
    refine ⟨.inl ⟨rfl, rfl⟩, fun n hn => by rw [List.mem_singleton.mp hn]; omega, by simp, fun i hi => ?_, fun e => absurd e (by decide), fun _ => ⟨rfl, rfl⟩, fun e => absurd e (by decide)⟩
    rw [hsame i hi, formed, if_pos rfl, readOf, h0]
    show asg i (smallOf tab ns % 2) = smallOf tab ns / 2 ^ 0 % 2
    have : smallOf tab ns = 0 ∨ smallOf tab ns = 1 := by
      have : smallOf tab ns < 2 := hsm
      omega
    rcases this with e | e <;> rw [e] <;> rfl
  · have hnn : outNets tab ns = netsOf tab ns := by rw [outNets, if_neg h0]
    by_cases h1 : (netsOf tab ns).length = 1
    · have ho : outTab tab ns = none := by rw [outTab, if_neg h0, if_pos h1]
      obtain ⟨n, hnt⟩ := List.length_eq_one_iff.mp h1
      have hmem : n ∈ netsOf tab ns := by rw [hnt]; exact .head _
      obtain ⟨a1, a2⟩ := nets_range hn6 hl hmem
      obtain ⟨i0, hi0, hz, hne⟩ := matter hn6 hl hmem
      rw [h1] at hsm
      have hsm4 : smallOf tab ns < 4 := hsm
      rw [hz, readOf, readOf, h1, hnt] at hne
      have l0 : lineTo (asg i0) [n] 1 = 0 := by show 0 + asg i0 n * 2 ^ 0 = 0; rw [hz]
      have l1 : lineTo (upd (asg i0) n (1 - 0)) [n] 1 = 1 := by show 0 + upd (asg i0) n 1 n * 2 ^ 0 = 1; rw [upd, if_pos rfl]
      rw [l0, l1] at hne
      have h12 : smallOf tab ns = 1 ∨ smallOf tab ns = 2 := by
        have : smallOf tab ns = 0 ∨ smallOf tab ns = 1 ∨ smallOf tab ns = 2 ∨ smallOf tab ns = 3 := by omega
        rcases this with e | e | e | e
        · rw [e] at hne; exact absurd rfl hne
        · exact .inl e
        · exact .inr e
        · rw [e] at hne; exact absurd rfl hne
      have hrd : ∀ i, readOf (smallOf tab ns) (netsOf tab ns) (asg i) = smallOf tab ns / 2 ^ asg i n % 2 := fun i => by
        rw [readOf, h1, hnt]
        show _ / 2 ^ (0 + asg i n * 2 ^ 0) % 2 = _
        rw [Nat.zero_add, Nat.pow_zero, Nat.mul_one]
      rcases h12 with e | e
      · have hk : kindOf' tab ns = Str.ofString "not" := by rw [kindOf', if_neg h0, if_pos h1, if_neg (by omega)]
        rw [hk, hnn, ho]
        refine ⟨.inr (.inl ⟨rfl, h1⟩), fun m hm => (nets_range hn6 hl hm).2, hlen, fun i hi => ?_, fun e => absurd e (by decide), fun _ => ⟨rfl, h1⟩, fun _ => by rw [hnt]; exact a1⟩
        rw [hsame i hi, hrd, e, formed, if_neg (by decide), if_pos rfl, hnt]
        show 1 - asg i n = _
        have := asg_le i n
        rcases (by omega : asg i n = 0 ∨ asg i n = 1) with q | q <;> rw [q]
      · have hk : kindOf' tab ns = Str.ofString "buf" := by rw [kindOf', if_neg h0, if_pos h1, if_pos e]
        rw [hk, hnn, ho]
        refine ⟨.inl ⟨rfl, h1⟩, fun m hm => (nets_range hn6 hl hm).2, hlen, fun i hi => ?_, fun e => absurd e (by decide), fun _ => ⟨rfl, h1⟩, fun e => absurd e (by decide)⟩
        rw [hsame i hi, hrd, e, formed, if_pos rfl, hnt]
        show asg i n = _
        have := asg_le i n
        rcases (by omega : asg i n = 0 ∨ asg i n = 1) with q | q <;> rw [q]
    · have ho : outTab tab ns = some (smallOf tab ns) := by rw [outTab, if_neg h0, if_neg h1]
      have hk : kindOf' tab ns = Str.ofString "lut" := by rw [kindOf', if_neg h0, if_neg h1]
      have hf : ∀ f, formed (Str.ofString "lut") (netsOf tab ns) (some (smallOf tab ns)) f = readOf (smallOf tab ns) (netsOf tab ns) f := fun f => by
        rw [formed, if_neg (by decide), if_neg (by decide)]; rfl
      rw [hk, hnn, ho]
      have hnod : (netsOf tab ns).Nodup := (nets_sub tab ns).nodup (keptOf_nodup ns)
      refine ⟨.inr (.inr ⟨rfl, _, rfl⟩), fun m hm => (nets_range hn6 hl hm).2, hlen, fun i hi => by rw [hf, hsame i hi], fun _ => ⟨by omega, fun n hn => ⟨(nets_range hn6 hl hn).1, count_one hnod hn⟩, filter_sub ((nets_sub tab ns).trans (kept_sub_once ns)) (once_nodup ns [] List.nodup_nil), fun n hn => ?_, _, rfl, hsm⟩, fun e => absurd rfl e, fun e => absurd e (by decide)⟩
      obtain ⟨i, hi, _, hne⟩ := matter hn6 hl hn
      refine matters_yes hi ?_
      rw [differs, hf, hf]
      exact bne_iff_ne.mpr hne
end
end Mine

/-! part EqsA -/
namespace Mine
open PySem.SeqAt in
theorem cell_shaped (a g : Str) (x : Int) (ns : List Int) (ha : PyData.strOk a = true) (hg : PyData.strOk g = true) : shaped (.tuple [.str a, .tuple (ns.map .int), .tuple [.str g, .int x]]) = true := by
  have h1 := PySem.W.depthAll_ints ns
  have h2 : PyData.depth (.tuple [.str a, .tuple (ns.map .int), .tuple [.str g, .int x]]) ≤ 64 := by
    simp only [PyData.depth, PyData.depthAll]; omega
  show (PyData.canLay0 _ && decide (PyData.depth _ ≤ 64)) = true
  rw [Bool.and_eq_true]
  exact ⟨by simp only [PyData.canLay0, PyData.canLayAll0, canLayAll0_ints, ha, hg, Bool.and_self, Bool.and_true], decide_eq_true h2⟩
open PySem.SeqAt in
theorem form_shaped (a : Str) (ns : List Int) (ha : PyData.strOk a = true) : shaped (.tuple [.str a, .tuple (ns.map .int), .none]) = true := by
  have h1 := PySem.W.depthAll_ints ns
  have h2 : PyData.depth (.tuple [.str a, .tuple (ns.map .int), .none]) ≤ 64 := by
    simp only [PyData.depth, PyData.depthAll]; omega
  show (PyData.canLay0 _ && decide (PyData.depth _ ≤ 64)) = true
  rw [Bool.and_eq_true]
  exact ⟨by simp only [PyData.canLay0, PyData.canLayAll0, canLayAll0_ints, ha, Bool.and_self, Bool.and_true], decide_eq_true h2⟩
open PySem.SeqAt in
theorem cell_mix (a g : Str) (x : Int) (ns : List Int) : noMix (.tuple [.str a, .tuple (ns.map .int), .tuple [.str g, .int x]]) (.tuple [.str a, .tuple (ns.map .int), .tuple [.str g, .int x]]) = true := by
  simp [noMix, noMixAll, noMix_ints]
open PySem.SeqAt in
theorem form_mix (a : Str) (ns : List Int) : noMix (.tuple [.str a, .tuple (ns.map .int), .none]) (.tuple [.str a, .tuple (ns.map .int), .none]) = true := by
  simp [noMix, noMixAll, noMix_ints]
theorem cell_same (a g : Str) (x : Int) (ns : List Int) : PySem.Spec.same (.tuple [.str a, .tuple (ns.map .int), .tuple [.str g, .int x]]) (.tuple [.str a, .tuple (ns.map .int), .tuple [.str g, .int x]]) = true := by
  simp [PySem.Spec.same, PySem.Spec.sameAll, PySem.W.same_ints]
theorem form_same (a : Str) (ns : List Int) : PySem.Spec.same (.tuple [.str a, .tuple (ns.map .int), .none]) (.tuple [.str a, .tuple (ns.map .int), .none]) = true := by
  simp [PySem.Spec.same, PySem.Spec.sameAll, PySem.W.same_ints]
theorem reads_tup {h : Heap} {a : Addr} {vs : List Value} {ns : List Int} (hl : IsTup h a vs.toArray) (hi : IntsAre vs ns) : Reads h (.ref a) (.tuple (ns.map PyData.int)) [] := by
  obtain ⟨o, ho, hc, n, hd⟩ := hl
  exact Reads.tuple ho hc hd (by simpa using readsAll_of_ints hi)
theorem reads_cell {h : Heap} {o1 o2 li : Addr} {a g : Str} {ta tg tx : Tok} {x : Int} {ys : List Value} {ns : List Int} (e1 : TupAt h o1 [.str a ta, .ref li, .ref o2]) (e2 : TupAt h o2 [.str g tg, .int x tx]) (hli : IsTup h li ys.toArray) (hys : IntsAre ys ns) :
    Reads h (.ref o1) (.tuple [.str a, .tuple (ns.map .int), .tuple [.str g, .int x]]) [] := by
  obtain ⟨n1, e1⟩ := e1
  obtain ⟨n2, e2⟩ := e2
  have r2 : Reads h (.ref o2) (.tuple [.str g, .int x]) [] := Reads.tuple e2 rfl rfl (.cons (.str _ _) (.cons (.int _ _) .nil))
  exact Reads.tuple e1 rfl rfl (.cons (.str _ _) (.cons (reads_tup hli hys) (.cons r2 .nil)))
theorem reads_form {h : Heap} {o1 q : Addr} {a : Str} {ta : Tok} {ys : List Value} {ns : List Int} (e1 : TupAt h o1 [.str a ta, .ref q, .none]) (hli : IsTup h q ys.toArray) (hys : IntsAre ys ns) :
    Reads h (.ref o1) (.tuple [.str a, .tuple (ns.map .int), .none]) [] := by
  obtain ⟨n1, e1⟩ := e1
  exact Reads.tuple e1 rfl rfl (.cons (.str _ _) (.cons (reads_tup hli hys) (.cons .none .nil)))
section
variable {prog : Program} {w : World} {A : Around} {E : Value → Shared → Prop} {s : Shared} {Q : Value → Shared → Prop}
theorem eq_cells {o1 o2 o3 o4 li : Addr} {a g : Str} {ta tg tx ta' tg' tx' : Tok} {x : Int} {ys : List Value} {ns : List Int} (e1 : TupAt s.heap o1 [.str a ta, .ref li, .ref o2]) (e2 : TupAt s.heap o2 [.str g tg, .int x tx])
    (e3 : TupAt s.heap o3 [.str a ta', .ref li, .ref o4]) (e4 : TupAt s.heap o4 [.str g tg', .int x tx']) (hli : IsTup s.heap li ys.toArray) (hys : IntsAre ys ns) (hu : A.units + 64 < cLine) (ha : PyData.strOk a = true) (hg : PyData.strOk g = true) (h : Q (.bool true) s) :
    wpAny (model prog w) A (compareOp .Eq (.ref o1) (.ref o3)) Q E s :=
  eq_dataH_same (reads_cell e1 e2 hli hys) (reads_cell e3 e4 hli hys) (cell_shaped a g x ns ha hg) (cell_shaped a g x ns ha hg) hu (cell_mix a g x ns) (by rw [cell_same]; exact h)
theorem eq_forms {o1 o2 q1 q2 : Addr} {a : Str} {ta ta' : Tok} {ys ys' : List Value} {ns : List Int} (e1 : TupAt s.heap o1 [.str a ta, .ref q1, .none]) (e2 : TupAt s.heap o2 [.str a ta', .ref q2, .none])
    (h1 : IsTup s.heap q1 ys.toArray) (i1 : IntsAre ys ns) (h2 : IsTup s.heap q2 ys'.toArray) (i2 : IntsAre ys' ns) (hu : A.units + 64 < cLine) (ha : PyData.strOk a = true) (h : Q (.bool true) s) :
    wpAny (model prog w) A (compareOp .Eq (.ref o1) (.ref o2)) Q E s :=
  eq_dataH_same (reads_form e1 h1 i1) (reads_form e2 h2 i2) (form_shaped a ns ha) (form_shaped a ns ha) hu (form_mix a ns) (by rw [form_same]; exact h)
end
end Mine

/-! part F15 -/
namespace Mine
theorem fillIt15 : ∀ (w : World) (h : Heap), (hd.heap_39 w.params).In h → PySem.Challenge.rw_on0088_01.row.prog = PySem.Challenge.rw_on0088_01.row.prog := by
  k_fill
  intros
  rfl
theorem roomA {env : Env} : Room (callerA.deeper env) 10 := ⟨rfl, by show callerA.depth + 1 + 10 < _; decide, by show callerA.units + 3 + 100 * 10 < _; decide +kernel⟩
theorem ne_new {h₀ h : Heap} {L a : Addr} {news : List (Addr × Obj)} (N : News h₀ L h news) (hn : h.get? a = none) : ∀ p ∈ news, p.1 ≠ a := fun p hp e => by
  have := (N p hp).1
  rw [e, hn] at this; cases this
theorem ne_new4 {h₀ h : Heap} {L a b1 b2 b3 b4 : Addr} {o1 o2 o3 o4 : Obj} (N : News h₀ L h [(b1, o1), (b2, o2), (b3, o3), (b4, o4)]) (hn : h.get? a = none) : @Ne Nat a b1 ∧ @Ne Nat a b2 ∧ @Ne Nat a b3 ∧ @Ne Nat a b4 :=
  have h := ne_new N hn
  ⟨Ne.symm (h _ (.head _)), Ne.symm (h _ (.tail _ (.head _))), Ne.symm (h _ (.tail _ (.tail _ (.head _)))), Ne.symm (h _ (.tail _ (.tail _ (.tail _ (.head _)))))⟩
theorem name5 {h₀ h : Heap} {L lr b4 b3 b2 b1 : Addr} {a o4 o3 o2 o1 : Obj} {v : Option Value} (N : News h₀ L h [(lr, a), (b4, o4), (b3, o3), (b2, o2), (b1, o1)]) (d : o1.data = .cell v) : ∃ oR, News h₀ L h [(lr, a), (b4, o4), (b3, o3), (b2, o2), (b1, oR)] ∧ oR.data = .cell v := ⟨o1, N, d⟩
theorem lit7 {t0 t1 t2 t3 t4 t5 t6 : Tok} : IntsAre [.int 0 t0, .int 1 t1, .int 2 t2, .int 3 t3, .int 4 t4, .int 5 t5, .int 2 t6] (zs [0, 1, 2, 3, 4, 5, 2]) :=
  .cons _ _ (.cons _ _ (.cons _ _ (.cons _ _ (.cons _ _ (.cons _ _ (.cons _ _ .nil))))))
theorem name_li {h₀ h : Heap} {L li D : Addr} {x : Str} {m : Str → Option Value} {o oD : Obj} {rest : List (Addr × Obj)} (F : Fr h₀ L h (fun y => if y = x then some (.ref li) else m y)) (N : News h₀ L h ((li, o) :: (D, oD) :: rest)) :
    ∃ li, Fr h₀ L h (fun y => if y = x then some (.ref li) else m y) ∧ News h₀ L h ((li, o) :: rest) :=
  ⟨li, F, fun p hp => N p (by rcases List.mem_cons.mp hp with rfl | hp; exact .head _; exact .tail _ (.tail _ hp))⟩
theorem ne_data {h₀ h : Heap} {L a b : Addr} {o o' : Obj} {news : List (Addr × Obj)} (N : News h₀ L h news) (h1 : (a, o) ∈ news) (h2 : (b, o') ∈ news) (hc : o ≠ o') : @Ne Nat a b := fun e => by
  have e1 := (N _ h1).1
  have e2 := (N _ h2).1
  have e' : a = b := e
  subst e'
  exact hc (Option.some.inj (e1.symm.trans e2))
theorem ne_cell {h₀ h : Heap} {L a b : Addr} {o o' : Obj} {news : List (Addr × Obj)} {x : Array Value} {n : Nat} {c : Option Value} (N : News h₀ L h news) (h1 : (a, o) ∈ news) (hs : o.data = .seq x n) (h2 : (b, o') ∈ news) (hc : o'.data = .cell c) : @Ne Nat a b :=
  ne_data N h1 h2 fun e => by rw [e, hc] at hs; cases hs
theorem sub_news {h₀ h : Heap} {L p q li lr b4 b3 b2 b1 : Addr} {op oq ol a o4 o3 o2 o1 : Obj} (N : News h₀ L h [(p, op), (q, oq), (li, ol), (lr, a), (b4, o4), (b3, o3), (b2, o2), (b1, o1)]) :
    News h₀ L h [(p, op), (q, oq), (li, ol), (b4, o4), (b3, o3), (b2, o2)] := fun z hz => N z (by
  simp only [List.mem_cons, List.not_mem_nil, or_false] at hz ⊢
  rcases hz with rfl | rfl | rfl | rfl | rfl | rfl <;> simp)
theorem lit4 {t0 t1 t2 t3 : Tok} : IntsAre [.int 2 t0, .int 3 t1, .int 4 t2, .int 5 t3] (zs [2, 3, 4, 5]) := .cons _ _ (.cons _ _ (.cons _ _ (.cons _ _ .nil)))
theorem nets4 : ∀ k, k < 4 → [2, 3, 4, 5].getD k 0 = 2 + k := fun k hk => by
  have : k = 0 ∨ k = 1 ∨ k = 2 ∨ k = 3 := by omega
  rcases this with rfl | rfl | rfl | rfl <;> rfl
theorem split_B {h₀ h : Heap} {L : Addr} {X B : List (Addr × Obj)} (N : News h₀ L h (X ++ B)) : ∃ B', B' = B ∧ News h₀ L h (X ++ B') := ⟨B, rfl, N⟩
theorem News.right {h₀ h : Heap} {L : Addr} {X B : List (Addr × Obj)} (N : News h₀ L h (X ++ B)) : News h₀ L h B := fun p hp => N p (List.mem_append_right _ hp)
theorem News.left {h₀ h : Heap} {L : Addr} {X B : List (Addr × Obj)} (N : News h₀ L h (X ++ B)) : News h₀ L h X := fun p hp => N p (List.mem_append_left _ hp)
theorem Fr.inner {h₀ h h' : Heap} {L C : Addr} {m m' : Str → Option Value} (F : Fr h₀ L h m) (hns : h'.Ns C m') (hC : h.objs.size ≤ C) (hk : ∀ b o, h.get? b = some o → h'.get? b = some o) : Fr h₀ C h' m' :=
  ⟨hns, fun b o e => hk _ _ (F.keep b o e), Nat.le_trans F.above (Nat.le_trans (Nat.le_of_lt F.ns.lt) hC)⟩
theorem News.nil' {h₀ h : Heap} {L : Addr} : News h₀ L h [] := fun _ h => nomatch h
theorem unitsA {env : Env} : (callerA.deeper env).units + 64 < cLine := by show callerA.units + 3 + 64 < _; decide +kernel
theorem ints_filter (nets : List Nat) : ∀ {vs : List Value} {ns : List Nat}, IntsAre vs (zs ns) → IntsAre (vs.filter fun v => match v with | .int x _ => nets.contains x.toNat | _ => false) (zs (ns.filter fun n => nets.contains n))
  | _, [], h => by cases h; exact .nil
  | _, n :: r, h => by
    cases h with
    | cons _ t h' =>
      have ih := ints_filter nets h'
      rw [List.filter_cons, List.filter_cons]
      show IntsAre (if nets.contains n = true then _ else _) (zs (if nets.contains n = true then _ else _))
      split
      · exact .cons _ _ ih
      · exact ih
theorem paired_eq {vs ys : List Value} (h : Paired (fun v y => v = y) vs ys) : ys = vs := by
  induction h with
  | nil => rfl
  | cons e _ ih => rw [e, ih]
theorem zs_count (ns : List Nat) (k : Nat) : (zs ns).count (k : Int) = ns.count k := by
  induction ns with
  | nil => rfl
  | cons n r ih =>
    rw [zs, List.map_cons, List.count_cons, List.count_cons, ← zs, ih]
    have e : ((n : Int) == (k : Int)) = (n == k) := by rw [Bool.eq_iff_iff, beq_iff_eq, beq_iff_eq]; omega
    rw [e]
theorem zs_sum (ns : List Nat) : (zs ns).sum = ((ns.sum : Nat) : Int) := by
  induction ns with
  | nil => rfl
  | cons n r ih => rw [zs, List.map_cons, List.sum_cons, List.sum_cons]; rw [zs] at ih; rw [ih]; omega
section
local macro_rules | `(tactic| walk_at "binaryOp LShift int int") => `(tactic| first
  | ((with_reducible refine shl1_N ?a1 ?_); (case a1 => omega); intro t')
  | ((with_reducible refine shl_N ?a1 ?a2 ?_); (case a1 => omega); (case a2 => first | assumption | omega); intro t'))
local macro_rules | `(tactic| walk_at "binaryOp Sub int int") => `(tactic| ((with_reducible refine sub1_N ?a1 ?_); (case a1 => first | omega | exact Nat.one_le_two_pow); intro t'))
local macro_rules | `(tactic| walk_at "binaryOp Add int int") => `(tactic| ((with_reducible refine add1_N ?_); intro t'))
local macro_rules | `(tactic| walk_at "inplaceOp Add int int") => `(tactic| ((with_reducible refine iadd_N ?_); intro t'))
local macro_rules | `(tactic| walk_at "inplaceOp BitOr int int") => `(tactic| ((with_reducible refine ior_N ?_); intro t'))
local macro_rules | `(tactic| walk_at "binaryOp BitXor int int") => `(tactic| ((with_reducible refine xor_N ?_); intro t'))
local macro_rules | `(tactic| walk_at "binaryOp BitAnd int int") => `(tactic| ((first | with_reducible refine and1_N ?_ | with_reducible refine and_N ?_); intro t'))
local macro_rules | `(tactic| walk_at "binaryOp BitOr int int") => `(tactic| ((with_reducible refine or_N ?_); intro t'))
local macro_rules | `(tactic| walk_at "binaryOp RShift int int") => `(tactic| ((with_reducible refine shr_N ?_); intro t'))
local macro_rules | `(tactic| walk_at "binaryOp FloorDiv int int") => `(tactic| ((with_reducible refine fdiv_N ?a1 ?a2 ?_); (case a1 => omega); (case a2 => omega); intro t'))
local macro_rules | `(tactic| walk_at "eval Call") => `(tactic| refine Call_ ?_)
local macro_rules | `(tactic| walk_at "subscriptTail Name Name ref int") => `(tactic| k_dflt (refine' item_N ?l1 ?l2 ?l3 ?l4 ?_ ?l6 ?l7; (case l1 => is_list); (case l2 => assumption); (case l3 => first | assumption | omega); (case l4 => omega); (case l6 => with_unfolding_all rfl); (case l7 => intro _; with_unfolding_all rfl); intro t'))
local macro_rules | `(tactic| walk_at "getMethod ref") => `(tactic| k_dflt (first
  | (refine' listMeth (name := PySem.Str.ofString "index") ?l1 PySem.F.slot_list_index PySem.F.type_list_index ?_; (case l1 => first | assumption | exact ListAt.keeps (by assumption) (Fr.keep (by assumption)) | exact ListAt.news (by assumption) (by k_mem)))
  | (refine' listMeth (name := PySem.Str.ofString "count") ?l1 PySem.F.slot_list_count PySem.F.type_list_count ?_; (case l1 => first | assumption | exact ListAt.keeps (by assumption) (Fr.keep (by assumption)) | exact ListAt.news (by assumption) (by k_mem)))
  | (refine' listMeth (name := PySem.Str.ofString "append") ?l1 PySem.F.slot_list_append PySem.F.type_list_append ?_; (case l1 => first | assumption | exact ListAt.keeps (by assumption) (Fr.keep (by assumption)) | exact ListAt.news (by assumption) (by k_mem)))))
local macro_rules | `(tactic| walk_at "call type:range") => `(tactic| ((rename Fr _ _ _ _ => F'); (rename News _ _ _ _ => N'); k_dflt (refine range1_rows F' N' ?_); clear F' N'; intro h' tk t₁ u₁ v₁ hrg F' N' kp))
local macro_rules | `(tactic| walk_at "call builtin:len") => `(tactic| k_dflt (refine' len_N ?l1 ?l2 ?l3 ?_; (case l1 => is_list); (case l2 => assumption); (case l3 => omega); intro t'))
local macro_rules | `(tactic| walk_at "call builtin:len") => `(tactic| k_dflt (refine' lenT_N ?l1 ?l2 ?l3 ?_; (case l1 => first | assumption | exact News.isTup (by assumption) (by k_mem) | exact IsTup.keeps (by assumption) (Fr.keep (by assumption))); (case l2 => assumption); (case l3 => omega); intro t'))
local macro_rules | `(tactic| walk_at "compareOp In int ref") => `(tactic| k_dflt (refine' in_N ?l1 ?l2 ?_; (case l1 => is_list); (case l2 => assumption)))
local macro_rules | `(tactic| walk_at "compareOp NotIn int ref") => `(tactic| k_dflt (refine' notin_N ?l1 ?l2 ?_; (case l1 => is_list); (case l2 => assumption)))
local macro_rules | `(tactic| k_all) => `(tactic| assumption)
local macro_rules | `(tactic| walk_at "call builtin:list.append") => `(tactic| k_dflt (refine' append_K ?k1 ?k2 ?k3 ?_ ?z; (case k1 => assumption); (case k2 => assumption); (case k3 => k_upd); (case z => exact fitLine (by assumption) (by decide)); intro h' F' N'))
local macro_rules | `(tactic| walk_at "call builtin:list.index") => `(tactic| k_dflt (refine' index_N ?l1 ?l2 ?l3 ?l4 ?_; (case l1 => is_list); (case l2 => assumption); (case l3 => assumption); (case l4 => assumption); intro t'))
local macro_rules | `(tactic| walk_at "eval Name") => `(tactic| k_dflt (first
  | (refine' gname_L ?n1 ?n2 ?_ ?n4 ?n5 ?n6; (case n1 => with_reducible assumption); (case n4 => rfl); (case n5 => rfl); (case n6 => decide); (case n2 => first | exact rfl | assumption))
  | (refine' gname_C ?n1 ?n2 ?_ ?n4 ?n5 ?n6; (case n1 => exact rfl); (case n4 => rfl); (case n5 => rfl); (case n6 => decide); (case n2 => assumption))
  | (refine' nameG_K ?n1 ?n2 ?n3 ?n4 ?_ ?n6 ?n7 ?n8 ?n9; (case n6 => rfl); (case n7 => rfl); (case n8 => rfl); (case n9 => decide); (case n1 => with_reducible assumption); (case n2 => k_asm); (case n3 => k_asm); (case n4 => k_is))))
local macro_rules | `(tactic| walk_at "subscriptTail Name Constant ref int") => `(tactic| k_dflt (refine' item_tupleT ?l1 ?l2 ?l3 ?l4 ?l5 ?_ ?l6; (case l1 => first | assumption | exact News.isTup (by assumption) (by k_mem) | exact IsTup.keeps (by assumption) (Fr.keep (by assumption))); (case l2 => decide); (case l3 => decide); (case l4 => rfl); (case l5 => rfl); (case l6 => with_unfolding_all rfl)))
local macro_rules | `(tactic| walk_at "subscriptTail Name Subscript ref int") => `(tactic| k_dflt (refine' held_item ?l1 ?l2 ?_ ?l6 ?l7; (case l1 => first | assumption | exact HeldAt.keeps (by assumption) (Fr.keep (by assumption))); (case l2 => first | assumption | omega); (case l6 => with_unfolding_all rfl); (case l7 => intro _; with_unfolding_all rfl); intro t'))
local macro_rules | `(tactic| walk_at "subscriptTail Name Name ref int") => `(tactic| k_dflt (first
  | (refine' itemT_N ?l1 ?l2 ?l3 ?l4 ?_ ?l6; (case l1 => first | assumption | exact News.isTup (by assumption) (by k_mem) | exact IsTup.keeps (by assumption) (Fr.keep (by assumption))); (case l2 => assumption); (case l3 => first | assumption | omega); (case l4 => omega); (case l6 => with_unfolding_all rfl); intro t')
  | (refine' held_item ?l1 ?l2 ?_ ?l6 ?l7; (case l1 => first | assumption | exact HeldAt.keeps (by assumption) (Fr.keep (by assumption))); (case l2 => first | assumption | omega); (case l6 => with_unfolding_all rfl); (case l7 => intro _; with_unfolding_all rfl); intro t')))
local macro_rules | `(tactic| walk_at "subscriptTail Subscript Name Constant Constant ref int") => `(tactic| k_dflt (refine' itemT_0 ?l1 ?l2 ?l3 ?_ ?l6; (case l1 => first | assumption | exact News.isTup (by assumption) (by k_mem) | exact IsTup.keeps (by assumption) (Fr.keep (by assumption))); (case l2 => assumption); (case l3 => first | assumption | omega); (case l6 => with_unfolding_all rfl); intro t'))
local macro_rules | `(tactic| walk_at "binaryOp Pow int int") => `(tactic| ((with_reducible refine pow2_N ?a1 ?_); (case a1 => omega); intro t'))
local macro_rules | `(tactic| walk_at "binaryOp Mult int int") => `(tactic| ((with_reducible refine mul_N ?a1 ?_); (case a1 => first | assumption | omega); intro t'))
local macro_rules | `(tactic| walk_at "binaryOp Mod int int") => `(tactic| ((with_reducible refine mod2_N ?_); intro t'))
local macro_rules | `(tactic| walk_at "binaryOp Sub int int") => `(tactic| ((with_reducible refine sub1_from ?a1 ?_); (case a1 => first | assumption | omega); intro t'))
local macro_rules | `(tactic| walk_at "pyIter ref") => `(tactic| refine halt ?_)
local macro_rules | `(tactic| walk_at "subscriptTail") => `(tactic| refine halt ?_)
local macro_rules | `(tactic| walk_at "compareOp NotEq int int") => `(tactic| refine halt ?_)
local macro_rules | `(tactic| walk_at "call type:list") => `(tactic| refine halt ?_)
local macro_rules | `(tactic| walk_at "call builtin:len") => `(tactic| refine halt ?_)
local macro_rules | `(tactic| walk_at "compareOp NotEq ref ref") => `(tactic| refine halt ?_)
local macro_rules | `(tactic| walk_at "compareOp In bool ref") => `(tactic| refine halt ?_)
local macro_rules | `(tactic| walk_at "compareOp Eq ref ref") => `(tactic| refine halt ?_)
local macro_rules | `(tactic| walk_at "CompAsk") => `(tactic| refine halt ?_)
local macro_rules | `(tactic| walk_at "call builtin:list.count") => `(tactic| refine halt ?_)
local macro_rules | `(tactic| walk_at "CompSrc") => `(tactic| refine halt ?_)
local macro_rules | `(tactic| walk_at "call ref") => `(tactic| refine halt ?_)
local macro_rules | `(tactic| walk_at "exec Assign cons ListComp") => `(tactic| refine halt ?_)
local macro_rules | `(tactic| walk_at "eval ListComp") => `(tactic| refine halt ?_)
local macro_rules | `(tactic| walk_at "call builtin:sum") => `(tactic| refine halt ?_)
theorem the_law : PySem.Challenge.rw_on0088_01.Holds := by
  apply hd
  k_go0
  all_goals (try k_fold)
  rename World => w
  rename Shared => s1
  rename IntsAre _ _ => hv
  rename Heap.IsList _ _ _ => hl
  rename Fr _ _ _ _ => F0
  rename News _ _ _ _ => N0
  rename Top _ _ _ _ _ _ => T
  rename Frag.In _ _ => KX
  rename ¬ _ < _ => hlen
  rename_i o4 o3 o2 o1 d4 d3 d2 d1 X0
  have P : Here w _ := ⟨_, _, _, KX, T⟩
  have hz := hv.length
  k_steps
  rename Fr _ _ _ _ => F0
  rename News _ _ _ _ => N0
  refine wpAny_call (c_law_row (roomA.le (by omega)) (P.keeps F0.keep) (hl.at fun o e => F0.keep _ o e) hv (by omega) ?_)
  intro h1 tk1 lr vr er zr kp1 hnew1 hlr1 hvr hvr60
  obtain ⟨q4, q3, q2, q1⟩ := ne_new4 N0 hnew1
  have F1 := F0.keeps kp1
  have N1 := newsPut F0 (N0.grown kp1) hnew1 hlr1
  clear F0 N0
  try dsimp only
  try k_fold
  k_steps
  rename Fr _ _ _ _ => F2
  rename News _ _ _ _ => N2
  refine out_call (many := 5) (roomA.le (by omega)) P F2 N2 (by k_updF) hvr (by omega) (by decide) ?_
  intro h2 tk2 wide tw v2 e2 z2 F3 N3 hi2 hl2 hw
  clear F2 N2
  try dsimp only at N3
  try k_fold
  k_steps
  rename Fr _ _ _ _ => F4
  rename News _ _ _ _ => N4
  rename Obj.data _ = Data.cell (some _) => dR0
  obtain ⟨oR, N5, dR⟩ := name5 N4 dR0
  clear N4 dR0
  refine LCg.ListComp_U F4 (by with_unfolding_all rfl) (by decide) (by rfl) (by decide) (by rfl) ?_
  k_steps
  rename IsRange _ _ _ _ _ _ _ _ => hrg
  rename Fr _ _ _ _ => F5
  rename News _ _ _ _ => N6
  refine LCg.CompSrc.range (n := wide) (a := 0) (b := (wide : Int)) rfl F5 N6 hrg (small_one (by decide) (by decide) (by omega) (by omega)) (by rw [rangeSize_nat]; simp) (by rw [sizeLine_eq]; omega) ?_
  intro g
  refine compRest_ind wide (fun i ys news => ∃ v e z ns, news = [(lr, listOf v.toArray e), (s1.heap.objs.size + 1 + 1 + 1 + 1, o4), (s1.heap.objs.size + 1 + 1 + 1, o3), (s1.heap.objs.size + 1 + 1, o2), (s1.heap.objs.size + 1, oR)] ∧ IntsAre v z ∧ v.length ≤ 60 ∧ ns.length = i ∧ (∀ n ∈ ns, n < 6) ∧ IntsAre ys (zs ns)) ?_ ?_ wide 0 [] _ (Nat.zero_add _) ⟨_, _, _, [], rfl, hi2, Nat.le_trans hl2 hvr60, rfl, (fun _ h => nomatch h), .nil⟩
  · rintro i ys news v I oI C oC D m₂ h tk E' hi9 ⟨v3, e3, z3, ns, rfl, hi3, hl3, hnl, hn6, hys⟩ ⟨tv, rfl⟩ hC hx F7 N7 off ⟨r1, r2, r3⟩
    --{
    have hcell : h.IsCell (s1.heap.objs.size + 1) (some (.ref lr)) := ⟨oR, (N7 (s1.heap.objs.size + 1, oR) (by k_mem)).1, dR⟩
    obtain ⟨r4, r5, r6⟩ := off.mem _ (.head _)
    have r4 : @Ne Nat lr I := r4
    have r5 : @Ne Nat lr C := r5
    have r6 : @Ne Nat lr D := r6
    clear N6 F5 hrg
    try k_fold
    k_steps
    rename Fr _ _ _ _ => F8
    rename News _ _ _ _ => N8
    refine out_call (many := 7) (roomA.le (by omega)) P F8 N8 (by k_updF) hi3 (by omega) (by decide) ?_
    intro h4 tk4 r t4 v4 e4 z4 F9 N9 hi4 hl4 hr4
    clear F8 N8
    try dsimp only at N9
    try k_fold
    k_steps
    refine item_anyK ⟨_, (N9 _ (.head _)).1, rfl, _, rfl⟩ lit7 (by omega) (by show (r : Int) < (7 : Nat); omega) (by omega) ?_ (by with_unfolding_all rfl)
    intro t5
    rw [zs_getD]
    have hr6 : [0, 1, 2, 3, 4, 5, 2].getD r 0 < 6 := by
      have : r = 0 ∨ r = 1 ∨ r = 2 ∨ r = 3 ∨ r = 4 ∨ r = 5 ∨ r = 6 := by omega
      rcases this with rfl | rfl | rfl | rfl | rfl | rfl | rfl <;> decide
    try dsimp only
    refine LCg.CompEnd.intro F9 N9 [(lr, listOf v4.toArray e4), (s1.heap.objs.size + 1 + 1 + 1 + 1, o4), (s1.heap.objs.size + 1 + 1 + 1, o3), (s1.heap.objs.size + 1 + 1, o2), (s1.heap.objs.size + 1, oR)] (fun p hp => .tail _ hp) ⟨⟨r4, r5, r6⟩, off.2⟩ trivial ⟨v4, e4, z4, ns ++ [[0, 1, 2, 3, 4, 5, 2].getD r 0], rfl, hi4, Nat.le_trans hl4 hl3, by rw [List.length_append, hnl]; rfl, ?_, by rw [zs, List.map_append]; exact intsPush hys⟩
    intro n hn
    rcases List.mem_append.mp hn with hn | hn
    · exact hn6 n hn
    · rw [List.mem_singleton.mp hn]; exact hr6
    --}
  · rintro ys news ⟨v, e, z, ns, rfl, hi5, hl5, hnl, hn6, hys⟩
    intro D h tk F7 N7 off
    try k_fold
    k_steps
    rename Fr _ _ _ _ => F8
    rename News _ _ _ _ => N8
    obtain ⟨li, F9, N9⟩ := name_li F8 N8
    have u1 : @Ne Nat li lr := ne_data N9 (.head _) (.tail _ (.head _)) (fun e => absurd (Value.type.inj (congrArg Obj.cls e)) (by decide))
    clear F8 N8
    have hp16 : 2 ^ wide ≤ 16 := pow2_le (by omega)
    refine LCg.ListComp_U F9 (by with_unfolding_all rfl) (by decide) (by rfl) (by decide) (by rfl) ?_
    k_steps
    rename IsRange _ _ _ _ _ _ _ _ => hrg2
    rename Fr _ _ _ _ => F10
    rename News _ _ _ _ => N10
    obtain ⟨W, hW⟩ : ∃ W, W = 2 ^ wide := ⟨_, rfl⟩
    rw [← hW] at hrg2 hp16
    refine LCg.CompSrc.range (n := W) (a := 0) (b := (W : Int)) rfl F10 N10 hrg2 (small_one (by decide) (by decide) (by omega) (by omega)) (by rw [rangeSize_nat]; simp) (by rw [sizeLine_eq]; omega) ?_
    intro g2
    refine compRest_ind W (fun i zs' news => ∃ v e z ms, news = [(li, { cls := .type "tuple", data := .seq ys.toArray }), (lr, listOf v.toArray e), (s1.heap.objs.size + 1 + 1 + 1 + 1, o4), (s1.heap.objs.size + 1 + 1 + 1, o3), (s1.heap.objs.size + 1 + 1, o2), (s1.heap.objs.size + 1, oR)] ∧ IntsAre v z ∧ v.length ≤ 60 ∧ ms.sum < 2 ^ i ∧ IntsAre zs' (zs ms)) ?_ ?_ W 0 [] _ (Nat.zero_add _) ⟨_, _, _, [], rfl, hi5, hl5, by decide, .nil⟩
    · rintro i zs' news v' I oI C oC D m₂ h tk E' hi9 ⟨v3, e3, z3, ms, rfl, hi3, hl3, hms, hzs⟩ ⟨tv, rfl⟩ hC hx F7 N7 off ⟨r1, r2, r3⟩
      --{
      have e1 : (0 : Int) + (i : Int) = (i : Int) := by omega
      rw [e1] at hx
      have hcell : h.IsCell (s1.heap.objs.size + 1) (some (.ref lr)) := ⟨oR, (N7 (s1.heap.objs.size + 1, oR) (by k_mem)).1, dR⟩
      obtain ⟨r4, r5, r6⟩ := off.mem _ (.tail _ (.head _))
      have r4 : @Ne Nat lr I := r4
      have r5 : @Ne Nat lr C := r5
      have r6 : @Ne Nat lr D := r6
      clear N10 F10 hrg2
      try k_fold
      k_steps
      rename Fr _ _ _ _ => F8
      rename News _ _ _ _ => N8
      refine out_call (many := 2) (roomA.le (by omega)) P F8 N8 (by k_updF) hi3 (by omega) (by decide) ?_
      intro h4 tk4 r t4 v4 e4 z4 F9 N9 hi4 hl4 hr4
      clear F8 N8
      try dsimp only at N9
      try k_fold
      k_steps
      refine LCg.CompEnd.intro F9 N9 [(li, _), (lr, listOf v4.toArray e4), (s1.heap.objs.size + 1 + 1 + 1 + 1, o4), (s1.heap.objs.size + 1 + 1 + 1, o3), (s1.heap.objs.size + 1 + 1, o2), (s1.heap.objs.size + 1, oR)] (fun p hp => hp) ⟨off.1, ⟨r4, r5, r6⟩, off.2.2⟩ trivial ⟨v4, e4, z4, ms ++ [r * 2 ^ i], rfl, hi4, Nat.le_trans hl4 hl3, ?_, by rw [zs, List.map_append]; exact intsPush hzs⟩
      rw [List.sum_append, Nat.pow_succ]
      have h9 : r * 2 ^ i ≤ 1 * 2 ^ i := Nat.mul_le_mul_right _ (by omega)
      simp only [List.sum_cons, List.sum_nil]
      omega
      --}
    · rintro zs' news ⟨v, e, z, ms, rfl, hi6, hl6, hms, hzs⟩
      intro D h tk F7 N7 off
      try k_fold
      k_steps
      rename Fr _ _ _ _ => F8
      rename News _ _ _ _ => N8
      refine LSm.sum_ints F8 N8 rfl ⟨_, (N8 _ (.head _)).1, rfl, _, rfl⟩ hzs ?_
      intro h4 tk4 t4 F9 N9
      rw [zs_sum]
      generalize hT : ms.sum = tab at *
      clear F8 N8
      try k_fold
      k_steps
      rename Fr _ _ _ _ => F8
      rename News _ _ _ _ => N8
      have hli : IsTup _ li ys.toArray := ⟨_, (N8 (li, _) (.tail _ (.head _))).1, rfl, _, rfl⟩
      refine wpAny_call (c_table_form (ins := ns) (roomA.le (by omega)) (P.keeps F8.keep) hli hys (fun n hn => Nat.lt_trans (hn6 n hn) (by decide)) (by omega) ?_)
      intro h5 tk5 p q vn kt tv kp5 hp0 hq0 hp hq hvn htv
      have F9 := F8.keeps kp5
      obtain ⟨np, hpe⟩ := hp
      obtain ⟨nq, hqe⟩ := hq
      have N9 := newsPut F8 (newsPut F8 (N8.grown kp5) hq0 hqe) hp0 hpe
      have N10 := sub_news (fun z hz => N9 z (by
        rcases List.mem_cons.mp hz with rfl | hz
        · exact .head _
        · rcases List.mem_cons.mp hz with rfl | hz
          · exact .tail _ (.head _)
          · exact .tail _ (.tail _ (.tail _ hz))))
      clear F8 N8 N9 hli
      have x1 := ne_cell N10 (.head _) rfl (b := s1.heap.objs.size + 1 + 1 + 1 + 1) (by k_mem) d4
      have x2 := ne_cell N10 (.head _) rfl (b := s1.heap.objs.size + 1 + 1 + 1) (by k_mem) d3
      have x3 := ne_cell N10 (.head _) rfl (b := s1.heap.objs.size + 1 + 1) (by k_mem) d2
      have y1 := ne_cell N10 (.tail _ (.head _)) rfl (b := s1.heap.objs.size + 1 + 1 + 1 + 1) (by k_mem) d4
      have y2 := ne_cell N10 (.tail _ (.head _)) rfl (b := s1.heap.objs.size + 1 + 1 + 1) (by k_mem) d3
      have y3 := ne_cell N10 (.tail _ (.head _)) rfl (b := s1.heap.objs.size + 1 + 1) (by k_mem) d2
      have z1 := ne_cell N10 (.tail _ (.tail _ (.head _))) rfl (b := s1.heap.objs.size + 1 + 1 + 1 + 1) (by k_mem) d4
      have z2 := ne_cell N10 (.tail _ (.tail _ (.head _))) rfl (b := s1.heap.objs.size + 1 + 1 + 1) (by k_mem) d3
      have z3 := ne_cell N10 (.tail _ (.tail _ (.head _))) rfl (b := s1.heap.objs.size + 1 + 1) (by k_mem) d2
      try dsimp only
      try k_fold
      k_steps
      rename Fr _ _ _ _ => F11
      rename News _ _ _ _ => N11
      rename_i hA9 oF dF tkA ln hB9 lt9 hC9 oN dN
      refine wpAny_call (c_law_lines (ns := [2, 3, 4, 5]) (roomA.le (by omega)) (P.keeps F11.keep) ⟨_, (N11 _ (.head _)).1, rfl, _, rfl⟩ lit4 rfl nets4 ?_)
      intro h6 tk6 a vs el hs kp6 hnew6 hL
      have ok := formOk (tab := tab) hn6 (by omega)
      generalize hkd : kindOf' tab ns = kd at *
      generalize hnets : outNets tab ns = nets at *
      generalize hot : outTab tab ns = ot at *
      have F12 := F11.keeps kp6
      have N12 := newsAll F11 (N11.grown kp6) hnew6
      clear F11 N11
      try dsimp only
      try k_fold
      k_steps
      obtain ⟨B, hB, N13⟩ := split_B N12
      clear N12
      have gB : ∀ h, News s1.heap s1.heap.objs.size h B → TupAt h p [.str kd kt, .ref q, tv] ∧ IsTup h q vn.toArray ∧ IsTup h li ys.toArray ∧ h.IsList ln #[Value.int 2 tkA, Value.int 3 (tkA + 1), Value.int 4 (tkA + 1 + 1), Value.int 5 (tkA + 1 + 1 + 1)] ∧ h.IsCell (s1.heap.objs.size + 1 + 1) (some (.ref p)) ∧ h.IsCell (s1.heap.objs.size + 1 + 1 + 1) (some (.ref ln)) := by
        intro h N
        rw [hB] at N
        exact ⟨⟨np, (N (p, _) (.tail _ (.head _))).1⟩, ⟨_, (N (q, _) (.tail _ (.tail _ (.head _)))).1, rfl, _, rfl⟩, ⟨_, (N (li, _) (.tail _ (.tail _ (.tail _ (.head _))))).1, rfl, _, rfl⟩, ⟨_, (N (ln, _) (.head _)).1, rfl, _, rfl⟩,
          ⟨oF, (N (_, oF) (.tail _ (.tail _ (.tail _ (.tail _ (.tail _ (.tail _ (.head _)))))))).1, dF⟩, ⟨oN, (N (_, oN) (.tail _ (.tail _ (.tail _ (.tail _ (.tail _ (.head _))))))).1, dN⟩⟩
      have hla : h6.IsList a vs.toArray := ⟨_, (N13 (a, _) (.head _)).1, rfl, _, rfl⟩
      have haL : a ≠ s1.heap.objs.size := (N13 (a, _) (.head _)).2.1
      refine for_list2 (nx₀ := _) (fun i m nx => nx = ((a, listOf vs.toArray el) :: hs) ++ B ∧ m "table" = some (.int (tab : Int) t4) ∧ m "ins" = some (.ref li)) rfl hla haL F12 N13 ⟨rfl, rfl, rfl⟩ ?_ ?_
      · rintro i v m₁ nx h tk own hv9 ⟨rfl, h1, h2⟩ hne hown _ hI _ F13 N14
        --{
        have hi16 : i < 16 := by
          rw [← hL.1]
          rw [List.getElem?_eq_some_iff] at hv9; exact hv9.1
        obtain ⟨b, o, hb, hm, hlo, hH⟩ := hL.2 i hi16
        rw [hv9] at hb
        obtain rfl := Option.some.inj hb
        have F14 := know (know F13 (y := "table") h1) (y := "ins") h2
        obtain ⟨g1, g2, g3, g4, g5, g6⟩ := gB h (News.right (News.left N14))
        have HA1 : HeldAt w h b (asg i) 6 6 := ⟨hlo, o, (N14 (b, o) (List.mem_append_left _ (List.mem_append_left _ (.tail _ hm)))).1, hH⟩
        clear F13 F12 N13
        try k_fold
        k_steps
        refine wpAny_call (c_law_formed (roomA.le (by omega)) (P.keeps F14.keep) g1 g2 hvn htv HA1 ok.good ok.small (asg_le i) ok.len ?_)
        intro h7 tk7 t7 kp7
        have F15 := F14.keeps kp7
        have N15 := N14.grown kp7
        clear F14 N14
        try dsimp only
        try k_fold
        k_steps
        refine wpAny_call (c_law_read (roomA.le (by omega)) (P.keeps F15.keep) (g3.keeps kp7) hys (HA1.keeps kp7) hn6 (asg_le i) (by omega) ?_)
        intro h8 tk8 t8 kp8
        have F16 := F15.keeps kp8
        have N16 := N15.grown kp8
        clear F15 N15
        try dsimp only
        try k_fold
        k_steps
        refine PyProof.Rows.ne_int ?_
        rw [ok.same i hi16, bne_self_eq_false]
        k_steps
        all_goals (try k_data)
        exact Turn.go (nx' := ((a, listOf vs.toArray el) :: hs) ++ B) F16 N16 (fun p hp => hne p hp) ⟨rfl, rfl, rfl⟩
        --}
      · rintro m₁ nx h tk ⟨rfl, h1, h2⟩ F13 N13'
        have F14 := know (know F13 (y := "table") h1) (y := "ins") h2
        have N14 := News.right N13'
        obtain ⟨g1, g2, g3, g4, g5, g6⟩ := gB h N14
        have g1' := g1.is
        clear F13 F12 N13 N13' hla haL
        rcases ok.good with ⟨hk, hg1⟩ | ⟨hk, hg1⟩ | ⟨hk, hg1⟩
        · obtain ⟨w1, w2⟩ := ok.one (by rw [hk]; decide)
          --{
          subst hk
          subst w1
          have htn : tv = .none := by cases tv <;> first | rfl | exact htv.elim
          subst htn
          subst hB
          try k_fold
          k_steps
          rename News _ _ _ _ => N15
          refine lenT_N (gB _ (News.right (X := [_]) N15)).2.1 hvn (by omega) ?_
          intro tl
          rw [w2]
          k_steps
          refine PyProof.Rows.ne_int ?_
          rw [show (((1 : Nat) : Int) != 1) = false from rfl]
          k_steps
          rename Fr _ _ _ _ => F24
          rename News _ _ _ _ => N26
          refine wpAny_call (c_library_form (ins := ns) (roomA.le (by omega)) (P.keeps F24.keep) (gB _ (News.right (X := [_, _]) N26)).2.2.1 hys ⟨_, (N26 _ (.head _)).1⟩ (fun n hn => Nat.lt_trans (hn6 n hn) (by decide)) (by omega) ?_ ?_)
          · exact fun hne => absurd (hkd.symm.trans hne) (by decide)
          · intro _ h27 tk27 p2 q2 vn2 kt2 kp27 hp2n hq2n hp2 hq2 hvn2
            obtain ⟨np2, hp2⟩ := hp2
            obtain ⟨nq2, hq2⟩ := hq2
            rw [hnets] at hvn2
            rw [hkd] at hp2
            have F25 := F24.keeps kp27
            have N28 := newsPut F24 (newsPut F24 (N26.grown kp27) hq2n hq2) hp2n hp2
            clear F24 N26
            try dsimp only
            try k_fold
            k_steps
            rename News _ _ _ _ => N29
            have gP := gB _ (News.right (X := [_, _, _, _]) N29)
            refine eq_forms ⟨_, (N29 (p2, _) (.head _)).1⟩ gP.1 ⟨_, (N29 (q2, _) (.tail _ (.head _))).1, rfl, _, rfl⟩ hvn2 gP.2.1 hvn unitsA (by decide +kernel) ?_
            k_steps
          --}
        · obtain ⟨w1, w2⟩ := ok.one (by rw [hk]; decide)
          have n0 := ok.neg hk
          have n0' : ¬ ((nets.getD 0 0 : Nat) : Int) < 2 := by omega
          subst hk
          subst w1
          have htn : tv = .none := by cases tv <;> first | rfl | exact htv.elim
          subst htn
          subst hB
          try k_fold
          k_steps
          rename News _ _ _ _ => N15
          refine lenT_N (gB _ (News.right (X := [_]) N15)).2.1 hvn (by omega) ?_
          intro tl
          rw [w2]
          k_steps
          refine PyProof.Rows.ne_int ?_
          rw [show (((1 : Nat) : Int) != 1) = false from rfl]
          k_steps
          rename Fr _ _ _ _ => F24
          rename News _ _ _ _ => N26
          refine wpAny_call (c_library_form (ins := ns) (roomA.le (by omega)) (P.keeps F24.keep) (gB _ (News.right (X := [_, _]) N26)).2.2.1 hys ⟨_, (N26 _ (.head _)).1⟩ (fun n hn => Nat.lt_trans (hn6 n hn) (by decide)) (by omega) ?_ ?_)
          · exact fun hne => absurd (hkd.symm.trans hne) (by decide)
          · intro _ h27 tk27 p2 q2 vn2 kt2 kp27 hp2n hq2n hp2 hq2 hvn2
            obtain ⟨np2, hp2⟩ := hp2
            obtain ⟨nq2, hq2⟩ := hq2
            rw [hnets] at hvn2
            rw [hkd] at hp2
            have F25 := F24.keeps kp27
            have N28 := newsPut F24 (newsPut F24 (N26.grown kp27) hq2n hq2) hp2n hp2
            clear F24 N26
            try dsimp only
            try k_fold
            k_steps
            rename News _ _ _ _ => N29
            have gP := gB _ (News.right (X := [_, _, _, _]) N29)
            refine eq_forms ⟨_, (N29 (p2, _) (.head _)).1⟩ gP.1 ⟨_, (N29 (q2, _) (.tail _ (.head _))).1, rfl, _, rfl⟩ hvn2 gP.2.1 hvn unitsA (by decide +kernel) ?_
            k_steps
        · obtain ⟨l1, l2, l3, l4, sm, hsm, l5⟩ := ok.lut hk
          --{
          subst hk
          subst hsm
          obtain ⟨tx, htx⟩ : ∃ tx, tv = .int ((sm : Nat) : Int) tx := by
            cases tv <;> first | exact htv.elim | (rename_i x t; exact ⟨t, by rw [show x = _ from htv]⟩)
          subst htx
          have hpl : 2 ^ nets.length ≤ 16 := pow2_le ok.len
          have l5' : ((sm : Nat) : Int) < ((2 ^ 2 ^ nets.length : Nat) : Int) := Int.ofNat_lt.mpr l5
          try k_fold
          k_steps
          rename Fr _ _ _ _ => F15
          subst hB
          refine list_copyKT F15 N14 g2 ?_ (fitLine (k := 4) (by rw [lenIs hvn]; exact ok.len) (by decide))
          intro D c h15 F16 N16 hlt16
          have w4 : @LT.lt Nat _ (s1.heap.objs.size + 1 + 1 + 1 + 1) D := hlt16 (s1.heap.objs.size + 1 + 1 + 1 + 1, o4) (by k_mem)
          have hvl := lenIs hvn
          have hlen4 := ok.len
          clear F15
          try k_fold
          k_steps
          rename Fr _ _ _ _ => F17
          rename News _ _ _ _ => N17
          rename_i oK dK
          have hKl : ∀ h, News s1.heap s1.heap.objs.size h [(D, listOf vn.toArray c)] → h.IsList D vn.toArray := fun h N => ⟨_, (N _ (.head _)).1, rfl, _, rfl⟩
          refine len_N ⟨_, (N17 _ (.head _)).1, rfl, _, rfl⟩ hvn (by omega) ?_
          intro tl
          have hnl2 : ¬ ((nets.length : Nat) : Int) < 2 := by omega
          k_steps
          refine comp_eval (fun _ => false) (fun v y => v = y) rfl (by with_unfolding_all rfl) (by decide) (by rfl) (by decide) (by rfl) ?_ (fun _ => by with_unfolding_all rfl)
          have cK : ∀ h, News s1.heap s1.heap.objs.size h [(s1.heap.objs.size + 1 + 1 + 1 + 1, oK)] → h.IsCell (s1.heap.objs.size + 1 + 1 + 1 + 1) (some (.ref D)) := fun h N => ⟨oK, (N _ (.head _)).1, dK⟩
          k_steps
          refine ⟨D, vn, rfl, .inl ⟨_, (N17 _ (.head _)).1, rfl, _, rfl⟩, Nat.le_trans (by omega : vn.length ≤ 4) (by rw [sizeLine_eq]; decide), ?_, ?_, ?_⟩
          · intro C v s₂ m₂ E' hC hv9 hns hxm hk9
            obtain ⟨n, tn, hn, rfl⟩ := mem_zs hvn hv9
            obtain ⟨m1, m2⟩ := l2 n hn
            have F18 := know (Fr.inner F17 hns hC hk9) hxm
            have hKl9 : s₂.heap.IsList D vn.toArray := ⟨_, hk9 _ _ (N17 _ (.head _)).1, rfl, _, rfl⟩
            have cK9 : s₂.heap.IsCell (s1.heap.objs.size + 1 + 1 + 1 + 1) (some (.ref D)) := ⟨oK, hk9 _ _ (N17 (s1.heap.objs.size + 1 + 1 + 1 + 1, oK) (by k_mem)).1, dK⟩
            have hKa9 : ListAt s₂.heap D vn := ⟨c, hk9 _ _ (N17 _ (.head _)).1⟩
            refine wpAny_tests_one ?_
            k_steps
            --{
            all_goals (try k_data)
            refine count_list_ints hKl9 hvn ?_
            rw [zs_count, m2]
            k_steps
            all_goals (try k_data)
            exact ⟨rfl, _, _, rfl, fun _ _ e => e⟩
            --}
          · intro C v s₂ m₂ E' hC hv9 hp9
            cases hp9
          · intro D2 ys2 h18 tk18 hD2 hl2' hp2 kp18
            have hy0 : ys2 = [] := by
              have : vn.filter (fun _ => false) = [] := by simp
              rw [this] at hp2; cases hp2; rfl
            subst hy0
            obtain ⟨c2, hl2'⟩ := hl2'
            have F18 := F17.keeps kp18
            have N18 := newsPut F17 (N17.grown kp18) hD2 hl2'
            clear F17 N17
            try k_fold
            k_steps
            rename Fr _ _ _ _ => F19
            rename News _ _ _ _ => N19
            refine ne_intsK (vs := []) (us := []) (ns := []) (ms := []) ⟨_, (N19 _ (.tail _ (.head _))).1, rfl, _, rfl⟩ .nil ⟨_, (N19 _ (.head _)).1, rfl, _, rfl⟩ .nil unitsA ?_
            rw [show (!decide (([] : List Int) = [])) = false from rfl]
            k_steps
            obtain ⟨K8, hK8, N20⟩ := split_B (X := [_, _]) N19
            clear N19
            have gC : ∀ h, News s1.heap s1.heap.objs.size h K8 → ListAt h D vn ∧ TupAt h p [.str (Str.ofString "lut") kt, .ref q, .int ((sm : Nat) : Int) tx] ∧ IsTup h q vn.toArray ∧ IsTup h li ys.toArray ∧ h.IsList ln #[Value.int 2 tkA, Value.int 3 (tkA + 1), Value.int 4 (tkA + 1 + 1), Value.int 5 (tkA + 1 + 1 + 1)] ∧ h.IsCell (s1.heap.objs.size + 1 + 1) (some (.ref p)) ∧ h.IsCell (s1.heap.objs.size + 1 + 1 + 1) (some (.ref ln)) ∧ h.IsCell (s1.heap.objs.size + 1 + 1 + 1 + 1) (some (.ref D)) := by
              intro h N
              rw [hK8] at N
              exact ⟨⟨c, (N (D, _) (.head _)).1⟩, ⟨np, (N (p, _) (.tail _ (.tail _ (.head _)))).1⟩, ⟨_, (N (q, _) (.tail _ (.tail _ (.tail _ (.head _))))).1, rfl, _, rfl⟩, ⟨_, (N (li, _) (.tail _ (.tail _ (.tail _ (.tail _ (.head _)))))).1, rfl, _, rfl⟩, ⟨_, (N (ln, _) (.tail _ (.head _))).1, rfl, _, rfl⟩,
                ⟨oF, (N (_, oF) (by k_mem)).1, dF⟩, ⟨oN, (N (_, oN) (by k_mem)).1, dN⟩, ⟨oK, (N (_, oK) (by k_mem)).1, dK⟩⟩
            have N21 : News s1.heap s1.heap.objs.size _ K8 := News.right (X := [_, _]) N20
            refine comp_eval (fun v => match v with | .int x _ => nets.contains x.toNat | _ => false) (fun v y => v = y) rfl (by with_unfolding_all rfl) (by decide) (by rfl) (by decide) (by rfl) ?_ (fun _ => by with_unfolding_all rfl)
            k_steps
            refine wpAny_call (c_law_once (roomA.le (by omega)) (P.keeps F19.keep) (gC _ N21).2.2.2.1 hys (by omega) ?_)
            intro h20 tk20 ao vo kp20 hao hvo hio
            obtain ⟨co, hvo⟩ := hvo
            have F20 := F19.keeps kp20
            have N22 := newsPut F19 (N21.grown kp20) hao hvo
            clear F19 N20 N21
            refine ⟨ao, vo, rfl, .inl ⟨_, (N22 (ao, _) (.head _)).1, rfl, _, rfl⟩, Nat.le_trans (by rw [lenIs hio]; have := onceOf_len ns; omega : vo.length ≤ 4) (by rw [sizeLine_eq]; decide), ?_, ?_, ?_⟩
            · intro C v s₂ m₂ E' hC hv9 hns hxm hk9
              obtain ⟨n, tn, hn, rfl⟩ := mem_zs hio hv9
              have F18 := know (Fr.inner F20 hns hC hk9) hxm
              obtain ⟨hKa9, _, _, _, _, _, _, cK9⟩ := gC s₂.heap (News.right (X := [_]) (N22.grown hk9))
              have hKl9 := hKa9.is
              refine wpAny_tests_one ?_
              --{
              k_steps
              all_goals (try k_data)
              exact ⟨rfl, _, _, rfl, fun _ _ e => e⟩
              --}
            · intro C v s₂ m₂ E' hC hv9 hp9 hns hxm hk9
              have F18 := know (Fr.inner F20 hns hC hk9) hxm
              --{
              k_steps
              all_goals (try k_data)
              exact ⟨rfl, _, _, rfl, fun _ _ e => e⟩
              --}
            · intro D3 ys3 h21 tk21 hD3 hl3 hp3 kp21
              obtain rfl := paired_eq hp3
              have hi3 := ints_filter nets hio
              rw [l3] at hi3
              obtain ⟨c3, hl3⟩ := hl3
              have F21 := F20.keeps kp21
              have N23 := newsPut F20 (N22.grown kp21) hD3 hl3
              clear F20 N22
              try k_fold
              k_steps
              have N24 := News.right (X := [_, _]) N23
              obtain ⟨k1, k2, k3, k4, k5, k6, k7, k8⟩ := gC _ N24
              refine ne_intsK k1.is hvn ⟨_, (N23 (D3, _) (.head _)).1, rfl, _, rfl⟩ hi3 unitsA ?_
              rw [decide_eq_true rfl, Bool.not_true]
              k_steps
              refine comp_eval (fun _ => true) (fun _ y => y = .bool true) rfl (by with_unfolding_all rfl) (by decide) (by rfl) (by decide) (by rfl) ?_ (fun _ => by with_unfolding_all rfl)
              k_steps
              refine ⟨D, vn, rfl, .inl k1.is, Nat.le_trans (by omega : vn.length ≤ 4) (by rw [sizeLine_eq]; decide), ?_, ?_, ?_⟩
              · intro C v s₂ m₂ E' hC hv9 hns hxm hk9
                exact comp_noifs rfl ⟨_, _, rfl, fun _ _ e => e⟩
              · intro C v s₂ m₂ E' hC hv9 _ hns hxm hk9
                obtain ⟨n, tn, hn, rfl⟩ := mem_zs hvn hv9
                have F22 := know (Fr.inner F21 hns hC hk9) hxm
                obtain ⟨j1, j2, j3, j4, j5, j6, j7, j8⟩ := gC s₂.heap (N24.grown hk9)
                --{
                k_steps
                all_goals (try k_data)
                refine wpAny_call (c_law_matters (roomA.le (by omega)) (P.keeps F22.keep) j2 j3 hvn htv ok.good ok.small ok.len j5 lit4 rfl nets4 (ok.small n hn) ?_)
                intro h25 tk25 kp25
                rw [l4 n hn]
                exact ⟨rfl, _, _, rfl, kp25⟩
                --}
              · intro D4 ys4 h26 tk26 hD4 hl4' hp4 kp26
                have F23 := F21.keeps kp26
                have N25 := N24.grown kp26
                obtain ⟨j1, j2, j3, j4, j5, j6, j7, j8⟩ := gC _ N25
                have hall : ∀ y ∈ ys4, y = .bool true := by
                  intro y hy
                  obtain ⟨_, e9⟩ := Paired.right hp4 y hy
                  exact e9
                clear F21 N23 N24
                try k_fold
                k_steps
                refine SeqInW.in_listW (fun _ => false) (fun y hy => ?_) hl4'.is ?_
                · rw [hall y (by simpa using hy)]
                  exact fun prog w A E s Q h => PySem.SeqAt.EqAt.bool_bool true false prog w E Q h
                · rw [show (ys4.toArray.any fun _ => false) = false from by simp]
                  have j2' := j2.is
                  k_steps
                  refine len_N j1.is hvn (by omega) ?_
                  intro tl2
                  k_steps
                  rename Fr _ _ _ _ => F24
                  rename News _ _ _ _ => N26
                  have N27 := News.right (X := [_]) N26
                  refine wpAny_call (c_library_form (ins := ns) (roomA.le (by omega)) (P.keeps F24.keep) (gC _ N27).2.2.2.1 hys ⟨_, (N26 _ (.head _)).1⟩ (fun n hn => Nat.lt_trans (hn6 n hn) (by decide)) (by omega) ?_ ?_)
                  · intro _ h27 tk27 p2 kt2 kp27 hp2n hp2
                    obtain ⟨np2, hp2⟩ := hp2
                    have F25 := F24.keeps kp27
                    have N28 := newsPut F24 (N26.grown kp27) hp2n hp2
                    have gC9 := gC
                    clear F24 N26 N27 gC j1 j2 j3 j4 j5 j6 j7 j8 j2' k1 k2 k3 k4 k5 k6 k7 k8 g1 g2 g3 g4 g5 g6 g1'
                    subst hK8
                    try dsimp only
                    try k_fold
                    k_steps
                    rename News _ _ _ _ => N29
                    obtain ⟨_, _, j3, j4, _⟩ := gC9 _ (News.right (X := [_, _, _, _]) N29)
                    refine eq_cells ⟨_, (N29 (p2, _) (.tail _ (.tail _ (.head _)))).1⟩ ⟨_, (N29 _ (.tail _ (.tail _ (.tail _ (.head _))))).1⟩ ⟨_, (N29 _ (.head _)).1⟩ ⟨_, (N29 _ (.tail _ (.head _))).1⟩ j4 hys unitsA (by decide +kernel) (by decide +kernel) ?_
                    k_steps
                  · exact fun hne => absurd hkd hne
          --}
end
end Mine

theorem PySem.Challenge.cw_on0088_01_holds : PySem.Challenge.rw_on0088_01.Holds := by
  exact Mine.the_law
