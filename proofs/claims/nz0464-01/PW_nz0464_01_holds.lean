import PyProof.Rows.All
import Wide.All
import OpenK.AllK
import KE.KCompFold
import Wide.FinOn
import PySem.Challenge.RW_nz0464_01
open PySem PySem.W PyProof.Rows
set_option Elab.async false
set_option rowWalk.seconds 0
namespace Nz
set_option maxRecDepth 100000 in
set_option maxHeartbeats 8000000 in
open_top hd for PySem.Challenge.rw_nz0464_01
open PySem PySem.W PySem.Calls PyProof.Rows
set_option maxRecDepth 100000
set_option compiler.extract_closed false
local macro_rules | `(tactic| omega) => `(tactic| lia)
theorem fill_dummy : PySem.Challenge.rw_nz0464_01.prog = PySem.Challenge.rw_nz0464_01.prog ∧ hd.heap_39 = hd.heap_39 := by
  k_fill
  exact ⟨rfl, rfl⟩

/-- the value list holds texts -/
inductive Txts : List Value → List Str → Prop
  | nil : Txts [] []
  | cons (x : Str) (t : Tok) {vs : List Value} {xs : List Str} (h : Txts vs xs) : Txts (.str x t :: vs) (x :: xs)
theorem Txts.length {vs : List Value} {xs : List Str} (h : Txts vs xs) : vs.length = xs.length := by
  induction h with
  | nil => rfl
  | cons x t _ ih => simp [ih]
theorem Txts.item {vs : List Value} {xs : List Str} (h : Txts vs xs) : ∀ (i : Nat) (v : Value), vs[i]? = some v → ∃ x t, v = .str x t ∧ xs[i]? = some x := by
  induction h with
  | nil => intro i v hv; simp at hv
  | cons x t _ ih =>
    intro i v hv
    cases i with
    | zero => simp at hv; exact ⟨x, t, hv.symm, rfl⟩
    | succ i => simpa using ih i v (by simpa using hv)
theorem Txts.append {vs ws : List Value} {xs ys : List Str} (h : Txts vs xs) (h' : Txts ws ys) : Txts (vs ++ ws) (xs ++ ys) := by
  induction h with
  | nil => exact h'
  | cons x t _ ih => exact .cons x t ih
theorem Txts.snoc {vs : List Value} {xs : List Str} (h : Txts vs xs) (x : Str) (t : Tok) : Txts (vs ++ [.str x t]) (xs ++ [x]) := h.append (.cons x t .nil)
theorem Txts.strs {vs : List Value} {xs : List Str} (h : Txts vs xs) : StrsAre vs xs := by
  induction h with
  | nil => exact .nil
  | cons x t _ ih => exact .cons x t ih

/-- a call's contract -/
def Spec (w : World) (f : Addr) (D U : Nat) (vs : List Value) (news : List (Addr × Obj)) (R : Value → List (Addr × Obj) → Prop) : Prop :=
  ∀ (mean : ExcName → Option Value) (mg mb : Str → Option Value) (dp un : Nat) (gd : Option (List Code)) (cn : Str) (cs : Scope) (a : Addr) (ccd : Value) (cl : List (Str × Addr)) (outer : List Env) (A₀ : Around) (base h₀ : Heap) (L : Addr) (m : Str → Option Value) (s : Shared) (Q E : Value → Shared → Prop),
    Below A₀ base outer h₀ → Fr h₀ L s.heap m → (hd.heap_39 w.params).In h₀ → News h₀ L s.heap news → Top hd.view_39 (looseW hd.view_39 []) mean mg mb h₀ → cs.kind = .function → dp + D < recursionLimit → un + U < cLine →
    (∀ v nw h' tk', R v nw → Fr h₀ L h' m → News h₀ L h' nw → Q v { s with heap := h', toks := tk' }) →
    wpAny (model PySem.Challenge.rw_nz0464_01.row.prog w) (ktrTop dp un gd cn cs L a ccd cl outer) (call (.ref f) vs) Q E s

/-- a frame's map, written -/
def fm : List (Str × Value) → Str → Option Value
  | [] => fun _ => none
  | p :: r => fun y => if y = p.1 then some p.2 else fm r y
theorem lookup_fm : ∀ (l : List (Str × Value)), (fun y => List.lookup y l) = fm l
  | [] => rfl
  | p :: r => by
    funext y
    show List.lookup y (p :: r) = if y = p.1 then some p.2 else fm r y
    rw [← congrFun (lookup_fm r) y, List.lookup_cons]
    by_cases h : y = p.1
    · simp [h]
    · have : (y == p.1) = false := by simpa using h
      simp [h, this]

def RetP (g : Heap) (L : Addr) (s : Shared) (R : Value → List (Addr × Obj) → Prop) (fl : Flow) (s' : Shared) : Prop :=
  ∃ h tk m nw, s' = { s with heap := h, toks := tk } ∧ Fr g L h m ∧ News g L h nw ∧ R (match fl with | .ret v => v | _ => .none) nw

theorem spec_of {w : World} {f : Addr} {D U : Nat} {vs : List Value} {news : List (Addr × Obj)} {R : Value → List (Addr × Obj) → Prop} {oc od} {name qual : Str} {params : Arguments} {body : List Stmt} {scope : Scope} {dV kV doc pm an cdv ct osl}
    (binds : List (Str × Value))
    (ho : (hd.heap_39 w.params).lookup f = some ⟨oc, od, .func (fnOf name qual params body scope dV kV doc pm an cdv ct), osl⟩) (hcd : codeIn (hd.heap_39 w.params) cdv qual = true) 
    (hbind : bindArgs (fnOf name qual params body scope dV kV doc pm an cdv ct) ⟨vs, []⟩ = pure binds) (hloc : ∀ y ∈ binds, scope.names.lookup y.1 = some .local)
    (h : ∀ (mean : ExcName → Option Value) (mg mb : Str → Option Value) (dp un : Nat) (gd : Option (List Code)) (outer : List Env) (A₀ : Around) (base g : Heap) (L : Addr) (s : Shared),
      Below A₀ base outer g → Fr g L s.heap (fm binds.reverse) → (hd.heap_39 w.params).In g → News g L s.heap news → Top hd.view_39 (looseW hd.view_39 []) mean mg mb g → dp + D < recursionLimit → un + U < cLine →
      wpAny (model PySem.Challenge.rw_nz0464_01.row.prog w) (ktrTop dp un gd qual scope L f cdv [] outer) (execs body (envOf qual scope L f cdv)) (RetP g L s R) (fun _ _ => False) s)
    (hco : scope.isCoroutine = false) (hgen : scope.isGenerator = false) (hk : scope.kind = .function) (hcell : ∀ x ∈ scope.names, x.2 ≠ .cell) :
    Spec w f (D + 1) (U + 3) vs news R := by
  intro mean mg mb dp un gd cn cs a ccd cl outer A₀ base h₀ L m s Q E B F X N T hk' hd' hu hret
  refine wpAny_call ?_
  refine code_def (K := hd.heap_39 w.params) B F X N T rfl rfl hk' ho hcd (by show dp < recursionLimit; omega) (BindsTo.of_eq hbind) hloc ?_ hco hgen hk hcell
  intro g L' h₁ FG F' N' B' X' T'
  rw [lookup_fm] at F'
  refine wpAny_mono (h mean mg mb (dp + 1) (un + 3) gd _ _ base g L' _ B' F' X' N' T' (by omega) (by omega)) (fun fl s' hr => ?_) fun _ _ e => e.elim
  obtain ⟨h2, tk, m', nw, rfl, F2, N2, hR⟩ := hr
  exact leaveK_ F2 N2 fun F3 N3 => hret _ _ _ _ hR F3 N3

/-- no entry stands at D -/
def Off (D : Addr) (nw : List (Addr × Obj)) : Prop := ∀ p ∈ nw, p.1 ≠ D
theorem Off.ne {D a : Addr} {o : Obj} {nw : List (Addr × Obj)} (h : Off D nw) (hm : (a, o) ∈ nw) : a ≠ D := h _ hm
theorem Off.sub {D : Addr} {nw nw' : List (Addr × Obj)} (h : Off D nw) (hs : ∀ p ∈ nw', p ∈ nw) : Off D nw' := fun p hp => h p (hs p hp)
theorem Off.cons {D a : Addr} {o : Obj} {nw : List (Addr × Obj)} (h : Off D nw) (hn : a ≠ D) : Off D ((a, o) :: nw) := fun p hp => by
  rcases List.mem_cons.mp hp with rfl | hp
  · exact hn
  · exact h p hp
theorem Off.tail {D : Addr} {p : Addr × Obj} {nw : List (Addr × Obj)} (h : Off D (p :: nw)) : Off D nw := fun q hq => h q (.tail _ hq)
theorem Off.head {D a : Addr} {o : Obj} {nw : List (Addr × Obj)} (h : Off D ((a, o) :: nw)) : a ≠ D := h _ (.head _)

section
variable {prog : Program} {w : World} {A : Around} {E : Value → Shared → Prop} {s : Shared} {env : Env} {h₀ : Heap} {x : Str} {body : List Stmt} {Q : Flow → Shared → Prop}

def TurnP (h₀ : Heap) (L : Addr) (Jn : (Str → Option Value) → List (Addr × Obj) → Prop) (I : Addr) (oI : Obj) (s₁ : Shared) (Q : Flow → Shared → Prop) (f : Flow) (s₂ : Shared) : Prop :=
  match f with
  | .ret v => Q (.ret v) s₂
  | .brk => Q .next s₂
  | _ => ∃ h' tk m' nw', s₂ = { s₁ with heap := h', toks := tk } ∧ Fr h₀ L h' m' ∧ News h₀ L h' ((I, oI) :: nw') ∧ Off I nw' ∧ Jn m' nw'

theorem turnP_next {L : Addr} {Jn : (Str → Option Value) → List (Addr × Obj) → Prop} {I : Addr} {oI : Obj} {s₁ : Shared} {h' : Heap} {tk : Nat} {m' : Str → Option Value} {nw' : List (Addr × Obj)}
    (F : Fr h₀ L h' m') (N : News h₀ L h' ((I, oI) :: nw')) (ho : Off I nw') (hj : Jn m' nw') : TurnP h₀ L Jn I oI s₁ Q .next { s₁ with heap := h', toks := tk } :=
  ⟨h', tk, m', nw', rfl, F, N, ho, hj⟩

theorem for_range {L r : Addr} (hL : env.locals = L) {a b : Int} {t u v : Tok} {n : Nat} {m₀ : Str → Option Value} {news : List (Addr × Obj)} (J : Nat → (Str → Option Value) → List (Addr × Obj) → Prop)
    (hh : A.handled = none) (hr : IsRange s.heap r a b 1 t u v) (hsmall : Builtin.Range.small a b 1 = true) (hn : Builtin.Range.rangeSize a b 1 = (n : Int)) (F : Fr h₀ L s.heap m₀) (N : News h₀ L s.heap news)
    (h0 : J 0 m₀ news)
    (turn : ∀ i t m₁ nw I oI h tk, i < n → J i m₁ nw → Off I nw → Fr h₀ L h (fun y => if y = x then some (.int (a + (i : Int)) t) else m₁ y) → News h₀ L h ((I, oI) :: nw) →
      wpAny (model prog w) A (execs body env) (TurnP h₀ L (J (i + 1)) I oI { s with heap := h, toks := tk } Q) E { s with heap := h, toks := tk })
    (done : ∀ m₁ nw h tk, J n m₁ nw → Fr h₀ L h m₁ → News h₀ L h nw → Q .next { s with heap := h, toks := tk }) :
    wpAny (model prog w) A (pyIter (.ref r)) (fun it s₂ => LoopAtV prog w A h₀ env x body Q E it s₂) E s := by
  subst hL
  refine wpAny_pyIter_range hr hsmall ?_
  have W : Walks prog w A s.heap.objs.size [s.heap.objs.size] [s.heap.objs.size] n (fun i v => ∃ t, v = .int (a + (i : Int)) t)
      (fun i h => IsRangeIter h s.heap.objs.size (a + (i : Nat) * 1) ((n : Int) - (i : Nat)) 1) := LCg.range_walks hh a n
  refine ⟨_, _, _, n, _, _, m₀, news, J, rfl, W, ?_, ?_, ?_, (by show IsRangeIter _ _ _ _ _; rw [hn]; simpa using Heap.get?_push_size _ rfl), F.push _, (fun p hp => ⟨Heap.get?_push_of_some _ (N p hp).1, (N p hp).2⟩), h0, ?_, ?_⟩
  · intro hm
    exact absurd F.ns.lt ((List.mem_singleton.mp hm) ▸ Nat.lt_irrefl _)
  · intro b hb
    rw [List.mem_singleton.mp hb]
    exact next_is_new F
  · intro p hp hI
    exact absurd (Heap.lt_size (N p hp).1) ((List.mem_singleton.mp hI) ▸ Nat.lt_irrefl _)
  · rintro i v m₁ nw s₁ own ⟨hh', tk', rfl⟩ hin ⟨t, rfl⟩ hJ hoff hown hget hall hst F₁ N₁
    obtain ⟨oI, hoI⟩ : ∃ o, hh'.get? s.heap.objs.size = some o := ⟨_, hst⟩
    have hio := hall s.heap.objs.size (List.mem_singleton.mpr rfl) (next_is_new F) _ hoI
    have off : ∀ p ∈ nw, p.1 ≠ s.heap.objs.size := fun p hp e => hoff p hp (List.mem_singleton.mpr e)
    refine wpAny_mono (turn i t m₁ nw s.heap.objs.size oI hh' tk' hin hJ off F₁ (fun p hp => ?_)) (fun f s₂ hp => ?_) fun _ _ e => e
    · rcases List.mem_cons.mp hp with rfl | hp
      · exact N₁ _ (List.mem_append_left _ hio)
      · exact N₁ _ (List.mem_append_right _ hp)
    · have fin : (∃ h' tk m' nw', s₂ = { s with heap := h', toks := tk } ∧ Fr h₀ env.locals h' m' ∧ News h₀ env.locals h' ((s.heap.objs.size, oI) :: nw') ∧ (∀ p ∈ nw', p.1 ≠ s.heap.objs.size) ∧ J (i + 1) m' nw') → LoopStepU h₀ env.locals [s.heap.objs.size] own (J (i + 1)) { s with heap := hh', toks := tk' } .next s₂ := by
        rintro ⟨h', tk, m', nw', e, F', N', off', hj⟩
        refine ⟨rfl, h', tk, m', nw', e, F', fun p hp => ?_, fun p hp hI => off' p hp (List.mem_singleton.mp hI), hj⟩
        rcases List.mem_append.mp hp with hp | hp
        · have e1 := hget p hp
          have e2 := List.mem_singleton.mp (hown p hp)
          have e3 : p = (s.heap.objs.size, oI) := Prod.ext e2 (by rw [e2] at e1; exact (Option.some.inj (hoI.symm.trans e1)).symm)
          rw [e3]
          exact N' _ (List.mem_cons_self)
        · exact N' _ (List.mem_cons_of_mem _ hp)
      cases f with
      | ret v => exact .ret hp
      | brk => exact .brk hp
      | next => exact .next (fin hp)
      | cont => exact .cont (fin hp)
  · rintro h' tk m' nw' F' N' _ hJ
    exact done m' nw' h' tk hJ F' N'

theorem for_list {L l : Addr} (hL : env.locals = L) {vs : List Value} {k : Nat} {m₀ : Str → Option Value} {news : List (Addr × Obj)} (J : Nat → (Str → Option Value) → List (Addr × Obj) → Prop)
    (hh : A.handled = none) (F : Fr h₀ L s.heap m₀) (N : News h₀ L s.heap news) (hm : (l, PySem.W.listOf vs.toArray k) ∈ news)
    (hJ : ∀ i m₁ nw, J i m₁ nw → (l, PySem.W.listOf vs.toArray k) ∈ nw) (h0 : J 0 m₀ news)
    (turn : ∀ i v m₁ nw I oI h tk, vs[i]? = some v → J i m₁ nw → Off I nw → Fr h₀ L h (fun y => if y = x then some v else m₁ y) → News h₀ L h ((I, oI) :: nw) →
      wpAny (model prog w) A (execs body env) (TurnP h₀ L (J (i + 1)) I oI { s with heap := h, toks := tk } Q) E { s with heap := h, toks := tk })
    (done : ∀ m₁ nw h tk, J vs.length m₁ nw → Fr h₀ L h m₁ → News h₀ L h nw → Q .next { s with heap := h, toks := tk }) :
    wpAny (model prog w) A (pyIter (.ref l)) (fun it s₂ => LoopAtV prog w A h₀ env x body Q E it s₂) E s := by
  subst hL
  have hls : s.heap.IsList l vs.toArray := ⟨_, (N _ hm).1, rfl, _, rfl⟩
  have hlt : l < s.heap.objs.size := Heap.lt_size (N _ hm).1
  have hne : l ≠ s.heap.objs.size := Nat.ne_of_lt hlt
  refine wpAny_pyIter_list hls ?_
  have W := Walks.list (prog := prog) (w := w) hh s.heap.objs.size l hne vs.toArray
  have hlen : vs.toArray.size = vs.length := by simp
  rw [hlen] at W
  refine ⟨_, _, _, vs.length, _, _, m₀, news, J, rfl, W, ?_, ?_, ?_, ⟨⟨_, Heap.get?_push_size _ rfl, rfl, rfl⟩, hls.at fun o e => Heap.get?_push_of_some _ e⟩, F.push _, (fun p hp => ⟨Heap.get?_push_of_some _ (N p hp).1, (N p hp).2⟩), h0, ?_, ?_⟩
  · intro h
    rcases List.mem_cons.mp h with e | h
    · exact absurd F.ns.lt (e ▸ Nat.lt_irrefl _)
    · exact (N _ hm).2.1 (List.mem_singleton.mp h).symm
  · intro b hb
    rw [List.mem_singleton.mp hb]
    exact next_is_new F
  · intro p hp hI
    exact absurd (Heap.lt_size (N p hp).1) ((List.mem_singleton.mp hI) ▸ Nat.lt_irrefl _)
  · rintro i v m₁ nw s₁ own ⟨hh', tk', rfl⟩ hin hP hJ' hoff hown hget hall hst F₁ N₁
    obtain ⟨oI, hoI, _⟩ := hst.1
    have hio := hall s.heap.objs.size (List.mem_cons_self) (next_is_new F) _ hoI
    have off : ∀ p ∈ nw, p.1 ≠ s.heap.objs.size := fun p hp e => hoff p hp (List.mem_singleton.mpr e)
    refine wpAny_mono (turn i v m₁ nw s.heap.objs.size oI hh' tk' (by simpa using hP) hJ' off F₁ (fun p hp => ?_)) (fun f s₂ hp => ?_) fun _ _ e => e
    · rcases List.mem_cons.mp hp with rfl | hp
      · exact N₁ _ (List.mem_append_left _ hio)
      · exact N₁ _ (List.mem_append_right _ hp)
    · have fin : (∃ h' tk m' nw', s₂ = { s with heap := h', toks := tk } ∧ Fr h₀ env.locals h' m' ∧ News h₀ env.locals h' ((s.heap.objs.size, oI) :: nw') ∧ (∀ p ∈ nw', p.1 ≠ s.heap.objs.size) ∧ J (i + 1) m' nw') → LoopStepU h₀ env.locals [s.heap.objs.size] own (J (i + 1)) { s with heap := hh', toks := tk' } .next s₂ := by
        rintro ⟨h', tk, m', nw', e, F', N', off', hj⟩
        refine ⟨rfl, h', tk, m', nw', e, F', fun p hp => ?_, fun p hp hI => off' p hp (List.mem_singleton.mp hI), hj⟩
        rcases List.mem_append.mp hp with hp | hp
        · have e1 := hget p hp
          rcases List.mem_cons.mp (hown p hp) with e2 | e2
          · have e3 : p = (s.heap.objs.size, oI) := Prod.ext e2 (by rw [e2] at e1; exact (Option.some.inj (hoI.symm.trans e1)).symm)
            rw [e3]
            exact N' _ (List.mem_cons_self)
          · have e2 := List.mem_singleton.mp e2
            have e4 := (N₁ _ (List.mem_append_right _ (hJ _ _ _ hJ'))).1
            have e3 : p = (l, PySem.W.listOf vs.toArray k) := Prod.ext e2 (by rw [e2] at e1; exact (Option.some.inj (e4.symm.trans e1)).symm)
            rw [e3]
            exact N' _ (List.mem_cons_of_mem _ (hJ _ _ _ hj))
        · exact N' _ (List.mem_cons_of_mem _ hp)
      cases f with
      | ret v => exact .ret hp
      | brk => exact .brk hp
      | next => exact .next (fin hp)
      | cont => exact .cont (fin hp)
  · rintro h' tk m' nw' F' N' _ hJ
    exact done m' nw' h' tk hJ F' N'

end

def Same (ns : List Str) (m m₀ : Str → Option Value) : Prop := ∀ y, y ∉ ns → m y = m₀ y
theorem Same.refl {ns : List Str} {m : Str → Option Value} : Same ns m m := fun _ _ => rfl
theorem Same.upd {ns : List Str} {m m₀ : Str → Option Value} {x : Str} {v : Option Value} (hx : x ∈ ns) (h : Same ns m m₀) : Same ns (fun y => if y = x then v else m y) m₀ := fun y hy => by
  have hne : y ≠ x := fun e => hy (e ▸ hx)
  show (if y = x then v else m y) = m₀ y
  rw [if_neg hne]; exact h y hy
theorem Same.open1 {a : Str} {m m₀ : Str → Option Value} (h : Same [a] m m₀) : m = fun y => if y = a then m a else m₀ y := by
  funext y
  (repeat' split) <;> first | exact congrArg m (by assumption) | exact h y (by simp [*])
theorem Same.open2 {a b : Str} {m m₀ : Str → Option Value} (h : Same [a, b] m m₀) : m = fun y => if y = a then m a else if y = b then m b else m₀ y := by
  funext y
  (repeat' split) <;> first | exact congrArg m (by assumption) | exact h y (by simp [*])
theorem Same.open3 {a b c : Str} {m m₀ : Str → Option Value} (h : Same [a, b, c] m m₀) : m = fun y => if y = a then m a else if y = b then m b else if y = c then m c else m₀ y := by
  funext y
  (repeat' split) <;> first | exact congrArg m (by assumption) | exact h y (by simp [*])
theorem Same.open4 {a b c d : Str} {m m₀ : Str → Option Value} (h : Same [a, b, c, d] m m₀) : m = fun y => if y = a then m a else if y = b then m b else if y = c then m c else if y = d then m d else m₀ y := by
  funext y
  (repeat' split) <;> first | exact congrArg m (by assumption) | exact h y (by simp [*])
theorem Same.open5 {a b c d e : Str} {m m₀ : Str → Option Value} (h : Same [a, b, c, d, e] m m₀) : m = fun y => if y = a then m a else if y = b then m b else if y = c then m c else if y = d then m d else if y = e then m e else m₀ y := by
  funext y
  (repeat' split) <;> first | exact congrArg m (by assumption) | exact h y (by simp [*])
/-- an existence whose parts open in one step -/
inductive X1 {α₁ : Type} (p : α₁ → Prop) : Prop
  | mk (a1 : α₁) (h : p a1) : X1 p
inductive X2 {α₁ α₂ : Type} (p : α₁ → α₂ → Prop) : Prop
  | mk (a1 : α₁) (a2 : α₂) (h : p a1 a2) : X2 p
inductive X3 {α₁ α₂ α₃ : Type} (p : α₁ → α₂ → α₃ → Prop) : Prop
  | mk (a1 : α₁) (a2 : α₂) (a3 : α₃) (h : p a1 a2 a3) : X3 p
inductive X4 {α₁ α₂ α₃ α₄ : Type} (p : α₁ → α₂ → α₃ → α₄ → Prop) : Prop
  | mk (a1 : α₁) (a2 : α₂) (a3 : α₃) (a4 : α₄) (h : p a1 a2 a3 a4) : X4 p
inductive X5 {α₁ α₂ α₃ α₄ α₅ : Type} (p : α₁ → α₂ → α₃ → α₄ → α₅ → Prop) : Prop
  | mk (a1 : α₁) (a2 : α₂) (a3 : α₃) (a4 : α₄) (a5 : α₅) (h : p a1 a2 a3 a4 a5) : X5 p
inductive X6 {α₁ α₂ α₃ α₄ α₅ α₆ : Type} (p : α₁ → α₂ → α₃ → α₄ → α₅ → α₆ → Prop) : Prop
  | mk (a1 : α₁) (a2 : α₂) (a3 : α₃) (a4 : α₄) (a5 : α₅) (a6 : α₆) (h : p a1 a2 a3 a4 a5 a6) : X6 p
inductive A2 (P1 P2 : Prop) : Prop
  | mk (h1 : P1) (h2 : P2) : A2 P1 P2
inductive A3 (P1 P2 P3 : Prop) : Prop
  | mk (h1 : P1) (h2 : P2) (h3 : P3) : A3 P1 P2 P3
inductive A4 (P1 P2 P3 P4 : Prop) : Prop
  | mk (h1 : P1) (h2 : P2) (h3 : P3) (h4 : P4) : A4 P1 P2 P3 P4
inductive A5 (P1 P2 P3 P4 P5 : Prop) : Prop
  | mk (h1 : P1) (h2 : P2) (h3 : P3) (h4 : P4) (h5 : P5) : A5 P1 P2 P3 P4 P5
inductive A6 (P1 P2 P3 P4 P5 P6 : Prop) : Prop
  | mk (h1 : P1) (h2 : P2) (h3 : P3) (h4 : P4) (h5 : P5) (h6 : P6) : A6 P1 P2 P3 P4 P5 P6
inductive A7 (P1 P2 P3 P4 P5 P6 P7 : Prop) : Prop
  | mk (h1 : P1) (h2 : P2) (h3 : P3) (h4 : P4) (h5 : P5) (h6 : P6) (h7 : P7) : A7 P1 P2 P3 P4 P5 P6 P7
inductive A8 (P1 P2 P3 P4 P5 P6 P7 P8 : Prop) : Prop
  | mk (h1 : P1) (h2 : P2) (h3 : P3) (h4 : P4) (h5 : P5) (h6 : P6) (h7 : P7) (h8 : P8) : A8 P1 P2 P3 P4 P5 P6 P7 P8
inductive A9 (P1 P2 P3 P4 P5 P6 P7 P8 P9 : Prop) : Prop
  | mk (h1 : P1) (h2 : P2) (h3 : P3) (h4 : P4) (h5 : P5) (h6 : P6) (h7 : P7) (h8 : P8) (h9 : P9) : A9 P1 P2 P3 P4 P5 P6 P7 P8 P9
inductive A10 (P1 P2 P3 P4 P5 P6 P7 P8 P9 P10 : Prop) : Prop
  | mk (h1 : P1) (h2 : P2) (h3 : P3) (h4 : P4) (h5 : P5) (h6 : P6) (h7 : P7) (h8 : P8) (h9 : P9) (h10 : P10) : A10 P1 P2 P3 P4 P5 P6 P7 P8 P9 P10
theorem ltA {n D k R : Nat} (h : n + D < R) (hk : Nat.ble k D = true) : n + k < R := Nat.lt_of_le_of_lt (Nat.add_le_add_left (Nat.le_of_ble_eq_true hk) _) h
def nset (D : Addr) (o : Obj) (nw : List (Addr × Obj)) : List (Addr × Obj) := nw.map fun p => if p.1 = D then (D, o) else p
theorem mem_nset_new {D : Addr} {o o' : Obj} {nw : List (Addr × Obj)} (h : (D, o) ∈ nw) : (D, o') ∈ nset D o' nw := List.mem_map.mpr ⟨_, h, by simp⟩
theorem mem_nset_old {D a : Addr} {o o' : Obj} {nw : List (Addr × Obj)} (h : (a, o) ∈ nw) (hn : a ≠ D) : (a, o) ∈ nset D o' nw := List.mem_map.mpr ⟨_, h, by simp [hn]⟩
theorem news_nset {h₀ h h' : Heap} {L D : Addr} {o o' : Obj} {nw : List (Addr × Obj)} (N : News h₀ L h nw) (hd : (D, o) ∈ nw) (hs : Heap.SameBut D h h') (ho : h'.get? D = some o') : News h₀ L h' (nset D o' nw) := by
  intro p hp
  obtain ⟨q, hq, rfl⟩ := List.mem_map.mp hp
  by_cases e : q.1 = D
  · simp only [e, if_true]
    exact ⟨ho, (N _ hd).2⟩
  · simp only [e, if_false]
    exact ⟨(hs.2 _ e).trans (N _ hq).1, (N _ hq).2⟩
theorem news_of {h₀ h : Heap} {L D : Addr} {o' : Obj} {nw l : List (Addr × Obj)} (N : News h₀ L h (nset D o' nw)) (hd : ∃ o, (D, o) ∈ nw) (hl : ∀ p ∈ l, p = (D, o') ∨ (p ∈ nw ∧ p.1 ≠ D)) : News h₀ L h l := by
  intro p hp
  rcases hl p hp with rfl | ⟨h1, h2⟩
  · obtain ⟨o, ho⟩ := hd
    exact N _ (mem_nset_new ho)
  · exact N _ (mem_nset_old (o := p.2) h1 h2)
theorem news_head {h₀ h : Heap} {L D : Addr} {o o' : Obj} {rest : List (Addr × Obj)} (N : News h₀ L h (nset D o' ((D, o) :: rest))) (off : ∀ p ∈ rest, p.1 ≠ D) : News h₀ L h ((D, o') :: rest) :=
  news_of N ⟨_, .head _⟩ fun p hp => (List.mem_cons.mp hp).imp id fun h => ⟨.tail _ h, off p h⟩
theorem news_second {h₀ h : Heap} {L D I : Addr} {o o' oI : Obj} {rest : List (Addr × Obj)} (N : News h₀ L h (nset D o' ((I, oI) :: (D, o) :: rest))) (off : ∀ p ∈ rest, p.1 ≠ D) (hI : I ≠ D) : News h₀ L h ((I, oI) :: (D, o') :: rest) :=
  news_of N ⟨_, .tail _ (.head _)⟩ fun p hp => by
    rcases List.mem_cons.mp hp with rfl | hp
    · exact .inr ⟨.head _, hI⟩
    · rcases List.mem_cons.mp hp with rfl | hp
      · exact .inl rfl
      · exact .inr ⟨.tail _ (.tail _ hp), off p hp⟩
theorem led_tail {D : Addr} {o' : Obj} {nw news : List (Addr × Obj)} (hO : Off D news) (hs : ∀ p ∈ news, p ∈ nw) : ∀ p ∈ news, p = (D, o') ∨ (p ∈ nw ∧ p.1 ≠ D) := fun p hp => .inr ⟨hs p hp, hO p hp⟩
theorem led_cons {D a : Addr} {o o' : Obj} {nw l : List (Addr × Obj)} (hm : (a, o) ∈ nw) (hn : a ≠ D) (h : ∀ p ∈ l, p = (D, o') ∨ (p ∈ nw ∧ p.1 ≠ D)) : ∀ p ∈ (a, o) :: l, p = (D, o') ∨ (p ∈ nw ∧ p.1 ≠ D) :=
  List.forall_mem_cons.mpr ⟨.inr ⟨hm, hn⟩, h⟩
theorem led_here {D : Addr} {o' : Obj} {nw l : List (Addr × Obj)} (h : ∀ p ∈ l, p = (D, o') ∨ (p ∈ nw ∧ p.1 ≠ D)) : ∀ p ∈ (D, o') :: l, p = (D, o') ∨ (p ∈ nw ∧ p.1 ≠ D) :=
  List.forall_mem_cons.mpr ⟨.inl rfl, h⟩
theorem led_nil {D : Addr} {o' : Obj} {nw : List (Addr × Obj)} : ∀ p ∈ ([] : List (Addr × Obj)), p = (D, o') ∨ (p ∈ nw ∧ p.1 ≠ D) := fun _ h => nomatch h
theorem news_sub {h₀ h : Heap} {L : Addr} {nw l : List (Addr × Obj)} (N : News h₀ L h nw) (hl : ∀ p ∈ l, p ∈ nw) : News h₀ L h l := fun p hp => N p (hl p hp)

section
variable {prog : Program} {w : World} {A : Around} {E : Value → Shared → Prop} {s : Shared} {h₀ : Heap} {L : Addr} {m : Str → Option Value} {nw : List (Addr × Obj)}

theorem nz_item {value slice : PySem.Expr} {l : Addr} {its : Array Value} {n : Nat} {k : Int} {u : Tok} {v : Value} {Q : Value → Shared → Prop} (N : News h₀ L s.heap nw) (hm : (l, PySem.W.listOf its n) ∈ nw) (h0 : 0 ≤ k) (hfit : k < 2 ^ 63) (hx : its.toList[k.toNat]? = some v) (h : Q v s)
    (hs : subscripted slice false (.ref l) (.int k u) = operate [.ref l, .int k u] (getItem (.ref l) (.int k u)) := by with_unfolding_all rfl) (hg : ∀ r, letTemporaryGo value (.ref l) r = pure () := by intro _; with_unfolding_all rfl) :
    wpAny (model prog w) A (subscriptTail value slice (.ref l) (.int k u)) Q E s := item_list ⟨_, (N _ hm).1, rfl, _, rfl⟩ h0 hfit (by rw [← Array.getElem?_toList]; exact hx) h hs hg
theorem nz_itemI {value slice : PySem.Expr} {l : Addr} {vs : List Value} {ns : List Int} {n : Nat} {k : Int} {u : Tok} {Q : Value → Shared → Prop} (N : News h₀ L s.heap nw) (hi : IntsAre vs ns) (hm : (l, PySem.W.listOf vs.toArray n) ∈ nw) (h0 : 0 ≤ k) (hfit : k < 2 ^ 63) (hk : k < ns.length) (h : ∀ x t, ns[k.toNat]? = some x → Q (.int x t) s)
    (hs : subscripted slice false (.ref l) (.int k u) = operate [.ref l, .int k u] (getItem (.ref l) (.int k u)) := by with_unfolding_all rfl) (hg : ∀ r, letTemporaryGo value (.ref l) r = pure () := by intro _; with_unfolding_all rfl) :
    wpAny (model prog w) A (subscriptTail value slice (.ref l) (.int k u)) Q E s := by
  have hx : ns[k.toNat]? = some (ns[k.toNat]'(by omega)) := by simp
  obtain ⟨t, ht⟩ := hi.get k.toNat _ hx
  exact nz_item N hm h0 hfit (by simpa using ht) (h _ t hx) hs hg
theorem nz_itemT {value slice : PySem.Expr} {l : Addr} {vs : List Value} {xs : List Str} {n : Nat} {k : Int} {u : Tok} {Q : Value → Shared → Prop} (N : News h₀ L s.heap nw) (hi : Txts vs xs) {bb : Nat} (hz : ∀ x ∈ xs, x.length ≤ bb) (hm : (l, PySem.W.listOf vs.toArray n) ∈ nw) (h0 : 0 ≤ k) (hfit : k < 2 ^ 63) (hk : k < xs.length) (h : ∀ x t, xs[k.toNat]? = some x → x.length ≤ bb → Q (.str x t) s)
    (hs : subscripted slice false (.ref l) (.int k u) = operate [.ref l, .int k u] (getItem (.ref l) (.int k u)) := by with_unfolding_all rfl) (hg : ∀ r, letTemporaryGo value (.ref l) r = pure () := by intro _; with_unfolding_all rfl) :
    wpAny (model prog w) A (subscriptTail value slice (.ref l) (.int k u)) Q E s := by
  have hl := hi.length
  have hx : vs[k.toNat]? = some (vs[k.toNat]'(by omega)) := by simp
  obtain ⟨x, t, e, ht⟩ := hi.item k.toNat _ hx
  exact nz_item N hm h0 hfit (by rw [e] at hx; simpa using hx) (h _ t ht (hz _ (List.mem_of_getElem? ht))) hs hg
theorem nz_getItem {l : Addr} {its : Array Value} {n : Nat} {k : Int} {u : Tok} {v : Value} {Q : Value → Shared → Prop} (N : News h₀ L s.heap nw) (hm : (l, PySem.W.listOf its n) ∈ nw) (h0 : 0 ≤ k) (hfit : k < 2 ^ 63) (hx : its.toList[k.toNat]? = some v) (h : Q v s) :
    wpAny (model prog w) A (getItem (.ref l) (.int k u)) Q E s := wpAny_getItem_list ⟨_, (N _ hm).1, rfl, _, rfl⟩ h0 hfit (by rw [← Array.getElem?_toList]; exact hx) h
theorem nz_set {D : Addr} {its : Array Value} {n : Nat} {k : Int} {u : Tok} {v : Value} {Q : Unit → Shared → Prop} (F : Fr h₀ L s.heap m) (N : News h₀ L s.heap nw) (hm : (D, PySem.W.listOf its n) ∈ nw) (h0 : 0 ≤ k) (hfit : k < 2 ^ 63) (hn : k < its.size)
    (h : ∀ h', Fr h₀ L h' m → News h₀ L h' (nset D (PySem.W.listOf (its.setIfInBounds k.toNat v) n) nw) → Q () { s with heap := h' }) :
    wpAny (model prog w) A (setItem (.ref D) (.int k u) v) Q E s := by
  have z := N _ hm
  refine ki_setAt z.1 h0 hfit hn (h _ (F.change (Heap.SameBut.update ..) z.2.1 z.2.2) (news_nset N hm (Heap.SameBut.update ..) ?_))
  have q := PySem.IsL.update z.1 (fun a : Array Value => a.setIfInBounds k.toNat v)
  simp only [Array.size_setIfInBounds, beq_self_eq_true, if_true] at q
  exact q
theorem nz_append {D : Addr} {its : Array Value} {n : Nat} {v : Value} {Q : Value → Shared → Prop} (F : Fr h₀ L s.heap m) (N : News h₀ L s.heap nw) (hm : (D, PySem.W.listOf its n) ∈ nw) (hsz : its.size ≤ sizeLine)
    (h : ∀ h', Fr h₀ L h' m → News h₀ L h' (nset D (PySem.W.listOf (its.push v) (n + 1)) nw) → Q .none { s with heap := h' }) : wpAny (model prog w) A (call (.builtin "list.append") [.ref D, v]) Q E s := by
  have z := N _ hm
  exact append_at (hsz := hsz) z.1 fun h' hs ho' => h h' (F.change hs z.2.1 z.2.2) (news_nset N hm hs ho')
theorem nz_len {l : Addr} {its : Array Value} {n : Nat} {Q : Value → Shared → Prop} (N : News h₀ L s.heap nw) (hm : (l, PySem.W.listOf its n) ∈ nw) (hfit : (its.size : Int) < 2 ^ 63) (h : ∀ t k, Q (.int its.size t) { s with toks := k }) :
    wpAny (model prog w) A (call (.builtin "len") [.ref l]) Q E s := len_list ⟨_, (N _ hm).1, rfl, _, rfl⟩ hfit (h _ _)
theorem nz_newList {vs : List Value} {Q : Value → Shared → Prop} (F : Fr h₀ L s.heap m) (N : News h₀ L s.heap nw) (hsz : vs.length ≤ sizeLine)
    (h : ∀ l h', Fr h₀ L h' m → News h₀ L h' ((l, PySem.W.listOf vs.toArray 0) :: nw) → Off l nw → Q (.ref l) { s with heap := h' }) : wpAny (model prog w) A (newList vs) Q E s :=
  newList_K F N (fun l h' F' N' hl => h l h' F' N' fun p hp => Nat.ne_of_lt (hl p hp)) hsz
theorem nz_add {x y : Str} {t u : Tok} {Q : Value → Shared → Prop} (hsz : x.length + y.length ≤ 16777216) (h : ∀ t' k, Q (.str (x ++ y) t') { s with toks := k }) : wpAny (model prog w) A (binaryOp .Add (.str x t) (.str y u)) Q E s :=
  add_str (fun t' k => h t' k) (by rw [sizeLine_eq]; exact hsz)
end

abbrev poolO (n : Nat) (Fa : Addr) (i mix : Int) (t1 t2 : Tok) : Obj := PySem.W.listOf [.ref Fa, .int i t1, .int mix t2].toArray n
/-- the pool's object, its figures at Fa -/
def PoolOk (Fa : Addr) (o : Obj) : Prop := ∃ n i mix t1 t2, o = poolO n Fa i mix t1 t2 ∧ 0 ≤ i ∧ i < 2 ^ 20 ∧ 0 ≤ mix ∧ mix < 1009
/-- the figures' object -/
def FigsOk (o : Obj) : Prop := ∃ (fv : List Value) (figs : List Int) (n : Nat), o = PySem.W.listOf fv.toArray n ∧ IntsAre fv figs ∧ figs.length < 2 ^ 20
def sp (n : Nat) : Str := ⟨Array.replicate n 32⟩
theorem sp_length (n : Nat) : (sp n).length = n := by simp [sp, Str.length]
theorem sp_zero : sp 0 = Str.empty := rfl
theorem sp_one : Str.ofString " " = sp 1 := by decide +kernel
theorem strExt {x y : Str} (h : x.cps.toList = y.cps.toList) : x = y := PySem.Str.ext' (Array.toList_inj.mp h)
theorem sp_add (a b : Nat) : sp a ++ sp b = sp (a + b) := by
  apply strExt
  rw [PySem.Str.cps_append]
  simp [sp]
theorem mul_sp (k : Int) : Txt.mul (Str.ofString " ") k = sp k.toNat := by
  apply strExt
  rw [show Str.ofString " " = ⟨#[32]⟩ from by decide +kernel, mul_one_list]
  simp [sp]
theorem empty_append' (x : Str) : Str.empty ++ x = x := PySem.Str.empty_append x
theorem append_empty' (x : Str) : x ++ Str.empty = x := by
  apply strExt
  rw [PySem.Str.cps_append]
  simp [Str.empty]
theorem append_assoc' (x y z : Str) : x ++ y ++ z = x ++ (y ++ z) := by
  apply strExt
  simp [PySem.Str.cps_append]
theorem padded_eq (x : Str) (a b : Nat) : Builtin.Str.padded x a b 32 = sp a ++ (x ++ sp b) := by
  apply strExt
  simp [PySem.Str.cps_append, sp, Builtin.Str.padded]
/-- a text filled up to k -/
def fillT (x : Str) (k : Nat) (left : Bool) : Str := if left then x ++ sp (k - x.length) else sp (k - x.length) ++ x
theorem ljust_eq (x : Str) (k : Nat) : Txt.ljust x k = x ++ sp (k - x.length) := by
  unfold Txt.ljust
  split
  · rw [show k - x.length = 0 by omega, sp_zero, append_empty']
  · rw [padded_eq, sp_zero, empty_append']
    simp
theorem rjust_eq (x : Str) (k : Nat) : Txt.rjust x k = sp (k - x.length) ++ x := by
  unfold Txt.rjust
  split
  · rw [show k - x.length = 0 by omega, sp_zero, empty_append']
  · rw [padded_eq, sp_zero, append_empty']
    simp
theorem fillT_length (x : Str) (k : Nat) (b : Bool) : (fillT x k b).length = max k x.length := by
  unfold fillT
  cases b <;> simp only [Bool.false_eq_true, if_true, if_false, PySem.Str.length_append, sp_length] <;> omega
theorem nz_len_lits : (Str.ofString " ").length = 1 ∧ (Str.ofString "[").length = 1 ∧ (Str.ofString ",]").length = 2 ∧ (Str.ofString "[,").length = 2 ∧ (Str.ofString "]").length = 1 ∧ (Str.ofString "").length = 0 := by decide +kernel
theorem nz_len_empty : Str.empty.length = 0 := rfl
theorem Spec.use {w : World} {f : Addr} {D U : Nat} {vs : List Value} {news : List (Addr × Obj)} {R : Value → List (Addr × Obj) → Prop} (S : Spec w f D U vs news R)
    {mean : ExcName → Option Value} {mg mb : Str → Option Value} {dp un : Nat} {gd : Option (List Code)} {cn : Str} {cs : Scope} {a : Addr} {ccd : Value} {cl : List (Str × Addr)} {outer : List Env} {A₀ : Around} {base h₀ : Heap} {L : Addr} {m : Str → Option Value} {s : Shared} {Q E : Value → Shared → Prop}
    (B : Below A₀ base outer h₀) (F : Fr h₀ L s.heap m) (X : (hd.heap_39 w.params).In h₀) (N : News h₀ L s.heap news) (T : Top hd.view_39 (looseW hd.view_39 []) mean mg mb h₀) (hk : cs.kind = .function) (hd : dp + D < recursionLimit) (hu : un + U < cLine)
    (ret : ∀ v nw h' tk', R v nw → Fr h₀ L h' m → News h₀ L h' nw → Q v { s with heap := h', toks := tk' }) :
    wpAny (model PySem.Challenge.rw_nz0464_01.row.prog w) (ktrTop dp un gd cn cs L a ccd cl outer) (call (.ref f) vs) Q E s :=
  S _ _ _ _ _ _ _ _ _ _ _ _ _ _ _ _ _ _ _ _ B F X N T hk hd hu ret

theorem Spec.useI {w : World} {f : Addr} {D U : Nat} {vs : List Value} {news : List (Addr × Obj)} {k : Int} (S : Spec w f D U vs news (fun v nw => nw = news ∧ ∃ t, v = .int k t))
    {mean : ExcName → Option Value} {mg mb : Str → Option Value} {dp un : Nat} {gd : Option (List Code)} {cn : Str} {cs : Scope} {a : Addr} {ccd : Value} {cl : List (Str × Addr)} {outer : List Env} {A₀ : Around} {base h₀ : Heap} {L : Addr} {m : Str → Option Value} {s : Shared} {Q E : Value → Shared → Prop}
    (B : Below A₀ base outer h₀) (F : Fr h₀ L s.heap m) (X : (hd.heap_39 w.params).In h₀) (N : News h₀ L s.heap news) (T : Top hd.view_39 (looseW hd.view_39 []) mean mg mb h₀) (hk : cs.kind = .function) (hd : dp + D < recursionLimit) (hu : un + U < cLine)
    (ret : ∀ t h' tk', Fr h₀ L h' m → News h₀ L h' news → Q (.int k t) { s with heap := h', toks := tk' }) :
    wpAny (model PySem.Challenge.rw_nz0464_01.row.prog w) (ktrTop dp un gd cn cs L a ccd cl outer) (call (.ref f) vs) Q E s :=
  S.use B F X N T hk hd hu fun v nw h' tk' hR F' N' => by
    obtain ⟨rfl, t, rfl⟩ := hR
    exact ret t h' tk' F' N'
theorem Spec.useS {w : World} {f : Addr} {D U : Nat} {vs : List Value} {news : List (Addr × Obj)} {k : Str} (S : Spec w f D U vs news (fun v nw => nw = news ∧ ∃ t, v = .str k t))
    {mean : ExcName → Option Value} {mg mb : Str → Option Value} {dp un : Nat} {gd : Option (List Code)} {cn : Str} {cs : Scope} {a : Addr} {ccd : Value} {cl : List (Str × Addr)} {outer : List Env} {A₀ : Around} {base h₀ : Heap} {L : Addr} {m : Str → Option Value} {s : Shared} {Q E : Value → Shared → Prop}
    (B : Below A₀ base outer h₀) (F : Fr h₀ L s.heap m) (X : (hd.heap_39 w.params).In h₀) (N : News h₀ L s.heap news) (T : Top hd.view_39 (looseW hd.view_39 []) mean mg mb h₀) (hk : cs.kind = .function) (hd : dp + D < recursionLimit) (hu : un + U < cLine)
    (ret : ∀ t h' tk', Fr h₀ L h' m → News h₀ L h' news → Q (.str k t) { s with heap := h', toks := tk' }) :
    wpAny (model PySem.Challenge.rw_nz0464_01.row.prog w) (ktrTop dp un gd cn cs L a ccd cl outer) (call (.ref f) vs) Q E s :=
  S.use B F X N T hk hd hu fun v nw h' tk' hR F' N' => by
    obtain ⟨rfl, t, rfl⟩ := hR
    exact ret t h' tk' F' N'

theorem list_use {w : World} {f : Addr} {D U : Nat} {vs0 : List Value} {news0 : List (Addr × Obj)} {zs : List Str} {news : List (Addr × Obj)} (S : Spec w f D U vs0 news0 (fun v nw => X3 fun D ys n => A4 (v = .ref D) (nw = (D, PySem.W.listOf (List.toArray ys) n) :: news) (Off D news) (Txts ys zs)))
    {mean : ExcName → Option Value} {mg mb : Str → Option Value} {dp un : Nat} {gd : Option (List Code)} {cn : Str} {cs : Scope} {a : Addr} {ccd : Value} {cl : List (Str × Addr)} {outer : List Env} {A₀ : Around} {base h₀ : Heap} {L : Addr} {m : Str → Option Value} {s : Shared} {Q E : Value → Shared → Prop}
    (B : Below A₀ base outer h₀) (F : Fr h₀ L s.heap m) (X : (hd.heap_39 w.params).In h₀) (N : News h₀ L s.heap news0) (T : Top hd.view_39 (looseW hd.view_39 []) mean mg mb h₀) (hk : cs.kind = .function) (hd : dp + D < recursionLimit) (hu : un + U < cLine)
    (ret : ∀ D ys n h' tk', Off D news → Txts ys zs → Fr h₀ L h' m → News h₀ L h' ((D, PySem.W.listOf (List.toArray ys) n) :: news) → Q (.ref D) { s with heap := h', toks := tk' }) :
    wpAny (model PySem.Challenge.rw_nz0464_01.row.prog w) (ktrTop dp un gd cn cs L a ccd cl outer) (call (.ref f) vs0) Q E s :=
  S.use B F X N T hk hd hu fun v nw h' tk' hR F' N' => by
    obtain ⟨D, ys, n, rfl, rfl, h1, h2⟩ := hR
    exact ret D ys n h' tk' h1 h2 F' N'
def wid (xs : List Str) : Nat := xs.foldl (fun a x => max a x.length) 0
theorem wid_succ {xs : List Str} {i : Nat} {x : Str} (h : xs[i]? = some x) : wid (xs.take (i + 1)) = max (wid (xs.take i)) x.length := by
  unfold wid
  rw [List.take_add_one, h]
  simp

structure Lay where
  rows : Nat
  cols : List (List Str)
  rnames : Option (List Str)
  cnames : Option (List Str)
  rtitle : Option Str
  ctitle : Option Str
  left : Bool

def OptL (news : List (Addr × Obj)) (o : Option (List Str)) (v : Value) : Prop :=
  match o with
  | none => v = .none
  | some xs => ∃ a vs n, v = .ref a ∧ (a, PySem.W.listOf (List.toArray vs) n) ∈ news ∧ Txts vs xs
def OptS (o : Option Str) (v : Value) : Prop :=
  match o with
  | none => v = .none
  | some x => ∃ t, v = .str x t
inductive ColsIn (news : List (Addr × Obj)) : List Value → List (List Str) → Prop
  | nil : ColsIn news [] []
  | cons {a : Addr} {us : List Value} {n : Nat} {xs : List Str} {vs : List Value} {xss : List (List Str)} (hm : (a, PySem.W.listOf us.toArray n) ∈ news) (hx : Txts us xs) (h : ColsIn news vs xss) : ColsIn news (.ref a :: vs) (xs :: xss)
theorem ColsIn.length {news : List (Addr × Obj)} {vs : List Value} {xss : List (List Str)} (h : ColsIn news vs xss) : vs.length = xss.length := by
  induction h with
  | nil => rfl
  | cons _ _ _ ih => simp [ih]
theorem ColsIn.item {news : List (Addr × Obj)} {vs : List Value} {xss : List (List Str)} (h : ColsIn news vs xss) : ∀ (i : Nat) (xs : List Str), xss[i]? = some xs → ∃ a us n, vs[i]? = some (.ref a) ∧ (a, PySem.W.listOf (List.toArray us) n) ∈ news ∧ Txts us xs := by
  induction h with
  | nil => intro i v hv; simp at hv
  | cons hm hx _ ih =>
    intro i v hv
    cases i with
    | zero => simp at hv; exact ⟨_, _, _, rfl, hm, hv ▸ hx⟩
    | succ i => simpa using ih i v (by simpa using hv)
theorem ColsIn.mono {news news' : List (Addr × Obj)} {vs : List Value} {xss : List (List Str)} (h : ColsIn news vs xss) (hs : ∀ p ∈ news, p ∈ news') : ColsIn news' vs xss := by
  induction h with
  | nil => exact .nil
  | cons hm hx _ ih => exact .cons (hs _ hm) hx ih
theorem OptL.mono {news news' : List (Addr × Obj)} {o : Option (List Str)} {v : Value} (h : OptL news o v) (hs : ∀ p ∈ news, p ∈ news') : OptL news' o v := by
  cases o with
  | none => exact h
  | some xs => obtain ⟨a, vs, n, e, hm, hx⟩ := h; exact ⟨a, vs, n, e, hs _ hm, hx⟩

/-- the entries of the layout's dict -/
abbrev layE (H : Nat → Int) (kt : Nat → Tok) (v0 v1 v2 v3 v4 v5 v6 : Value) : List DictEntry :=
  [⟨H 0, .str (Str.ofString "rows") (kt 0), v0⟩, ⟨H 1, .str (Str.ofString "columns") (kt 1), v1⟩, ⟨H 2, .str (Str.ofString "row_names") (kt 2), v2⟩, ⟨H 3, .str (Str.ofString "column_names") (kt 3), v3⟩,
   ⟨H 4, .str (Str.ofString "row_title") (kt 4), v4⟩, ⟨H 5, .str (Str.ofString "column_title") (kt 5), v5⟩, ⟨H 6, .str (Str.ofString "to_left") (kt 6), v6⟩]

def LayIn (news : List (Addr × Obj)) (x : Addr) (d : Lay) : Prop :=
  ∃ dx H kt n cA cvs cn v2 v3 v4 v5 t0, (x, instObj 38 dx) ∈ news ∧ (dx, dictOf (layE H kt (.int d.rows t0) (.ref cA) v2 v3 v4 v5 (.bool d.left)) n) ∈ news ∧
    (cA, PySem.W.listOf (List.toArray cvs) cn) ∈ news ∧ ColsIn news cvs d.cols ∧ OptL news d.rnames v2 ∧ OptL news d.cnames v3 ∧ OptS d.rtitle v4 ∧ OptS d.ctitle v5
theorem LayIn.mono {news news' : List (Addr × Obj)} {x : Addr} {d : Lay} (h : LayIn news x d) (hs : ∀ p ∈ news, p ∈ news') : LayIn news' x d := by
  obtain ⟨dx, H, kt, n, cA, cvs, cn, v2, v3, v4, v5, t0, h1, h2, h3, h4, h5, h6, h7, h8⟩ := h
  exact ⟨dx, H, kt, n, cA, cvs, cn, v2, v3, v4, v5, t0, hs _ h1, hs _ h2, hs _ h3, h4.mono hs, h5.mono hs, h6.mono hs, h7, h8⟩

/-- bounds on a layout's texts -/
structure LayOk (d : Lay) : Prop where
  rows : d.rows ≤ 6
  cols : d.cols.length ≤ 7
  col : ∀ c ∈ d.cols, c.length = d.rows ∧ ∀ x ∈ c, x.length ≤ 10
  rn : ∀ xs, d.rnames = some xs → xs.length = d.rows ∧ ∀ x ∈ xs, x.length ≤ 10
  cn : ∀ xs, d.cnames = some xs → xs.length = d.cols.length ∧ ∀ x ∈ xs, x.length ≤ 10
  rt : ∀ x, d.rtitle = some x → x.length ≤ 10
  ct : ∀ x, d.ctitle = some x → x.length ≤ 10

/-- an int's text -/
abbrev num (k : Int) : Str := Str.ofString (toString k)
def room (d : Lay) : Nat := match d.rnames with | some xs => wid xs | none => (num ((d.rows : Int) + 1)).length + 3
def offs (d : Lay) : Nat := match d.rtitle with | none => 0 | some t => max (t.length - room d) 2
theorem wid_le {xs : List Str} {k : Nat} (h : ∀ x ∈ xs, x.length ≤ k) : wid xs ≤ k := by
  unfold wid
  have : ∀ (xs : List Str) (a : Nat), a ≤ k → (∀ x ∈ xs, x.length ≤ k) → xs.foldl (fun a x => max a x.length) a ≤ k := by
    intro xs
    induction xs with
    | nil => intro a h _; exact h
    | cons x r ih => intro a h1 h2; exact ih _ (Nat.max_le.mpr ⟨h1, h2 x (.head _)⟩) fun y hy => h2 y (.tail _ hy)
  exact this xs 0 (Nat.zero_le _) h
theorem num_len_small : ∀ k : Nat, k ≤ 7 → (num ((k : Int) + 1)).length = 1 := by
  have h : ∀ k : Nat, k < 8 → (num ((k : Int) + 1)).length = 1 := by decide +kernel
  intro k hk
  exact h k (Nat.lt_succ_of_le hk)
theorem room_le {d : Lay} (h : LayOk d) : room d ≤ 10 := by
  unfold room
  have h6 := h.rows
  cases e : d.rnames with
  | none => dsimp only; rw [num_len_small _ (by omega)]; decide
  | some xs => exact wid_le (h.rn xs e).2
theorem offs_le {d : Lay} (h : LayOk d) : offs d ≤ 10 := by
  unfold offs
  cases e : d.rtitle with
  | none => exact Nat.zero_le _
  | some x => have := h.rt x e; dsimp only; omega
theorem str_ex {x y : Str} {t : Tok} (h : x = y) : ∃ t', Value.str x t = Value.str y t' := ⟨t, h ▸ rfl⟩
theorem int_ex {x y : Int} {t : Tok} (h : x = y) : ∃ t', Value.int x t = Value.int y t' := ⟨t, h ▸ rfl⟩
/-- the value list holds these numbers -/
inductive Nums : List Value → List Nat → Prop
  | nil : Nums [] []
  | cons (x : Nat) (t : Tok) {vs : List Value} {xs : List Nat} (h : Nums vs xs) : Nums (.int x t :: vs) (x :: xs)
theorem Nums.length {vs : List Value} {xs : List Nat} (h : Nums vs xs) : vs.length = xs.length := by
  induction h with
  | nil => rfl
  | cons x t _ ih => simp [ih]
theorem Nums.item {vs : List Value} {xs : List Nat} (h : Nums vs xs) : ∀ (i : Nat) (x : Nat), xs[i]? = some x → ∃ t, vs[i]? = some (.int x t) := by
  induction h with
  | nil => intro i v hv; simp at hv
  | cons x t _ ih =>
    intro i v hv
    cases i with
    | zero => simp at hv; exact ⟨t, by simp [hv]⟩
    | succ i => simpa using ih i v (by simpa using hv)
theorem Nums.snoc {vs : List Value} {xs : List Nat} (h : Nums vs xs) (x : Nat) (t : Tok) : Nums (vs ++ [.int x t]) (xs ++ [x]) := by
  induction h with
  | nil => exact .cons x t .nil
  | cons y u _ ih => exact .cons y u ih
theorem Txts.get {vs : List Value} {xs : List Str} (h : Txts vs xs) : ∀ (i : Nat) (x : Str), xs[i]? = some x → ∃ t, vs[i]? = some (.str x t) := by
  induction h with
  | nil => intro i v hv; simp at hv
  | cons x t _ ih =>
    intro i v hv
    cases i with
    | zero => simp at hv; exact ⟨t, by simp [hv]⟩
    | succ i => simpa using ih i v (by simpa using hv)
theorem push_list (vs : List Value) (v : Value) : (List.toArray vs).push v = List.toArray (vs ++ [v]) := by simp
def catT (xs : List Str) : Str := xs.foldr (· ++ ·) Str.empty
theorem catT_nil : catT [] = Str.empty := rfl
theorem catT_cons (x : Str) (xs : List Str) : catT (x :: xs) = x ++ catT xs := rfl
theorem join_catT (xs : List Str) : Txt.join (Str.ofString "") xs = catT xs := by
  have e : Str.ofString "" = Str.empty := by decide +kernel
  rw [e]
  have key : ∀ (l : List Str) (a : Array Nat), (l.foldl (fun acc p => acc ++ Str.empty.cps ++ p.cps) a) = a ++ (catT l).cps := by
    intro l
    induction l with
    | nil => intro a; simp [catT, Str.empty]
    | cons x r ih =>
      intro a
      rw [List.foldl_cons, ih, catT_cons, PySem.Str.cps_append]
      simp [Str.empty]
  apply PySem.Str.ext'
  show (xs.drop 1).foldl (fun acc p => acc ++ Str.empty.cps ++ p.cps) (xs.headD Str.empty).cps = _
  cases xs with
  | nil => simp [catT]
  | cons x r => simp only [List.drop_succ_cons, List.drop_zero, List.headD_cons]; rw [key, catT_cons, PySem.Str.cps_append]
theorem catT_length {xs : List Str} {k : Nat} (h : ∀ x ∈ xs, x.length ≤ k) : (catT xs).length ≤ xs.length * k := by
  induction xs with
  | nil => simp [catT, nz_len_empty]
  | cons x r ih =>
    rw [catT_cons, PySem.Str.length_append, List.length_cons, Nat.succ_mul]
    have h1 := h x (.head _)
    have h2 := ih fun y hy => h y (.tail _ hy)
    omega
theorem sum_len {xs : List Str} {k : Nat} (h : ∀ x ∈ xs, x.length ≤ k) : (xs.map (·.length)).sum ≤ xs.length * k := by
  induction xs with
  | nil => simp
  | cons x r ih =>
    rw [List.map_cons, List.sum_cons, List.length_cons, Nat.succ_mul]
    have h1 := h x (.head _)
    have h2 := ih fun y hy => h y (.tail _ hy)
    omega
def MidP (h₀ : Heap) (L : Addr) (s : Shared) (P : (Str → Option Value) → List (Addr × Obj) → Prop) (fl : Flow) (s' : Shared) : Prop :=
  fl = .next ∧ ∃ h tk m nw, s' = { s with heap := h, toks := tk } ∧ Fr h₀ L h m ∧ News h₀ L h nw ∧ P m nw
theorem Same.open0 {m m₀ : Str → Option Value} (h : Same [] m m₀) : m = m₀ := funext fun y => h y (by simp)
section
variable {prog : Program} {w : World} {A : Around} {E : Value → Shared → Prop} {s : Shared} {env : Env} {h₀ : Heap} {L : Addr} {m : Str → Option Value} {nw : List (Addr × Obj)}
theorem midP {P : (Str → Option Value) → List (Addr × Obj) → Prop} {h : Heap} {tk : Nat} (F : Fr h₀ L h m) (N : News h₀ L h nw) (hP : P m nw) : MidP h₀ L s P .next { s with heap := h, toks := tk } := ⟨rfl, h, tk, m, nw, rfl, F, N, hP⟩
theorem exec_mid {M : Model} {st : Stmt} {Q : Flow → Shared → Prop} {m₀ : Str → Option Value} (stored : List Str) (P : (Str → Option Value) → List (Addr × Obj) → Prop) (hF0 : Fr h₀ L s.heap m₀)
    (h : wpAny M A (exec st env) (MidP h₀ L s (fun m nw => Same stored m m₀ ∧ P m nw)) E s)
    (k : ∀ h tk m nw, Fr h₀ L h m → News h₀ L h nw → Same stored m m₀ → P m nw → Q .next { s with heap := h, toks := tk }) : wpAny M A (exec st env) Q E s := by
  refine wpAny_mono h (fun fl s' hm => ?_) fun _ _ e => e
  obtain ⟨rfl, h, tk, m, nw, rfl, F, N, hs, hP⟩ := hm
  exact k h tk m nw F N hs hP
/-- an expression's midway post -/
theorem eval_mid {M : Model} {e : PySem.Expr} {Q : Value → Shared → Prop} {m₀ : Str → Option Value} (P : Value → List (Addr × Obj) → Prop) (hF0 : Fr h₀ L s.heap m₀)
    (h : wpAny M A (eval e env) (fun v s' => ∃ h tk nw, s' = { s with heap := h, toks := tk } ∧ Fr h₀ L h m₀ ∧ News h₀ L h nw ∧ P v nw) E s)
    (k : ∀ v h tk nw, Fr h₀ L h m₀ → News h₀ L h nw → P v nw → Q v { s with heap := h, toks := tk }) : wpAny M A (eval e env) Q E s := by
  refine wpAny_mono h (fun v s' hm => ?_) fun _ _ e => e
  obtain ⟨h, tk, nw, rfl, F, N, hP⟩ := hm
  exact k v h tk nw F N hP

theorem for_rangeN {x : Str} {body : List Stmt} {Q : Flow → Shared → Prop} {r : Addr} (hL : env.locals = L) {a b : Nat} {a' b' : Int} {t u v : Tok} {m₀ : Str → Option Value} {news : List (Addr × Obj)} (J : Nat → (Str → Option Value) → List (Addr × Obj) → Prop)
    (hh : A.handled = none) (hr : IsRange s.heap r a' b' 1 t u v) (ha' : a' = a) (hb' : b' = b) (ha : a < 2 ^ 40) (hb : b < 2 ^ 40) (F : Fr h₀ L s.heap m₀) (N : News h₀ L s.heap news)
    (h0 : J 0 m₀ news)
    (turn : ∀ i t m₁ nw I oI h tk, i < b - a → J i m₁ nw → Off I nw → Fr h₀ L h (fun y => if y = x then some (.int ((a + i : Nat) : Int) t) else m₁ y) → News h₀ L h ((I, oI) :: nw) →
      wpAny (model prog w) A (execs body env) (TurnP h₀ L (J (i + 1)) I oI { s with heap := h, toks := tk } Q) E { s with heap := h, toks := tk })
    (done : ∀ m₁ nw h tk, J (b - a) m₁ nw → Fr h₀ L h m₁ → News h₀ L h nw → Q .next { s with heap := h, toks := tk }) :
    wpAny (model prog w) A (pyIter (.ref r)) (fun it s₂ => LoopAtV prog w A h₀ env x body Q E it s₂) E s := by
  subst ha' hb'
  refine for_range hL J hh hr (small_one (by omega) (by omega) (by omega) (by omega)) (n := b - a) ?_ F N h0 (fun i t m₁ nw I oI h tk hi hJ hI F N => ?_) done
  · rw [rangeSize_one]; split <;> omega
  · have := turn i t m₁ nw I oI h tk hi hJ hI (by rw [show ((a + i : Nat) : Int) = (a : Int) + (i : Int) by omega]; exact F) N
    exact this

theorem for_range0 {x : Str} {body : List Stmt} {Q : Flow → Shared → Prop} {r : Addr} (hL : env.locals = L) {b : Nat} {b' : Int} {t u v : Tok} {m₀ : Str → Option Value} {news : List (Addr × Obj)} (J : Nat → (Str → Option Value) → List (Addr × Obj) → Prop)
    (hh : A.handled = none) (hr : IsRange s.heap r 0 b' 1 t u v) (hb' : b' = b) (hb : b < 2 ^ 40) (F : Fr h₀ L s.heap m₀) (N : News h₀ L s.heap news)
    (h0 : J 0 m₀ news)
    (turn : ∀ i t m₁ nw I oI h tk, i < b → J i m₁ nw → Off I nw → Fr h₀ L h (fun y => if y = x then some (.int (i : Int) t) else m₁ y) → News h₀ L h ((I, oI) :: nw) →
      wpAny (model prog w) A (execs body env) (TurnP h₀ L (J (i + 1)) I oI { s with heap := h, toks := tk } Q) E { s with heap := h, toks := tk })
    (done : ∀ m₁ nw h tk, J b m₁ nw → Fr h₀ L h m₁ → News h₀ L h nw → Q .next { s with heap := h, toks := tk }) :
    wpAny (model prog w) A (pyIter (.ref r)) (fun it s₂ => LoopAtV prog w A h₀ env x body Q E it s₂) E s := by
  refine for_rangeN hL (a := 0) (b := b) J hh hr rfl hb' (by omega) hb F N h0 (fun i t m₁ nw I oI h tk hi hJ hI F N => ?_) done
  rw [Nat.zero_add] at F
  exact turn i t m₁ nw I oI h tk hi hJ hI F N

theorem nz_itemN {value slice : PySem.Expr} {l : Addr} {vs : List Value} {xs : List Nat} {n : Nat} {k : Nat} {u : Tok} {Q : Value → Shared → Prop} (N : News h₀ L s.heap nw) (hi : Nums vs xs) {bb : Nat} (hz : ∀ x ∈ xs, x ≤ bb) (hm : (l, PySem.W.listOf vs.toArray n) ∈ nw) (hfit : k < 2 ^ 40) (hk : k < xs.length) (h : ∀ x t, xs[k]? = some x → x ≤ bb → Q (.int (x : Nat) t) s)
    (hs : subscripted slice false (.ref l) (.int k u) = operate [.ref l, .int k u] (getItem (.ref l) (.int k u)) := by with_unfolding_all rfl) (hg : ∀ r, letTemporaryGo value (.ref l) r = pure () := by intro _; with_unfolding_all rfl) :
    wpAny (model prog w) A (subscriptTail value slice (.ref l) (.int k u)) Q E s := by
  have hx : xs[k]? = some (xs[k]'hk) := by simp
  obtain ⟨t, ht⟩ := hi.item k _ hx
  exact nz_item N hm (by omega) (by omega) (by simpa using ht) (h _ t hx (hz _ (List.getElem_mem _))) hs hg
theorem nz_itemTN {value slice : PySem.Expr} {l : Addr} {vs : List Value} {xs : List Str} {n : Nat} {k : Nat} {u : Tok} {Q : Value → Shared → Prop} (N : News h₀ L s.heap nw) (hi : Txts vs xs) {bb : Nat} (hz : ∀ x ∈ xs, x.length ≤ bb) (hm : (l, PySem.W.listOf vs.toArray n) ∈ nw) (hfit : k < 2 ^ 40) (hk : k < xs.length) (h : ∀ x t, xs[k]? = some x → x.length ≤ bb → Q (.str x t) s)
    (hs : subscripted slice false (.ref l) (.int k u) = operate [.ref l, .int k u] (getItem (.ref l) (.int k u)) := by with_unfolding_all rfl) (hg : ∀ r, letTemporaryGo value (.ref l) r = pure () := by intro _; with_unfolding_all rfl) :
    wpAny (model prog w) A (subscriptTail value slice (.ref l) (.int k u)) Q E s := by
  have hx : xs[k]? = some (xs[k]'hk) := by simp
  obtain ⟨t, ht⟩ := hi.get k _ hx
  exact nz_item N hm (by omega) (by omega) (by simpa using ht) (h _ t hx (hz _ (List.getElem_mem _))) hs hg
/-- an item of the list of columns -/
theorem nz_itemC {value slice : PySem.Expr} {l : Addr} {vs : List Value} {xs : List (List Str)} {n : Nat} {k : Nat} {u : Tok} {nw' : List (Addr × Obj)} {Q : Value → Shared → Prop} (N : News h₀ L s.heap nw) (hi : ColsIn nw' vs xs) {P : List Str → Prop} (hP : ∀ c ∈ xs, P c) (hm : (l, PySem.W.listOf vs.toArray n) ∈ nw) (hfit : k < 2 ^ 40) (hk : k < xs.length)
    (h : ∀ x a us n', xs[k]? = some x → (a, PySem.W.listOf (List.toArray us) n') ∈ nw' → Txts us x → P x → Q (.ref a) s)
    (hs : subscripted slice false (.ref l) (.int k u) = operate [.ref l, .int k u] (getItem (.ref l) (.int k u)) := by with_unfolding_all rfl) (hg : ∀ r, letTemporaryGo value (.ref l) r = pure () := by intro _; with_unfolding_all rfl) :
    wpAny (model prog w) A (subscriptTail value slice (.ref l) (.int k u)) Q E s := by
  have hx : xs[k]? = some (xs[k]'hk) := by simp
  obtain ⟨a, us, n', e, hm', ht⟩ := hi.item k _ hx
  exact nz_item N hm (by omega) (by omega) (by simpa using e) (h _ a us n' hx hm' ht (hP _ (List.getElem_mem _))) hs hg
theorem nz_extend {D b : Addr} {ys zs : List Value} {n n2 : Nat} {Q : Value → Shared → Prop} (F : Fr h₀ L s.heap m) (N : News h₀ L s.heap nw) (hm : (D, PySem.W.listOf (List.toArray ys) n) ∈ nw) (hb : (b, PySem.W.listOf (List.toArray zs) n2) ∈ nw) (hsz : ys.length + zs.length ≤ 16777216)
    (h : ∀ h' n', Fr h₀ L h' m → News h₀ L h' (nset D (PySem.W.listOf (List.toArray (ys ++ zs)) n') nw) → Q .none { s with heap := h' }) : wpAny (model prog w) A (call (.builtin "list.extend") [.ref D, .ref b]) Q E s := by
  have z := N _ hm
  have hsz' : (List.toArray ys).size + (List.toArray zs).size ≤ sizeLine := by rw [sizeLine_eq]; simpa using hsz
  refine call_meets PySem.F.slot_list_extend ⟨_, z.1, rfl⟩ PySem.F.entry_list_extend (PySem.F.args_list_extend_2 _ _) (AutoSeq1.list_extend_list_list_0 D (List.toArray ys) n b (List.toArray zs) n2 (extend_door hsz') (Nat.le_trans (Nat.le_add_right _ _) hsz')) ⟨z.1, (N _ hb).1, ?_⟩
  have q := PySem.IsL.update z.1 (fun a : Array Value => a ++ List.toArray zs)
  rw [show (List.toArray ys ++ List.toArray zs) = List.toArray (ys ++ zs) by simp] at q
  exact h _ _ (F.change (Heap.SameBut.update ..) z.2.1 z.2.2) (news_nset N hm (Heap.SameBut.update ..) q)
theorem nz_join {D : Addr} {pv : List Value} {n : Nat} {xs : List Str} {t0 : Tok} {Q : Value → Shared → Prop} (N : News h₀ L s.heap nw) (hm : (D, PySem.W.listOf pv.toArray n) ∈ nw) (hx : Txts pv xs) (hb : ∀ x ∈ xs, x.length ≤ 200) (hc : xs.length ≤ 1000)
    (h : ∀ t k, Q (.str (catT xs) t) { s with toks := k }) : wpAny (model prog w) A (call (.builtin "str.join") [.str (Str.ofString "") t0, .ref D]) Q E s := by
  refine join_listC (ys := xs) ⟨_, (N _ hm).1, rfl, _, rfl⟩ hx.strs (by rw [nz_len_lits.2.2.2.2.2]; decide) ?_ (fun t' k => by rw [join_catT]; exact h t' k)
  have := sum_len hb
  have : xs.length * 200 ≤ 1000 * 200 := Nat.mul_le_mul_right _ hc
  omega
end
theorem off_swap {I D : Addr} {o o' : Obj} {rest : List (Addr × Obj)} (h : ∀ p ∈ (D, o) :: rest, p.1 ≠ I) : ∀ p ∈ (D, o') :: rest, p.1 ≠ I := fun p hp => by
  rcases List.mem_cons.mp hp with rfl | hp
  · exact h (D, o) (.head _)
  · exact h p (.tail _ hp)
theorem getD_of {α : Type} {xs : List α} {i : Nat} {x d : α} (h : xs[i]? = some x) : xs.getD i d = x := by
  rw [List.getD_eq_getElem?_getD, h]; rfl
theorem news_third {h₀ h : Heap} {L D I P : Addr} {o o' oI oP : Obj} {rest : List (Addr × Obj)} (N : News h₀ L h (nset D o' ((P, oP) :: (I, oI) :: (D, o) :: rest))) (off : ∀ p ∈ rest, p.1 ≠ D) (hI : I ≠ D) : News h₀ L h ((I, oI) :: (D, o') :: rest) :=
  news_of N ⟨_, .tail _ (.tail _ (.head _))⟩ fun p hp => by
    rcases List.mem_cons.mp hp with rfl | hp
    · exact .inr ⟨.tail _ (.head _), hI⟩
    · rcases List.mem_cons.mp hp with rfl | hp
      · exact .inl rfl
      · exact .inr ⟨.tail _ (.tail _ (.tail _ hp)), off p hp⟩
/-- a contract that asks something of the caller's ground -/
def SpecP (w : World) (Pb : Heap → Prop) (f : Addr) (D U : Nat) (vs : List Value) (news : List (Addr × Obj)) (R : Value → List (Addr × Obj) → Prop) : Prop :=
  ∀ (mean : ExcName → Option Value) (mg mb : Str → Option Value) (dp un : Nat) (gd : Option (List Code)) (cn : Str) (cs : Scope) (a : Addr) (ccd : Value) (cl : List (Str × Addr)) (outer : List Env) (A₀ : Around) (base h₀ : Heap) (L : Addr) (m : Str → Option Value) (s : Shared) (Q E : Value → Shared → Prop),
    Pb h₀ → Below A₀ base outer h₀ → Fr h₀ L s.heap m → (hd.heap_39 w.params).In h₀ → News h₀ L s.heap news → Top hd.view_39 (looseW hd.view_39 []) mean mg mb h₀ → cs.kind = .function → dp + D < recursionLimit → un + U < cLine →
    (∀ v nw h' tk', R v nw → Fr h₀ L h' m → News h₀ L h' nw → Q v { s with heap := h', toks := tk' }) →
    wpAny (model PySem.Challenge.rw_nz0464_01.row.prog w) (ktrTop dp un gd cn cs L a ccd cl outer) (call (.ref f) vs) Q E s
theorem specP_of {w : World} {Pb : Heap → Prop} {f : Addr} {D U : Nat} {vs : List Value} {news : List (Addr × Obj)} {R : Value → List (Addr × Obj) → Prop} {oc od} {name qual : Str} {params : Arguments} {body : List Stmt} {scope : Scope} {dV kV doc pm an cdv ct osl}
    (hPb : ∀ h h' : Heap, (∀ b o, h.get? b = some o → h'.get? b = some o) → Pb h → Pb h')
    (binds : List (Str × Value))
    (ho : (hd.heap_39 w.params).lookup f = some ⟨oc, od, .func (fnOf name qual params body scope dV kV doc pm an cdv ct), osl⟩) (hcd : codeIn (hd.heap_39 w.params) cdv qual = true)
    (hbind : bindArgs (fnOf name qual params body scope dV kV doc pm an cdv ct) ⟨vs, []⟩ = pure binds) (hloc : ∀ y ∈ binds, scope.names.lookup y.1 = some .local)
    (h : ∀ (mean : ExcName → Option Value) (mg mb : Str → Option Value) (dp un : Nat) (gd : Option (List Code)) (outer : List Env) (A₀ : Around) (base g : Heap) (L : Addr) (s : Shared),
      Pb g → Below A₀ base outer g → Fr g L s.heap (fm binds.reverse) → (hd.heap_39 w.params).In g → News g L s.heap news → Top hd.view_39 (looseW hd.view_39 []) mean mg mb g → dp + D < recursionLimit → un + U < cLine →
      wpAny (model PySem.Challenge.rw_nz0464_01.row.prog w) (ktrTop dp un gd qual scope L f cdv [] outer) (execs body (envOf qual scope L f cdv)) (RetP g L s R) (fun _ _ => False) s)
    (hco : scope.isCoroutine = false) (hgen : scope.isGenerator = false) (hk : scope.kind = .function) (hcell : ∀ x ∈ scope.names, x.2 ≠ .cell) :
    SpecP w Pb f (D + 1) (U + 3) vs news R := by
  intro mean mg mb dp un gd cn cs a ccd cl outer A₀ base h₀ L m s Q E hP B F X N T hk' hd' hu hret
  refine wpAny_call ?_
  refine code_def (K := hd.heap_39 w.params) B F X N T rfl rfl hk' ho hcd (by show dp < recursionLimit; omega) (BindsTo.of_eq hbind) hloc ?_ hco hgen hk hcell
  intro g L' h₁ FG F' N' B' X' T'
  rw [lookup_fm] at F'
  refine wpAny_mono (h mean mg mb (dp + 1) (un + 3) gd _ _ base g L' _ (hPb _ _ FG.keep hP) B' F' X' N' T' (by omega) (by omega)) (fun fl s' hr => ?_) fun _ _ e => e.elim
  obtain ⟨h2, tk, m', nw, rfl, F2, N2, hR⟩ := hr
  exact leaveK_ F2 N2 fun F3 N3 => hret _ _ _ _ hR F3 N3
/-- a contract of a def with cells -/
theorem specC_of {w : World} {f : Addr} {D U : Nat} {vs : List Value} {news : List (Addr × Obj)} {R : Value → List (Addr × Obj) → Prop} {oc od} {name qual : Str} {params : Arguments} {body : List Stmt} {scope : Scope} {dV kV doc pm an cdv ct osl}
    (binds : List (Str × Value))
    (ho : (hd.heap_39 w.params).lookup f = some ⟨oc, od, .func (fnOf name qual params body scope dV kV doc pm an cdv ct), osl⟩) (hcd : codeIn (hd.heap_39 w.params) cdv qual = true)
    (hbind : bindArgs (fnOf name qual params body scope dV kV doc pm an cdv ct) ⟨vs, []⟩ = pure binds) (hkind : (binds.all fun y => scope.names.lookup y.1 == some .local || scope.names.lookup y.1 == some .cell) = true)
    (hnd : ((cellsFrom 0 scope.names []).map (·.1)).Nodup)
    (h : ∀ (mean : ExcName → Option Value) (mg mb : Str → Option Value) (dp un : Nat) (gd : Option (List Code)) (outer : List Env) (A₀ : Around) (base g : Heap) (L : Addr) (s : Shared) (cells : List (Addr × Obj)),
      Below A₀ base outer g → Fr g L s.heap (bindL (envOfC qual scope L f cdv).kindOf binds fun _ => none) → (hd.heap_39 w.params).In g → News g L s.heap (cells ++ news) →
      CellsAre (bindC (envOfC qual scope L f cdv).kindOf binds fun _ => none) (cellsFrom (L + 1) scope.names []) cells → (∀ p ∈ news, p.1 < L) →
      Top hd.view_39 (looseW hd.view_39 []) mean mg mb g → dp + D < recursionLimit → un + U < cLine →
      wpAny (model PySem.Challenge.rw_nz0464_01.row.prog w) (ktrTop dp un gd qual scope L f cdv (cellsFrom (L + 1) scope.names []) outer) (execs body (envOfC qual scope L f cdv)) (RetP g L s R) (fun _ _ => False) s)
    (hco : scope.isCoroutine = false) (hgen : scope.isGenerator = false) (hk : scope.kind = .function) :
    Spec w f (D + 1) (U + 3) vs news R := by
  intro mean mg mb dp un gd cn cs a ccd cl outer A₀ base h₀ L m s Q E B F X N T hk' hd' hu hret
  refine wpAny_call ?_
  refine code_defC (K := hd.heap_39 w.params) B F X N T rfl rfl hk' ho hcd (by show dp < recursionLimit; omega) (BindsTo.of_eq hbind) hkind hnd ?_ hco hgen hk
  intro g L' h₁ tk cells FG F' N' Y B' X' T' hlt
  refine wpAny_mono (h mean mg mb (dp + 1) (un + 3) gd _ _ base g L' _ cells B' F' X' N' Y hlt T' (by omega) (by omega)) (fun fl s' hr => ?_) fun _ _ e => e.elim
  obtain ⟨h2, tk, m', nw, rfl, F2, N2, hR⟩ := hr
  exact leaveK_ F2 N2 fun F3 N3 => hret _ _ _ _ hR F3 N3
section
variable {prog : Program} {w : World} {A : Around} {E : Value → Shared → Prop} {s : Shared} {h₀ : Heap} {L : Addr} {m : Str → Option Value} {env : Env} {elt : PySem.Expr} {x : Str} {scope : Scope} {cl : List (Str × Addr)}
  {S : List (Addr × Obj) → Prop} {P : Nat → Value → Prop} {Fin : List Value → List (Addr × Obj) → Prop} {news : List (Addr × Obj)}
theorem comp_inv {n : Nat} (J : Nat → List Value → List (Addr × Obj) → Prop) (h0 : J 0 [] news)
    (turn : ∀ i ys nw v I oI C oC D m₂ h tk (E' : Value → Shared → Prop), i < n → P i v → J i ys nw → LCg.NsObj oC m₂ → m₂ x = some v → Fr h₀ L h m → News h₀ L h ((I, oI) :: (C, oC) :: (D, LCg.lst ys) :: nw) → LCg.Off3 I C D nw → ((@Ne Nat I C) ∧ (@Ne Nat I D) ∧ (@Ne Nat C D)) →
      wpAny (model prog w) A (eval elt (compEnvC scope cl C env)) (LCg.CompEnd h₀ L m { s with heap := h, toks := tk } I oI C oC D (LCg.lst ys) S (fun y nw' => J (i + 1) (ys ++ [y]) nw')) E' { s with heap := h, toks := tk })
    (fin : ∀ ys nw, J n ys nw → Fin ys nw) : LCg.CompRest prog w A h₀ L m env elt x scope cl s S P Fin n 0 [] news := by
  have key : ∀ (j i : Nat) (ys : List Value) (nw : List (Addr × Obj)), i + j = n → J i ys nw → LCg.CompRest prog w A h₀ L m env elt x scope cl s S P Fin j i ys nw := by
    intro j
    induction j with
    | zero =>
      intro i ys nw hi hJ
      rw [Nat.add_zero] at hi
      exact LCg.CompRest.zero (fin ys nw (hi ▸ hJ))
    | succ j ih =>
      intro i ys nw hi hJ
      refine LCg.CompRest.succ ?_
      intro v I oI C oC D m₂ h tk E' hv hC hx F N off ne
      refine wpAny_mono (turn i ys nw v I oI C oC D m₂ h tk E' (by omega) hv hJ hC hx F N off ne) (fun y s₂ hq => ?_) fun _ _ e => e
      obtain ⟨h', tk', nw', e, F', N', off', hS, hr⟩ := hq
      exact ⟨h', tk', nw', e, F', N', off', hS, ih (i + 1) _ _ (by omega) hr⟩
  exact key n 0 [] news (by omega) h0
/-- a turn's end that leaves the ledger as it stood -/
theorem comp_end {I C D : Addr} {oI oC oD : Obj} {rest : Value → List (Addr × Obj) → Prop} {y : Value} {h' : Heap} {tk : Nat} {nw : List (Addr × Obj)}
    (F : Fr h₀ L h' m) (N : News h₀ L h' ((I, oI) :: (C, oC) :: (D, oD) :: nw)) (off : LCg.Off3 I C D nw) (hS : S nw) (hr : rest y nw) :
    LCg.CompEnd h₀ L m s I oI C oC D oD S rest y { s with heap := h', toks := tk } := LCg.CompEnd.intro F N nw (fun _ h => h) off hS hr
theorem src_at {l : Addr} {its : Array Value} {n : Nat} {nw : List (Addr × Obj)} (h : (l, PySem.W.listOf its n) ∈ nw) : LCg.SrcAt h₀ l its nw := .inr ⟨_, h, rfl, _, rfl⟩
theorem off1 {D : Addr} : ∀ {l : List (Addr × Obj)}, LCg.Off1 D l → Off D l
  | [], _ => fun _ h => nomatch h
  | p :: _, h => fun q hq => by
    rcases List.mem_cons.mp hq with rfl | hq
    · exact h.1
    · exact off1 h.2 q hq
theorem off3_cons {I C D a : Addr} {o : Obj} {l : List (Addr × Obj)} (h : LCg.Off3 I C D l) (h1 : a ≠ I) (h2 : a ≠ C) (h3 : a ≠ D) : LCg.Off3 I C D ((a, o) :: l) := ⟨⟨h1, h2, h3⟩, h⟩
end
section
variable {prog : Program} {w : World} {A : Around} {E : Value → Shared → Prop} {s : Shared} {h₀ : Heap} {L : Addr} {m : Str → Option Value} {nw : List (Addr × Obj)}
theorem nz_storeC {M : Model} {cn : Str} {cs : Scope} {a : Addr} {ccd : Value} {cl : List (Str × Addr)} {x : Str} {v : Value} {v₀ : Option Value} {c : Addr} {o : Obj} {Q : Unit → Shared → Prop} (F : Fr h₀ L s.heap m) (N : News h₀ L s.heap nw) (hc : cl.lookup x = some c) (hm : (c, o) ∈ nw) (hd : o.data = .cell v₀)
    (h : ∀ h' o', Fr h₀ L h' m → News h₀ L h' (nset c o' nw) → o'.data = .cell (some v) → Q () { s with heap := h' })
    (hk : cs.kind = .function := by rfl) (hx : (envX cn cs L a ccd cl).kindOf x = some .cell := by rfl) : wpAny M A (storeName (envX cn cs L a ccd cl) x v) Q E s := by
  have hmem := N _ hm
  refine wpAny_storeName_cell hk hx hc ⟨o, hmem.1, hd⟩ fun h' hv hs => ?_
  obtain ⟨o', ho', hd'⟩ := hv
  refine h h' o' ⟨F.ns.sameBut hs (Ne.symm hmem.2.1), fun b ob e => (hs.2 b (fun q => ?_)).trans (F.keep b ob e), F.above⟩ (news_nset N hm hs ho') hd'
  rw [q, hmem.2.2] at e; cases e
theorem nz_addL {l b : Addr} {ys zs : List Value} {n n2 : Nat} {Q : Value → Shared → Prop} (F : Fr h₀ L s.heap m) (N : News h₀ L s.heap nw) (hl : (l, PySem.W.listOf (List.toArray ys) n) ∈ nw) (hb : (b, PySem.W.listOf (List.toArray zs) n2) ∈ nw) (hsz : ys.length + zs.length ≤ 16777216)
    (h : ∀ l' h', Fr h₀ L h' m → News h₀ L h' ((l', PySem.W.listOf (List.toArray (ys ++ zs)) 0) :: nw) → Off l' nw → Q (.ref l') { s with heap := h' }) : wpAny (model prog w) A (binaryOp .Add (.ref l) (.ref b)) Q E s :=
  add_arrays F N ⟨_, (N _ hl).1, rfl, _, rfl⟩ ⟨_, (N _ hb).1, rfl, _, rfl⟩ (fun h' F' N' => h _ h' F' N' fun p hp => Nat.ne_of_lt (Heap.lt_size (N p hp).1)) (by rw [sizeLine_eq]; simpa using hsz)
theorem Nums.ints {vs : List Value} {xs : List Nat} (h : Nums vs xs) : IntsAre vs (xs.map fun n : Nat => (n : Int)) := by
  induction h with
  | nil => exact .nil
  | cons x t _ ih => exact .cons _ t ih
theorem nz_max {l : Addr} {vs : List Value} {xs : List Nat} {n : Nat} {Q : Value → Shared → Prop} (hh : A.handled = none) (F : Fr h₀ L s.heap m) (N : News h₀ L s.heap nw) (hl : (l, PySem.W.listOf (List.toArray vs) n) ∈ nw) (hi : Nums vs xs) (hne : 0 < xs.length)
    (h : ∀ h' (M : Nat) (t : Tok) tk, Fr h₀ L h' m → News h₀ L h' nw → M ∈ xs → (∀ a, a ∈ xs → a ≤ M) → Q (.int M t) { s with heap := h', toks := tk }) : wpAny (model prog w) A (call (.builtin "max") [.ref l]) Q E s :=
  max_list_N hh F N ⟨_, (N _ hl).1, rfl, _, rfl⟩ hi.ints (by simpa using hne) fun h' M t tk F' N' hM hle => by
    obtain ⟨M', hM', rfl⟩ := List.mem_map.mp hM
    exact h h' M' t tk F' N' hM' fun a ha => by have := hle _ (List.mem_map_of_mem (f := fun n : Nat => (n : Int)) ha); omega
end
theorem wid_fold (xs : List Str) : ∀ a, (xs.foldl (fun a x => max a x.length) a = a ∨ ∃ x ∈ xs, xs.foldl (fun a x => max a x.length) a = x.length) ∧ a ≤ xs.foldl (fun a x => max a x.length) a ∧ ∀ x ∈ xs, x.length ≤ xs.foldl (fun a x => max a x.length) a := by
  induction xs with
  | nil => intro a; exact ⟨.inl rfl, Nat.le_refl _, fun _ h => nomatch h⟩
  | cons x r ih =>
    intro a
    obtain ⟨h1, h2, h3⟩ := ih (max a x.length)
    rw [List.foldl_cons]
    refine ⟨?_, by omega, ?_⟩
    · rcases h1 with h1 | ⟨y, hy, h1⟩
      · rw [h1]
        by_cases hc : a ≤ x.length
        · exact .inr ⟨x, .head _, by omega⟩
        · exact .inl (by omega)
      · exact .inr ⟨y, .tail _ hy, h1⟩
    · intro y hy
      rcases List.mem_cons.mp hy with rfl | hy
      · omega
      · exact h3 y hy
theorem le_wid {xs : List Str} {x : Str} (h : x ∈ xs) : x.length ≤ wid xs := (wid_fold xs 0).2.2 x h
theorem wid_is {xs : List Str} {M : Nat} (hM : M ∈ 0 :: xs.map (·.length)) (hle : ∀ a, a ∈ 0 :: xs.map (·.length) → a ≤ M) : M = wid xs := by
  have h1 : wid xs ≤ M := by
    rcases (wid_fold xs 0).1 with h | ⟨x, hx, h⟩
    · show xs.foldl (fun a x => max a x.length) 0 ≤ M
      rw [h]; exact Nat.zero_le _
    · show xs.foldl (fun a x => max a x.length) 0 ≤ M
      rw [h]; exact hle _ (.tail _ (List.mem_map_of_mem (f := fun x : Str => x.length) hx))
  have h2 : M ≤ wid xs := by
    rcases List.mem_cons.mp hM with rfl | hM
    · exact Nat.zero_le _
    · obtain ⟨x, hx, rfl⟩ := List.mem_map.mp hM
      exact le_wid hx
  omega
theorem Txts.at {vs : List Value} {xs : List Str} (h : Txts vs xs) {i : Nat} {v : Value} (hv : vs.toArray[i]? = some v) : ∃ x t, v = .str x t ∧ xs[i]? = some x := h.item i v (by simpa using hv)
/-- lists of numbers on the ledger, the newest first -/
inductive GsIn : List (Addr × Obj) → List (List Nat) → Prop
  | nil : GsIn [] []
  | cons {a : Addr} {us : List Value} {n : Nat} {g : List Nat} {subs : List (Addr × Obj)} {gs : List (List Nat)} (hx : Nums us g) (h : GsIn subs gs) : GsIn ((a, PySem.W.listOf (List.toArray us) n) :: subs) (g :: gs)
def refsOf (subs : List (Addr × Obj)) : List Value := (subs.map fun p => Value.ref p.1).reverse
def gsData (gs : List (List Nat)) : PyData := .list (gs.map fun g => PyData.list ((g.map fun n : Nat => (n : Int)).map PyData.int))
theorem gs_canLay : ∀ gs : List (List Nat), PyData.canLayAll0 (gs.map fun g => PyData.list ((g.map fun n : Nat => (n : Int)).map PyData.int)) = true
  | [] => rfl
  | g :: r => by
    have h1 := gs_canLay r
    have h2 := ke_canLayAll0 (g.map fun n : Nat => (n : Int))
    simp only [List.map_cons, PyData.canLayAll0, PyData.canLay0, Bool.and_eq_true]
    exact ⟨h2, h1⟩
theorem gs_depth : ∀ gs : List (List Nat), PyData.depthAll (gs.map fun g => PyData.list ((g.map fun n : Nat => (n : Int)).map PyData.int)) ≤ 1
  | [] => by simp [PyData.depthAll]
  | g :: r => by
    have h1 := gs_depth r
    have h2 := ke_depthAll (g.map fun n : Nat => (n : Int))
    simp only [List.map_cons, PyData.depthAll, PyData.depth]
    omega
theorem gs_shaped (gs : List (List Nat)) : SeqAt.shaped (gsData gs) = true := by
  unfold SeqAt.shaped gsData
  simp only [PyData.canLay0, PyData.depth, Bool.and_eq_true, decide_eq_true_eq]
  exact ⟨gs_canLay gs, by have := gs_depth gs; first | omega | exact decide_eq_true (by omega)⟩
theorem readsAll_append {h : Heap} : ∀ {ds : List PyData} {vs : List Value} {as : List Addr} {ws : List Value} {es : List PyData} {bs : List Addr}, ReadsAll h vs ds as → ReadsAll h ws es bs → ∃ cs, ReadsAll h (vs ++ ws) (ds ++ es) cs
  | [], _, _, _, _, _, h1, h2 => by obtain ⟨rfl, rfl⟩ := readsAll_nil_inv h1; exact ⟨_, h2⟩
  | d :: ds, _, _, _, _, _, h1, h2 => by
    obtain ⟨v, vs', as₁, as₂, rfl, rfl, r1, r2⟩ := readsAll_cons_inv h1
    obtain ⟨cs, hc⟩ := readsAll_append r2 h2
    exact ⟨_, .cons r1 hc⟩
theorem gs_reads {h₀ h : Heap} {L : Addr} {nw : List (Addr × Obj)} (N : News h₀ L h nw) {subs : List (Addr × Obj)} {gs : List (List Nat)} (G : GsIn subs gs) (hs : ∀ p ∈ subs, p ∈ nw) :
    ∃ as, ReadsAll h (refsOf subs) (gs.reverse.map fun g => PyData.list ((g.map fun n : Nat => (n : Int)).map PyData.int)) as := by
  induction G with
  | nil => exact ⟨_, .nil⟩
  | cons hx _ ih =>
    rename_i a us n g subs gs _
    obtain ⟨as, hr⟩ := ih fun p hp => hs p (.tail _ hp)
    have h1 : Reads h (.ref a) (.list ((g.map fun n : Nat => (n : Int)).map PyData.int)) [a] := reads_newData ⟨_, (N _ (hs _ (.head _))).1, rfl, _, rfl⟩ (ke_carried hx.ints)
    have e : refsOf ((a, PySem.W.listOf (List.toArray us) n) :: subs) = refsOf subs ++ [.ref a] := by simp [refsOf]
    rw [e, List.reverse_cons, List.map_append]
    exact readsAll_append hr (.cons h1 .nil)
section
variable {prog : Program} {w : World} {A : Around} {E : Value → Shared → Prop} {s : Shared} {h₀ : Heap} {L : Addr} {m : Str → Option Value} {nw : List (Addr × Obj)}
theorem gs_read {P : Addr} {n : Nat} {subs : List (Addr × Obj)} {gs : List (List Nat)} {h : Heap} (N : News h₀ L h nw) (hm : (P, PySem.W.listOf (List.toArray (refsOf subs)) n) ∈ nw) (G : GsIn subs gs) (hs : ∀ p ∈ subs, p ∈ nw) : ∃ as, Reads h (.ref P) (gsData gs.reverse) as := by
  obtain ⟨as, hr⟩ := gs_reads N G hs
  exact ⟨_, reads_list_at (N _ hm).1 rfl rfl hr⟩
theorem nz_eqNil {P e : Addr} {n n2 : Nat} {subs : List (Addr × Obj)} {gs : List (List Nat)} {Q : Value → Shared → Prop} (N : News h₀ L s.heap nw) (hm : (P, PySem.W.listOf (List.toArray (refsOf subs)) n) ∈ nw) (G : GsIn subs gs) (hs : ∀ p ∈ subs, p ∈ nw) (he : (e, PySem.W.listOf #[] n2) ∈ nw) (hu : A.units + 64 < cLine)
    (h : Q (.bool gs.isEmpty) s) : wpAny (model prog w) A (compareOp .Eq (.ref P) (.ref e)) Q E s := by
  obtain ⟨as, hr⟩ := gs_read N hm G hs
  refine eq_dataH hr (reads_list_at (N _ he).1 rfl rfl .nil : Reads _ _ (gsData []) _) (gs_shaped _) (gs_shaped _) hu ?_
  have e : PyData.eqv (gsData gs.reverse) (gsData []) = gs.isEmpty := by
    unfold gsData
    cases gs with
    | nil => simp [PyData.eqv, PyData.eqvAll]
    | cons g r =>
      rw [List.reverse_cons, List.map_append]
      cases hr : (r.reverse.map fun g => PyData.list ((g.map fun n : Nat => (n : Int)).map PyData.int)) <;> simp [PyData.eqv, PyData.eqvAll]
  exact e ▸ h
theorem nz_neNil {P e : Addr} {n n2 : Nat} {subs : List (Addr × Obj)} {gs : List (List Nat)} {Q : Value → Shared → Prop} (N : News h₀ L s.heap nw) (hm : (P, PySem.W.listOf (List.toArray (refsOf subs)) n) ∈ nw) (G : GsIn subs gs) (hs : ∀ p ∈ subs, p ∈ nw) (he : (e, PySem.W.listOf #[] n2) ∈ nw) (hu : A.units + 64 < cLine)
    (h : Q (.bool (!gs.isEmpty)) s) : wpAny (model prog w) A (compareOp .NotEq (.ref P) (.ref e)) Q E s := by
  obtain ⟨as, hr⟩ := gs_read N hm G hs
  refine ne_dataH hr (reads_list_at (N _ he).1 rfl rfl .nil : Reads _ _ (gsData []) _) (gs_shaped _) (gs_shaped _) hu ?_
  have e : PyData.eqv (gsData gs.reverse) (gsData []) = gs.isEmpty := by
    unfold gsData
    cases gs with
    | nil => simp [PyData.eqv, PyData.eqvAll]
    | cons g r =>
      rw [List.reverse_cons, List.map_append]
      cases hr : (r.reverse.map fun g => PyData.list ((g.map fun n : Nat => (n : Int)).map PyData.int)) <;> simp [PyData.eqv, PyData.eqvAll]
  exact e ▸ h
/-- the last item -/
theorem nz_last {value slice : PySem.Expr} {l : Addr} {vs : List Value} {n : Nat} {u : Tok} {v : Value} {Q : Value → Shared → Prop} (N : News h₀ L s.heap nw) (hm : (l, PySem.W.listOf (List.toArray (vs ++ [v])) n) ∈ nw) (h : Q v s)
    (hs : subscripted slice false (.ref l) (.int (-1) u) = operate [.ref l, .int (-1) u] (getItem (.ref l) (.int (-1) u)) := by with_unfolding_all rfl) (hg : ∀ r, letTemporaryGo value (.ref l) r = pure () := by intro _; with_unfolding_all rfl) :
    wpAny (model prog w) A (subscriptTail value slice (.ref l) (.int (-1) u)) Q E s := by
  have hl : s.heap.IsList l (List.toArray (vs ++ [v])) := ⟨_, (N _ hm).1, rfl, _, rfl⟩
  refine subscriptTail_builtin hl.typeIs slot_list_getitem.lookup (wpAny_getItem_list_neg hl (by decide) (by simp; omega) (by decide) ?_ h) hs hg
  simp only [List.size_toArray, List.length_append, List.length_cons, List.length_nil, List.getElem?_toArray]
  rw [show ((-1 : Int) + ((vs.length + (0 + 1) : Nat) : Int)).toNat = vs.length by omega]
  simp
end
section
variable {prog : Program} {w : World} {A : Around} {E : Value → Shared → Prop} {s : Shared} {env : Env} {h₀ : Heap} {x : Str} {px : Pos} {body : List Stmt} {Q : Flow → Shared → Prop}
def LoopAtC (prog : Program) (w : World) (A : Around) (env : Env) (x : Str) (px : Pos) (body : List Stmt) (Q : Flow → Shared → Prop) (E : Value → Shared → Prop) (it : Value) (s₂ : Shared) : Prop :=
  codeAny (model prog w) A (.forLoop (.Name x px) it body [] env) (fun r s' => match r with | .ok f => Q f s' | .error e => cameBackBy (model prog w) A env E e s') s₂
theorem For_C {pos : Pos} {iter : PySem.Expr} (h : wpAny (model prog w) A (eval iter env) (fun xv s₁ => wpAny (model prog w) A (pyIter xv) (fun it s₂ => LoopAtC prog w A env x px body Q E it s₂) E s₁) E s)
    (hs : ∀ x, foldedSetIterable iter env x = pure x := by intro _; rfl) : wpAny (model prog w) A (exec (.For (.Name x px) iter body [] pos) env) Q E s :=
  wpAny_For h hs
/-- a range's loop whose name is a cell's -/
theorem for_range0C {L r c : Addr} (hL : env.locals = L) (hk : env.scope.kind = .function) (hx : env.kindOf x = some .cell) (hc : env.cells.lookup x = some c) {b : Nat} {b' : Int} {t u v : Tok} {m₀ : Str → Option Value} {news : List (Addr × Obj)}
    (J : Nat → (Str → Option Value) → List (Addr × Obj) → Prop) (hh : A.handled = none) (hr : IsRange s.heap r 0 b' 1 t u v) (hb' : b' = b) (hb : b < 2 ^ 40) (F : Fr h₀ L s.heap m₀) (N : News h₀ L s.heap news)
    (hJc : ∀ i m nw, J i m nw → ∃ oc v₀, (c, oc) ∈ nw ∧ oc.data = .cell v₀) (h0 : J 0 m₀ news)
    (turn : ∀ i t m₁ nw I oI h tk oc', i < b → J i m₁ nw → Off I nw → oc'.data = .cell (some (.int (i : Int) t)) → Fr h₀ L h m₁ → News h₀ L h ((I, oI) :: nset c oc' nw) →
      wpAny (model prog w) A (execs body env) (TurnP h₀ L (J (i + 1)) I oI { s with heap := h, toks := tk } Q) E { s with heap := h, toks := tk })
    (done : ∀ m₁ nw h tk, J b m₁ nw → Fr h₀ L h m₁ → News h₀ L h nw → Q .next { s with heap := h, toks := tk })
    (hE : PassesOwn (model prog w) A env E := by passes_own) :
    wpAny (model prog w) A (pyIter (.ref r)) (fun it s₂ => LoopAtC prog w A env x px body Q E it s₂) E s := by
  subst hL hb'
  refine wpAny_pyIter_range hr (small_one (by omega) (by omega) (by omega) (by omega)) ?_
  have hn : Builtin.Range.rangeSize 0 (b : Int) 1 = (b : Int) := by rw [rangeSize_one]; split <;> omega
  have W : Walks prog w A s.heap.objs.size [s.heap.objs.size] [s.heap.objs.size] b (fun i v => ∃ t, v = .int (0 + (i : Int)) t)
      (fun i h => IsRangeIter h s.heap.objs.size (0 + (i : Nat) * 1) ((b : Int) - (i : Nat)) 1) := LCg.range_walks hh 0 b
  have hI0 : h₀.get? s.heap.objs.size = none := next_is_new F
  have hLI : env.locals ≠ s.heap.objs.size := fun e => absurd F.ns.lt (e ▸ Nat.lt_irrefl _)
  have old : ∀ a o, h₀.get? a = some o → a ∉ [s.heap.objs.size] := fun a o e hb => by rw [List.mem_singleton.mp hb, hI0] at e; cases e
  refine codeAny_forLoop
    (fun k s' => ∃ h' tk m' news' i, s' = { s with heap := h', toks := tk } ∧ IsRangeIter h' s.heap.objs.size (0 + (i : Nat) * 1) ((b : Int) - (i : Nat)) 1 ∧ Fr h₀ env.locals h' m' ∧ News h₀ env.locals h' news' ∧ Off s.heap.objs.size news' ∧ J i m' news' ∧ i ≤ b ∧ k = b + 1 - i) ?_ (b + 1)
    ⟨_, s.toks, m₀, news, 0, rfl, (by rw [hn]; simpa using Heap.get?_push_size _ rfl), F.push _, (fun p hp => ⟨Heap.get?_push_of_some _ (N p hp).1, (N p hp).2⟩), fun p hp e => absurd (Heap.lt_size (N p hp).1) (e ▸ Nat.lt_irrefl _), h0, Nat.zero_le _, rfl⟩
  rintro k s' ⟨h', tk, m', news', i, rfl, hst', F', N', hnw', hJ, hi, rfl⟩
  have next : ∀ h₁ : Heap, (∀ a o, a ∉ [s.heap.objs.size] → h'.get? a = some o → h₁.get? a = some o) → Fr h₀ env.locals h₁ m' ∧ News h₀ env.locals h₁ news' := fun h₁ hk₁ =>
    ⟨⟨F'.ns.at' fun o e => hk₁ _ o (fun q => hLI (List.mem_singleton.mp q)) e, fun a o e => hk₁ a o (old a o e) (F'.keep a o e), F'.above⟩, fun p hp => ⟨hk₁ _ _ (fun q => hnw' p hp (List.mem_singleton.mp q)) (N' p hp).1, (N' p hp).2⟩⟩
  by_cases hlt : i < b
  · refine W.item i _ _ _ hlt hst' fun v h₁ tk₁ hP hst₁ hk₁ => ?_
    obtain ⟨ti, rfl⟩ := hP
    obtain ⟨F₁, N₁⟩ := next h₁ hk₁
    obtain ⟨oc, v₀, hmc, hdc⟩ := hJc _ _ _ hJ
    have hmem := N₁ _ hmc
    refine wpAny_assign_Name (wpAny_storeName_cell hk hx hc ⟨oc, hmem.1, hdc⟩ fun h₂ hv hs₂ => ?_)
    obtain ⟨oc', ho', hd'⟩ := hv
    have F₂ : Fr h₀ env.locals h₂ m' := ⟨F₁.ns.sameBut hs₂ (Ne.symm hmem.2.1), fun a ob e => (hs₂.2 a (fun q => by rw [q, hmem.2.2] at e; cases e)).trans (F₁.keep a ob e), F₁.above⟩
    have hcI : s.heap.objs.size ≠ c := fun e => hnw' _ hmc e.symm
    have hst₂ : IsRangeIter h₂ s.heap.objs.size (0 + ((i + 1 : Nat) : Nat) * 1) ((b : Int) - ((i + 1 : Nat) : Nat)) 1 := W.frame _ _ _ hst₁ fun a ha o e => (hs₂.2 a fun q => hcI ((List.mem_singleton.mp ha).symm.trans q)).trans e
    obtain ⟨oI, hoI⟩ : ∃ o, h₂.get? s.heap.objs.size = some o := ⟨_, hst₂⟩
    have N₂ : News h₀ env.locals h₂ ((s.heap.objs.size, oI) :: nset c oc' news') := fun p hp => by
      rcases List.mem_cons.mp hp with rfl | hp
      · exact ⟨hoI, fun e => hLI e.symm, hI0⟩
      · exact news_nset N₁ hmc hs₂ ho' p hp
    rw [Int.zero_add] at hd'
    refine wpAny_passesOwn hE (wpAny_mono (turn i ti m' news' s.heap.objs.size oI h₂ tk₁ oc' hlt hJ hnw' hd' F₂ N₂) (fun f s₃ h₃ => ?_) fun _ _ e => e)
    have fin : (∃ h' tk m' nw', s₃ = { s with heap := h', toks := tk } ∧ Fr h₀ env.locals h' m' ∧ News h₀ env.locals h' ((s.heap.objs.size, oI) :: nw') ∧ Off s.heap.objs.size nw' ∧ J (i + 1) m' nw') →
        ∃ k' < b + 1 - i, ∃ h' tk m' news' i, s₃ = { s with heap := h', toks := tk } ∧ IsRangeIter h' s.heap.objs.size (0 + (i : Nat) * 1) ((b : Int) - (i : Nat)) 1 ∧ Fr h₀ env.locals h' m' ∧ News h₀ env.locals h' news' ∧ Off s.heap.objs.size news' ∧ J i m' news' ∧ i ≤ b ∧ k' = b + 1 - i := by
      rintro ⟨h₃', tk₃, m₂, news₂, rfl, F₃, N₃, ha₃, hJ₃⟩
      refine ⟨b + 1 - (i + 1), by omega, h₃', tk₃, m₂, news₂, i + 1, rfl, ?_, F₃, fun p hp => N₃ p (.tail _ hp), ha₃, hJ₃, hlt, rfl⟩
      refine W.frame _ _ _ hst₂ fun a ha o e => ?_
      rw [List.mem_singleton.mp ha] at e ⊢
      rw [← (Option.some.inj (hoI.symm.trans e))]
      exact (N₃ _ (.head _)).1
    cases f with
    | ret v => exact h₃
    | brk => exact h₃
    | cont => exact fin h₃
    | next => exact fin h₃
  · have hin : i = b := by omega
    subst hin
    refine W.done _ _ _ hst' fun h₁ tk₁ hk₁ => wpAny_execs_nil ?_
    obtain ⟨F₁, N₁⟩ := next h₁ hk₁
    exact done m' news' h₁ tk₁ hJ F₁ N₁
end
/-- two entries of unlike kinds stand apart -/
theorem news_ne {h₀ h : Heap} {L a b : Addr} {o o' : Obj} {nw : List (Addr × Obj)} (N : News h₀ L h nw) (ha : (a, o) ∈ nw) (hb : (b, o') ∈ nw) (hd : o.data ≠ o'.data) : a ≠ b := fun e => by
  subst e
  have := Option.some.inj ((N _ ha).1.symm.trans (N _ hb).1)
  exact hd (congrArg Obj.data this)
local macro_rules | `(tactic| walk_at "NZg") => `(tactic| (fail_if_success (with_reducible (first | show wpAny _ _ (exec (Stmt.For _ _ _ _ _) _) _ _ _ | show wpAny _ _ (exec (Stmt.While _ _ _ _) _) _ _ _ | show wpAny _ _ (call (Value.ref _) _) _ _ _ | show wpAny _ _ (compareOp CmpOp.Eq (Value.ref _) (Value.ref _)) _ _ _ | show wpAny _ _ (compareOp CmpOp.NotEq (Value.ref _) (Value.ref _)) _ _ _ | show wpAny _ _ (binaryOp Operator.Add (Value.ref _) (Value.ref _)) _ _ _ | show wpAny _ _ (eval (Expr.ListComp _ _ _ _) _) _ _ _ | show wpAny _ _ (exec (Stmt.Assign _ (Expr.ListComp _ _ _ _) _) _) _ _ _ | show wpAny _ _ (pyIter _) _ _ _ | show wpAny _ _ (call (Value.builtin "str.join") _) _ _ _ | show LCg.CompSrc _ _ _ _ _ _ _ _ _ _ _ _ _ _))))
local macro_rules | `(tactic| walk_at "NZh") => `(tactic| (fail_if_success (with_reducible (first | show wpAny _ _ (exec (Stmt.If _ _ _ _) _) _ _ _ | show wpAny _ _ (eval (Expr.IfExp _ _ _ _) _) _ _ _))))
local macro_rules | `(tactic| walk_at "NZ") => `(tactic| repeat' (first | (k_unfold; (try dsimp only)) | (walk_at "NZg"; (first | walk1 | (dsimp only; walk1))) | fail "no step"))
local macro_rules | `(tactic| walk_at "NZi") => `(tactic| repeat' (first | (k_unfold; (try dsimp only)) | (walk_at "NZg"; walk_at "NZh"; (first | walk1 | (dsimp only; walk1))) | fail "no step"))
local macro_rules | `(tactic| walk_at "SAME") => `(tactic| first | ((with_reducible refine Same.upd ?_ ?_); (focus ((repeat (first | with_reducible exact List.mem_cons_self | with_reducible refine List.mem_cons_of_mem _ ?_)); done)); walk_at "SAME") | exact Same.refl | (intro y hy; simp only [List.mem_cons, List.not_mem_nil, or_false, not_or] at hy; simp only [hy, if_false]))
local macro_rules | `(tactic| walk_at "NZ mem") => `(tactic| first | assumption | (with_reducible exact List.mem_cons_self) | ((with_reducible refine List.mem_cons_of_mem _ ?_); walk_at "NZ mem") | ((with_reducible show _ ∈ nset _ _ _); (refine' mem_nset_new ?nzh; (case nzh => walk_at "NZ mem"))) | ((with_reducible show _ ∈ nset _ _ _); (refine mem_nset_old ?_ ?_; (focus walk_at "NZ mem"); walk_at "NZ ne")))
local macro_rules | `(tactic| walk_at "NZ ne") => `(tactic| first | assumption | exact Ne.symm (by assumption) | (refine' Off.ne ‹Off _ _› ?nzz; (case nzz => walk_at "NZ mem")) | (refine' Ne.symm (Off.ne ‹Off _ _› ?nzz); (case nzz => walk_at "NZ mem")))
local macro_rules | `(tactic| walk_at "NZ val") => `(tactic| first | assumption | (with_unfolding_all rfl))
local macro_rules | `(tactic| walk_at "NZ idx") => `(tactic| first | decide | omega | (simp only [List.size_toArray, List.length_cons, List.length_nil, Array.size_push, Array.size_setIfInBounds]; omega))
local macro_rules | `(tactic| walk_at "NZ idx2") => `(tactic| first | omega | (simp only [List.size_toArray] at *; omega))
local macro_rules | `(tactic| walk_at "NZ szl") => `(tactic| (rw [PySem.sizeLine_eq]; walk_at "NZ idx"))
local macro_rules | `(tactic| walk_at "subscriptTail") => `(tactic| (k_here; (with_reducible show wpAny _ _ (subscriptTail _ _ (Value.ref _) (Value.int _ _)) _ _ _); first | ((with_reducible show wpAny _ _ (subscriptTail _ _ _ (Value.int (Nat.cast _) _)) _ _ _); first | (refine nz_itemC (by k_asm) (by assumption) (by assumption) (by walk_at "NZ mem") (by omega) (by omega) ?_; intro x' a' us' n' hx' hm' ht' ⟨hl', hz'⟩) | (refine nz_itemTN (by k_asm) (by assumption) (by assumption) (by walk_at "NZ mem") (by omega) (by omega) ?_; intro x' t' hx' hz') | (refine nz_itemN (by k_asm) (by assumption) (by assumption) (by walk_at "NZ mem") (by omega) (by omega) ?_; intro x' t' hx' hz')) | (refine nz_itemT (by k_asm) (by assumption) (by assumption) (by walk_at "NZ mem") (by walk_at "NZ idx") (by walk_at "NZ idx") (by walk_at "NZ idx2") ?_; intro x' t' hx' hz') | (refine nz_itemI (by k_asm) (by assumption) (by walk_at "NZ mem") (by walk_at "NZ idx") (by walk_at "NZ idx") (by walk_at "NZ idx2") ?_; intro x' t' hx') | refine nz_item (by k_asm) (by walk_at "NZ mem") (by walk_at "NZ idx") (by walk_at "NZ idx") (by walk_at "NZ val") ?_))
local macro_rules | `(tactic| walk_at "getItem ref int") => `(tactic| (k_here; refine nz_getItem (by k_asm) (by walk_at "NZ mem") (by walk_at "NZ idx") (by walk_at "NZ idx") (by walk_at "NZ val") ?_))
local macro_rules | `(tactic| walk_at "setItem ref int") => `(tactic| (k_here; refine nz_set (by k_asm) (by k_asm) (by walk_at "NZ mem") (by walk_at "NZ idx") (by walk_at "NZ idx") (by walk_at "NZ idx") ?_; intro h' F' N'))
local macro_rules | `(tactic| walk_at "call builtin:list.append") => `(tactic| (k_here; (with_reducible show wpAny _ _ (call (Value.builtin _) [Value.ref _, _]) _ _ _); refine nz_append (by k_asm) (by k_asm) (by walk_at "NZ mem") (by walk_at "NZ szl") ?_; intro h' F' N'))
local macro_rules | `(tactic| walk_at "call builtin:len") => `(tactic| (k_here; (with_reducible show wpAny _ _ (call (Value.builtin "len") [Value.ref _]) _ _ _); refine nz_len (by k_asm) (by walk_at "NZ mem") (by walk_at "NZ idx") ?_; intro t' k'))
local macro_rules | `(tactic| walk_at "newList") => `(tactic| (k_here; refine nz_newList (by k_asm) (by k_asm) (by walk_at "NZ szl") ?_; intro l' h' F' N' hl'))
local macro_rules | `(tactic| walk_at "binaryOp Add str str") => `(tactic| (k_here; refine nz_add (by walk_at "NZ sz") ?_; intro t' k'))
local macro_rules | `(tactic| walk_at "NZ sz") => `(tactic| ((try simp only [mul_sp, ljust_eq, rjust_eq, PySem.Str.length_append, sp_length, fillT_length, nz_len_lits, nz_len_empty]); first | decide | omega))
local macro_rules | `(tactic| walk_at "call type:range") => `(tactic| (k_here; (first | refine range1_rows (by k_asm) (by k_asm) ?_ | refine range2_rows (by k_asm) (by k_asm) ?_); intro h' tk' t1' u1' v1' R' F' N' _))
local macro_rules | `(tactic| k_mem) => `(tactic| walk_at "NZ mem")
local macro_rules | `(tactic| walk_at "NZ led") => `(tactic| first | exact led_nil | ((with_reducible refine led_here ?_); walk_at "NZ led") | ((with_reducible refine led_cons ?_ ?_ ?_); (focus walk_at "NZ mem"); (focus walk_at "NZ ne"); walk_at "NZ led") | exact led_tail (by assumption) (by walk_at "NZ sub"))
local macro_rules | `(tactic| walk_at "NZ sub") => `(tactic| first | exact fun _ h => h | exact List.forall_mem_nil _ | ((with_reducible refine List.forall_mem_cons.mpr ⟨?_, ?_⟩); (focus walk_at "NZ mem"); walk_at "NZ sub") | (intro p hp; walk_at "NZ mem"))
local macro_rules | `(tactic| walk_at "NZ offs") => `(tactic| first | assumption | ((refine Off.cons ?_ ?_); (focus walk_at "NZ offs"); walk_at "NZ ne") | exact Off.sub (by assumption) (by walk_at "NZ sub"))
set_option maxHeartbeats 4000000 in
theorem widest_spec (w : World) (l : Addr) (vs : List Value) (n : Nat) (xs : List Str) (news : List (Addr × Obj)) (hm : (l, PySem.W.listOf vs.toArray n) ∈ news) (hx : Txts vs xs) (hz : ∀ x ∈ xs, x.length < 2 ^ 40) :
    Spec w 21 1 20 [.ref l] news (fun v nw => nw = news ∧ ∃ t, v = .int (wid xs) t) := by
  w_top off
  refine spec_of [(Str.ofString "texts", .ref l)] (by k_is) (by k_is) rfl (locs rfl) ?_ rfl rfl rfl (by decide)
  intro mean mg mb dp un gd outer A₀ base g L s B F X N T hd' hu
  simp only [List.reverse_cons, List.reverse_nil, List.nil_append, fm] at F
  walk_at "NZ"
  rename_i F1 N1
  refine For_invVF F1 rfl rfl ?_
  walk_at "NZ"
  refine for_list rfl (fun i m nw => nw = news ∧ ∃ t, m (Str.ofString "found") = some (Value.int (wid (xs.take i)) t) ∧ Same [Str.ofString "found", Str.ofString "one"] m _) rfl F1 N1 hm (fun i m nw h => h.1 ▸ hm) ⟨rfl, _, rfl, .refl⟩ ?_ ?_
  · rintro i v m₁ nw I oI h tk hv ⟨rfl, t, ht, hs⟩ hI F2 N2
    rw [hs.open2, ht] at F2
    obtain ⟨x, tx, rfl, hxi⟩ := hx.item i v hv
    have hzx := hz x (List.mem_of_getElem? hxi)
    walk_at "NZ"
    (rename Fr _ _ _ _ => F9)
    (rename News _ _ _ _ => N9)
    have e : (if (x.length : Int) > (wid (xs.take i) : Int) then (x.length : Int) else (wid (xs.take i) : Int)) = (wid (xs.take (i + 1)) : Int) := by
      rw [wid_succ hxi]; split <;> omega
    rw [e] at F9
    exact turnP_next F9 N9 hI ⟨rfl, _, rfl, by walk_at "SAME"⟩
  · rintro m₁ nw h tk ⟨rfl, t, ht, hs⟩ F2 N2
    rw [hs.open2, ht] at F2
    walk_at "NZ"
    dsimp only
    exact ⟨_, _, _, _, rfl, F2, N2, rfl, t, by rw [List.take_of_length_le (Nat.le_of_eq hx.length.symm)]⟩
set_option maxHeartbeats 4000000 in
theorem padded_spec (w : World) (x : Str) (k : Nat) (b : Bool) (t1 t2 : Tok) (news : List (Addr × Obj)) (hx : x.length ≤ 1000) (hk : k ≤ 1000) :
    Spec w 77 1 20 [.str x t1, .int k t2, .bool b] news (fun v nw => nw = news ∧ ∃ t, v = .str (sp 1 ++ fillT x k b) t) := by
  w_top off
  refine spec_of [(Str.ofString "text", .str x t1), (Str.ofString "width", .int k t2), (Str.ofString "to_left", .bool b)] (by k_is) (by k_is) rfl (locs rfl) ?_ rfl rfl rfl (by decide)
  intro mean mg mb dp un gd outer A₀ base g L s B F X N T hd' hu
  simp only [List.reverse_cons, List.reverse_nil, List.nil_append, List.cons_append, fm] at F
  walk_at "NZ"
  · subst_vars
    refine ⟨_, _, _, _, rfl, F, N, rfl, str_ex ?_⟩
    rw [mul_sp, ljust_eq]; rfl
  · have hb : b = false := by simp_all
    subst hb
    refine ⟨_, _, _, _, rfl, F, N, rfl, str_ex ?_⟩
    rw [mul_sp, rjust_eq]; rfl
set_option maxHeartbeats 4000000 in
theorem fill_spec (w : World) (x : Str) (k : Nat) (b : Bool) (t1 t2 : Tok) (news : List (Addr × Obj)) (hx : x.length ≤ 1000) (hk : k ≤ 1000) :
    Spec w 117 1 20 [.str x t1, .int k t2, .bool b] news (fun v nw => nw = news ∧ ∃ t, v = .str (fillT x k b) t) := by
  w_top off
  refine spec_of [(Str.ofString "letters", .str x t1), (Str.ofString "width", .int k t2), (Str.ofString "left", .bool b)] (by k_is) (by k_is) rfl (locs rfl) ?_ rfl rfl rfl (by decide)
  intro mean mg mb dp un gd outer A₀ base g L s B F X N T hd' hu
  simp only [List.reverse_cons, List.reverse_nil, List.nil_append, List.cons_append, fm] at F
  have e : ((k : Int) - (x.length : Int)).toNat = k - x.length := by omega
  walk_at "NZ"
  · subst_vars
    (rename Fr _ _ _ _ => F9)
    (rename News _ _ _ _ => N9)
    refine ⟨_, _, _, _, rfl, F9, N9, rfl, str_ex ?_⟩
    rw [mul_sp, e]; rfl
  · have hb : b = false := by simp_all
    subst hb
    (rename Fr _ _ _ _ => F9)
    (rename News _ _ _ _ => N9)
    refine ⟨_, _, _, _, rfl, F9, N9, rfl, str_ex ?_⟩
    rw [mul_sp, e]; rfl
theorem pick_use {w : World} {f : Addr} {D U : Nat} {vs0 : List Value} {news0 : List (Addr × Obj)} {P Fa : Addr} {bound : Int} {news : List (Addr × Obj)} (S : Spec w f D U vs0 news0 (fun v nw => X1 fun o' => A3 (nw = (P, o') :: news) (PoolOk Fa o') (X2 fun k t => A3 (v = .int k t) (0 ≤ k) (k < bound))))
    {mean : ExcName → Option Value} {mg mb : Str → Option Value} {dp un : Nat} {gd : Option (List Code)} {cn : Str} {cs : Scope} {a : Addr} {ccd : Value} {cl : List (Str × Addr)} {outer : List Env} {A₀ : Around} {base h₀ : Heap} {L : Addr} {m : Str → Option Value} {s : Shared} {Q E : Value → Shared → Prop}
    (B : Below A₀ base outer h₀) (F : Fr h₀ L s.heap m) (X : (hd.heap_39 w.params).In h₀) (N : News h₀ L s.heap news0) (T : Top hd.view_39 (looseW hd.view_39 []) mean mg mb h₀) (hk : cs.kind = .function) (hd : dp + D < recursionLimit) (hu : un + U < cLine)
    (ret : ∀ o' k t h' tk', PoolOk Fa o' → 0 ≤ k → k < bound → Fr h₀ L h' m → News h₀ L h' ((P, o') :: news) → Q (.int k t) { s with heap := h', toks := tk' }) :
    wpAny (model PySem.Challenge.rw_nz0464_01.row.prog w) (ktrTop dp un gd cn cs L a ccd cl outer) (call (.ref f) vs0) Q E s :=
  S.use B F X N T hk hd hu fun v nw h' tk' hR F' N' => by
    obtain ⟨o', rfl, h1, k, t, rfl, h2, h3⟩ := hR
    exact ret o' k t h' tk' h1 h2 h3 F' N'
set_option maxHeartbeats 4000000 in
theorem pick_spec (w : World) (P Fa : Addr) (oP oF : Obj) (bound : Int) (t3 : Tok) (news : List (Addr × Obj)) (hb : 0 < bound) (hP : PoolOk Fa oP) (hFo : FigsOk oF) (hF : (Fa, oF) ∈ news) (hoff : ∀ p ∈ news, p.1 ≠ P) :
    Spec w 105 1 20 [.ref P, .int bound t3] ((P, oP) :: news) (fun v nw => X1 fun o' => A3 (nw = (P, o') :: news) (PoolOk Fa o') (X2 fun k t => A3 (v = .int k t) (0 ≤ k) (k < bound))) := by
  w_top off
  obtain ⟨n, i, mix, t1, t2, rfl, hi0, hi, hm0, hm1⟩ := hP
  obtain ⟨fv, figs, n2, rfl, hfv, hf⟩ := hFo
  refine spec_of [(Str.ofString "pool", .ref P), (Str.ofString "bound", .int bound t3)] (by k_is) (by k_is) rfl (locs rfl) ?_ rfl rfl rfl (by decide)
  intro mean mg mb dp un gd outer A₀ base g L s B F X N T hd' hu
  simp only [List.reverse_cons, List.reverse_nil, List.nil_append, List.cons_append, fm] at F
  have hlen := hfv.length
  have hfin : ∀ x : Int, 0 ≤ x.fmod bound ∧ x.fmod bound < bound := fun x => ⟨Int.fmod_nonneg_of_pos _ hb, Int.fmod_lt_of_pos _ hb⟩
  walk_at "NZ"
  · dsimp only
    (rename Fr _ _ _ _ => F9)
    (rename News _ _ _ _ => N9)
    have hi2 : i + 1 < 2 ^ 20 := by simp only [List.size_toArray] at *; omega
    exact ⟨_, _, _, _, rfl, F9, news_head N9 hoff, _, rfl, ⟨n, i + 1, mix, _, t2, rfl, by omega, hi2, hm0, hm1⟩, _, _, rfl, (hfin _).1, (hfin _).2⟩
  · dsimp only
    (rename Fr _ _ _ _ => F9)
    (rename News _ _ _ _ => N9)
    exact ⟨_, _, _, _, rfl, F9, N9, _, rfl, ⟨n, i, mix, _, t2, rfl, hi0, hi, hm0, hm1⟩, _, _, rfl, (hfin _).1, (hfin _).2⟩
  · dsimp only
    (rename Fr _ _ _ _ => F9)
    (rename News _ _ _ _ => N9)
    exact ⟨_, _, _, _, rfl, F9, news_head N9 hoff, _, rfl, ⟨n, i, _, t1, _, rfl, hi0, hi, Int.fmod_nonneg_of_pos _ (by decide), Int.fmod_lt_of_pos _ (by decide)⟩, _, _, rfl, (hfin _).1, (hfin _).2⟩
/-- a column's head -/
def headT (d : Lay) (k : Nat) : Str := match d.cnames with | some xs => xs.getD k Str.empty | none => Str.ofString "[," ++ num ((k : Int) + 1) ++ Str.ofString "]"
set_option maxHeartbeats 4000000 in
theorem column_head_spec (w : World) (x : Addr) (d : Lay) (k : Nat) (tk0 : Tok) (news : List (Addr × Obj)) (hx : LayIn news x d) (ho : LayOk d) (hk : k < d.cols.length) :
    Spec w 70 1 20 [.ref x, .int k tk0] news (fun v nw => nw = news ∧ ∃ t, v = .str (headT d k) t) := by
  w_top off
  have hx' := hx
  obtain ⟨dx, H, kt, n, cA, cvs, cn, v2, v3, v4, v5, t0, h1, h2, h3, h4, h5, h6, h7, h8⟩ := hx
  refine spec_of [(Str.ofString "layout", .ref x), (Str.ofString "place", .int k tk0)] (by k_is) (by k_is) rfl (locs rfl) ?_ rfl rfl rfl (by decide)
  intro mean mg mb dp un gd outer A₀ base g L s B F X N T hd' hu
  simp only [List.reverse_cons, List.reverse_nil, List.nil_append, List.cons_append, fm] at F
  have hc := ho.cols
  have hnum : (Str.ofString (toString ((k : Int) + 1))).length = 1 := num_len_small k (by omega)
  cases e : d.cnames with
  | none =>
    rw [e] at h6
    have h6' : v3 = .none := h6
    subst h6'
    walk_at "NZ"
    refine ⟨_, _, _, _, rfl, F, N, rfl, str_ex ?_⟩
    unfold headT; rw [e, empty_append']
  | some xs =>
    rw [e] at h6
    obtain ⟨a, vs, n', rfl, hm, hx⟩ := h6
    have hl := (ho.cn xs e).1
    have hz := (ho.cn xs e).2
    have hk2 : (k : Int) < xs.length := by omega
    walk_at "NZ"
    refine ⟨_, _, _, _, rfl, F, N, rfl, str_ex ?_⟩
    unfold headT; rw [e]
    simp_all
set_option maxHeartbeats 4000000 in
theorem lwidest_spec (w : World) (l : Addr) (vs : List Value) (n : Nat) (xs : List Str) (news : List (Addr × Obj)) (hm : (l, PySem.W.listOf vs.toArray n) ∈ news) (hx : Txts vs xs) (hz : ∀ x ∈ xs, x.length ≤ 1000) (hlen : xs.length ≤ 1000) :
    Spec w 122 1 20 [.ref l] news (fun v nw => nw = news ∧ ∃ t, v = .int (wid xs) t) := by
  w_top off
  refine spec_of [(Str.ofString "words", .ref l)] (by k_is) (by k_is) rfl (locs rfl) ?_ rfl rfl rfl (by decide)
  intro mean mg mb dp un gd outer A₀ base g L s B F X N T hd' hu
  simp only [List.reverse_cons, List.reverse_nil, List.nil_append, fm] at F
  have hxl := hx.length
  walk_at "NZ"
  (rename Fr _ _ _ _ => F2)
  (rename News _ _ _ _ => N2)
  refine LCg.ListComp_U F2 (by with_unfolding_all rfl) (by decide) rfl (by decide) rfl ?_
  walk_at "NZ"
  refine LCg.CompSrc.ledger rfl F2 N2 (by walk_at "NZ mem") (by rw [PySem.sizeLine_eq]; simp; omega) ?_
  intro g'
  (rename Off _ _ => hO)
  rename_i Z _
  refine comp_inv (fun i ys nw => nw = (Z, PySem.W.listOf #[Value.int 0 s.toks] 0) :: news ∧ Nums ys ((xs.take i).map (·.length))) ⟨rfl, .nil⟩ ?_ ?_
  · rintro i ys nw v I oI C oC D m₂ h tk E' hi hv ⟨rfl, hys⟩ hC hx2 F3 N3 off3 ne3
    obtain ⟨y, ty, rfl, hyi⟩ := hx.at hv
    have hyz := hz y (List.mem_of_getElem? hyi)
    walk_at "NZ"
    exact comp_end F3 N3 off3 (src_at (.tail _ hm)) ⟨rfl, by rw [List.take_add_one, hyi, List.map_append]; exact hys.snoc _ _⟩
  rintro ys nw ⟨rfl, hys⟩
  rintro D h tk F3 N3 o1
  have hyl := hys.length
  rw [List.take_of_length_le (by simp; omega)] at hys
  simp only [List.length_map, List.length_take, List.size_toArray] at hyl
  refine nz_addL F3 N3 (.tail _ (.head _)) (.head _) (by simp; omega) ?_
  intro l' h' F4 N4 hO4
  walk_at "NZ"
  refine nz_max rfl F4 N4 (.head _) (.cons 0 _ hys) (by simp) ?_
  intro h' M t tk F5 N5 hM hle
  walk_at "NZ"
  exact ⟨_, _, _, _, rfl, F5, news_sub N5 (fun p hp => .tail _ (.tail _ (.tail _ hp))), rfl, int_ex (by rw [wid_is hM hle])⟩
set_option maxHeartbeats 4000000 in
theorem lpool_spec (w : World) (l : Addr) (vs : List Value) (ns : List Int) (news : List (Addr × Obj)) (hx : IntsAre vs ns) (hlen : ns.length ≤ 63) :
    SpecP w (fun h => h.IsList l vs.toArray) 98 1 20 [.ref l] news (fun v nw => X4 fun P oP Fa oF => A5 (v = .ref P) (nw = (P, oP) :: (Fa, oF) :: news) (PoolOk Fa oP) (FigsOk oF) (Off P ((Fa, oF) :: news))) := by
  w_top off
  refine specP_of (fun h h' hk hl => hl.at fun o e => hk l o e) [(Str.ofString "script", .ref l)] (by k_is) (by k_is) rfl (locs rfl) ?_ rfl rfl rfl (by decide)
  intro mean mg mb dp un gd outer A₀ base g L s hbl B F X N T hd' hu
  simp only [List.reverse_cons, List.reverse_nil, List.nil_append, fm] at F
  have hxl := hx.length
  walk_at "NZi"
  (rename Fr _ _ _ _ => F2)
  (rename News _ _ _ _ => N2)
  (rename Off _ _ => hO)
  rename_i Fg _ _ _
  refine exec_mid [Str.ofString "mix", Str.ofString "cell", Str.ofString "big", Str.ofString "rest", Str.ofString "step"] (fun m nw' => X5 fun fv figs fn mix t => A6 (nw' = (Fg, PySem.W.listOf (List.toArray fv) fn) :: news) (IntsAre fv figs) (figs.length ≤ 460) (m (Str.ofString "mix") = some (.int mix t)) (0 ≤ mix) (mix < 1009)) F2 ?_ ?_
  rotate_left
  · rintro h' tk' m' nw' F3 N3 hs ⟨fv, figs, fn, mix, t, rfl, hfv, hfl, hmix, hm0, hm1⟩
    rw [hs.open5, hmix] at F3
    (try clear F2); (try clear N2)
    walk_at "NZ"
    (rename Fr _ _ _ _ => F9)
    (rename News _ _ _ _ => N9)
    (rename Off _ _ => hO9)
    exact ⟨_, _, _, _, rfl, F9, N9, _, _, Fg, _, rfl, rfl, ⟨_, 0, mix, _, _, rfl, by decide, by decide, hm0, hm1⟩, ⟨fv, figs, fn, rfl, hfv, by omega⟩, hO9⟩
  refine For_invVF F2 rfl rfl ?_
  walk_at "NZi"
  (try clear F2); (try clear N2)
  (rename Fr _ _ _ _ => F2)
  (rename News _ _ _ _ => N2)
  (rename IntsAre _ (List.take 40 ns) => hI)
  (rename _ ∧ AllLt _ news => hlt)
  rename_i D2 ws2 _ _ _
  have hO2 : Off D2 ((Fg, PySem.W.listOf #[] 0) :: news) := Off.cons (fun p hp => Nat.ne_of_lt (ktn_ltOf hlt.2 p hp)) (Nat.ne_of_lt hlt.1)
  refine for_list (L := L) rfl (fun i m nw' => (X3 fun fv figs fn => A3 (nw' = (D2, PySem.W.listOf (List.toArray ws2) 0) :: (Fg, PySem.W.listOf (List.toArray fv) fn) :: news) (IntsAre fv figs) (figs.length ≤ 400)) ∧ (X2 fun mix t => A3 (m (Str.ofString "mix") = some (.int mix t)) (0 ≤ mix) (mix < 1009)) ∧ Same [Str.ofString "mix", Str.ofString "cell", Str.ofString "big", Str.ofString "rest", Str.ofString "step"] m _) rfl F2 N2 (.head _) ?_ ⟨⟨[], [], _, rfl, .nil, Nat.zero_le _⟩, ⟨_, _, rfl, by decide, by decide⟩, .refl⟩ ?_ ?_
  · rintro i m nw ⟨⟨fv, figs, fn, rfl, _⟩, _⟩
    exact .head _
  · rintro i v m₁ nw' I oI h tk hv ⟨⟨fv, figs, fn, rfl, hfv, hfl⟩, ⟨mix, tm, hmix, hm0, hm1⟩, hs⟩ hI2 F7 N7
    rw [hs.open5, hmix] at F7
    (try clear F2); (try clear N2)
    obtain ⟨c, tc, rfl, hc⟩ := hI.at i v hv
    have hfvl := hfv.length
    walk_at "NZi"
    (try clear F7); (try clear N7)
    (rename Fr _ _ _ _ => F8)
    (rename News _ _ _ _ => N8)
    have hOg : Off D2 ((Fg, PySem.W.listOf (List.toArray fv) fn) :: news) := Off.cons hO2.tail hO2.head
    refine exec_mid [Str.ofString "step", Str.ofString "rest"] (fun m nw' => X3 fun fv figs fn => A3 (nw' = (I, oI) :: (D2, PySem.W.listOf (List.toArray ws2) 0) :: (Fg, PySem.W.listOf (List.toArray fv) fn) :: news) (IntsAre fv figs) (figs.length ≤ 460)) F8 ?_ ?_
    · refine For_invVF F8 rfl rfl ?_
      walk_at "NZi"
      (try clear F8); (try clear N8)
      (rename Fr _ _ _ _ => F8)
      (rename News _ _ _ _ => N8)
      (rename IsRange _ _ _ _ _ _ _ _ => R2)
      refine for_range0 (L := L) (b := 60) rfl (fun j m nw' => (X3 fun fv figs fn => A3 (nw' = (I, oI) :: (D2, PySem.W.listOf (List.toArray ws2) 0) :: (Fg, PySem.W.listOf (List.toArray fv) fn) :: news) (IntsAre fv figs) (figs.length ≤ 400 + j)) ∧ (X2 fun r t => m (Str.ofString "rest") = some (.int r t)) ∧ Same [Str.ofString "step", Str.ofString "rest"] m _) rfl R2 rfl (by decide) F8 N8 ⟨⟨_, _, _, rfl, hfv, by omega⟩, ⟨_, _, rfl⟩, .refl⟩ ?_ ?_
      · rintro j t m₁ nw' I2 oI2 h tk hj ⟨⟨fv, figs, fn, rfl, hfv, hfl⟩, ⟨r, tr, hr⟩, hs⟩ hI3 F7 N7
        rw [hs.open2, hr] at F7
        (try clear F8); (try clear N8)
        have hfvl := hfv.length
        have hIF : Fg ≠ I := hI2 (Fg, _) (.tail _ (.head _))
        walk_at "NZ"
        · (rename Fr _ _ _ _ => F9)
          (rename News _ _ _ _ => N9)
          rw [push_list] at N9
          exact midP F9 (news_of N9 ⟨_, .tail _ (.tail _ (.tail _ (.head _)))⟩ (by walk_at "NZ led")) ⟨by walk_at "SAME", _, _, _, rfl, hfv.append (.cons _ _ .nil), by simp; omega⟩
        · (rename Fr _ _ _ _ => F9)
          (rename News _ _ _ _ => N9)
          rw [push_list] at N9
          exact turnP_next F9 (news_of N9 ⟨_, .tail _ (.tail _ (.tail _ (.head _)))⟩ (by walk_at "NZ led")) (by walk_at "NZ offs") ⟨⟨_, _, _, rfl, hfv.append (.cons _ _ .nil), by simp; omega⟩, ⟨_, _, rfl⟩, by walk_at "SAME"⟩
      rintro m₁ nw' h tk ⟨⟨fv, figs, fn, rfl, hfv, hfl⟩, ⟨r, tr, hr⟩, hs⟩ F7 N7
      walk_at "NZ"
      exact midP F7 N7 ⟨hs, fv, figs, fn, rfl, hfv, by omega⟩
    rintro h' tk' m' nw' F9 N9 hs ⟨fv, figs, fn, rfl, hfv, hfl⟩
    rw [hs.open2] at F9
    (try clear F8); (try clear N8)
    have hfvl := hfv.length
    have hfvs : (List.toArray fv).size = fv.length := by simp
    walk_at "NZ"
    · exact midP F9 (news_sub N9 (by walk_at "NZ sub")) ⟨by walk_at "SAME", fv, figs, fn, _, _, rfl, hfv, hfl, rfl, Int.fmod_nonneg_of_pos _ (by decide), Int.fmod_lt_of_pos _ (by decide)⟩
    · exact turnP_next F9 N9 (by walk_at "NZ offs") ⟨⟨_, _, _, rfl, hfv, by omega⟩, ⟨_, _, rfl, Int.fmod_nonneg_of_pos _ (by decide), Int.fmod_lt_of_pos _ (by decide)⟩, by walk_at "SAME"⟩
  rintro m₁ nw' h tk ⟨⟨fv, figs, fn, rfl, hfv, hfl⟩, ⟨mix, tm, hmix, hm0, hm1⟩, hs⟩ F7 N7
  walk_at "NZ"
  exact midP F7 (news_sub N7 fun p hp => .tail _ hp) ⟨hs, fv, figs, fn, mix, tm, rfl, hfv, by omega, hmix, hm0, hm1⟩
theorem refsOf_cons {a : Addr} {o : Obj} {subs : List (Addr × Obj)} : refsOf ((a, o) :: subs) = refsOf subs ++ [Value.ref a] := by simp [refsOf]
theorem refsOf_len {subs : List (Addr × Obj)} : (refsOf subs).length = subs.length := by simp [refsOf]
theorem GsIn.length {subs : List (Addr × Obj)} {gs : List (List Nat)} (G : GsIn subs gs) : subs.length = gs.length := by
  induction G with
  | nil => rfl
  | cons _ _ ih => simp [ih]
theorem nz_lastR {prog : Program} {w : World} {A : Around} {E : Value → Shared → Prop} {s : Shared} {h₀ : Heap} {L : Addr} {nw : List (Addr × Obj)} {value slice : PySem.Expr} {l a : Addr} {o : Obj} {subs : List (Addr × Obj)} {n : Nat} {u : Tok} {Q : Value → Shared → Prop} (N : News h₀ L s.heap nw) (hm : (l, PySem.W.listOf (List.toArray (refsOf ((a, o) :: subs))) n) ∈ nw) (h : Q (.ref a) s)
    (hs : subscripted slice false (.ref l) (.int (-1) u) = operate [.ref l, .int (-1) u] (getItem (.ref l) (.int (-1) u)) := by with_unfolding_all rfl) (hg : ∀ r, letTemporaryGo value (.ref l) r = pure () := by intro _; with_unfolding_all rfl) :
    wpAny (model prog w) A (subscriptTail value slice (.ref l) (.int (-1) u)) Q E s :=
  nz_last (vs := refsOf subs) (v := .ref a) N (by rw [← refsOf_cons (o := o)]; exact hm) h hs hg
def pIf (width marks w : Nat) (st : List (List Nat) × Nat) : List (List Nat) × Nat := if st.1.isEmpty || decide (width ≤ st.2 + w) then ([] :: st.1, marks) else st
def pAdd (i w : Nat) (st : List (List Nat) × Nat) : List (List Nat) × Nat := ((match st.1 with | g :: r => (g ++ [i]) :: r | [] => []), st.2 + w)
def partsR (ws : List Nat) (marks width : Nat) : Nat → List (List Nat) × Nat
  | 0 => ([], 0)
  | i + 1 => pAdd i (ws.getD i 0) (pIf width marks (ws.getD i 0) (partsR ws marks width i))
def partsT (ws : List Nat) (marks width : Nat) : List (List Nat) := match (partsR ws marks width ws.length).1 with | [] => [[]] | g :: r => (g :: r).reverse
theorem pIf_ne (width marks w : Nat) (st : List (List Nat) × Nat) : (pIf width marks w st).1 ≠ [] := by
  unfold pIf
  obtain ⟨gs, tot⟩ := st
  cases gs with
  | nil => simp
  | cons g r => split <;> simp
theorem pIf_bd {width marks w i : Nat} {st : List (List Nat) × Nat} (h : st.1.length ≤ i ∧ ∀ g ∈ st.1, g.length ≤ i) : (pIf width marks w st).1.length ≤ i + 1 ∧ ∀ g ∈ (pIf width marks w st).1, g.length ≤ i := by
  unfold pIf
  split
  · refine ⟨by simpa using h.1, fun g hg => ?_⟩
    rcases List.mem_cons.mp hg with rfl | hg
    · simp
    · exact h.2 g hg
  · exact ⟨by omega, h.2⟩
theorem partsR_bd (ws : List Nat) (marks width : Nat) : ∀ i, (partsR ws marks width i).1.length ≤ i ∧ ∀ g ∈ (partsR ws marks width i).1, g.length ≤ i
  | 0 => ⟨Nat.le_refl _, fun _ h => nomatch h⟩
  | i + 1 => by
    have h := pIf_bd (width := width) (marks := marks) (w := ws.getD i 0) (partsR_bd ws marks width i)
    rw [show partsR ws marks width (i + 1) = pAdd i (ws.getD i 0) (pIf width marks (ws.getD i 0) (partsR ws marks width i)) from rfl]
    unfold pAdd
    revert h
    generalize pIf width marks (ws.getD i 0) (partsR ws marks width i) = st
    obtain ⟨gs, tot⟩ := st
    cases gs with
    | nil => intro _; exact ⟨by simp, fun _ h => nomatch h⟩
    | cons g r =>
      rintro ⟨h1, h2⟩
      refine ⟨by simpa using h1, fun x hx => ?_⟩
      rcases List.mem_cons.mp hx with rfl | hx
      · have := h2 g (.head _); simp; omega
      · have := h2 x (.tail _ hx); omega
theorem push_refs {a : Addr} {subs : List (Addr × Obj)} : (List.toArray (refsOf subs)).push (Value.ref a) = List.toArray (refsOf ((a, PySem.W.listOf (List.toArray []) 0) :: subs)) := by rw [push_list, refsOf_cons]
def HOff (news : List (Addr × Obj)) : List (Addr × Obj) → Prop
  | [] => True
  | p :: r => Off p.1 (r ++ news) ∧ HOff news r
theorem HOff.off {news : List (Addr × Obj)} : ∀ {subs : List (Addr × Obj)}, HOff news subs → ∀ p ∈ subs, Off p.1 news
  | [], _ => fun _ h => nomatch h
  | q :: r, h => fun p hp => by
    rcases List.mem_cons.mp hp with rfl | hp
    · exact h.1.sub fun x hx => List.mem_append_right _ hx
    · exact h.2.off p hp
theorem parts_use {w : World} {f : Addr} {D U : Nat} {vs0 : List Value} {news0 : List (Addr × Obj)} {zs : List (List Nat)} {news : List (Addr × Obj)} (S : Spec w f D U vs0 news0 (fun v nw => X4 fun D subs gs dn => A6 (v = .ref D) (nw = (D, PySem.W.listOf (List.toArray (refsOf subs)) dn) :: (subs ++ news)) (GsIn subs gs) (gs.reverse = zs) (Off D (subs ++ news)) (∀ p ∈ subs, Off p.1 news)))
    {mean : ExcName → Option Value} {mg mb : Str → Option Value} {dp un : Nat} {gd : Option (List Code)} {cn : Str} {cs : Scope} {a : Addr} {ccd : Value} {cl : List (Str × Addr)} {outer : List Env} {A₀ : Around} {base h₀ : Heap} {L : Addr} {m : Str → Option Value} {s : Shared} {Q E : Value → Shared → Prop}
    (B : Below A₀ base outer h₀) (F : Fr h₀ L s.heap m) (X : (hd.heap_39 w.params).In h₀) (N : News h₀ L s.heap news0) (T : Top hd.view_39 (looseW hd.view_39 []) mean mg mb h₀) (hk : cs.kind = .function) (hd : dp + D < recursionLimit) (hu : un + U < cLine)
    (ret : ∀ D subs gs dn h' tk', GsIn subs gs → gs.reverse = zs → Off D (subs ++ news) → (∀ p ∈ subs, Off p.1 news) → Fr h₀ L h' m → News h₀ L h' ((D, PySem.W.listOf (List.toArray (refsOf subs)) dn) :: (subs ++ news)) → Q (.ref D) { s with heap := h', toks := tk' }) :
    wpAny (model PySem.Challenge.rw_nz0464_01.row.prog w) (ktrTop dp un gd cn cs L a ccd cl outer) (call (.ref f) vs0) Q E s :=
  S.use B F X N T hk hd hu fun v nw h' tk' hR F' N' => by
    obtain ⟨D, subs, gs, dn, rfl, rfl, h1, h2, h3, h4⟩ := hR
    exact ret D subs gs dn h' tk' h1 h2 h3 h4 F' N'
set_option maxHeartbeats 4000000 in
theorem lparts_spec (w : World) (l : Addr) (vs : List Value) (n : Nat) (ws : List Nat) (marks width : Nat) (t1 t2 : Tok) (news : List (Addr × Obj)) (hm : (l, PySem.W.listOf vs.toArray n) ∈ news) (hx : Nums vs ws) (hz : ∀ x ∈ ws, x ≤ 1000) (hlen : ws.length ≤ 7) :
    Spec w 139 1 100 [.ref l, .int marks t1, .int width t2] news (fun v nw => X4 fun D subs gs dn => A6 (v = .ref D) (nw = (D, PySem.W.listOf (List.toArray (refsOf subs)) dn) :: (subs ++ news)) (GsIn subs gs) (gs.reverse = partsT ws marks width) (Off D (subs ++ news)) (∀ p ∈ subs, Off p.1 news)) := by
  w_top off
  refine spec_of [(Str.ofString "wide", .ref l), (Str.ofString "marks", .int marks t1), (Str.ofString "width", .int width t2)] (by k_is) (by k_is) rfl (locs rfl) ?_ rfl rfl rfl (by decide)
  intro mean mg mb dp un gd outer A₀ base g L s B F X N T hd' hu
  simp only [List.reverse_cons, List.reverse_nil, List.nil_append, List.cons_append, fm] at F
  have hxl := hx.length
  walk_at "NZi"
  (rename Fr _ _ _ _ => F2)
  (rename News _ _ _ _ => N2)
  (rename Off _ _ => hO)
  rename_i Pa _ _ _
  refine For_invVF F2 rfl rfl ?_
  walk_at "NZi"
  (rename IsRange _ _ _ _ _ _ _ _ => R1)
  (try clear F2); (try clear N2)
  (rename Fr _ _ _ _ => F2)
  (rename News _ _ _ _ => N2)
  refine for_range0 (L := L) (b := ws.length) rfl (fun i m nw' => (X5 fun subs gs tot tv pn => A6 (nw' = (Pa, PySem.W.listOf (List.toArray (refsOf subs)) pn) :: (subs ++ news)) (GsIn subs gs) (partsR ws marks width i = (gs, tot)) (m (Str.ofString "total") = some (.int (tot : Nat) tv)) (Off Pa (subs ++ news)) (HOff news subs)) ∧ Same [Str.ofString "step", Str.ofString "total"] m _) rfl R1 (by simp [hxl]) (by omega) F2 N2 ⟨⟨[], [], 0, _, _, rfl, .nil, rfl, rfl, hO, trivial⟩, .refl⟩ ?_ ?_
  · rintro i t m₁ nw' I oI h tk hi ⟨⟨subs, gs, tot, tv, pn, rfl, G, hR, htot, hP, hH⟩, hs⟩ hI F7 N7
    rw [hs.open2, htot] at F7
    (try clear F2); (try clear N2)
    have hbd := partsR_bd ws marks width i
    rw [hR] at hbd
    have hGl := G.length
    have hrb : (refsOf subs).length ≤ 7 := by have := hbd.1; rw [refsOf_len, hGl]; dsimp only at this; omega
    have hPI : Pa ≠ I := hI.head
    have hmem0 : (l, PySem.W.listOf vs.toArray n) ∈ subs ++ news := List.mem_append_right _ hm
    obtain ⟨wi, hwi⟩ : ∃ z, ws[i]? = some z := ⟨ws[i]'(by omega), by simp⟩
    have hgd : ws.getD i 0 = wi := getD_of hwi
    have hmem : (l, PySem.W.listOf vs.toArray n) ∈ (I, oI) :: (Pa, PySem.W.listOf (List.toArray (refsOf subs)) pn) :: (subs ++ news) := .tail _ (.tail _ (List.mem_append_right _ hm))
    walk_at "NZi"
    refine exec_mid [Str.ofString "total"] (fun m nw2 => X5 fun subs' gs' tot' tv' pn' => A7 (nw2 = (I, oI) :: (Pa, PySem.W.listOf (List.toArray (refsOf subs')) pn') :: (subs' ++ news)) (GsIn subs' gs') (pIf width marks wi (gs, tot) = (gs', tot')) (m (Str.ofString "total") = some (.int (tot' : Nat) tv')) (Off Pa (subs' ++ news)) (HOff news subs') (Off I (subs' ++ news))) F7 ?_ ?_
    · walk_at "NZ"
      (rename Fr _ _ _ _ => F8)
      (rename News _ _ _ _ => N8)
      (rename Off _ (_ :: _ :: _) => hO8)
      refine nz_eqNil (subs := subs) (gs := gs) N8 (.tail _ (.tail _ (.head _))) G (fun p hp => .tail _ (.tail _ (.tail _ (List.mem_append_left _ hp)))) (.head _) (by show un + 64 < cLine; omega) ?_
      have new : ∀ {l2 : Addr} {oo : Obj}, Off l2 ((Pa, oo) :: (subs ++ news)) → l2 ≠ I → (Off Pa (((l2, PySem.W.listOf (List.toArray []) 0) :: subs) ++ news) ∧ HOff news ((l2, PySem.W.listOf (List.toArray []) 0) :: subs) ∧ Off I (((l2, PySem.W.listOf (List.toArray []) 0) :: subs) ++ news)) := fun h1 h2 => ⟨Off.cons hP (Ne.symm h1.head), ⟨h1.tail, hH⟩, Off.cons hI.tail h2⟩
      have G0 := G
      cases G with
      | nil =>
        walk_at "NZ"
        (rename Fr _ _ _ _ => F9)
        (rename News _ _ _ _ => N9)
        (rename Off _ (_ :: _ :: _ :: _) => hO9)
        rename_i l2 _ _ _
        rw [push_refs] at N9
        have h1 : l2 ≠ Pa := Ne.symm (hO9.ne (.tail _ (.tail _ (.head _))))
        have h2 : l2 ≠ I := Ne.symm (hO9.ne (.tail _ (.head _)))
        have hn := new (oo := PySem.W.listOf #[] 0) (Off.cons (fun p hp => hO9 p (.tail _ (.tail _ (.tail _ hp)))) (Ne.symm h1)) h2
        exact midP F9 (news_of (l := (I, oI) :: (Pa, PySem.W.listOf (List.toArray (refsOf ((l2, PySem.W.listOf (List.toArray []) 0) :: _))) (pn + 1)) :: (l2, PySem.W.listOf (List.toArray []) 0) :: (_ ++ news)) N9 ⟨_, by walk_at "NZ mem"⟩ (by walk_at "NZ led")) ⟨by walk_at "SAME", _, _, _, _, _, rfl, .cons .nil G0, rfl, rfl, hn.1, hn.2.1, hn.2.2⟩
      | cons hx' G' =>
        simp only [List.isEmpty_cons]
        clear hx' G'
        walk_at "NZ"
        · (rename ws[i]? = some _ => hwi2)
          (rename Fr _ _ _ _ => F9)
          (rename News _ _ _ _ => N9)
          (rename Off _ (_ :: _ :: _ :: _) => hO9)
          rename_i l2 _ _ _
          obtain rfl := Option.some.inj (hwi.symm.trans hwi2)
          rw [push_refs] at N9
          have h1 : l2 ≠ Pa := Ne.symm (hO9.ne (.tail _ (.tail _ (.head _))))
          have h2 : l2 ≠ I := Ne.symm (hO9.ne (.tail _ (.head _)))
          have hn := new (oo := PySem.W.listOf #[] 0) (Off.cons (fun p hp => hO9 p (.tail _ (.tail _ (.tail _ hp)))) (Ne.symm h1)) h2
          exact midP F9 (news_of (l := (I, oI) :: (Pa, PySem.W.listOf (List.toArray (refsOf ((l2, PySem.W.listOf (List.toArray []) 0) :: _))) (pn + 1)) :: (l2, PySem.W.listOf (List.toArray []) 0) :: (_ ++ news)) N9 ⟨_, by walk_at "NZ mem"⟩ (by walk_at "NZ led")) ⟨by walk_at "SAME", _, _, _, _, _, rfl, .cons .nil G0, by unfold pIf; simp; omega, rfl, hn.1, hn.2.1, hn.2.2⟩
        · (rename ws[i]? = some _ => hwi2)
          obtain rfl := Option.some.inj (hwi.symm.trans hwi2)
          exact midP F8 (news_sub N8 fun p hp => .tail _ hp) ⟨by walk_at "SAME", _, _, _, _, _, rfl, G0, by unfold pIf; simp; omega, rfl, hP, hH, hI.tail⟩
    · rintro h' tk' m' nw2 F3 N3 hs2 ⟨subs', gs', tot', tv', pn', rfl, G', hR', htot', hP', hH', hI'⟩
      rw [hs2.open1, htot'] at F3
      (try clear F7); (try clear N7)
      cases G' with
      | nil => exact absurd (congrArg Prod.fst hR') (pIf_ne _ _ _ _)
      | cons hx' G' =>
        rename_i a us n' g' subs' gs'
        have hbd2 := pIf_bd (width := width) (marks := marks) (w := wi) hbd
        rw [hR'] at hbd2
        have hul := hx'.length
        have hgl := hbd2.2 g' (.head _)
        rw [List.cons_append] at N3
        have hmem2 : (l, PySem.W.listOf vs.toArray n) ∈ subs' ++ news := List.mem_append_right _ hm
        have hla : l ≠ a := Off.ne hH'.1 (List.mem_append_right _ hm)
        have hHa : Off a (subs' ++ news) := hH'.1
        have hPI' : Pa ≠ I := hI.head
        walk_at "NZ"
        refine nz_lastR (a := a) (o := PySem.W.listOf us.toArray n') (subs := subs') N3 (.tail _ (.head _)) ?_
        have hma : (a, PySem.W.listOf us.toArray n') ∈ (I, oI) :: (Pa, PySem.W.listOf (List.toArray (refsOf ((a, PySem.W.listOf us.toArray n') :: subs'))) pn') :: (((a, PySem.W.listOf us.toArray n') :: subs') ++ news) := .tail _ (.tail _ (.head _))
        have haI : a ≠ I := hI'.head
        have hxs : True → Nums us g' := fun _ => hx'
        clear hx'
        have haP : a ≠ Pa := hP'.head
        walk_at "NZ"
        (rename Fr _ _ _ _ => F9)
        (rename News _ _ _ _ => N9)
        (rename ws[i]? = some _ => hwi2)
        obtain rfl := Option.some.inj (hwi.symm.trans hwi2)
        rw [push_list] at N9
        exact turnP_next F9 (news_of (l := (I, oI) :: (Pa, PySem.W.listOf (List.toArray (refsOf ((a, PySem.W.listOf us.toArray n') :: subs'))) pn') :: (a, PySem.W.listOf (List.toArray (us ++ [Value.int i t])) (n' + 1)) :: (subs' ++ news)) N9 ⟨_, hma⟩ (by walk_at "NZ led")) (Off.cons (Off.cons hI'.tail haI) hPI)
          ⟨⟨(a, PySem.W.listOf (List.toArray (us ++ [Value.int i t])) (n' + 1)) :: subs', (g' ++ [i]) :: gs', tot' + wi, _, pn', rfl, .cons ((hxs trivial).snoc i t) G', by rw [show partsR ws marks width (i + 1) = pAdd i (ws.getD i 0) (pIf width marks (ws.getD i 0) (partsR ws marks width i)) from rfl, hgd, hR, hR']; rfl, rfl, Off.cons hP'.tail haP, hHa, hH'.2⟩, by walk_at "SAME"⟩
  rintro m₁ nw' h tk ⟨⟨subs, gs, tot, tv, pn, rfl, G, hR, htot, hP, hH⟩, hs⟩ F7 N7
  rw [hs.open2, htot] at F7
  (try clear F2); (try clear N2)
  walk_at "NZ"
  (rename Fr _ _ _ _ => F9)
  (rename News _ _ _ _ => N9)
  refine nz_neNil (subs := subs) (gs := gs) N9 (.tail _ (.head _)) G (fun p hp => .tail _ (.tail _ (List.mem_append_left _ hp))) (.head _) (by show un + 64 < cLine; omega) ?_
  unfold partsT
  rw [hR]
  cases G with
  | nil =>
    simp only [List.isEmpty_nil, Bool.not_true]
    walk_at "NZ"
    (rename Fr _ _ _ _ => F10)
    (rename News _ _ _ _ => N10)
    rename_i Z1 _ _ _ _ Z2 _ hO10
    simp only [List.nil_append] at N10 hO10
    (rename Off Z1 _ => hOZ)
    exact ⟨_, _, _, (Z2, PySem.W.listOf #[Value.ref Z1] 0) :: (Z1, PySem.W.listOf #[] 0) :: news, rfl, F10, news_sub N10 (by walk_at "NZ sub"), Z2, [(Z1, PySem.W.listOf (List.toArray []) 0)], [[]], 0, rfl, rfl, .cons .nil .nil, rfl, Off.sub (nw' := (Z1, PySem.W.listOf #[] 0) :: news) hO10 (by walk_at "NZ sub"), fun p hp => by rw [List.mem_singleton.mp hp]; exact hOZ.sub (by walk_at "NZ sub")⟩
  | cons hx' G' =>
    simp only [List.isEmpty_cons, Bool.not_false]
    walk_at "NZ"
    exact ⟨_, _, _, _, rfl, F9, news_sub N9 (fun p hp => .tail _ hp), Pa, _, _, pn, rfl, rfl, .cons hx' G', rfl, hP, hH.off⟩
set_option maxHeartbeats 4000000 in
theorem label_room_spec (w : World) (x : Addr) (d : Lay) (news : List (Addr × Obj)) (hx : LayIn news x d) (ho : LayOk d) :
    Spec w 56 2 23 [.ref x] news (fun v nw => nw = news ∧ ∃ t, v = .int (room d) t) := by
  w_top off
  obtain ⟨dx, H, kt, n, cA, cvs, cn, v2, v3, v4, v5, t0, h1, h2, h3, h4, h5, h6, h7, h8⟩ := hx
  refine spec_of [(Str.ofString "layout", .ref x)] (by k_is) (by k_is) rfl (locs rfl) ?_ rfl rfl rfl (by decide)
  intro mean mg mb dp un gd outer A₀ base g L s B F X N T hd' hu
  simp only [List.reverse_cons, List.reverse_nil, List.nil_append, List.cons_append, fm] at F
  have hrows := ho.rows
  cases e : d.rnames with
  | none =>
    rw [e] at h5
    have h5' : v2 = .none := h5
    subst h5'
    walk_at "NZ"
    refine ⟨_, _, _, _, rfl, F, N, rfl, int_ex ?_⟩
    unfold room; rw [e]; rfl
  | some xs =>
    rw [e] at h5
    obtain ⟨a, vs, n', rfl, hm, hx⟩ := h5
    walk_at "NZ"
    refine Spec.useI (widest_spec w a vs n' xs news hm hx fun y hy => by have := (ho.rn xs e).2 y hy; omega) B F X N T rfl (ltA hd' rfl) (ltA hu rfl) ?_
    intro t h' tk' F' N'
    walk_at "NZ"
    refine ⟨_, _, _, _, rfl, F', N', rfl, int_ex ?_⟩
    unfold room; rw [e]
set_option maxHeartbeats 4000000 in
theorem row_offset_spec (w : World) (x : Addr) (d : Lay) (news : List (Addr × Obj)) (hx : LayIn news x d) (ho : LayOk d) :
    Spec w 49 3 26 [.ref x] news (fun v nw => nw = news ∧ ∃ t, v = .int (offs d) t) := by
  w_top off
  have hx' := hx
  obtain ⟨dx, H, kt, n, cA, cvs, cn, v2, v3, v4, v5, t0, h1, h2, h3, h4, h5, h6, h7, h8⟩ := hx
  refine spec_of [(Str.ofString "layout", .ref x)] (by k_is) (by k_is) rfl (locs rfl) ?_ rfl rfl rfl (by decide)
  intro mean mg mb dp un gd outer A₀ base g L s B F X N T hd' hu
  simp only [List.reverse_cons, List.reverse_nil, List.nil_append, List.cons_append, fm] at F
  cases e : d.rtitle with
  | none =>
    rw [e] at h7
    have h7' : v4 = .none := h7
    subst h7'
    walk_at "NZ"
    refine ⟨_, _, _, _, rfl, F, N, rfl, int_ex ?_⟩
    unfold offs; rw [e]; rfl
  | some z =>
    have hz := ho.rt z e
    rw [e] at h7
    obtain ⟨tz, rfl⟩ := h7
    walk_at "NZ"
    refine Spec.useI (label_room_spec w x d news hx' ho) B F X N T rfl (ltA hd' rfl) (ltA hu rfl) ?_
    intro t h' tk' F' N'
    walk_at "NZ"
    (rename Fr _ _ _ _ => F9)
    (rename News _ _ _ _ => N9)
    refine ⟨_, _, _, _, rfl, F9, N9, rfl, int_ex ?_⟩
    unfold offs; rw [e]; dsimp only; split <;> omega
/-- a row's label -/
def labelT (d : Lay) (k : Nat) : Str := sp (offs d) ++ (match d.rnames with | some xs => fillT (xs.getD k Str.empty) (room d) true | none => fillT (Str.ofString "[" ++ num ((k : Int) + 1) ++ Str.ofString ",]") (room d) false)
set_option maxHeartbeats 4000000 in
theorem row_label_spec (w : World) (x : Addr) (d : Lay) (k : Nat) (tk0 : Tok) (news : List (Addr × Obj)) (hx : LayIn news x d) (ho : LayOk d) (hk : k < d.rows) :
    Spec w 63 4 29 [.ref x, .int k tk0] news (fun v nw => nw = news ∧ ∃ t, v = .str (labelT d k) t) := by
  w_top off
  have hx' := hx
  obtain ⟨dx, H, kt, n, cA, cvs, cn, v2, v3, v4, v5, t0, h1, h2, h3, h4, h5, h6, h7, h8⟩ := hx
  refine spec_of [(Str.ofString "layout", .ref x), (Str.ofString "place", .int k tk0)] (by k_is) (by k_is) rfl (locs rfl) ?_ rfl rfl rfl (by decide)
  intro mean mg mb dp un gd outer A₀ base g L s B F X N T hd' hu
  simp only [List.reverse_cons, List.reverse_nil, List.nil_append, List.cons_append, fm] at F
  have hc := ho.rows
  have hnum : (Str.ofString (toString ((k : Int) + 1))).length = 1 := num_len_small k (by omega)
  walk_at "NZ"
  refine Spec.useI (label_room_spec w x d news hx' ho) B F X N T rfl (ltA hd' rfl) (ltA hu rfl) ?_
  intro t h' tk' F' N'
  walk_at "NZ"
  refine Spec.useI (row_offset_spec w x d _ hx' ho) B (by assumption) X (by assumption) T rfl (ltA hd' rfl) (ltA hu rfl) ?_
  intro t h' tk' F' N'
  have hr := room_le ho
  have hof := offs_le ho
  cases e : d.rnames with
  | none =>
    rw [e] at h5
    have h5' : v2 = .none := h5
    subst h5'
    walk_at "NZ"
    (rename Fr _ _ _ _ => F9)
    (rename News _ _ _ _ => N9)
    refine ⟨_, _, _, _, rfl, F9, N9, rfl, str_ex ?_⟩
    unfold labelT; rw [e, empty_append', mul_sp, rjust_eq]; rfl
  | some xs =>
    rw [e] at h5
    obtain ⟨a, vs, n', rfl, hm, hx⟩ := h5
    have hl := (ho.rn xs e).1
    have hz := (ho.rn xs e).2
    have hk2 : (k : Int) < xs.length := by omega
    walk_at "NZ"
    (rename Fr _ _ _ _ => F9)
    (rename News _ _ _ _ => N9)
    refine ⟨_, _, _, _, rfl, F9, N9, rfl, str_ex ?_⟩
    unfold labelT; rw [e, mul_sp, ljust_eq]
    simp_all [fillT]
theorem headT_len {d : Lay} (ho : LayOk d) {k : Nat} (hk : k < d.cols.length) : (headT d k).length ≤ 10 := by
  unfold headT
  have := ho.cols
  have hnum : (num ((k : Int) + 1)).length = 1 := num_len_small k (by omega)
  cases e : d.cnames with
  | none => simp only [PySem.Str.length_append, nz_len_lits, hnum]; decide
  | some xs =>
    have hl := (ho.cn xs e).1
    dsimp only
    exact (ho.cn xs e).2 _ (by rw [List.getD_eq_getElem?_getD, List.getElem?_eq_getElem (by omega)]; exact List.getElem_mem _)
/-- the cells of a row: the heads or a row's items -/
def cellsT (d : Lay) (ws : List Nat) (f : Nat → Str) (b n : Nat) : List Str := (List.range n).map fun i => sp 1 ++ fillT (f (b + i)) (ws.getD (b + i) 0) d.left
theorem cellsT_succ (d : Lay) (ws : List Nat) (f : Nat → Str) (b n : Nat) : cellsT d ws f b (n + 1) = cellsT d ws f b n ++ [sp 1 ++ fillT (f (b + n)) (ws.getD (b + n) 0) d.left] := by
  unfold cellsT
  rw [List.range_succ, List.map_append]; rfl
/-- the title of the columns -/
def topT (d : Lay) : List Str := match d.ctitle with | some c => [sp (room d + offs d) ++ c] | none => []
/-- the title of the rows -/
def titleT (d : Lay) : Str := match d.rtitle with | some c => c | none => Str.ofString ""
theorem titleT_len {d : Lay} (ho : LayOk d) : (titleT d).length ≤ 10 := by
  unfold titleT
  cases e : d.rtitle with
  | none => dsimp only; rw [nz_len_lits.2.2.2.2.2]; decide
  | some c => exact ho.rt c e
theorem cellsT_length (d : Lay) (ws : List Nat) (f : Nat → Str) (b n : Nat) : (cellsT d ws f b n).length = n := by simp [cellsT]
theorem cellsT_le {d : Lay} {ws : List Nat} {f : Nat → Str} {b n : Nat} (hws : ∀ x ∈ ws, x ≤ 10) (hf : ∀ i, i < n → (f (b + i)).length ≤ 10) : ∀ x ∈ cellsT d ws f b n, x.length ≤ 100 := by
  intro x hx
  obtain ⟨i, hi, rfl⟩ := List.mem_map.mp hx
  have h1 := hf i (List.mem_range.mp hi)
  have h2 : ws.getD (b + i) 0 ≤ 10 := by
    rw [List.getD_eq_getElem?_getD]
    cases e : ws[b + i]? with
    | none => exact Nat.zero_le _
    | some y => exact hws y (List.mem_of_getElem? e)
  rw [PySem.Str.length_append, sp_length, fillT_length]
  omega
def lineT (d : Lay) (ws : List Nat) (b e : Nat) : Str := catT (fillT (titleT d) (room d + offs d) true :: cellsT d ws (headT d) b (e - b))
def rowT (d : Lay) (ws : List Nat) (b e : Nat) (r : Nat) : Str := catT (labelT d r :: cellsT d ws (fun j => (d.cols.getD j []).getD r Str.empty) b (e - b))
def blockT (d : Lay) (ws : List Nat) (b e : Nat) : List Str := topT d ++ [lineT d ws b e] ++ (List.range d.rows).map (rowT d ws b e)
theorem labelT_len {d : Lay} (ho : LayOk d) {k : Nat} (hk : k < d.rows) : (labelT d k).length ≤ 100 := by
  unfold labelT
  have h1 := room_le ho
  have h2 := offs_le ho
  have h3 := ho.rows
  have hnum : (num ((k : Int) + 1)).length = 1 := num_len_small k (by omega)
  rw [PySem.Str.length_append, sp_length]
  cases e : d.rnames with
  | none => dsimp only; rw [fillT_length]; simp only [PySem.Str.length_append, nz_len_lits, hnum]; omega
  | some xs =>
    have hl := (ho.rn xs e).1
    have := (ho.rn xs e).2 (xs.getD k Str.empty) (by rw [List.getD_eq_getElem?_getD, List.getElem?_eq_getElem (by omega)]; exact List.getElem_mem _)
    dsimp only
    rw [fillT_length]; omega
theorem cell_len {d : Lay} (ho : LayOk d) {j r : Nat} : ((d.cols.getD j []).getD r Str.empty).length ≤ 10 := by
  rw [List.getD_eq_getElem?_getD, List.getD_eq_getElem?_getD]
  cases e : d.cols[j]? with
  | none => simp [nz_len_empty]
  | some c =>
    have hc := ho.col c (List.mem_of_getElem? e)
    simp only [Option.getD_some]
    cases e2 : c[r]? with
    | none => simp [nz_len_empty]
    | some x => exact hc.2 x (List.mem_of_getElem? e2)
theorem rows_use {w : World} {f : Addr} {D U : Nat} {vs0 : List Value} {news0 : List (Addr × Obj)} {ys : List Str} {news : List (Addr × Obj)} (S : Spec w f D U vs0 news0 (fun v nw => X3 fun Rr rv n => A4 (v = .ref Rr) (nw = (Rr, PySem.W.listOf (List.toArray rv) n) :: news) ((∀ p ∈ news, p.1 ≠ Rr)) (Txts rv ys)))
    {mean : ExcName → Option Value} {mg mb : Str → Option Value} {dp un : Nat} {gd : Option (List Code)} {cn : Str} {cs : Scope} {a : Addr} {ccd : Value} {cl : List (Str × Addr)} {outer : List Env} {A₀ : Around} {base h₀ : Heap} {L : Addr} {m : Str → Option Value} {s : Shared} {Q E : Value → Shared → Prop}
    (B : Below A₀ base outer h₀) (F : Fr h₀ L s.heap m) (X : (hd.heap_39 w.params).In h₀) (N : News h₀ L s.heap news0) (T : Top hd.view_39 (looseW hd.view_39 []) mean mg mb h₀) (hk : cs.kind = .function) (hd : dp + D < recursionLimit) (hu : un + U < cLine)
    (ret : ∀ Rr rv n h' tk', (∀ p ∈ news, p.1 ≠ Rr) → Txts rv ys → Fr h₀ L h' m → News h₀ L h' ((Rr, PySem.W.listOf (List.toArray rv) n) :: news) → Q (.ref Rr) { s with heap := h', toks := tk' }) :
    wpAny (model PySem.Challenge.rw_nz0464_01.row.prog w) (ktrTop dp un gd cn cs L a ccd cl outer) (call (.ref f) vs0) Q E s :=
  S.use B F X N T hk hd hu fun v nw h' tk' hR F' N' => by
    obtain ⟨Rr, rv, n, rfl, rfl, h1, h2⟩ := hR
    exact ret Rr rv n h' tk' h1 h2 F' N'
set_option maxHeartbeats 8000000 in
theorem block_rows_spec (w : World) (x W : Addr) (d : Lay) (wv : List Value) (wn : Nat) (ws : List Nat) (b e : Nat) (t1 t2 : Tok) (news : List (Addr × Obj)) (hx : LayIn news x d) (ho : LayOk d)
    (hW : (W, PySem.W.listOf wv.toArray wn) ∈ news) (hwv : Nums wv ws) (hws : ∀ x ∈ ws, x ≤ 10) (hwl : ws.length = d.cols.length) (hbe : b ≤ e) (he : e ≤ d.cols.length) :
    Spec w 84 5 32 [.ref x, .ref W, .int b t1, .int e t2] news (fun v nw => X3 fun Rr rv n => A4 (v = .ref Rr) (nw = (Rr, PySem.W.listOf (List.toArray rv) n) :: news) ((∀ p ∈ news, p.1 ≠ Rr)) (Txts rv (blockT d ws b e))) := by
  w_top off
  have hx' := hx
  obtain ⟨dx, H, kt, n, cA, cvs, cn, v2, v3, v4, v5, t0, h1, h2, h3, h4, h5, h6, h7, h8⟩ := hx
  refine spec_of [(Str.ofString "layout", .ref x), (Str.ofString "widths", .ref W), (Str.ofString "begin", .int b t1), (Str.ofString "end", .int e t2)] (by k_is) (by k_is) rfl (locs rfl) ?_ rfl rfl rfl (by decide)
  intro mean mg mb dp un gd outer A₀ base g L s B F X N T hd' hu
  simp only [List.reverse_cons, List.reverse_nil, List.nil_append, List.cons_append, fm] at F
  have hc := ho.cols
  have hr := room_le ho
  have hof := offs_le ho
  walk_at "NZi"
  refine Spec.useI (label_room_spec w x d news hx' ho) B F X N T rfl (ltA hd' rfl) (ltA hu rfl) ?_
  intro t h' tk' F1 N1
  obtain ⟨nw, rfl⟩ : ∃ nw, nw = news := ⟨_, rfl⟩
  walk_at "NZi"
  refine Spec.useI (row_offset_spec w x d _ hx' ho) B F1 X N1 T rfl (ltA hd' rfl) (ltA hu rfl) ?_
  intro t h' tk' F1 N1
  walk_at "NZi"
  (rename Fr _ _ _ _ => F2)
  (rename News _ _ _ _ => N2)
  (rename Off _ _ => hO)
  rename_i Rr _ _
  simp only [← Int.natCast_add] at F2
  refine exec_mid [] (fun m nw' => X2 fun rv n => A2 (nw' = (Rr, PySem.W.listOf (List.toArray rv) n) :: nw) (Txts rv (topT d))) F2 ?_ ?_
  · cases ec : d.ctitle with
    | none =>
      rw [ec] at h8
      have h8' : v5 = .none := h8
      subst h8'
      walk_at "NZ"
      (rename Fr _ _ _ _ => F9)
      (rename News _ _ _ _ => N9)
      exact midP F9 N9 ⟨.refl, _, _, rfl, by unfold topT; rw [ec]; exact .nil⟩
    | some c =>
      rw [ec] at h8
      obtain ⟨tc, rfl⟩ := h8
      have hcl := ho.ct c ec
      walk_at "NZ"
      (rename Fr _ _ _ _ => F9)
      (rename News _ _ _ _ => N9)
      simp only [mul_sp, Int.toNat_natCast] at N9
      exact midP F9 (news_head N9 hO) ⟨.refl, _, _, rfl, by unfold topT; rw [ec]; exact .cons _ _ .nil⟩
  rintro h' tk' m' nw' F3 N3 hs ⟨rv, rn, rfl, hrv⟩
  rw [hs.open0] at F3
  clear hs F2 N2
  walk_at "NZi"
  (rename Fr _ _ _ _ => F4)
  (rename News _ _ _ _ => N4)
  refine exec_mid [Str.ofString "title"] (fun m nw' => nw' = (Rr, PySem.W.listOf (List.toArray rv) rn) :: nw ∧ ∃ t, m (Str.ofString "title") = some (.str (titleT d) t)) F4 ?_ ?_
  · cases ec : d.rtitle with
    | none =>
      rw [ec] at h7
      have h7' : v4 = .none := h7
      subst h7'
      walk_at "NZ"
      (rename Fr _ _ _ _ => F9)
      (rename News _ _ _ _ => N9)
      exact midP F9 N9 ⟨.refl, rfl, by unfold titleT; rw [ec]; exact ⟨_, rfl⟩⟩
    | some c =>
      rw [ec] at h7
      obtain ⟨tc, rfl⟩ := h7
      have hcl := ho.rt c ec
      walk_at "NZ"
      (rename Fr _ _ _ _ => F9)
      (rename News _ _ _ _ => N9)
      exact midP F9 N9 ⟨by walk_at "SAME", rfl, by unfold titleT; rw [ec]; exact ⟨_, rfl⟩⟩
  rintro h' tk' m' nw' F5 N5 hs ⟨rfl, tt, htt⟩
  rw [hs.open1, htt] at F5
  clear hs F4 N4
  have htl : (titleT d).length ≤ 10 := titleT_len ho
  walk_at "NZi"
  (rename Fr _ _ _ _ => F6)
  (rename News _ _ _ _ => N6)
  (rename Off _ _ => hO1)
  rename_i P1 _ _
  refine For_invVF F6 rfl rfl ?_
  walk_at "NZi"
  (try clear F6); (try clear N6)
  (rename IsRange _ _ _ _ _ _ _ _ => R1)
  (rename Fr _ _ _ _ => F6)
  (rename News _ _ _ _ => N6)
  refine for_rangeN (L := L) rfl (fun i m nw' => (X2 fun pv pn => A2 (nw' = (P1, PySem.W.listOf (List.toArray pv) pn) :: (Rr, PySem.W.listOf rv.toArray rn) :: nw) (Txts pv (fillT (titleT d) (room d + offs d) true :: cellsT d ws (headT d) b i))) ∧ Same [Str.ofString "place"] m _) rfl R1 rfl rfl (by omega) (by omega) F6 N6 ⟨⟨_, _, rfl, ?_⟩, .refl⟩ ?_ ?_
  · rw [ljust_eq]; exact .cons _ _ .nil
  · rintro i t m₁ nw' I oI h tk hi ⟨⟨pv, pn, rfl, hpv⟩, hs⟩ hI F7 N7
    rw [hs.open1] at F7
    walk_at "NZi"
    refine Spec.useS (column_head_spec w x d (b + i) _ _ (hx'.mono fun p hp => .tail _ (.tail _ (.tail _ hp))) ho (by omega)) B F7 X N7 T rfl (ltA hd' rfl) (ltA hu rfl) ?_
    intro t h' tk' F8 N8
    walk_at "NZi"
    (rename ws[b + i]? = some _ => hw)
    have hpl := hpv.length
    rw [List.length_cons, cellsT_length] at hpl
    refine Spec.useS (padded_spec w _ _ _ _ _ _ (Nat.le_trans (headT_len ho (by omega)) (by decide)) (by omega)) B F8 X N8 T rfl (ltA hd' rfl) (ltA hu rfl) ?_
    intro t h' tk' F8 N8
    walk_at "NZi"
    (rename Fr _ _ _ _ => F9)
    (rename News _ _ _ _ => N9)
    rw [push_list] at N9
    exact turnP_next F9 (news_second N9 hO1 (Ne.symm (hI _ (.head _)))) (off_swap hI) ⟨⟨_, _, rfl, by rw [cellsT_succ, getD_of hw]; exact hpv.snoc _ _⟩, by walk_at "SAME"⟩
  rintro m₁ nw' h tk ⟨⟨pv, pn, rfl, hpv⟩, hs⟩ F7 N7
  rw [hs.open1] at F7
  walk_at "NZi"
  refine nz_join N7 (.head _) hpv ?_ ?_ ?_
  · intro y hy
    rcases List.mem_cons.mp hy with rfl | hy
    · rw [fillT_length]; omega
    · exact Nat.le_trans (cellsT_le hws (fun i hi => headT_len ho (by omega)) y hy) (by decide)
  · rw [List.length_cons, cellsT_length]; omega
  intro t' k'
  have hrl := hrv.length
  have htl1 : (topT d).length ≤ 1 := by unfold topT; cases d.ctitle <;> simp
  walk_at "NZi"
  (try clear F6); (try clear N6); (try clear F7); (try clear N7)
  (rename Fr _ _ _ _ => F8)
  (rename News _ _ _ _ => N8)
  rw [push_list] at N8
  have N9 := news_sub (news_second N8 hO (Ne.symm hO1.head)) fun p hp => List.mem_cons_of_mem _ hp
  (try clear N8)
  refine For_invVF F8 rfl rfl ?_
  walk_at "NZi"
  (try clear F8); (try clear N9)
  (rename IsRange _ _ _ _ _ _ _ _ => R2)
  (rename Fr _ _ _ _ => F8)
  (rename News _ _ _ _ => N8)
  have hcol := ho.col
  have hrows := ho.rows
  refine for_range0 (L := L) rfl (fun i m nw' => (X2 fun rv n => A2 (nw' = (Rr, PySem.W.listOf (List.toArray rv) n) :: nw) (Txts rv (topT d ++ [lineT d ws b e] ++ (List.range i).map (rowT d ws b e)))) ∧ Same [Str.ofString "row", Str.ofString "pieces", Str.ofString "place"] m _) rfl R2 rfl (by omega) F8 N8 ⟨⟨_, _, rfl, ?_⟩, .refl⟩ ?_ ?_
  · simp only [List.range_zero, List.map_nil, List.append_nil]
    exact hrv.snoc _ _
  · rintro i t m₁ nw' I oI h tk hi ⟨⟨rv, rn, rfl, hrv⟩, hs⟩ hI F7 N7
    rw [hs.open3] at F7
    (try clear F8); (try clear N8)
    walk_at "NZi"
    refine Spec.useS (row_label_spec w x d i _ _ (hx'.mono fun p hp => .tail _ (.tail _ hp)) ho hi) B F7 X N7 T rfl (ltA hd' rfl) (ltA hu rfl) ?_
    intro t h' tk' F8 N8
    walk_at "NZi"
    (try clear F7); (try clear N7); (try clear F8); (try clear N8)
    (rename Fr _ _ _ _ => F8)
    (rename News _ _ _ _ => N8)
    (rename Off _ _ => hO2)
    rename_i P2 _ _
    have hll := labelT_len ho hi
    refine For_invVF F8 rfl rfl ?_
    walk_at "NZi"
    (try clear F8); (try clear N8)
    (rename IsRange _ _ _ _ _ _ _ _ => R3)
    (rename Fr _ _ _ _ => F8)
    (rename News _ _ _ _ => N8)
    refine for_rangeN (L := L) rfl (fun j m nw' => (X2 fun pv pn => A2 (nw' = (P2, PySem.W.listOf (List.toArray pv) pn) :: (I, oI) :: (Rr, PySem.W.listOf (List.toArray rv) rn) :: nw) (Txts pv (labelT d i :: cellsT d ws (fun j => (d.cols.getD j []).getD i Str.empty) b j))) ∧ Same [Str.ofString "place"] m _) rfl R3 rfl rfl (by omega) (by omega) F8 N8 ⟨⟨_, _, rfl, .cons _ _ .nil⟩, .refl⟩ ?_ ?_
    · rintro j t m₁ nw' I2 oI2 h tk hj ⟨⟨pv, pn, rfl, hpv⟩, hs⟩ hI2 F7 N7
      rw [hs.open1] at F7
      (try clear F8); (try clear N8)
      have hpl := hpv.length
      rw [List.length_cons, cellsT_length] at hpl
      walk_at "NZi"
      (rename ws[b + j]? = some _ => hw)
      (rename d.cols[b + j]? = some _ => hcj)
      (rename (_ : List Str)[i]? = some _ => hci)
      refine Spec.useS (padded_spec w _ _ _ _ _ _ (by omega) (by omega)) B F7 X N7 T rfl (ltA hd' rfl) (ltA hu rfl) ?_
      intro t h' tk' F8 N8
      walk_at "NZi"
      (rename Fr _ _ _ _ => F9)
      (rename News _ _ _ _ => N9)
      rw [push_list] at N9
      exact turnP_next F9 (news_second N9 hO2 (Ne.symm (hI2 _ (.head _)))) (off_swap hI2) ⟨⟨_, _, rfl, by rw [cellsT_succ, getD_of hw, getD_of hcj, getD_of hci]; exact hpv.snoc _ _⟩, by walk_at "SAME"⟩
    rintro m₁ nw' h tk ⟨⟨pv, pn, rfl, hpv⟩, hs⟩ F7 N7
    rw [hs.open1] at F7
    (try clear F8); (try clear N8)
    have hrl2 := hrv.length
    simp only [List.length_append, List.length_map, List.length_range, List.length_cons, List.length_nil] at hrl2
    walk_at "NZi"
    refine nz_join N7 (.head _) hpv ?_ ?_ ?_
    · intro y hy
      rcases List.mem_cons.mp hy with rfl | hy
      · omega
      · refine Nat.le_trans (cellsT_le hws (fun q hq => ?_) y hy) (by decide)
        exact cell_len ho
    · rw [List.length_cons, cellsT_length]; omega
    intro t' k'
    walk_at "NZi"
    (rename Fr _ _ _ _ => F9)
    (rename News _ _ _ _ => N9)
    rw [push_list] at N9
    exact turnP_next F9 (news_third N9 hO (Ne.symm (hI _ (.head _)))) (off_swap hI) ⟨⟨_, _, rfl, by rw [List.range_succ, List.map_append, ← List.append_assoc]; exact hrv.snoc _ _⟩, by walk_at "SAME"⟩
  rintro m₁ nw' h tk ⟨⟨rv, rn, rfl, hrv⟩, hs⟩ F7 N7
  rw [hs.open3] at F7
  walk_at "NZi"
  exact ⟨_, _, _, _, rfl, F7, N7, _, _, _, rfl, rfl, hO, hrv⟩
def wT (d : Lay) (j : Nat) : Nat := max (wid (d.cols.getD j [])) (headT d j).length
/-- the columns' widths -/
def wsT (d : Lay) : List Nat := (List.range d.cols.length).map (wT d)
/-- where the block that has reached e ends -/
def growT (ws : List Nat) (n width : Nat) : Nat → Nat → Nat → Nat
  | 0, _, e => e
  | f + 1, t, e => if e < n ∧ t + 1 + ws.getD e 0 < width then growT ws n width f (t + 1 + ws.getD e 0) (e + 1) else e
theorem growT_bounds (ws : List Nat) (n width : Nat) : ∀ f t e, e ≤ n → e ≤ growT ws n width f t e ∧ growT ws n width f t e ≤ n
  | 0, _, _, h => ⟨Nat.le_refl _, h⟩
  | f + 1, t, e, h => by
    unfold growT
    split
    · rename_i hc
      have := growT_bounds ws n width f (t + 1 + ws.getD e 0) (e + 1) hc.1
      exact ⟨by omega, this.2⟩
    · exact ⟨Nat.le_refl _, h⟩
def endT (d : Lay) (width b : Nat) : Nat := growT (wsT d) d.cols.length width (d.cols.length - (b + 1)) (room d + offs d + 1 + (wsT d).getD b 0) (b + 1)
def blocksT (d : Lay) (width : Nat) : Nat → Nat → List Str
  | 0, _ => []
  | f + 1, b => if b < d.cols.length then blockT d (wsT d) b (endT d width b) ++ blocksT d width f (endT d width b) else []
theorem endT_gt (d : Lay) (width b : Nat) (hb : b < d.cols.length) : b + 1 ≤ endT d width b ∧ endT d width b ≤ d.cols.length := growT_bounds _ _ _ _ _ _ hb
theorem blocksT_fuel (d : Lay) (width : Nat) : ∀ f g b, d.cols.length - b ≤ f → d.cols.length - b ≤ g → blocksT d width f b = blocksT d width g b := by
  intro f
  induction f with
  | zero =>
    intro g b h _
    cases g with
    | zero => rfl
    | succ g => unfold blocksT; rw [if_neg (by omega)]
  | succ f ih =>
    intro g b h h2
    by_cases hb : b < d.cols.length
    · have he := endT_gt d width b hb
      cases g with
      | zero => exfalso; omega
      | succ g => unfold blocksT; rw [if_pos hb, if_pos hb, ih g _ (by omega) (by omega)]
    · cases g with
      | zero => unfold blocksT; rw [if_neg hb]
      | succ g => unfold blocksT; rw [if_neg hb, if_neg hb]
theorem blockT_length {d : Lay} (ho : LayOk d) {ws : List Nat} {b e : Nat} : (blockT d ws b e).length ≤ 8 := by
  have := ho.rows
  unfold blockT topT
  cases d.ctitle <;> simp <;> omega
theorem wsT_length (d : Lay) : (wsT d).length = d.cols.length := by simp [wsT]
theorem wsT_le {d : Lay} (ho : LayOk d) : ∀ x ∈ wsT d, x ≤ 10 := by
  intro x hx
  obtain ⟨j, hj, rfl⟩ := List.mem_map.mp hx
  have hj := List.mem_range.mp hj
  have h1 := headT_len ho hj
  have h2 : wid (d.cols.getD j []) ≤ 10 := by
    refine wid_le fun y hy => ?_
    rw [List.getD_eq_getElem?_getD, List.getElem?_eq_getElem hj] at hy
    exact (ho.col _ (List.getElem_mem hj)).2 y hy
  unfold wT
  omega
/-- the rows of a layout -/
def rowsT (d : Lay) (width : Nat) : List Str := if d.cols.length = 0 then blockT d (wsT d) 0 0 else blocksT d width d.cols.length 0
set_option maxHeartbeats 8000000 in
theorem layout_rows_spec (w : World) (x : Addr) (d : Lay) (width : Nat) (t1 : Tok) (news : List (Addr × Obj)) (hx : LayIn news x d) (ho : LayOk d) (hw : width ≤ 100) :
    Spec w 91 6 35 [.ref x, .int width t1] news (fun v nw => X3 fun Rr rv n => A4 (v = .ref Rr) (nw = (Rr, PySem.W.listOf (List.toArray rv) n) :: news) ((∀ p ∈ news, p.1 ≠ Rr)) (Txts rv (rowsT d width))) := by
  w_top off
  have hx' := hx
  obtain ⟨dx, H, kt, n, cA, cvs, cn, v2, v3, v4, v5, t0, h1, h2, h3, h4, h5, h6, h7, h8⟩ := hx
  refine spec_of [(Str.ofString "layout", .ref x), (Str.ofString "width", .int width t1)] (by k_is) (by k_is) rfl (locs rfl) ?_ rfl rfl rfl (by decide)
  intro mean mg mb dp un gd outer A₀ base g L s B F X N T hd' hu
  simp only [List.reverse_cons, List.reverse_nil, List.nil_append, List.cons_append, fm] at F
  have hc := ho.cols
  have hcl := h4.length
  have hr := room_le ho
  have hof := offs_le ho
  have hcol := ho.col
  have hsz : (List.toArray cvs).size = d.cols.length := by simp [hcl]
  walk_at "NZi"
  refine Spec.useI (label_room_spec w x d news hx' ho) B (by assumption) X (by assumption) T rfl (ltA hd' rfl) (ltA hu rfl) ?_
  intro t h' tk' F1 N1
  obtain ⟨nw, rfl⟩ : ∃ nw, nw = news := ⟨_, rfl⟩
  walk_at "NZi"
  refine Spec.useI (row_offset_spec w x d _ hx' ho) B F1 X N1 T rfl (ltA hd' rfl) (ltA hu rfl) ?_
  intro t h' tk' F1 N1
  walk_at "NZi"
  (rename Off _ _ => hO)
  (rename Fr _ _ _ _ => F2)
  (rename News _ _ _ _ => N2)
  rename_i Wd _ _
  simp only [← Int.natCast_add, hsz] at F2
  refine For_invVF F2 rfl rfl ?_
  walk_at "NZi"
  (try clear F2); (try clear N2)
  (rename IsRange _ _ _ _ _ _ _ _ => R1)
  (rename Fr _ _ _ _ => F2)
  (rename News _ _ _ _ => N2)
  refine for_range0 (L := L) rfl (fun i m nw' => (X2 fun wv wn => A2 (nw' = (Wd, PySem.W.listOf (List.toArray wv) wn) :: nw) (Nums wv ((List.range i).map (wT d)))) ∧ Same [Str.ofString "place"] m _) rfl R1 rfl (by omega) F2 N2 ⟨⟨_, _, rfl, .nil⟩, .refl⟩ ?_ ?_
  · rintro i t m₁ nw' I oI h tk hi ⟨⟨wv, wn, rfl, hwv⟩, hs⟩ hI F7 N7
    rw [hs.open1] at F7
    (try clear F2); (try clear N2)
    have hwl := hwv.length
    simp only [List.length_map, List.length_range] at hwl
    walk_at "NZi"
    (rename Txts _ _ => htx)
    (rename ∀ x ∈ _, Str.length x ≤ 10 => hzz)
    (rename (_, PySem.W.listOf _ _) ∈ nw => hmx)
    (rename d.cols[i]? = some _ => hci)
    refine Spec.useI (widest_spec w _ _ _ _ _ (.tail _ (.tail _ hmx)) htx fun y hy => by have := hzz y hy; omega) B F7 X N7 T rfl (ltA hd' rfl) (ltA hu rfl) ?_
    intro t h' tk' F8 N8
    walk_at "NZi"
    refine Spec.useS (column_head_spec w x d i _ _ (hx'.mono fun p hp => .tail _ (.tail _ hp)) ho hi) B (by assumption) X (by assumption) T rfl (ltA hd' rfl) (ltA hu rfl) ?_
    intro t h' tk' F8 N8
    have hhl := headT_len ho hi
    walk_at "NZi"
    (rename Fr _ _ _ _ => F9)
    (rename News _ _ _ _ => N9)
    rw [push_list] at N9
    have e : ∀ (p q : Nat), (if (p : Int) > (q : Int) then (p : Int) else (q : Int)) = ((max q p : Nat) : Int) := by
      intro p q
      split <;> omega
    rw [e] at N9
    exact turnP_next F9 (news_second N9 hO (Ne.symm (hI _ (.head _)))) (off_swap hI) ⟨⟨_, _, rfl, by rw [List.range_succ, List.map_append]; simp only [List.map_cons, List.map_nil, wT, getD_of hci]; exact hwv.snoc _ _⟩, by walk_at "SAME"⟩
  rintro m₁ nw' h tk ⟨⟨wv, wn, rfl, hwv⟩, hs⟩ F7 N7
  rw [hs.open1] at F7
  (try clear F2); (try clear N2)
  have hwv' : Nums wv (wsT d) := hwv
  have hwsl := wsT_length d
  have hwsz := wsT_le ho
  walk_at "NZ"
  · refine rows_use (block_rows_spec w x Wd d wv wn (wsT d) 0 0 _ _ _ (hx'.mono fun p hp => .tail _ hp) ho (.head _) hwv' hwsz hwsl (Nat.le_refl _) (Nat.zero_le _)) B F7 X N7 T rfl (ltA hd' rfl) (ltA hu rfl) ?_
    intro Rr rv n h' tk' hoff hrv F8 N8
    walk_at "NZ"
    refine ⟨_, _, _, (Rr, PySem.W.listOf (List.toArray rv) n) :: nw, rfl, F8, news_sub N8 (fun p hp => ?_), Rr, rv, n, rfl, rfl, fun p hp => hoff p (.tail _ hp), ?_⟩
    · rcases List.mem_cons.mp hp with rfl | hp
      · exact .head _
      · exact .tail _ (.tail _ hp)
    · unfold rowsT
      rw [if_pos (by omega)]
      exact hrv
  (rename Off _ _ => hO2)
  (rename Fr _ _ _ _ => F8)
  (rename News _ _ _ _ => N8)
  rename_i Rr _ _ _
  refine While_inv2 (fun k m nw' => X5 fun b rv rn xs bt => A8 (k = d.cols.length - b) (b ≤ d.cols.length) (nw' = (Rr, PySem.W.listOf (List.toArray rv) rn) :: (Wd, PySem.W.listOf (List.toArray wv) wn) :: nw) (Txts rv xs) (xs ++ blocksT d width (d.cols.length - b) b = blocksT d width d.cols.length 0) (xs.length ≤ 8 * b) (m (Str.ofString "begin") = some (.int b bt)) (Same [Str.ofString "begin", Str.ofString "total", Str.ofString "end"] m _)) F8 N8 ⟨0, _, _, _, _, rfl, Nat.zero_le _, rfl, .nil, rfl, Nat.zero_le _, rfl, .refl⟩ ?_
  rintro k m₁ nw' h1' tk1' F9 N9 ⟨b, rv, rn, xs, bt, rfl, hb, rfl, hrv, hxs, hxl, hbt, hs⟩
  rw [hs.open3, hbt] at F9
  (try clear F8); (try clear N8)
  walk_at "NZ"
  · (rename Fr _ _ _ _ => F10)
    (rename News _ _ _ _ => N10)
    (rename (wsT d)[b]? = some _ => hwb)
    have hbn : b < d.cols.length := by omega
    have hend := endT_gt d width b hbn
    refine exec_mid [Str.ofString "end", Str.ofString "total"] (fun m nw' => nw' = (Rr, PySem.W.listOf (List.toArray rv) rn) :: (Wd, PySem.W.listOf (List.toArray wv) wn) :: nw ∧ ∃ et, m (Str.ofString "end") = some (.int (endT d width b : Nat) et)) F10 ?_ ?_
    · refine While_inv2 (fun k m nw' => X6 fun (e tot : Nat) (et tt : Tok) (ev tv : Int) => A10 (k = d.cols.length - e) (b + 1 ≤ e) (e ≤ d.cols.length) (nw' = (Rr, PySem.W.listOf (List.toArray rv) rn) :: (Wd, PySem.W.listOf (List.toArray wv) wn) :: nw) (m (Str.ofString "end") = some (.int ev et)) (ev = (e : Int)) (m (Str.ofString "total") = some (.int tv tt)) (tv = (tot : Int)) (growT (wsT d) d.cols.length width (d.cols.length - e) tot e = endT d width b) (Same [Str.ofString "end", Str.ofString "total"] m _)) F10 N10 ⟨b + 1, _, _, _, _, _, rfl, Nat.le_refl _, hbn, rfl, rfl, by omega, rfl, (by rw [← Int.natCast_add_one, ← Int.natCast_add]), (by unfold endT; rw [getD_of hwb]), .refl⟩ ?_
      rintro k m₁ nw' h1' tk1' F9 N9 ⟨e, tot, et, tt, ev, tv, rfl, hbe, hen, rfl, het, rfl, htt, rfl, hg, hs⟩
      rw [hs.open2, het, htt] at F9
      (try clear F10); (try clear N10)
      walk_at "NZ"
      · (rename Fr _ _ _ _ => F12)
        (rename News _ _ _ _ => N12)
        (rename (wsT d)[e]? = some _ => hwe)
        have hge := getD_of (d := 0) hwe
        clear hwe
        (rename (wsT d)[e]? = some _ => hwe)
        have hge2 := getD_of (d := 0) hwe
        rw [show d.cols.length - e = (d.cols.length - (e + 1)) + 1 by omega] at hg
        unfold growT at hg
        rw [if_pos ⟨by omega, by omega⟩] at hg
        exact ⟨_, _, _, _, d.cols.length - (e + 1), rfl, F12, N12, by omega, e + 1, tot + 1 + (wsT d).getD e 0, _, _, _, _, rfl, by omega, by omega, rfl, rfl, by omega, rfl, by rw [hge]; omega, hg, by walk_at "SAME"⟩
      · (rename Fr _ _ _ _ => F12)
        (rename News _ _ _ _ => N12)
        (rename (wsT d)[e]? = some _ => hwe)
        have hge := getD_of (d := 0) hwe
        rw [show d.cols.length - e = (d.cols.length - (e + 1)) + 1 by omega] at hg
        unfold growT at hg
        rw [if_neg (by rw [hge]; omega)] at hg
        exact midP F12 N12 ⟨by walk_at "SAME", rfl, _, by rw [← hg]; rfl⟩
      · (rename Fr _ _ _ _ => F12)
        (rename News _ _ _ _ => N12)
        rw [show d.cols.length - e = 0 by omega] at hg
        unfold growT at hg
        exact midP F12 N12 ⟨by walk_at "SAME", rfl, _, by rw [← hg]; rfl⟩
    rintro h' tk' m' nw' F11 N11 hs ⟨rfl, et, het⟩
    rw [hs.open2, het] at F11
    walk_at "NZ"
    refine rows_use (block_rows_spec w x Wd d wv wn (wsT d) b (endT d width b) _ _ _ (hx'.mono fun p hp => .tail _ (.tail _ hp)) ho (.tail _ (.head _)) hwv' hwsz hwsl (by omega) hend.2) B F11 X N11 T rfl (ltA hd' rfl) (ltA hu rfl) ?_
    intro Bk bv bn h' tk' hoff hbv F13 N13
    have hbl := hbv.length
    have hbl2 : (blockT d (wsT d) b (endT d width b)).length ≤ 8 := blockT_length ho
    have hrl := hrv.length
    walk_at "NZ"
    refine nz_extend F13 N13 (.tail _ (.head _)) (.head _) (by omega) ?_
    intro h' n' F14 N14
    walk_at "NZ"
    (rename Fr _ _ _ _ => F15)
    (rename News _ _ _ _ => N15)
    have hRB : Rr ≠ Bk := hoff _ (.head _)
    refine ⟨_, _, _, (Rr, PySem.W.listOf (List.toArray (rv ++ bv)) n') :: (Wd, PySem.W.listOf (List.toArray wv) wn) :: nw, d.cols.length - endT d width b, rfl, F15, news_of N15 ⟨_, .tail _ (.head _)⟩ (fun p hp => ?_), by omega, endT d width b, rv ++ bv, n', xs ++ blockT d (wsT d) b (endT d width b), et, rfl, hend.2, rfl, hrv.append hbv, ?_, ?_, rfl, by walk_at "SAME"⟩
    · rcases List.mem_cons.mp hp with rfl | hp
      · exact .inl rfl
      · exact .inr ⟨.tail _ (.tail _ hp), hO2 p hp⟩
    · rw [List.append_assoc, ← hxs, show d.cols.length - b = (d.cols.length - b - 1) + 1 by omega]
      congr 1
      conv => rhs; unfold blocksT
      rw [if_pos hbn, blocksT_fuel d width (d.cols.length - b - 1) (d.cols.length - endT d width b) _ (by omega) (Nat.le_refl _)]
    · rw [List.length_append]; omega
  · refine ⟨_, _, _, (Rr, PySem.W.listOf (List.toArray rv) rn) :: nw, rfl, F9, news_sub N9 (fun p hp => ?_), Rr, rv, rn, rfl, rfl, fun p hp => hO2 p (.tail _ hp), ?_⟩
    · rcases List.mem_cons.mp hp with rfl | hp
      · exact .head _
      · exact .tail _ (.tail _ hp)
    · unfold rowsT
      rw [if_neg (by omega), ← hxs, show d.cols.length - b = 0 by omega]
      unfold blocksT
      rw [List.append_nil]
      exact hrv
section
theorem layout_use {w : World} {f : Addr} {D U : Nat} {vs0 : List Value} {news0 : List (Addr × Obj)} {count : Nat} {t1 : Tok} {cA : Addr} {news : List (Addr × Obj)} (S : Spec w f D U vs0 news0 (fun v nw => X5 fun x dx H kt n => A5 (v = .ref x) (nw = (x, instObj 38 dx) :: (dx, dictOf (layE H kt (.int count t1) (.ref cA) .none .none .none .none (.bool false)) n) :: news) (Off x news) (Off dx news) (x ≠ dx)))
    {mean : ExcName → Option Value} {mg mb : Str → Option Value} {dp un : Nat} {gd : Option (List Code)} {cn : Str} {cs : Scope} {a : Addr} {ccd : Value} {cl : List (Str × Addr)} {outer : List Env} {A₀ : Around} {base h₀ : Heap} {L : Addr} {m : Str → Option Value} {s : Shared} {Q E : Value → Shared → Prop}
    (B : Below A₀ base outer h₀) (F : Fr h₀ L s.heap m) (X : (hd.heap_39 w.params).In h₀) (N : News h₀ L s.heap news0) (T : Top hd.view_39 (looseW hd.view_39 []) mean mg mb h₀) (hk : cs.kind = .function) (hd : dp + D < recursionLimit) (hu : un + U < cLine)
    (ret : ∀ x dx H kt n h' tk', Off x news → Off dx news → x ≠ dx → Fr h₀ L h' m → News h₀ L h' ((x, instObj 38 dx) :: (dx, dictOf (layE H kt (.int count t1) (.ref cA) .none .none .none .none (.bool false)) n) :: news) → Q (.ref x) { s with heap := h', toks := tk' }) :
    wpAny (model PySem.Challenge.rw_nz0464_01.row.prog w) (ktrTop dp un gd cn cs L a ccd cl outer) (call (.ref f) vs0) Q E s :=
  S.use B F X N T hk hd hu fun v nw h' tk' hR F' N' => by
    obtain ⟨x, dx, H, kt, n, rfl, rfl, h1, h2, h3⟩ := hR
    exact ret x dx H kt n h' tk' h1 h2 h3 F' N'
local macro_rules | `(tactic| walk_at "NZc") => `(tactic| repeat' (first | (k_unfold; (try dsimp only)) | (first | walk1 | (dsimp only; walk1)) | fail "no step"))
local macro_rules | `(tactic| k_all) => `(tactic| with_reducible (first | exact ‹Off _ _› | exact List.forall_mem_nil _ | (refine' List.forall_mem_cons.mpr ⟨?a, ?b⟩; (case a => k_ne); (case b => k_all))))
theorem layE_ex {h₀ h : Heap} {L x dx : Addr} {o : Obj} {h0 h1 h2 h3 h4 h5 h6 : Int} {k0 k1 k2 k3 k4 k5 k6 : Tok} {v0 v1 v2 v3 v4 v5 v6 : Value} {n : Nat} {news : List (Addr × Obj)}
    (N : News h₀ L h ((x, o) :: (dx, dictOf [⟨h0, .str (Str.ofString "rows") k0, v0⟩, ⟨h1, .str (Str.ofString "columns") k1, v1⟩, ⟨h2, .str (Str.ofString "row_names") k2, v2⟩, ⟨h3, .str (Str.ofString "column_names") k3, v3⟩, ⟨h4, .str (Str.ofString "row_title") k4, v4⟩, ⟨h5, .str (Str.ofString "column_title") k5, v5⟩, ⟨h6, .str (Str.ofString "to_left") k6, v6⟩] n) :: news)) :
    ∃ H kt n, News h₀ L h ((x, o) :: (dx, dictOf (layE H kt v0 v1 v2 v3 v4 v5 v6) n) :: news) :=
  ⟨fun i => match i with | 0 => h0 | 1 => h1 | 2 => h2 | 3 => h3 | 4 => h4 | 5 => h5 | _ => h6, fun i => match i with | 0 => k0 | 1 => k1 | 2 => k2 | 3 => k3 | 4 => k4 | 5 => k5 | _ => k6, n, N⟩
set_option maxHeartbeats 4000000 in
theorem layout_spec (w : World) (count : Nat) (t1 : Tok) (cA : Addr) (news : List (Addr × Obj)) :
    Spec w 38 2 40 [.int count t1, .ref cA] news (fun v nw => X5 fun x dx H kt n => A5 (v = .ref x) (nw = (x, instObj 38 dx) :: (dx, dictOf (layE H kt (.int count t1) (.ref cA) .none .none .none .none (.bool false)) n) :: news) (Off x news) (Off dx news) (x ≠ dx)) := by
  w_top off
  intro mean mg mb dp un gd cn cs a ccd cl outer A₀ base h₀ L m s Q E B F X N T hk' hd' hu hret
  refine call_cls (C := 38) (fI := 35) F X N (by k_is) (by k_is) (by k_is) ?_
  intro x dx h1 F1 N1 l1 l2
  refine code_def (K := hd.heap_39 w.params) B F1 X N1 T rfl rfl hk' (by k_is) (by k_is) (by simp only [depth_under_make]; show dp + _ < recursionLimit; omega) (BindsTo.of_eq rfl) (locs rfl) ?_ rfl rfl rfl (by decide)
  intro g L' h2 FG F2 N2 B2 X2 T2
  have hx : Off x news := fun p hp => Nat.ne_of_lt (Nat.lt_trans (l1 p hp) l2)
  have hdx : Off dx news := fun p hp => Nat.ne_of_lt (l1 p hp)
  have hne : x ≠ dx := Nat.ne_of_gt l2
  clear F N F1 N1 T X
  dsimp only [List.cons_append, List.nil_append, List.length_cons, List.length_nil]
  walk_at "NZc"
  (rename Fr _ _ _ _ => F9)
  (rename News _ _ _ _ => N9)
  refine leaveK_ F9 N9 fun F3 N3 => ⟨rfl, ?_⟩
  obtain ⟨H, kt, n, N4⟩ := layE_ex N3
  exact hret _ _ _ _ ⟨x, dx, H, kt, n, rfl, rfl, hx, hdx, hne⟩ F3 N4
section
variable {w : World} {A : Around} {E : Value → Shared → Prop} {s : Shared} {h₀ : Heap} {L : Addr} {m : Str → Option Value}
theorem put_left (H : Nat → Int) (kt : Nat → Tok) (v0 v1 v2 v3 v4 v5 v6 v : Value) (n : Nat) (hsh : Int) (k : Value) : (putL (Str.ofString "to_left") hsh k v (layE H kt v0 v1 v2 v3 v4 v5 v6), putN (Str.ofString "to_left") (layE H kt v0 v1 v2 v3 v4 v5 v6) n) = (layE H kt v0 v1 v2 v3 v4 v5 v, n) := by kernel_rfl
theorem nz_set_left {H : Nat → Int} {kt : Nat → Tok} {v0 v1 v2 v3 v4 v5 v6 v : Value} {n : Nat} {x dx : Addr} {R : List (Addr × Obj)} {Q : Unit → Shared → Prop} (F : Fr h₀ L s.heap m) (X : (hd.heap_39 w.params).In h₀) (N : News h₀ L s.heap ((x, instObj 38 dx) :: (dx, dictOf (layE H kt v0 v1 v2 v3 v4 v5 v6) n) :: R)) (hne : x ≠ dx) (ho : Off dx R)
    (h : ∀ h', Fr h₀ L h' m → News h₀ L h' ((x, instObj 38 dx) :: (dx, dictOf (layE H kt v0 v1 v2 v3 v4 v5 v) n) :: R) → Q () { s with heap := h', toks := s.toks + 2 }) :
    wpAny (model PySem.Challenge.rw_nz0464_01.row.prog w) A (setAttr (.ref x) (Str.ofString "to_left") v) Q E s :=
  set_dict (C := 38) F X N (InstAt.of_news N (.head _) (.tail _ (.head _))) rfl (by k_is) (by k_is) (by k_is) (by k_is) (by kernel_rfl) (put_left H kt v0 v1 v2 v3 v4 v5 v6 v n _ _) (Upd.tail hne (Upd.head ho)) (by simp) h
theorem put_rn (H : Nat → Int) (kt : Nat → Tok) (v0 v1 v2 v3 v4 v5 v6 v : Value) (n : Nat) (hsh : Int) (k : Value) : (putL (Str.ofString "row_names") hsh k v (layE H kt v0 v1 v2 v3 v4 v5 v6), putN (Str.ofString "row_names") (layE H kt v0 v1 v2 v3 v4 v5 v6) n) = (layE H kt v0 v1 v v3 v4 v5 v6, n) := by kernel_rfl
theorem nz_set_rn {H : Nat → Int} {kt : Nat → Tok} {v0 v1 v2 v3 v4 v5 v6 v : Value} {n : Nat} {x dx : Addr} {R : List (Addr × Obj)} {Q : Unit → Shared → Prop} (F : Fr h₀ L s.heap m) (X : (hd.heap_39 w.params).In h₀) (N : News h₀ L s.heap ((x, instObj 38 dx) :: (dx, dictOf (layE H kt v0 v1 v2 v3 v4 v5 v6) n) :: R)) (hne : x ≠ dx) (ho : Off dx R)
    (h : ∀ h', Fr h₀ L h' m → News h₀ L h' ((x, instObj 38 dx) :: (dx, dictOf (layE H kt v0 v1 v v3 v4 v5 v6) n) :: R) → Q () { s with heap := h', toks := s.toks + 2 }) :
    wpAny (model PySem.Challenge.rw_nz0464_01.row.prog w) A (setAttr (.ref x) (Str.ofString "row_names") v) Q E s :=
  set_dict (C := 38) F X N (InstAt.of_news N (.head _) (.tail _ (.head _))) rfl (by k_is) (by k_is) (by k_is) (by k_is) (by kernel_rfl) (put_rn H kt v0 v1 v2 v3 v4 v5 v6 v n _ _) (Upd.tail hne (Upd.head ho)) (by simp) h
theorem put_cn (H : Nat → Int) (kt : Nat → Tok) (v0 v1 v2 v3 v4 v5 v6 v : Value) (n : Nat) (hsh : Int) (k : Value) : (putL (Str.ofString "column_names") hsh k v (layE H kt v0 v1 v2 v3 v4 v5 v6), putN (Str.ofString "column_names") (layE H kt v0 v1 v2 v3 v4 v5 v6) n) = (layE H kt v0 v1 v2 v v4 v5 v6, n) := by kernel_rfl
theorem nz_set_cn {H : Nat → Int} {kt : Nat → Tok} {v0 v1 v2 v3 v4 v5 v6 v : Value} {n : Nat} {x dx : Addr} {R : List (Addr × Obj)} {Q : Unit → Shared → Prop} (F : Fr h₀ L s.heap m) (X : (hd.heap_39 w.params).In h₀) (N : News h₀ L s.heap ((x, instObj 38 dx) :: (dx, dictOf (layE H kt v0 v1 v2 v3 v4 v5 v6) n) :: R)) (hne : x ≠ dx) (ho : Off dx R)
    (h : ∀ h', Fr h₀ L h' m → News h₀ L h' ((x, instObj 38 dx) :: (dx, dictOf (layE H kt v0 v1 v2 v v4 v5 v6) n) :: R) → Q () { s with heap := h', toks := s.toks + 2 }) :
    wpAny (model PySem.Challenge.rw_nz0464_01.row.prog w) A (setAttr (.ref x) (Str.ofString "column_names") v) Q E s :=
  set_dict (C := 38) F X N (InstAt.of_news N (.head _) (.tail _ (.head _))) rfl (by k_is) (by k_is) (by k_is) (by k_is) (by kernel_rfl) (put_cn H kt v0 v1 v2 v3 v4 v5 v6 v n _ _) (Upd.tail hne (Upd.head ho)) (by simp) h
theorem put_rt (H : Nat → Int) (kt : Nat → Tok) (v0 v1 v2 v3 v4 v5 v6 v : Value) (n : Nat) (hsh : Int) (k : Value) : (putL (Str.ofString "row_title") hsh k v (layE H kt v0 v1 v2 v3 v4 v5 v6), putN (Str.ofString "row_title") (layE H kt v0 v1 v2 v3 v4 v5 v6) n) = (layE H kt v0 v1 v2 v3 v v5 v6, n) := by kernel_rfl
theorem nz_set_rt {H : Nat → Int} {kt : Nat → Tok} {v0 v1 v2 v3 v4 v5 v6 v : Value} {n : Nat} {x dx : Addr} {R : List (Addr × Obj)} {Q : Unit → Shared → Prop} (F : Fr h₀ L s.heap m) (X : (hd.heap_39 w.params).In h₀) (N : News h₀ L s.heap ((x, instObj 38 dx) :: (dx, dictOf (layE H kt v0 v1 v2 v3 v4 v5 v6) n) :: R)) (hne : x ≠ dx) (ho : Off dx R)
    (h : ∀ h', Fr h₀ L h' m → News h₀ L h' ((x, instObj 38 dx) :: (dx, dictOf (layE H kt v0 v1 v2 v3 v v5 v6) n) :: R) → Q () { s with heap := h', toks := s.toks + 2 }) :
    wpAny (model PySem.Challenge.rw_nz0464_01.row.prog w) A (setAttr (.ref x) (Str.ofString "row_title") v) Q E s :=
  set_dict (C := 38) F X N (InstAt.of_news N (.head _) (.tail _ (.head _))) rfl (by k_is) (by k_is) (by k_is) (by k_is) (by kernel_rfl) (put_rt H kt v0 v1 v2 v3 v4 v5 v6 v n _ _) (Upd.tail hne (Upd.head ho)) (by simp) h
theorem put_ct (H : Nat → Int) (kt : Nat → Tok) (v0 v1 v2 v3 v4 v5 v6 v : Value) (n : Nat) (hsh : Int) (k : Value) : (putL (Str.ofString "column_title") hsh k v (layE H kt v0 v1 v2 v3 v4 v5 v6), putN (Str.ofString "column_title") (layE H kt v0 v1 v2 v3 v4 v5 v6) n) = (layE H kt v0 v1 v2 v3 v4 v v6, n) := by kernel_rfl
theorem nz_set_ct {H : Nat → Int} {kt : Nat → Tok} {v0 v1 v2 v3 v4 v5 v6 v : Value} {n : Nat} {x dx : Addr} {R : List (Addr × Obj)} {Q : Unit → Shared → Prop} (F : Fr h₀ L s.heap m) (X : (hd.heap_39 w.params).In h₀) (N : News h₀ L s.heap ((x, instObj 38 dx) :: (dx, dictOf (layE H kt v0 v1 v2 v3 v4 v5 v6) n) :: R)) (hne : x ≠ dx) (ho : Off dx R)
    (h : ∀ h', Fr h₀ L h' m → News h₀ L h' ((x, instObj 38 dx) :: (dx, dictOf (layE H kt v0 v1 v2 v3 v4 v v6) n) :: R) → Q () { s with heap := h', toks := s.toks + 2 }) :
    wpAny (model PySem.Challenge.rw_nz0464_01.row.prog w) A (setAttr (.ref x) (Str.ofString "column_title") v) Q E s :=
  set_dict (C := 38) F X N (InstAt.of_news N (.head _) (.tail _ (.head _))) rfl (by k_is) (by k_is) (by k_is) (by k_is) (by kernel_rfl) (put_ct H kt v0 v1 v2 v3 v4 v5 v6 v n _ _) (Upd.tail hne (Upd.head ho)) (by simp) h
end
end
theorem slice_len : ∀ k : Nat, k < 11 → (Txt.slice (Str.ofString "abcdefghij") none (some (k : Int))).length = k := by decide +kernel
theorem off3_at {I C D a : Addr} {o : Obj} {l : List (Addr × Obj)} (h : LCg.Off3 I C D l) (hm : (a, o) ∈ l) : a ≠ I ∧ a ≠ C ∧ a ≠ D := h.mem _ hm
theorem off3_of {I C D : Addr} {l : List (Addr × Obj)} (h1 : Off I l) (h2 : Off C l) (h3 : Off D l) : LCg.Off3 I C D l := LCg.Off3.of fun p hp => ⟨h1 p hp, h2 p hp, h3 p hp⟩
theorem off3_I {I C D : Addr} {l : List (Addr × Obj)} (h : LCg.Off3 I C D l) : Off I l := fun p hp => (h.mem p hp).1
theorem off3_C {I C D : Addr} {l : List (Addr × Obj)} (h : LCg.Off3 I C D l) : Off C l := fun p hp => (h.mem p hp).2.1
theorem off3_D {I C D : Addr} {l : List (Addr × Obj)} (h : LCg.Off3 I C D l) : Off D l := fun p hp => (h.mem p hp).2.2
theorem lwords_use {w : World} {f : Addr} {D U : Nat} {vs0 : List Value} {news0 : List (Addr × Obj)} {P Fa : Addr} {count most : Nat} {news : List (Addr × Obj)} (S : Spec w f D U vs0 news0 (fun v nw => X5 fun l vs n xs o' => A7 (v = .ref l) (nw = (l, PySem.W.listOf (List.toArray vs) n) :: (P, o') :: news) (PoolOk Fa o') (Off l ((P, o') :: news)) (Txts vs xs) (xs.length = count) (∀ x ∈ xs, x.length < most)))
    {mean : ExcName → Option Value} {mg mb : Str → Option Value} {dp un : Nat} {gd : Option (List Code)} {cn : Str} {cs : Scope} {a : Addr} {ccd : Value} {cl : List (Str × Addr)} {outer : List Env} {A₀ : Around} {base h₀ : Heap} {L : Addr} {m : Str → Option Value} {s : Shared} {Q E : Value → Shared → Prop}
    (B : Below A₀ base outer h₀) (F : Fr h₀ L s.heap m) (X : (hd.heap_39 w.params).In h₀) (N : News h₀ L s.heap news0) (T : Top hd.view_39 (looseW hd.view_39 []) mean mg mb h₀) (hk : cs.kind = .function) (hd : dp + D < recursionLimit) (hu : un + U < cLine)
    (ret : ∀ l vs n xs o' h' tk', PoolOk Fa o' → Off l ((P, o') :: news) → Txts vs xs → xs.length = count → (∀ x ∈ xs, x.length < most) → Fr h₀ L h' m → News h₀ L h' ((l, PySem.W.listOf (List.toArray vs) n) :: (P, o') :: news) → Q (.ref l) { s with heap := h', toks := tk' }) :
    wpAny (model PySem.Challenge.rw_nz0464_01.row.prog w) (ktrTop dp un gd cn cs L a ccd cl outer) (call (.ref f) vs0) Q E s :=
  S.use B F X N T hk hd hu fun v nw h' tk' hR F' N' => by
    obtain ⟨l, vs, n, xs, o', rfl, rfl, h1, h2, h3, h4, h5⟩ := hR
    exact ret l vs n xs o' h' tk' h1 h2 h3 h4 h5 F' N'
set_option maxHeartbeats 4000000 in
theorem lwords_spec (w : World) (P Fa : Addr) (oP oF : Obj) (count most : Nat) (t1 t2 : Tok) (news : List (Addr × Obj)) (hc : count ≤ 7) (hm0 : 0 < most) (hm1 : most ≤ 11) (hP : PoolOk Fa oP) (hFo : FigsOk oF) (hF : (Fa, oF) ∈ news) (hoff : Off P news) :
    Spec w 110 2 23 [.ref P, .int count t1, .int most t2] ((P, oP) :: news) (fun v nw => X5 fun l vs n xs o' => A7 (v = .ref l) (nw = (l, PySem.W.listOf (List.toArray vs) n) :: (P, o') :: news) (PoolOk Fa o') (Off l ((P, o') :: news)) (Txts vs xs) (xs.length = count) (∀ x ∈ xs, x.length < most)) := by
  w_top off
  refine specC_of [(Str.ofString "pool", .ref P), (Str.ofString "count", .int count t1), (Str.ofString "most", .int most t2)] (by k_is) (by k_is) rfl rfl (by decide) ?_ rfl rfl rfl
  intro mean mg mb dp un gd outer A₀ base g L s cells B F X N Y hlt T hd' hu
  obtain ⟨o1, o2, rfl, d1, d2⟩ := CellsAre.two Y
  clear Y
  have F1 : Fr g L s.heap (fun y => if y = Str.ofString "count" then some (.int count t1) else none) := F
  have d1' : o1.data = .cell (some (.int most t2)) := d1
  have d2' : o2.data = .cell (some (.ref P)) := d2
  clear F d1 d2
  have hPL : (P : Nat) < L := hlt _ (.head _)
  have hP1 : P ≠ L + 1 + 1 := Nat.ne_of_lt (Nat.lt_succ_of_lt (Nat.lt_succ_of_lt hPL))
  have hP2 : P ≠ L + 1 := Nat.ne_of_lt (Nat.lt_succ_of_lt hPL)
  simp only [List.cons_append, List.nil_append] at N
  walk_at "NZ"
  refine LCg.ListComp_U F1 (by with_unfolding_all rfl) (by decide) rfl (by decide) rfl ?_
  walk_at "NZ"
  (rename IsRange _ _ _ _ _ _ _ _ => R1)
  (rename Fr _ _ _ _ => F2)
  (rename News _ _ _ _ => N2)
  refine LCg.CompSrc.range (a := 0) (b := (count : Int)) (n := count) rfl F2 N2 R1 (small_one (by omega) (by omega) (by omega) (by omega)) (by rw [rangeSize_one]; split <;> omega) (by rw [PySem.sizeLine_eq]; omega) ?_
  intro g'
  refine comp_inv (fun i ys nw => X2 fun o' xs => A5 (nw = (L + 1 + 1, o1) :: (L + 1, o2) :: (P, o') :: news) (PoolOk Fa o') (Txts ys xs) (xs.length = i) (∀ x ∈ xs, x.length < most)) ⟨_, [], rfl, hP, .nil, rfl, fun _ h => nomatch h⟩ ?_ ?_
  · rintro i ys nw v I oI C oC D m₂ h tk E' hi ⟨tv, rfl⟩ ⟨o', xs, rfl, hP', hys, hxl, hxs⟩ hC hx2 F3 N3 off3 ne3
    walk_at "NZ"
    have hPI := off3_at off3 (List.mem_cons_of_mem _ (List.mem_cons_of_mem _ List.mem_cons_self))
    have N4 := news_sub (l := (P, o') :: (I, oI) :: (C, oC) :: (D, LCg.lst ys) :: (L + 1 + 1, o1) :: (L + 1, o2) :: news) N3 (by walk_at "NZ sub")
    refine pick_use (pick_spec w P Fa o' oF most t2 _ (by omega) hP' hFo (by walk_at "NZ mem") (Off.cons (Off.cons (Off.cons (Off.cons (Off.cons hoff hP2.symm) hP1.symm) hPI.2.2.symm) hPI.2.1.symm) hPI.1.symm)) B F3 X N4 T rfl (ltA hd' rfl) (ltA hu rfl) ?_
    intro o'' k tk9 h' tk' hP'' hk0 hk1 F5 N5
    have N6 := news_sub (l := (I, oI) :: (C, oC) :: (D, LCg.lst ys) :: (L + 1 + 1, o1) :: (L + 1, o2) :: (P, o'') :: news) N5 (by walk_at "NZ sub")
    walk_at "NZ"
    (rename Fr _ _ _ _ => F9)
    (rename News _ _ _ _ => N9)
    refine comp_end F9 N9 off3 trivial ⟨o'', xs ++ [_], rfl, hP'', hys.snoc _ _, by simp [hxl], ?_⟩
    intro x hx
    rcases List.mem_append.mp hx with hx | hx
    · exact hxs x hx
    · rw [List.mem_singleton.mp hx]
      obtain ⟨k, rfl⟩ := Int.eq_ofNat_of_zero_le hk0
      have := slice_len k (by omega)
      show (Txt.slice (Str.ofString "abcdefghij") none (some (k : Int))).length < most
      rw [this]
      omega
  rintro ys nw ⟨o', xs, rfl, hP', hys, hxl, hxs⟩
  rintro D h tk F3 N3 o1'
  walk_at "NZ"
  have hOD := off1 o1'
  exact ⟨_, _, _, (D, PySem.W.listOf (List.toArray ys) ys.length) :: (P, o') :: news, rfl, F3, news_sub N3 (by walk_at "NZ sub"), D, ys, ys.length, xs, o', rfl, rfl, hP', hOD.sub (by walk_at "NZ sub"), hys, hxl, hxs⟩
set_option maxHeartbeats 4000000 in
theorem lcolumn_spec (w : World) (h0 : Str) (l : Addr) (vs : List Value) (n : Nat) (xs : List Str) (left : Bool) (t1 : Tok) (news : List (Addr × Obj)) (hm : (l, PySem.W.listOf vs.toArray n) ∈ news) (hx : Txts vs xs) (hz : ∀ x ∈ xs, x.length ≤ 10) (hlen : xs.length ≤ 6) (hh0 : h0.length ≤ 10) :
    Spec w 132 2 23 [.str h0 t1, .ref l, .bool left] news (fun v nw => X3 fun D ys n => A4 (v = .ref D) (nw = (D, PySem.W.listOf (List.toArray ys) n) :: news) (Off D news) (Txts ys ((h0 :: xs).map fun x => sp 1 ++ fillT x (wid (h0 :: xs)) left))) := by
  w_top off
  refine specC_of [(Str.ofString "head", .str h0 t1), (Str.ofString "cells", .ref l), (Str.ofString "left", .bool left)] (by k_is) (by k_is) rfl rfl (by decide) ?_ rfl rfl rfl
  intro mean mg mb dp un gd outer A₀ base g L s cells B F X N Y hlt T hd' hu
  obtain ⟨o1, o2, rfl, d1, d2⟩ := CellsAre.two Y
  clear Y
  have F1 : Fr g L s.heap (fun y => if y = Str.ofString "cells" then some (.ref l) else if y = Str.ofString "head" then some (.str h0 t1) else none) := F
  have d1' : o1.data = .cell none := d1
  have d2' : o2.data = .cell (some (.bool left)) := d2
  clear F d1 d2
  simp only [List.cons_append, List.nil_append] at N
  have hxl := hx.length
  have hbig : ∀ x ∈ h0 :: xs, x.length ≤ 10 := fun x h => by
    rcases List.mem_cons.mp h with rfl | h
    · exact hh0
    · exact hz x h
  walk_at "NZ"
  (rename Fr _ _ _ _ => F2)
  (rename News _ _ _ _ => N2)
  refine nz_addL F2 N2 List.mem_cons_self (.tail _ (.tail _ (.tail _ hm))) (by simp; omega) ?_
  intro l1 h1' F3 N3 hO3
  walk_at "NZ"
  refine Spec.useI (lwidest_spec w l1 _ _ (h0 :: xs) _ List.mem_cons_self (.cons _ _ hx) (fun x h => Nat.le_trans (hbig x h) (by decide)) (by simp; omega)) B F3 X N3 T rfl (ltA hd' rfl) (ltA hu rfl) ?_
  intro t h' tk' F4 N4
  walk_at "NZ"
  have hOc : Off (L + 1 + 1) news := fun p hp => Nat.ne_of_lt (Nat.lt_succ_of_lt (Nat.lt_succ_of_lt (hlt p hp)))
  have hcc : (L + 1 : Addr) ≠ L + 1 + 1 := Nat.ne_of_lt (Nat.lt_succ_self _)
  refine nz_storeC (c := L + 1 + 1) F4 N4 rfl (by walk_at "NZ mem") d1' ?_
  intro h' o1' F5 N5 d1''
  have N6 := news_of (l := (L + 1 + 1, o1') :: (L + 1, o2) :: news) N5 ⟨_, by walk_at "NZ mem"⟩ (by walk_at "NZ led")
  clear N5 N4 F4 N3 F3 N2 F2 d1' N F1
  walk_at "NZ"
  refine LCg.ListComp_U F5 (by with_unfolding_all rfl) (by decide) rfl (by decide) rfl ?_
  walk_at "NZ"
  (rename Fr _ _ _ _ => F2)
  (rename News _ _ _ _ => N2)
  refine nz_addL F2 N2 List.mem_cons_self (.tail _ (.tail _ (.tail _ hm))) (by simp; omega) ?_
  intro l2 h2' F3 N3 hO4
  have N4 := news_sub (l := (l2, PySem.W.listOf (List.toArray ([Value.str h0 t1] ++ vs)) 0) :: (L + 1 + 1, o1') :: (L + 1, o2) :: news) N3 (by walk_at "NZ sub")
  refine LCg.CompSrc.ledger rfl F3 N4 List.mem_cons_self (by rw [PySem.sizeLine_eq]; simp; omega) ?_
  intro g'
  refine comp_inv (fun i ys nw => nw = (l2, PySem.W.listOf (List.toArray ([Value.str h0 t1] ++ vs)) 0) :: (L + 1 + 1, o1') :: (L + 1, o2) :: news ∧ Txts ys (((h0 :: xs).take i).map fun x => sp 1 ++ fillT x (wid (h0 :: xs)) left)) ⟨rfl, .nil⟩ ?_ ?_
  · rintro i ys nw v I oI C oC D m₂ h tk E' hi hv ⟨rfl, hys⟩ hC hx2 F3 N3 off3 ne3
    obtain ⟨y, ty, rfl, hyi⟩ := Txts.at (xs := h0 :: xs) (.cons _ _ hx) hv
    have hyz := hbig y (List.mem_of_getElem? hyi)
    have hwz : wid (h0 :: xs) ≤ 10 := wid_le hbig
    walk_at "NZ"
    refine Spec.useS (fill_spec w y _ left _ _ _ (by omega) (by omega)) B F3 X N3 T rfl (ltA hd' rfl) (ltA hu rfl) ?_
    intro t h' tk' F5 N5
    walk_at "NZ"
    (rename Fr _ _ _ _ => F9)
    (rename News _ _ _ _ => N9)
    have key : ∀ z t0, Txts (ys ++ [.str (Str.ofString " " ++ z) t0]) (((h0 :: xs).take i).map (fun x => sp 1 ++ fillT x (wid (h0 :: xs)) left) ++ [sp 1 ++ z]) := fun z t0 => by rw [sp_one]; exact hys.snoc _ _
    exact comp_end F9 N9 off3 (src_at List.mem_cons_self) ⟨rfl, by rw [List.take_add_one, hyi, List.map_append]; exact key _ _⟩
  rintro ys nw ⟨rfl, hys⟩
  rintro D h tk F3 N3 o1''
  walk_at "NZ"
  have hOD := off1 o1''
  rw [List.take_of_length_le (by simp; omega)] at hys
  exact ⟨_, _, _, (D, PySem.W.listOf (List.toArray ys) ys.length) :: news, rfl, F3, news_sub N3 (by walk_at "NZ sub"), D, ys, ys.length, rfl, rfl, hOD.sub (by walk_at "NZ sub"), hys⟩
/-- the labels' words -/
def lwordsT (count : Nat) (names : Option (List Str)) : List Str := match names with | some xs => xs | none => (List.range count).map fun k : Nat => Str.ofString "[" ++ num ((k : Int) + 1) ++ Str.ofString ",]"
def lroomT (count : Nat) (names : Option (List Str)) : Nat := match names with | some xs => wid xs | none => (num ((count : Int) + 1)).length + 3
def lfillT (count : Nat) (names : Option (List Str)) : List Str := (lwordsT count names).map fun x => fillT x (lroomT count names) names.isSome
def lfarT (count : Nat) (names : Option (List Str)) (t : Str) : Nat := max (t.length - lroomT count names) 2
def lmarksT (count : Nat) (names titles : Option (List Str)) : List Str := match titles with
  | none => sp (lroomT count names) :: lfillT count names
  | some ts => fillT (ts.getD 0 Str.empty) (lroomT count names + lfarT count names (ts.getD 0 Str.empty)) true :: (lfillT count names).map fun x => sp (lfarT count names (ts.getD 0 Str.empty)) ++ x
theorem lwordsT_succ (i : Nat) : lwordsT (i + 1) none = lwordsT i none ++ [Str.ofString "[" ++ num ((i : Int) + 1) ++ Str.ofString ",]"] := by
  unfold lwordsT
  dsimp only
  rw [List.range_succ, List.map_append]; rfl
theorem lwordsT_len {count : Nat} {names : Option (List Str)} (hc : count ≤ 7) (hnl : ∀ xs, names = some xs → xs.length = count ∧ ∀ x ∈ xs, x.length ≤ 10) : (lwordsT count names).length = count ∧ ∀ x ∈ lwordsT count names, x.length ≤ 10 := by
  cases names with
  | some xs => exact hnl xs rfl
  | none =>
    unfold lwordsT
    dsimp only
    refine ⟨by simp, fun x hx => ?_⟩
    obtain ⟨k, hk, rfl⟩ := List.mem_map.mp hx
    have hk := List.mem_range.mp hk
    have hnum : (num ((k : Int) + 1)).length = 1 := num_len_small k (by omega)
    simp only [PySem.Str.length_append, nz_len_lits, hnum]
    decide
theorem lroomT_le {count : Nat} {names : Option (List Str)} (hc : count ≤ 7) (hnl : ∀ xs, names = some xs → xs.length = count ∧ ∀ x ∈ xs, x.length ≤ 10) : lroomT count names ≤ 10 := by
  cases names with
  | some xs => exact wid_le (hnl xs rfl).2
  | none => unfold lroomT; dsimp only; rw [num_len_small _ hc]; decide
theorem lfillT_le {count : Nat} {names : Option (List Str)} (h1 : ∀ x ∈ lwordsT count names, x.length ≤ 10) (h2 : lroomT count names ≤ 10) : ∀ x ∈ lfillT count names, x.length ≤ 10 := by
  intro x hx
  obtain ⟨y, hy, rfl⟩ := List.mem_map.mp hx
  have := h1 y hy
  rw [fillT_length]; omega
set_option maxHeartbeats 4000000 in
theorem llabels_spec (w : World) (count : Nat) (t1 : Tok) (names titles : Option (List Str)) (vn vt : Value) (news : List (Addr × Obj)) (hc : count ≤ 6) (hn : OptL news names vn) (ht : OptL news titles vt)
    (hnl : ∀ xs, names = some xs → xs.length = count ∧ ∀ x ∈ xs, x.length ≤ 10) (htl : ∀ xs, titles = some xs → xs.length = 2 ∧ ∀ x ∈ xs, x.length ≤ 10) :
    Spec w 127 2 23 [.int count t1, vn, vt] news (fun v nw => X3 fun D ys n => A4 (v = .ref D) (nw = (D, PySem.W.listOf (List.toArray ys) n) :: news) (Off D news) (Txts ys (lmarksT count names titles))) := by
  w_top off
  refine specC_of [(Str.ofString "count", .int count t1), (Str.ofString "names", vn), (Str.ofString "titles", vt)] (by k_is) (by k_is) rfl rfl (by decide) ?_ rfl rfl rfl
  intro mean mg mb dp un gd outer A₀ base g L s cells B F X N Y hlt T hd' hu
  obtain ⟨o1, o2, o3, rfl, d1, d2, d3⟩ := CellsAre.three Y
  clear Y
  have F1 : Fr g L s.heap (fun y => if y = Str.ofString "titles" then some vt else if y = Str.ofString "count" then some (.int count t1) else none) := F
  have d1' : o1.data = .cell none := d1
  have d2' : o2.data = .cell none := d2
  have d3' : o3.data = .cell (some vn) := d3
  clear F d1 d2 d3
  simp only [List.cons_append, List.nil_append] at N
  have hO1 : Off (L + 1 + 1 + 1) news := fun p hp => Nat.ne_of_lt (Nat.lt_succ_of_lt (Nat.lt_succ_of_lt (Nat.lt_succ_of_lt (hlt p hp))))
  have hO2 : Off (L + 1 + 1) news := fun p hp => Nat.ne_of_lt (Nat.lt_succ_of_lt (Nat.lt_succ_of_lt (hlt p hp)))
  have hc12 : (L + 1 + 1 : Addr) ≠ L + 1 + 1 + 1 := Nat.ne_of_lt (Nat.lt_succ_self _)
  have hc13 : (L + 1 : Addr) ≠ L + 1 + 1 + 1 := Nat.ne_of_lt (Nat.lt_succ_of_lt (Nat.lt_succ_self _))
  have hc23 : (L + 1 : Addr) ≠ L + 1 + 1 := Nat.ne_of_lt (Nat.lt_succ_self _)
  walk_at "NZi"
  refine exec_mid [Str.ofString "words"] (fun m nw' => X5 fun o2' lw wvs wn tw => A5 (nw' = (L + 1 + 1 + 1, o1) :: (L + 1 + 1, o2') :: (L + 1, o3) :: (lw, PySem.W.listOf (List.toArray wvs) wn) :: news) (o2'.data = .cell (some (.int (lroomT count names) tw))) (Txts wvs (lwordsT count names)) (m (Str.ofString "words") = some (.ref lw)) (Off (L + 1 + 1 + 1) ((lw, PySem.W.listOf (List.toArray wvs) wn) :: news))) F1 ?_ ?_
  · cases names with
    | none =>
      have hn' : vn = .none := hn
      subst hn'
      walk_at "NZ"
      refine LCg.Assign_ListComp_U F1 rfl (by with_unfolding_all rfl) (by with_unfolding_all rfl) (by decide) rfl (by decide) rfl rfl rfl ?_
      walk_at "NZ"
      (rename IsRange _ _ _ _ _ _ _ _ => R1)
      (rename Fr _ _ _ _ => F2)
      (rename News _ _ _ _ => N2)
      refine LCg.CompSrc.range (a := 0) (b := (count : Int)) (n := count) rfl F2 N2 R1 (small_one (by omega) (by omega) (by omega) (by omega)) (by rw [rangeSize_one]; split <;> omega) (by rw [PySem.sizeLine_eq]; omega) ?_
      intro g'
      refine comp_inv (fun i ys nw => nw = (L + 1 + 1 + 1, o1) :: (L + 1 + 1, o2) :: (L + 1, o3) :: news ∧ Txts ys (lwordsT i none)) ⟨rfl, (.nil : Txts [] [])⟩ ?_ ?_
      · rintro i ys nw v I oI C oC D m₂ h tk E' hi ⟨tv, rfl⟩ ⟨rfl, hys⟩ hC hx2 F3 N3 off3 ne3
        rw [Int.zero_add] at hx2
        have hnum : (Str.ofString (toString ((i : Int) + 1))).length = 1 := num_len_small i (by omega)
        walk_at "NZ"
        (rename Fr _ _ _ _ => F9)
        (rename News _ _ _ _ => N9)
        exact comp_end F9 N9 off3 trivial ⟨rfl, by rw [lwordsT_succ]; exact hys.snoc _ _⟩
      rintro ys nw ⟨rfl, hys⟩
      rintro D h tk F3 N3 o1''
      have hnum : (Str.ofString (toString ((count : Int) + 1))).length = 1 := num_len_small count (by omega)
      have hOD := off1 o1''
      walk_at "NZ"
      refine nz_storeC (c := L + 1 + 1) F3 N3 rfl (by walk_at "NZ mem") d2' ?_
      intro h' o2' F5 N5 d2''
      have N6 := news_of (l := (L + 1 + 1 + 1, o1) :: (L + 1 + 1, o2') :: (L + 1, o3) :: (D, PySem.W.listOf (List.toArray ys) ys.length) :: news) N5 ⟨_, by walk_at "NZ mem"⟩ (by walk_at "NZ led")
      clear N5
      walk_at "NZ"
      exact midP F5 N6 ⟨by walk_at "SAME", o2', D, ys, _, _, rfl, d2'', hys, rfl, Off.cons hO1 (by walk_at "NZ ne")⟩
    | some xs =>
      obtain ⟨a, nvs, nn, rfl, hnm, hnx⟩ := hn
      have hnl2 := hnl xs rfl
      walk_at "NZ"
      (rename Fr _ _ _ _ => F2)
      (rename News _ _ _ _ => N2)
      refine Spec.useI (lwidest_spec w a nvs nn xs _ (by walk_at "NZ mem") hnx (fun x h => Nat.le_trans (hnl2.2 x h) (by decide)) (by omega)) B F2 X N2 T rfl (ltA hd' rfl) (ltA hu rfl) ?_
      intro t h' tk' F3 N3
      walk_at "NZ"
      refine nz_storeC (c := L + 1 + 1) F3 N3 rfl (by walk_at "NZ mem") d2' ?_
      intro h' o2' F5 N5 d2''
      have N6 := news_of (l := (L + 1 + 1 + 1, o1) :: (L + 1 + 1, o2') :: (L + 1, o3) :: (a, PySem.W.listOf (List.toArray nvs) nn) :: news) N5 ⟨_, by walk_at "NZ mem"⟩ (by walk_at "NZ led")
      clear N5
      walk_at "NZ"
      exact midP F5 N6 ⟨by walk_at "SAME", o2', a, nvs, _, _, rfl, d2'', hnx, rfl, Off.cons hO1 (by walk_at "NZ ne")⟩
  rintro h' tk' m' nw' F3 N3 hs ⟨o2', lw, wvs, wn, tw, rfl, d2'', hwvs, hmw, hOw⟩
  rw [hs.open1, hmw] at F3
  have hwl := lwordsT_len (count := count) (names := names) (by omega) hnl
  have hwvl := hwvs.length
  have hrm := lroomT_le (count := count) (names := names) (by omega) hnl
  walk_at "NZi"
  refine LCg.Assign_ListComp_U F3 rfl (by with_unfolding_all rfl) (by with_unfolding_all rfl) (by decide) rfl (by decide) rfl rfl rfl ?_
  walk_at "NZi"
  refine LCg.CompSrc.ledger rfl F3 N3 (by walk_at "NZ mem") (by rw [PySem.sizeLine_eq]; simp; omega) ?_
  intro g'
  refine comp_inv (fun i ys nw => nw = (L + 1 + 1 + 1, o1) :: (L + 1 + 1, o2') :: (L + 1, o3) :: (lw, PySem.W.listOf (List.toArray wvs) wn) :: news ∧ Txts ys (((lwordsT count names).take i).map fun x => fillT x (lroomT count names) names.isSome)) ⟨rfl, .nil⟩ ?_ ?_
  · rintro i ys nw v I oI C oC D m₂ h tk E' hi hv ⟨rfl, hys⟩ hC hx2 F5 N5 off3 ne3
    obtain ⟨y, ty, rfl, hyi⟩ := hwvs.at hv
    have hyz := hwl.2 y (List.mem_of_getElem? hyi)
    clear F3 N3
    cases names with
    | none =>
      have hn' : vn = .none := hn
      subst hn'
      walk_at "NZ"
      refine Spec.useS (fill_spec w y _ false _ _ _ (by omega) (by omega)) B F5 X N5 T rfl (ltA hd' rfl) (ltA hu rfl) ?_
      intro t h' tk' F6 N6
      walk_at "NZ"
      exact comp_end F6 N6 off3 (src_at (by walk_at "NZ mem")) ⟨rfl, by rw [List.take_add_one, hyi, List.map_append]; exact hys.snoc _ _⟩
    | some xs =>
      obtain ⟨a, nvs, nn, rfl, hnm, hnx⟩ := hn
      walk_at "NZ"
      refine Spec.useS (fill_spec w y _ true _ _ _ (by omega) (by omega)) B F5 X N5 T rfl (ltA hd' rfl) (ltA hu rfl) ?_
      intro t h' tk' F6 N6
      walk_at "NZ"
      exact comp_end F6 N6 off3 (src_at (by walk_at "NZ mem")) ⟨rfl, by rw [List.take_add_one, hyi, List.map_append]; exact hys.snoc _ _⟩
  rintro ys nw ⟨rfl, hys⟩
  rintro D h tk F4 N4 o4
  have hOD := off1 o4
  rw [List.take_of_length_le (by simp; omega)] at hys
  change Txts ys (lfillT count names) at hys
  have hfl : ∀ x ∈ lfillT count names, x.length ≤ 10 := lfillT_le hwl.2 hrm
  have hfn : ys.length ≤ 6 := by rw [hys.length]; unfold lfillT; rw [List.length_map]; omega
  clear F3 N3
  have N5 := news_sub (l := (D, PySem.W.listOf (List.toArray ys) ys.length) :: (L + 1 + 1 + 1, o1) :: (L + 1 + 1, o2') :: (L + 1, o3) :: news) N4 (by walk_at "NZ sub")
  clear N4
  cases titles with
  | none =>
    have ht' : vt = .none := ht
    subst ht'
    walk_at "NZ"
    (rename Fr _ _ _ _ => F2)
    (rename News _ _ _ _ => N2)
    simp only [mul_sp, Int.toNat_natCast] at N2
    refine nz_addL F2 N2 List.mem_cons_self (.tail _ List.mem_cons_self) (by simp; omega) ?_
    intro l1 h1' F3 N3 hO3
    walk_at "NZ"
    exact ⟨_, _, _, (l1, PySem.W.listOf (List.toArray ([Value.str (sp (lroomT count names)) _] ++ ys)) 0) :: news, rfl, F3, news_sub N3 (by walk_at "NZ sub"), l1, _, 0, rfl, rfl, hO3.sub (by walk_at "NZ sub"), .cons _ _ hys⟩
  | some ts =>
    obtain ⟨a, tvs, tn, rfl, htm, htx⟩ := ht
    have htl2 := htl ts rfl
    obtain ⟨z, hz0⟩ : ∃ z, ts[0]? = some z := ⟨ts[0]'(by omega), by simp⟩
    obtain ⟨tz, htv⟩ := htx.get 0 z hz0
    have hzl := htl2.2 z (List.mem_of_getElem? hz0)
    have hgd := getD_of (d := Str.empty) hz0
    walk_at "NZ"
    have hDc := hOD.head
    (rename Fr _ _ _ _ => F5)
    (rename News _ _ _ _ => N6)
    refine nz_storeC (c := L + 1 + 1 + 1) F5 N6 rfl (by walk_at "NZ mem") d1' ?_
    intro h' o1' F7 N7 d1''
    have N8 := news_of (l := (D, PySem.W.listOf (List.toArray ys) ys.length) :: (L + 1 + 1 + 1, o1') :: (L + 1 + 1, o2') :: (L + 1, o3) :: news) N7 ⟨_, by walk_at "NZ mem"⟩ (by walk_at "NZ led")
    clear N7; (try clear N5); (try clear N6)
    have e : ∀ (p q : Nat), (if (p : Int) - (q : Int) > 2 then (p : Int) - (q : Int) else 2) = ((max (p - q) 2 : Nat) : Int) := by intro p q; split <;> omega
    rw [e] at d1''
    have hfar : max (z.length - lroomT count names) 2 = lfarT count names z := rfl
    rw [hfar] at d1''
    have hfl2 : lfarT count names z ≤ 10 := by rw [← hfar]; omega
    walk_at "NZ"
    refine Spec.useS (fill_spec w z (lroomT count names + lfarT count names z) true _ _ _ (by omega) (by omega)) B F7 X N8 T rfl (ltA hd' rfl) (ltA hu rfl) ?_
    intro t h' tk' F8 N9
    walk_at "NZ"
    (rename Fr _ _ _ _ => F9)
    (rename News _ _ _ _ => N10)
    refine LCg.ListComp_U F9 (by with_unfolding_all rfl) (by decide) rfl (by decide) rfl ?_
    walk_at "NZ"
    refine LCg.CompSrc.ledger rfl F9 N10 (by walk_at "NZ mem") (by rw [PySem.sizeLine_eq]; simp; omega) ?_
    intro g'
    rename_i Z _ _
    refine comp_inv (fun i zs nw => nw = (Z, PySem.W.listOf (List.toArray [Value.str (fillT z (lroomT count names + lfarT count names z) true) t]) 0) :: (D, PySem.W.listOf (List.toArray ys) ys.length) :: (L + 1 + 1 + 1, o1') :: (L + 1 + 1, o2') :: (L + 1, o3) :: news ∧ Txts zs (((lfillT count names).take i).map fun x => sp (lfarT count names z) ++ x)) ⟨rfl, .nil⟩ ?_ ?_
    · rintro i zs nw v I oI C oC D2 m₂ h tk E' hi hv ⟨rfl, hzs⟩ hC hx2 F5 N5 off3 ne3
      obtain ⟨y, ty, rfl, hyi⟩ := hys.at hv
      have hyz := hfl y (List.mem_of_getElem? hyi)
      walk_at "NZ"
      (rename Fr _ _ _ _ => F11)
      (rename News _ _ _ _ => N11)
      have key : ∀ t0, Txts (zs ++ [.str (Txt.mul (Str.ofString " ") (lfarT count names z : Nat) ++ y) t0]) (((lfillT count names).take i).map (fun x => sp (lfarT count names z) ++ x) ++ [sp (lfarT count names z) ++ y]) := fun t0 => by rw [mul_sp, Int.toNat_natCast]; exact hzs.snoc _ _
      exact comp_end F11 N11 off3 (src_at (by walk_at "NZ mem")) ⟨rfl, by rw [List.take_add_one, hyi, List.map_append]; exact key _⟩
    rintro zs nw ⟨rfl, hzs⟩
    rintro D2 h tk F12 N12 o5
    have hOD2 := off1 o5
    rw [List.take_of_length_le (by rw [← hys.length]; simp)] at hzs
    have hzn := hzs.length
    rw [List.length_map, ← hys.length] at hzn
    walk_at "NZ"
    refine nz_addL F12 N12 (.tail _ List.mem_cons_self) List.mem_cons_self (by simp; omega) ?_
    intro l1 h1' F13 N13 hO13
    walk_at "NZ"
    refine ⟨_, _, _, (l1, PySem.W.listOf (List.toArray ([Value.str (fillT z (lroomT count names + lfarT count names z) true) t] ++ zs)) 0) :: news, rfl, F13, news_sub N13 (by walk_at "NZ sub"), l1, _, 0, rfl, rfl, hO13.sub (by walk_at "NZ sub"), ?_⟩
    unfold lmarksT
    dsimp only
    rw [hgd]
    exact .cons _ _ hzs
/-- the law's column -/
def colT (h0 : Str) (xs : List Str) (left : Bool) : List Str := (h0 :: xs).map fun x => sp 1 ++ fillT x (wid (h0 :: xs)) left
def colsT (d : Lay) : List (List Str) := (List.range d.cols.length).map fun j => colT (headT d j) (d.cols.getD j []) d.left
def layOf (count : Nat) (cells : List (List Str)) (names heads titles : Option (List Str)) (left : Bool) : Lay :=
  ⟨count, cells, names, heads, titles.map (·.getD 0 Str.empty), titles.map (·.getD 1 Str.empty), left⟩
/-- the columns' title above a piece -/
def dueTop (titles : Option (List Str)) (n : Nat) : List Str := match titles with | none => [] | some ts => [sp n ++ ts.getD 1 Str.empty]
/-- one piece of what is due -/
def dueP (cols : List (List Str)) (marks : List Str) (titles : Option (List Str)) (count : Nat) (piece : List Nat) : List Str :=
  dueTop titles (marks.getD 0 Str.empty).length ++ (List.range (count + 1)).map fun r => marks.getD r Str.empty ++ catT (piece.map fun s => (cols.getD s []).getD r Str.empty)
def dueT (cols : List (List Str)) (marks : List Str) (titles : Option (List Str)) (count width : Nat) : List Str :=
  (partsT (cols.map fun c => (c.getD 0 Str.empty).length) (marks.getD 0 Str.empty).length width).flatMap (dueP cols marks titles count)

theorem wid_foldl (xs : List Str) : ∀ a, xs.foldl (fun a x => max a x.length) a = max a (wid xs) := by
  unfold wid
  induction xs with
  | nil => intro a; simp
  | cons x r ih => intro a; rw [List.foldl_cons, List.foldl_cons, ih (max a x.length), ih (max 0 x.length), Nat.zero_max, Nat.max_assoc]
theorem wid_cons (x : Str) (xs : List Str) : wid (x :: xs) = max (wid xs) x.length := by
  show (x :: xs).foldl (fun a x => max a x.length) 0 = _
  rw [List.foldl_cons, wid_foldl, Nat.zero_max, Nat.max_comm]

theorem colT_length (h0 : Str) (xs : List Str) (left : Bool) : (colT h0 xs left).length = xs.length + 1 := by simp [colT]
theorem colT_le {h0 : Str} {xs : List Str} {left : Bool} (h : h0.length ≤ 10) (hx : ∀ x ∈ xs, x.length ≤ 10) : ∀ y ∈ colT h0 xs left, y.length ≤ 11 := by
  intro y hy
  obtain ⟨x, hm, rfl⟩ := List.mem_map.mp hy
  have hb : ∀ x ∈ h0 :: xs, x.length ≤ 10 := fun x h' => by
    rcases List.mem_cons.mp h' with rfl | h'
    · exact h
    · exact hx x h'
  have h1 := hb x hm
  have h2 : wid (h0 :: xs) ≤ 10 := wid_le hb
  rw [PySem.Str.length_append, sp_length, fillT_length]
  omega
theorem colsT_ok {d : Lay} (ho : LayOk d) : (colsT d).length = d.cols.length ∧ ∀ c ∈ colsT d, c.length = d.rows + 1 ∧ ∀ y ∈ c, y.length ≤ 11 := by
  refine ⟨by simp [colsT], fun c hc => ?_⟩
  obtain ⟨j, hj, rfl⟩ := List.mem_map.mp hc
  have hj := List.mem_range.mp hj
  have e : d.cols.getD j [] = d.cols[j] := by rw [List.getD_eq_getElem?_getD, List.getElem?_eq_getElem hj]; rfl
  have hcol := ho.col d.cols[j] (List.getElem_mem hj)
  rw [e]
  exact ⟨by rw [colT_length, hcol.1], colT_le (headT_len ho hj) hcol.2⟩
theorem lmarksT_ok {count : Nat} {names titles : Option (List Str)} (hc : count ≤ 6) (hn : ∀ xs, names = some xs → xs.length = count ∧ ∀ x ∈ xs, x.length ≤ 10) (ht : ∀ xs, titles = some xs → xs.length = 2 ∧ ∀ x ∈ xs, x.length ≤ 10) :
    (lmarksT count names titles).length = count + 1 ∧ ∀ y ∈ lmarksT count names titles, y.length ≤ 20 := by
  have h1 := lwordsT_len (count := count) (names := names) (by omega) hn
  have h2 := lroomT_le (count := count) (names := names) (by omega) hn
  have h3 := lfillT_le h1.2 h2
  have h4 : (lfillT count names).length = count := by unfold lfillT; rw [List.length_map]; exact h1.1
  cases titles with
  | none =>
    unfold lmarksT
    dsimp only
    refine ⟨by rw [List.length_cons, h4], fun y hy => ?_⟩
    rcases List.mem_cons.mp hy with rfl | hy
    · rw [sp_length]; omega
    · have := h3 y hy; omega
  | some ts =>
    have h5 := ht ts rfl
    have h6 : (ts.getD 0 Str.empty).length ≤ 10 := h5.2 _ (by rw [List.getD_eq_getElem?_getD, List.getElem?_eq_getElem (by omega)]; exact List.getElem_mem _)
    have h7 : lfarT count names (ts.getD 0 Str.empty) ≤ 10 := by unfold lfarT; omega
    unfold lmarksT
    dsimp only
    refine ⟨by rw [List.length_cons, List.length_map, h4], fun y hy => ?_⟩
    rcases List.mem_cons.mp hy with rfl | hy
    · rw [fillT_length]; omega
    · obtain ⟨x, hx, rfl⟩ := List.mem_map.mp hy
      have := h3 x hx
      rw [PySem.Str.length_append, sp_length]; omega

/-- the partition's invariant -/
def contT (d : Lay) (width b i tot : Nat) : List Str :=
  blockT d (wsT d) b (growT (wsT d) d.cols.length width (d.cols.length - i) tot i) ++ blocksT d width (d.cols.length - growT (wsT d) d.cols.length width (d.cols.length - i) tot i) (growT (wsT d) d.cols.length width (d.cols.length - i) tot i)
theorem blocksT_step (d : Lay) (width b : Nat) (hb : b < d.cols.length) : blocksT d width (d.cols.length - b) b = contT d width b (b + 1) (room d + offs d + 1 + (wsT d).getD b 0) := by
  have he := endT_gt d width b hb
  have e : d.cols.length - b = (d.cols.length - b - 1) + 1 := by omega
  conv => lhs; rw [e]; unfold blocksT
  rw [if_pos hb, blocksT_fuel d width (d.cols.length - b - 1) (d.cols.length - endT d width b) _ (by omega) (Nat.le_refl _)]
  rfl
theorem range'_snoc (b n : Nat) : List.range' b n ++ [b + n] = List.range' b (n + 1) := by
  rw [List.range'_concat]; simp
theorem parts_inv (d : Lay) (width : Nat) (us : List Nat) (hu : ∀ j, j < d.cols.length → us.getD j 0 = 1 + (wsT d).getD j 0) :
    ∀ i, 0 < i → i ≤ d.cols.length → ∃ (b : Nat) (r : List (List Nat)) (tot : Nat) (pre : List Str), partsR us (room d + offs d) width i = (List.range' b (i - b) :: r, tot) ∧ b < i ∧
      (∀ (f : List Nat → List Str), (∀ b n, b + n ≤ d.cols.length → 0 < n → f (List.range' b n) = blockT d (wsT d) b (b + n)) → r.reverse.flatMap f = pre) ∧
      blocksT d width d.cols.length 0 = pre ++ contT d width b i tot := by
  intro i
  induction i with
  | zero => intro h; exact absurd h (by decide)
  | succ i ih =>
    intro _ hi
    have hui := hu i (by omega)
    have hstep : partsR us (room d + offs d) width (i + 1) = pAdd i (us.getD i 0) (pIf width (room d + offs d) (us.getD i 0) (partsR us (room d + offs d) width i)) := rfl
    by_cases h0 : i = 0
    · subst h0
      refine ⟨0, [], room d + offs d + us.getD 0 0, [], ?_, by omega, fun f _ => rfl, ?_⟩
      · rw [hstep]; rfl
      · have := blocksT_step d width 0 (by omega)
        rw [Nat.sub_zero] at this
        rw [this, hui, List.nil_append]
        congr 1
        omega
    · obtain ⟨b, r, tot, pre, hR, hb, hpre, hbl⟩ := ih (by omega) (by omega)
      rw [hstep, hR]
      by_cases hw : width ≤ tot + us.getD i 0
      · have hg : growT (wsT d) d.cols.length width (d.cols.length - i) tot i = i := by
          rw [show d.cols.length - i = (d.cols.length - (i + 1)) + 1 by omega]
          unfold growT
          rw [if_neg (by omega)]
        refine ⟨i, List.range' b (i - b) :: r, room d + offs d + us.getD i 0, pre ++ blockT d (wsT d) b i, ?_, by omega, fun f hf => ?_, ?_⟩
        · unfold pIf pAdd
          simp only [decide_eq_true hw, Bool.or_true, if_true, List.nil_append]
          rw [show i + 1 - i = 1 by omega]; rfl
        · rw [List.reverse_cons, List.flatMap_append, hpre f hf]
          simp only [List.flatMap_cons, List.flatMap_nil, List.append_nil]
          rw [hf b (i - b) (by omega) (by omega), show b + (i - b) = i by omega]
        · rw [hbl]
          unfold contT
          rw [hg, blocksT_step d width i (by omega), hui, List.append_assoc]
          unfold contT
          rw [show room d + offs d + (1 + (wsT d).getD i 0) = room d + offs d + 1 + (wsT d).getD i 0 by omega]
      · refine ⟨b, r, tot + us.getD i 0, pre, ?_, by omega, hpre, ?_⟩
        · unfold pIf pAdd
          simp only [decide_eq_false hw, Bool.or_false, List.isEmpty_cons, Bool.false_eq_true, if_false]
          rw [show i + 1 - b = (i - b) + 1 by omega, ← range'_snoc, show b + (i - b) = i by omega]
        · rw [hbl]
          congr 1
          unfold contT
          rw [show d.cols.length - i = (d.cols.length - (i + 1)) + 1 by omega]
          have hg : growT (wsT d) d.cols.length width ((d.cols.length - (i + 1)) + 1) tot i = growT (wsT d) d.cols.length width (d.cols.length - (i + 1)) (tot + us.getD i 0) (i + 1) := by
            conv => lhs; unfold growT
            rw [if_pos (by omega), show tot + 1 + (wsT d).getD i 0 = tot + us.getD i 0 by omega]
          rw [hg]
theorem rows_parts (d : Lay) (width : Nat) (us : List Nat) (hl : us.length = d.cols.length) (hu : ∀ j, j < d.cols.length → us.getD j 0 = 1 + (wsT d).getD j 0)
    (f : List Nat → List Str) (hf : ∀ b n, b + n ≤ d.cols.length → f (List.range' b n) = blockT d (wsT d) b (b + n)) : (partsT us (room d + offs d) width).flatMap f = rowsT d width := by
  unfold rowsT partsT
  by_cases h0 : d.cols.length = 0
  · rw [if_pos h0, hl, h0]
    have := hf 0 0 (by omega)
    simp only [partsR, List.flatMap_cons, List.flatMap_nil, List.append_nil]
    exact this
  · rw [if_neg h0, hl]
    obtain ⟨b, r, tot, pre, hR, hb, hpre, hbl⟩ := parts_inv d width us hu d.cols.length (by omega) (Nat.le_refl _)
    rw [hR, hbl]
    dsimp only
    rw [List.reverse_cons, List.flatMap_append, hpre f fun b n h _ => hf b n h]
    simp only [List.flatMap_cons, List.flatMap_nil, List.append_nil]
    rw [hf b _ (by omega), show b + (d.cols.length - b) = d.cols.length by omega]
    unfold contT
    rw [Nat.sub_self]
    show _ = pre ++ (blockT d (wsT d) b d.cols.length ++ blocksT d width (d.cols.length - d.cols.length) d.cols.length)
    rw [Nat.sub_self]
    unfold blocksT
    rw [List.append_nil]
theorem range_map {α : Type} (f : Nat → α) {n j : Nat} (h : j < n) : ((List.range n).map f)[j]? = some (f j) := by
  rw [List.getElem?_map, List.getElem?_range h]; rfl
theorem head_mark {count : Nat} {names heads titles : Option (List Str)} {css : List (List Str)} {left : Bool} :
    (lmarksT count names titles).getD 0 Str.empty = fillT (titleT (layOf count css names heads titles left)) (room (layOf count css names heads titles left) + offs (layOf count css names heads titles left)) true := by
  have hr : lroomT count names = room (layOf count css names heads titles left) := rfl
  cases titles with
  | none =>
    show sp (lroomT count names) = _
    have h0 : offs (layOf count css names heads none left) = 0 := rfl
    rw [hr, h0]
    unfold fillT titleT layOf
    simp only [Option.map_none, if_true, nz_len_lits, Nat.sub_zero, Nat.add_zero]
    rw [show Str.ofString "" = Str.empty by decide +kernel, empty_append']
  | some ts => rfl
theorem row_mark {count : Nat} {names heads titles : Option (List Str)} {css : List (List Str)} {left : Bool} (hn : ∀ xs, names = some xs → xs.length = count) {r : Nat} (hr : r < count) :
    (lmarksT count names titles).getD (r + 1) Str.empty = labelT (layOf count css names heads titles left) r := by
  have hf : (lfillT count names)[r]? = some (match names with | some xs => fillT (xs.getD r Str.empty) (lroomT count names) true | none => fillT (Str.ofString "[" ++ num ((r : Int) + 1) ++ Str.ofString ",]") (lroomT count names) false) := by
    unfold lfillT lwordsT
    cases names with
    | none => simp [hr]
    | some xs =>
      have := hn xs rfl
      simp [List.getElem?_eq_getElem (show r < xs.length by omega)]
  unfold labelT
  cases titles with
  | none =>
    show (sp (lroomT count names) :: lfillT count names).getD (r + 1) Str.empty = sp 0 ++ _
    rw [sp_zero, empty_append', List.getD_cons_succ, getD_of hf]
    cases names <;> rfl
  | some ts =>
    show (_ :: (lfillT count names).map fun x => sp (lfarT count names (ts.getD 0 Str.empty)) ++ x).getD (r + 1) Str.empty = _
    rw [List.getD_cons_succ, getD_of (by rw [List.getElem?_map, hf]; rfl)]
    cases names <;> rfl
theorem due_rows {count width : Nat} {css : List (List Str)} {names heads titles : Option (List Str)} {left : Bool} (ho : LayOk (layOf count css names heads titles left)) (hn : ∀ xs, names = some xs → xs.length = count) :
    dueT (colsT (layOf count css names heads titles left)) (lmarksT count names titles) titles count width = rowsT (layOf count css names heads titles left) width := by
  have hm : (lmarksT count names titles).getD 0 Str.empty = _ := head_mark (heads := heads) (css := css) (left := left)
  have hrow : ∀ r, r < count → (lmarksT count names titles).getD (r + 1) Str.empty = _ := fun r hr => row_mark (heads := heads) (css := css) (left := left) (titles := titles) hn hr
  have hml : ((lmarksT count names titles).getD 0 Str.empty).length = room (layOf count css names heads titles left) + offs (layOf count css names heads titles left) := by
    rw [hm, fillT_length]
    have : (titleT (layOf count css names heads titles left)).length ≤ room (layOf count css names heads titles left) + offs (layOf count css names heads titles left) := by
      cases titles with
      | none => show (Str.ofString "").length ≤ _; rw [nz_len_lits.2.2.2.2.2]; exact Nat.zero_le _
      | some ts =>
        show (ts.getD 0 Str.empty).length ≤ room _ + max ((ts.getD 0 Str.empty).length - room _) 2
        omega
    omega
  have hcol : ∀ j, j < css.length → (colsT (layOf count css names heads titles left)).getD j [] = colT (headT (layOf count css names heads titles left) j) (css.getD j []) left := by
    intro j hj
    exact getD_of (range_map (n := css.length) (fun j => colT (headT (layOf count css names heads titles left) j) (css.getD j []) left) hj)
  have hws : ∀ j, j < css.length → wid (headT (layOf count css names heads titles left) j :: css.getD j []) = (wsT (layOf count css names heads titles left)).getD j 0 := by
    intro j hj
    rw [getD_of (xs := wsT _) (range_map (n := css.length) (wT (layOf count css names heads titles left)) hj), wid_cons]
    rfl
  unfold dueT
  rw [hml]
  refine rows_parts _ width _ (by simp [colsT, layOf]) (fun j hj => ?_) _ fun b n hbn => ?_
  · have hj' : j < css.length := hj
    rw [List.getD_eq_getElem?_getD, List.getElem?_map, ← hws j hj']
    have := hcol j hj'
    rw [List.getD_eq_getElem?_getD] at this
    have hl : (colsT (layOf count css names heads titles left))[j]? = some (colT (headT (layOf count css names heads titles left) j) (css.getD j []) left) := range_map (n := css.length) (fun j => colT (headT (layOf count css names heads titles left) j) (css.getD j []) left) hj'
    rw [hl]
    show (sp 1 ++ fillT _ _ _).length = _
    rw [PySem.Str.length_append, sp_length, fillT_length, wid_cons]
    omega
  · have hbn' : b + n ≤ css.length := hbn
    have htop : dueTop titles ((lmarksT count names titles).getD 0 Str.empty).length = topT (layOf count css names heads titles left) := by
      rw [hml]
      cases titles <;> rfl
    have hcell0 : ∀ i, i < n → ((colsT (layOf count css names heads titles left)).getD (b + i) []).getD 0 Str.empty = sp 1 ++ fillT (headT (layOf count css names heads titles left) (b + i)) ((wsT (layOf count css names heads titles left)).getD (b + i) 0) left := by
      intro i hi
      rw [hcol (b + i) (by omega), ← hws (b + i) (by omega)]
      rfl
    have hcell : ∀ r i, r < count → i < n → ((colsT (layOf count css names heads titles left)).getD (b + i) []).getD (r + 1) Str.empty = sp 1 ++ fillT ((css.getD (b + i) []).getD r Str.empty) ((wsT (layOf count css names heads titles left)).getD (b + i) 0) left := by
      intro r i hr hi
      have hbi : b + i < css.length := by omega
      have hc : css[b + i]? = some css[b + i] := List.getElem?_eq_getElem hbi
      have hlen : css[b + i].length = count := (ho.col css[b + i] (List.getElem_mem hbi)).1
      rw [hcol (b + i) hbi, ← hws (b + i) hbi, getD_of hc]
      have hx : css[b + i][r]? = some (css[b + i][r]'(by omega)) := List.getElem?_eq_getElem _
      rw [getD_of hx]
      unfold colT
      rw [List.map_cons, List.getD_cons_succ]
      exact getD_of (by rw [List.getElem?_map, hx]; rfl)
    have hmap : ∀ g f : Nat → Str, (∀ i, i < n → g (b + i) = f i) → (List.range' b n).map g = (List.range n).map f := by
      intro g f h
      rw [List.range'_eq_map_range, List.map_map]
      exact List.map_congr_left fun i hi => h i (List.mem_range.mp hi)
    have hline : (lmarksT count names titles).getD 0 Str.empty ++ catT ((List.range' b n).map fun s => ((colsT (layOf count css names heads titles left)).getD s []).getD 0 Str.empty) = lineT (layOf count css names heads titles left) (wsT (layOf count css names heads titles left)) b (b + n) := by
      unfold lineT cellsT
      rw [catT_cons, hm, show b + n - b = n by omega, hmap _ _ hcell0]
      rfl
    have hrows : ∀ r, r < count → (lmarksT count names titles).getD (r + 1) Str.empty ++ catT ((List.range' b n).map fun s => ((colsT (layOf count css names heads titles left)).getD s []).getD (r + 1) Str.empty) = rowT (layOf count css names heads titles left) (wsT (layOf count css names heads titles left)) b (b + n) r := by
      intro r hr
      unfold rowT cellsT
      rw [catT_cons, hrow r hr, show b + n - b = n by omega, hmap _ _ fun i hi => hcell r i hr hi]
      rfl
    unfold dueP blockT
    rw [htop, List.append_assoc]
    congr 1
    rw [List.range_succ_eq_map, List.map_cons, List.map_map, hline]
    show _ :: _ = _ :: _
    congr 1
    exact List.map_congr_left fun r hr => hrows r (List.mem_range.mp hr)
theorem partsR_el (ws : List Nat) (marks width : Nat) : ∀ i, ∀ g ∈ (partsR ws marks width i).1, ∀ j ∈ g, j < i
  | 0 => fun _ h => nomatch h
  | i + 1 => by
    have ih := partsR_el ws marks width i
    rw [show partsR ws marks width (i + 1) = pAdd i (ws.getD i 0) (pIf width marks (ws.getD i 0) (partsR ws marks width i)) from rfl]
    have h2 : ∀ g ∈ (pIf width marks (ws.getD i 0) (partsR ws marks width i)).1, ∀ j ∈ g, j < i := by
      unfold pIf
      split
      · intro g hg
        rcases List.mem_cons.mp hg with rfl | hg
        · exact fun _ h => nomatch h
        · exact ih g hg
      · exact ih
    unfold pAdd
    revert h2
    generalize pIf width marks (ws.getD i 0) (partsR ws marks width i) = st
    obtain ⟨gs, tot⟩ := st
    intro h2
    cases gs with
    | nil => exact fun _ h => nomatch h
    | cons g r =>
      intro x hx j hj
      rcases List.mem_cons.mp hx with rfl | hx
      · rcases List.mem_append.mp hj with hj | hj
        · exact Nat.lt_succ_of_lt (h2 g (.head _) j hj)
        · rw [List.mem_singleton.mp hj]; exact Nat.lt_succ_self i
      · exact Nat.lt_succ_of_lt (h2 x (.tail _ hx) j hj)
theorem partsT_ok (ws : List Nat) (marks width : Nat) : (partsT ws marks width).length ≤ ws.length + 1 ∧ ∀ g ∈ partsT ws marks width, g.length ≤ ws.length ∧ ∀ j ∈ g, j < ws.length := by
  have h1 := partsR_bd ws marks width ws.length
  have h2 := partsR_el ws marks width ws.length
  unfold partsT
  revert h1 h2
  generalize (partsR ws marks width ws.length).1 = gs
  intro h1 h2
  cases gs with
  | nil =>
    refine ⟨by simp, fun g hg => ?_⟩
    rw [List.mem_singleton.mp hg]
    exact ⟨Nat.zero_le _, fun _ h => nomatch h⟩
  | cons g r =>
    refine ⟨by rw [List.length_reverse]; omega, fun x hx => ?_⟩
    have hx' := List.mem_reverse.mp hx
    exact ⟨h1.2 x hx', h2 x hx'⟩
theorem gs_item {subs : List (Addr × Obj)} {gs : List (List Nat)} (G : GsIn subs gs) : ∀ (i : Nat) (v : Value), (refsOf subs)[i]? = some v → ∃ a us n g, v = .ref a ∧ (a, PySem.W.listOf (List.toArray us) n) ∈ subs ∧ Nums us g ∧ gs.reverse[i]? = some g := by
  induction G with
  | nil => intro i v hv; simp [refsOf] at hv
  | cons hx G ih =>
    rename_i a us n g subs gs
    intro i v hv
    have e : refsOf ((a, PySem.W.listOf (List.toArray us) n) :: subs) = refsOf subs ++ [.ref a] := by simp [refsOf]
    rw [e] at hv
    have hl : (refsOf subs).length = subs.length := by simp [refsOf]
    have hl2 := G.length
    by_cases hi : i < (refsOf subs).length
    · rw [List.getElem?_append_left hi] at hv
      obtain ⟨a', us', n', g', h1, h2, h3, h4⟩ := ih i v hv
      exact ⟨a', us', n', g', h1, .tail _ h2, h3, by rw [List.reverse_cons, List.getElem?_append_left (by rw [List.length_reverse]; omega)]; exact h4⟩
    · rw [List.getElem?_append_right (by omega)] at hv
      have hi2 : i - (refsOf subs).length = 0 := by
        have := List.getElem?_eq_some_iff.mp hv
        obtain ⟨h, _⟩ := this
        simp at h; omega
      rw [hi2] at hv
      have hv' : v = .ref a := by simpa using hv.symm
      exact ⟨a, us, n, g, hv', .head _, hx, by rw [List.reverse_cons, List.getElem?_append_right (by rw [List.length_reverse]; omega), List.length_reverse, show i - gs.length = 0 by omega]; rfl⟩
theorem flatMap_take {α : Type} {gs : List α} (f : α → List Str) {i : Nat} {g : α} (h : gs[i]? = some g) : (gs.take (i + 1)).flatMap f = (gs.take i).flatMap f ++ f g := by
  rw [List.take_add_one, h, List.flatMap_append]
  simp
theorem news_nset2 {h₀ h : Heap} {L D : Addr} {x : Addr × Obj} {o' : Obj} {nw l : List (Addr × Obj)} (N : News h₀ L h (x :: nset D o' nw)) (hd : ∃ o, (D, o) ∈ nw) (hl : ∀ p ∈ l, p = (D, o') ∨ (p ∈ nw ∧ p.1 ≠ D)) : News h₀ L h (x :: l) := fun p hp => by
  rcases List.mem_cons.mp hp with rfl | hp
  · exact N _ (.head _)
  · exact news_of (fun q hq => N q (.tail _ hq)) hd hl p hp
theorem Off.same {D : Addr} {nw nw' : List (Addr × Obj)} (h : Off D nw) (e : nw'.map (·.1) = nw.map (·.1)) : Off D nw' := fun p hp => by
  have : p.1 ∈ nw.map (·.1) := e ▸ List.mem_map_of_mem hp
  obtain ⟨q, hq, e'⟩ := List.mem_map.mp this
  exact e' ▸ h q hq
theorem Off.app {D : Addr} {a b : List (Addr × Obj)} (h : Off D a) (h' : Off D b) : Off D (a ++ b) := fun p hp => (List.mem_append.mp hp).elim (h p) (h' p)
theorem Off.one {D a : Addr} {o : Obj} (h : a ≠ D) : Off D [(a, o)] := fun p hp => by rw [List.mem_singleton.mp hp]; exact h
theorem cols_snoc {news : List (Addr × Obj)} {vs : List Value} {xss : List (List Str)} (h : ColsIn news vs xss) {a : Addr} {us : List Value} {n : Nat} {xs : List Str} (hm : (a, PySem.W.listOf us.toArray n) ∈ news) (hx : Txts us xs) : ColsIn news (vs ++ [.ref a]) (xss ++ [xs]) := by
  induction h with
  | nil => exact .cons hm hx .nil
  | cons hm' hx' _ ih => exact .cons hm' hx' ih
theorem isList_of {h₀ h : Heap} {L l : Addr} {nw : List (Addr × Obj)} {vs : List Value} {n : Nat} (N : News h₀ L h nw) (hm : (l, PySem.W.listOf vs.toArray n) ∈ nw) : h.IsList l vs.toArray := ⟨_, (N _ hm).1, rfl, _, rfl⟩
theorem layOf_ok {count : Nat} {css : List (List Str)} {names heads titles : Option (List Str)} {left : Bool} (h1 : count ≤ 6) (h2 : css.length ≤ 7) (h3 : ∀ c ∈ css, c.length = count ∧ ∀ x ∈ c, x.length ≤ 10) (h4 : ∀ xs, names = some xs → xs.length = count ∧ ∀ x ∈ xs, x.length ≤ 10)
    (h5 : ∀ xs, heads = some xs → xs.length = css.length ∧ ∀ x ∈ xs, x.length ≤ 10) (h6 : ∀ xs, titles = some xs → xs.length = 2 ∧ ∀ x ∈ xs, x.length ≤ 10) : LayOk (layOf count css names heads titles left) := by
  have key : ∀ (k : Nat) (x : Str), k < 2 → titles.map (·.getD k Str.empty) = some x → x.length ≤ 10 := by
    intro k x hk e
    cases titles with
    | none => cases e
    | some ts =>
      obtain ⟨h7, h8⟩ := h6 ts rfl
      cases e
      show (ts.getD k Str.empty).length ≤ 10
      exact h8 _ (by rw [List.getD_eq_getElem?_getD, List.getElem?_eq_getElem (by omega)]; exact List.getElem_mem _)
  exact ⟨h1, h2, h3, h4, h5, fun x e => key 0 x (by decide) e, fun x e => key 1 x (by decide) e⟩
theorem cellc_le {cols : List (List Str)} {k s r : Nat} (h : ∀ c ∈ cols, ∀ y ∈ c, y.length ≤ k) : ((cols.getD s []).getD r Str.empty).length ≤ k := by
  rw [List.getD_eq_getElem?_getD, List.getD_eq_getElem?_getD]
  cases e : cols[s]? with
  | none => simp [nz_len_empty]
  | some c =>
    simp only [Option.getD_some]
    cases e2 : c[r]? with
    | none => simp [nz_len_empty]
    | some y => exact h c (List.mem_of_getElem? e) y (List.mem_of_getElem? e2)
theorem nz_eqTxts {prog : Program} {w : World} {A : Around} {E : Value → Shared → Prop} {s : Shared} {h₀ : Heap} {L : Addr} {nw : List (Addr × Obj)} {P P' : Addr} {vs ws : List Value} {xs : List Str} {n n2 : Nat} {Q : Value → Shared → Prop} (N : News h₀ L s.heap nw) (h1 : (P, PySem.W.listOf vs.toArray n) ∈ nw) (h2 : (P', PySem.W.listOf ws.toArray n2) ∈ nw) (hv : Txts vs xs) (hw : Txts ws xs) (hu : A.units < cLine)
    (h : Q (.bool true) s) : wpAny (model prog w) A (compareOp .Eq (.ref P) (.ref P')) Q E s := by
  have l1 := hv.length
  have l2 := hw.length
  refine PySem.SeqAt.eq_listAt (e := fun _ => true) (isList_of N h1) (isList_of N h2) (by simp [l1, l2]) hu (fun j h1 h2 => ?_) ?_
  · have hj : j < xs.length := by simpa [l1] using h1
    have hx : xs[j]? = some (xs[j]'hj) := by simp
    obtain ⟨t1, e1⟩ := hv.get j _ hx
    obtain ⟨t2, e2⟩ := hw.get j _ hx
    have e3 : vs.toArray[j] = .str (xs[j]'hj) t1 := by
      have := List.getElem?_eq_some_iff.mp e1
      obtain ⟨_, e⟩ := this
      simpa using e
    have e4 : ws.toArray[j] = .str (xs[j]'hj) t2 := by
      have := List.getElem?_eq_some_iff.mp e2
      obtain ⟨_, e⟩ := this
      simpa using e
    rw [e3, e4]
    have := PySem.SeqAt.EqAt.str_str (A := A.in1) (s := s) (xs[j]'hj) t1 (xs[j]'hj) t2
    rwa [show ((xs[j]'hj) == (xs[j]'hj)) = true by simp] at this
  · have e : (List.range vs.toArray.size).all (fun _ => true) = true := by simp
    rw [e]; exact h
def EMid (h₀ : Heap) (L : Addr) (s : Shared) (m₀ : Str → Option Value) (P : Value → List (Addr × Obj) → Prop) (v : Value) (s' : Shared) : Prop :=
  ∃ h tk nw, s' = { s with heap := h, toks := tk } ∧ Fr h₀ L h m₀ ∧ News h₀ L h nw ∧ P v nw
theorem eval_midE {A : Around} {E : Value → Shared → Prop} {s : Shared} {env : Env} {h₀ : Heap} {L : Addr} {M : Model} {e : PySem.Expr} {Q : Value → Shared → Prop} {m₀ : Str → Option Value} (P : Value → List (Addr × Obj) → Prop) (F : Fr h₀ L s.heap m₀)
    (h : wpAny M A (eval e env) (EMid h₀ L s m₀ P) E s)
    (k : ∀ v h tk nw, Fr h₀ L h m₀ → News h₀ L h nw → P v nw → Q v { s with heap := h, toks := tk }) : wpAny M A (eval e env) Q E s := eval_mid P F h k
theorem emid {h₀ : Heap} {L : Addr} {s : Shared} {m₀ : Str → Option Value} {P : Value → List (Addr × Obj) → Prop} {v : Value} {h : Heap} {tk : Nat} {nw : List (Addr × Obj)} (F : Fr h₀ L h m₀) (N : News h₀ L h nw) (hP : P v nw) : EMid h₀ L s m₀ P v { s with heap := h, toks := tk } := ⟨h, tk, nw, rfl, F, N, hP⟩
def LawBody (w : World) (name qual : Str) (params : Arguments) (body : List Stmt) (scope : Scope) : Prop :=
  ∀ (fa : Addr) (cdv : Value) (l : Addr) (vs : List Value) (ns : List Int) (mean : ExcName → Option Value) (mg mb : Str → Option Value) (dp un : Nat) (gd : Option (List Code)) (outer : List Env) (A₀ : Around) (base g : Heap) (L : Addr) (s : Shared) (cells : List (Addr × Obj)),
    IntsAre vs ns → ns.length ≤ 63 → g.IsList l vs.toArray → Below A₀ base outer g → Fr g L s.heap (bindL (envOfC qual scope L fa cdv).kindOf [(Str.ofString "script", .ref l)] fun _ => none) → (hd.heap_39 w.params).In g → News g L s.heap cells →
    CellsAre (bindC (envOfC qual scope L fa cdv).kindOf [(Str.ofString "script", .ref l)] fun _ => none) (cellsFrom (L + 1) scope.names []) cells →
    Top hd.view_39 (looseW hd.view_39 []) mean mg mb g → dp + 10 < recursionLimit → un + 200 < cLine →
    wpAny (model PySem.Challenge.rw_nz0464_01.row.prog w) (ktrTop dp un gd qual scope L fa cdv (cellsFrom (L + 1) scope.names []) outer) (execs body (envOfC qual scope L fa cdv)) (RetP g L s (fun v _ => v = .bool true)) (fun _ _ => False) s
theorem law_sw {K : Frag} {f : Addr} {oc od : _} {name qual : Str} {params : Arguments} {body : List Stmt} {scope : Scope} {dV kV doc pm : Value} {an : Option Addr} {cdv ct : Value} {osl : _}
    {oc' od' : _} {name' qual' : Str} {params' : Arguments} {body' : List Stmt} {scope' : Scope} {dV' kV' doc' pm' : Value} {an' : Option Addr} {cdv' ct' : Value} {osl' : _}
    (h : K.lookup f = some ⟨oc, od, .func (fnOf name qual params body scope dV kV doc pm an cdv ct), osl⟩) (h' : K.lookup f = some ⟨oc', od', .func (fnOf name' qual' params' body' scope' dV' kV' doc' pm' an' cdv' ct'), osl'⟩)
    {P : Str → Str → Arguments → List Stmt → Scope → Prop} (hP : P name' qual' params' body' scope') : P name qual params body scope := by
  have e := Option.some.inj (h.symm.trans h')
  injection e with _ _ e3 _
  injection e3 with e4
  injections
  subst_vars
  exact hP
set_option maxHeartbeats 4000000 in
theorem law_body (w : World) {oc od : _} {name qual : Str} {params : Arguments} {body : List Stmt} {scope : Scope} {dV kV doc pm : Value} {an : Option Addr} {cdv ct : Value} {osl : _}
    (h : (hd.heap_39 w.params).lookup 144 = some ⟨oc, od, .func (fnOf name qual params body scope dV kV doc pm an cdv ct), osl⟩) : LawBody w name qual params body scope := by
  w_top off
  refine law_sw h (by k_is) ?_
  intro fa cdv l vs ns mean mg mb dp un gd outer A₀ base g L s cells hx hlen hbl B F X N Y T hd' hu
  obtain ⟨o1, o2, o3, o4, rfl, d1, d2, d3, d4⟩ := CellsAre.four Y
  clear Y
  have F1 : Fr g L s.heap (fun y => if y = Str.ofString "script" then some (.ref l) else none) := F
  have d1' : o1.data = .cell none := d1
  have d2' : o2.data = .cell none := d2
  have d3' : o3.data = .cell none := d3
  have d4' : o4.data = .cell none := d4
  clear F d1 d2 d3 d4 h
  have hc12 : (L + 1 + 1 + 1 + 1 : Addr) ≠ L + 1 + 1 + 1 := Nat.ne_of_gt (Nat.lt_succ_self _)
  have hc13 : (L + 1 + 1 + 1 + 1 : Addr) ≠ L + 1 + 1 := Nat.ne_of_gt (Nat.lt_succ_of_lt (Nat.lt_succ_self _))
  have hc14 : (L + 1 + 1 + 1 + 1 : Addr) ≠ L + 1 := Nat.ne_of_gt (Nat.lt_succ_of_lt (Nat.lt_succ_of_lt (Nat.lt_succ_self _)))
  have hc23 : (L + 1 + 1 + 1 : Addr) ≠ L + 1 + 1 := Nat.ne_of_gt (Nat.lt_succ_self _)
  have hc24 : (L + 1 + 1 + 1 : Addr) ≠ L + 1 := Nat.ne_of_gt (Nat.lt_succ_of_lt (Nat.lt_succ_self _))
  have hc34 : (L + 1 + 1 : Addr) ≠ L + 1 := Nat.ne_of_gt (Nat.lt_succ_self _)
  walk_at "NZi"
  refine lpool_spec w l vs ns _ hx hlen _ _ _ _ _ _ _ _ _ _ _ _ _ _ _ _ _ _ _ _ hbl B F1 X N T rfl (ltA hd' rfl) (ltA hu rfl) ?_
  rintro v nw h' tk' ⟨P, oP, Fa, oF, rfl, rfl, hP, hFo, hOP⟩ F2 N2
  clear F1 N
  have hFd : ∀ v, oF.data ≠ .cell v := fun v e => by obtain ⟨fv, figs, n, rfl, _⟩ := hFo; cases e
  have hF1 : Fa ≠ L + 1 := news_ne N2 (by walk_at "NZ mem") (by walk_at "NZ mem") (d4' ▸ hFd _)
  have hF2 : Fa ≠ L + 1 + 1 := news_ne N2 (by walk_at "NZ mem") (by walk_at "NZ mem") (d3' ▸ hFd _)
  have hF3 : Fa ≠ L + 1 + 1 + 1 := news_ne N2 (by walk_at "NZ mem") (by walk_at "NZ mem") (d2' ▸ hFd _)
  have hF4 : Fa ≠ L + 1 + 1 + 1 + 1 := news_ne N2 (by walk_at "NZ mem") (by walk_at "NZ mem") (d1' ▸ hFd _)
  refine nz_storeC (c := L + 1) F2 N2 rfl (by walk_at "NZ mem") d4' ?_
  intro h' o4' F5 N5 d4''
  have N6 := news_of (l := [(P, oP), (Fa, oF), (L + 1 + 1 + 1 + 1, o1), (L + 1 + 1 + 1, o2), (L + 1 + 1, o3), (L + 1, o4')]) N5 ⟨_, by walk_at "NZ mem"⟩ (by walk_at "NZ led")
  clear N5 N2 F2
  walk_at "NZi"
  refine pick_use (pick_spec w P Fa oP oF 7 _ _ (by decide) hP hFo (by walk_at "NZ mem") (by exact hOP.same rfl)) B F5 X N6 T rfl (ltA hd' rfl) (ltA hu rfl) ?_
  intro oP1 k1 tc h' tk' hP1 hk0 hk1 F6 N7
  obtain ⟨count, rfl⟩ := Int.eq_ofNat_of_zero_le hk0
  have hcount : count ≤ 6 := by omega
  clear F5 N6 hP hk0 hk1
  walk_at "NZi"
  refine nz_storeC (c := L + 1 + 1) F6 N7 rfl (by walk_at "NZ mem") d3' ?_
  intro h' o3' F5 N5 d3''
  have N6 := news_of (l := [(P, oP1), (Fa, oF), (L + 1 + 1 + 1 + 1, o1), (L + 1 + 1 + 1, o2), (L + 1 + 1, o3'), (L + 1, o4')]) N5 ⟨_, by walk_at "NZ mem"⟩ (by walk_at "NZ led")
  clear N5 N7 F6 d3' d4'
  walk_at "NZi"
  refine pick_use (pick_spec w P Fa oP1 oF 8 _ _ (by decide) hP1 hFo (by walk_at "NZ mem") (by exact hOP.same rfl)) B F5 X N6 T rfl (ltA hd' rfl) (ltA hu rfl) ?_
  intro oP2 k1 tw h' tk' hP2 hk0 hk1 F6 N7
  obtain ⟨wide, rfl⟩ := Int.eq_ofNat_of_zero_le hk0
  have hwide : wide ≤ 7 := by omega
  clear F5 N6 hP1 hk0 hk1
  walk_at "NZi"
  (rename Fr _ _ _ _ => F5)
  (rename News _ _ _ _ => N6)
  refine pick_use (pick_spec w P Fa oP2 oF 2 _ _ (by decide) hP2 hFo (by walk_at "NZ mem") (by exact hOP.same rfl)) B F5 X N6 T rfl (ltA hd' rfl) (ltA hu rfl) ?_
  intro oP3 k1 t1 h' tk' hP3 hk0 hk1 F6 N7
  clear F5 N6 hP2
  walk_at "NZi"
  (rename Fr _ _ _ _ => F5)
  (rename News _ _ _ _ => N6)
  have hPc : Off P [(L + 1 + 1 + 1 + 1, o1), (L + 1 + 1 + 1, o2), (L + 1 + 1, o3'), (L + 1, o4')] := hOP.tail.same rfl
  have hOP0 : Off P [(Fa, oF)] := Off.one hOP.head
  have hO10 : Off (L + 1 + 1 + 1 + 1) [(Fa, oF)] := Off.one hF4
  have hO20 : Off (L + 1 + 1 + 1) [(Fa, oF)] := Off.one hF3
  have hmF0 : (Fa, oF) ∈ [(Fa, oF)] := List.mem_cons_self
  have N8 := news_sub (l := (P, oP3) :: (L + 1 + 1 + 1 + 1, o1) :: (L + 1 + 1 + 1, o2) :: (L + 1 + 1, o3') :: (L + 1, o4') :: [(Fa, oF)]) N6 (by walk_at "NZ sub")
  clear hOP hF1 hF2 hF3 hF4 hx hlen hbl N6
  generalize [(Fa, oF)] = R0 at *
  refine eval_midE (fun v nw => X3 fun o' R names => A9 (nw = (P, o') :: (L + 1 + 1 + 1 + 1, o1) :: (L + 1 + 1 + 1, o2) :: (L + 1 + 1, o3') :: (L + 1, o4') :: R) (PoolOk Fa o') (Off P R) (Off (L + 1 + 1 + 1 + 1) R) (Off (L + 1 + 1 + 1) R) ((Fa, oF) ∈ R) ((∀ p ∈ R0, p ∈ R)) (OptL R names v) (∀ xs, names = some xs → xs.length = count ∧ ∀ x ∈ xs, x.length ≤ 10)) F5 ?_ ?_
  · walk_at "NZ"
    refine pick_use (pick_spec w P Fa oP3 oF 2 _ _ (by decide) hP3 hFo (by walk_at "NZ mem") (by exact Off.app hPc hOP0)) B F5 X N8 T rfl (ltA hd' rfl) (ltA hu rfl) ?_
    intro oP4 k2 t2 h' tk' hP4 hk20 hk21 F6 N9
    walk_at "NZ"
    · refine lwords_use (lwords_spec w P Fa oP4 oF count 6 _ _ _ (by omega) (by decide) (by decide) hP4 hFo (by walk_at "NZ mem") (by exact Off.app hPc hOP0)) B F6 X N9 T rfl (ltA hd' rfl) (ltA hu rfl) ?_
      intro ln nvs nn xs oP5 h' tk' hP5 hOl hxs hxl hxb F7 N10
      walk_at "NZ"
      exact emid F7 (news_sub (l := (P, oP5) :: (L + 1 + 1 + 1 + 1, o1) :: (L + 1 + 1 + 1, o2) :: (L + 1 + 1, o3') :: (L + 1, o4') :: ((ln, PySem.W.listOf (List.toArray nvs) nn) :: R0)) N10 (by walk_at "NZ sub")) ⟨oP5, _, some xs, rfl, hP5, Off.cons hOP0 (hOl.ne List.mem_cons_self).symm, Off.cons hO10 (by walk_at "NZ ne"), Off.cons hO20 (by walk_at "NZ ne"), .tail _ hmF0, fun p hp => .tail _ hp, ⟨ln, nvs, nn, rfl, List.mem_cons_self, hxs⟩, fun ys e => by cases e; exact ⟨hxl, fun x hx => by have := hxb x hx; omega⟩⟩
    · exact emid F6 N9 ⟨oP4, _, none, rfl, hP4, hOP0, hO10, hO20, hmF0, fun p hp => hp, rfl, fun ys e => by cases e⟩
  rintro vn h' tk' nw F6 N9 ⟨oP4, R1, names, rfl, hP4, hOP1, hO11, hO21, hmF1, hR1, hnames, hnb⟩
  clear F5 N8 hP3 hOP0 hO10 hO20 hmF0 hR1
  walk_at "NZi"
  (rename Fr _ _ _ _ => F5)
  (rename News _ _ _ _ => N8)
  refine eval_midE (fun v nw => X3 fun o' R names => A9 (nw = (P, o') :: (L + 1 + 1 + 1 + 1, o1) :: (L + 1 + 1 + 1, o2) :: (L + 1 + 1, o3') :: (L + 1, o4') :: R) (PoolOk Fa o') (Off P R) (Off (L + 1 + 1 + 1 + 1) R) (Off (L + 1 + 1 + 1) R) ((Fa, oF) ∈ R) ((∀ p ∈ R1, p ∈ R)) (OptL R names v) (∀ xs, names = some xs → xs.length = wide ∧ ∀ x ∈ xs, x.length ≤ 10)) F5 ?_ ?_
  · walk_at "NZ"
    refine pick_use (pick_spec w P Fa oP4 oF 2 _ _ (by decide) hP4 hFo (by walk_at "NZ mem") (by exact Off.app hPc hOP1)) B F5 X N8 T rfl (ltA hd' rfl) (ltA hu rfl) ?_
    intro oP5 k2 t2 h' tk' hP5 hk20 hk21 F6 N9
    walk_at "NZ"
    · refine lwords_use (lwords_spec w P Fa oP5 oF wide 7 _ _ _ (by omega) (by decide) (by decide) hP5 hFo (by walk_at "NZ mem") (by exact Off.app hPc hOP1)) B F6 X N9 T rfl (ltA hd' rfl) (ltA hu rfl) ?_
      intro ln nvs nn xs oP6 h' tk' hP6 hOl hxs hxl hxb F7 N10
      walk_at "NZ"
      exact emid F7 (news_sub (l := (P, oP6) :: (L + 1 + 1 + 1 + 1, o1) :: (L + 1 + 1 + 1, o2) :: (L + 1 + 1, o3') :: (L + 1, o4') :: ((ln, PySem.W.listOf (List.toArray nvs) nn) :: R1)) N10 (by walk_at "NZ sub")) ⟨oP6, _, some xs, rfl, hP6, Off.cons hOP1 (hOl.ne List.mem_cons_self).symm, Off.cons hO11 (by walk_at "NZ ne"), Off.cons hO21 (by walk_at "NZ ne"), .tail _ hmF1, fun p hp => .tail _ hp, ⟨ln, nvs, nn, rfl, List.mem_cons_self, hxs⟩, fun ys e => by cases e; exact ⟨hxl, fun x hx => by have := hxb x hx; omega⟩⟩
    · exact emid F6 N9 ⟨oP5, _, none, rfl, hP5, hOP1, hO11, hO21, hmF1, fun p hp => hp, rfl, fun ys e => by cases e⟩
  rintro vh h' tk' nw F6 N9 ⟨oP7, R2, heads, rfl, hP7, hOP2, hO12, hO22, hmF2, hR2, hheads, hhb⟩
  replace hnames := hnames.mono hR2
  clear F5 N8 hP4 hOP1 hO11 hO21 hmF1 hR2
  walk_at "NZi"
  (rename Fr _ _ _ _ => F5)
  (rename News _ _ _ _ => N8)
  refine eval_midE (fun v nw => X3 fun o' R names => A9 (nw = (P, o') :: (L + 1 + 1 + 1 + 1, o1) :: (L + 1 + 1 + 1, o2) :: (L + 1 + 1, o3') :: (L + 1, o4') :: R) (PoolOk Fa o') (Off P R) (Off (L + 1 + 1 + 1 + 1) R) (Off (L + 1 + 1 + 1) R) ((Fa, oF) ∈ R) ((∀ p ∈ R2, p ∈ R)) (OptL R names v) (∀ xs, names = some xs → xs.length = 2 ∧ ∀ x ∈ xs, x.length ≤ 10)) F5 ?_ ?_
  · walk_at "NZ"
    refine pick_use (pick_spec w P Fa oP7 oF 3 _ _ (by decide) hP7 hFo (by walk_at "NZ mem") (by exact Off.app hPc hOP2)) B F5 X N8 T rfl (ltA hd' rfl) (ltA hu rfl) ?_
    intro oP5 k2 t2 h' tk' hP5 hk20 hk21 F6 N9
    walk_at "NZ"
    · refine lwords_use (lwords_spec w P Fa oP5 oF 2 11 _ _ _ (by omega) (by decide) (by decide) hP5 hFo (by walk_at "NZ mem") (by exact Off.app hPc hOP2)) B F6 X N9 T rfl (ltA hd' rfl) (ltA hu rfl) ?_
      intro ln nvs nn xs oP6 h' tk' hP6 hOl hxs hxl hxb F7 N10
      walk_at "NZ"
      exact emid F7 (news_sub (l := (P, oP6) :: (L + 1 + 1 + 1 + 1, o1) :: (L + 1 + 1 + 1, o2) :: (L + 1 + 1, o3') :: (L + 1, o4') :: ((ln, PySem.W.listOf (List.toArray nvs) nn) :: R2)) N10 (by walk_at "NZ sub")) ⟨oP6, _, some xs, rfl, hP6, Off.cons hOP2 (hOl.ne List.mem_cons_self).symm, Off.cons hO12 (by walk_at "NZ ne"), Off.cons hO22 (by walk_at "NZ ne"), .tail _ hmF2, fun p hp => .tail _ hp, ⟨ln, nvs, nn, rfl, List.mem_cons_self, hxs⟩, fun ys e => by cases e; exact ⟨hxl, fun x hx => by have := hxb x hx; omega⟩⟩
    · exact emid F6 N9 ⟨oP5, _, none, rfl, hP5, hOP2, hO12, hO22, hmF2, fun p hp => hp, rfl, fun ys e => by cases e⟩
  rintro vt h' tk' nw F6 N9 ⟨oP8, R3, titles, rfl, hP8, hOP3, hO13, hO23, hmF3, hR3, htitles, htb⟩
  replace hnames := hnames.mono hR3
  replace hheads := hheads.mono hR3
  clear F5 N8 hP7 hOP2 hO12 hO22 hmF2 hR3
  walk_at "NZi"
  (rename Fr _ _ _ _ => F5)
  (rename News _ _ _ _ => N8)
  refine pick_use (pick_spec w P Fa oP8 oF 40 _ _ (by decide) hP8 hFo (by walk_at "NZ mem") (by exact Off.app hPc hOP3)) B F5 X N8 T rfl (ltA hd' rfl) (ltA hu rfl) ?_
  intro oP9 k2 t2 h' tk' hP9 hk20 hk21 F6 N9
  obtain ⟨kw, rfl⟩ := Int.eq_ofNat_of_zero_le hk20
  walk_at "NZi"
  clear hP8
  (rename Fr _ _ _ _ => F5)
  have hwid : 5 + kw ≤ 44 := by omega
  rw [show ((5 : Int) + (kw : Int)) = ((5 + kw : Nat) : Int) by omega] at F5
  clear hk20 hk21
  generalize 5 + kw = width at F5 hwid
  (rename News _ _ _ _ => N8)
  refine LCg.Assign_ListComp_U F5 rfl (by with_unfolding_all rfl) (by with_unfolding_all rfl) (by decide) rfl (by decide) rfl rfl rfl ?_
  walk_at "NZ"
  (rename IsRange _ _ _ _ _ _ _ _ => RG)
  (try clear F5); (try clear N8)
  (rename Fr _ _ _ _ => F5)
  (rename News _ _ _ _ => N8)
  refine LCg.CompSrc.range (a := 0) (b := (wide : Int)) (n := wide) rfl F5 N8 RG (small_one (by omega) (by omega) (by omega) (by omega)) (by rw [rangeSize_one]; split <;> omega) (by rw [PySem.sizeLine_eq]; omega) ?_
  intro g'
  refine comp_inv (fun i ys nw => X3 fun o' R css => A9 (nw = (P, o') :: (L + 1 + 1 + 1 + 1, o1) :: (L + 1 + 1 + 1, o2) :: (L + 1 + 1, o3') :: (L + 1, o4') :: R) (PoolOk Fa o') (Off P R) (Off (L + 1 + 1 + 1 + 1) R) (Off (L + 1 + 1 + 1) R) ((∀ p ∈ R3, p ∈ R)) (ColsIn R ys css) (css.length = i) (∀ c ∈ css, c.length = count ∧ ∀ x ∈ c, x.length ≤ 10)) ⟨oP9, R3, [], rfl, hP9, hOP3, hO13, hO23, fun p hp => hp, .nil, rfl, fun _ h => nomatch h⟩ ?_ ?_
  · rintro i ys nw v I oI C oC D m₂ h tk E' hi ⟨tv, rfl⟩ ⟨o', R, css, rfl, hP', hOP, hO1, hO2, hR, hcs, hcl, hcb⟩ hC hx2 F3 N3 off3 ne3
    (try clear F5); (try clear N8)
    walk_at "NZ"
    have hPI := off3_at off3 List.mem_cons_self
    have hI3 := off3_I off3
    have hC3 := off3_C off3
    have hD3 := off3_D off3
    have hmF := hR _ hmF3
    have N4 := news_sub (l := (P, o') :: (I, oI) :: (C, oC) :: (D, LCg.lst ys) :: (L + 1 + 1 + 1 + 1, o1) :: (L + 1 + 1 + 1, o2) :: (L + 1 + 1, o3') :: (L + 1, o4') :: R) N3 (by walk_at "NZ sub")
    refine lwords_use (lwords_spec w P Fa o' oF count 8 _ _ _ (by omega) (by decide) (by decide) hP' hFo (by walk_at "NZ mem") (by exact Off.cons (Off.cons (Off.cons (Off.app hPc hOP) hPI.2.2.symm) hPI.2.1.symm) hPI.1.symm)) B F3 X N4 T rfl (ltA hd' rfl) (ltA hu rfl) ?_
    intro ln nvs nn xs o'' h' tk' hP'' hOl hxs hxl hxb F7 N10
    walk_at "NZ"
    refine comp_end F7 (news_sub (l := (I, oI) :: (C, oC) :: (D, LCg.lst ys) :: (P, o'') :: (L + 1 + 1 + 1 + 1, o1) :: (L + 1 + 1 + 1, o2) :: (L + 1 + 1, o3') :: (L + 1, o4') :: ((ln, PySem.W.listOf (List.toArray nvs) nn) :: R)) N10 (by walk_at "NZ sub")) (off3_of (by walk_at "NZ offs") (by walk_at "NZ offs") (by walk_at "NZ offs")) trivial ⟨o'', _, css ++ [xs], rfl, hP'', Off.cons hOP (by walk_at "NZ ne"), Off.cons hO1 (by walk_at "NZ ne"), Off.cons hO2 (by walk_at "NZ ne"), fun p hp => .tail _ (hR p hp), ?_, by simp [hcl], ?_⟩
    · exact cols_snoc (hcs.mono fun p hp => .tail _ hp) List.mem_cons_self hxs
    · intro c hc
      rcases List.mem_append.mp hc with hc | hc
      · exact hcb c hc
      · rw [List.mem_singleton.mp hc]
        exact ⟨hxl, fun x hx => by have := hxb x hx; omega⟩
  rintro ys nw ⟨o', R4, css, rfl, hP', hOP4, hO14, hO24, hR4, hcs, hcl, hcb⟩
  rintro D h tk F3 N3 o1'
  replace hnames := hnames.mono hR4
  replace hheads := hheads.mono hR4
  replace htitles := htitles.mono hR4
  have hOD := off1 o1'
  walk_at "NZi"
  (try clear F5); (try clear N8)
  have hO15 : Off (L + 1 + 1 + 1 + 1) ((D, LCg.lst ys) :: R4) := Off.cons hO14 (by walk_at "NZ ne")
  have hO25 : Off (L + 1 + 1 + 1) ((D, LCg.lst ys) :: R4) := Off.cons hO24 (by walk_at "NZ ne")
  have N4 := news_sub (l := (L + 1 + 1 + 1 + 1, o1) :: (L + 1 + 1 + 1, o2) :: (L + 1 + 1, o3') :: (L + 1, o4') :: (D, LCg.lst ys) :: R4) N3 (by walk_at "NZ sub")
  clear N3 hP' hP9 hOP4 hOP3 hPc hFo hFd hmF3 o1' hOD RG hO13 hO23 hR4 d4'' hO14 hO24
  have hmD : (D, LCg.lst ys) ∈ (D, LCg.lst ys) :: R4 := List.mem_cons_self
  replace hnames := hnames.mono (news' := (D, LCg.lst ys) :: R4) fun p hp => .tail _ hp
  replace hheads := hheads.mono (news' := (D, LCg.lst ys) :: R4) fun p hp => .tail _ hp
  replace htitles := htitles.mono (news' := (D, LCg.lst ys) :: R4) fun p hp => .tail _ hp
  replace hcs := hcs.mono (news' := (D, LCg.lst ys) :: R4) fun p hp => .tail _ hp
  generalize (D, LCg.lst ys) :: R4 = R5 at *
  have hysl := hcs.length
  refine LCg.ListComp_U F3 (by with_unfolding_all rfl) (by decide) rfl (by decide) rfl ?_
  walk_at "NZ"
  refine LCg.CompSrc.ledger (its := List.toArray ys) rfl F3 N4 (by walk_at "NZ mem") (by rw [PySem.sizeLine_eq]; simp; omega) ?_
  intro g'
  refine comp_inv (fun i zs nw => X1 fun R => A5 (nw = (L + 1 + 1 + 1 + 1, o1) :: (L + 1 + 1 + 1, o2) :: (L + 1 + 1, o3') :: (L + 1, o4') :: R) (Off (L + 1 + 1 + 1 + 1) R) (Off (L + 1 + 1 + 1) R) ((∀ p ∈ R5, p ∈ R)) (ColsIn R zs (css.take i))) ⟨R5, rfl, hO15, hO25, fun p hp => hp, .nil⟩ ?_ ?_
  · rintro i zs nw v I oI C oC D2 m₂ h tk E' hi hv ⟨R, rfl, hO1, hO2, hR, hzs⟩ hC hx2 F4 N5 off3 ne3
    have hi' : i < css.length := by simp at hi; omega
    have hci : css[i]? = some (css[i]'hi') := by simp
    obtain ⟨a, us, n', hya, hma, hus⟩ := hcs.item i _ hci
    have hv' : v = .ref a := by have := hv.symm.trans (by simpa using hya); exact Option.some.inj this
    subst hv'
    have husl := hus.length
    have hcb' := hcb _ (List.getElem_mem hi')
    (try clear F3); (try clear N4)
    walk_at "NZ"
    (rename Fr _ _ _ _ => F6)
    (rename News _ _ _ _ => N6)
    have hmaR := hR _ hma
    have hmDR := hR _ hmD
    refine list_copyK (items := List.toArray us) F6 N6 (isList_of N6 (by walk_at "NZ mem")) ?_ (by rw [PySem.sizeLine_eq]; simp; omega)
    intro E1 c1 h7 F7 N7 hl7
    have hOl : Off E1 ((I, oI) :: (C, oC) :: (D2, LCg.lst zs) :: (L + 1 + 1 + 1 + 1, o1) :: (L + 1 + 1 + 1, o2) :: (L + 1 + 1, o3') :: (L + 1, o4') :: R) := fun p hp => Nat.ne_of_lt (hl7 p hp)
    have hI3 := off3_I off3
    have hC3 := off3_C off3
    have hD3 := off3_D off3
    walk_at "NZ"
    refine comp_end F7 (news_sub (l := (I, oI) :: (C, oC) :: (D2, LCg.lst zs) :: (L + 1 + 1 + 1 + 1, o1) :: (L + 1 + 1 + 1, o2) :: (L + 1 + 1, o3') :: (L + 1, o4') :: ((E1, PySem.W.listOf (List.toArray us) c1) :: R)) N7 (by walk_at "NZ sub")) (off3_of (by walk_at "NZ offs") (by walk_at "NZ offs") (by walk_at "NZ offs")) (src_at (its := List.toArray ys) (n := ys.length) (by walk_at "NZ mem")) ⟨_, rfl, Off.cons hO1 (by walk_at "NZ ne"), Off.cons hO2 (by walk_at "NZ ne"), fun p hp => .tail _ (hR p hp), ?_⟩
    rw [List.take_add_one, hci]
    exact cols_snoc (hzs.mono fun p hp => .tail _ hp) List.mem_cons_self hus
  rintro zs nw ⟨R6, rfl, hO16, hO26, hR6, hzs⟩
  rintro D2 h tk F4 N5 o1'
  rw [List.take_of_length_le (by simp; omega)] at hzs
  have hOD := off1 o1'
  replace hnames := hnames.mono hR6
  replace hheads := hheads.mono hR6
  replace htitles := htitles.mono hR6
  replace hcs := hcs.mono hR6
  replace hmD := hR6 _ hmD
  (try clear F3); (try clear N4)
  clear hR6 hO15 hO25 o1'
  walk_at "NZi"
  have N6 := news_sub (l := (L + 1 + 1 + 1 + 1, o1) :: (L + 1 + 1 + 1, o2) :: (L + 1 + 1, o3') :: (L + 1, o4') :: (D2, LCg.lst zs) :: R6) N5 (by walk_at "NZ sub")
  have hO17 : Off (L + 1 + 1 + 1 + 1) ((D2, LCg.lst zs) :: R6) := Off.cons hO16 (by walk_at "NZ ne")
  have hO27 : Off (L + 1 + 1 + 1) ((D2, LCg.lst zs) :: R6) := Off.cons hO26 (by walk_at "NZ ne")
  clear N5 hO16 hO26 hOD
  have hmD2 : (D2, LCg.lst zs) ∈ (D2, LCg.lst zs) :: R6 := List.mem_cons_self
  replace hmD : (D, LCg.lst ys) ∈ (D2, LCg.lst zs) :: R6 := .tail _ hmD
  replace hnames := hnames.mono (news' := (D2, LCg.lst zs) :: R6) fun p hp => .tail _ hp
  replace hheads := hheads.mono (news' := (D2, LCg.lst zs) :: R6) fun p hp => .tail _ hp
  replace htitles := htitles.mono (news' := (D2, LCg.lst zs) :: R6) fun p hp => .tail _ hp
  replace hcs := hcs.mono (news' := (D2, LCg.lst zs) :: R6) fun p hp => .tail _ hp
  replace hzs := hzs.mono (news' := (D2, LCg.lst zs) :: R6) fun p hp => .tail _ hp
  generalize (D2, LCg.lst zs) :: R6 = R7 at *
  refine layout_use (layout_spec w count tc D2 _) B F4 X N6 T rfl (ltA hd' rfl) (ltA hu rfl) ?_
  intro x dx H kt nd h' tk' hx1 hx2 hxne F5 N7
  have hx1c : Off x [(L + 1 + 1 + 1 + 1, o1), (L + 1 + 1 + 1, o2), (L + 1 + 1, o3'), (L + 1, o4')] := hx1.sub (by walk_at "NZ sub")
  have hx2c : Off dx [(L + 1 + 1 + 1 + 1, o1), (L + 1 + 1 + 1, o2), (L + 1 + 1, o3'), (L + 1, o4')] := hx2.sub (by walk_at "NZ sub")
  clear F4 N6
  walk_at "NZi"
  (rename Fr _ _ _ _ => F4)
  (rename News _ _ _ _ => N6)
  refine nz_set_left F4 X N6 hxne hx2 ?_
  intro h' F5 N7
  (try clear F4); (try clear N6)
  walk_at "NZi"
  (try clear F4); (try clear N6)
  refine exec_mid [] (fun m nw => X2 fun v2 R => A7 (nw = (x, instObj 38 dx) :: (dx, dictOf (layE H kt (Value.int (count : Nat) tc) (Value.ref D2) v2 Value.none Value.none Value.none (Value.bool (k1 == 1))) nd) :: (L + 1 + 1 + 1 + 1, o1) :: (L + 1 + 1 + 1, o2) :: (L + 1 + 1, o3') :: (L + 1, o4') :: R) (Off x R) (Off dx R) (Off (L + 1 + 1 + 1 + 1) R) (Off (L + 1 + 1 + 1) R) ((∀ p ∈ R7, p ∈ R)) (OptL R names v2)) F5 ?_ ?_
  · cases names with
    | none =>
      have hn' : vn = .none := hnames
      subst hn'
      walk_at "NZ"
      exact midP F5 N7 ⟨.refl, _, R7, rfl, (fun p hp => hx1 p (.tail _ (.tail _ (.tail _ (.tail _ hp))))), (fun p hp => hx2 p (.tail _ (.tail _ (.tail _ (.tail _ hp))))), hO17, hO27, fun p hp => hp, rfl⟩
    | some xs =>
      obtain ⟨a, nvs, nn, rfl, hnm, hnx⟩ := hnames
      have hnxl := hnx.length
      have hnl2 := hnb xs rfl
      walk_at "NZ"
      refine list_copyK (items := List.toArray nvs) F5 N7 (isList_of N7 (by walk_at "NZ mem")) ?_ (by rw [PySem.sizeLine_eq]; simp; omega)
      intro E1 c1 h7 F8 N8 hl7
      have hOl : Off E1 ((x, instObj 38 dx) :: (dx, dictOf (layE H kt (Value.int (count : Nat) tc) (Value.ref D2) Value.none Value.none Value.none Value.none (Value.bool (k1 == 1))) nd) :: (L + 1 + 1 + 1 + 1, o1) :: (L + 1 + 1 + 1, o2) :: (L + 1 + 1, o3') :: (L + 1, o4') :: R7) := fun p hp => Nat.ne_of_lt (hl7 p hp)
      walk_at "NZ"
      have N9 := news_sub (l := (x, instObj 38 dx) :: (dx, dictOf (layE H kt (Value.int (count : Nat) tc) (Value.ref D2) Value.none Value.none Value.none Value.none (Value.bool (k1 == 1))) nd) :: (L + 1 + 1 + 1 + 1, o1) :: (L + 1 + 1 + 1, o2) :: (L + 1 + 1, o3') :: (L + 1, o4') :: ((E1, PySem.W.listOf (List.toArray nvs) c1) :: R7)) N8 (by walk_at "NZ sub")
      clear F5 N7 N8
      refine nz_set_rn F8 X N9 hxne (Off.app hx2c (Off.cons (fun p hp => hx2 p (.tail _ (.tail _ (.tail _ (.tail _ hp))))) (by walk_at "NZ ne"))) ?_
      intro h' F5 N7
      (try clear F8); (try clear N9)
      walk_at "NZ"
      exact midP F5 N7 ⟨.refl, _, _, rfl, Off.cons (fun p hp => hx1 p (.tail _ (.tail _ (.tail _ (.tail _ hp))))) (by walk_at "NZ ne"), Off.cons (fun p hp => hx2 p (.tail _ (.tail _ (.tail _ (.tail _ hp))))) (by walk_at "NZ ne"), Off.cons hO17 (by walk_at "NZ ne"), Off.cons hO27 (by walk_at "NZ ne"), fun p hp => .tail _ hp, E1, nvs, c1, rfl, List.mem_cons_self, hnx⟩
  rintro h' tk' m' nw' F3 N3 hs ⟨v2, R8, rfl, hx3, hx4, hO18, hO28, hR8, hv2⟩
  rw [hs.open0] at F3
  clear hs
  walk_at "NZi"
  replace hnames := hnames.mono hR8
  replace hheads := hheads.mono hR8
  replace htitles := htitles.mono hR8
  replace hcs := hcs.mono hR8
  replace hzs := hzs.mono hR8
  replace hmD := hR8 _ hmD
  replace hmD2 := hR8 _ hmD2
  clear hR8 hx1 hx2 hO17 hO27 F5 N7
  have hxc : Off x [(L + 1 + 1 + 1 + 1, o1), (L + 1 + 1 + 1, o2), (L + 1 + 1, o3'), (L + 1, o4')] := hx1c
  have hdc : Off dx [(L + 1 + 1 + 1 + 1, o1), (L + 1 + 1 + 1, o2), (L + 1 + 1, o3'), (L + 1, o4')] := hx2c
  clear hx1c hx2c
  refine exec_mid [] (fun m nw => X2 fun v3 R => A7 (nw = (x, instObj 38 dx) :: (dx, dictOf (layE H kt (Value.int (count : Nat) tc) (Value.ref D2) v2 v3 Value.none Value.none (Value.bool (k1 == 1))) nd) :: (L + 1 + 1 + 1 + 1, o1) :: (L + 1 + 1 + 1, o2) :: (L + 1 + 1, o3') :: (L + 1, o4') :: R) (Off x R) (Off dx R) (Off (L + 1 + 1 + 1 + 1) R) (Off (L + 1 + 1 + 1) R) ((∀ p ∈ R8, p ∈ R)) (OptL R heads v3)) F3 ?_ ?_
  · cases heads with
    | none =>
      have hn' : vh = .none := hheads
      subst hn'
      walk_at "NZ"
      exact midP F3 N3 ⟨.refl, _, R8, rfl, hx3, hx4, hO18, hO28, fun p hp => hp, rfl⟩
    | some xs =>
      obtain ⟨a, nvs, nn, rfl, hnm, hnx⟩ := hheads
      have hnxl := hnx.length
      have hnl2 := hhb xs rfl
      walk_at "NZ"
      refine list_copyK (items := List.toArray nvs) F3 N3 (isList_of N3 (by walk_at "NZ mem")) ?_ (by rw [PySem.sizeLine_eq]; simp; omega)
      intro E1 c1 h7 F8 N8 hl7
      have hOl : Off E1 ((x, instObj 38 dx) :: (dx, dictOf (layE H kt (Value.int (count : Nat) tc) (Value.ref D2) v2 Value.none Value.none Value.none (Value.bool (k1 == 1))) nd) :: (L + 1 + 1 + 1 + 1, o1) :: (L + 1 + 1 + 1, o2) :: (L + 1 + 1, o3') :: (L + 1, o4') :: R8) := fun p hp => Nat.ne_of_lt (hl7 p hp)
      walk_at "NZ"
      have N9 := news_sub (l := (x, instObj 38 dx) :: (dx, dictOf (layE H kt (Value.int (count : Nat) tc) (Value.ref D2) v2 Value.none Value.none Value.none (Value.bool (k1 == 1))) nd) :: (L + 1 + 1 + 1 + 1, o1) :: (L + 1 + 1 + 1, o2) :: (L + 1 + 1, o3') :: (L + 1, o4') :: ((E1, PySem.W.listOf (List.toArray nvs) c1) :: R8)) N8 (by walk_at "NZ sub")
      clear F3 N3 N8
      refine nz_set_cn F8 X N9 hxne (Off.app hdc (Off.cons hx4 (by walk_at "NZ ne"))) ?_
      intro h' F5 N7
      (try clear F8); (try clear N9)
      walk_at "NZ"
      exact midP F5 N7 ⟨.refl, _, _, rfl, Off.cons hx3 (by walk_at "NZ ne"), Off.cons hx4 (by walk_at "NZ ne"), Off.cons hO18 (by walk_at "NZ ne"), Off.cons hO28 (by walk_at "NZ ne"), fun p hp => .tail _ hp, E1, nvs, c1, rfl, List.mem_cons_self, hnx⟩
  rintro h' tk' m' nw' F5 N7 hs ⟨v3, R9, rfl, hx5, hx6, hO19, hO29, hR9, hv3⟩
  rw [hs.open0] at F5
  clear hs F3 N3
  replace hnames := hnames.mono hR9
  replace hheads := hheads.mono hR9
  replace htitles := htitles.mono hR9
  replace hcs := hcs.mono hR9
  replace hzs := hzs.mono hR9
  replace hv2 := hv2.mono hR9
  replace hmD := hR9 _ hmD
  replace hmD2 := hR9 _ hmD2
  clear hR9 hx3 hx4 hO18 hO28
  walk_at "NZi"
  refine exec_mid [] (fun m nw => X2 fun v4 v5 => A3 (nw = (x, instObj 38 dx) :: (dx, dictOf (layE H kt (Value.int (count : Nat) tc) (Value.ref D2) v2 v3 v4 v5 (Value.bool (k1 == 1))) nd) :: (L + 1 + 1 + 1 + 1, o1) :: (L + 1 + 1 + 1, o2) :: (L + 1 + 1, o3') :: (L + 1, o4') :: R9) (OptS (titles.map (·.getD 0 Str.empty)) v4) (OptS (titles.map (·.getD 1 Str.empty)) v5)) F5 ?_ ?_
  · cases titles with
    | none =>
      have hn' : vt = .none := htitles
      subst hn'
      walk_at "NZ"
      exact midP F5 N7 ⟨.refl, _, _, rfl, rfl, rfl⟩
    | some xs =>
      obtain ⟨a, tvs, tn, rfl, htm, htx⟩ := htitles
      have htl2 := htb xs rfl
      obtain ⟨z0, hz0⟩ : ∃ z, xs[0]? = some z := ⟨xs[0]'(by omega), by simp⟩
      obtain ⟨z1, hz1⟩ : ∃ z, xs[1]? = some z := ⟨xs[1]'(by omega), by simp⟩
      obtain ⟨tz0, htv0⟩ := htx.get 0 z0 hz0
      obtain ⟨tz1, htv1⟩ := htx.get 1 z1 hz1
      have hgd0 := getD_of (d := Str.empty) hz0
      have hgd1 := getD_of (d := Str.empty) hz1
      walk_at "NZ"
      refine nz_set_rt F5 X N7 hxne (Off.app hdc hx6) ?_
      intro h' F8 N8
      clear F5 N7
      walk_at "NZ"
      refine nz_set_ct F8 X N8 hxne (Off.app hdc hx6) ?_
      intro h' F5 N7
      clear F8 N8
      walk_at "NZ"
      exact midP F5 N7 ⟨.refl, _, _, rfl, by rw [Option.map_some, hgd0]; exact ⟨_, rfl⟩, by rw [Option.map_some, hgd1]; exact ⟨_, rfl⟩⟩
  rintro h' tk' m' nw' F3 N3 hs ⟨v4, v5, rfl, hv4, hv5⟩
  rw [hs.open0] at F3
  clear hs F5 N7
  walk_at "NZi"
  have hLay : LayIn ((x, instObj 38 dx) :: (dx, dictOf (layE H kt (Value.int (count : Nat) tc) (Value.ref D2) v2 v3 v4 v5 (Value.bool (k1 == 1))) nd) :: R9) x (layOf count css names heads titles (k1 == 1)) :=
    ⟨dx, H, kt, nd, D2, zs, zs.length, v2, v3, v4, v5, tc, List.mem_cons_self, .tail _ List.mem_cons_self, .tail _ (.tail _ hmD2), hzs.mono fun p hp => .tail _ (.tail _ hp), hv2.mono fun p hp => .tail _ (.tail _ hp), hv3.mono fun p hp => .tail _ (.tail _ hp), hv4, hv5⟩
  have hOk : LayOk (layOf count css names heads titles (k1 == 1)) := layOf_ok hcount (by omega) hcb hnb (by rw [hcl]; exact hhb) htb
  have N4 := news_sub (l := (L + 1 + 1 + 1 + 1, o1) :: (L + 1 + 1 + 1, o2) :: (L + 1 + 1, o3') :: (L + 1, o4') :: ((x, instObj 38 dx) :: (dx, dictOf (layE H kt (Value.int (count : Nat) tc) (Value.ref D2) v2 v3 v4 v5 (Value.bool (k1 == 1))) nd) :: R9)) N3 (by walk_at "NZ sub")
  have hO10' : Off (L + 1 + 1 + 1 + 1) ((x, instObj 38 dx) :: (dx, dictOf (layE H kt (Value.int (count : Nat) tc) (Value.ref D2) v2 v3 v4 v5 (Value.bool (k1 == 1))) nd) :: R9) := Off.cons (Off.cons hO19 (Off.ne hdc List.mem_cons_self).symm) (Off.ne hxc List.mem_cons_self).symm
  have hO20' : Off (L + 1 + 1 + 1) ((x, instObj 38 dx) :: (dx, dictOf (layE H kt (Value.int (count : Nat) tc) (Value.ref D2) v2 v3 v4 v5 (Value.bool (k1 == 1))) nd) :: R9) := Off.cons (Off.cons hO29 (Off.ne hdc (.tail _ List.mem_cons_self)).symm) (Off.ne hxc (.tail _ List.mem_cons_self)).symm
  have hsub : ∀ p ∈ R9, p ∈ (x, instObj 38 dx) :: (dx, dictOf (layE H kt (Value.int (count : Nat) tc) (Value.ref D2) v2 v3 v4 v5 (Value.bool (k1 == 1))) nd) :: R9 := fun p hp => .tail _ (.tail _ hp)
  replace hnames := hnames.mono hsub
  replace hheads := hheads.mono hsub
  replace htitles := htitles.mono hsub
  replace hcs := hcs.mono hsub
  replace hmD := hsub _ hmD
  clear hsub hv2 hv3 hv4 hv5 hmD2 hzs hO19 hO29 hx5 hx6 hxc hdc hxne N3
  generalize (x, instObj 38 dx) :: (dx, dictOf (layE H kt (Value.int (count : Nat) tc) (Value.ref D2) v2 v3 v4 v5 (Value.bool (k1 == 1))) nd) :: R9 = R10 at *
  generalize hd : layOf count css names heads titles (k1 == 1) = d at *
  generalize hleft : (k1 == 1) = left at *
  refine list_use (llabels_spec w count tc names titles vn vt _ hcount (hnames.mono (by walk_at "NZ sub")) (htitles.mono (by walk_at "NZ sub")) hnb htb) B F3 X N4 T rfl (ltA hd' rfl) (ltA hu rfl) ?_
  intro M mvs mn h' tk' hOM hMv F5 N5
  (try clear F3); (try clear N4)
  have N6 := news_sub (l := (L + 1 + 1 + 1 + 1, o1) :: (L + 1 + 1 + 1, o2) :: (L + 1 + 1, o3') :: (L + 1, o4') :: ((M, PySem.W.listOf mvs.toArray mn) :: R10)) N5 (by walk_at "NZ sub")
  have hO11' : Off (L + 1 + 1 + 1 + 1) ((M, PySem.W.listOf mvs.toArray mn) :: R10) := Off.cons hO10' (by walk_at "NZ ne")
  have hO21' : Off (L + 1 + 1 + 1) ((M, PySem.W.listOf mvs.toArray mn) :: R10) := Off.cons hO20' (by walk_at "NZ ne")
  have hsub : ∀ p ∈ R10, p ∈ (M, PySem.W.listOf mvs.toArray mn) :: R10 := fun p hp => .tail _ hp
  have hmM : (M, PySem.W.listOf mvs.toArray mn) ∈ (M, PySem.W.listOf mvs.toArray mn) :: R10 := List.mem_cons_self
  replace hnames := hnames.mono hsub
  replace hheads := hheads.mono hsub
  replace htitles := htitles.mono hsub
  replace hcs := hcs.mono hsub
  replace hLay := hLay.mono hsub
  replace hmD := hsub _ hmD
  clear hsub hO10' hO20' hOM N5
  generalize (M, PySem.W.listOf mvs.toArray mn) :: R10 = R11 at *
  walk_at "NZi"
  (try clear F5); (try clear N6)
  (rename Fr _ _ _ _ => F5)
  (rename News _ _ _ _ => N6)
  (rename Off _ (_ :: _ :: _) => hOC)
  rename_i Cl _
  refine nz_storeC (c := L + 1 + 1 + 1 + 1) F5 N6 rfl (by walk_at "NZ mem") d1' ?_
  intro h' o1' F7 N7 d1''
  have N8 := news_of (l := (Cl, PySem.W.listOf (List.toArray []) 0) :: (L + 1 + 1 + 1 + 1, o1') :: (L + 1 + 1 + 1, o2) :: (L + 1 + 1, o3') :: (L + 1, o4') :: R11) N7 ⟨_, by walk_at "NZ mem"⟩ (by walk_at "NZ led")
  clear N7 N6 F5
  have hOCc : Off Cl [(L + 1 + 1 + 1 + 1, o1'), (L + 1 + 1 + 1, o2), (L + 1 + 1, o3'), (L + 1, o4')] := Off.same (nw := [(L + 1 + 1 + 1 + 1, o1), (L + 1 + 1 + 1, o2), (L + 1 + 1, o3'), (L + 1, o4')]) (hOC.sub (by walk_at "NZ sub")) rfl
  have hOC11 : Off Cl R11 := hOC.sub (by walk_at "NZ sub")
  clear hOC
  walk_at "NZi"
  refine For_invVF F7 rfl rfl ?_
  walk_at "NZi"
  (try clear F7); (try clear N8)
  (rename IsRange _ _ _ _ _ _ _ _ => R1)
  (rename Fr _ _ _ _ => F6)
  (rename News _ _ _ _ => N6)
  refine for_range0 (L := L) (b := wide) rfl (fun i m nw => (X3 fun cv cn R => A6 (nw = (Cl, PySem.W.listOf (List.toArray cv) cn) :: (L + 1 + 1 + 1 + 1, o1') :: (L + 1 + 1 + 1, o2) :: (L + 1 + 1, o3') :: (L + 1, o4') :: R) (Off Cl R) (Off (L + 1 + 1 + 1 + 1) R) (Off (L + 1 + 1 + 1) R) ((∀ p ∈ R11, p ∈ R)) (ColsIn R cv ((List.range i).map fun j => colT (headT d j) (css.getD j []) left))) ∧ Same [Str.ofString "step", Str.ofString "head"] m _) rfl R1 rfl (by omega) F6 N6 ⟨⟨[], _, R11, rfl, hOC11, hO11', hO21', fun p hp => hp, .nil⟩, .refl⟩ ?_ ?_
  · rintro i t m₁ nw I oI h tk hi ⟨⟨cv, cn, R, rfl, hOR, hO1, hO2, hR, hcv⟩, hs⟩ hI F7 N7
    rw [hs.open2] at F7
    (try clear F6); (try clear N6)
    have hcvl := hcv.length
    simp only [List.length_map, List.length_range] at hcvl
    have hnum : (Str.ofString (toString ((i : Int) + 1))).length = 1 := num_len_small i (by omega)
    have hmDR := hR _ hmD
    have hhl := headT_len hOk (k := i) (by rw [← hd]; show i < css.length; omega)
    walk_at "NZi"
    refine eval_midE (fun v nw => nw = (I, oI) :: (Cl, PySem.W.listOf (List.toArray cv) cn) :: (L + 1 + 1 + 1 + 1, o1') :: (L + 1 + 1 + 1, o2) :: (L + 1 + 1, o3') :: (L + 1, o4') :: R ∧ ∃ t, v = .str (headT d i) t) F7 ?_ ?_
    · cases heads with
      | none =>
        have hn' : vh = .none := hheads
        subst hn'
        walk_at "NZ"
        exact emid F7 N7 ⟨rfl, by rw [← hd]; unfold headT layOf; dsimp only; exact str_ex rfl⟩
      | some xs =>
        obtain ⟨a, hvs, hn, rfl, hhm, hhx⟩ := hheads
        have hhm' := hR _ hhm
        have hhb2 := hhb xs rfl
        have hz := hhb2.2
        have hk2 : i < xs.length := by omega
        walk_at "NZ"
        (rename xs[i]? = some _ => hxi)
        exact emid F7 N7 ⟨rfl, by rw [← hd]; unfold headT layOf; dsimp only; rw [getD_of hxi]; exact ⟨_, rfl⟩⟩
    rintro v h' tk' nw F8 N8 ⟨rfl, th, rfl⟩
    (try clear F7); (try clear N7)
    have hcv' : True → ColsIn R cv ((List.range i).map fun j => colT (headT d j) (css.getD j []) left) := fun _ => hcv
    clear hcv
    walk_at "NZi"
    (rename Txts _ _ => htx)
    (rename css[i]? = some _ => hci)
    (rename (_, PySem.W.listOf _ _) ∈ R11 => hmx)
    (rename Fr _ _ _ _ => F9)
    (rename News _ _ _ _ => N9)
    have hmx' := hR _ hmx
    refine list_use (lcolumn_spec w (headT d i) _ _ _ _ left th _ (by walk_at "NZ mem") htx (by assumption) (by omega) hhl) B F9 X N9 T rfl (ltA hd' rfl) (ltA hu rfl) ?_
    intro Dn dvs dn h' tk' hOn hdv F10 N10
    (try clear F9); (try clear N9)
    walk_at "NZ"
    (rename Fr _ _ _ _ => F9)
    (rename News _ _ _ _ => N9)
    rw [push_list] at N9
    have hCn : Cl ≠ Dn := hOn.ne (.tail _ List.mem_cons_self)
    have hCI : Cl ≠ I := hI.head
    refine turnP_next F9 (news_of (l := (I, oI) :: (Cl, PySem.W.listOf (List.toArray (cv ++ [Value.ref Dn])) (cn + 1)) :: (L + 1 + 1 + 1 + 1, o1') :: (L + 1 + 1 + 1, o2) :: (L + 1 + 1, o3') :: (L + 1, o4') :: ((Dn, PySem.W.listOf (List.toArray dvs) dn) :: R)) N9 ⟨_, by walk_at "NZ mem"⟩ ?_) ?_ ⟨⟨_, _, _, rfl, Off.cons hOR hCn.symm, Off.cons hO1 (by walk_at "NZ ne"), Off.cons hO2 (by walk_at "NZ ne"), fun p hp => .tail _ (hR p hp), ?_⟩, by walk_at "SAME"⟩
    · refine led_cons (by walk_at "NZ mem") hCI.symm (led_here (led_tail (Off.app hOCc (Off.cons hOR hCn.symm)) (by walk_at "NZ sub")))
    · exact Off.cons (Off.app (hI.tail.sub (nw' := [(L + 1 + 1 + 1 + 1, o1'), (L + 1 + 1 + 1, o2), (L + 1 + 1, o3'), (L + 1, o4')]) (by walk_at "NZ sub")) (Off.cons (hI.tail.sub (by walk_at "NZ sub")) (hOn.ne List.mem_cons_self).symm)) hCI
    · rw [List.range_succ, List.map_append]
      exact cols_snoc ((hcv' trivial).mono fun p hp => .tail _ hp) List.mem_cons_self (by dsimp only; rw [getD_of hci]; exact hdv)
  rintro m₁ nw h tk ⟨⟨cv, cn, R12, rfl, hOR, hO1, hO2, hR, hcv⟩, hs⟩ F7 N7
  rw [hs.open2] at F7
  (try clear F6); (try clear N6)
  walk_at "NZi"
  (rename Fr _ _ _ _ => F8)
  (rename News _ _ _ _ => N8)
  (rename Off _ (_ :: _ :: _) => hODu)
  rename_i Du _ _
  have hcols : (List.range wide).map (fun j => colT (headT d j) (css.getD j []) left) = colsT d := by
    subst hd
    unfold colsT
    show _ = (List.range css.length).map _
    rw [hcl]; rfl
  rw [hcols] at hcv
  have hcok := colsT_ok hOk
  have hcn : (colsT d).length = wide := by rw [hcok.1, ← hd]; exact hcl
  have hrw : d.rows = count := by rw [← hd]; rfl
  rw [hrw] at hcok
  have hmok := lmarksT_ok (names := names) (titles := titles) hcount hnb htb
  obtain ⟨hml, hmz⟩ := hmok
  have hmvl := hMv.length
  have hcvl := hcv.length
  replace hnames := hnames.mono hR
  replace htitles := htitles.mono hR
  replace hLay := hLay.mono hR
  replace hmM := hR _ hmM
  clear hcs hmD hheads hR hOC11 hO11' hO21' hcols
  refine For_invVF F8 rfl rfl ?_
  walk_at "NZi"
  refine LCg.ListComp_U F8 (by with_unfolding_all rfl) (by decide) rfl (by decide) rfl ?_
  walk_at "NZ"
  refine LCg.CompSrc.ledger (its := List.toArray cv) rfl F8 N8 (by walk_at "NZ mem") (by rw [PySem.sizeLine_eq]; simp; omega) ?_
  intro g'
  refine comp_inv (fun i zs nw => nw = (Du, PySem.W.listOf (List.toArray []) 0) :: (Cl, PySem.W.listOf (List.toArray cv) cn) :: (L + 1 + 1 + 1 + 1, o1') :: (L + 1 + 1 + 1, o2) :: (L + 1 + 1, o3') :: (L + 1, o4') :: R12 ∧ Nums zs (((colsT d).take i).map fun c => (c.getD 0 Str.empty).length)) ⟨rfl, .nil⟩ ?_ ?_
  · rintro i zs nw v I oI C oC D2 m₂ h tk E' hi hv ⟨rfl, hzs⟩ hC hx2 F4 N5 off3 ne3
    (try clear F8); (try clear N8)
    have hi' : i < (colsT d).length := by simp at hi; omega
    have hci : (colsT d)[i]? = some ((colsT d)[i]'hi') := by simp
    have hcc := hcok.2 _ (List.getElem_mem hi')
    generalize (colsT d)[i]'hi' = c at hci hcc
    obtain ⟨a, us, n', hya, hma, hus⟩ := hcv.item i _ hci
    have hv' : v = .ref a := by have := hv.symm.trans (by simpa using hya); exact Option.some.inj this
    subst hv'
    have hz := hcc.2
    have hk2 : 0 < c.length := by omega
    walk_at "NZ"
    (rename Fr _ _ _ _ => F9)
    (rename News _ _ _ _ => N9)
    (rename c[_]? = some _ => hc0)
    have hg : c.getD 0 Str.empty = _ := getD_of hc0
    refine comp_end F9 N9 off3 (src_at (its := List.toArray cv) (n := cn) (by walk_at "NZ mem")) ⟨rfl, ?_⟩
    rw [List.take_add_one, hci, List.map_append]
    show Nums _ (_ ++ [(c.getD 0 Str.empty).length])
    rw [hg]
    exact hzs.snoc _ _
  rintro zs nw ⟨rfl, hzs⟩
  rintro Wd h tk F4 N5 o1''
  rw [List.take_of_length_le (by simp; omega)] at hzs
  have hOW := off1 o1''
  (try clear F8); (try clear N8)
  walk_at "NZi"
  (rename (lmarksT count names titles)[_]? = some _ => hx0)
  have hg0 : (lmarksT count names titles).getD 0 Str.empty = _ := getD_of hx0
  subst hg0
  have hm0 : ((lmarksT count names titles).getD 0 Str.empty).length ≤ 20 := by assumption
  obtain ⟨tm0, hmv0⟩ := hMv.get 0 _ hx0
  have hus : ∀ y ∈ (colsT d).map (fun c => (c.getD 0 Str.empty).length), y ≤ 1000 := by
    intro y hy
    obtain ⟨c, hc, rfl⟩ := List.mem_map.mp hy
    have hcc := hcok.2 c hc
    have := hcc.2 (c.getD 0 Str.empty) (by rw [List.getD_eq_getElem?_getD, List.getElem?_eq_getElem (by omega)]; exact List.getElem_mem _)
    omega
  refine parts_use (lparts_spec w Wd zs zs.length _ ((lmarksT count names titles).getD 0 Str.empty).length width _ _ _ (by exact List.mem_cons_self) hzs hus (by rw [List.length_map]; omega)) B F4 X N5 T rfl (ltA hd' rfl) (ltA hu rfl) ?_
  intro Pd subs gs pn h' tk' hG hgs hOPd hfr F6 N6
  have N7 := news_sub (l := (Du, PySem.W.listOf (List.toArray []) 0) :: (L + 1 + 1 + 1 + 1, o1') :: (L + 1 + 1 + 1, o2) :: (L + 1 + 1, o3') :: (L + 1, o4') :: ((Cl, PySem.W.listOf (List.toArray cv) cn) :: (Pd, PySem.W.listOf (List.toArray (refsOf subs)) pn) :: (subs ++ R12))) N6 (by
    intro p hp
    simp only [List.mem_cons, List.mem_append] at hp ⊢
    rcases hp with h | h | h | h | h | h | h | h | h <;> simp [h])
  have hDuS : Off Du subs := fun p hp => ((hfr p hp).ne (.tail _ List.mem_cons_self)).symm
  have hL3S : Off (L + 1 + 1 + 1) subs := fun p hp => ((hfr p hp).ne (.tail _ (.tail _ (.tail _ (.tail _ List.mem_cons_self))))).symm
  have hPd1 : Du ≠ Pd := hOPd.ne (List.mem_append_right _ (.tail _ List.mem_cons_self))
  have hPd2 : (L + 1 + 1 + 1 : Addr) ≠ Pd := hOPd.ne (List.mem_append_right _ (.tail _ (.tail _ (.tail _ (.tail _ List.mem_cons_self)))))
  have hOD1 : Off Du ((Cl, PySem.W.listOf (List.toArray cv) cn) :: (Pd, PySem.W.listOf (List.toArray (refsOf subs)) pn) :: (subs ++ R12)) := Off.cons (Off.cons (Off.app hDuS (hODu.sub (by walk_at "NZ sub"))) hPd1.symm) hODu.head
  have hOL3 : Off (L + 1 + 1 + 1) ((Cl, PySem.W.listOf (List.toArray cv) cn) :: (Pd, PySem.W.listOf (List.toArray (refsOf subs)) pn) :: (subs ++ R12)) := Off.cons (Off.cons (Off.app hL3S hO2) hPd2.symm) (Off.ne hOCc (.tail _ List.mem_cons_self)).symm
  have hDuc : Off Du [(L + 1 + 1 + 1 + 1, o1'), (L + 1 + 1 + 1, o2), (L + 1 + 1, o3'), (L + 1, o4')] := hODu.sub (by walk_at "NZ sub")
  have hR13 : ∀ p ∈ R12, p ∈ (Cl, PySem.W.listOf (List.toArray cv) cn) :: (Pd, PySem.W.listOf (List.toArray (refsOf subs)) pn) :: (subs ++ R12) := fun p hp => .tail _ (.tail _ (List.mem_append_right _ hp))
  have hS13 : ∀ p ∈ subs, p ∈ (Cl, PySem.W.listOf (List.toArray cv) cn) :: (Pd, PySem.W.listOf (List.toArray (refsOf subs)) pn) :: (subs ++ R12) := fun p hp => .tail _ (.tail _ (List.mem_append_left _ hp))
  have hmCl : (Cl, PySem.W.listOf (List.toArray cv) cn) ∈ (Cl, PySem.W.listOf (List.toArray cv) cn) :: (Pd, PySem.W.listOf (List.toArray (refsOf subs)) pn) :: (subs ++ R12) := List.mem_cons_self
  have hmPd : (Pd, PySem.W.listOf (List.toArray (refsOf subs)) pn) ∈ (Cl, PySem.W.listOf (List.toArray cv) cn) :: (Pd, PySem.W.listOf (List.toArray (refsOf subs)) pn) :: (subs ++ R12) := .tail _ List.mem_cons_self
  replace htitles := htitles.mono hR13
  replace hLay := hLay.mono hR13
  replace hcv := hcv.mono hR13
  replace hmM := hR13 _ hmM
  have hpok := partsT_ok ((colsT d).map fun c => (c.getD 0 Str.empty).length) ((lmarksT count names titles).getD 0 Str.empty).length width
  rw [← hgs, List.length_map, hcn] at hpok
  clear hnames hR13 hOPd hfr hDuS hL3S hPd1 hPd2 hOW hODu hOR hO1 hO2 hOCc N5 N6 F4 hus hzs
  generalize (Cl, PySem.W.listOf (List.toArray cv) cn) :: (Pd, PySem.W.listOf (List.toArray (refsOf subs)) pn) :: (subs ++ R12) = R13 at *
  walk_at "NZi"
  have hsl : gs.reverse.length = (refsOf subs).length := by rw [List.length_reverse, ← hG.length, refsOf_len]
  refine for_list (L := L) (l := Pd) (vs := refsOf subs) (k := pn) rfl (fun i m nw => (X3 fun dv dn o2' => A4 (nw = (Du, PySem.W.listOf (List.toArray dv) dn) :: (L + 1 + 1 + 1 + 1, o1') :: (L + 1 + 1 + 1, o2') :: (L + 1 + 1, o3') :: (L + 1, o4') :: R13) (X1 fun v0 => o2'.data = .cell v0) (Txts dv ((gs.reverse.take i).flatMap (dueP (colsT d) (lmarksT count names titles) titles count))) (dv.length ≤ 8 * i)) ∧ Same [Str.ofString "piece"] m _) rfl F6 N7 (by walk_at "NZ mem") ?_ ⟨⟨[], _, o2, rfl, ⟨_, d2'⟩, .nil, Nat.zero_le _⟩, .refl⟩ ?_ ?_
  · rintro i m nw ⟨⟨dv, dn, o2', rfl, _⟩, _⟩
    walk_at "NZ mem"
  · rintro i v m₁ nw I oI h tk hv ⟨⟨dv, dn, o2', rfl, ⟨v0, d2x⟩, hdv, hdl⟩, hs⟩ hI F7 N8
    rw [hs.open1] at F7
    (try clear F6); (try clear N7)
    obtain ⟨a, us, n', piece, rfl, hma, hpv, hpi⟩ := gs_item hG i v hv
    have hma' := hS13 _ hma
    have hpo := hpok.2 piece (List.mem_of_getElem? hpi)
    have hi' : i < wide + 1 := by
      have := List.getElem?_eq_some_iff.mp hpi
      obtain ⟨h, _⟩ := this
      omega
    have hID : Du ≠ I := hI.head
    have hDuc2 : Off Du [(L + 1 + 1 + 1 + 1, o1'), (L + 1 + 1 + 1, o2'), (L + 1 + 1, o3'), (L + 1, o4')] := hDuc.same rfl
    have hIL3 : I ≠ L + 1 + 1 + 1 := (hI.ne (.tail _ (.tail _ List.mem_cons_self))).symm
    have hDL3 : Du ≠ L + 1 + 1 + 1 := (hDuc2.ne (.tail _ List.mem_cons_self)).symm
    walk_at "NZi"
    refine exec_mid [] (fun m nw => X2 fun dv' dn' => A3 (nw = (I, oI) :: (Du, PySem.W.listOf (List.toArray dv') dn') :: (L + 1 + 1 + 1 + 1, o1') :: (L + 1 + 1 + 1, o2') :: (L + 1 + 1, o3') :: (L + 1, o4') :: R13) (Txts dv' ((gs.reverse.take i).flatMap (dueP (colsT d) (lmarksT count names titles) titles count) ++ dueTop titles ((lmarksT count names titles).getD 0 Str.empty).length)) (dv'.length ≤ 8 * i + 1)) F7 ?_ ?_
    · cases titles with
      | none =>
        have hn' : vt = .none := htitles
        subst hn'
        walk_at "NZ"
        exact midP F7 N8 ⟨.refl, dv, dn, rfl, by unfold dueTop; rw [List.append_nil]; exact hdv, by omega⟩
      | some ts =>
        obtain ⟨at', tvs, tn, rfl, htm, htx⟩ := htitles
        have htl2 := htb ts rfl
        obtain ⟨z1, hz1⟩ : ∃ z, ts[1]? = some z := ⟨ts[1]'(by omega), by simp⟩
        obtain ⟨tz1, htv1⟩ := htx.get 1 z1 hz1
        have hgd1 := getD_of (d := Str.empty) hz1
        have hzl := htl2.2 z1 (List.mem_of_getElem? hz1)
        have hdvl := hdv.length
        walk_at "NZ"
        (rename Fr _ _ _ _ => F9)
        (rename News _ _ _ _ => N9)
        rw [push_list] at N9
        simp only [mul_sp, Int.toNat_natCast] at N9
        refine midP F9 (news_of (l := (I, oI) :: (Du, PySem.W.listOf (List.toArray (dv ++ [Value.str (sp ((lmarksT count names (some ts)).getD 0 Str.empty).length ++ z1) _])) (dn + 1)) :: (L + 1 + 1 + 1 + 1, o1') :: (L + 1 + 1 + 1, o2') :: (L + 1 + 1, o3') :: (L + 1, o4') :: R13) N9 ⟨_, by walk_at "NZ mem"⟩ (led_cons (by walk_at "NZ mem") hID.symm (led_here (led_tail (Off.app hDuc2 hOD1) (by walk_at "NZ sub"))))) ⟨.refl, _, _, rfl, ?_, by rw [List.length_append]; simp; omega⟩
        unfold dueTop
        dsimp only
        rw [hgd1]
        exact hdv.snoc _ _
    rintro h' tk' m' nw F8 N9 hs2 ⟨dv', dn', rfl, hdv', hdl'⟩
    rw [hs2.open0] at F8
    clear hs2 hdv hdl
    (try clear F7); (try clear N8)
    walk_at "NZi"
    refine For_C ?_
    walk_at "NZi"
    (try clear F8); (try clear N9)
    (rename IsRange _ _ _ _ _ _ _ _ => R3)
    (rename Fr _ _ _ _ => F8)
    (rename News _ _ _ _ => N9)
    refine for_range0C (L := L) (c := L + 1 + 1 + 1) (b := count + 1) rfl rfl rfl rfl (fun r m nw => X3 fun dw dn o2' => A5 (nw = (I, oI) :: (Du, PySem.W.listOf (List.toArray dw) dn) :: (L + 1 + 1 + 1 + 1, o1') :: (L + 1 + 1 + 1, o2') :: (L + 1 + 1, o3') :: (L + 1, o4') :: R13) (X1 fun v0 => o2'.data = .cell v0) (Txts dw (((gs.reverse.take i).flatMap (dueP (colsT d) (lmarksT count names titles) titles count) ++ dueTop titles ((lmarksT count names titles).getD 0 Str.empty).length) ++ (List.range r).map fun r => (lmarksT count names titles).getD r Str.empty ++ catT (piece.map fun s => ((colsT d).getD s []).getD r Str.empty))) (dw.length ≤ 8 * i + 1 + r) (Same [] m _)) rfl R3 (by omega) (by omega) F8 N9 ?_ ⟨dv', dn', o2', rfl, ⟨_, d2x⟩, by simpa using hdv', by omega, .refl⟩ ?_ ?_
    · rintro r m nw ⟨dw, dn, o2', rfl, ⟨v0, h0⟩, _⟩
      exact ⟨o2', v0, by walk_at "NZ mem", h0⟩
    · rintro r tr m₁ nw I2 oI2 h tk oc' hr ⟨dw, dn, o2', rfl, _, hdw, hdwl, hs3⟩ hI2 hoc F9 N10
      rw [hs3.open0] at F9
      (try clear F8); (try clear N9)
      have N11 := news_nset2 (l := (I, oI) :: (Du, PySem.W.listOf (List.toArray dw) dn) :: (L + 1 + 1 + 1 + 1, o1') :: (L + 1 + 1 + 1, oc') :: (L + 1 + 1, o3') :: (L + 1, o4') :: R13) N10 ⟨_, .tail _ (.tail _ (.tail _ List.mem_cons_self))⟩
        (led_cons (by walk_at "NZ mem") hIL3 (led_cons (by walk_at "NZ mem") hDL3 (led_cons (by walk_at "NZ mem") hc12 (led_here (led_cons (by walk_at "NZ mem") hc23.symm (led_cons (by walk_at "NZ mem") hc24.symm (led_tail hOL3 (by walk_at "NZ sub"))))))))
      clear N10
      obtain ⟨yr, hyr⟩ : ∃ z, (lmarksT count names titles)[r]? = some z := ⟨_, List.getElem?_eq_getElem (by omega)⟩
      obtain ⟨tmr, hmvr⟩ := hMv.get r yr hyr
      have hyrz := hmz yr (List.mem_of_getElem? hyr)
      have hcok2 := hcok.2
      have hpl := hpv.length
      walk_at "NZi"
      refine LCg.ListComp_U F9 (by with_unfolding_all rfl) (by decide) rfl (by decide) rfl ?_
      walk_at "NZ"
      refine LCg.CompSrc.ledger (its := List.toArray us) rfl F9 N11 (by walk_at "NZ mem") (by rw [PySem.sizeLine_eq]; simp; omega) ?_
      intro g'
      refine comp_inv (fun j zs nw => nw = (I2, oI2) :: (I, oI) :: (Du, PySem.W.listOf (List.toArray dw) dn) :: (L + 1 + 1 + 1 + 1, o1') :: (L + 1 + 1 + 1, oc') :: (L + 1 + 1, o3') :: (L + 1, o4') :: R13 ∧ Txts zs ((piece.take j).map fun s => ((colsT d).getD s []).getD r Str.empty)) ⟨rfl, .nil⟩ ?_ ?_
      · rintro j zs nw v I3 oI3 C oC D2 m₂ h tk E' hj hv ⟨rfl, hzs⟩ hC hx2 F4 N5 off3 ne3
        (try clear F9); (try clear N11)
        have hj' : j < piece.length := by simp at hj; omega
        have hpj : piece[j]? = some (piece[j]'hj') := by simp
        have hpw := hpo.2 _ (List.getElem_mem hj')
        generalize piece[j]'hj' = q at hpj hpw
        obtain ⟨tq, hq⟩ := hpv.item j q hpj
        have hv' : v = .int (q : Nat) tq := by have := hv.symm.trans (by simpa using hq); exact Option.some.inj this
        subst hv'
        walk_at "NZ"
        (rename Fr _ _ _ _ => F11)
        (rename News _ _ _ _ => N12)
        (rename (colsT d)[q]? = some _ => hcj)
        (rename (_ : List Str)[r]? = some _ => hxr)
        refine comp_end F11 N12 off3 (src_at (its := List.toArray us) (n := n') (by walk_at "NZ mem")) ⟨rfl, ?_⟩
        rw [List.take_add_one, hpj, List.map_append]
        show Txts _ (_ ++ [((colsT d).getD q []).getD r Str.empty])
        rw [getD_of hcj, getD_of hxr]
        exact hzs.snoc _ _
      rintro zs nw ⟨rfl, hzs⟩
      rintro Z h tk F4 N5 o1''
      rw [List.take_of_length_le (by simp; omega)] at hzs
      (try clear F9); (try clear N11)
      have hcell : ∀ y ∈ piece.map (fun s => ((colsT d).getD s []).getD r Str.empty), y.length ≤ 11 := by
        intro y hy
        obtain ⟨q, _, rfl⟩ := List.mem_map.mp hy
        exact cellc_le fun c hc => (hcok2 c hc).2
      have hcat := catT_length hcell
      rw [List.length_map] at hcat
      have hdwl2 := hdw.length
      have hyg := getD_of (d := Str.empty) hyr
      walk_at "NZi"
      refine nz_join N5 List.mem_cons_self hzs (fun y hy => Nat.le_trans (hcell y hy) (by decide)) (by rw [List.length_map]; omega) ?_
      intro t' k'
      walk_at "NZi"
      (rename Fr _ _ _ _ => F11)
      (rename News _ _ _ _ => N12)
      rw [push_list] at N12
      have hDuc3 : Off Du [(L + 1 + 1 + 1 + 1, o1'), (L + 1 + 1 + 1, oc'), (L + 1 + 1, o3'), (L + 1, o4')] := hDuc2.same rfl
      have hI2D : I2 ≠ Du := (hI2.ne (.tail _ List.mem_cons_self)).symm
      refine turnP_next F11 (news_of (l := (I2, oI2) :: (I, oI) :: (Du, PySem.W.listOf (List.toArray (dw ++ [Value.str (yr ++ catT (piece.map fun s => ((colsT d).getD s []).getD r Str.empty)) _])) (dn + 1)) :: (L + 1 + 1 + 1 + 1, o1') :: (L + 1 + 1 + 1, oc') :: (L + 1 + 1, o3') :: (L + 1, o4') :: R13) N12 ⟨_, by walk_at "NZ mem"⟩ (led_cons (by walk_at "NZ mem") hI2D (led_cons (by walk_at "NZ mem") hID.symm (led_here (led_tail (Off.app hDuc3 hOD1) (by walk_at "NZ sub")))))) (hI2.same rfl) ⟨_, _, oc', rfl, ⟨_, hoc⟩, ?_, by rw [List.length_append]; simp; omega, .refl⟩
      rw [List.range_succ, List.map_append, ← List.append_assoc]
      show Txts _ (_ ++ [(lmarksT count names titles).getD r Str.empty ++ _])
      rw [hyg]
      exact hdw.snoc _ _
    rintro m₁ nw h tk ⟨dw, dn, o2', rfl, ⟨v1, h1⟩, hdw, hdwl, hs3⟩ F9 N10
    rw [hs3.open0] at F9
    (try clear F8); (try clear N9)
    walk_at "NZi"
    refine turnP_next F9 N10 (hI.same rfl) ⟨⟨dw, dn, o2', rfl, ⟨v1, h1⟩, ?_, by omega⟩, by walk_at "SAME"⟩
    rw [flatMap_take _ hpi]
    rw [List.append_assoc] at hdw
    exact hdw
  rintro m₁ nw h tk ⟨⟨dv, dn, o2', rfl, _, hdv, hdl⟩, hs⟩ F7 N8
  rw [hs.open1] at F7
  (try clear F6); (try clear N7)
  rw [List.take_of_length_le (by omega)] at hdv
  walk_at "NZi"
  refine rows_use (layout_rows_spec w x d width _ _ (hLay.mono (by walk_at "NZ sub")) hOk (by omega)) B F7 X N8 T rfl (ltA hd' rfl) (ltA hu rfl) ?_
  intro Rr rv rn h' tk' hoff hrv F9 N9
  (try clear F7); (try clear N8)
  walk_at "NZi"
  have hdue : Txts dv (rowsT d width) := by
    subst hd
    rw [hgs] at hdv
    rw [← due_rows (width := width) hOk fun xs e => (hnb xs e).1]
    exact hdv
  refine nz_eqTxts N9 List.mem_cons_self (.tail _ List.mem_cons_self) hrv hdue (by show un < cLine; omega) ?_
  exact ⟨_, _, _, _, rfl, F9, N9, rfl⟩
theorem post_true (a b : List WData) : PySem.Challenge.rw_nz0464_01.row.claim.post a (.bool true) b = true := by kernel_rfl
end Nz
set_option maxHeartbeats 4000000 in
theorem PySem.Challenge.cw_nz0464_01_holds : PySem.Challenge.rw_nz0464_01.Holds :=
  Nz.hd (by
  k_go0
  (rename Below _ _ _ _ => B)
  (rename Top _ _ _ _ _ _ => T)
  (rename CellsAre _ _ _ => Y)
  (rename Fr _ _ _ _ => F)
  (rename News _ _ _ _ => N)
  (rename Frag.In _ _ => X)
  (rename IntsAre _ _ => hx)
  (rename Heap.IsList _ _ _ => hl)
  (rename ¬ (_ < _) => hc)
  (rename Shared.gens _ = _ => hgn)
  refine wpAny_mono (Nz.law_body _ (by k_is) _ _ _ _ _ _ _ _ _ _ _ _ _ _ _ _ _ _ hx (by omega) hl B F X N Y T (by decide) (by decide)) ?_ ?_
  · rintro f s' ⟨h, tk, m, nw, rfl, F2, N2, hv⟩
    cases f <;> cases hv
    exact ⟨.inl ⟨.bool true, .bool true, [], rfl, fun _ => rfl, .bool true, Nz.post_true _ _, fun _ => ⟨List.nodup_nil, fun _ h => nomatch h⟩⟩, F2.keep, rfl, hgn⟩
  · intro e s' he
    exact he.elim)
