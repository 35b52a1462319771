import PyProof.Rows.All
import Wide.All
import OpenK.AllK
import Wide.FinOn
import PySem.Challenge.RW_nn0113_01
open PySem PySem.W PySem.Calls PyProof.Rows
set_option Elab.async false
set_option maxRecDepth 100000
set_option linter.all false
set_option compiler.extract_closed false
set_option maxHeartbeats 8000000
namespace Mine
open_top hd for PySem.Challenge.rw_nn0113_01
end Mine
set_option maxHeartbeats 400000
namespace Mine
def Halt (p : Prop) : Prop := p
theorem unhalt {p : Prop} (h : Halt p) : p := h
section
variable {prog : Program} {w : World} {A : Around} {E : Value → Shared → Prop} {s : Shared} {env : Env} {h₀ : Heap} {x : Str} {body : List Stmt} {Q : Flow → Shared → Prop}
/-- what a turn must leave behind -/
def TurnEnd (h₀ : Heap) (L : Addr) (I : Addr) (oI : Obj) (J : (Str → Option Value) → List (Addr × Obj) → Prop) (s₁ s₂ : Shared) : Prop :=
  ∃ h' tk m' nx, s₂ = { s₁ with heap := h', toks := tk } ∧ Fr h₀ L h' m' ∧ News h₀ L h' ((I, oI) :: nx) ∧ (∀ p ∈ nx, p.1 ≠ I) ∧ J m' nx
def TurnPost (h₀ : Heap) (L : Addr) (I : Addr) (oI : Obj) (J : (Str → Option Value) → List (Addr × Obj) → Prop) (s₁ : Shared) (Q : Flow → Shared → Prop) (f : Flow) (s₂ : Shared) : Prop :=
  match f with
  | .ret v => Q (.ret v) s₂
  | .brk => Q .next s₂
  | _ => TurnEnd h₀ L I oI J s₁ s₂
theorem TurnEnd.intro {L I : Addr} {oI : Obj} {J : (Str → Option Value) → List (Addr × Obj) → Prop} {s₁ : Shared} {h' : Heap} {tk : Nat} {m' : Str → Option Value} {all : List (Addr × Obj)} (nx : List (Addr × Obj))
    (F : Fr h₀ L h' m') (N : News h₀ L h' all) (hI : (I, oI) ∈ all) (hs : ∀ p ∈ nx, p ∈ all) (ho : ∀ p ∈ nx, p.1 ≠ I) (hJ : J m' nx) : TurnEnd h₀ L I oI J s₁ { s₁ with heap := h', toks := tk } :=
  ⟨h', tk, m', nx, rfl, F, fun p hp => (List.mem_cons.mp hp).elim (fun e => e ▸ N _ hI) fun q => N p (hs p q), ho, hJ⟩
theorem loop_led {I : Addr} {fp : List Addr} {n : Nat} {P : Nat → Value → Prop} {St : Nat → Heap → Prop} {m₀ : Str → Option Value} {news : List (Addr × Obj)} (J : Nat → (Str → Option Value) → List (Addr × Obj) → Prop)
    (W : Walks prog w A I fp [I] n P St) (hIf : I ∈ fp) (hI0 : h₀.get? I = none) (hLf : env.locals ∉ fp) (hob : ∀ i h, St i h → ∃ o, h.get? I = some o) (hnw : ∀ p ∈ news, p.1 ≠ I)
    (kp : List (Addr × Obj)) (hfp : ∀ b ∈ fp, b ≠ I → ∃ o, (b, o) ∈ kp) (hkeep : ∀ i m nx, J i m nx → ∀ p ∈ kp, p ∈ nx)
    (hst : St 0 s.heap) (F : Fr h₀ env.locals s.heap m₀) (N : News h₀ env.locals s.heap news) (hj : J 0 m₀ news)
    (turn : ∀ i v m nx h tk oI, i < n → P i v → J i m nx → (∀ p ∈ nx, p.1 ≠ I) → Fr h₀ env.locals h (fun y => if y = x then some v else m y) → News h₀ env.locals h ((I, oI) :: nx) →
      wpAny (model prog w) A (execs body env) (TurnPost h₀ env.locals I oI (J (i + 1)) { s with heap := h, toks := tk } Q) E { s with heap := h, toks := tk })
    (done : ∀ m nx h tk, J n m nx → Fr h₀ env.locals h m → News h₀ env.locals h nx → Q .next { s with heap := h, toks := tk }) :
    LoopAtV prog w A h₀ env x body Q E (.ref I) s := by
  refine ⟨I, fp, [I], n, P, St, m₀, news, J, rfl, W, hLf, ?_, ?_, hst, F, N, hj, ?_, ?_⟩
  · intro b hb; rw [List.mem_singleton.mp hb]; exact hI0
  · intro p hp hq; exact hnw p hp (List.mem_singleton.mp hq)
  · rintro i v m₁ nx s₁ own ⟨hh, tk, rfl⟩ hin hP hJ hoff hown hget hall hst' F₁ N₁
    obtain ⟨oI, hoI⟩ := hob _ _ hst'
    have hio : (I, oI) ∈ own := hall I hIf hI0 oI hoI
    have hoff' : ∀ p ∈ nx, p.1 ≠ I := fun p hp e => hoff p hp (List.mem_singleton.mpr e)
    have N₂ : News h₀ env.locals hh ((I, oI) :: nx) := fun p hp => (List.mem_cons.mp hp).elim (fun e => e ▸ N₁ _ (List.mem_append_left _ hio)) fun q => N₁ p (List.mem_append_right _ q)
    refine wpAny_mono (turn i v m₁ nx hh tk oI hin hP hJ hoff' F₁ N₂) (fun f s₂ p => ?_) fun _ _ e => e
    have fin : TurnEnd h₀ env.locals I oI (J (i + 1)) { s with heap := hh, toks := tk } s₂ → LoopStepU h₀ env.locals [I] own (J (i + 1)) { s with heap := hh, toks := tk } .next s₂ := by
      rintro ⟨h', tk', m', nx', e, F', N', ho, hJ'⟩
      refine ⟨rfl, h', tk', m', nx', e, F', fun p hp => ?_, fun p hp hI => ho p hp (List.mem_singleton.mp hI), hJ'⟩
      rcases List.mem_append.mp hp with h | h
      · by_cases e1 : p.1 = I
        · have h2 : hh.get? p.1 = some p.2 := hget p h
          rw [e1, hoI] at h2
          have h3 : p = (I, oI) := Prod.ext e1 (Option.some.inj h2).symm
          rw [h3]; exact N' _ (.head _)
        · obtain ⟨o, ho'⟩ := hfp p.1 (hown p h) e1
          have h4 := (N₁ _ (List.mem_append_right own (hkeep _ _ _ hJ _ ho'))).1
          rw [hget p h] at h4
          have h5 : p = (p.1, o) := Prod.ext rfl (Option.some.inj h4)
          rw [h5]
          exact N' _ (.tail _ (hkeep _ _ _ hJ' _ ho'))
      · exact N' p (.tail _ h)
    cases f with
    | ret v => exact .ret p
    | brk => exact .brk p
    | next => exact .next (fin p)
    | cont => exact .cont (fin p)
  · rintro h' tk m' nx' F' N' _ hJ
    exact done m' nx' h' tk hJ F' N'

theorem iter_led {l : Addr} {vs : Array Value} {nn : Nat} {m₀ : Str → Option Value} {news : List (Addr × Obj)} (J : Nat → (Str → Option Value) → List (Addr × Obj) → Prop)
    (hh : A.handled = none) (hl : (l, listOf vs nn) ∈ news) (F : Fr h₀ env.locals s.heap m₀) (N : News h₀ env.locals s.heap news) (hj : J 0 m₀ news)
    (hJl : ∀ i m nx, J i m nx → (l, listOf vs nn) ∈ nx)
    (turn : ∀ i v m nx h tk I oI, vs[i]? = some v → J i m nx → (∀ p ∈ news, p.1 < I) → (∀ p ∈ nx, p.1 ≠ I) → Fr h₀ env.locals h (fun y => if y = x then some v else m y) → News h₀ env.locals h ((I, oI) :: nx) →
      wpAny (model prog w) A (execs body env) (TurnPost h₀ env.locals I oI (J (i + 1)) { s with heap := h, toks := tk } Q) E { s with heap := h, toks := tk })
    (done : ∀ m nx h tk, J vs.size m nx → Fr h₀ env.locals h m → News h₀ env.locals h nx → Q .next { s with heap := h, toks := tk }) :
    wpAny (model prog w) A (pyIter (.ref l)) (fun it s₂ => LoopAtV prog w A h₀ env x body Q E it s₂) E s := by
  have hol : s.heap.get? l = some (listOf vs nn) := (N _ hl).1
  have hls : s.heap.IsList l vs := ⟨_, hol, rfl, nn, rfl⟩
  have hne : l ≠ s.heap.objs.size := Nat.ne_of_lt (Heap.lt_size hol)
  refine wpAny_pyIter_list hls ?_
  have W := Walks.list (prog := prog) (w := w) hh s.heap.objs.size l hne vs
  refine loop_led J W (.head _) (next_is_new F) ?_ (fun i h st => ?_) (fun p hp e => ?_) [(l, listOf vs nn)] (fun b hb hbI => ?_) (fun i m nx hJ p hp => (List.mem_singleton.mp hp) ▸ hJl i m nx hJ) ⟨⟨_, Heap.get?_push_size _ rfl, rfl, rfl⟩, hls.at fun o e => Heap.get?_push_of_some _ e⟩ (F.push _) (fun p hp => ⟨Heap.get?_push_of_some _ (N p hp).1, (N p hp).2⟩) hj (fun i v m nx h tk oI _ hP hJ hoff F' N' => ?_) done
  · intro hm
    rcases List.mem_cons.mp hm with e | hm
    · exact absurd F.ns.lt (e ▸ Nat.lt_irrefl _)
    · exact (N _ hl).2.1 ((List.mem_singleton.mp hm).symm)
  · obtain ⟨⟨o, ho, _⟩, _⟩ := st
    exact ⟨o, ho⟩
  · exact absurd (Heap.lt_size (N p hp).1) (e ▸ Nat.lt_irrefl _)
  · rcases List.mem_cons.mp hb with e | hb
    · exact absurd e hbI
    · rw [List.mem_singleton.mp hb]; exact ⟨_, .head _⟩
  · exact turn i v m nx h tk _ oI hP hJ (fun p hp => Heap.lt_size (N p hp).1) hoff F' N'

theorem iter_range {r : Addr} {a₀ b₀ : Int} {t₀ u₀ v₀ : Tok} {n : Nat} {m₀ : Str → Option Value} {news : List (Addr × Obj)} (J : Nat → (Str → Option Value) → List (Addr × Obj) → Prop)
    (hh : A.handled = none) (hr : IsRange s.heap r a₀ b₀ 1 t₀ u₀ v₀) (hsmall : Builtin.Range.small a₀ b₀ 1 = true) (hn : Builtin.Range.rangeSize a₀ b₀ 1 = (n : Int)) (F : Fr h₀ env.locals s.heap m₀) (N : News h₀ env.locals s.heap news) (hj : J 0 m₀ news)
    (turn : ∀ (i : Nat) t m nx h tk I oI, i < n → J i m nx → (∀ p ∈ news, p.1 < I) → (∀ p ∈ nx, p.1 ≠ I) → Fr h₀ env.locals h (fun y => if y = x then some (.int (a₀ + (i : Int)) t) else m y) → News h₀ env.locals h ((I, oI) :: nx) →
      wpAny (model prog w) A (execs body env) (TurnPost h₀ env.locals I oI (J (i + 1)) { s with heap := h, toks := tk } Q) E { s with heap := h, toks := tk })
    (done : ∀ m nx h tk, J n m nx → Fr h₀ env.locals h m → News h₀ env.locals h nx → Q .next { s with heap := h, toks := tk }) :
    wpAny (model prog w) A (pyIter (.ref r)) (fun it s₂ => LoopAtV prog w A h₀ env x body Q E it s₂) E s := by
  refine wpAny_pyIter_range hr hsmall ?_
  have W : Walks prog w A s.heap.objs.size [s.heap.objs.size] [s.heap.objs.size] n (fun i v => i < n ∧ ∃ t, v = .int (a₀ + i * 1) t)
      (fun i h => IsRangeIter h s.heap.objs.size (a₀ + (i : Nat) * 1) ((n : Int) - (i : Nat)) 1) := (Walks.range hh _ a₀ 1 n).bound
  refine loop_led J W (.head _) (next_is_new F) ?_ (fun i h st => ⟨_, st⟩) (fun p hp e => ?_) [] (fun b hb hbI => absurd (List.mem_singleton.mp hb) hbI) (fun i m nx hJ p hp => nomatch hp) (by show IsRangeIter _ _ _ _ _; rw [hn]; simpa using Heap.get?_push_size _ rfl) (F.push _) (fun p hp => ⟨Heap.get?_push_of_some _ (N p hp).1, (N p hp).2⟩) hj (fun i v m nx h tk oI hi hP hJ hoff F' N' => ?_) done
  · intro hm
    exact absurd F.ns.lt ((List.mem_singleton.mp hm) ▸ Nat.lt_irrefl _)
  · exact absurd (Heap.lt_size (N p hp).1) (e ▸ Nat.lt_irrefl _)
  · obtain ⟨_, t, rfl⟩ := hP
    rw [Int.mul_one] at F'
    exact turn i t m nx h tk _ oI hi hJ (fun p hp => Heap.lt_size (N p hp).1) hoff F' N'

def WEnd (h₀ : Heap) (L : Addr) (J : Nat → (Str → Option Value) → List (Addr × Obj) → Prop) (n : Nat) (s₁ s₂ : Shared) : Prop :=
  ∃ h' tk m' nx n', s₂ = { s₁ with heap := h', toks := tk } ∧ Fr h₀ L h' m' ∧ News h₀ L h' nx ∧ n' < n ∧ J n' m' nx
def WPost (h₀ : Heap) (L : Addr) (J : Nat → (Str → Option Value) → List (Addr × Obj) → Prop) (n : Nat) (s₁ : Shared) (Q : Flow → Shared → Prop) (f : Flow) (s₂ : Shared) : Prop :=
  match f with
  | .ret v => Q (.ret v) s₂
  | .brk => Q .next s₂
  | _ => WEnd h₀ L J n s₁ s₂
theorem WEnd.intro {L : Addr} {J : Nat → (Str → Option Value) → List (Addr × Obj) → Prop} {n : Nat} {s₁ : Shared} {h' : Heap} {tk : Nat} {m' : Str → Option Value} {all : List (Addr × Obj)} (n' : Nat) (nx : List (Addr × Obj))
    (F : Fr h₀ L h' m') (N : News h₀ L h' all) (hs : ∀ p ∈ nx, p ∈ all) (hn : n' < n) (hJ : J n' m' nx) : WEnd h₀ L J n s₁ { s₁ with heap := h', toks := tk } :=
  ⟨h', tk, m', nx, n', rfl, F, fun p hp => N p (hs p hp), hn, hJ⟩
theorem while_led {test : PySem.Expr} {pos : Pos} {L : Addr} {m₀ : Str → Option Value} {news : List (Addr × Obj)} (J : Nat → (Str → Option Value) → List (Addr × Obj) → Prop) (n₀ : Nat)
    (F : Fr h₀ L s.heap m₀) (N : News h₀ L s.heap news) (hj : J n₀ m₀ news) (hE : PassesOwn (model prog w) A env E)
    (turn : ∀ n m nx h tk, J n m nx → Fr h₀ L h m → News h₀ L h nx →
      wpAny (model prog w) A (isTrue test env (eval test env)) (fun b s₂ => WhlIf b (wpAny (model prog w) A (execs body env) (WPost h₀ L J n { s with heap := h, toks := tk } Q) E s₂) (wpAny (model prog w) A (execs [] env) Q E s₂)) E { s with heap := h, toks := tk }) :
    wpAny (model prog w) A (exec (.While test body [] pos) env) Q E s := by
  refine whl_start 0 ?_
  have key : ∀ n, ∀ m nx h tk, J n m nx → Fr h₀ L h m → News h₀ L h nx → WhlRest prog w A E env test body [] Q 0 { s with heap := h, toks := tk } := by
    intro n
    induction n using Nat.strongRecOn with
    | ind n ih =>
      intro m nx h tk hJ F N
      refine whl_turn (k := 0) hE (wpAny_mono (turn n m nx h tk hJ F N) (fun b s₂ hb => ?_) fun _ _ e => e)
      cases b with
      | false => exact hb
      | true =>
        have hb' : wpAny (model prog w) A (execs body env) (WPost h₀ L J n { s with heap := h, toks := tk } Q) E s₂ := hb
        refine WhlIf.yes rfl (wpAny_mono hb' (fun f s₃ h₃ => ?_) fun _ _ e => e)
        have fin : WEnd h₀ L J n { s with heap := h, toks := tk } s₃ → WhlRest prog w A E env test body [] Q 0 s₃ := by
          rintro ⟨h', tk', m', nx', n', rfl, F', N', hn, hJ'⟩
          exact ih n' hn m' nx' h' tk' hJ' F' N'
        cases f with
        | ret v => exact h₃
        | brk => exact h₃
        | next => exact fin h₃
        | cont => exact fin h₃
  exact key n₀ m₀ news s.heap s.toks hj F N
end
theorem lt_ne {l : List (Addr × Obj)} {d : Addr} (h : ∀ p ∈ l, p.1 < d) : ∀ p ∈ l, p.1 ≠ d := fun p hp => Nat.ne_of_lt (h p hp)
theorem allLt_lt {l : List (Addr × Obj)} {d : Addr} (h : AllLt d l) : ∀ p ∈ l, p.1 < d := by
  induction l with
  | nil => intro p hp; cases hp
  | cons q r ih =>
    intro p hp
    rcases List.mem_cons.mp hp with e | hp
    · rw [e]; exact h.1
    · exact ih h.2 p hp
theorem allLt_ne {l : List (Addr × Obj)} {d : Addr} (h : AllLt d l) : ∀ p ∈ l, p.1 ≠ d := lt_ne (allLt_lt h)
def AllNe (d : Nat) : List (Addr × Obj) → Prop
  | [] => True
  | p :: r => @Ne Nat p.1 d ∧ AllNe d r
theorem allNe_of {d : Addr} : ∀ {l : List (Addr × Obj)}, (∀ p ∈ l, p.1 ≠ d) → AllNe d l
  | [], _ => trivial
  | p :: _, h => ⟨h p (.head _), allNe_of fun q hq => h q (.tail _ hq)⟩
theorem allNe_ne {l : List (Addr × Obj)} {d : Addr} (h : AllNe d l) : ∀ p ∈ l, p.1 ≠ d := by
  induction l with
  | nil => intro p hp; cases hp
  | cons q r ih =>
    intro p hp
    rcases List.mem_cons.mp hp with e | hp
    · rw [e]; exact h.1
    · exact ih h.2 p hp
/-- names of the frame, said -/
def Nm (m : Str → Option Value) : List (Str × Value) → Prop
  | [] => True
  | p :: r => m p.1 = some p.2 ∧ Nm m r
theorem Nm.all {m : Str → Option Value} : ∀ {ps : List (Str × Value)}, Nm m ps → ∀ p ∈ ps, m p.1 = some p.2
  | _ :: _, h, _, .head _ => h.1
  | _ :: _, h, p, .tail _ hp => Nm.all h.2 p hp
theorem kst_id {m : Str → Option Value} {ps : List (Str × Value)} (h : Nm m ps) : kstB m ps = m := funext fun z => kstB_eq h.all fun _ => rfl
theorem Fr.named {h₀ h : Heap} {L : Addr} {m : Str → Option Value} (ps : List (Str × Value)) (hk : Nm m ps) (F : Fr h₀ L h m) : Fr h₀ L h (kstB m ps) := by rw [kst_id hk]; exact F
theorem Fr.named1 {h₀ h : Heap} {L : Addr} {m : Str → Option Value} {x : Str} {v : Value} (ps : List (Str × Value)) (hk : Nm m ps) (F : Fr h₀ L h (fun y => if y = x then some v else m y)) : Fr h₀ L h (fun y => if y = x then some v else kstB m ps y) := by rw [kst_id hk]; exact F
section
variable {prog : Program} {w : World} {A : Around} {E : Value → Shared → Prop} {s : Shared} {h₀ : Heap} {L : Addr} {m : Str → Option Value} {news : List (Addr × Obj)}
theorem isList_M {l : Addr} {its : Array Value} {n : Nat} (N : News h₀ L s.heap news) (hl : (l, listOf its n) ∈ news) : s.heap.IsList l its := ⟨_, (N _ hl).1, rfl, n, rfl⟩
theorem len_M {l : Addr} {its : Array Value} {n : Nat} {Q : Value → Shared → Prop} (N : News h₀ L s.heap news) (hl : (l, listOf its n) ∈ news) (hz : its.size < 2 ^ 40)
    (h : ∀ t tk, Q (.int its.size t) { s with toks := tk }) : wpAny (model prog w) A (call (.builtin "len") [.ref l]) Q E s := len_list (isList_M N hl) (by omega) (h _ _)
theorem len_I {l : Addr} {vs : List Value} {ns : List Int} {n : Nat} {Q : Value → Shared → Prop} (N : News h₀ L s.heap news) (hl : (l, listOf vs.toArray n) ∈ news) (hi : IntsAre vs ns) (hz : ns.length < 2 ^ 40)
    (h : ∀ t tk, Q (.int ns.length t) { s with toks := tk }) : wpAny (model prog w) A (call (.builtin "len") [.ref l]) Q E s :=
  len_M N hl (by rw [List.size_toArray, hi.length]; exact hz) fun t tk => by rw [List.size_toArray, hi.length]; exact h t tk
theorem len_L {l : Addr} {vs : List Value} {n : Nat} {Q : Value → Shared → Prop} (N : News h₀ L s.heap news) (hl : (l, listOf vs.toArray n) ∈ news) (hz : vs.length < 2 ^ 40)
    (h : ∀ t tk, Q (.int vs.length t) { s with toks := tk }) : wpAny (model prog w) A (call (.builtin "len") [.ref l]) Q E s :=
  len_M N hl (by rw [List.size_toArray]; exact hz) fun t tk => by rw [List.size_toArray]; exact h t tk
theorem truthy_yes {l : Addr} {vs : List Value} {n : Nat} {Q : Bool → Shared → Prop} (N : News h₀ L s.heap news) (hl : (l, listOf vs.toArray n) ∈ news) (h0 : 0 < vs.length) (hz : vs.length < 2 ^ 40)
    (h : ∀ tk, Q true { s with toks := tk }) : wpAny (model prog w) A (truthy (.ref l)) Q E s :=
  wpAny_truthy_list (isList_M N hl) (by simp only [List.size_toArray]; omega) (by
    have e : (!vs.toArray.isEmpty) = true := by
      cases vs with
      | nil => exact absurd h0 (Nat.lt_irrefl _)
      | cons _ _ => rfl
    rw [e]; exact h _)
theorem truthy_no {l : Addr} {n : Nat} {Q : Bool → Shared → Prop} (N : News h₀ L s.heap news) (hl : (l, listOf #[] n) ∈ news)
    (h : ∀ tk, Q false { s with toks := tk }) : wpAny (model prog w) A (truthy (.ref l)) Q E s :=
  wpAny_truthy_list (isList_M N hl) (by decide) (h _)
theorem item_I {value slice : PySem.Expr} {l : Addr} {vs : List Value} {ns : List Int} {n : Nat} {k : Int} {u : Tok} {Q : Value → Shared → Prop} (N : News h₀ L s.heap news) (hl : (l, listOf vs.toArray n) ∈ news) (hi : IntsAre vs ns)
    (h0 : 0 ≤ k) (h1 : k < ns.length) (hz : ns.length < 2 ^ 40) (h : ∀ t, Q (.int (ns.getD k.toNat 0) t) s)
    (hs : subscripted slice false (.ref l) (.int k u) = operate [.ref l, .int k u] (getItem (.ref l) (.int k u)) := by with_unfolding_all rfl) :
    wpAny (model prog w) A (subscriptTail value slice (.ref l) (.int k u)) Q E s := item_list_intsT (isList_M N hl) hi h0 h1 (by omega) h hs
theorem lt_new {h : Heap} (N : News h₀ L h news) : ∀ p ∈ news, p.1 < h.objs.size := fun p hp => Heap.lt_size (N p hp).1
theorem slice_M {value slice : PySem.Expr} {l : Addr} {its : Array Value} {n : Nat} {vl vu : Value} {lo hi : Option Int} {Q : Value → Shared → Prop}
    (F : Fr h₀ L s.heap m) (N : News h₀ L s.heap news) (hl : (l, listOf its n) ∈ news) (pl : IsPart vl lo) (pu : IsPart vu hi) (hsz : its.size ≤ sizeLine)
    (h : ∀ a h', Fr h₀ L h' m → News h₀ L h' ((a, listOf (slicePick its lo hi none) 0) :: news) → (∀ p ∈ news, p.1 < a) → Q (.ref a) { s with heap := h' })
    (hs : subscripted slice false (.ref l) (.ref s.heap.objs.size) = operate [.ref s.heap.objs.size, .ref l] (getItem (.ref l) (.ref s.heap.objs.size)) := by with_unfolding_all rfl)
    (ht : ∀ r, letTemporaryGo value (.ref l) r = pure () := by intro _; with_unfolding_all rfl) :
    wpAny (model prog w) A (subscriptTail value slice (.ref l) (.ref s.heap.objs.size)) Q E { s with heap := s.heap.push { cls := .type "slice", data := .fields #[vl, vu, .none] } } :=
  slice_list F N (isList_M N hl) pl pu (fun h' F' N' => h _ h' F' N' fun p hp => Nat.lt_succ_of_lt (lt_new N p hp)) hs ht hsz
theorem slice_from_M {value slice : PySem.Expr} {l : Addr} {vs : List Value} {n : Nat} {x : Int} {tx : Tok} {Q : Value → Shared → Prop}
    (F : Fr h₀ L s.heap m) (N : News h₀ L s.heap news) (hl : (l, listOf vs.toArray n) ∈ news) (h0 : 0 ≤ x) (hsz : vs.length ≤ sizeLine)
    (h : ∀ a h', Fr h₀ L h' m → News h₀ L h' ((a, listOf (vs.drop x.toNat).toArray 0) :: news) → (∀ p ∈ news, p.1 < a) → Q (.ref a) { s with heap := h' })
    (hs : subscripted slice false (.ref l) (.ref s.heap.objs.size) = operate [.ref s.heap.objs.size, .ref l] (getItem (.ref l) (.ref s.heap.objs.size)) := by with_unfolding_all rfl)
    (ht : ∀ r, letTemporaryGo value (.ref l) r = pure () := by intro _; with_unfolding_all rfl) :
    wpAny (model prog w) A (subscriptTail value slice (.ref l) (.ref s.heap.objs.size)) Q E { s with heap := s.heap.push { cls := .type "slice", data := .fields #[.int x tx, .none, .none] } } := by
  refine slice_M F N hl (.int x tx) .none (by rw [List.size_toArray]; exact hsz) (fun a h' F' N' l1 => h a h' F' ?_ l1) hs ht
  have e : x = ((x.toNat : Nat) : Int) := by omega
  rw [e, slicePick_from'] at N'
  exact N'
theorem slice_upto_M {value slice : PySem.Expr} {l : Addr} {vs : List Value} {n : Nat} {x : Int} {tx : Tok} {Q : Value → Shared → Prop}
    (F : Fr h₀ L s.heap m) (N : News h₀ L s.heap news) (hl : (l, listOf vs.toArray n) ∈ news) (h0 : 0 ≤ x) (hsz : vs.length ≤ sizeLine)
    (h : ∀ a h', Fr h₀ L h' m → News h₀ L h' ((a, listOf (vs.take x.toNat).toArray 0) :: news) → (∀ p ∈ news, p.1 < a) → Q (.ref a) { s with heap := h' })
    (hs : subscripted slice false (.ref l) (.ref s.heap.objs.size) = operate [.ref s.heap.objs.size, .ref l] (getItem (.ref l) (.ref s.heap.objs.size)) := by with_unfolding_all rfl)
    (ht : ∀ r, letTemporaryGo value (.ref l) r = pure () := by intro _; with_unfolding_all rfl) :
    wpAny (model prog w) A (subscriptTail value slice (.ref l) (.ref s.heap.objs.size)) Q E { s with heap := s.heap.push { cls := .type "slice", data := .fields #[.none, .int x tx, .none] } } := by
  refine slice_M F N hl .none (.int x tx) (by rw [List.size_toArray]; exact hsz) (fun a h' F' N' l1 => h a h' F' ?_ l1) hs ht
  have e : x = ((x.toNat : Nat) : Int) := by omega
  rw [e, slicePick_upto'] at N'
  exact N'
theorem add_M {l b : Addr} {vs ws : List Value} {n n2 : Nat} {Q : Value → Shared → Prop} (F : Fr h₀ L s.heap m) (N : News h₀ L s.heap news) (hl : (l, listOf vs.toArray n) ∈ news) (hb : (b, listOf ws.toArray n2) ∈ news)
    (hsz : vs.length + ws.length ≤ sizeLine)
    (h : ∀ a h', Fr h₀ L h' m → News h₀ L h' ((a, listOf (vs ++ ws).toArray 0) :: news) → (∀ p ∈ news, p.1 < a) → Q (.ref a) { s with heap := h' }) :
    wpAny (model prog w) A (binaryOp .Add (.ref l) (.ref b)) Q E s :=
  add_lists F N (isList_M N hl) (isList_M N hb) (fun h' F' N' => h _ h' F' N' (lt_new N)) hsz
theorem rep_one (v : Value) : ∀ n : Nat, List.foldl (fun x1 x2 => x1 ++ x2) (#[] : Array Value) (List.replicate n #[v]) = (List.replicate n v).toArray := by
  have key : ∀ (n : Nat) (a : Array Value), List.foldl (fun x1 x2 => x1 ++ x2) a (List.replicate n #[v]) = a ++ (List.replicate n v).toArray := by
    intro n
    induction n with
    | zero => intro a; simp
    | succ n ih =>
      intro a
      rw [List.replicate_succ, List.foldl_cons, ih, List.replicate_succ]
      apply Array.ext'
      simp
  intro n
  rw [key]; simp
theorem mul_M {l : Addr} {v : Value} {n : Nat} {x : Int} {u : Tok} {Q : Value → Shared → Prop} (F : Fr h₀ L s.heap m) (N : News h₀ L s.heap news) (hl : (l, listOf #[v] n) ∈ news) (h0 : 0 ≤ x) (hsz : x ≤ 2 ^ 24)
    (h : ∀ a h', Fr h₀ L h' m → News h₀ L h' ((a, listOf (List.replicate x.toNat v).toArray 0) :: news) → (∀ p ∈ news, p.1 < a) → Q (.ref a) { s with heap := h' }) :
    wpAny (model prog w) A (binaryOp .Mult (.ref l) (.int x u)) Q E s :=
  mul_list F N (N _ hl).1 (by omega) (by omega) (by simp; omega) fun h' F' N' => h _ h' F' (by
    have e : (if (#[v] : Array Value).isEmpty = true then 0 else x.toNat) = x.toNat := by simp
    rw [e, rep_one] at N'; exact N') (lt_new N)
theorem newList_M {vs : List Value} {Q : Value → Shared → Prop} (F : Fr h₀ L s.heap m) (N : News h₀ L s.heap news) (hsz : vs.length ≤ sizeLine)
    (h : ∀ a h', Fr h₀ L h' m → News h₀ L h' ((a, listOf vs.toArray 0) :: news) → (∀ p ∈ news, p.1 < a) → Q (.ref a) { s with heap := h' }) : wpAny (model prog w) A (newList vs) Q E s :=
  newList_N F N (fun h' F' N' => h _ h' F' N' (lt_new N)) hsz
abbrev tupOf (vs : List Value) : Obj := { cls := .type "tuple", data := .seq vs.toArray }
theorem newTuple_M {vs : List Value} {Q : Value → Shared → Prop} (F : Fr h₀ L s.heap m) (N : News h₀ L s.heap news) (hsz : vs.length ≤ sizeLine)
    (h : ∀ a h', Fr h₀ L h' m → News h₀ L h' ((a, tupOf vs) :: news) → (∀ p ∈ news, p.1 < a) → Q (.ref a) { s with heap := h' }) : wpAny (model prog w) A (newTuple vs) Q E s :=
  newTuple_N F N (fun h' F' N' => h _ h' F' N' (lt_new N)) hsz
theorem ints_size {vs : List Value} {ns : List Int} (h : IntsAre vs ns) : vs.length = ns.length := h.length
theorem News.sub {h : Heap} {l l' : List (Addr × Obj)} (N : News h₀ L h l) (hs : ∀ p ∈ l', p ∈ l) : News h₀ L h l' := fun p hp => N p (hs p hp)
theorem all_nil {P : Addr × Obj → Prop} : ∀ p ∈ ([] : List (Addr × Obj)), P p := fun _ hp => nomatch hp
theorem all_cons {P : Addr × Obj → Prop} {q : Addr × Obj} {l : List (Addr × Obj)} (a : P q) (b : ∀ p ∈ l, P p) : ∀ p ∈ q :: l, P p := List.forall_mem_cons.mpr ⟨a, b⟩
end
theorem ite_no {c : Prop} [Decidable c] {A B : Prop} (h : ¬ c) (b : B) : if c then A else B := by rw [if_neg h]; exact b
theorem ite_yes {c : Prop} [Decidable c] {A B : Prop} (h : c) (a : A) : if c then A else B := by rw [if_pos h]; exact a
theorem whl_no {T F : Prop} (h : WhlIf false T F) : F := by
  unfold WhlIf at h
  rw [if_neg Bool.false_ne_true] at h
  exact h
theorem whl_yes {T F : Prop} (h : WhlIf true T F) : T := by
  unfold WhlIf at h
  rw [if_pos rfl] at h
  exact h
section
open LCg LCt
variable {prog : Program} {w : World} {A : Around} {E : Value → Shared → Prop} {s : Shared} {h₀ : Heap} {L : Addr} {m : Str → Option Value} {env : Env}
/-- a comprehension by what holds after each item -/
theorem comp_rest {elt : PySem.Expr} {x : Str} {scope : Scope} {cl : List (Str × Addr)} {S : List (Addr × Obj) → Prop} {P : Nat → Value → Prop} {Fin : List Value → List (Addr × Obj) → Prop} {n : Nat} {news : List (Addr × Obj)}
    (J : Nat → List Value → List (Addr × Obj) → Prop) (h0 : J 0 [] news)
    (turn : ∀ i v ys nx I oI C oC D m₂ h tk (E' : Value → Shared → Prop), i < n → P i v → J i ys nx → NsObj oC m₂ → m₂ x = some v → Fr h₀ L h m → News h₀ L h ((I, oI) :: (C, oC) :: (D, lst ys) :: nx) → Off3 I C D nx → ((@Ne Nat I C) ∧ (@Ne Nat I D) ∧ (@Ne Nat C D)) →
      wpAny (model prog w) A (eval elt (compEnvC scope cl C env)) (CompEnd h₀ L m { s with heap := h, toks := tk } I oI C oC D (lst ys) S (fun y news' => J (i + 1) (ys ++ [y]) news')) E' { s with heap := h, toks := tk })
    (fin : ∀ ys nx, J n ys nx → Fin ys nx) : CompRest prog w A h₀ L m env elt x scope cl s S P Fin n 0 [] news := by
  have key : ∀ (k i : Nat) (ys : List Value) (nx : List (Addr × Obj)), i + k = n → J i ys nx → CompRest prog w A h₀ L m env elt x scope cl s S P Fin k i ys nx := by
    intro k
    induction k with
    | zero => intro i ys nx hi hJ; exact CompRest.zero (fin ys nx (by rw [← hi]; exact hJ))
    | succ k ih =>
      intro i ys nx hi hJ
      refine CompRest.succ fun v I oI C oC D m₂ h tk E' hP hC hx F N off ne => wpAny_mono (turn i v ys nx I oI C oC D m₂ h tk E' (by omega) hP hJ hC hx F N off ne) (fun y s₂ hq => ?_) fun _ _ e => e
      obtain ⟨h', tk', nw, e, F', N', off', hS, hJ'⟩ := hq
      exact ⟨h', tk', nw, e, F', N', off', hS, ih (i + 1) _ nw (by omega) hJ'⟩
  exact key n 0 [] news (by omega) h0
theorem comp_restT {ct elt : PySem.Expr} {x : Str} {scope : Scope} {cl : List (Str × Addr)} {S : List (Addr × Obj) → Prop} {P : Nat → Value → Prop} {Fin : List Value → List (Addr × Obj) → Prop} {n : Nat} {news : List (Addr × Obj)}
    (J : Nat → List Value → List (Addr × Obj) → Prop) (h0 : J 0 [] news)
    (turn : ∀ i v ys nx I oI C oC D m₂ h tk (E' : Value → Shared → Prop), i < n → P i v → J i ys nx → NsObj oC m₂ → m₂ x = some v → Fr h₀ L h m → News h₀ L h ((I, oI) :: (C, oC) :: (D, lst ys) :: nx) → Off3 I C D nx → ((@Ne Nat I C) ∧ (@Ne Nat I D) ∧ (@Ne Nat C D)) →
      wpAny (model prog w) A (PySem.isTrue ct (compEnvC scope cl C env) (eval ct (compEnvC scope cl C env))) (fun ok s' => WhlIf ok
        (wpAny (model prog w) A (eval elt (compEnvC scope cl C env)) (CompEnd h₀ L m { s with heap := h, toks := tk } I oI C oC D (lst ys) S (fun y news' => J (i + 1) (ys ++ [y]) news')) E' s')
        (CompEnd h₀ L m { s with heap := h, toks := tk } I oI C oC D (lst ys) S (fun _ news' => J (i + 1) ys news') Value.none s')) E' { s with heap := h, toks := tk })
    (fin : ∀ ys nx, J n ys nx → Fin ys nx) : CompRestT prog w A h₀ L m env ct elt x scope cl s S P Fin n 0 [] news := by
  have key : ∀ (k i : Nat) (ys : List Value) (nx : List (Addr × Obj)), i + k = n → J i ys nx → CompRestT prog w A h₀ L m env ct elt x scope cl s S P Fin k i ys nx := by
    intro k
    induction k with
    | zero => intro i ys nx hi hJ; exact CompRestT.zero (fin ys nx (by rw [← hi]; exact hJ))
    | succ k ih =>
      intro i ys nx hi hJ
      refine CompRestT.succ fun v I oI C oC D m₂ h tk E' hP hC hx F N off ne => wpAny_mono (turn i v ys nx I oI C oC D m₂ h tk E' (by omega) hP hJ hC hx F N off ne) (fun ok s₂ hq => ?_) fun _ _ e => e
      cases ok with
      | true =>
        rw [if_pos rfl]
        refine wpAny_mono (whl_yes hq) (fun y s₃ hq => ?_) fun _ _ e => e
        obtain ⟨h', tk', nw, e, F', N', off', hS, hJ'⟩ := hq
        exact ⟨h', tk', nw, e, F', N', off', hS, ih (i + 1) _ nw (by omega) hJ'⟩
      | false =>
        rw [if_neg Bool.false_ne_true]
        obtain ⟨h', tk', nw, e, F', N', off', hS, hJ'⟩ := whl_no hq
        exact ⟨h', tk', nw, e, F', N', off', hS, ih (i + 1) _ nw (by omega) hJ'⟩
  exact key n 0 [] news (by omega) h0

open LCp in
theorem comp_restP {elt : PySem.Expr} {x x₂ : Str} {scope : Scope} {cl : List (Str × Addr)} {S : List (Addr × Obj) → Prop} {P : Nat → Value → Prop} {Fin : List Value → List (Addr × Obj) → Prop} {n : Nat} {news : List (Addr × Obj)}
    (J : Nat → List Value → List (Addr × Obj) → Prop) (h0 : J 0 [] news)
    (turn : ∀ i v ys nx, i < n → P i v → J i ys nx → ∃ (t : Addr) (ot : Obj) (v₁ v₂ : Value) (nt : Nat), v = .ref t ∧ (t, ot) ∈ nx ∧ ot.cls = .type "tuple" ∧ ot.data = .seq #[v₁, v₂] nt ∧
      ∀ I oI C oC D m₂ h tk (E' : Value → Shared → Prop), NsObj oC m₂ → m₂ x = some v₁ → m₂ x₂ = some v₂ → Fr h₀ L h m → News h₀ L h ((I, oI) :: (C, oC) :: (D, lst ys) :: nx) → Off3 I C D nx → ((@Ne Nat I C) ∧ (@Ne Nat I D) ∧ (@Ne Nat C D)) →
      wpAny (model prog w) A (eval elt (compEnvC scope cl C env)) (CompEnd h₀ L m { s with heap := h, toks := tk } I oI C oC D (lst ys) S (fun y news' => J (i + 1) (ys ++ [y]) news')) E' { s with heap := h, toks := tk })
    (fin : ∀ ys nx, J n ys nx → Fin ys nx) : CompRestP prog w A h₀ L m env elt x x₂ scope cl s S P Fin n 0 [] news := by
  have key : ∀ (k i : Nat) (ys : List Value) (nx : List (Addr × Obj)), i + k = n → J i ys nx → CompRestP prog w A h₀ L m env elt x x₂ scope cl s S P Fin k i ys nx := by
    intro k
    induction k with
    | zero => intro i ys nx hi hJ; exact CompRestP.zero (fin ys nx (by rw [← hi]; exact hJ))
    | succ k ih =>
      intro i ys nx hi hJ
      refine CompRestP.succ fun v hP => ?_
      obtain ⟨t, ot, v₁, v₂, nt, e, hm, hc, hd, go⟩ := turn i v ys nx (by omega) hP hJ
      refine ⟨t, ot, v₁, v₂, nt, e, hm, hc, hd, fun I oI C oC D m₂ h tk E' hC hx hx2 F N off ne => wpAny_mono (go I oI C oC D m₂ h tk E' hC hx hx2 F N off ne) (fun y s₂ hq => ?_) fun _ _ e => e⟩
      obtain ⟨h', tk', nw, e, F', N', off', hS, hJ'⟩ := hq
      exact ⟨h', tk', nw, e, F', N', off', hS, ih (i + 1) _ nw (by omega) hJ'⟩
  exact key n 0 [] news (by omega) h0
/-- the source of a comprehension: any walk -/
def SrcW (prog : Program) (w : World) (A : Around) (h₀ : Heap) (L : Addr) (m : Str → Option Value) (env : Env) (elt : PySem.Expr) (x : Str) (scope : Scope) (cl : List (Str × Addr)) (Fin : Shared → List Value → List (Addr × Obj) → Prop) (it : Value) (s₂ : Shared) : Prop :=
  ∃ I fp n P St S news, it = .ref I ∧ Walks prog w A I fp [I] n P St ∧ n ≤ sizeLine ∧ (∀ i h, St i h → ∃ o, h.get? I = some o) ∧
    (∀ i h h' o nw, St i h → h.get? I = some o → h'.get? I = some o → (∀ b o, h₀.get? b = some o → h'.get? b = some o) → News h₀ L h' nw → S nw → St i h') ∧ St 0 s₂.heap ∧ (∀ b ∈ fp, b < s₂.heap.objs.size) ∧
    Fr h₀ L s₂.heap m ∧ News h₀ L s₂.heap news ∧ L ≠ I ∧ h₀.get? I = none ∧ (∀ p ∈ news, p.1 ≠ I) ∧ S news ∧ CompRest prog w A h₀ L m env elt x scope cl s₂ S P (Fin s₂) n 0 [] news
theorem assign_comp_W {elt iter : PySem.Expr} {x y : Str} {px py : Pos} {scope : Scope} {cl : List (Str × Addr)} {pos spos : Pos} {Q : Flow → Shared → Prop} (F₀ : Fr h₀ env.locals s.heap m)
    (hsw : swapsWith (.ListComp elt [⟨.Name x px, iter, [], 0⟩] scope pos) (some (.Name y py)) spos.line env = pure true)
    (hclos : closureFor scope env = pure cl) (hcell : ∀ z ∈ scope.names, z.2 ≠ .cell) (hkind : scope.kind = .function)
    (hnames : ∀ z ∈ scope.names, z.2 = .local → scope.names.lookup z.1 = some .local) (hx : scope.names.lookup x = some .local)
    (hy : env.kindOf y = some .local) (hp : (env.scope.kind == .class || (env.scope.kind == .module && env.locals != env.globals)) = false)
    (h : wpAny (model prog w) A (eval iter env) (fun xv s₁ => wpAny (model prog w) A (pyIter xv) (SrcW prog w A h₀ env.locals m env elt x scope cl (fun s₂ => FinA h₀ env.locals m s₂ y Q)) E s₁) E s)
    (hs : ∀ x, foldedSetIterable iter env x = pure x := by intro _; rfl) :
    wpAny (model prog w) A (exec (.Assign [.Name y py] (.ListComp elt [⟨.Name x px, iter, [], 0⟩] scope pos) spos) env) Q E s := by
  rw [exec_Assign_Name_used _ _ _ _ hsw]
  refine wpAny_bind (wpAny_standAt (wpAny_bind ?_))
  show wpAny _ A (do let _ ← comprehension (.ListComp elt [⟨.Name x px, iter, [], 0⟩] scope pos) scope env _ (newList []) false (eval iter env) (some (assign (.Name y py) env))) _ _ s
  refine wpAny_bind (wpAny_mono (wpAny_comprehension_free (use := some (assign (.Name y py) env)) (Q := fun _ s' => Q .next s') rfl hs hclos hkind hnames
    (wpAny_mono h (fun xv s₁ h₁ => wpAny_mono h₁ (fun it s₂ h₂ => ?_) fun _ _ e => e) fun _ _ e => e)) (fun _ s' hq => wpAny_pure (wpAny_pure hq)) fun _ _ e => e)
  obtain ⟨I, fp, n, P, St, S, news, rfl, W, hsz, hIo, hSt, hst, hfp, F, N, hIL, hI₀, off, hS, R⟩ := h₂
  refine block_U W hsz hIo hSt hcell hkind hx hst hfp F N hIL hI₀ off hS R ?_
  intro D C h' tk m' ys news' F' N' o1 hn hC₀ hD₀ hCL hDL hCD offC fin
  show wpAny _ A (assign (.Name y py) env (.ref D)) _ _ _
  refine wpAny_assign_Name (wpAny_storeName_local hy F'.ns (fun h₂ hn₂ hs₂ => ?_) hp)
  have hL₀ : h₀.get? env.locals = none := Heap.get?_none_of_le F'.above
  have F₂ : Fr h₀ env.locals h₂ (fun z => if z = y then some (.ref D) else m z) := ⟨hn₂, fun b o e => hs₂.extBut b o (fun q => by rw [q, hL₀] at e; cases e) (F'.keep b o e), F'.above⟩
  refine ⟨m', hn.sameBut hs₂ hCL, fun h'' hs'' => fin D h'' _ (F₂.change hs'' hCL hC₀) (fun p hp => ?_) o1⟩
  have z : h₂.get? p.1 = some p.2 := hs₂.extBut _ _ (N' p hp).2.1 (N' p hp).1
  refine ⟨hs''.extBut _ _ ?_ z, (N' p hp).2⟩
  rcases List.mem_cons.mp hp with rfl | hp
  · exact Ne.symm hCD
  · exact offC p hp
theorem src_range {elt : PySem.Expr} {x : Str} {scope : Scope} {cl : List (Str × Addr)} {Fin : Shared → List Value → List (Addr × Obj) → Prop} {r : Addr} {a b c : Int} {t u v : Tok} {n : Nat} {news : List (Addr × Obj)}
    (hh : A.handled = none) (F : Fr h₀ L s.heap m) (N : News h₀ L s.heap news) (hr : IsRange s.heap r a b c t u v) (hsm : Builtin.Range.small a b c = true) (hn : Builtin.Range.rangeSize a b c = ((n : Nat) : Int)) (hsz : n ≤ sizeLine)
    (h : ∀ g, CompRest prog w A h₀ L m env elt x scope cl { s with heap := g } (fun _ => True) (fun i v => i < n ∧ ∃ t, v = .int (a + (i : Int) * c) t) (Fin { s with heap := g }) n 0 [] news) :
    wpAny (model prog w) A (pyIter (.ref r)) (SrcW prog w A h₀ L m env elt x scope cl Fin) E s := by
  refine wpAny_pyIter_range hr hsm ?_
  have W : Walks prog w A s.heap.objs.size [s.heap.objs.size] [s.heap.objs.size] n (fun i v => i < n ∧ ∃ t, v = .int (a + i * c) t)
      (fun i h => IsRangeIter h s.heap.objs.size (a + (i : Nat) * c) ((n : Int) - (i : Nat)) c) := (Walks.range hh _ a c n).bound
  refine ⟨_, _, n, _, _, fun _ => True, news, rfl, W, hsz, fun i h st => ⟨_, st⟩, fun i h h' o nw st e e' _ _ _ => ?_, (by show IsRangeIter _ _ _ _ _; rw [hn]; simpa using Heap.get?_push_size _ rfl), fun b hb => ?_, F.push _, (fun p hp => ⟨Heap.get?_push_of_some _ (N p hp).1, (N p hp).2⟩), Nat.ne_of_lt F.ns.lt, next_is_new F, (fun p hp => Nat.ne_of_lt (Heap.lt_size (N p hp).1)), trivial, h _⟩
  · have st' : h.get? s.heap.objs.size = some _ := st
    show h'.get? s.heap.objs.size = some _
    rw [e', ← e]; exact st'
  · rw [List.mem_singleton.mp hb]
    show s.heap.objs.size < (s.heap.push _).objs.size
    rw [Heap.size_push]; exact Nat.lt_succ_self _
end
end Mine
set_option maxHeartbeats 400000
namespace Mine
def KRun {α : Type} (lt : Nat → Nat → Bool) : KasT α → α
  | .ret a => a
  | .ask i j k => KRun lt (k (lt i j))
def KAll {α : Type} (N : Nat) (P : α → Prop) : KasT α → Prop
  | .ret a => P a
  | .ask i j k => i < N ∧ j < N ∧ ∀ b, KAll N P (k b)
theorem kall_bind {α β : Type} {N : Nat} {P : α → Prop} {R : β → Prop} {f : α → KasT β} (hf : ∀ a, P a → KAll N R (f a)) : ∀ t : KasT α, KAll N P t → KAll N R (t.bind f)
  | .ret a, h => hf a h
  | .ask _ _ k, h => ⟨h.1, h.2.1, fun b => kall_bind hf (k b) (h.2.2 b)⟩
theorem kall_run {α : Type} {N : Nat} {P : α → Prop} (lt : Nat → Nat → Bool) : ∀ t : KasT α, KAll N P t → P (KRun lt t)
  | .ret _, h => h
  | .ask i j k, h => kall_run lt (k (lt i j)) (h.2.2 _)
def PermR (N : Nat) (p : Array Nat) : Prop := p.Perm (List.range N).toArray
theorem permR_lt {N : Nat} {p : Array Nat} (h : PermR N p) (h0 : 0 < N) (i : Nat) : p.getD i 0 < N := by
  by_cases hi : i < p.size
  · have hm : p[i] ∈ p := Array.getElem_mem hi
    have hp : p[i] ∈ (List.range N).toArray := h.mem_iff.mp hm
    have : p[i] < N := by simpa using hp
    have e : p.getD i 0 = p[i] := by simp [Array.getD, hi]
    rw [e]; exact this
  · have e : p.getD i 0 = 0 := by simp [Array.getD, hi]
    rw [e]; exact h0
theorem permR_rev {N : Nat} {p : Array Nat} (h : PermR N p) (i j : Nat) : PermR N (kas_rev p i j) := (mirror_perm p i j _).trans h
theorem permR_bubble {N : Nat} {p : Array Nat} (h : PermR N p) (i j : Nat) : PermR N (bubble p i j) := (bubble_perm p i j).trans h
theorem kall_ite {α : Type} {N : Nat} {P : α → Prop} {c : Prop} [Decidable c] {a b : KasT α} (ha : KAll N P a) (hb : KAll N P b) : KAll N P (if c then a else b) := by
  by_cases h : c
  · rw [if_pos h]; exact ha
  · rw [if_neg h]; exact hb
section
variable {N : Nat} (h0 : 0 < N)
include h0
theorem all_asc {p : Array Nat} (h : PermR N p) : ∀ f n, KAll N (fun _ => True) (kas_asc p f n)
  | 0, _ => trivial
  | f + 1, n => ⟨permR_lt h h0 _, permR_lt h h0 _, fun b => kall_ite trivial (all_asc h f _)⟩
theorem all_desc : ∀ f (p : Array Nat) n q, PermR N p → KAll N (fun r => PermR N r.1) (kas_desc f p n q)
  | 0, _, _, _, h => h
  | f + 1, p, n, q, h => ⟨permR_lt h h0 _, permR_lt h h0 _, fun b => kall_ite (kall_ite (all_desc f _ _ _ (permR_rev h _ _)) (all_desc f _ _ _ h))
      ⟨permR_lt h h0 _, permR_lt h h0 _, fun d => kall_ite h (all_desc f _ _ _ h)⟩⟩
theorem all_tail3 {p : Array Nat} (h : PermR N p) (n nrem : Nat) : KAll N (fun r => PermR N r.2) (kas_tail3 n nrem p) := by
  refine kall_bind (P := fun _ => True) (fun a _ => ?_) _ (all_asc h0 (permR_rev h _ _) _ _)
  exact permR_rev h _ _
theorem all_descPart {p : Array Nat} (h : PermR N p) (n nrem : Nat) : KAll N (fun r => PermR N r.2) (kas_descPart n nrem p) :=
  kall_bind (fun r hr => kall_ite (all_tail3 h0 (permR_rev hr _ _) _ _) (all_tail3 h0 hr _ _)) _ (all_desc h0 _ _ _ _ h)
theorem all_count {p : Array Nat} (h : PermR N p) (nrem : Nat) : KAll N (fun r => PermR N r.2) (kas_count nrem p) := by
  refine kall_bind (P := fun _ => True) (fun n _ => ?_) _ (all_asc h0 h _ _)
  refine kall_ite ?_ (kall_ite ⟨permR_lt h h0 _, permR_lt h h0 _, fun _ => kall_ite ?_ (all_descPart h0 (permR_rev h _ _) _ _)⟩ (all_descPart h0 h _ _))
  · exact h
  · exact h
theorem all_place {p : Array Nat} (h : PermR N p) (k : Nat) : ∀ f l r, KAll N (fun _ => True) (kas_place p k f l r)
  | 0, _, _ => trivial
  | f + 1, l, r => kall_ite trivial ⟨permR_lt h h0 _, permR_lt h h0 _, fun _ => kall_ite (all_place h k f _ _) (all_place h k f _ _)⟩
theorem all_bin : ∀ f (p : Array Nat) k, PermR N p → KAll N (PermR N) (kas_bin f p k)
  | 0, _, _, h => h
  | f + 1, _, _, h => kall_bind (fun _ _ => all_bin f _ _ (permR_bubble h _ _)) _ (all_place h0 h _ _ _ _)
theorem all_sort : KAll N (PermR N) (kas_sort N) := by
  refine kall_bind (P := fun r => PermR N r.2) (fun r hr => ?_) _ (all_count h0 (Array.Perm.refl _) _)
  refine kall_ite (all_bin h0 _ _ _ hr) ?_
  exact hr
end
theorem kas_run_of {α : Type} {cmp : Nat → Nat → (Bool → Shared → Prop) → Shared → Prop} {lt : Nat → Nat → Bool} {N : Nat} {s : Shared} (hc : ∀ i j (C : Bool → Shared → Prop), i < N → j < N → C (lt i j) s → cmp i j C s) {P : α → Prop} {Q : α → Shared → Prop} :
    ∀ t : KasT α, KAll N P t → Q (KRun lt t) s → t.kasWp cmp Q s
  | .ret _, _, h => h
  | .ask i j k, ha, h => hc i j _ ha.1 ha.2.1 (kas_run_of hc (k (lt i j)) (ha.2.2 _) h)

def lexLt (p q : Int × Int) : Bool := if p.1 == q.1 then decide (p.2 < q.2) else decide (p.1 < q.1)
def srtP (l : List (Int × Int)) : Array Nat := KRun (fun i j => lexLt (l.getD i (0, 0)) (l.getD j (0, 0))) (kas_sort l.length)
def srt (l : List (Int × Int)) : List (Int × Int) := (srtP l).toList.map fun i => l.getD i (0, 0)
theorem srtP_lt {l : List (Int × Int)} (h : 0 < l.length) : ∀ i ∈ (srtP l).toList, i < l.length := by
  have := kall_run (fun i j => lexLt (l.getD i (0, 0)) (l.getD j (0, 0))) _ (all_sort h)
  intro i hi
  have hm : i ∈ srtP l := by simpa using hi
  have := this.mem_iff.mp hm
  simpa using this
theorem srt_length {l : List (Int × Int)} (h : 0 < l.length) : (srt l).length = l.length := by
  have := kall_run (fun i j => lexLt (l.getD i (0, 0)) (l.getD j (0, 0))) _ (all_sort h)
  have e := Array.Perm.size_eq this
  simp only [srt, List.length_map, Array.length_toList]
  simpa [srtP] using e
abbrev tup2 (x y : Int) (t u : Tok) : Obj := tupOf [.int x t, .int y u]
inductive PairsIn (T : List (Addr × Obj)) : List Value → List (Int × Int) → Prop
  | nil : PairsIn T [] []
  | cons {a : Addr} {x y : Int} {t u : Tok} {vs : List Value} {ps : List (Int × Int)} (hm : (a, tup2 x y t u) ∈ T) (r : PairsIn T vs ps) : PairsIn T (.ref a :: vs) ((x, y) :: ps)
theorem PairsIn.mono {T T' : List (Addr × Obj)} {vs : List Value} {ps : List (Int × Int)} (h : PairsIn T vs ps) (hs : ∀ p ∈ T, p ∈ T') : PairsIn T' vs ps := by
  induction h with
  | nil => exact .nil
  | cons hm _ ih => exact .cons (hs _ hm) ih
theorem PairsIn.length {T : List (Addr × Obj)} {vs : List Value} {ps : List (Int × Int)} (h : PairsIn T vs ps) : vs.length = ps.length := by
  induction h with
  | nil => rfl
  | cons _ _ ih => simp [ih]
theorem PairsIn.append {T : List (Addr × Obj)} {vs ws : List Value} {ps qs : List (Int × Int)} (h : PairsIn T vs ps) (h' : PairsIn T ws qs) : PairsIn T (vs ++ ws) (ps ++ qs) := by
  induction h with
  | nil => exact h'
  | cons hm _ ih => exact .cons hm ih
theorem PairsIn.snoc {T : List (Addr × Obj)} {vs : List Value} {ps : List (Int × Int)} (h : PairsIn T vs ps) {a : Addr} {x y : Int} {t u : Tok} (hm : (a, tup2 x y t u) ∈ T) : PairsIn T (vs ++ [.ref a]) (ps ++ [(x, y)]) := h.append (.cons hm .nil)
theorem PairsIn.get {T : List (Addr × Obj)} {vs : List Value} {ps : List (Int × Int)} (h : PairsIn T vs ps) : ∀ i : Nat, i < ps.length → ∃ a t u, vs.getD i Value.none = .ref a ∧ vs[i]? = some (.ref a) ∧ (a, tup2 (ps.getD i (0, 0)).1 (ps.getD i (0, 0)).2 t u) ∈ T := by
  induction h with
  | nil => intro i hi; exact absurd hi (Nat.not_lt_zero _)
  | cons hm _ ih =>
    intro i hi
    cases i with
    | zero => exact ⟨_, _, _, rfl, rfl, hm⟩
    | succ i =>
      obtain ⟨a, t, u, e, e', h⟩ := ih i (by simpa using hi)
      exact ⟨a, t, u, by simpa using e, by simpa using e', by simpa using h⟩
theorem PairsIn.pick {T : List (Addr × Obj)} {vs : List Value} {ps : List (Int × Int)} (h : PairsIn T vs ps) : ∀ is : List Nat, (∀ i ∈ is, i < ps.length) → PairsIn T (is.map fun i => vs.getD i Value.none) (is.map fun i => ps.getD i (0, 0))
  | [], _ => .nil
  | i :: is, hi => by
    obtain ⟨a, t, u, e, _, hm⟩ := h.get i (hi i (.head _))
    rw [List.map_cons, List.map_cons, e]
    exact .cons hm (h.pick is fun j hj => hi j (.tail _ hj))
theorem PairsIn.take {T : List (Addr × Obj)} {vs : List Value} {ps : List (Int × Int)} (h : PairsIn T vs ps) : ∀ n : Nat, PairsIn T (vs.take n) (ps.take n) := by
  induction h with
  | nil => intro n; simp; exact .nil
  | cons hm _ ih =>
    intro n
    cases n with
    | zero => exact .nil
    | succ n => exact .cons hm (ih n)
theorem PairsIn.drop {T : List (Addr × Obj)} {vs : List Value} {ps : List (Int × Int)} (h : PairsIn T vs ps) : ∀ n : Nat, PairsIn T (vs.drop n) (ps.drop n) := by
  induction h with
  | nil => intro n; simp; exact .nil
  | cons hm r ih =>
    intro n
    cases n with
    | zero => exact .cons hm r
    | succ n => exact ih n
section
variable {prog : Program} {w : World} {A : Around} {E : Value → Shared → Prop} {s : Shared} {h₀ : Heap} {L : Addr} {m : Str → Option Value} {news : List (Addr × Obj)}
theorem katTups_of {T : List (Addr × Obj)} {vs : List Value} {ps : List (Int × Int)} (h : PairsIn T vs ps) {g : Heap} (hT : ∀ p ∈ T, g.get? p.1 = some p.2) : ∃ fs : List Value, KatTups g vs fs ∧ fs.length = ps.length ∧ ∀ v ∈ fs, ∃ x t, v = Value.int x t := by
  induction h with
  | nil => exact ⟨[], .nil, rfl, fun _ hv => nomatch hv⟩
  | cons hm _ ih =>
    obtain ⟨fs, k, e, hi⟩ := ih
    refine ⟨_ :: fs, .cons (hT _ hm) rfl rfl rfl k, by simp [e], fun v hv => ?_⟩
    rcases List.mem_cons.mp hv with rfl | hv
    · exact ⟨_, _, rfl⟩
    · exact hi v hv
theorem lex_step {x y x' y' : Int} {t u t' u' : Tok} {fin : Bool} {Q : Bool → Shared → Prop} (h : Q (lexLt (x, y) (x', y')) s) (hf : x = x' → y = y' → fin = false) : KatLex prog w A true fin Q [(.int x t, .int x' t'), (.int y u, .int y' u')] 0 s := by
  refine kat_cons (wpAny_eqBool_int ?_)
  by_cases e : x = x'
  · rw [show (x == x') = true from beq_iff_eq.mpr e]
    refine kat_yes (kat_cons (wpAny_eqBool_int ?_))
    simp only [lexLt, e, beq_self_eq_true, if_true] at h
    by_cases e2 : y = y'
    · rw [show (y == y') = true from beq_iff_eq.mpr e2]
      refine kat_yes (kat_nil ?_)
      rw [hf e e2]
      rw [e2] at h
      simpa using h
    · rw [show (y == y') = false from beq_eq_false_iff_ne.mpr e2]
      exact kat_no (kat_one _ _ (lt_int h))
  · rw [show (x == x') = false from beq_eq_false_iff_ne.mpr e]
    simp only [lexLt, show (x == x') = false from beq_eq_false_iff_ne.mpr e] at h
    exact kat_no (oneLt_int h)
theorem sorted_M {l : Addr} {T : List (Addr × Obj)} {vs : List Value} {ps : List (Int × Int)} {n : Nat} {Q : Value → Shared → Prop} (F : Fr h₀ L s.heap m) (N : News h₀ L s.heap news) (hl : (l, listOf vs.toArray n) ∈ news) (hp : PairsIn T vs ps) (hTn : ∀ p ∈ T, p ∈ news) (h2 : 2 ≤ ps.length) (h64 : ps.length < 64)
    (h : ∀ a vs' c h', Fr h₀ L h' m → News h₀ L h' ((a, listOf vs'.toArray c) :: news) → PairsIn T vs' (srt ps) → (∀ p ∈ news, p.1 < a) → Q (.ref a) { s with heap := h' }) :
    wpAny (model prog w) A (call (.builtin "sorted") [.ref l]) Q E s := by
  have hlen := hp.length
  refine kat_sorted F N (isList_M N hl) (by omega) (by omega) (fun D e1 h' F' N' l1 => ?_)
  have hT : ∀ p ∈ T, h'.get? p.1 = some p.2 := fun p hq => (N' p (.tail _ (hTn p hq))).1
  obtain ⟨fs, kt, kl, ki⟩ := katTups_of hp (g := h') hT
  refine kat_kind (T := .type "int") kt (by omega) (fun v hv => ?_) (by decide) ?_
  · obtain ⟨x, t, rfl⟩ := ki v hv
    exact Looks.of_pure rfl
  · have hall := all_sort (N := ps.length) (by omega)
    rw [hlen]
    refine kas_run_of (lt := fun i j => lexLt (ps.getD i (0, 0)) (ps.getD j (0, 0))) (N := ps.length) (fun i j C hi hj hC => ?_) (kas_sort ps.length) hall ?_
    · obtain ⟨a, t, u, e, _, hm⟩ := hp.get i hi
      obtain ⟨a', t', u', e', _, hm'⟩ := hp.get j hj
      unfold kas_ask
      rw [e, e']
      refine kat_lt (hT _ hm) rfl (hT _ hm') rfl (lex_step hC fun _ _ => rfl)
    · refine KasFin.intro F' N' (.head (lt_ne l1)) (fun h'' c F'' N'' => ?_)
      exact h D _ c h'' F'' N'' (hp.pick _ (srtP_lt (by omega))) l1
end
section
variable {prog : Program} {w : World} {A : Around} {E : Value → Shared → Prop} {s : Shared} {env : Env} {h₀ : Heap} {body : List Stmt} {Q : Flow → Shared → Prop}
/-- a for whose target is any: what the iterator's place leads to -/
def ForAt (prog : Program) (w : World) (A : Around) (env : Env) (tgt : PySem.Expr) (body : List Stmt) (Q : Flow → Shared → Prop) (E : Value → Shared → Prop) (it : Value) (s₂ : Shared) : Prop :=
  codeAny (model prog w) A (.forLoop tgt it body [] env) (fun r s' => match r with | .ok f => Q f s' | .error e => cameBackBy (model prog w) A env E e s') s₂
theorem For_any {tgt iter : PySem.Expr} {pos : Pos} (h : wpAny (model prog w) A (eval iter env) (fun xv s₁ => wpAny (model prog w) A (pyIter xv) (ForAt prog w A env tgt body Q E) E s₁) E s)
    (hs : ∀ x, foldedSetIterable iter env x = pure x := by intro _; rfl) : wpAny (model prog w) A (exec (.For tgt iter body [] pos) env) Q E s :=
  wpAny_For h hs
theorem loop_any {tgt : PySem.Expr} {I : Addr} {fp : List Addr} {n : Nat} {P : Nat → Value → Prop} {St : Nat → Heap → Prop} {m₀ : Str → Option Value} {news : List (Addr × Obj)} (J : Nat → (Str → Option Value) → List (Addr × Obj) → Prop)
    (W : Walks prog w A I fp [I] n P St) (hI0 : h₀.get? I = none) (hLI : env.locals ≠ I) (hob : ∀ i h, St i h → ∃ o, h.get? I = some o) (hnw : ∀ p ∈ news, p.1 ≠ I)
    (kp : List (Addr × Obj)) (hfp : ∀ b ∈ fp, b ≠ I → ∃ o, (b, o) ∈ kp) (hkeep : ∀ i m nx, J i m nx → ∀ p ∈ kp, p ∈ nx)
    (hst : St 0 s.heap) (F : Fr h₀ env.locals s.heap m₀) (N : News h₀ env.locals s.heap news) (hj : J 0 m₀ news) (hE : PassesOwn (model prog w) A env E)
    (turn : ∀ i v m nx h tk oI, i < n → P i v → J i m nx → (∀ p ∈ nx, p.1 ≠ I) → Fr h₀ env.locals h m → News h₀ env.locals h ((I, oI) :: nx) →
      wpAny (model prog w) A (assign tgt env v) (fun _ s₂ => wpAny (model prog w) A (execs body env) (TurnPost h₀ env.locals I oI (J (i + 1)) { s with heap := h, toks := tk } Q) E s₂) E { s with heap := h, toks := tk })
    (done : ∀ m nx h tk, J n m nx → Fr h₀ env.locals h m → News h₀ env.locals h nx → Q .next { s with heap := h, toks := tk })
    (hgo : ∀ i v (s' : Shared) (Q' : Unit → Shared → Prop) (E' : Value → Shared → Prop), St (i + 1) s'.heap → P i v → Q' () s' → wpAny (model prog w) A (letOwnedTupleGo tgt (.ref I) v) Q' E' s') :
    ForAt prog w A env tgt body Q E (.ref I) s := by
  refine codeAny_forLoop_any (fun k s' => ∃ h' tk m' nx i, s' = { s with heap := h', toks := tk } ∧ St i h' ∧ Fr h₀ env.locals h' m' ∧ News h₀ env.locals h' nx ∧ (∀ p ∈ nx, p.1 ≠ I) ∧ J i m' nx ∧ i ≤ n ∧ k = n + 1 - i) ?_ (n + 1)
    ⟨s.heap, s.toks, m₀, news, 0, rfl, hst, F, N, hnw, hj, Nat.zero_le _, rfl⟩
  rintro k s' ⟨h', tk, m', nx, i, rfl, hst', F', N', hoff, hJ, hi, rfl⟩
  by_cases hlt : i < n
  · refine W.item i _ _ _ hlt hst' fun v h₁ tk₁ hP hst₁ hk₁ => ?_
    have F₁ := LCg.fr_but F' hk₁ hLI hI0
    have N₁ := LCg.news_but N' hk₁ hoff
    obtain ⟨oI, hoI⟩ := hob _ _ hst₁
    have N₂ : News h₀ env.locals h₁ ((I, oI) :: nx) := fun p hp => (List.mem_cons.mp hp).elim (fun e => e ▸ ⟨hoI, fun e => hLI e.symm, hI0⟩) fun q => N₁ p q
    refine hgo i v _ _ _ hst₁ hP ?_
    refine wpAny_passesOwn hE (wpAny_mono (turn i v m' nx h₁ tk₁ oI hlt hP hJ hoff F₁ N₂) (fun _ s₂ p => wpAny_passesOwn hE (wpAny_mono p (fun f s₃ q => ?_) fun _ _ e => e)) fun _ _ e => e)
    have fin : TurnEnd h₀ env.locals I oI (J (i + 1)) { s with heap := h₁, toks := tk₁ } s₃ → ∃ k, k < n + 1 - i ∧ ∃ h' tk m' nx i, s₃ = { s with heap := h', toks := tk } ∧ St i h' ∧ Fr h₀ env.locals h' m' ∧ News h₀ env.locals h' nx ∧ (∀ p ∈ nx, p.1 ≠ I) ∧ J i m' nx ∧ i ≤ n ∧ k = n + 1 - i := by
      rintro ⟨h₃, tk₃, m₃, nx₃, rfl, F₃, N₃, off₃, hJ₃⟩
      refine ⟨n + 1 - (i + 1), by omega, h₃, tk₃, m₃, nx₃, i + 1, rfl, W.frame _ _ _ hst₁ fun b hb o eo => ?_, F₃, fun p hp => N₃ p (.tail _ hp), off₃, hJ₃, hlt, rfl⟩
      by_cases e1 : b = I
      · subst e1
        rw [hoI] at eo
        rw [← eo]
        exact (N₃ _ (.head _)).1
      · obtain ⟨o', ho'⟩ := hfp b hb e1
        have h4 := (N₁ _ (hkeep _ _ _ hJ _ ho')).1
        rw [eo] at h4
        rw [Option.some.inj h4]
        exact (N₃ _ (.tail _ (hkeep _ _ _ hJ₃ _ ho'))).1
    cases f with
    | ret v => exact q
    | brk => exact q
    | next => exact fin q
    | cont => exact fin q
  · have hin : i = n := by omega
    subst hin
    refine W.done _ _ _ hst' fun h₁ tk₁ hk₁ => wpAny_execs_nil ?_
    exact done m' nx h₁ tk₁ hJ (LCg.fr_but F' hk₁ hLI hI0) (LCg.news_but N' hk₁ hoff)
theorem iter_any {tgt : PySem.Expr} {l : Addr} {vs : Array Value} {nn : Nat} {m₀ : Str → Option Value} {news : List (Addr × Obj)} (J : Nat → (Str → Option Value) → List (Addr × Obj) → Prop)
    (hh : A.handled = none) (hl : (l, listOf vs nn) ∈ news) (F : Fr h₀ env.locals s.heap m₀) (N : News h₀ env.locals s.heap news) (hj : J 0 m₀ news)
    (hJl : ∀ i m nx, J i m nx → (l, listOf vs nn) ∈ nx) (hE : PassesOwn (model prog w) A env E)
    (turn : ∀ i v m nx h tk I oI, vs[i]? = some v → J i m nx → (∀ p ∈ news, p.1 < I) → (∀ p ∈ nx, p.1 ≠ I) → Fr h₀ env.locals h m → News h₀ env.locals h ((I, oI) :: nx) →
      wpAny (model prog w) A (assign tgt env v) (fun _ s₂ => wpAny (model prog w) A (execs body env) (TurnPost h₀ env.locals I oI (J (i + 1)) { s with heap := h, toks := tk } Q) E s₂) E { s with heap := h, toks := tk })
    (done : ∀ m nx h tk, J vs.size m nx → Fr h₀ env.locals h m → News h₀ env.locals h nx → Q .next { s with heap := h, toks := tk })
    (hgo : ∀ (i : Nat) (v : Value) (I : Addr) (j : Nat) (s' : Shared) (Q' : Unit → Shared → Prop) (E' : Value → Shared → Prop), s'.heap.IsListIter I l j → vs[i]? = some v → Q' () s' → wpAny (model prog w) A (letOwnedTupleGo tgt (.ref I) v) Q' E' s') :
    wpAny (model prog w) A (pyIter (.ref l)) (ForAt prog w A env tgt body Q E) E s := by
  have hol : s.heap.get? l = some (listOf vs nn) := (N _ hl).1
  have hls : s.heap.IsList l vs := ⟨_, hol, rfl, nn, rfl⟩
  have hne : l ≠ s.heap.objs.size := Nat.ne_of_lt (Heap.lt_size hol)
  refine wpAny_pyIter_list hls ?_
  have W := Walks.list (prog := prog) (w := w) hh s.heap.objs.size l hne vs
  refine loop_any J W (next_is_new F) (Nat.ne_of_lt F.ns.lt) (fun i h st => ?_) (fun p hp e => ?_) [(l, listOf vs nn)] (fun b hb hbI => ?_) (fun i m nx hJ p hp => (List.mem_singleton.mp hp) ▸ hJl i m nx hJ) ⟨⟨_, Heap.get?_push_size _ rfl, rfl, rfl⟩, hls.at fun o e => Heap.get?_push_of_some _ e⟩ (F.push _) (fun p hp => ⟨Heap.get?_push_of_some _ (N p hp).1, (N p hp).2⟩) hj hE (fun i v m nx h tk oI _ hP hJ hoff F' N' => ?_) done (fun i v s' Q' E' st hP hQ => hgo i v _ _ s' Q' E' st.1 hP hQ)
  · obtain ⟨⟨o, ho, _⟩, _⟩ := st
    exact ⟨o, ho⟩
  · exact absurd (Heap.lt_size (N p hp).1) (e ▸ Nat.lt_irrefl _)
  · rcases List.mem_cons.mp hb with e | hb
    · exact absurd e hbI
    · rw [List.mem_singleton.mp hb]; exact ⟨_, .head _⟩
  · exact turn i v m nx h tk _ oI hP hJ (fun p hp => Heap.lt_size (N p hp).1) hoff F' N'
theorem iter_rev {tgt : PySem.Expr} {l I : Addr} {vs : List Value} {nn : Nat} {m₀ : Str → Option Value} {news : List (Addr × Obj)} (J : Nat → (Str → Option Value) → List (Addr × Obj) → Prop)
    (hh : A.handled = none) (hl : (l, listOf vs.toArray nn) ∈ news) (F : Fr h₀ env.locals s.heap m₀) (N : News h₀ env.locals s.heap ((I, revObj l ((vs.length : Int) - 1)) :: news)) (hoff : ∀ p ∈ news, p.1 ≠ I) (hj : J 0 m₀ news)
    (hJl : ∀ i m nx, J i m nx → (l, listOf vs.toArray nn) ∈ nx) (hE : PassesOwn (model prog w) A env E)
    (turn : ∀ i v m nx h tk oI, i < vs.length → vs[vs.length - 1 - i]? = some v → J i m nx → (∀ p ∈ nx, p.1 ≠ I) → Fr h₀ env.locals h m → News h₀ env.locals h ((I, oI) :: nx) →
      wpAny (model prog w) A (assign tgt env v) (fun _ s₂ => wpAny (model prog w) A (execs body env) (TurnPost h₀ env.locals I oI (J (i + 1)) { s with heap := h, toks := tk } Q) E s₂) E { s with heap := h, toks := tk })
    (done : ∀ m nx h tk, J vs.length m nx → Fr h₀ env.locals h m → News h₀ env.locals h nx → Q .next { s with heap := h, toks := tk })
    (ht : ∀ v, letOwnedTupleGo tgt (.ref I) v = pure () := by intro _; rfl) :
    wpAny (model prog w) A (pyIter (.ref I)) (ForAt prog w A env tgt body Q E) E s := by
  have hI := N _ (.head _)
  have N' : News h₀ env.locals s.heap news := fun p hp => N p (.tail _ hp)
  have hne : l ≠ I := hoff _ hl
  have hrev : s.heap.IsRevIter I l ((vs.length : Int) - 1) := ⟨_, hI.1, rfl, rfl⟩
  refine wpAny_pyIter_revIter hrev ?_
  have hls : s.heap.IsList l vs.toArray := ⟨_, (N' _ hl).1, rfl, nn, rfl⟩
  have W := Walks.listRev (prog := prog) (w := w) hh I l hne vs.toArray
  rw [List.size_toArray] at W
  refine loop_any J W hI.2.2 (fun e => hI.2.1 e.symm) (fun i h st => ?_) hoff [(l, listOf vs.toArray nn)] (fun b hb hbI => ?_) (fun i m nx hJ p hp => (List.mem_singleton.mp hp) ▸ hJl i m nx hJ) ⟨Nat.zero_le _, by simpa using hrev, hls⟩ F N' hj hE (fun i v m nx h tk oI hi hP hJ hoff F' N' => ?_) done (fun i v s' Q' E' st hP hQ => by rw [ht]; exact wpAny_pure hQ)
  · obtain ⟨_, ⟨o, ho, _⟩, _⟩ := st
    exact ⟨o, ho⟩
  · rcases List.mem_cons.mp hb with e | hb
    · exact absurd e hbI
    · rw [List.mem_singleton.mp hb]; exact ⟨_, .head _⟩
  · exact turn i v m nx h tk oI hi (by simpa using hP) hJ hoff F' N'
end
end Mine
set_option maxHeartbeats 400000
namespace Mine
section
variable {prog : Program} {w : World} {A : Around} {E : Value → Shared → Prop} {s : Shared} {h₀ : Heap} {L : Addr} {m : Str → Option Value} {news : List (Addr × Obj)}
theorem list_sort_one {a : Addr} {v : Value} {n : Nat} {P : PySem.Fin → Shared → Prop} (ho : s.heap.get? a = some (seqObj "list" [v].toArray n))
    (h : P (.done (.ret .none)) { s with heap := sortedHeap s.heap a [v] #[v] }) :
    wpAny (model prog w) A (Builtin.«list.sort» ⟨[.ref a], []⟩) P E s := by
  rw [list_sort_plain]
  have ha : a < s.heap.objs.size := Heap.lt_size ho
  refine wpAny_bind (listItems_at ho rfl ?_)
  refine wpAny_bind (listUpdate_at ho rfl ?_)
  obtain ⟨e1, ho1⟩ : ∃ e1, (s.heap.update a (Obj.mapSeq fun _ => #[])).get? a = some (seqObj "list" #[] e1) := ⟨_, get?_update_seq ho (fun _ => #[])⟩
  refine wpAny_bind (seqEpoch_at ho1 rfl ?_)
  refine wpAny_bind (wpAny_newTuple ?_)
  refine wpAny_bind (wpAny_newList ?_)
  refine wpAny_holding ?_
  have ho6 : (((s.heap.update a (Obj.mapSeq fun _ => #[])).push (seqObj "tuple" [v].toArray 0)).push (seqObj "list" #[] 0)).get? a = some (seqObj "list" #[] e1) :=
    Heap.get?_push_of_some _ (Heap.get?_push_of_some _ ho1)
  show wpAny (model prog w) A _ P E { s with heap := ((s.heap.update a (Obj.mapSeq fun _ => #[])).push (seqObj "tuple" [v].toArray 0)).push (seqObj "list" #[] 0) }
  dsimp only
  have hz : [v].toArray.size < 2 := by show 1 < 2; omega
  rw [if_pos hz, if_pos hz]
  refine wpAny_bind (wpAny_pure ?_)
  rw [StateT.run_pure]
  refine wpAny_bind (wpAny_pure ?_)
  dsimp only
  refine wpAny_bind (seqEpoch_at ho6 rfl ?_)
  have e : (arrOf (SortSt.mk' general' ([v].toArray.zip [v].toArray) #[] 7 none)).map (·.2) = #[v] := by
    with_unfolding_all rfl
  refine wpAny_bind (listUpdate_at ho6 rfl ?_ (hsz2 := by rw [e]; show 1 ≤ _; rw [sizeLine_eq]; omega))
  simp only [bne_self_eq_false, Bool.false_eq_true, if_false]
  refine wpAny_pure ?_
  rw [e]
  exact h
theorem sorted_one {l : Addr} {v : Value} {n : Nat} {Q : Value → Shared → Prop} (F : Fr h₀ L s.heap m) (N : News h₀ L s.heap news) (hl : (l, listOf [v].toArray n) ∈ news)
    (h : ∀ a c h', Fr h₀ L h' m → News h₀ L h' ((a, listOf [v].toArray c) :: news) → (∀ p ∈ news, p.1 < a) → Q (.ref a) { s with heap := h' }) :
    wpAny (model prog w) A (call (.builtin "sorted") [.ref l]) Q E s := by
  have hL := isList_M N hl
  refine call_function_entry kind_sorted plain_sorted entry_sorted (args_sorted1 _) ?_
  unfold Builtin.«sorted»
  refine wpAny_bind (m := checkCount "sorted" 1 1 _) (wpAny_pure ?_)
  refine wpAny_bind (collect_list hL ?_ (by show 1 ≤ _; rw [sizeLine_eq]; omega))
  refine wpAny_bind (wpAny_newList ?_ (by show 1 ≤ _; rw [sizeLine_eq]; omega))
  have hsz : ((s.heap.push (seqObj "list" #[] 0)).update s.heap.objs.size (Obj.mapSeq (· ++ [v].toArray))).objs.size = s.heap.objs.size + 1 := by
    rw [Heap.size_update, size_push']
  have hoL : (((s.heap.push (seqObj "list" #[] 0)).update s.heap.objs.size (Obj.mapSeq (· ++ [v].toArray))).push (seqObj "list" [v].toArray 0)).get? (s.heap.objs.size + 1) = some (seqObj "list" [v].toArray 0) := by
    rw [← hsz]; exact Heap.get?_push_size _ rfl
  show wpAny _ _ _ _ _ { s with heap := ((s.heap.push (seqObj "list" #[] 0)).update s.heap.objs.size (Obj.mapSeq (· ++ [v].toArray))).push (seqObj "list" [v].toArray 0) }
  rw [hsz]
  refine wpAny_bind (wpAny_holding (wpAny_call_entry slot_list_sort ⟨_, hoL, rfl⟩ entry_list_sort (list_sort_one hoL ⟨_, rfl, ?_⟩) (args_list_sort _)))
  obtain ⟨e, he⟩ := sortedAll_at s.heap [v] #[v]
  exact wpAny_pure ⟨_, rfl, h _ e _ (F.kept fun _ _ => sortedAll_old) (N.kept_cons F (fun _ _ => sortedAll_old) (Nat.le_succ _) he) (fun p hp => Nat.lt_succ_of_lt (lt_new N p hp))⟩
theorem item_pair {value slice : PySem.Expr} {l : Addr} {T : List (Addr × Obj)} {vs : List Value} {ps : List (Int × Int)} {n : Nat} {k : Int} {u : Tok} {Q : Value → Shared → Prop} (N : News h₀ L s.heap news) (hl : (l, listOf vs.toArray n) ∈ news) (hp : PairsIn T vs ps)
    (h0 : 0 ≤ k) (h1 : k < ps.length) (hz : ps.length < 2 ^ 40) (h : ∀ a t u, (a, tup2 (ps.getD k.toNat (0, 0)).1 (ps.getD k.toNat (0, 0)).2 t u) ∈ T → Q (.ref a) s)
    (hs : subscripted slice false (.ref l) (.int k u) = operate [.ref l, .int k u] (getItem (.ref l) (.int k u)) := by with_unfolding_all rfl) :
    wpAny (model prog w) A (subscriptTail value slice (.ref l) (.int k u)) Q E s := by
  obtain ⟨a, t1, u1, _, e, hm⟩ := hp.get k.toNat (by omega)
  have hL := isList_M N hl
  exact tail_any hL.typeIs slot_list_getitem.lookup (wpAny_getItem_list hL h0 (by omega) (by simpa using e) (h a t1 u1 hm)) hs
theorem item_t0 {value slice : PySem.Expr} {a : Addr} {x y : Int} {t1 u1 u : Tok} {Q : Value → Shared → Prop} (N : News h₀ L s.heap news) (hm : (a, tup2 x y t1 u1) ∈ news) (h : Q (.int x t1) s)
    (hs : subscripted slice false (.ref a) (.int 0 u) = operate [.ref a, .int 0 u] (getItem (.ref a) (.int 0 u)) := by with_unfolding_all rfl) :
    wpAny (model prog w) A (subscriptTail value slice (.ref a) (.int 0 u)) Q E s :=
  item_tupleT (l := [.int x t1, .int y u1]) (j := 0) ⟨_, (N _ hm).1, rfl, _, rfl⟩ (by decide) (by decide) rfl rfl h hs
theorem item_t1 {value slice : PySem.Expr} {a : Addr} {x y : Int} {t1 u1 u : Tok} {Q : Value → Shared → Prop} (N : News h₀ L s.heap news) (hm : (a, tup2 x y t1 u1) ∈ news) (h : Q (.int y u1) s)
    (hs : subscripted slice false (.ref a) (.int 1 u) = operate [.ref a, .int 1 u] (getItem (.ref a) (.int 1 u)) := by with_unfolding_all rfl) :
    wpAny (model prog w) A (subscriptTail value slice (.ref a) (.int 1 u)) Q E s :=
  item_tupleT (l := [.int x t1, .int y u1]) (j := 1) ⟨_, (N _ hm).1, rfl, _, rfl⟩ (by decide) (by decide) rfl rfl h hs
end
theorem srt_one (p : Int × Int) : srt [p] = [p] := by
  obtain ⟨x, y⟩ := p
  rfl
section
variable {prog : Program} {w : World} {A : Around} {E : Value → Shared → Prop} {s : Shared} {h₀ : Heap} {L : Addr} {m : Str → Option Value} {news : List (Addr × Obj)}
theorem sorted_P {l : Addr} {T : List (Addr × Obj)} {vs : List Value} {ps : List (Int × Int)} {n : Nat} {Q : Value → Shared → Prop} (F : Fr h₀ L s.heap m) (N : News h₀ L s.heap news) (hl : (l, listOf vs.toArray n) ∈ news) (hp : PairsIn T vs ps) (hTn : ∀ p ∈ T, p ∈ news) (h2 : 1 ≤ ps.length) (h64 : ps.length < 64)
    (h : ∀ a vs' c h', Fr h₀ L h' m → News h₀ L h' ((a, listOf vs'.toArray c) :: news) → PairsIn T vs' (srt ps) → (∀ p ∈ news, p.1 < a) → Q (.ref a) { s with heap := h' }) :
    wpAny (model prog w) A (call (.builtin "sorted") [.ref l]) Q E s := by
  by_cases e : 2 ≤ ps.length
  · exact sorted_M F N hl hp hTn e h64 h
  · cases hp with
    | nil => exact absurd h2 (by decide)
    | cons hm r =>
      cases r with
      | nil => exact sorted_one F N hl fun a c h' F' N' l1 => h a _ c h' F' N' (by rw [srt_one]; exact .cons hm .nil) l1
      | cons _ _ => simp at e
end
end Mine
set_option maxHeartbeats 400000
namespace Mine
section
variable {prog : Program} {w : World} {A : Around} {E : Value → Shared → Prop} {s : Shared}
theorem kfdiv_M {a b : Int} {t u : Tok} {Q : Value → Shared → Prop} (h0 : 0 ≤ a) (h2 : a ≤ 2) (hb : 0 < b) (hb2 : b ≤ 1000) (h : ∀ q t tk, 0 ≤ q → q ≤ 2 → Q (.int q t) { s with toks := tk }) :
    wpAny (model prog w) A (binaryOp .FloorDiv (.int a t) (.int b u)) Q E s := by
  refine floordiv_int (by omega) (h _ _ _ ?_ ?_) (Or.inl (PyProof.noPylong_small (by omega)))
  · exact Int.fdiv_nonneg h0 (by omega)
  · rw [Int.fdiv_eq_ediv_of_nonneg _ (by omega)]
    exact Int.le_trans (Int.ediv_le_self _ h0) h2
theorem kdiv_M {a b : Int} {t u : Tok} {Q : Value → Shared → Prop} (hb : 1 ≤ b) (hb2 : b ≤ 1000000000000) (h : ∀ q t tk, Q (.int q t) { s with toks := tk }) :
    wpAny (model prog w) A (binaryOp .FloorDiv (.int a t) (.int b u)) Q E s := by
  refine floordiv_int (by omega) (h _ _ _) (Or.inl (PyProof.noPylong_of_log2 ?_))
  have e : b.natAbs < 2 ^ 41 := by omega
  exact Nat.lt_trans ((Nat.log2_lt (by omega)).mpr e) (by omega)
theorem kmod_M {a b : Int} {t u : Tok} {Q : Value → Shared → Prop} (hb : 0 < b) (h : ∀ q t tk, 0 ≤ q → q < b → Q (.int q t) { s with toks := tk }) :
    wpAny (model prog w) A (binaryOp .Mod (.int a t) (.int b u)) Q E s :=
  mod_int' (by omega) (h _ _ _ (Int.fmod_nonneg_of_pos _ hb) (Int.fmod_lt_of_pos _ hb))
theorem kpow_M {n : Int} {t u : Tok} {Q : Value → Shared → Prop} (h0 : 0 ≤ n) (h2 : n ≤ 2) (h : ∀ q t tk, 1 ≤ q → q ≤ 1000000000000 → Q (.int q t) { s with toks := tk }) :
    wpAny (model prog w) A (binaryOp .Pow (.int 720720 t) (.int n u)) Q E s := by
  refine pow_int_small h0 (by omega) (by decide) (h _ _ _ ?_ ?_)
  · have : n = 0 ∨ n = 1 ∨ n = 2 := by omega
    rcases this with rfl | rfl | rfl <;> decide
  · have : n = 0 ∨ n = 1 ∨ n = 2 := by omega
    rcases this with rfl | rfl | rfl <;> decide
theorem kmul_M {a b : Int} {t u : Tok} {Q : Value → Shared → Prop} (h0 : 0 ≤ a) (h2 : a ≤ 1000000) (h : Q (.int (a * b) s.toks) { s with toks := s.toks + 1 }) :
    wpAny (model prog w) A (binaryOp .Mult (.int a t) (.int b u)) Q E s := mul_int h (IntMulOk.of_left (intBits_le_64 (by omega) (by omega)))
variable {h₀ : Heap} {L : Addr} {m : Str → Option Value} {news : List (Addr × Obj)}
theorem ne_same {a b : Addr} {vs us : List Value} {ns ms : List Int} {n n2 : Nat} {Q : Value → Shared → Prop} (N : News h₀ L s.heap news) (ha : (a, listOf vs.toArray n) ∈ news) (hb : (b, listOf us.toArray n2) ∈ news) (hi : IntsAre vs ns) (hj : IntsAre us ms) (hu : A.units + 64 < cLine)
    (e : ns = ms) (h : Q (.bool false) s) : wpAny (model prog w) A (compareOp .NotEq (.ref a) (.ref b)) Q E s :=
  ne_intsK (isList_M N ha) hi (isList_M N hb) hj hu (by rw [decide_eq_true e]; exact h)
theorem ne_tups {t1 t2 a b c d : Addr} {va vb vc vd : List Value} {na nb nc nd : List Int} {n1 n2 n3 n4 : Nat} {Q : Value → Shared → Prop} (N : News h₀ L s.heap news) (h1 : (t1, tupOf [.ref a, .ref b]) ∈ news) (h2 : (t2, tupOf [.ref c, .ref d]) ∈ news)
    (ha : (a, listOf va.toArray n1) ∈ news) (hb : (b, listOf vb.toArray n2) ∈ news) (hc : (c, listOf vc.toArray n3) ∈ news) (hd : (d, listOf vd.toArray n4) ∈ news)
    (ia : IntsAre va na) (ib : IntsAre vb nb) (ic : IntsAre vc nc) (id : IntsAre vd nd) (hu : A.units + 64 < cLine) (e1 : na = nc) (e2 : nb = nd) (h : Q (.bool false) s) :
    wpAny (model prog w) A (compareOp .NotEq (.ref t1) (.ref t2)) Q E s := by
  subst e1 e2
  have r1 := reads_tuple_at (N.get h1) rfl rfl (ReadsAll.cons (reads_of_ints (isList_M N ha) ia) (ReadsAll.cons (reads_of_ints (isList_M N hb) ib) ReadsAll.nil))
  have r2 := reads_tuple_at (N.get h2) rfl rfl (ReadsAll.cons (reads_of_ints (isList_M N hc) ic) (ReadsAll.cons (reads_of_ints (isList_M N hd) id) ReadsAll.nil))
  refine ne_dataH r1 r2 ?_ ?_ hu ?_
  · simp [SeqAt.shaped, PyData.canLay0, PyData.canLayAll0, PyData.depth, PyData.depthAll, ke_canLayAll0, ke_depthAll]
  · simp [SeqAt.shaped, PyData.canLay0, PyData.canLayAll0, PyData.depth, PyData.depthAll, ke_canLayAll0, ke_depthAll]
  · simp only [PyData.eqv, PyData.eqvAll, ked_eqvAll, decide_true, Bool.and_true, Bool.not_true]
    exact h
def JoinEnd (h₀ : Heap) (L : Addr) (m : Str → Option Value) (news : List (Addr × Obj)) (s : Shared) (f : Flow) (s' : Shared) : Prop := f = .next ∧ ∃ h tk, s' = { s with heap := h, toks := tk } ∧ Fr h₀ L h m ∧ News h₀ L h news
theorem JoinEnd.intro {h : Heap} {tk : Nat} (F : Fr h₀ L h m) (N : News h₀ L h news) : JoinEnd h₀ L m news s .next { s with heap := h, toks := tk } := ⟨rfl, h, tk, rfl, F, N⟩
theorem join_K {t : Sem Flow} {Q : Flow → Shared → Prop} (F : Fr h₀ L s.heap m) (N : News h₀ L s.heap news) (h1 : wpAny (model prog w) A t (JoinEnd h₀ L m news s) E s)
    (h2 : ∀ h tk, Fr h₀ L h m → News h₀ L h news → Q .next { s with heap := h, toks := tk }) : wpAny (model prog w) A t Q E s := by
  refine wpAny_mono h1 (fun f s' p => ?_) fun _ _ e => e
  obtain ⟨rfl, h, tk, rfl, F', N'⟩ := p
  exact h2 h tk F' N'
end
theorem take_pos {l : List Int} (h : decide (l = []) = false) : (0 : Int) < l.length := by
  have := of_decide_eq_false h
  cases l with
  | nil => exact absurd rfl this
  | cons _ _ => simp
end Mine
set_option maxHeartbeats 4000000
namespace Mine
local macro_rules | `(tactic| walk_at "exec For") => `(tactic| refine unhalt ?_)
local macro_rules | `(tactic| walk_at "exec For Name Name cons nil") => `(tactic| refine unhalt ?_)
local macro_rules | `(tactic| walk_at "exec For Name Call cons nil") => `(tactic| refine unhalt ?_)
local macro_rules | `(tactic| walk_at "exec While BoolOp cons nil") => `(tactic| refine unhalt ?_)
local macro_rules | `(tactic| walk_at "exec While Compare cons nil") => `(tactic| refine unhalt ?_)
local macro_rules | `(tactic| walk_at "pyIter ref") => `(tactic| refine unhalt ?_)
local macro_rules | `(tactic| walk_at "WhlIf") => `(tactic| refine unhalt ?_)
local macro_rules | `(tactic| walk_at "WPost") => `(tactic| refine unhalt ?_)
local macro_rules | `(tactic| walk_at "TurnPost") => `(tactic| refine unhalt ?_)
local macro_rules | `(tactic| k_mem) => `(tactic| assumption)
local macro_rules | `(tactic| k_all) => `(tactic| first | assumption | exact lt_ne (by assumption) | exact allLt_ne (by assumption) | exact allNe_ne (by assumption))
local macro_rules | `(tactic| k_room) => `(tactic| ((simp only [depth_under_make, depth_under_kw, depth_in1, depth_deeper, recursionLimit]); omega))
local macro_rules | `(tactic| size_fits) => `(tactic| ((rw [PySem.sizeLine_eq]); k_subL; omega))
local macro_rules | `(tactic| walk_at "call builtin:len") => `(tactic| ((with_reducible show wpAny _ _ (call (Value.builtin "len") [Value.ref _]) _ _ _); k_dflt (first
  | (refine' len_I ?N ?l ?i ?z ?_; (case N => k_asm); (case l => k_mem); (case i => assumption); (case z => omega); k_whole; intro t' tk')
  | (refine' len_L ?N ?l ?z ?_; (case N => k_asm); (case l => k_mem); (case z => (k_subL; omega)); k_whole; intro t' tk'; (try k_subL)))))
local macro_rules | `(tactic| walk_at "subscriptTail Name Name ref int") => `(tactic| ((with_reducible show wpAny _ _ (subscriptTail _ _ (Value.ref _) (Value.int _ _)) _ _ _); k_dflt (refine' item_I ?N ?l ?i ?a ?b ?z ?_; (case N => k_asm); (case l => k_mem); (case i => assumption); (case a => omega); (case b => omega); (case z => omega); k_whole; intro t')))
local macro_rules | `(tactic| walk_at "subscriptTail Name BinOp ref int") => `(tactic| ((with_reducible show wpAny _ _ (subscriptTail _ _ (Value.ref _) (Value.int _ _)) _ _ _); k_dflt (refine' item_I ?N ?l ?i ?a ?b ?z ?_; (case N => k_asm); (case l => k_mem); (case i => assumption); (case a => omega); (case b => omega); (case z => omega); k_whole; intro t')))
local macro_rules | `(tactic| walk_at "CompEnd") => `(tactic| refine unhalt ?_)
local macro_rules | `(tactic| walk_at "subscriptTail Name Slice ref ref") => `(tactic| ((with_reducible show wpAny _ _ (subscriptTail _ (PySem.Expr.Slice (some _) none none _) (Value.ref _) (Value.ref _)) _ _ _); k_dflt (refine' slice_from_M ?F ?N ?l ?a ?z ?_ ?s ?t; (case F => k_asm); (case N => k_asm); (case l => k_mem); (case a => omega); (case z => size_fits); (case s => with_unfolding_all rfl); (case t => (intro _; with_unfolding_all rfl)); k_whole); intro l' h' F' N' l1; (try k_lt l1); (try k_sweep)))
local macro_rules | `(tactic| walk_at "subscriptTail Name Slice ref ref") => `(tactic| ((with_reducible show wpAny _ _ (subscriptTail _ (PySem.Expr.Slice none (some _) none _) (Value.ref _) (Value.ref _)) _ _ _); k_dflt (refine' slice_upto_M ?F ?N ?l ?a ?z ?_ ?s ?t; (case F => k_asm); (case N => k_asm); (case l => k_mem); (case a => omega); (case z => size_fits); (case s => with_unfolding_all rfl); (case t => (intro _; with_unfolding_all rfl)); k_whole); intro l' h' F' N' l1; (try k_lt l1); (try k_sweep)))
local macro_rules | `(tactic| walk_at "binaryOp Add ref ref") => `(tactic| ((with_reducible show wpAny _ _ (binaryOp _ (Value.ref _) (Value.ref _)) _ _ _); k_dflt (refine' add_M ?F ?N ?l ?b ?z ?_; (case F => k_asm); (case N => k_asm); (case l => k_mem); (case b => k_mem); (case z => size_fits); k_whole); intro l' h' F' N' l1; (try k_lt l1); (try k_sweep)))
local macro_rules | `(tactic| walk_at "binaryOp Mult ref int") => `(tactic| ((with_reducible show wpAny _ _ (binaryOp _ (Value.ref _) (Value.int _ _)) _ _ _); k_dflt (refine' mul_M ?F ?N ?l ?a ?z ?_; (case F => k_asm); (case N => k_asm); (case l => k_mem); (case a => (k_subL; omega)); (case z => (k_subL; omega)); k_whole); intro l' h' F' N' l1; (try k_lt l1); (try k_sweep)))
local macro_rules | `(tactic| walk_at "newTuple") => `(tactic| (k_dflt (refine' newTuple_M ?F ?N ?z ?_; (case F => k_asm); (case N => k_asm); (case z => size_fits); k_whole); intro l' h' F' N' l1; (try k_lt l1); (try k_sweep)))
local macro_rules | `(tactic| k_subL) => `(tactic| (try simp only [List.size_toArray, List.length_map, List.length_append, List.length_cons, List.length_nil, List.length_replicate, List.length_drop, List.length_take, Int.toNat_natCast]))
local macro_rules | `(tactic| walk_at "truthy ref") => `(tactic| ((with_reducible show wpAny _ _ (truthy (Value.ref _)) _ _ _); k_dflt (first
  | (refine' truthy_yes ?N ?l ?a ?z ?_; (case N => k_asm); (case l => k_mem); (case a => omega); (case z => omega); k_whole; intro tk')
  | (refine' truthy_no ?N ?l ?_; (case N => k_asm); (case l => k_mem); k_whole; intro tk'))))
local macro_rules | `(tactic| walk_at "ite") => `(tactic| (first
  | (refine ite_no (by ((try simp only [decide_eq_true_eq, Int.reduceToNat, Int.reducePow, Int.reduceMul]); omega)) ?_)
  | (refine ite_yes (by ((try simp only [decide_eq_true_eq, Int.reduceToNat, Int.reducePow, Int.reduceMul]); omega)) ?_)))
theorem fillNow : True := by
  w_top off
  have h := @hd
  revert h
  k_fill
  intro _
  trivial
section
def mg : List Int → List Int → List (Int × Bool)
  | [], ps => ps.map fun p => (p, false)
  | l :: ls, ps => (ps.takeWhile fun p => decide (p < l)).map (fun p => (p, false)) ++ (l, true) :: mg ls (ps.dropWhile fun p => decide (p < l))
def bv (l : List (Int × Bool)) : List Value := l.map fun p => Value.bool p.2
theorem bv_len (l : List (Int × Bool)) : (bv l).length = l.length := by simp [bv]
theorem bv_snoc (l : List (Int × Bool)) (a : Int) (b : Bool) : bv l ++ [Value.bool b] = bv (l ++ [(a, b)]) := by simp [bv]
theorem bv_end (l : List (Int × Bool)) (ps : List Int) (n : Nat) (h : n = ps.length) : bv l ++ List.replicate n (Value.bool false) = bv (l ++ ps.map fun p => (p, false)) := by
  subst h
  simp [bv, Function.comp_def, List.map_const']
theorem drop_cons {ps : List Int} {k : Nat} (h : k < ps.length) : ps.drop k = ps.getD k 0 :: ps.drop (k + 1) := by
  rw [List.drop_eq_getElem_cons h]
  simp [List.getD, h]
theorem mg_lt {ps r : List Int} {k : Nat} {x : Int} (h : k < ps.length) (hx : ps.getD k 0 < x) : mg (x :: r) (ps.drop k) = (ps.getD k 0, false) :: mg (x :: r) (ps.drop (k + 1)) := by
  rw [drop_cons h]
  generalize ps.getD k 0 = y at *
  rw [mg, mg]
  simp [List.takeWhile_cons, List.dropWhile_cons, hx]
theorem mg_ge {ps r : List Int} {k : Nat} {x : Int} (h : k < ps.length) (hx : ¬ ps.getD k 0 < x) : mg (x :: r) (ps.drop k) = (x, true) :: mg r (ps.drop k) := by
  rw [drop_cons h]
  generalize ps.getD k 0 = y at *
  rw [mg]
  simp [List.takeWhile_cons, List.dropWhile_cons, hx]
theorem mg_end {ps r : List Int} {k : Nat} {x : Int} (h : ps.length ≤ k) : mg (x :: r) (ps.drop k) = (x, true) :: mg r (ps.drop k) := by
  rw [List.drop_of_length_le h, mg]
  simp
theorem mg_nil (ps : List Int) : mg [] ps = ps.map fun p => (p, false) := rfl
theorem drop_at {ls : List Int} {i : Nat} {x : Int} (hx : ls[i]? = some x) : ls.drop i = x :: ls.drop (i + 1) := by
  obtain ⟨h, e⟩ := List.getElem?_eq_some_iff.mp hx
  rw [List.drop_eq_getElem_cons h, e]
theorem merged_K {prog p₀ : Program} {lo : List Str} {w : World} {s : Shared} {base h₀ : Heap} {A₀ : Around} {env : Env} {outer : List Env} {gs : Option (List Code)} {dp un : Nat} {L la pa : Addr} {m mg mb : Str → Option Value}
  {news : List (Addr × Obj)} {mean : ExcName → Option Value} {E : Value → Shared → Prop} {Q : Value → Shared → Prop} {lv pv : List Value} {ls ps : List Int} {n1 n2 : Nat}
  (B : Below A₀ base outer h₀) (F : Fr h₀ L s.heap m) (X : (hd.heap_39 w.params).In h₀) (N : News h₀ L s.heap news) (T : Top p₀ lo mean mg mb h₀)
  (hf : env.frame = some L) (hke : env.scope.kind = .function) (hdp : dp < 900) (hu : un < 1000)
  (hl : (la, listOf lv.toArray n1) ∈ news) (hp : (pa, listOf pv.toArray n2) ∈ news) (il : IntsAre lv ls) (ip : IntsAre pv ps) (zl : ls.length < 1000) (zp : ps.length < 1000)
  (hQ : ∀ r a b wv' h' tk, Fr h₀ L h' m → News h₀ L h' ((r, tupOf [.ref a, .ref b]) :: (a, listOf wv'.toArray 0) :: (b, listOf (bv (Mine.mg ls ps)).toArray 0) :: news) → IntsAre wv' ((Mine.mg ls ps).map (·.1)) → (∀ p ∈ news, p.1 < a) → @LT.lt Nat _ a b → @LT.lt Nat _ b r →
    Q (.ref r) { s with heap := h', toks := tk }) :
  wpAny (model prog w) ⟨none, dp, some (env :: outer), gs, un⟩ (call (.ref 68) [.ref la, .ref pa]) Q E s := by
  refine wpAny_call ?_
  refine' code_def ?k1 ?k2 ?k3 ?k4 ?k5 ?kA ?kF ?kK ?k6 ?k7 ?k8 ?k9 ?kB ?_ ?c2 ?c3 ?c4 ?c5
  case k1 => exact B
  case k2 => exact F
  case k3 => exact X
  case k4 => exact N
  case k5 => exact T
  case kA => exact rfl
  case kF => exact hf
  case kK => exact hke
  case k6 => k_is
  case k7 => k_is
  case k8 => show dp < 1000; omega
  case k9 => exact BindsTo.of_eq rfl
  case kB => exact locs rfl
  case c2 => exact rfl
  case c3 => exact rfl
  case c4 => exact rfl
  case c5 => decide
  intro g' L' h' FG' F' N' B' X' T'
  dsimp only
  k_fold
  k_steps
  unfold Halt
  rename Fr g' _ _ _ => F1
  rename News g' _ _ _ => N1
  refine For_invVF F1 rfl rfl ?_
  k_steps
  unfold Halt
  rename_i wa _ hwa _ _ fa _ hfa _ _
  obtain ⟨hfw, hfa⟩ := hfa
  replace hfa := allLt_lt hfa
  refine iter_led (vs := lv.toArray) (nn := n1) (fun i m nx => ∃ (acc : List (Int × Bool)) (wv : List Value) (k w1 f1 : Nat) (tk : Tok), Mine.mg ls ps = acc ++ Mine.mg (ls.drop i) (ps.drop k) ∧ k ≤ ps.length ∧ acc.length = i + k ∧ IntsAre wv (acc.map (·.1)) ∧
    Nm m [(Str.ofString "leaves", .ref la), (Str.ofString "packages", .ref pa), (Str.ofString "weights", .ref wa), (Str.ofString "flags", .ref fa), (Str.ofString "place", .int k tk)] ∧
    nx = (fa, listOf (bv acc).toArray f1) :: (wa, listOf wv.toArray w1) :: news) rfl (.tail _ (.tail _ hl)) F1 N1 ?_ ?_ ?_ ?_
  · refine ⟨[], [], 0, 0, 0, _, rfl, Nat.zero_le _, rfl, .nil, ⟨rfl, rfl, rfl, rfl, rfl, trivial⟩, rfl⟩
  · rintro i m nx ⟨acc, wv, k, w1, f1, tk, e1, e2, e3, e4, e5, rfl⟩
    exact .tail _ (.tail _ hl)
  · rintro i v m nx h tk I oI hv ⟨acc, wv, k, w1, f1, t1, e1, e2, e3, e4, e5, rfl⟩ hI1 hI2 F2 N2
    replace F2 := Fr.named1 _ e5 F2
    obtain ⟨hI3, hI4, hI5⟩ := allLt_of hI1
    replace hI5 := allLt_lt hI5
    obtain ⟨x, tx, rfl, hx⟩ := il.at i v (by simpa using hv)
    have hil : i < ls.length := (List.getElem?_eq_some_iff.mp hx).1
    k_steps
    unfold Halt
    refine while_led (fun n m nx => ∃ (acc : List (Int × Bool)) (wv : List Value) (k w1 f1 : Nat) (tk : Tok), Mine.mg ls ps = acc ++ Mine.mg (ls.drop i) (ps.drop k) ∧ k ≤ ps.length ∧ acc.length = i + k ∧ IntsAre wv (acc.map (·.1)) ∧
      Nm m [(Str.ofString "leaves", .ref la), (Str.ofString "packages", .ref pa), (Str.ofString "weights", .ref wa), (Str.ofString "flags", .ref fa), (Str.ofString "place", .int k tk), (Str.ofString "leaf", .int x tx)] ∧
      nx = (I, oI) :: (fa, listOf (bv acc).toArray f1) :: (wa, listOf wv.toArray w1) :: news ∧ n = ps.length - k) (ps.length - k) F2 N2 ⟨acc, wv, k, w1, f1, t1, e1, e2, e3, e4, ⟨rfl, rfl, rfl, rfl, rfl, rfl, trivial⟩, rfl, rfl⟩ (by passes_own) ?_
    clear F2 N2 e1 e2 e3 e4 e5 F1 N1
    rintro n m nx h tk ⟨acc, wv, k, w1, f1, t1, e1, e2, e3, e4, e5, rfl, rfl⟩ F2 N2
    replace F2 := Fr.named _ e5 F2
    have z1 := bv_len acc
    have z2 := ints_size e4
    rw [List.length_map] at z2
    k_steps
    · unfold Halt
      refine WhlIf.yes rfl ?_
      k_steps
      unfold Halt
      rename (ps.getD _ 0 < x) => hlt
      rename Fr g' _ _ _ => F3
      rename News g' _ _ _ => N3
      rw [Int.toNat_natCast] at hlt N3
      rw [List.push_toArray, List.push_toArray, bv_snoc _ (ps.getD k 0)] at N3
      refine WEnd.intro (ps.length - (k + 1)) _ F3 N3 (fun p hp => hp) (by omega) ⟨acc ++ [(ps.getD k 0, false)], _, k + 1, _, _, _, ?_, by omega, by rw [List.length_append, List.length_singleton]; omega, ?_, ⟨rfl, rfl, rfl, rfl, rfl, rfl, trivial⟩, rfl, rfl⟩
      · rw [e1, drop_at hx, mg_lt (by omega) hlt, List.append_assoc]; rfl
      · rw [List.map_append]; exact IntsAre.append e4 (.cons _ _ .nil)
    all_goals
      unfold Halt
      refine WhlIf.no rfl ?_
      k_steps
      unfold Halt
      rename Fr g' _ _ _ => F3
      rename News g' _ _ _ => N3
      have e6 : Mine.mg (ls.drop i) (ps.drop k) = (x, true) :: Mine.mg (ls.drop (i + 1)) (ps.drop k) := by
        rw [drop_at hx]
        first
        | (rename ¬ (ps.getD _ 0 < x) => hlt
           rw [Int.toNat_natCast] at hlt
           exact mg_ge (by omega) hlt)
        | exact mg_end (by omega)
      rw [List.push_toArray, List.push_toArray, bv_snoc _ x] at N3
      refine TurnEnd.intro _ F3 N3 (.head _) (fun p hp => .tail _ hp) (List.forall_mem_cons.mpr ⟨by k_ne, List.forall_mem_cons.mpr ⟨by k_ne, lt_ne hI5⟩⟩) ⟨acc ++ [(x, true)], _, k, _, _, t1, ?_, e2, by rw [List.length_append, List.length_singleton]; omega, ?_, ⟨rfl, rfl, rfl, rfl, rfl, trivial⟩, rfl⟩
      · rw [e1, e6, List.append_assoc]; rfl
      · rw [List.map_append]; exact IntsAre.append e4 (.cons _ _ .nil)
  · rintro m nx h tk ⟨acc, wv, k, w1, f1, t1, e1, e2, e3, e4, e5, rfl⟩ F2 N2
    replace F2 := Fr.named _ e5 F2
    clear F1 N1
    have z1 := bv_len acc
    have z2 := ints_size e4
    rw [List.length_map] at z2
    simp only [List.size_toArray, il.length, List.drop_length, mg_nil] at e1 e3
    have zi := ints_size ip
    k_steps
    rename Fr h₀ _ _ _ => kF
    rename News h₀ _ _ _ => kN
    refine' hQ _ _ _ _ _ _ kF ?yN ?yI ?ya ?yb ?yc
    case yN =>
      rw [e1]
      refine News.sub kN (all_cons (by k_mem) (all_cons (by k_mem) (all_cons ?_ (fun p hp => by k_mem))))
      rw [bv_end _ (ps.drop k) _ (by rw [List.length_drop, zi]; rfl)]
      k_mem
    case yI =>
      rw [e1, List.map_append]
      refine IntsAre.append e4 ?_
      rw [Int.toNat_natCast, List.map_map]
      exact (show (fun (p : Int × Bool) => p.1) ∘ (fun p => (p, false)) = id from rfl) ▸ (List.map_id (ps.drop k)).symm ▸ ip.drop k
    case ya => exact allLt_lt (by grind)
    case yb => omega
    case yc => omega
end
section
local macro_rules | `(tactic| walk_at "call ref") => `(tactic| refine unhalt ?_)
local macro_rules | `(tactic| walk_at "exec Assign cons ListComp") => `(tactic| refine unhalt ?_)
local macro_rules | `(tactic| walk_at "exec Assign cons Tuple") => `(tactic| refine unhalt ?_)
def pairSum (ws : List Int) : List Int := (List.range (ws.length / 2)).map fun i => ws.getD (2 * i) 0 + ws.getD (2 * i + 1) 0
def prow (ls : List Int) : Nat → List (List (Int × Bool)) × List Int
  | 0 => ([], [])
  | n + 1 => ((prow ls n).1 ++ [mg ls (prow ls n).2], pairSum ((mg ls (prow ls n).2).map (·.1)))
inductive RowsIn (T : List (Addr × Obj)) : List Addr → List (List (Int × Bool)) → Prop
  | nil : RowsIn T [] []
  | cons {a : Addr} {r : List (Int × Bool)} {fl : List Addr} {rs : List (List (Int × Bool))} (hm : (a, listOf (bv r).toArray 0) ∈ T) (t : RowsIn T fl rs) : RowsIn T (a :: fl) (r :: rs)
theorem RowsIn.mono {T T' : List (Addr × Obj)} {fl : List Addr} {rs : List (List (Int × Bool))} (h : RowsIn T fl rs) (hs : ∀ p ∈ T, p ∈ T') : RowsIn T' fl rs := by
  induction h with
  | nil => exact .nil
  | cons hm _ ih => exact .cons (hs _ hm) ih
theorem RowsIn.snoc {T : List (Addr × Obj)} {fl : List Addr} {rs : List (List (Int × Bool))} (h : RowsIn T fl rs) {a : Addr} {r : List (Int × Bool)} (hm : (a, listOf (bv r).toArray 0) ∈ T) : RowsIn T (fl ++ [a]) (rs ++ [r]) := by
  induction h with
  | nil => exact .cons hm .nil
  | cons hm' _ ih => exact .cons hm' ih
theorem RowsIn.length {T : List (Addr × Obj)} {fl : List Addr} {rs : List (List (Int × Bool))} (h : RowsIn T fl rs) : fl.length = rs.length := by
  induction h with
  | nil => rfl
  | cons _ _ ih => simp [ih]
theorem mg_length (ls : List Int) : ∀ ps : List Int, (mg ls ps).length = ls.length + ps.length := by
  induction ls with
  | nil => intro ps; simp [mg]
  | cons l r ih =>
    intro ps
    rw [mg, List.length_append, List.length_map, List.length_cons, ih]
    have := congrArg List.length (List.takeWhile_append_dropWhile (p := fun p => decide (p < l)) (l := ps))
    rw [List.length_append] at this
    simp only [List.length_cons]
    omega
theorem prow_len (ls : List Int) : ∀ n, (prow ls n).2.length ≤ ls.length
  | 0 => Nat.zero_le _
  | n + 1 => by
    have := prow_len ls n
    have := mg_length ls (prow ls n).2
    simp only [prow, pairSum, List.length_map, List.length_range]
    omega
theorem prow_rows (ls : List Int) : ∀ n, (prow ls n).1.length = n
  | 0 => rfl
  | n + 1 => by simp [prow, prow_rows ls n]
theorem pairSum_take {W : List Int} {j : Nat} (h : j < W.length / 2) : (pairSum W).take (j + 1) = (pairSum W).take j ++ [W.getD (2 * j) 0 + W.getD (2 * j + 1) 0] := by
  rw [List.take_add_one]
  congr 1
  simp only [pairSum]
  rw [List.getElem?_map, List.getElem?_range h]
  rfl
theorem pairSum_all (W : List Int) : (pairSum W).take (W.length / 2) = pairSum W := List.take_of_length_le (by simp [pairSum])
theorem rs2 (n : Nat) : Builtin.Range.rangeSize 0 ((n : Int) - 1) 2 = ((n / 2 : Nat) : Int) := by
  unfold Builtin.Range.rangeSize
  rw [if_pos (by decide)]
  split <;> omega
theorem small2 (n : Nat) (h : n < 1000) : Builtin.Range.small 0 ((n : Int) - 1) 2 = true := by
  unfold Builtin.Range.small
  rw [rs2]
  simp only [Builtin.Range.rangeFitsLong, Bool.and_eq_true, Bool.or_eq_true, decide_eq_true_eq, beq_iff_eq, show (2 : Int) > 0 by decide, if_true]
  omega
theorem package_rows_K {prog p₀ : Program} {lo : List Str} {w : World} {s : Shared} {base h₀ : Heap} {A₀ : Around} {env : Env} {outer : List Env} {gs : Option (List Code)} {dp un : Nat} {L la : Addr} {m mg mb : Str → Option Value}
  {news : List (Addr × Obj)} {mean : ExcName → Option Value} {E : Value → Shared → Prop} {Q : Value → Shared → Prop} {lv : List Value} {ls : List Int} {n1 mo : Nat} {tm : Tok}
  (B : Below A₀ base outer h₀) (F : Fr h₀ L s.heap m) (X : (hd.heap_39 w.params).In h₀) (N : News h₀ L s.heap news) (T : Top p₀ lo mean mg mb h₀)
  (hf : env.frame = some L) (hke : env.scope.kind = .function) (hdp : dp < 800) (hu : un < 900)
  (hl : (la, listOf lv.toArray n1) ∈ news) (il : IntsAre lv ls) (zl : ls.length < 400) (zm : mo < 100)
  (hQ : ∀ r c fl T' h' tk, Fr h₀ L h' m → News h₀ L h' ((r, listOf (fl.map Value.ref).toArray c) :: T') → (∀ p ∈ news, p ∈ T') → RowsIn T' fl (prow ls mo).1 → (∀ p ∈ news, p.1 < r) →
    Q (.ref r) { s with heap := h', toks := tk }) :
  wpAny (model prog w) ⟨none, dp, some (env :: outer), gs, un⟩ (call (.ref 73) [.ref la, .int mo tm]) Q E s := by
  refine wpAny_call ?_
  refine' code_defC ?k1 ?k2 ?k3 ?k4 ?k5 ?kA ?kF ?kK ?k6 ?k7 ?k8 ?k9 ?kB ?kD ?_ ?c2 ?c3 ?c4
  case k1 => exact B
  case k2 => exact F
  case k3 => exact X
  case k4 => exact N
  case k5 => exact T
  case kA => exact rfl
  case kF => exact hf
  case kK => exact hke
  case k6 => k_is
  case k7 => k_is
  case k8 => show dp < 1000; omega
  case k9 => exact BindsTo.of_eq rfl
  case kB => exact rfl
  case kD => decide +kernel
  case c2 => exact rfl
  case c3 => exact rfl
  case c4 => exact rfl
  intro g' L' h' tk' cells' FG' F' N' Y' B' X' T' l1
  obtain ⟨o', hE', d1'⟩ := CellsAre.one Y'
  subst hE'
  clear Y'
  simp only [List.cons_append, List.nil_append] at N'
  dsimp only
  k_fold
  k_steps
  unfold Halt
  rename Fr g' _ _ _ => F1
  rename News g' _ _ _ => N1
  refine For_invVF F1 rfl rfl ?_
  k_steps
  unfold Halt
  rename Fr g' _ _ _ => F1
  rename News g' _ _ _ => N1
  rename IsRange _ _ _ _ _ _ _ _ => R1
  rename_i ra _ hra _ _ pa _ hpa _ _ _ _ _ _ _ _ _
  refine iter_range (n := mo) (fun i m nx => ∃ (fl : List Addr) (T : List (Addr × Obj)) (pv : List Value) (pa : Addr) (pn rn : Nat) (oc : Obj) (v : Option Value),
    RowsIn T fl (prow ls i).1 ∧ (∀ p ∈ news, p ∈ T) ∧ (∀ p ∈ T, p.1 ≠ ra) ∧ (∀ p ∈ T, p.1 ≠ L' + 1) ∧ IntsAre pv (prow ls i).2 ∧ @Ne Nat pa ra ∧ @Ne Nat pa (L' + 1) ∧ oc.data = .cell v ∧
    Nm m [(Str.ofString "leaves", .ref la), (Str.ofString "rows", .ref ra), (Str.ofString "packages", .ref pa)] ∧
    nx = (L' + 1, oc) :: (pa, listOf pv.toArray pn) :: (ra, listOf (fl.map Value.ref).toArray rn) :: T) rfl R1 (small_one (by decide) (by decide) (by omega) (by omega)) (by rw [rangeSize_nat]; simp) F1 (News.sub (l' := (L' + 1, o') :: (pa, listOf #[] 0) :: (ra, listOf #[] 0) :: news) N1 ?_) ?_ ?_ ?_
  · exact all_cons (by k_mem) (all_cons (by k_mem) (all_cons (by k_mem) (fun p hp => by k_mem)))
  · exact ⟨[], news, [], pa, 0, 0, o', _, .nil, fun _ hp => hp, allLt_ne (by grind), fun p hp => Nat.ne_of_lt (Nat.lt_succ_of_lt (l1 p hp)), .nil, by k_ne, by k_ne, d1', ⟨rfl, rfl, rfl, trivial⟩, rfl⟩
  · obtain ⟨hra0, hra1⟩ := hra
    clear F1 N1 R1 hpa
    rintro i tk m nx h tk I oI hi ⟨fl, T, pv, pa, pn, rn, oc, v, e1, e2, e3, e4, e5, e6, e7, hoc, e8, rfl⟩ hI1 hI2 F2 N2
    replace F2 := Fr.named1 _ e8 F2
    have z1 := prow_len ls i
    have zf : fl.length = i := e1.length.trans (prow_rows ls i)
    have hlT : (la, listOf lv.toArray n1) ∈ T := e2 _ hl
    k_steps
    unfold Halt
    refine merged_K (lv := lv) (pv := pv) (ls := ls) (ps := (prow ls i).2) (n1 := n1) (n2 := pn) B' F2 X' N2 T' rfl rfl (show dp + 1 < 900 by omega) (show un + 3 < 1000 by omega) (by k_mem) (by k_mem) il e5 (by omega) (by omega) ?_
    clear F2 N2
    intro r a b wv h' tk F2 N2 iw la1 la2 la3
    obtain ⟨q1, q2, q3, q4, q5⟩ := allLt_of la1
    obtain ⟨u1, u2, u3, u4⟩ := allNe_of hI2
    dsimp only at q1 q2 q3 q4 u1 u2 u3
    obtain ⟨W, hW⟩ : ∃ W, W = List.map (fun p : Int × Bool => p.1) (Mine.mg ls (prow ls i).2) := ⟨_, rfl⟩
    rw [← hW] at iw
    have zW : W.length < 800 := by rw [hW, List.length_map, mg_length]; omega
    k_steps
    unfold Halt
    rename Fr g' _ _ _ => F3
    rename News g' _ _ _ => N3
    refine assign_comp_W F3 (by with_unfolding_all rfl) (by with_unfolding_all rfl) (by decide) (by rfl) (by decide) (by rfl) (by rfl) (by rfl) ?_
    k_steps
    unfold Halt
    rename Fr g' _ _ _ => F4
    rename News g' _ _ _ => N4
    rename IsRange _ _ _ _ _ _ _ _ => R4
    refine src_range (n := W.length / 2) rfl F4 N4 R4 (small2 _ (by omega)) (rs2 _) (by rw [sizeLine_eq]; omega) (fun g => ?_)
    refine comp_rest (fun i ys nx => nx = _ ∧ IntsAre ys ((pairSum W).take i)) ⟨rfl, .nil⟩ ?_ ?_
    · rintro j v ys nx J1 oJ C oC D m₂ h tk E' hj ⟨_, t, rfl⟩ ⟨rfl, hys⟩ hC hx F5 N5 off ⟨ne1, ne2, ne3⟩
      k_steps
      unfold Halt
      refine LCg.CompEnd.intro F5 N5 _ (fun p hp => hp) off trivial ⟨rfl, ?_⟩
      rw [pairSum_take hj, show (0 + (j : Int) * 2).toNat = 2 * j by omega, show (0 + (j : Int) * 2 + 1).toNat = 2 * j + 1 by omega]
      exact IntsAre.append hys (.cons _ _ .nil)
    · rintro ys nx ⟨rfl, hys⟩ D h tk F5 N5 off
      rw [pairSum_all] at hys
      clear F4 N4
      k_steps
      unfold Halt
      rename Fr g' _ _ _ => F6
      rename News g' _ _ _ => N6
      obtain ⟨f1, f2, f3, f4, f5, f6, f7, f8⟩ := off
      dsimp only at f1 f2 f3 f4 f5 f6 f7
      rename PySem.Obj => o2
      rename (o2.data = _) => hoc2
      rw [List.push_toArray, show List.map Value.ref fl ++ [Value.ref b] = (fl ++ [b]).map Value.ref by simp] at N6
      have e9 : @Ne Nat D ra := fun e => f7 e.symm
      have e10 : @Ne Nat D (L' + 1) := fun e => f5 e.symm
      have e11 : @Ne Nat D I := fun e => f4 e.symm
      refine TurnEnd.intro ((L' + 1, o2) :: (D, listOf ys.toArray ys.length) :: (ra, listOf ((fl ++ [b]).map Value.ref).toArray (rn + 1)) :: (b, listOf (bv (Mine.mg ls (prow ls i).2)).toArray 0) :: T) F6 N6 (by k_mem)
        (all_cons (by k_mem) (all_cons (by k_mem) (all_cons (by k_mem) (all_cons (by k_mem) fun p hp => by k_mem))))
        (all_cons (by k_ne) (all_cons (by k_ne) (all_cons (by k_ne) (all_cons (by k_ne) (allNe_ne u4)))))
        ⟨fl ++ [b], (b, listOf (bv (Mine.mg ls (prow ls i).2)).toArray 0) :: T, ys, D, _, _, o2, _, (e1.mono fun p hp => .tail _ hp).snoc (.head _), fun p hp => .tail _ (e2 p hp), all_cons (by k_ne) e3, all_cons (by k_ne) e4, ?_, e9, e10, hoc2, ⟨rfl, rfl, rfl, trivial⟩, rfl⟩
      show IntsAre ys (pairSum ((Mine.mg ls (prow ls i).2).map fun p => p.1))
      rw [← hW]; exact hys
  · rintro m nx h tk ⟨fl, T, pv, pa, pn, rn, oc, v, e1, e2, e3, e4, e5, e6, e7, hoc, e8, rfl⟩ F2 N2
    replace F2 := Fr.named _ e8 F2
    clear F1 N1
    k_steps
    rename Fr h₀ _ _ _ => kF
    rename News h₀ _ _ _ => kN
    exact hQ _ _ fl T _ _ kF (News.sub kN (all_cons (by k_mem) fun p hp => by k_mem)) e2 e1 (allLt_lt hra.2)
end
section
local macro_rules | `(tactic| walk_at "call ref") => `(tactic| refine unhalt ?_)
local macro_rules | `(tactic| walk_at "eval ListComp") => `(tactic| refine unhalt ?_)
local macro_rules | `(tactic| walk_at "CompSrcT") => `(tactic| refine unhalt ?_)
local macro_rules | `(tactic| walk_at "call builtin:sorted") => `(tactic| refine unhalt ?_)
local macro_rules | `(tactic| walk_at "exec For Tuple Subscript cons nil") => `(tactic| refine unhalt ?_)
local macro_rules | `(tactic| walk_at "exec Raise some none") => `(tactic| refine unhalt ?_)
local macro_rules | `(tactic| walk_at "SrcLP") => `(tactic| refine unhalt ?_)
local macro_rules | `(tactic| walk_at "binaryOp Mult ref int") => `(tactic| refine unhalt ?_)
local macro_rules | `(tactic| walk_at "call builtin:list.count") => `(tactic| refine unhalt ?_)
def pairs (cs : List Int) (n : Nat) : List (Int × Int) := ((List.range n).filter fun i => decide (0 < cs.getD i 0)).map fun i => (cs.getD i 0, (i : Int))
theorem pairs_yes {cs : List Int} {i : Nat} (h : 0 < cs.getD i 0) : pairs cs (i + 1) = pairs cs i ++ [(cs.getD i 0, (i : Int))] := by
  simp only [pairs, List.range_succ, List.filter_append, List.map_append]
  rw [List.filter_cons_of_pos (by simpa using h)]
  rfl
theorem pairs_no {cs : List Int} {i : Nat} (h : ¬ 0 < cs.getD i 0) : pairs cs (i + 1) = pairs cs i := by
  simp only [pairs, List.range_succ, List.filter_append, List.map_append]
  rw [List.filter_cons_of_neg (by simpa using h)]
  simp
theorem pairs_len (cs : List Int) (n : Nat) : (pairs cs n).length ≤ n := by
  simp only [pairs, List.length_map]
  exact Nat.le_trans (List.length_filter_le _ _) (by simp)
theorem srt_mem {l : List (Int × Int)} (h : 0 < l.length) {p : Int × Int} (hp : p ∈ srt l) : p ∈ l := by
  obtain ⟨i, hi, rfl⟩ := List.mem_map.mp hp
  have := srtP_lt h i hi
  have e : l.getD i (0, 0) = l[i] := by simp [List.getD, this]
  rw [e]
  exact List.getElem_mem this
theorem pairs_mem {cs : List Int} {n : Nat} {p : Int × Int} (hp : p ∈ pairs cs n) : 0 ≤ p.2 ∧ p.2 < n := by
  obtain ⟨i, hi, rfl⟩ := List.mem_map.mp hp
  have h1 := (List.mem_filter.mp hi).1
  have h2 : i < n := by simpa using h1
  exact ⟨Int.natCast_nonneg _, by show (i : Int) < n; omega⟩
def cut (lp : Addr) (T : List (Addr × Obj)) : List (Addr × Obj) := T.filter fun p => decide (@Ne Nat p.1 lp)
theorem cut_mem {lp : Addr} {T : List (Addr × Obj)} {p : Addr × Obj} (h : p ∈ T) (hn : @Ne Nat p.1 lp) : p ∈ cut lp T := List.mem_filter.mpr ⟨h, decide_eq_true hn⟩
theorem cut_sub {lp : Addr} {T : List (Addr × Obj)} {p : Addr × Obj} (h : p ∈ cut lp T) : p ∈ T := (List.mem_filter.mp h).1
theorem cut_ne {lp : Addr} {T : List (Addr × Obj)} {p : Addr × Obj} (h : p ∈ cut lp T) : @Ne Nat p.1 lp := of_decide_eq_true (List.mem_filter.mp h).2
theorem RowsIn.cut {lp : Addr} {T : List (Addr × Obj)} {fl : List Addr} {rs : List (List (Int × Bool))} (h : RowsIn T fl rs) (hn : ∀ a r, (a, listOf (bv r).toArray 0) ∈ T → @Ne Nat a lp) : RowsIn (Mine.cut lp T) fl rs := by
  induction h with
  | nil => exact .nil
  | cons hm _ ih => exact .cons (cut_mem hm (hn _ _ hm)) ih
theorem row_ne {h₀ h : Heap} {L lp b : Addr} {T : List (Addr × Obj)} {n : Nat} {t : Tok} {r : List (Int × Bool)} (N : News h₀ L h T) (h1 : (lp, listOf (List.replicate (n + 1) (Value.int 0 t)).toArray 0) ∈ T) (h2 : (b, listOf (bv r).toArray 0) ∈ T) : @Ne Nat b lp := by
  intro e
  have e1 := (N _ h1).1
  have e2 := (N _ h2).1
  rw [show ((b, listOf (bv r).toArray 0) : Addr × Obj).1 = lp from e, e1] at e2
  have e3 := Option.some.inj e2
  have e4 : (List.replicate (n + 1) (Value.int 0 t)).toArray = (bv r).toArray := by
    have e5 := congrArg Obj.data e3
    injection e5
  have e6 := congrArg Array.toList e4
  simp only at e6
  cases r with
  | nil => simp [bv] at e6
  | cons p q => simp [bv, List.replicate_succ] at e6
theorem RowsIn.get {T : List (Addr × Obj)} {fl : List Addr} {rs : List (List (Int × Bool))} (h : RowsIn T fl rs) : ∀ i : Nat, i < rs.length → ∃ a, fl[i]? = some a ∧ (a, listOf (bv (rs.getD i [])).toArray 0) ∈ T := by
  induction h with
  | nil => intro i hi; exact absurd hi (Nat.not_lt_zero _)
  | cons hm _ ih =>
    intro i hi
    cases i with
    | zero => exact ⟨_, rfl, hm⟩
    | succ i =>
      obtain ⟨a, e, h⟩ := ih i (by simpa using hi)
      exact ⟨a, by simpa using e, by simpa using h⟩
theorem rev_take {α : Type} {l : List α} {d : α} {i : Nat} (h : i < l.length) : l.reverse.take (i + 1) = l.reverse.take i ++ [l.getD (l.length - 1 - i) d] := by
  rw [List.take_add_one, List.getElem?_reverse h, List.getElem?_eq_getElem (by omega)]
  have e : l.getD (l.length - 1 - i) d = l[l.length - 1 - i] := by simp [List.getD, show l.length - 1 - i < l.length by omega]
  rw [e]; rfl
theorem prow_row_len (ls : List Int) : ∀ n, ∀ r ∈ (prow ls n).1, r.length ≤ 2 * ls.length
  | 0, _, h => nomatch h
  | n + 1, r, h => by
    rcases List.mem_append.mp h with h | h
    · exact prow_row_len ls n r h
    · rw [List.mem_singleton.mp h, mg_length]
      have := prow_len ls n
      omega
def bump (L : List Int) (k : Int) : List Int := L.set k.toNat (L.getD k.toNat 0 + 1)
theorem bump_length (L : List Int) (k : Int) : (bump L k).length = L.length := by simp [bump]
def bumps (ord : List (Int × Int)) (L : List Int) : List Int := ord.foldl (fun L p => bump L p.2) L
theorem bumps_length (ord : List (Int × Int)) : ∀ L : List Int, (bumps ord L).length = L.length := by
  induction ord with
  | nil => intro L; rfl
  | cons p r ih => intro L; rw [show bumps (p :: r) L = bumps r (bump L p.2) from rfl, ih, bump_length]
def leavesOf (wn : Nat) (fl : List (Int × Bool)) : Nat := ((fl.map (·.2)).take wn).count true
def rstep (ord : List (Int × Int)) (st : List Int × Nat) (fl : List (Int × Bool)) : List Int × Nat := (bumps (ord.take (leavesOf st.2 fl)) st.1, 2 * (st.2 - leavesOf st.2 fl))
theorem leavesOf_le (wn : Nat) (fl : List (Int × Bool)) : leavesOf wn fl ≤ wn := Nat.le_trans List.count_le_length (by rw [List.length_take]; exact Nat.min_le_left _ _)
def rsteps (ord : List (Int × Int)) (rows : List (List (Int × Bool))) (st : List Int × Nat) : List Int × Nat := rows.foldl (rstep ord) st
def clen (cs : List Int) : List Int := (rsteps (srt (pairs cs cs.length)) (prow ((srt (pairs cs cs.length)).map (·.1)) 15).1.reverse (List.replicate cs.length 0, 2 * (srt (pairs cs cs.length)).length - 2)).1
theorem rsteps_length (ord : List (Int × Int)) (rows : List (List (Int × Bool))) : ∀ st : List Int × Nat, (rsteps ord rows st).1.length = st.1.length := by
  induction rows with
  | nil => intro st; rfl
  | cons r q ih => intro st; rw [show rsteps ord (r :: q) st = rsteps ord q (rstep ord st r) from rfl, ih]; exact bumps_length _ _
theorem rsteps_snoc (ord : List (Int × Int)) (rows : List (List (Int × Bool))) (r : List (Int × Bool)) (st : List Int × Nat) : rsteps ord (rows ++ [r]) st = rstep ord (rsteps ord rows st) r := by
  simp [rsteps, List.foldl_append]
theorem intsAre_rep (n : Nat) (t : Tok) : IntsAre (List.replicate n (Value.int 0 t)) (List.replicate n 0) := by
  induction n with
  | zero => exact .nil
  | succ n ih => exact .cons _ _ ih
theorem carried_bools : ∀ bs : List Bool, CarriedAll (bs.map Value.bool) (bs.map PyData.bool)
  | [] => .nil
  | b :: bs => .cons (.bool b) (carried_bools bs)
theorem countIn_bools (k : Bool) : ∀ bs : List Bool, PySem.Spec.countIn (.bool k) (bs.map PyData.bool) = (bs.count k : Nat)
  | [] => rfl
  | b :: bs => by
    rw [List.map_cons, PySem.Spec.countIn, countIn_bools k bs, List.count_cons]
    simp only [PySem.Spec.same]
    rcases Bool.eq_false_or_eq_true (b == k) with hb | hb <;> simp only [hb, Bool.false_eq_true, if_true, if_false] <;> push_cast <;> omega
theorem bv_take (row : List (Int × Bool)) (k : Nat) : (bv row).take k = ((row.map (·.2)).take k).map Value.bool := by
  simp [bv, List.map_take, Function.comp_def]
theorem count_bv {prog : Program} {w : World} {A : Around} {E : Value → Shared → Prop} {s : Shared} {h₀ : Heap} {L : Addr} {news : List (Addr × Obj)} {l : Addr} {row : List (Int × Bool)} {k n : Nat} {Q : Value → Shared → Prop} (N : News h₀ L s.heap news) (hl : (l, listOf ((bv row).take k).toArray n) ∈ news)
    (h : ∀ t tk, Q (.int (leavesOf k row : Nat) t) { s with toks := tk }) : wpAny (model prog w) A (call (.builtin "list.count") [.ref l, .bool true]) Q E s := by
  have hL := isList_M N hl
  rw [bv_take] at hL
  refine count_list_bools hL (CarriedAll.reads s.heap (carried_bools _)) (List.all_eq_true.mpr fun x hx => by obtain ⟨b, _, rfl⟩ := List.mem_map.mp hx; rfl) ?_
  rw [countIn_bools]
  exact h _ _
theorem code_lengths_K {prog p₀ : Program} {lo : List Str} {w : World} {s : Shared} {base h₀ : Heap} {A₀ : Around} {env : Env} {outer : List Env} {gs : Option (List Code)} {dp un : Nat} {L la : Addr} {m mg mb : Str → Option Value}
  {news : List (Addr × Obj)} {mean : ExcName → Option Value} {E : Value → Shared → Prop} {Q : Value → Shared → Prop} {cv : List Value} {cs : List Int} {n1 : Nat} {tm : Tok}
  (B : Below A₀ base outer h₀) (F : Fr h₀ L s.heap m) (X : (hd.heap_39 w.params).In h₀) (N : News h₀ L s.heap news) (T : Top p₀ lo mean mg mb h₀)
  (hf : env.frame = some L) (hke : env.scope.kind = .function) (hdp : dp < 700) (hu : un < 800)
  (hl : (la, listOf cv.toArray n1) ∈ news) (il : IntsAre cv cs) (zl : cs.length < 400) (z2 : 2 ≤ (pairs cs cs.length).length) (z64 : (pairs cs cs.length).length < 64)
  (hQ : ∀ r c lv T' h' tk, Fr h₀ L h' m → News h₀ L h' ((r, listOf lv.toArray c) :: T') → (∀ p ∈ news, p ∈ T') → (∀ p ∈ news, p.1 < r) → IntsAre lv (clen cs) →
    Q (.ref r) { s with heap := h', toks := tk }) :
  wpAny (model prog w) ⟨none, dp, some (env :: outer), gs, un⟩ (call (.ref 78) [.ref la, .int 15 tm]) Q E s := by
  refine wpAny_call ?_
  refine' code_defC ?k1 ?k2 ?k3 ?k4 ?k5 ?kA ?kF ?kK ?k6 ?k7 ?k8 ?k9 ?kB ?kD ?_ ?c2 ?c3 ?c4
  case k1 => exact B
  case k2 => exact F
  case k3 => exact X
  case k4 => exact N
  case k5 => exact T
  case kA => exact rfl
  case kF => exact hf
  case kK => exact hke
  case k6 => k_is
  case k7 => k_is
  case k8 => show dp < 1000; omega
  case k9 => exact BindsTo.of_eq rfl
  case kB => exact rfl
  case kD => decide +kernel
  case c2 => exact rfl
  case c3 => exact rfl
  case c4 => exact rfl
  intro g' L' h' tk' cells' FG' F' N' Y' B' X' T' l1
  obtain ⟨o', hE', d1'⟩ := CellsAre.one Y'
  subst hE'
  clear Y'
  simp only [List.cons_append, List.nil_append] at N'
  dsimp only
  k_fold
  k_steps
  unfold Halt
  rename Fr g' _ _ _ => F1
  rename News g' _ _ _ => N1
  refine LCt.ListComp_T (F₀ := F1) (by with_unfolding_all rfl) (by decide) (by rfl) (by decide) (by rfl) ?_
  k_steps
  unfold Halt
  rename Fr g' _ _ _ => F2
  rename News g' _ _ _ => N2
  rename IsRange _ _ _ _ _ _ _ _ => R2
  refine LCt.CompSrcT.range (n := cs.length) rfl F2 (News.sub (l' := (L' + 1, o') :: news) N2 ?_) R2 (small_one (by decide) (by decide) (by omega) (by omega)) (by rw [rangeSize_nat]; simp) (by rw [sizeLine_eq]; omega) (fun gg => ?_)
  · exact all_cons (by k_mem) (fun p hp => by k_mem)
  refine comp_restT (fun i ys nx => ∃ T, nx = (L' + 1, o') :: T ∧ (∀ p ∈ news, p ∈ T) ∧ (∀ p ∈ T, @Ne Nat p.1 (L' + 1)) ∧ PairsIn T ys (pairs cs i)) ⟨news, rfl, fun p hp => hp, fun p hp => Nat.ne_of_lt (Nat.lt_succ_of_lt (l1 p hp)), .nil⟩ ?_ ?_
  · rintro i v ys nx I oI C oC D m₂ h tk E' hi ⟨t, rfl⟩ ⟨T, rfl, e1, e2, e3⟩ hC hx F3 N3 off ⟨ne1, ne2, ne3⟩
    have hlT : (la, listOf cv.toArray n1) ∈ T := e1 _ hl
    k_steps
    unfold Halt
    have ei : (0 + (i : Int)).toNat = i := by omega
    by_cases hp : 0 < cs.getD i 0
    · refine WhlIf.yes (by rw [ei]; exact decide_eq_true hp) ?_
      k_steps
      unfold Halt
      rename Fr g' _ _ _ => F4
      rename News g' _ _ _ => N4
      rename (I < _ ∧ _) => q
      rename Addr => ta
      obtain ⟨q1, q2, q3, q4, q5⟩ := q
      rw [ei, Int.zero_add] at N4
      refine LCg.CompEnd.intro F4 N4 ((L' + 1, o') :: (ta, tup2 (cs.getD i 0) i _ t) :: T) (all_cons (by k_mem) (all_cons (by k_mem) (all_cons (by k_mem) (all_cons (by k_mem) (all_cons (.head _) fun p hp => by k_mem))))) ⟨off.1, ⟨Ne.symm (Nat.ne_of_lt q1), Ne.symm (Nat.ne_of_lt q2), Ne.symm (Nat.ne_of_lt q3)⟩, off.2⟩ trivial
        ⟨(ta, tup2 (cs.getD i 0) i _ t) :: T, rfl, fun p hp => .tail _ (e1 p hp), all_cons (Ne.symm (Nat.ne_of_lt q4)) e2, ?_⟩
      rw [pairs_yes hp]
      exact (e3.mono fun p hp => .tail _ hp).snoc (.head _)
    · refine WhlIf.no (by rw [ei]; exact decide_eq_false hp) ?_
      refine LCg.CompEnd.intro F3 N3 _ (fun p hp => hp) off trivial ⟨T, rfl, e1, e2, ?_⟩
      rw [pairs_no hp]; exact e3
  · rintro ys nx ⟨T, rfl, e1, e2, e3⟩ D h tk F3 N3 off
    clear F2 N2 R2
    obtain ⟨f1, f2⟩ := off
    k_steps
    unfold Halt
    refine sorted_M (T := T) F3 N3 (.head _) e3 (fun p hp => .tail _ (.tail _ hp)) z2 z64 ?_
    intro a vs' c h' F4 N4 e4 l2
    have hlT : (la, listOf cv.toArray n1) ∈ T := e1 _ hl
    clear F3 N3
    have z4 := e4.length
    rw [srt_length (by omega)] at z4
    k_steps
    unfold Halt
    rename Fr g' _ _ _ => F5
    rename News g' _ _ _ => N5
    refine mul_M F5 N5 (.head _) (Int.natCast_nonneg _) (by omega) ?_
    clear F5 N5
    intro lp h' F5 N5 l5
    have q0 := allLt_of l5
    k_steps
    all_goals try (exfalso; omega)
    unfold Halt
    rename Fr g' _ _ _ => F5
    rename News g' _ _ _ => N5
    refine LCp.ListComp_P (F₀ := F5) (by with_unfolding_all rfl) (by decide) (by rfl) (by decide) (by rfl) (by rfl) (by decide) ?_
    k_steps
    unfold Halt
    rename Fr g' _ _ _ => F5
    rename News g' _ _ _ => N5
    obtain ⟨ord, hord⟩ : ∃ o, o = srt (pairs cs cs.length) := ⟨_, rfl⟩
    rw [← hord] at e4
    have hom : ∀ p ∈ ord, 0 ≤ p.2 ∧ p.2 < cs.length := fun p hp => pairs_mem (srt_mem (by omega) (hord ▸ hp))
    have z5 : ord.length = vs'.length := e4.length.symm
    refine LCp.SrcLP.ledger rfl F5 N5 (by k_mem) (by rw [sizeLine_eq, List.size_toArray]; omega) (fun gg => ?_)
    refine comp_restP (fun i ys nx => nx = _ ∧ IntsAre ys ((ord.take i).map (·.1))) ⟨rfl, .nil⟩ ?_ ?_
    · rintro i v ys nx hi hv ⟨rfl, hys⟩
      rw [List.size_toArray] at hi
      obtain ⟨ta, t1, t2, _, e6, e7⟩ := e4.get i (by omega)
      rw [List.getElem?_toArray, e6] at hv
      cases hv
      refine ⟨ta, _, _, _, _, rfl, .tail _ (.tail _ (.tail _ (.tail _ (.tail _ e7)))), rfl, rfl, ?_⟩
      intro I oI C oC D' m₂ h tk E' hC hx hx2 F6 N6 off ne
      k_steps
      unfold Halt
      refine LCg.CompEnd.intro F6 N6 _ (fun p hp => hp) off (.inr ⟨_, by k_mem, rfl, _, rfl⟩) ⟨rfl, ?_⟩
      rw [List.take_add_one, List.getElem?_eq_getElem (by omega), List.map_append]
      refine IntsAre.append hys ?_
      have e8 : ord.getD i (0, 0) = ord[i] := by simp [List.getD, show i < ord.length by omega]
      rw [← e8]
      exact .cons _ _ .nil
    · rintro ys nx ⟨rfl, hys⟩ D2 h tk F6 N6 off
      rw [List.size_toArray, ← z5, List.take_length] at hys
      clear F5 N5
      k_steps
      unfold Halt
      rename Fr g' _ _ _ => F6
      rename News g' _ _ _ => N6
      refine package_rows_K (ls := ord.map (·.1)) (n1 := ys.length) B' F6 X' N6 T' rfl rfl (show dp + 1 < 800 by omega) (show un + 3 < 900 by omega) (by k_mem) hys (by rw [List.length_map]; omega) (by decide) ?_
      clear F6 N6
      intro rr rc fl T2 h' tk F6 N6 u1 u2 l3
      obtain ⟨q1, q2, q3, q4, q5⟩ := q0
      have ha2 := u1 _ (.tail _ (.tail _ (.tail _ (.head _))))
      have hp2 := u1 _ (.tail _ (.head _))
      have zc : cs.length = (cs.length - 1) + 1 := by have := pairs_len cs cs.length; omega
      rw [Int.toNat_natCast, zc] at hp2
      have u3 : RowsIn (cut lp T2) fl _ := u2.cut fun b r hb => row_ne (News.sub N6 fun p hp => .tail _ hp) hp2 hb
      have hT3 : ∀ p ∈ T, p ∈ cut lp T2 := fun p hp => cut_mem (u1 _ (.tail _ (.tail _ (.tail _ (.tail _ (.tail _ (.tail _ hp))))))) (Nat.ne_of_lt (allLt_lt q5 p hp))
      have hT3n : ∀ p ∈ cut lp T2, p.1 ≠ lp := fun p hp => cut_ne hp
      have ha3 := cut_mem ha2 (show @Ne Nat a lp from Nat.ne_of_lt q2)
      have hlr : @LT.lt Nat _ lp rr := l3 _ (.tail _ (.head _))
      replace N6 := News.sub (l' := (rr, listOf (fl.map Value.ref).toArray rc) :: (lp, listOf (List.replicate cs.length (Value.int 0 _)).toArray 0) :: cut lp T2) N6 (all_cons (.head _) (all_cons (.tail _ (by rw [zc]; exact hp2)) fun p hp => .tail _ (cut_sub hp)))
      generalize hT3e : cut lp T2 = T3 at *
      k_steps
      unfold Halt
      refine For_any ?_
      k_steps
      unfold Halt
      rename Fr g' _ _ _ => F7
      rename News g' _ _ _ => N7
      rename_i I7 h7 l7
      have zf : fl.length = 15 := u3.length.trans (prow_rows _ _)
      obtain ⟨rows, hrows⟩ : ∃ r, r = (prow (ord.map (·.1)) 15).1 := ⟨_, rfl⟩
      rw [← hrows] at u3
      have zr : rows.length = 15 := u3.length.symm.trans zf
      have hw0 : (((2 * ord.length - 2 : Nat)) : Int) = 2 * (vs'.length : Int) - 2 := by omega
      refine iter_rev (vs := fl.map Value.ref) (nn := rc) (fun i m nx => ∃ (lv : List Value) (lc : Nat) (tw : Tok), IntsAre lv (rsteps ord (rows.reverse.take i) (List.replicate cs.length 0, 2 * ord.length - 2)).1 ∧
        Nm m [(Str.ofString "order", .ref a), (Str.ofString "lengths", .ref lp), (Str.ofString "rows", .ref rr), (Str.ofString "wanted", .int (rsteps ord (rows.reverse.take i) (List.replicate cs.length 0, 2 * ord.length - 2)).2 tw)] ∧
        nx = (rr, listOf (fl.map Value.ref).toArray rc) :: (lp, listOf lv.toArray lc) :: T3) rfl (.head _) F7 N7 (allLt_ne (l := _ :: _ :: T3) (by assumption)) ?_ ?_ (by passes_own) ?_ ?_
      · exact ⟨_, _, _, intsAre_rep _ _, ⟨rfl, rfl, rfl, (congrArg (fun z : Int => some (Value.int z _)) hw0).symm, trivial⟩, rfl⟩
      · rintro i m nx ⟨lv, lc, tw, e1, e2, rfl⟩
        exact .head _
      · rintro i v m nx h tk oI hi hv ⟨lv, lc, tw, w1, w2, rfl⟩ hoff F8 N8
        rw [List.length_map, zf] at hi
        obtain ⟨b, v1, v2⟩ := u3.get (rows.length - 1 - i) (by omega)
        rw [List.length_map, List.getElem?_map, zf, ← zr, v1] at hv
        cases hv
        rw [rev_take (d := []) (by omega), rsteps_snoc]
        have hrow : (rows.getD (rows.length - 1 - i) []).length ≤ 128 := by
          have e : rows.getD (rows.length - 1 - i) [] = rows[rows.length - 1 - i] := by simp [List.getD, show rows.length - 1 - i < rows.length by omega]
          have hm : rows[rows.length - 1 - i] ∈ rows := List.getElem_mem _
          have := prow_row_len (ord.map (·.1)) 15 (rows[rows.length - 1 - i]) (by rw [← hrows]; exact hm)
          rw [List.length_map] at this
          rw [e]
          omega
        generalize rows.getD (rows.length - 1 - i) [] = row at *
        have zst : (rsteps ord (rows.reverse.take i) (List.replicate cs.length 0, 2 * ord.length - 2)).1.length = cs.length := by rw [rsteps_length, List.length_replicate]
        generalize rsteps ord (rows.reverse.take i) (List.replicate cs.length 0, 2 * ord.length - 2) = st at *
        replace F8 := Fr.named _ w2 F8
        have zb := bv_len row
        clear F7 N7
        k_steps
        unfold Halt
        rename Fr g' _ _ _ => F9
        rename News g' _ _ _ => N9
        rw [Int.toNat_natCast] at N9
        refine count_bv N9 (.head _) ?_
        intro tl tkl
        k_steps
        unfold Halt
        refine For_any ?_
        k_steps
        unfold Halt
        rename Fr g' _ _ _ => F10
        rename News g' _ _ _ => N10
        rename_i sl h10 l10
        have q10 := l10
        obtain ⟨p1, p2, p3, p4, p5⟩ := q10
        rw [Int.toNat_natCast] at N10
        obtain ⟨k, hk⟩ : ∃ k, k = leavesOf st.2 row := ⟨_, rfl⟩
        rw [← hk] at N10
        have zk : k ≤ st.2 := hk ▸ leavesOf_le _ _
        have hT3e4 : PairsIn T3 vs' ord := e4.mono hT3
        refine iter_any (vs := (vs'.take k).toArray) (nn := 0) (fun j m nx => ∃ (lv : List Value) (lc : Nat), IntsAre lv (bumps (ord.take (min j k)) st.1) ∧
          Nm m [(Str.ofString "order", .ref a), (Str.ofString "lengths", .ref lp), (Str.ofString "rows", .ref rr), (Str.ofString "wanted", .int st.2 tw), (Str.ofString "leaves", .int k tl)] ∧
          nx = (sl, listOf (vs'.take k).toArray 0) :: (I7, oI) :: (rr, listOf (fl.map Value.ref).toArray rc) :: (lp, listOf lv.toArray lc) :: T3) rfl (.head _) F10
          (News.sub (l' := (sl, listOf (vs'.take k).toArray 0) :: (I7, oI) :: (rr, listOf (fl.map Value.ref).toArray rc) :: (lp, listOf lv.toArray lc) :: T3) N10 (all_cons (.head _) (all_cons (by k_mem) (all_cons (by k_mem) (all_cons (by k_mem) fun p hp => by k_mem))))) ?_ ?_ (by passes_own) ?_ ?_ ?_
        · refine ⟨lv, lc, ?_, ⟨rfl, rfl, rfl, rfl, by rw [hk]; rfl, trivial⟩, rfl⟩
          rw [Nat.zero_min]
          exact w1
        · rintro i m nx ⟨lv, lc, e1, e2, rfl⟩
          exact .head _
        · rintro j v m nx h tk I oI2 hv ⟨lv, lc, y1, y2, rfl⟩ hI1 hoff2 F11 N11
          rw [List.getElem?_toArray] at hv
          have hjk : j < k := by
            by_cases e : j < k
            · exact e
            · rw [List.getElem?_take, if_neg e] at hv; cases hv
          rw [List.getElem?_take, if_pos hjk] at hv
          have hjl := (List.getElem?_eq_some_iff.mp hv).1
          obtain ⟨ta, t1, t2, _, e6, e7⟩ := hT3e4.get j (by omega)
          rw [e6] at hv
          cases hv
          replace F11 := Fr.named _ y2 F11
          have hol : j < ord.length := by omega
          have e9 : ord.getD j (0, 0) = ord[j] := by simp [List.getD, hol]
          have hsy := hom _ (e9 ▸ List.getElem_mem hol)
          have hnx : bumps (ord.take (min (j + 1) k)) st.1 = bump (bumps (ord.take (min j k)) st.1) (ord.getD j (0, 0)).2 := by
            rw [Nat.min_eq_left (by omega), Nat.min_eq_left (by omega), List.take_add_one, List.getElem?_eq_getElem hol, e9]
            simp only [bumps, List.foldl_append, Option.toList, List.foldl_cons, List.foldl_nil]
          rw [hnx]
          have zL : (bumps (ord.take (min j k)) st.1).length = cs.length := by rw [bumps_length, ← zst]
          generalize bumps (ord.take (min j k)) st.1 = Ls at *
          obtain ⟨sy, hsy0⟩ : ∃ x, x = (ord.getD j (0, 0)).2 := ⟨_, rfl⟩
          rw [← hsy0] at hsy e7 ⊢
          obtain ⟨hsy1, hsy2⟩ := hsy
          obtain ⟨g1, g2, g3, g4, g5⟩ := allLt_of hI1
          dsimp only at g1 g2 g3 g4
          k_steps
          unfold Halt
          rename Fr g' _ _ _ => F12
          rename News g' _ _ _ => N12
          rename IntsAre (List.set _ _ _) _ => y3
          refine TurnEnd.intro _ F12 N12 (.head _) (fun p hp => .tail _ hp) (all_cons (by k_ne) (all_cons (by k_ne) (all_cons (by k_ne) (all_cons (by k_ne) (lt_ne (allLt_lt g5)))))) ⟨_, _, y3, ⟨rfl, rfl, rfl, rfl, rfl, trivial⟩, rfl⟩
        · rintro m nx h tk ⟨lv, lc, y1, y2, rfl⟩ F11 N11
          replace F11 := Fr.named _ y2 F11
          have y4 : bumps (ord.take (min (vs'.take k).toArray.size k)) st.1 = (rstep ord st row).1 := by
            rw [List.size_toArray, List.length_take]
            show _ = bumps (ord.take (leavesOf st.2 row)) st.1
            rw [← hk]
            by_cases e : k ≤ vs'.length
            · rw [Nat.min_eq_left e, Nat.min_self]
            · rw [List.take_of_length_le (by omega), List.take_of_length_le (by omega)]
          rw [y4] at y1
          clear N10 F10
          dsimp only
          k_steps
          unfold Halt
          rename Fr g' _ _ _ => F12
          rename News g' _ _ _ => N12
          have y5 : (((rstep ord st row).2 : Nat) : Int) = 2 * ((st.2 : Int) - (k : Int)) := by
            show ((2 * (st.2 - leavesOf st.2 row) : Nat) : Int) = _
            rw [← hk]; omega
          refine TurnEnd.intro ((rr, listOf (fl.map Value.ref).toArray rc) :: (lp, listOf lv.toArray lc) :: T3) F12 N12 (by k_mem) (all_cons (by k_mem) (all_cons (by k_mem) fun p hp => by k_mem)) (all_cons (by k_ne) (all_cons (by k_ne) (allLt_ne (l := T3) l7.2.2))) ⟨_, _, _, y1, ⟨rfl, rfl, rfl, (congrArg (fun z : Int => some (Value.int z _)) y5).symm, trivial⟩, rfl⟩
        · intro i v I j s' Q' E' hit hv hQ
          rw [List.getElem?_toArray] at hv
          have hv3 : v ∈ vs' := List.mem_of_mem_take (List.mem_of_getElem? hv)
          obtain ⟨j2, hj2, e2⟩ := List.getElem_of_mem hv3
          obtain ⟨ta, t1, t2, _, e6, e7⟩ := e4.get j2 (by omega)
          rw [List.getElem?_eq_getElem hj2, e2] at e6
          cases e6
          exact wpAny_letOwnedTupleGo_listiter hit hQ
      · rintro m nx h tk ⟨lv, lc, tw, w1, w2, rfl⟩ F8 N8
        replace F8 := Fr.named _ w2 F8
        clear F7 N7
        rw [List.length_map, zf, List.take_of_length_le (by rw [List.length_reverse]; omega)] at w1
        dsimp only
        k_steps
        rename Fr h₀ _ _ _ => kF
        rename News h₀ _ _ _ => kN
        refine hQ lp lc lv T3 _ _ kF (News.sub kN (all_cons (by k_mem) fun p hp => by k_mem)) (fun p hp => hT3 _ (e1 p hp)) (fun p hp => allLt_lt q5 p (e1 p hp)) ?_
        rw [hrows, hord] at w1
        exact w1
theorem code_lengths_Z {prog p₀ : Program} {lo : List Str} {w : World} {s : Shared} {base h₀ : Heap} {A₀ : Around} {env : Env} {outer : List Env} {gs : Option (List Code)} {dp un : Nat} {L la : Addr} {m mg mb : Str → Option Value}
  {news : List (Addr × Obj)} {mean : ExcName → Option Value} {E : Value → Shared → Prop} {Q : Value → Shared → Prop} {cv : List Value} {cs : List Int} {n1 : Nat} {tm : Tok}
  (B : Below A₀ base outer h₀) (F : Fr h₀ L s.heap m) (X : (hd.heap_39 w.params).In h₀) (N : News h₀ L s.heap news) (T : Top p₀ lo mean mg mb h₀)
  (hf : env.frame = some L) (hke : env.scope.kind = .function) (hdp : dp < 700) (hu : un < 800)
  (hl : (la, listOf cv.toArray n1) ∈ news) (il : IntsAre cv cs) (zl : cs.length < 400) (z0 : ∀ i < cs.length, ¬ 0 < cs.getD i 0)
  (hQ : ∀ r c lv T' h' tk, Fr h₀ L h' m → News h₀ L h' ((r, listOf lv.toArray c) :: T') → (∀ p ∈ news, p ∈ T') → (∀ p ∈ news, p.1 < r) → IntsAre lv (List.replicate cs.length 0) →
    Q (.ref r) { s with heap := h', toks := tk }) :
  wpAny (model prog w) ⟨none, dp, some (env :: outer), gs, un⟩ (call (.ref 78) [.ref la, .int 15 tm]) Q E s := by
  refine wpAny_call ?_
  refine' code_defC ?k1 ?k2 ?k3 ?k4 ?k5 ?kA ?kF ?kK ?k6 ?k7 ?k8 ?k9 ?kB ?kD ?_ ?c2 ?c3 ?c4
  case k1 => exact B
  case k2 => exact F
  case k3 => exact X
  case k4 => exact N
  case k5 => exact T
  case kA => exact rfl
  case kF => exact hf
  case kK => exact hke
  case k6 => k_is
  case k7 => k_is
  case k8 => show dp < 1000; omega
  case k9 => exact BindsTo.of_eq rfl
  case kB => exact rfl
  case kD => decide +kernel
  case c2 => exact rfl
  case c3 => exact rfl
  case c4 => exact rfl
  intro g' L' h' tk' cells' FG' F' N' Y' B' X' T' l1
  obtain ⟨o', hE', d1'⟩ := CellsAre.one Y'
  subst hE'
  clear Y'
  simp only [List.cons_append, List.nil_append] at N'
  dsimp only
  k_fold
  k_steps
  unfold Halt
  rename Fr g' _ _ _ => F1
  rename News g' _ _ _ => N1
  refine LCt.ListComp_T (F₀ := F1) (by with_unfolding_all rfl) (by decide) (by rfl) (by decide) (by rfl) ?_
  k_steps
  unfold Halt
  rename Fr g' _ _ _ => F2
  rename News g' _ _ _ => N2
  rename IsRange _ _ _ _ _ _ _ _ => R2
  refine LCt.CompSrcT.range (n := cs.length) rfl F2 (News.sub (l' := (L' + 1, o') :: news) N2 ?_) R2 (small_one (by decide) (by decide) (by omega) (by omega)) (by rw [rangeSize_nat]; simp) (by rw [sizeLine_eq]; omega) (fun gg => ?_)
  · exact all_cons (by k_mem) (fun p hp => by k_mem)
  refine comp_restT (fun i ys nx => nx = (L' + 1, o') :: news ∧ ys = []) ⟨rfl, rfl⟩ ?_ ?_
  · rintro i v ys nx I oI C oC D m₂ h tk E' hi ⟨t, rfl⟩ ⟨rfl, rfl⟩ hC hx F3 N3 off ⟨ne1, ne2, ne3⟩
    k_steps
    unfold Halt
    have ei : (0 + (i : Int)).toNat = i := by omega
    refine WhlIf.no (by rw [ei]; exact decide_eq_false (z0 i hi)) ?_
    exact LCg.CompEnd.intro F3 N3 _ (fun p hp => hp) off trivial ⟨rfl, rfl⟩
  · rintro ys nx ⟨rfl, rfl⟩ D h tk F3 N3 off
    clear F2 N2 R2
    obtain ⟨f1, f2⟩ := off
    k_steps
    unfold Halt
    refine kso_sorted (vs := []) (ns := []) F3 N3 (isList_M N3 (.head _)) .nil (by decide) ?_
    intro a vs' ns' c h' F4 N4 l2 i4 e4 _ _ _
    have e5 : ns' = [] := List.length_eq_zero_iff.mp e4
    subst e5
    cases i4
    clear F3 N3
    k_steps
    unfold Halt
    rename Fr g' _ _ _ => F5
    rename News g' _ _ _ => N5
    refine mul_M F5 N5 (.head _) (Int.natCast_nonneg _) (by omega) ?_
    clear F5 N5
    intro lp h' F5 N5 l5
    have q0 := allLt_of l5
    k_steps
    all_goals try (exfalso; omega)
    rename Fr h₀ _ _ _ => kF
    rename News h₀ _ _ _ => kN
    rw [Int.toNat_natCast] at kN
    refine hQ lp 0 _ news _ _ kF (News.sub kN (all_cons (by k_mem) fun p hp => by k_mem)) (fun p hp => hp) (fun p hp => l5 p (by grind)) (intsAre_rep _ _)
end
section
local macro_rules | `(tactic| walk_at "binaryOp Mult ref int") => `(tactic| refine unhalt ?_)
def tally (ps : List Int) (L : List Int) : List Int := ps.foldl bump L
theorem tally_length (ps : List Int) : ∀ L : List Int, (tally ps L).length = L.length := by
  induction ps with
  | nil => intro L; rfl
  | cons p r ih => intro L; rw [show tally (p :: r) L = tally r (bump L p) from rfl, ih, bump_length]
def litOf (ps : List Int) : List Int := (tally ps (List.replicate 286 0)).set 256 1
theorem counts_of_K {prog p₀ : Program} {lo : List Str} {w : World} {s : Shared} {base h₀ : Heap} {A₀ : Around} {env : Env} {outer : List Env} {gs : Option (List Code)} {dp un : Nat} {L pa : Addr} {m mg mb : Str → Option Value}
  {news : List (Addr × Obj)} {mean : ExcName → Option Value} {E : Value → Shared → Prop} {Q : Value → Shared → Prop} {pv : List Value} {ps : List Int} {n1 : Nat}
  (B : Below A₀ base outer h₀) (F : Fr h₀ L s.heap m) (X : (hd.heap_39 w.params).In h₀) (N : News h₀ L s.heap news) (T : Top p₀ lo mean mg mb h₀)
  (hf : env.frame = some L) (hke : env.scope.kind = .function) (hdp : dp < 900) (hu : un < 900)
  (hp : (pa, listOf pv.toArray n1) ∈ news) (ip : IntsAre pv ps) (zp : ps.length < 100000) (hb : ∀ x ∈ ps, 0 ≤ x ∧ x < 256)
  (hQ : ∀ r a b lv dv c1 c2 h' tk, Fr h₀ L h' m → News h₀ L h' ((r, tupOf [.ref a, .ref b]) :: (b, listOf dv.toArray c2) :: (a, listOf lv.toArray c1) :: news) → IntsAre lv (litOf ps) → IntsAre dv (List.replicate 30 0) → (∀ p ∈ news, p.1 < a) → @LT.lt Nat _ a b → @LT.lt Nat _ b r →
    Q (.ref r) { s with heap := h', toks := tk }) :
  wpAny (model prog w) ⟨none, dp, some (env :: outer), gs, un⟩ (call (.ref 106) [.ref pa]) Q E s := by
  refine wpAny_call ?_
  refine' code_def ?k1 ?k2 ?k3 ?k4 ?k5 ?kA ?kF ?kK ?k6 ?k7 ?k8 ?k9 ?kB ?_ ?c2 ?c3 ?c4 ?c5
  case k1 => exact B
  case k2 => exact F
  case k3 => exact X
  case k4 => exact N
  case k5 => exact T
  case kA => exact rfl
  case kF => exact hf
  case kK => exact hke
  case k6 => k_is
  case k7 => k_is
  case k8 => show dp < 1000; omega
  case k9 => exact BindsTo.of_eq rfl
  case kB => exact locs rfl
  case c2 => exact rfl
  case c3 => exact rfl
  case c4 => exact rfl
  case c5 => decide
  intro g' L' h' FG' F' N' B' X' T'
  dsimp only
  k_fold
  k_steps
  unfold Halt
  rename Fr g' _ _ _ => F1
  rename News g' _ _ _ => N1
  refine mul_M F1 N1 (.head _) (by decide) (by decide) ?_
  clear F1 N1
  intro li h' F1 N1 l1
  have q1 := allLt_of l1
  k_steps
  unfold Halt
  rename Fr g' _ _ _ => F1
  rename News g' _ _ _ => N1
  refine mul_M F1 N1 (.head _) (by decide) (by decide) ?_
  clear F1 N1
  intro di h' F1 N1 l2
  have q2 := allLt_of l2
  k_steps
  unfold Halt
  rename Fr g' _ _ _ => F1
  rename News g' _ _ _ => N1
  refine For_invVF F1 rfl rfl ?_
  k_steps
  unfold Halt
  rename News g' _ _ _ => N1
  obtain ⟨q1a, q1b⟩ := q1
  obtain ⟨q2a, q2b, q2c, q2d⟩ := q2
  have hld : @LT.lt Nat _ li di := q2b
  rename Fr g' _ _ _ => F1
  refine iter_led (vs := pv.toArray) (nn := n1) (fun i m nx => ∃ (lv dv : List Value) (lc dc : Nat), IntsAre lv (tally (ps.take i) (List.replicate 286 0)) ∧ IntsAre dv (List.replicate 30 0) ∧
    Nm m [(Str.ofString "parts", .ref pa), (Str.ofString "literals", .ref li), (Str.ofString "distances", .ref di)] ∧
    nx = (di, listOf dv.toArray dc) :: (li, listOf lv.toArray lc) :: news) rfl (by k_mem) F1 (News.sub (l' := (di, listOf (List.replicate 30 (Value.int 0 _)).toArray 0) :: (li, listOf (List.replicate 286 (Value.int 0 _)).toArray 0) :: news) N1 (all_cons (by k_mem) (all_cons (by k_mem) fun p hp => by k_mem))) ?_ ?_ ?_ ?_
  · exact ⟨_, _, _, _, intsAre_rep _ _, intsAre_rep _ _, ⟨rfl, rfl, rfl, trivial⟩, rfl⟩
  · rintro i m nx ⟨lv, dv, lc, dc, e1, e2, e3, rfl⟩
    exact .tail _ (.tail _ hp)
  · rintro i v m nx h tk I oI hv ⟨lv, dv, lc, dc, e1, e2, e3, rfl⟩ hI1 hI2 F2 N2
    replace F2 := Fr.named1 _ e3 F2
    obtain ⟨x, tx, rfl, hx⟩ := ip.at i v (by simpa using hv)
    have hil : i < ps.length := (List.getElem?_eq_some_iff.mp hx).1
    have hxb := hb x (List.mem_of_getElem? hx)
    have hnx : tally (ps.take (i + 1)) (List.replicate 286 0) = bump (tally (ps.take i) (List.replicate 286 0)) x := by
      rw [List.take_add_one, hx]
      simp only [tally, List.foldl_append, Option.toList, List.foldl_cons, List.foldl_nil]
    rw [hnx]
    have zL : (tally (ps.take i) (List.replicate 286 0)).length = 286 := by rw [tally_length, List.length_replicate]
    generalize tally (ps.take i) (List.replicate 286 0) = Ls at *
    obtain ⟨hx1, hx2⟩ := hxb
    have g0 := allLt_of hI1
    obtain ⟨g1, g2, g3⟩ := g0
    dsimp only at g1 g2
    k_steps
    unfold Halt
    rename Fr g' _ _ _ => F3
    rename News g' _ _ _ => N3
    rename IntsAre (List.set _ _ _) _ => y3
    refine TurnEnd.intro _ F3 N3 (.head _) (fun p hp => .tail _ hp) (all_cons (Nat.ne_of_lt g1) (all_cons (Nat.ne_of_lt g2) (lt_ne (allLt_lt g3)))) ⟨_, _, _, _, y3, e2, ⟨rfl, rfl, rfl, trivial⟩, rfl⟩
  · rintro m nx h tk ⟨lv, dv, lc, dc, e1, e2, e3, rfl⟩ F2 N2
    replace F2 := Fr.named _ e3 F2
    clear F1 N1
    have zL : (tally ps (List.replicate 286 0)).length = 286 := by rw [tally_length, List.length_replicate]
    rw [List.size_toArray, ip.length, List.take_length] at e1
    dsimp only
    k_steps
    rename Fr h₀ _ _ _ => kF
    rename News h₀ _ _ _ => kN
    rename IntsAre (List.set _ _ _) _ => y3
    rename (di < _ ∧ li < _ ∧ AllLt _ news) => l9
    exact hQ _ li di _ dv _ _ _ _ kF (News.sub kN fun p hp => hp) y3 e2 (allLt_lt q1b) hld l9.1
end
section
local macro_rules | `(tactic| walk_at "eval ListComp") => `(tactic| refine unhalt ?_)
local macro_rules | `(tactic| walk_at "CompSrcT") => `(tactic| refine unhalt ?_)
local macro_rules | `(tactic| walk_at "call type:list") => `(tactic| refine unhalt ?_)
theorem with_two_K {prog p₀ : Program} {lo : List Str} {w : World} {s : Shared} {base h₀ : Heap} {A₀ : Around} {env : Env} {outer : List Env} {gs : Option (List Code)} {dp un : Nat} {L la : Addr} {m mg mb : Str → Option Value}
  {news : List (Addr × Obj)} {mean : ExcName → Option Value} {E : Value → Shared → Prop} {Q : Value → Shared → Prop} {cv : List Value} {cs : List Int} {n1 : Nat}
  (B : Below A₀ base outer h₀) (F : Fr h₀ L s.heap m) (X : (hd.heap_39 w.params).In h₀) (N : News h₀ L s.heap news) (T : Top p₀ lo mean mg mb h₀)
  (hf : env.frame = some L) (hke : env.scope.kind = .function) (hdp : dp < 900) (hu : un < 900)
  (hl : (la, listOf cv.toArray n1) ∈ news) (il : IntsAre cv cs) (zl : cs.length < 400) (z2 : 2 ≤ (cs.filter fun c => decide (0 < c)).length)
  (hQ : ∀ r c fv h' tk, Fr h₀ L h' m → News h₀ L h' ((r, listOf fv.toArray c) :: news) → (∀ p ∈ news, p.1 < r) → IntsAre fv cs →
    Q (.ref r) { s with heap := h', toks := tk }) :
  wpAny (model prog w) ⟨none, dp, some (env :: outer), gs, un⟩ (call (.ref 111) [.ref la]) Q E s := by
  refine wpAny_call ?_
  refine' code_def ?k1 ?k2 ?k3 ?k4 ?k5 ?kA ?kF ?kK ?k6 ?k7 ?k8 ?k9 ?kB ?_ ?c2 ?c3 ?c4 ?c5
  case k1 => exact B
  case k2 => exact F
  case k3 => exact X
  case k4 => exact N
  case k5 => exact T
  case kA => exact rfl
  case kF => exact hf
  case kK => exact hke
  case k6 => k_is
  case k7 => k_is
  case k8 => show dp < 1000; omega
  case k9 => exact BindsTo.of_eq rfl
  case kB => exact locs rfl
  case c2 => exact rfl
  case c3 => exact rfl
  case c4 => exact rfl
  case c5 => decide
  intro g' L' h' FG' F' N' B' X' T'
  dsimp only
  k_fold
  k_steps
  unfold Halt
  rename Fr g' _ _ _ => F1
  rename News g' _ _ _ => N1
  have zi := il.length
  refine list_copyK F1 N1 (isList_M N1 hl) ?_ (by rw [sizeLine_eq, List.size_toArray]; omega)
  clear F1 N1
  intro fo fc h' F1 N1 l1
  have hfl : (la, listOf cv.toArray n1) ∈ (fo, listOf cv.toArray fc) :: news := .tail _ hl
  k_steps
  unfold Halt
  rename Fr g' _ _ _ => F2
  rename News g' _ _ _ => N2
  refine LCt.ListComp_T (F₀ := F2) (by with_unfolding_all rfl) (by decide) (by rfl) (by decide) (by rfl) ?_
  k_steps
  unfold Halt
  rename Fr g' _ _ _ => F2
  rename News g' _ _ _ => N2
  refine LCt.CompSrcT.ledger rfl F2 N2 (by k_mem) (by rw [sizeLine_eq, List.size_toArray]; omega) (fun gg => ?_)
  refine comp_restT (fun i ys nx => nx = _ ∧ IntsAre ys ((cs.take i).filter fun c => decide (0 < c))) ⟨rfl, .nil⟩ ?_ ?_
  · rintro i v ys nx I oI C oC D m₂ h tk E' hi hv ⟨rfl, hys⟩ hC hx F3 N3 off ⟨ne1, ne2, ne3⟩
    obtain ⟨x, tx, rfl, hx'⟩ := il.at i v (by simpa using hv)
    have e1 : cs.take (i + 1) = cs.take i ++ [x] := by rw [List.take_add_one, hx']; rfl
    k_steps
    unfold Halt
    by_cases hp : 0 < x
    · refine WhlIf.yes (decide_eq_true hp) ?_
      k_steps
      refine LCg.CompEnd.intro F3 N3 _ (fun p hp => hp) off (.inr ⟨_, by k_mem, rfl, _, rfl⟩) ⟨rfl, ?_⟩
      rw [e1, List.filter_append, List.filter_cons_of_pos (by simpa using hp)]
      exact IntsAre.append hys (.cons _ _ .nil)
    · refine WhlIf.no (decide_eq_false hp) ?_
      refine LCg.CompEnd.intro F3 N3 _ (fun p hp => hp) off (.inr ⟨_, by k_mem, rfl, _, rfl⟩) ⟨rfl, ?_⟩
      rw [e1, List.filter_append, List.filter_cons_of_neg (by simpa using hp)]
      simpa using hys
  · rintro ys nx ⟨rfl, hys⟩ D h tk F3 N3 off
    rw [List.size_toArray, zi, List.take_length] at hys
    clear F2 N2
    have z5 : (cs.filter fun c => decide (0 < c)).length < 400 := Nat.lt_of_le_of_lt (List.length_filter_le _ _) zl
    k_steps
    unfold Halt
    rename Fr g' _ _ _ => F4
    rename News g' _ _ _ => N4
    refine while_led (fun n m nx => m = _ ∧ nx = (fo, listOf cv.toArray fc) :: news) 0 F4 (News.sub N4 fun p hp => .tail _ hp) ⟨rfl, rfl⟩ (by passes_own) ?_
    clear F4 N4
    rintro n m nx h tk ⟨rfl, rfl⟩ F4 N4
    k_steps
    unfold Halt
    refine WhlIf.no (decide_eq_false (by omega)) ?_
    k_steps
    rename Fr h₀ _ _ _ => kF
    rename News h₀ _ _ _ => kN
    exact hQ fo _ _ _ _ kF kN l1 il
end
section
local macro_rules | `(tactic| walk_at "call ref") => `(tactic| refine unhalt ?_)
theorem pairs_filter (cs : List Int) : (cs.filter fun c => decide (0 < c)).length = (pairs cs cs.length).length := by
  have key : ∀ n, n ≤ cs.length → ((cs.take n).filter fun c => decide (0 < c)).length = (pairs cs n).length := by
    intro n
    induction n with
    | zero => intro _; rfl
    | succ n ih =>
      intro h
      have e : cs.getD n 0 = cs[n] := by simp [List.getD, show n < cs.length by omega]
      rw [List.take_add_one, List.getElem?_eq_getElem (by omega), List.filter_append, List.length_append, ih (by omega)]
      by_cases hp : 0 < cs.getD n 0
      · rw [pairs_yes hp, ← e]
        simp only [Option.toList]
        rw [List.filter_cons_of_pos (by simpa using hp)]
        simp
      · rw [pairs_no hp, ← e]
        simp only [Option.toList]
        rw [List.filter_cons_of_neg (by simpa using hp)]
        simp
  have := key cs.length (Nat.le_refl _)
  rwa [List.take_length] at this
theorem litOf_length (ps : List Int) : (litOf ps).length = 286 := by rw [litOf, List.length_set, tally_length, List.length_replicate]
theorem lengths_for_K {prog p₀ : Program} {lo : List Str} {w : World} {s : Shared} {base h₀ : Heap} {A₀ : Around} {env : Env} {outer : List Env} {gs : Option (List Code)} {dp un : Nat} {L pa : Addr} {m mg mb : Str → Option Value}
  {news : List (Addr × Obj)} {mean : ExcName → Option Value} {E : Value → Shared → Prop} {Q : Value → Shared → Prop} {pv : List Value} {ps : List Int} {n1 : Nat}
  (B : Below A₀ base outer h₀) (F : Fr h₀ L s.heap m) (X : (hd.heap_39 w.params).In h₀) (N : News h₀ L s.heap news) (T : Top p₀ lo mean mg mb h₀)
  (hf : env.frame = some L) (hke : env.scope.kind = .function) (hdp : dp < 600) (hu : un < 700)
  (hp : (pa, listOf pv.toArray n1) ∈ news) (ip : IntsAre pv ps) (zp : ps.length < 100000) (hb : ∀ x ∈ ps, 0 ≤ x ∧ x < 256)
  (z2 : 2 ≤ (pairs (litOf ps) 286).length) (z64 : (pairs (litOf ps) 286).length < 64)
  (hQ : ∀ r a b lv dv c1 c2 T' h' tk, Fr h₀ L h' m → News h₀ L h' ((r, tupOf [.ref a, .ref b]) :: (b, listOf dv.toArray c2) :: T') → (a, listOf lv.toArray c1) ∈ T' → (∀ p ∈ news, p ∈ T') → IntsAre lv (clen (litOf ps)) → IntsAre dv (List.replicate 30 0) → (∀ p ∈ news, p.1 < a) → @LT.lt Nat _ a b → @LT.lt Nat _ b r →
    Q (.ref r) { s with heap := h', toks := tk }) :
  wpAny (model prog w) ⟨none, dp, some (env :: outer), gs, un⟩ (call (.ref 118) [.ref pa]) Q E s := by
  refine wpAny_call ?_
  refine' code_def ?k1 ?k2 ?k3 ?k4 ?k5 ?kA ?kF ?kK ?k6 ?k7 ?k8 ?k9 ?kB ?_ ?c2 ?c3 ?c4 ?c5
  case k1 => exact B
  case k2 => exact F
  case k3 => exact X
  case k4 => exact N
  case k5 => exact T
  case kA => exact rfl
  case kF => exact hf
  case kK => exact hke
  case k6 => k_is
  case k7 => k_is
  case k8 => show dp < 1000; omega
  case k9 => exact BindsTo.of_eq rfl
  case kB => exact locs rfl
  case c2 => exact rfl
  case c3 => exact rfl
  case c4 => exact rfl
  case c5 => decide
  intro g' L' h' FG' F' N' B' X' T'
  dsimp only
  k_fold
  have zlit := litOf_length ps
  k_steps
  unfold Halt
  rename Fr g' _ _ _ => F1
  rename News g' _ _ _ => N1
  refine counts_of_K B' F1 X' N1 T' rfl rfl (show dp + 1 < 900 by omega) (show un + 3 < 900 by omega) hp ip zp hb ?_
  clear F1 N1
  intro ct li di lv dv c1 c2 h' tk F1 N1 i1 i2 k1 k2 k3
  k_steps
  unfold Halt
  rename Fr g' _ _ _ => F1
  rename News g' _ _ _ => N1
  refine with_two_K (cs := litOf ps) B' F1 X' N1 T' rfl rfl (show dp + 1 < 900 by omega) (show un + 3 < 900 by omega) (by k_mem) i1 (by omega) (by rw [pairs_filter, zlit]; exact z2) ?_
  clear F1 N1
  intro fo c3 fv h' tk F1 N1 k4 i3
  k_steps
  unfold Halt
  rename Fr g' _ _ _ => F1
  rename News g' _ _ _ => N1
  refine code_lengths_K (cs := litOf ps) B' F1 X' N1 T' rfl rfl (show dp + 1 < 700 by omega) (show un + 3 < 800 by omega) (.head _) i3 (by omega) (by rw [zlit]; exact z2) (by rw [zlit]; exact z64) ?_
  clear F1 N1
  intro ra c4 lv2 T2 h' tk F1 N1 u1 k5 i4
  have hd2 := u1 _ (.tail _ (.tail _ (.head _)))
  k_steps
  unfold Halt
  rename Fr g' _ _ _ => F1
  rename News g' _ _ _ => N1
  refine code_lengths_Z (cs := List.replicate 30 0) B' F1 X' N1 T' rfl rfl (show dp + 1 < 700 by omega) (show un + 3 < 800 by omega) (.tail _ hd2) i2 (by decide) (by decide) ?_
  clear F1 N1
  intro rb c5 dv2 T3 h' tk F1 N1 u2 k6 i5
  have ha2 := u2 _ (.head _)
  k_steps
  rename Fr h₀ _ _ _ => kF
  rename News h₀ _ _ _ => kN
  rename (rb < _ ∧ AllLt _ T3) => k7
  refine hQ _ ra rb lv2 dv2 c4 c5 T3 _ _ kF (News.sub kN (all_cons (by k_mem) (all_cons (by k_mem) fun p hp => by k_mem))) ha2 (fun p hp => u2 _ (.tail _ (u1 _ (.tail _ (.tail _ (.tail _ (.tail _ hp))))))) i4 i5 (fun p hp => k5 p (.tail _ (.tail _ (.tail _ (.tail _ hp))))) (k6 _ (.head _)) k7.1
end
section
local macro_rules | `(tactic| walk_at "eval ListComp") => `(tactic| refine unhalt ?_)
local macro_rules | `(tactic| walk_at "CompSrc") => `(tactic| refine unhalt ?_)
local macro_rules | `(tactic| walk_at "call builtin:sorted") => `(tactic| refine unhalt ?_)
local macro_rules | `(tactic| walk_at "subscriptTail Name Constant ref int") => `(tactic| refine unhalt ?_)
local macro_rules | `(tactic| walk_at "subscriptTail Subscript Constant ref int") => `(tactic| refine unhalt ?_)
local macro_rules | `(tactic| walk_at "subscriptTail Name Constant ref int") => `(tactic| ((with_reducible show wpAny _ _ (subscriptTail _ _ (Value.ref _) (Value.int 0 _)) _ _ _); k_dflt (refine' item_t0 ?N ?l ?_ ?s; (case N => k_asm); (case l => k_mem); (case s => with_unfolding_all rfl); k_whole)))
local macro_rules | `(tactic| walk_at "subscriptTail Name Constant ref int") => `(tactic| ((with_reducible show wpAny _ _ (subscriptTail _ _ (Value.ref _) (Value.int 1 _)) _ _ _); k_dflt (refine' item_t1 ?N ?l ?_ ?s; (case N => k_asm); (case l => k_mem); (case s => with_unfolding_all rfl); k_whole)))
def jj (a b : Int × Int) : Int × Int := (a.1 + b.1, (if b.2 > a.2 then b.2 else a.2) + 1)
def jstep (st : List (Int × Int) × Int) : List (Int × Int) × Int := (srt (st.1.drop 2 ++ [jj (st.1.getD 0 (0, 0)) (st.1.getD 1 (0, 0))]), st.2 + (st.1.getD 0 (0, 0)).1 + (st.1.getD 1 (0, 0)).1)
def jrun (st : List (Int × Int) × Int) : Nat → List (Int × Int) × Int
  | 0 => st
  | n + 1 => jstep (jrun st n)
def zer (cs : List Int) : List (Int × Int) := cs.map fun c => (c, 0)
def joined (cs : List Int) : Int × Int := let r := jrun (srt (zer cs), 0) (cs.length - 1); (r.2, (r.1.getD 0 (0, 0)).2)
theorem joined_K {prog p₀ : Program} {lo : List Str} {w : World} {s : Shared} {base h₀ : Heap} {A₀ : Around} {env : Env} {outer : List Env} {gs : Option (List Code)} {dp un : Nat} {L la : Addr} {m mg mb : Str → Option Value}
  {news : List (Addr × Obj)} {mean : ExcName → Option Value} {E : Value → Shared → Prop} {Q : Value → Shared → Prop} {cv : List Value} {cs : List Int} {n1 : Nat}
  (B : Below A₀ base outer h₀) (F : Fr h₀ L s.heap m) (X : (hd.heap_39 w.params).In h₀) (N : News h₀ L s.heap news) (T : Top p₀ lo mean mg mb h₀)
  (hf : env.frame = some L) (hke : env.scope.kind = .function) (hdp : dp < 900) (hu : un < 900)
  (hl : (la, listOf cv.toArray n1) ∈ news) (il : IntsAre cv cs) (zl : cs.length < 60) (z1 : 1 ≤ cs.length)
  (hQ : ∀ r t u T' h' tk, Fr h₀ L h' m → News h₀ L h' ((r, tup2 (joined cs).1 (joined cs).2 t u) :: T') → (∀ p ∈ news, p ∈ T') → (∀ p ∈ news, p.1 < r) →
    Q (.ref r) { s with heap := h', toks := tk }) :
  wpAny (model prog w) ⟨none, dp, some (env :: outer), gs, un⟩ (call (.ref 130) [.ref la]) Q E s := by
  refine wpAny_call ?_
  refine' code_def ?k1 ?k2 ?k3 ?k4 ?k5 ?kA ?kF ?kK ?k6 ?k7 ?k8 ?k9 ?kB ?_ ?c2 ?c3 ?c4 ?c5
  case k1 => exact B
  case k2 => exact F
  case k3 => exact X
  case k4 => exact N
  case k5 => exact T
  case kA => exact rfl
  case kF => exact hf
  case kK => exact hke
  case k6 => k_is
  case k7 => k_is
  case k8 => show dp < 1000; omega
  case k9 => exact BindsTo.of_eq rfl
  case kB => exact locs rfl
  case c2 => exact rfl
  case c3 => exact rfl
  case c4 => exact rfl
  case c5 => decide
  intro g' L' h' FG' F' N' B' X' T'
  dsimp only
  k_fold
  have zi := il.length
  k_steps
  unfold Halt
  rename Fr g' _ _ _ => F1
  rename News g' _ _ _ => N1
  have l1 := lt_new N1
  refine LCg.ListComp_U (F₀ := F1) (by with_unfolding_all rfl) (by decide) (by rfl) (by decide) (by rfl) ?_
  k_steps
  unfold Halt
  rename Fr g' _ _ _ => F1
  rename News g' _ _ _ => N1
  refine LCg.CompSrc.ledger rfl F1 N1 hl (by rw [sizeLine_eq, List.size_toArray]; omega) (fun gg => ?_)
  refine comp_rest (fun i ys nx => (∀ p ∈ news, p ∈ nx) ∧ PairsIn nx ys (zer (cs.take i))) ⟨fun p hp => hp, .nil⟩ ?_ ?_
  · rintro i v ys nx I oI C oC D m₂ h tk E' hi hv ⟨e1, e2⟩ hC hx F3 N3 off ⟨ne1, ne2, ne3⟩
    obtain ⟨x, tx, rfl, hx'⟩ := il.at i v (by simpa using hv)
    have e0 : cs.take (i + 1) = cs.take i ++ [x] := by rw [List.take_add_one, hx']; rfl
    k_steps
    unfold Halt
    rename Fr g' _ _ _ => F4
    rename News g' _ _ _ => N4
    rename (I < _ ∧ _) => q
    obtain ⟨q1, q2, q3, q4⟩ := q
    refine LCg.CompEnd.intro F4 N4 (_ :: nx) (all_cons (by k_mem) (all_cons (by k_mem) (all_cons (by k_mem) (all_cons (.head _) fun p hp => by k_mem)))) ⟨⟨Ne.symm (Nat.ne_of_lt q1), Ne.symm (Nat.ne_of_lt q2), Ne.symm (Nat.ne_of_lt q3)⟩, off⟩ (.inr ⟨_, .tail _ (e1 _ hl), rfl, _, rfl⟩) ⟨fun p hp => .tail _ (e1 p hp), ?_⟩
    rw [e0, zer, List.map_append]
    exact (e2.mono fun p hp => .tail _ hp).snoc (.head _)
  · rintro ys nx ⟨e1, e2⟩ D h tk F3 N3 off
    rw [List.size_toArray, zi, List.take_length] at e2
    clear F1 N1
    k_steps
    unfold Halt
    have zz : (zer cs).length = cs.length := by simp [zer]
    refine sorted_P (T := nx) F3 N3 (.head _) e2 (fun p hp => .tail _ hp) (by omega) (by omega) ?_
    intro a vs' c h' F4 N4 e4 l2
    clear F3 N3
    have z0 : (srt (zer cs)).length = cs.length := by rw [srt_length (by omega), zz]
    k_steps
    unfold Halt
    rename Fr g' _ _ _ => F5
    rename News g' _ _ _ => N5
    refine while_led (fun n m nx' => ∃ (i : Nat) (T : List (Addr × Obj)) (ln : Addr) (vs : List Value) (c : Nat) (tt : Tok), n = cs.length - 1 - i ∧ i + 1 ≤ cs.length ∧ (jrun (srt (zer cs), 0) i).1.length = cs.length - i ∧ PairsIn T vs (jrun (srt (zer cs), 0) i).1 ∧
      (∀ p ∈ news, p ∈ T) ∧ (∀ p ∈ T, p.1 < ln) ∧ Nm m [(Str.ofString "line", .ref ln), (Str.ofString "total", .int (jrun (srt (zer cs), 0) i).2 tt)] ∧ nx' = (ln, listOf vs.toArray c) :: T) (cs.length - 1) F5 (News.sub (l' := (a, listOf vs'.toArray c) :: nx) N5 (all_cons (.head _) fun p hp => by k_mem))
      ⟨0, nx, a, vs', c, _, rfl, z1, z0, e4, e1, fun p hp => l2 p (.tail _ hp), ⟨rfl, rfl, trivial⟩, rfl⟩ (by passes_own) ?_
    clear F5 N5
    rintro n m nx' h tk ⟨i, T2, ln, vs, c2, tt, rfl, hi, y1, y2, y3, y4, y5, rfl⟩ F5 N5
    replace F5 := Fr.named _ y5 F5
    have y6 := y2.length
    k_steps
    unfold Halt
    by_cases hlt : i + 1 < cs.length
    · refine WhlIf.yes (decide_eq_true (by omega)) ?_
      k_steps
      unfold Halt
      rename Fr g' _ _ _ => F6
      rename News g' _ _ _ => N6
      refine item_pair N6 (.head _) y2 (by decide) (by omega) (by omega) ?_
      intro a1 t1 u1 hm1
      obtain ⟨st, hst⟩ : ∃ st, st = jrun (srt (zer cs), 0) i := ⟨_, rfl⟩
      rw [← hst] at y1 y2 hm1 y6
      obtain ⟨p1, hp1⟩ : ∃ p, p = st.1.getD 0 (0, 0) := ⟨_, rfl⟩
      replace hm1 : (a1, tup2 p1.1 p1.2 t1 u1) ∈ T2 := hp1 ▸ hm1
      k_steps
      unfold Halt
      rename Fr g' _ _ _ => F6
      rename News g' _ _ _ => N6
      refine item_pair N6 (.head _) y2 (by decide) (by omega) (by omega) ?_
      intro a2 t2 u2 hm2
      obtain ⟨p2, hp2⟩ : ∃ p, p = st.1.getD 1 (0, 0) := ⟨_, rfl⟩
      replace hm2 : (a2, tup2 p2.1 p2.2 t2 u2) ∈ T2 := hp2 ▸ hm2
      k_steps
      unfold Halt
      rename Fr g' _ _ _ => F7
      rename News g' _ _ _ => N7
      have hpn : ∀ (a : Addr) (t u : Tok), PairsIn ((a, tup2 (jj p1 p2).1 (jj p1 p2).2 t u) :: T2) (vs.drop 2 ++ [Value.ref a]) (st.1.drop 2 ++ [jj p1 p2]) := fun a t u => ((y2.drop 2).mono fun p hp => .tail _ hp).snoc (.head _)
      have hz : (st.1.drop 2 ++ [jj p1 p2]).length = cs.length - (i + 1) := by
        rw [List.length_append, List.length_drop, List.length_singleton]; omega
      refine sorted_P F7 N7 (.head _) (hpn _ _ _) (all_cons (by k_mem) fun p hp => by k_mem) (by omega) (by omega) ?_
      intro ln2 vs2 c3 h' F8 N8 y7 l3
      clear F7 N7
      k_steps
      unfold Halt
      rename Fr g' _ _ _ => F9
      rename News g' _ _ _ => N9
      have hnx : jrun (srt (zer cs), 0) (i + 1) = (srt (st.1.drop 2 ++ [jj p1 p2]), st.2 + p1.1 + p2.1) := by
        show jstep (jrun (srt (zer cs), 0) i) = _
        rw [← hst, hp1, hp2]; rfl
      have hnx2 : (jrun (srt (zer cs), 0) (i + 1)).2 = (jrun (srt (zer cs), 0) i).2 + p1.1 + p2.1 := by rw [hnx, hst]
      obtain ⟨T3, v1, v2, v3, N10⟩ : ∃ T3, PairsIn T3 vs2 (srt (st.1.drop 2 ++ [jj p1 p2])) ∧ (∀ p ∈ T2, p ∈ T3) ∧ (∀ p ∈ T3, p.1 < ln2) ∧ News g' L' _ ((ln2, listOf vs2.toArray c3) :: T3) :=
        ⟨_, y7, fun p hp => .tail _ hp, all_cons (l3 _ (by k_mem)) (fun p hp => l3 p (by k_mem)), News.sub N9 (all_cons (.head _) (all_cons (by k_mem) fun p hp => by k_mem))⟩
      refine WEnd.intro (cs.length - 1 - (i + 1)) ((ln2, listOf vs2.toArray c3) :: T3) F9 N10 (fun p hp => hp) (by omega)
        ⟨i + 1, T3, ln2, vs2, c3, _, rfl, by omega, ?_, ?_, fun p hp => v2 _ (y3 p hp), v3, ⟨rfl, (congrArg (fun z : Int => some (Value.int z _)) hnx2).symm, trivial⟩, rfl⟩
      · rw [hnx]
        show (srt _).length = _
        rw [srt_length (by omega), hz]
      · rw [hnx]; exact v1
    · refine WhlIf.no (decide_eq_false (by omega)) ?_
      k_steps
      unfold Halt
      rename Fr g' _ _ _ => F6
      rename News g' _ _ _ => N6
      refine item_pair N6 (.head _) y2 (by decide) (by omega) (by omega) ?_
      intro a1 t1 u1 hm1
      k_steps
      rename Fr h₀ _ _ _ => kF
      rename News h₀ _ _ _ => kN
      have ei : i = cs.length - 1 := by omega
      subst ei
      rename (ln < _ ∧ AllLt _ T2) => l9
      exact hQ _ _ _ T2 _ _ kF (News.sub kN (all_cons (.head _) fun p hp => by k_mem)) y3 (fun p hp => allLt_lt l9.2 p (y3 p hp))
end
def fibs (b : Int) : Nat → List Int
  | 0 => [1, 1 + b]
  | n + 1 => fibs b n ++ [(fibs b n).getD (n + 1) 0 + (fibs b n).getD n 0]
theorem fibs_length (b : Int) : ∀ n, (fibs b n).length = n + 2
  | 0 => rfl
  | n + 1 => by simp [fibs, fibs_length b n]
theorem intsAre_repv (n : Nat) (x : Int) (t : Tok) : IntsAre (List.replicate n (Value.int x t)) (List.replicate n x) := by
  induction n with
  | zero => exact .nil
  | succ n ih => exact .cons _ _ ih
theorem fibs_bound {b : Int} (h0 : 0 ≤ b) (h2 : b < 2) {n : Nat} (hn : n < 15) (k : Nat) : 0 ≤ (fibs b n).getD k 0 ∧ (fibs b n).getD k 0 ≤ 2000 := by
  have key : ∀ n < 15, (fibs b n).all (fun x => decide (0 ≤ x ∧ x ≤ 2000)) = true := by
    have : b = 0 ∨ b = 1 := by omega
    rcases this with rfl | rfl <;> decide +kernel
  have h := List.all_eq_true.mp (key n hn)
  by_cases hk : k < (fibs b n).length
  · have e : (fibs b n).getD k 0 = (fibs b n)[k] := by simp [List.getD, hk]
    rw [e]
    exact of_decide_eq_true (h _ (List.getElem_mem hk))
  · have e : (fibs b n).getD k 0 = 0 := by simp [List.getD, hk]
    rw [e]; decide
def partsOf (g : Int) (T : List Int) : Nat → List Int
  | 0 => []
  | i + 1 => partsOf g T i ++ List.replicate (T.getD i 0).toNat (g + i)
theorem partsOf_length {g : Int} {T : List Int} (h : ∀ k, 0 ≤ T.getD k 0 ∧ T.getD k 0 ≤ 2000) : ∀ i, (partsOf g T i).length ≤ 2000 * i
  | 0 => Nat.le_refl _
  | i + 1 => by
    have := partsOf_length (g := g) h i
    have := h i
    rw [partsOf, List.length_append, List.length_replicate]
    omega
def dueAt (g k : Int) (T : List Int) (s : Int) : Int := if g ≤ s ∧ s < g + k then T.getD (s - g).toNat 0 else if s = 256 then 1 else 0
def dueL (g k : Int) (T : List Int) (n : Nat) : List Int := (List.range n).map fun s => dueAt g k T (s : Nat)
theorem dueAt_in {g k : Int} {T : List Int} {s : Int} (h1 : g ≤ s) (h2 : s < g + k) : T.getD (s - g).toNat 0 = dueAt g k T s := by rw [dueAt, if_pos ⟨h1, h2⟩]
theorem dueAt_end {g k : Int} {T : List Int} {s : Int} (h1 : ¬ (g ≤ s ∧ s < g + k)) (h2 : s = 256) : 1 = dueAt g k T s := by rw [dueAt, if_neg h1, if_pos h2]
theorem dueAt_out {g k : Int} {T : List Int} {s : Int} (h1 : ¬ (g ≤ s ∧ s < g + k)) (h2 : ¬ s = 256) : 0 = dueAt g k T s := by rw [dueAt, if_neg h1, if_neg h2]
theorem dueL_succ (g k : Int) (T : List Int) (n : Nat) : dueL g k T (n + 1) = dueL g k T n ++ [dueAt g k T (n : Nat)] := by
  simp [dueL, List.range_succ]
theorem intsOne {x y : Int} {t : Tok} (h : x = y) : IntsAre [Value.int x t] [y] := by
  subst h; exact .cons _ _ .nil
theorem parts_mem {g : Int} {T : List Int} : ∀ (i : Nat) (x : Int), x ∈ partsOf g T i → g ≤ x ∧ x < g + i
  | 0, _, h => nomatch h
  | i + 1, x, h => by
    rcases List.mem_append.mp h with h | h
    · have := parts_mem i x h
      omega
    · rw [List.eq_of_mem_replicate h]
      omega
def usedOf (l : List Int) (n : Nat) : List Int := ((List.range n).filter fun i => decide (0 < l.getD i 0)).map fun (i : Nat) => (i : Int)
theorem used_yes {l : List Int} {i : Nat} (h : 0 < l.getD i 0) : usedOf l (i + 1) = usedOf l i ++ [(i : Int)] := by
  simp only [usedOf, List.range_succ, List.filter_append, List.map_append]
  rw [List.filter_cons_of_pos (by simpa using h)]
  rfl
theorem used_no {l : List Int} {i : Nat} (h : ¬ 0 < l.getD i 0) : usedOf l (i + 1) = usedOf l i := by
  simp only [usedOf, List.range_succ, List.filter_append, List.map_append]
  rw [List.filter_cons_of_neg (by simpa using h)]
  simp
theorem used_mem {l : List Int} {n : Nat} {x : Int} (h : x ∈ usedOf l n) : 0 ≤ x ∧ x < n ∧ 0 < l.getD x.toNat 0 := by
  obtain ⟨i, hi, rfl⟩ := List.mem_map.mp h
  have h1 := List.mem_filter.mp hi
  have h2 : i < n := by simpa using h1.1
  have h3 := of_decide_eq_true h1.2
  exact ⟨Int.natCast_nonneg _, by omega, by simpa using h3⟩
def shOf (l : List Int) (u : List Int) : List Int := (u.filter fun x => decide (l.getD x.toNat 0 < 16)).map fun x => 1 * 2 ^ (15 - l.getD x.toNat 0).toNat
theorem sh_yes {l u : List Int} {x : Int} (h : l.getD x.toNat 0 < 16) : shOf l (u ++ [x]) = shOf l u ++ [1 * 2 ^ (15 - l.getD x.toNat 0).toNat] := by
  simp only [shOf, List.filter_append, List.map_append]
  rw [List.filter_cons_of_pos (by simpa using h)]
  rfl
theorem sh_no {l u : List Int} {x : Int} (h : ¬ l.getD x.toNat 0 < 16) : shOf l (u ++ [x]) = shOf l u := by
  simp only [shOf, List.filter_append, List.map_append]
  rw [List.filter_cons_of_neg (by simpa using h)]
  simp
def costOf (d l : List Int) (u : List Int) : List Int := u.map fun x => d.getD x.toNat 0 * l.getD x.toNat 0
def getOf (d : List Int) (u : List Int) : List Int := u.map fun x => d.getD x.toNat 0
theorem clen_length (cs : List Int) : (clen cs).length = cs.length := by rw [clen, rsteps_length, List.length_replicate]
def Kp (p : Prop) : Prop := p
theorem krun_congr {α : Type} {N : Nat} {P : α → Prop} {lt lt' : Nat → Nat → Bool} (hc : ∀ i j, i < N → j < N → lt i j = lt' i j) : ∀ t : KasT α, KAll N P t → KRun lt t = KRun lt' t
  | .ret _, _ => rfl
  | .ask i j k, h => by
    rw [KRun, KRun, hc i j h.1 h.2.1]
    exact krun_congr hc (k (lt' i j)) (h.2.2 _)
def sy (g : Int) (k i : Nat) : Int := if i < k then g + (i : Int) else 256
def wt (T : List Int) (k i : Nat) : Int := if i < k then T.getD i 0 else 1
def pg (g : Int) (T : List Int) (k : Nat) : List (Int × Int) := (List.range (k + 1)).map fun i => (wt T k i, sy g k i)
theorem pg_length (g : Int) (T : List Int) (k : Nat) : (pg g T k).length = k + 1 := by simp [pg]
theorem pg_get {g : Int} {T : List Int} {k i : Nat} (h : i < k + 1) : (pg g T k).getD i (0, 0) = (wt T k i, sy g k i) := by
  simp [pg, List.getD, List.getElem?_map, List.getElem?_range h]
theorem sy_lt {g : Int} {k i j : Nat} (g0 : 0 ≤ g) (gk : g + k ≤ 256) : decide (sy g k i < sy g k j) = decide (sy 0 k i < sy 0 k j) := by
  unfold sy
  apply decide_eq_decide.mpr
  by_cases a : i < k <;> by_cases b : j < k <;> simp only [if_pos, if_neg, a, b, not_false_eq_true] <;> constructor <;> intro h <;> omega
theorem sy_inj {g : Int} {k i j : Nat} (g0 : 0 ≤ g) (gk : g + k ≤ 256) (hi : i < k + 1) (hj : j < k + 1) : (sy g k i).toNat = (sy g k j).toNat ↔ i = j := by
  unfold sy
  constructor
  · intro h
    split at h <;> split at h <;> omega
  · intro h; rw [h]
theorem srtP_pg {g : Int} {T : List Int} {k : Nat} (g0 : 0 ≤ g) (gk : g + k ≤ 256) : srtP (pg g T k) = srtP (pg 0 T k) := by
  unfold srtP
  rw [pg_length, pg_length]
  refine krun_congr (N := k + 1) (fun i j hi hj => ?_) _ (all_sort (Nat.succ_pos _))
  rw [pg_get hi, pg_get hj, pg_get hi, pg_get hj]
  unfold lexLt
  dsimp only
  rw [sy_lt g0 gk]
def pm (T : List Int) (k : Nat) : List Nat := (srtP (pg 0 T k)).toList
theorem pm_lt {T : List Int} {k : Nat} : ∀ i ∈ pm T k, i < k + 1 := fun i hi => by
  have := srtP_lt (l := pg 0 T k) (by rw [pg_length]; omega) i hi
  rwa [pg_length] at this
theorem srt_pg {g : Int} {T : List Int} {k : Nat} (g0 : 0 ≤ g) (gk : g + k ≤ 256) : srt (pg g T k) = (pm T k).map fun i => (wt T k i, sy g k i) := by
  unfold srt
  rw [srtP_pg g0 gk]
  exact List.map_congr_left fun i hi => pg_get (pm_lt i hi)
theorem bump_getD {L : List Int} {x : Int} {s : Nat} (h : s < L.length) : (bump L x).getD s 0 = L.getD s 0 + if x.toNat = s then 1 else 0 := by
  simp only [bump, List.getD, List.getElem?_set]
  by_cases e : x.toNat = s
  · rw [if_pos e, if_pos e, if_pos (by omega), e]; rfl
  · rw [if_neg e, if_neg e, Int.add_zero]
theorem bumps_getD {s : Nat} : ∀ (ord : List (Int × Int)) (L : List Int), s < L.length → (bumps ord L).getD s 0 = L.getD s 0 + ((ord.countP fun p => decide (p.2.toNat = s) : Nat) : Int)
  | [], L, _ => by simp [bumps]
  | p :: r, L, h => by
    rw [show bumps (p :: r) L = bumps r (bump L p.2) from rfl, bumps_getD r _ (by rw [bump_length]; exact h), bump_getD h, List.countP_cons]
    by_cases e : p.2.toNat = s
    · simp only [e, decide_true, if_true]; omega
    · simp only [e, decide_false, if_false]
      rw [if_neg Bool.false_ne_true]; omega
theorem tally_getD {s : Nat} : ∀ (ps : List Int) (L : List Int), s < L.length → (tally ps L).getD s 0 = L.getD s 0 + ((ps.countP fun x => decide (x.toNat = s) : Nat) : Int)
  | [], L, _ => by simp [tally]
  | p :: r, L, h => by
    rw [show tally (p :: r) L = tally r (bump L p) from rfl, tally_getD r _ (by rw [bump_length]; exact h), bump_getD h, List.countP_cons]
    by_cases e : p.toNat = s
    · simp only [e, decide_true, if_true]; omega
    · simp only [e, decide_false, if_false]
      rw [if_neg Bool.false_ne_true]; omega
def lvs : List (List (Int × Bool)) → Nat → List Nat
  | [], _ => []
  | r :: q, w => leavesOf w r :: lvs q (2 * (w - leavesOf w r))
theorem rsteps_getD {ord : List (Int × Int)} {s : Nat} : ∀ (rows : List (List (Int × Bool))) (L : List Int) (w : Nat), s < L.length →
    (rsteps ord rows (L, w)).1.getD s 0 = L.getD s 0 + ((lvs rows w).map fun c => (((ord.take c).countP fun p => decide (p.2.toNat = s) : Nat) : Int)).sum
  | [], L, w, _ => by simp [rsteps, lvs]
  | r :: q, L, w, h => by
    rw [show rsteps ord (r :: q) (L, w) = rsteps ord q (bumps (ord.take (leavesOf w r)) L, 2 * (w - leavesOf w r)) from rfl, rsteps_getD q _ _ (by rw [bumps_length]; exact h), bumps_getD _ _ h, lvs, List.map_cons, List.sum_cons]
    omega
/-- the length of the code at place i of the weights -/
def dl (T : List Int) (k i : Nat) : Int := ((lvs (prow ((pm T k).map (wt T k)) 15).1.reverse (2 * (pm T k).length - 2)).map fun c => ((((pm T k).take c).count i : Nat) : Int)).sum
theorem dueL_get {g k : Int} {T : List Int} {n s : Nat} (h : s < n) : (dueL g k T n).getD s 0 = dueAt g k T (s : Nat) := by
  simp [dueL, List.getD, List.getElem?_map, List.getElem?_range h]
theorem dueL_len {g k : Int} {T : List Int} {n : Nat} : (dueL g k T n).length = n := by simp [dueL]
theorem rep_get {n s : Nat} (h : s < n) : (List.replicate n (0 : Int)).getD s 0 = 0 := by simp [List.getD, h]
theorem sum_zero {α : Type} : ∀ l : List α, (l.map fun _ => (0 : Int)).sum = 0
  | [] => rfl
  | _ :: l => by rw [List.map_cons, List.sum_cons, sum_zero l]; rfl
section
variable {g : Int} {k : Nat} {T : List Int}
theorem ps1 (g0 : 0 ≤ g) (gk : g + k ≤ 256) : ∀ j : Nat, j ≤ g.toNat → pairs (dueL g k T 286) j = []
  | 0, _ => rfl
  | j + 1, h => by
    rw [pairs_no, ps1 g0 gk j (by omega)]
    rw [dueL_get (by omega), dueAt, if_neg (by omega), if_neg (by omega)]; decide
theorem ps2 (g0 : 0 ≤ g) (gk : g + k ≤ 256) (hT : ∀ i < k, 0 < T.getD i 0) : ∀ j : Nat, j ≤ k → pairs (dueL g k T 286) (g.toNat + j) = (List.range j).map fun i => (wt T k i, sy g k i)
  | 0, _ => ps1 g0 gk _ (Nat.le_refl _)
  | j + 1, h => by
    have e : (dueL g k T 286).getD (g.toNat + j) 0 = T.getD j 0 := by
      rw [dueL_get (by omega), dueAt, if_pos (by omega), show (((g.toNat + j : Nat) : Int) - g).toNat = j by omega]
    rw [← Nat.add_assoc, pairs_yes (by rw [e]; exact hT j (by omega)), ps2 g0 gk hT j (by omega), e, List.range_succ, List.map_append, List.map_singleton, wt, if_pos (by omega), sy, if_pos (by omega)]
    congr 3
    omega
theorem ps3 (g0 : 0 ≤ g) (gk : g + k ≤ 256) (hT : ∀ i < k, 0 < T.getD i 0) : ∀ j : Nat, g.toNat + k + j ≤ 256 → pairs (dueL g k T 286) (g.toNat + k + j) = (List.range k).map fun i => (wt T k i, sy g k i)
  | 0, _ => ps2 g0 gk hT k (Nat.le_refl _)
  | j + 1, h => by
    rw [← Nat.add_assoc, pairs_no, ps3 g0 gk hT j (by omega)]
    rw [dueL_get (by omega), dueAt, if_neg (by omega), if_neg (by omega)]; decide
theorem ps4 (g0 : 0 ≤ g) (gk : g + k ≤ 256) (hT : ∀ i < k, 0 < T.getD i 0) : ∀ j : Nat, j ≤ 29 → pairs (dueL g k T 286) (257 + j) = pg g T k
  | 0, _ => by
    have e : (dueL g k T 286).getD 256 0 = 1 := by
      rw [dueL_get (by omega), dueAt, if_neg (by omega), if_pos (by omega)]
    rw [show 257 + 0 = 256 + 1 from rfl, pairs_yes (by rw [e]; decide), e]
    have := ps3 g0 gk hT (256 - (g.toNat + k)) (by omega)
    rw [show g.toNat + k + (256 - (g.toNat + k)) = 256 by omega] at this
    rw [this, pg, List.range_succ, List.map_append, List.map_singleton, wt, if_neg (Nat.lt_irrefl _), sy, if_neg (Nat.lt_irrefl _)]
    rfl
  | j + 1, h => by
    rw [← Nat.add_assoc, pairs_no, ps4 g0 gk hT j (by omega)]
    rw [dueL_get (by omega), dueAt, if_neg (by omega), if_neg (by omega)]; decide
theorem pairs_pg (g0 : 0 ≤ g) (gk : g + k ≤ 256) (hT : ∀ i < k, 0 < T.getD i 0) : pairs (dueL g k T 286) 286 = pg g T k := ps4 g0 gk hT 29 (Nat.le_refl _)
theorem count_sy (g0 : 0 ≤ g) (gk : g + k ≤ 256) {i : Nat} (hi : i < k + 1) : ∀ l : List Nat, (∀ j ∈ l, j < k + 1) →
    (l.map fun j => (wt T k j, sy g k j)).countP (fun p => decide (p.2.toNat = (sy g k i).toNat)) = l.count i
  | [], _ => rfl
  | j :: l, h => by
    rw [List.map_cons, List.countP_cons, List.count_cons, count_sy g0 gk hi l fun x hx => h x (.tail _ hx)]
    congr 1
    dsimp only
    have e := sy_inj g0 gk (h j (.head _)) hi
    by_cases e2 : j = i
    · simp [e2]
    · simp [mt e.mp e2, e2]
theorem count_no {s : Nat} (hs : ∀ i < k + 1, (sy g k i).toNat ≠ s) : ∀ l : List Nat, (∀ j ∈ l, j < k + 1) →
    (l.map fun j => (wt T k j, sy g k j)).countP (fun p => decide (p.2.toNat = s)) = 0
  | [], _ => rfl
  | j :: l, h => by
    rw [List.map_cons, List.countP_cons, count_no hs l fun x hx => h x (.tail _ hx)]
    simp [hs j (h j (.head _))]
theorem clen_eq (g0 : 0 ≤ g) (gk : g + k ≤ 256) (hT : ∀ i < k, 0 < T.getD i 0) : clen (dueL g k T 286) =
    (rsteps ((pm T k).map fun i => (wt T k i, sy g k i)) (prow ((pm T k).map (wt T k)) 15).1.reverse (List.replicate 286 0, 2 * (pm T k).length - 2)).1 := by
  unfold clen
  rw [dueL_len, pairs_pg g0 gk hT, srt_pg g0 gk, List.map_map, List.length_map]
  rfl
theorem clen_sy (g0 : 0 ≤ g) (gk : g + k ≤ 256) (hT : ∀ i < k, 0 < T.getD i 0) {i : Nat} (hi : i < k + 1) : (clen (dueL g k T 286)).getD (sy g k i).toNat 0 = dl T k i := by
  have hs : (sy g k i).toNat < 286 := by unfold sy; split <;> omega
  rw [clen_eq g0 gk hT, rsteps_getD _ _ _ (by rw [List.length_replicate]; exact hs)]
  rw [rep_get hs, Int.zero_add, dl]
  refine congrArg List.sum (List.map_congr_left fun c _ => ?_)
  rw [← List.map_take, count_sy g0 gk hi _ fun j hj => pm_lt j (List.mem_of_mem_take hj)]
theorem clen_no (g0 : 0 ≤ g) (gk : g + k ≤ 256) (hT : ∀ i < k, 0 < T.getD i 0) {s : Nat} (h : s < 286) (hs : ∀ i < k + 1, (sy g k i).toNat ≠ s) : (clen (dueL g k T 286)).getD s 0 = 0 := by
  rw [clen_eq g0 gk hT, rsteps_getD _ _ _ (by rw [List.length_replicate]; exact h)]
  rw [rep_get h, Int.zero_add]
  refine Eq.trans (congrArg List.sum (List.map_congr_left (g := fun _ => (0 : Int)) fun c _ => ?_)) ?_
  · rw [← List.map_take, count_no hs _ fun j hj => pm_lt j (List.mem_of_mem_take hj)]; rfl
  · exact sum_zero _
theorem due_sy (g0 : 0 ≤ g) (gk : g + k ≤ 256) {i : Nat} (hi : i < k + 1) : (dueL g k T 286).getD (sy g k i).toNat 0 = wt T k i := by
  have hs : (sy g k i).toNat < 286 := by unfold sy; split <;> omega
  rw [dueL_get hs]
  unfold dueAt sy wt
  by_cases e : i < k
  · simp only [if_pos e]
    rw [if_pos (by omega), show (((g + (i : Int)).toNat : Int) - g).toNat = i by omega]
  · simp only [if_neg e]
    rw [if_neg (by omega), if_pos (by decide)]
theorem used_due (g0 : 0 ≤ g) (gk : g + k ≤ 256) (hT : ∀ i < k, 0 < T.getD i 0) : usedOf (dueL g k T 286) 286 = (List.range (k + 1)).map (sy g k) := by
  have e : usedOf (dueL g k T 286) 286 = (pairs (dueL g k T 286) 286).map (·.2) := by
    rw [usedOf, pairs, List.map_map]; rfl
  rw [e, pairs_pg g0 gk hT, pg, List.map_map]; rfl
theorem used_eq (g0 : 0 ≤ g) (gk : g + k ≤ 256) (hT : ∀ i < k, 0 < T.getD i 0) (hD : ∀ i < k + 1, 0 < dl T k i) : usedOf (clen (dueL g k T 286)) 286 = usedOf (dueL g k T 286) 286 := by
  unfold usedOf
  refine congrArg (List.map fun i : Nat => (i : Int)) (List.filter_congr fun s hs => ?_)
  have h : s < 286 := List.mem_range.mp hs
  by_cases e : ∃ i, i < k + 1 ∧ (sy g k i).toNat = s
  · obtain ⟨i, hi, rfl⟩ := e
    rw [clen_sy g0 gk hT hi, due_sy g0 gk hi, decide_eq_true (hD i hi), decide_eq_true]
    unfold wt
    split
    · exact hT i (by omega)
    · decide
  · have e2 : ∀ i < k + 1, (sy g k i).toNat ≠ s := fun i hi h => e ⟨i, hi, h⟩
    rw [clen_no g0 gk hT h e2]
    rw [dueL_get h, dueAt, if_neg, if_neg]
    · intro e3
      have := e2 k (by omega)
      rw [sy, if_neg (Nat.lt_irrefl _)] at this
      exact this (by omega)
    · rintro ⟨h1, h2⟩
      have := e2 ((s : Int) - g).toNat (by omega)
      rw [sy, if_pos (by omega)] at this
      exact this (by omega)
end
def chk (b : Int) (n : Nat) : Bool :=
  let T := fibs b n
  let k := n + 2
  let W := (List.range (k + 1)).map (wt T k)
  let D := (List.range (k + 1)).map (dl T k)
  let J := joined W
  let c := (List.zipWith (fun x y => x * y) W D).sum
  D.all (fun d => decide (0 < d)) && (decide (((D.filter fun d => decide (d < 16)).map fun d => 1 * 2 ^ (15 - d).toNat).sum = (32768 : Int)) && (if J.2 ≤ 15 then decide (c = J.1) else decide (J.1 < c)))
theorem chk_0 : ∀ n < 15, chk 0 n = true
  | 0, _ => by decide +kernel
  | 1, _ => by decide +kernel
  | 2, _ => by decide +kernel
  | 3, _ => by decide +kernel
  | 4, _ => by decide +kernel
  | 5, _ => by decide +kernel
  | 6, _ => by decide +kernel
  | 7, _ => by decide +kernel
  | 8, _ => by decide +kernel
  | 9, _ => by decide +kernel
  | 10, _ => by decide +kernel
  | 11, _ => by decide +kernel
  | 12, _ => by decide +kernel
  | 13, _ => by decide +kernel
  | 14, _ => by decide +kernel
  | n + 15, h => absurd h (Nat.not_lt.mpr (Nat.le_add_left 15 n))
theorem chk_1 : ∀ n < 15, chk 1 n = true
  | 0, _ => by decide +kernel
  | 1, _ => by decide +kernel
  | 2, _ => by decide +kernel
  | 3, _ => by decide +kernel
  | 4, _ => by decide +kernel
  | 5, _ => by decide +kernel
  | 6, _ => by decide +kernel
  | 7, _ => by decide +kernel
  | 8, _ => by decide +kernel
  | 9, _ => by decide +kernel
  | 10, _ => by decide +kernel
  | 11, _ => by decide +kernel
  | 12, _ => by decide +kernel
  | 13, _ => by decide +kernel
  | 14, _ => by decide +kernel
  | n + 15, h => absurd h (Nat.not_lt.mpr (Nat.le_add_left 15 n))
theorem chk_all {b : Int} (b0 : 0 ≤ b) (b1 : b < 2) : ∀ n < 15, chk b n = true := by
  have hb : b = 0 ∨ b = 1 := by omega
  rcases hb with rfl | rfl
  · exact chk_0
  · exact chk_1
theorem fibs_pos {b : Int} (b0 : 0 ≤ b) (b1 : b < 2) {n : Nat} (hn : n < 15) : ∀ i < n + 2, 0 < (fibs b n).getD i 0 := by
  have key : ∀ n < 15, (fibs b n).all (fun x => decide (0 < x)) = true := by
    have : b = 0 ∨ b = 1 := by omega
    rcases this with rfl | rfl <;> decide +kernel
  have h := List.all_eq_true.mp (key n hn)
  intro i hi
  have hk : i < (fibs b n).length := by rw [fibs_length]; exact hi
  have e : (fibs b n).getD i 0 = (fibs b n)[i] := by simp [List.getD, hk]
  rw [e]
  exact of_decide_eq_true (h _ (List.getElem_mem hk))
theorem zip_map {α : Type} (f h : α → Int) : ∀ l : List α, List.zipWith (fun x y => x * y) (l.map f) (l.map h) = l.map fun i => f i * h i
  | [] => rfl
  | a :: l => by rw [List.map_cons, List.map_cons, List.map_cons, List.zipWith_cons_cons, zip_map f h l]
theorem dueAt_bound {g k : Int} {T : List Int} (hT : ∀ i, 0 ≤ T.getD i 0 ∧ T.getD i 0 ≤ 2000) (s : Int) : 0 ≤ dueAt g k T s ∧ dueAt g k T s ≤ 2000 := by
  unfold dueAt
  split
  · exact hT _
  · split <;> decide
theorem dueL_bound {g k : Int} {T : List Int} (hT : ∀ i, 0 ≤ T.getD i 0 ∧ T.getD i 0 ≤ 2000) (n s : Nat) : 0 ≤ (dueL g k T n).getD s 0 ∧ (dueL g k T n).getD s 0 ≤ 2000 := by
  by_cases h : s < n
  · rw [dueL_get h]; exact dueAt_bound hT _
  · rw [show (dueL g k T n).getD s 0 = 0 by simp [dueL, List.getD, h]]; decide
theorem get_map {L : List Int} (f d : Nat → Int) {l : List Nat} (h : ∀ i ∈ l, L.getD (f i).toNat 0 = d i) : getOf L (l.map f) = l.map d := by
  rw [getOf, List.map_map]
  exact List.map_congr_left h
theorem cost_map {U C : List Int} (f d e : Nat → Int) (l : List Nat) (h : ∀ i ∈ l, U.getD (f i).toNat 0 = d i) (h2 : ∀ i ∈ l, C.getD (f i).toNat 0 = e i) : costOf U C (l.map f) = List.zipWith (fun x y => x * y) (l.map d) (l.map e) := by
  rw [costOf, List.map_map, zip_map]
  refine List.map_congr_left fun i hi => ?_
  show U.getD (f i).toNat 0 * C.getD (f i).toNat 0 = _
  rw [h i hi, h2 i hi]
theorem sh_map {C : List Int} (f d : Nat → Int) : ∀ {l : List Nat}, (∀ i ∈ l, C.getD (f i).toNat 0 = d i) → shOf C (l.map f) = ((l.map d).filter fun x => decide (x < 16)).map fun x => 1 * 2 ^ (15 - x).toNat
  | [], _ => rfl
  | i :: l, h => by
    have e := h i (.head _)
    have ih := sh_map f d (l := l) fun j hj => h j (.tail _ hj)
    unfold shOf at ih ⊢
    rw [List.map_cons, List.map_cons]
    by_cases hp : d i < 16
    · rw [List.filter_cons_of_pos (by rw [e]; exact decide_eq_true hp), List.filter_cons_of_pos (by exact decide_eq_true hp), List.map_cons, List.map_cons, ih, e]
    · rw [List.filter_cons_of_neg (by rw [e]; simpa using hp), List.filter_cons_of_neg (by simpa using hp), ih]
theorem plain_law {g b : Int} {n : Nat} (g0 : 0 ≤ g) (g1 : g < 200) (b0 : 0 ≤ b) (b1 : b < 2) (hn : n < 15) :
    usedOf (clen (dueL g (2 + (n : Int)) (fibs b n) 286)) 286 = usedOf (dueL g (2 + (n : Int)) (fibs b n) 286) 286 ∧
    (usedOf (clen (dueL g (2 + (n : Int)) (fibs b n) 286)) 286).length = n + 3 ∧
    (∀ i, 0 ≤ (dueL g (2 + (n : Int)) (fibs b n) 286).getD i 0 ∧ (dueL g (2 + (n : Int)) (fibs b n) 286).getD i 0 ≤ 2000) ∧
    (shOf (clen (dueL g (2 + (n : Int)) (fibs b n) 286)) (usedOf (clen (dueL g (2 + (n : Int)) (fibs b n) 286)) 286)).sum = 32768 ∧
    ((joined (getOf (dueL g (2 + (n : Int)) (fibs b n) 286) (usedOf (clen (dueL g (2 + (n : Int)) (fibs b n) 286)) 286))).2 ≤ 15 →
      (costOf (dueL g (2 + (n : Int)) (fibs b n) 286) (clen (dueL g (2 + (n : Int)) (fibs b n) 286)) (usedOf (clen (dueL g (2 + (n : Int)) (fibs b n) 286)) 286)).sum = (joined (getOf (dueL g (2 + (n : Int)) (fibs b n) 286) (usedOf (clen (dueL g (2 + (n : Int)) (fibs b n) 286)) 286))).1) ∧
    (¬ (joined (getOf (dueL g (2 + (n : Int)) (fibs b n) 286) (usedOf (clen (dueL g (2 + (n : Int)) (fibs b n) 286)) 286))).2 ≤ 15 →
      (joined (getOf (dueL g (2 + (n : Int)) (fibs b n) 286) (usedOf (clen (dueL g (2 + (n : Int)) (fibs b n) 286)) 286))).1 < (costOf (dueL g (2 + (n : Int)) (fibs b n) 286) (clen (dueL g (2 + (n : Int)) (fibs b n) 286)) (usedOf (clen (dueL g (2 + (n : Int)) (fibs b n) 286)) 286)).sum) := by
  rw [show (2 + (n : Int)) = ((n + 2 : Nat) : Int) by omega]
  have hT := fibs_pos b0 b1 hn
  have gk : g + ((n + 2 : Nat) : Int) ≤ 256 := by omega
  have hc := chk_all b0 b1 n hn
  have hB := dueL_bound (g := g) (k := ((n + 2 : Nat) : Int)) (fibs_bound b0 b1 hn) 286
  unfold chk at hc
  simp only [Bool.and_eq_true, decide_eq_true_eq, List.all_eq_true] at hc
  generalize fibs b n = T at *
  generalize hk : n + 2 = k at *
  obtain ⟨hD, hs, hJ⟩ := hc
  have hD2 : ∀ i < k + 1, 0 < dl T k i := fun i hi => hD _ (List.mem_map_of_mem (List.mem_range.mpr hi))
  have e1 := used_eq g0 gk hT hD2
  have e2 := used_due g0 gk hT
  have e6 : ∀ i ∈ List.range (k + 1), (dueL g k T 286).getD (sy g k i).toNat 0 = wt T k i := fun i hi => due_sy g0 gk (List.mem_range.mp hi)
  have e7 : ∀ i ∈ List.range (k + 1), (clen (dueL g k T 286)).getD (sy g k i).toNat 0 = dl T k i := fun i hi => clen_sy g0 gk hT (List.mem_range.mp hi)
  rw [e1, e2]
  clear e1 e2
  generalize clen (dueL g k T 286) = C at *
  generalize dueL g k T 286 = U at *
  rw [get_map _ _ e6, cost_map _ _ _ _ e6 e7, sh_map _ _ e7]
  refine ⟨rfl, ?_, hB, hs, fun h => ?_, fun h => ?_⟩
  · rw [List.length_map, List.length_range]; omega
  · rw [if_pos h] at hJ; simpa using hJ
  · rw [if_neg h] at hJ; simpa using hJ
theorem parts_count {g : Int} {T : List Int} (g0 : 0 ≤ g) (hT : ∀ j, 0 ≤ T.getD j 0) (s : Nat) : ∀ i : Nat, (((partsOf g T i).countP fun x => decide (x.toNat = s) : Nat) : Int) = if g ≤ s ∧ s < g + i then T.getD ((s : Int) - g).toNat 0 else 0
  | 0 => by rw [if_neg (by omega)]; rfl
  | i + 1 => by
    have h := hT i
    rw [partsOf, List.countP_append, List.countP_replicate, Int.natCast_add, parts_count g0 hT s i]
    by_cases e : (g + (i : Int)).toNat = s
    · rw [if_neg (by omega), if_pos (decide_eq_true e), if_pos (by omega), show ((s : Int) - g).toNat = i by omega]
      omega
    · rw [if_neg (show ¬ (decide ((g + (i : Int)).toNat = s) = true) by simpa using e)]
      by_cases e2 : g ≤ s ∧ (s : Int) < g + i
      · rw [if_pos e2, if_pos (by omega)]; omega
      · rw [if_neg e2, if_neg (by omega)]; rfl
theorem ext_getD {l r : List Int} (h : l.length = r.length) (h2 : ∀ s < l.length, l.getD s 0 = r.getD s 0) : l = r := by
  refine List.ext_getElem h fun i hi hj => ?_
  have := h2 i hi
  rw [show l.getD i 0 = l[i] by simp [List.getD, hi], show r.getD i 0 = r[i] by simp [List.getD, hj]] at this
  exact this
theorem set_getD {l : List Int} {k s : Nat} {x : Int} (h : s < l.length) : (l.set k x).getD s 0 = if k = s then x else l.getD s 0 := by
  simp only [List.getD, List.getElem?_set]
  by_cases e : k = s
  · rw [if_pos e, if_pos e, if_pos (by omega)]; rfl
  · rw [if_neg e, if_neg e]
theorem lit_due {g b : Int} {n : Nat} (g0 : 0 ≤ g) (g1 : g < 200) (b0 : 0 ≤ b) (b1 : b < 2) (hn : n < 15) : litOf (partsOf g (fibs b n) (n + 2)) = dueL g (2 + (n : Int)) (fibs b n) 286 := by
  rw [show (2 + (n : Int)) = ((n + 2 : Nat) : Int) by omega]
  have hB := fibs_bound b0 b1 hn
  have gk : g + ((n + 2 : Nat) : Int) ≤ 256 := by omega
  generalize fibs b n = T at *
  generalize n + 2 = k at *
  refine ext_getD (by rw [litOf_length, dueL_len]) fun s hs => ?_
  rw [litOf_length] at hs
  rw [dueL_get hs, litOf, set_getD (by rw [tally_length, List.length_replicate]; exact hs), tally_getD _ _ (by rw [List.length_replicate]; exact hs), rep_get hs, parts_count g0 (fun j => (hB j).1), Int.zero_add, dueAt]
  by_cases e : 256 = s
  · rw [if_pos e, if_neg (by omega), if_pos (by omega)]
  · rw [if_neg e]
    by_cases e2 : g ≤ (s : Int) ∧ (s : Int) < g + k
    · rw [if_pos e2, if_pos e2]
    · rw [if_neg e2, if_neg e2, if_neg (by omega)]
theorem pairs_due {g b : Int} {n : Nat} (g0 : 0 ≤ g) (g1 : g < 200) (b0 : 0 ≤ b) (b1 : b < 2) (hn : n < 15) : (pairs (dueL g (2 + (n : Int)) (fibs b n) 286) 286).length = n + 3 := by
  rw [show (2 + (n : Int)) = ((n + 2 : Nat) : Int) by omega, pairs_pg g0 (by omega) (fibs_pos b0 b1 hn), pg_length]
theorem parts256 {g : Int} {T : List Int} {n : Nat} (g0 : 0 ≤ g) (g1 : g < 200) (hn : n ≤ 17) : ∀ x ∈ partsOf g T n, 0 ≤ x ∧ x < 256 := fun x hx => by
  have := parts_mem n x hx
  omega
section
variable {g k : Int} {T : List Int} {i : Nat}
theorem da1 (h1 : g ≤ 0 + (i : Int)) (h2 : 0 + (i : Int) < g + k) : T.getD (0 + (i : Int) - g).toNat 0 = dueAt g k T (i : Nat) := by
  rw [Int.zero_add] at h1 h2 ⊢; exact dueAt_in h1 h2
theorem da2 (h1 : ¬ g ≤ 0 + (i : Int)) (h2 : 0 + (i : Int) = 256) : 1 = dueAt g k T (i : Nat) := dueAt_end (by omega) (by omega)
theorem da3 (h1 : ¬ 0 + (i : Int) < g + k) (h2 : 0 + (i : Int) = 256) : 1 = dueAt g k T (i : Nat) := dueAt_end (by omega) (by omega)
theorem da4 (h1 : ¬ g ≤ 0 + (i : Int)) (h2 : ¬ 0 + (i : Int) = 256) : 0 = dueAt g k T (i : Nat) := dueAt_out (by omega) (by omega)
theorem da5 (h1 : ¬ 0 + (i : Int) < g + k) (h2 : ¬ 0 + (i : Int) = 256) : 0 = dueAt g k T (i : Nat) := dueAt_out (by omega) (by omega)
end
section
local macro_rules | `(tactic| walk_at "call ref") => `(tactic| ((with_reducible show wpAny _ _ (call (Value.ref 106) _) _ _ _); refine unhalt ?_))
local macro_rules | `(tactic| walk_at "call ref") => `(tactic| ((with_reducible show wpAny _ _ (call (Value.ref 118) _) _ _ _); refine unhalt ?_))
local macro_rules | `(tactic| walk_at "call ref") => `(tactic| ((with_reducible show wpAny _ _ (call (Value.ref 130) _) _ _ _); refine unhalt ?_))
local macro_rules | `(tactic| walk_at "binaryOp FloorDiv int int") => `(tactic| (k_dflt (refine kfdiv_M ?_ ?_ ?_ ?_ ?_; (first | decide | omega); (first | decide | omega); (first | decide | omega | exact take_pos (by assumption)); (first | decide | omega | (simp only [List.length_take]; omega)); intro q' t' tk' hq' hq2')))
local macro_rules | `(tactic| walk_at "binaryOp FloorDiv int int") => `(tactic| (k_dflt (refine kdiv_M ?_ ?_ ?_; (with_reducible assumption); (with_reducible assumption); intro q' t' tk')))
local macro_rules | `(tactic| walk_at "exec While Compare cons nil") => `(tactic| refine unhalt ?_)
local macro_rules | `(tactic| walk_at "binaryOp Mod int int") => `(tactic| (k_dflt (refine kmod_M ?_ ?_; (first | decide | omega | exact take_pos (by assumption)); intro q' t' tk' hr' hr2')))
local macro_rules | `(tactic| walk_at "binaryOp Pow int int") => `(tactic| (k_dflt (refine kpow_M ?_ ?_ ?_; (first | decide | omega); (first | decide | omega); intro q' t' tk' hr' hr2')))
local macro_rules | `(tactic| walk_at "binaryOp Mult int int") => `(tactic| (k_dflt (refine kmul_M ?_ ?_ ?_; (first | decide | omega); (first | decide | omega))))
local macro_rules | `(tactic| walk_at "eval ListComp") => `(tactic| refine unhalt ?_)
local macro_rules | `(tactic| walk_at "exec Assign cons ListComp") => `(tactic| ((with_reducible show wpAny _ _ (exec (Stmt.Assign [Expr.Name (Str.ofString "used") _] _ _) _) _ _ _); refine unhalt ?_))
local macro_rules | `(tactic| walk_at "CompSrc") => `(tactic| refine unhalt ?_)
local macro_rules | `(tactic| walk_at "CompSrcT") => `(tactic| refine unhalt ?_)
local macro_rules | `(tactic| walk_at "execs cons") => `(tactic| ((with_reducible show wpAny _ _ (execs (Stmt.If (Expr.BoolOp BoolOp.And _ _) _ _ _ :: _) _) _ _ _); refine unhalt ?_))
local macro_rules | `(tactic| walk_at "JoinEnd") => `(tactic| refine unhalt ?_)
local macro_rules | `(tactic| walk_at "compareOp NotEq ref ref") => `(tactic| refine unhalt ?_)
local macro_rules | `(tactic| walk_at "call builtin:sum") => `(tactic| refine unhalt ?_)
local macro_rules | `(tactic| walk_at "binaryOp LShift int int") => `(tactic| (k_dflt (refine lshift_int_small ?_ ?_ ?_ ?_; omega; omega; decide)))
local macro_rules | `(tactic| walk_at "execs cons") => `(tactic| ((with_reducible show wpAny _ _ (execs (Stmt.If (Expr.Compare (Expr.Name (Str.ofString "cells") _) _ _ _) _ _ _ :: _) _) _ _ _); refine unhalt ?_))
local macro_rules | `(tactic| walk_at "JoinC") => `(tactic| refine unhalt ?_)
structure Bx (P : Prop) : Prop where
  go : P
def JoinC (h₀ : Heap) (L : Addr) (m : Str → Option Value) (C1 : Addr) (rest : List (Addr × Obj)) (s : Shared) (f : Flow) (s' : Shared) : Prop :=
  f = .next ∧ ∃ h tk c ws ns oc, s' = { s with heap := h, toks := tk } ∧ Fr h₀ L h m ∧ News h₀ L h ((c, listOf ws.toArray 0) :: (C1, oc) :: rest) ∧ IntsAre ws ns ∧ 0 < ns.length ∧ ns.length < 64 ∧ oc.data = .cell (some (.ref c)) ∧ AllLt c ((C1, oc) :: rest)
theorem join_C {prog : Program} {w : World} {A : Around} {E : Value → Shared → Prop} {s : Shared} {h₀ : Heap} {L : Addr} {m : Str → Option Value} {t : Sem Flow} {Q : Flow → Shared → Prop} {C1 C2 D : Addr} {o1 o2 oD : Obj} {rest : List (Addr × Obj)}
    (F : Fr h₀ L s.heap m) (N : News h₀ L s.heap ((D, oD) :: (C2, o2) :: (C1, o1) :: rest)) (h1 : wpAny (model prog w) A t (JoinC h₀ L m C1 ((C2, o2) :: rest) s) E s)
    (h2 : ∀ h tk c ws ns oc, Fr h₀ L h m → News h₀ L h ((c, listOf ws.toArray 0) :: (C1, oc) :: (C2, o2) :: rest) → IntsAre ws ns → 0 < ns.length → ns.length < 64 → oc.data = .cell (some (.ref c)) → AllLt c ((C1, oc) :: (C2, o2) :: rest) → Q .next { s with heap := h, toks := tk }) : wpAny (model prog w) A t Q E s := by
  refine wpAny_mono h1 (fun f s' p => ?_) fun _ _ e => e
  obtain ⟨rfl, h, tk, c, ws, ns, oc, rfl, F', N', a, b, d, e, g⟩ := p
  exact h2 h tk c ws ns oc F' N' a b d e g
theorem JoinC.mk' {h₀ : Heap} {L : Addr} {m : Str → Option Value} {C1 : Addr} {rest all : List (Addr × Obj)} {s : Shared} {h : Heap} {tk : Nat} {c : Addr} {ws : List Value} {ns : List Int} {oc : Obj} (F : Fr h₀ L h m) (N : News h₀ L h all) (hm : (c, listOf ws.toArray 0) ∈ all) (hm1 : (C1, oc) ∈ all) (hr : ∀ p ∈ rest, p ∈ all) (hi : IntsAre ws ns) (h0 : 0 < ns.length) (h1 : ns.length < 64)
    (ho : oc.data = .cell (some (.ref c))) (hl : AllLt c ((C1, oc) :: rest)) : JoinC h₀ L m C1 rest s .next { s with heap := h, toks := tk } :=
  ⟨rfl, h, tk, c, ws, ns, oc, rfl, F, News.sub N (all_cons hm (all_cons hm1 hr)), hi, h0, h1, ho, hl⟩
noncomputable def partA : (P : Prop) ×' (Bx P → PySem.Challenge.rw_nn0113_01.Holds) := by
  apply @PSigma.mk Prop (fun P => Bx P → PySem.Challenge.rw_nn0113_01.Holds)
  · intro hP
    refine hd ?_
    k_go0
    all_goals try k_fold
    k_steps
    unfold Halt
    rename Fr _ _ _ _ => F1
    rename News _ _ _ _ => N1
    refine wpAny_execs_cons (join_C F1 N1 ?_ ?_)
    · k_steps
      all_goals try unfold Halt
      · rename Fr _ _ _ _ => F2
        rename News _ _ _ _ => N2
        refine JoinC.mk' F2 N2 (.head _) (.tail _ (.tail _ (.tail _ (.tail _ (.head _))))) ?_ (.cons 1 _ .nil) (by decide) (by decide) (by assumption) ?_
        · repeat (refine all_cons (by k_mem) ?_)
          exact all_nil
        · simp only [AllLt, and_true]; omega
      · rename Fr _ _ _ _ => F2
        rename News _ _ _ _ => N2
        refine JoinC.mk' F2 N2 (.tail _ (.head _)) (.tail _ (.tail _ (.tail _ (.head _)))) ?_ (by assumption) ?_ ?_ (by assumption) ?_
        · repeat (refine all_cons (by k_mem) ?_)
          exact all_nil
        · rename (decide (_ = []) = false) => a
          have := take_pos a
          omega
        · rw [List.length_take]; omega
        · simp only [AllLt, and_true]; omega
    · clear F1 N1
      intro h tk c ws ns oc F1 N1 aj1 aj2 aj3 aj4 aj5
      simp only [AllLt, and_true] at aj5
      dsimp only
      k_steps
      unfold Halt
      rename Fr _ _ _ _ => F1
      rename News _ _ _ _ => N1
      rename_i qb tb tkb hqb1 hqb2 Tc kX lt h1 lt1 h2 ot hot
      rename (_ = Data.cell (some (Value.int (2 + _) _))) => hok
      obtain ⟨qa, ta, ha1, ha2, hok2⟩ : ∃ (q : Int) (t : Tok), 0 ≤ q ∧ q < 15 ∧ Obj.data _ = Data.cell (some (Value.int (2 + q) t)) := ⟨_, _, by assumption, by assumption, hok⟩
      clear hok
      repeat (first | revert ‹World› | revert ‹Shared› | revert ‹Heap› | revert ‹Str → Option Value› | revert ‹Addr› | revert ‹Obj› | revert ‹Value› | revert ‹List Value› | revert ‹List Int› | revert ‹List (Addr × Obj)› | revert ‹Int› | revert ‹Nat› | revert ‹Tok› | revert ‹Str› | revert ‹Array Value› | revert ‹Around› | revert ‹Env› | revert ‹Scope› | revert ‹PyData› | revert ‹List Addr› | revert ‹Bool› | revert ‹Flow› | revert ‹Value → Shared → Prop› | revert ‹List Str› | revert ‹Program›)
      exact hP.go
noncomputable def partB : (P : Prop) ×' (Bx P → partA.1) := by
  apply @PSigma.mk Prop (fun P => Bx P → partA.1)
  · intro hP
    w_top off
    intro zz0
    set_option tactic.hygienic false in intros
    refine while_led (fun n m nx => m = _ ∧ ∃ (i : Nat) (tv : List Value) (tc : Nat), n = qa.toNat - i ∧ i ≤ qa.toNat ∧ IntsAre tv (fibs qb i) ∧ nx = (lt, listOf tv.toArray tc) :: _) qa.toNat F1 N1
      ⟨rfl, 0, [_, _], _, rfl, Nat.zero_le _, .cons _ _ (.cons _ _ .nil), rfl⟩ (by passes_own) ?_
    clear F1 N1
    rintro n m nx h tk ⟨rfl, i, tv, tc, rfl, hi, y1, rfl⟩ F2 N2
    have y2 := fibs_length qb i
    have y3 := y1.length
    k_steps
    unfold Halt
    by_cases hlt : i < qa.toNat
    · refine WhlIf.yes (decide_eq_true (by omega)) ?_
      k_steps
      unfold Halt
      rename Fr _ _ _ _ => F3
      rename News _ _ _ _ => N3
      have e1 : (-1 + ((fibs qb i).length : Int)).toNat = i + 1 := by omega
      have e2 : (-2 + ((fibs qb i).length : Int)).toNat = i := by omega
      rw [List.push_toArray, e1, e2] at N3
      refine WEnd.intro (qa.toNat - (i + 1)) _ F3 N3 (fun p hp => hp) (by omega) ⟨rfl, i + 1, _, _, rfl, by omega, ?_, rfl⟩
      exact IntsAre.append y1 (.cons _ _ .nil)
    · refine WhlIf.no (decide_eq_false (by omega)) ?_
      have ei : i = qa.toNat := by omega
      subst ei
      k_steps
      unfold Halt
      rename Fr _ _ _ _ => F3
      rename News _ _ _ _ => N3
      rename_i qg tg tkg hg1 hg2 Tcg kXg hg og hog tkx pl hp1 lpl hp2
      have zqa : qa.toNat < 15 := (Int.toNat_lt ha1).mpr ha2
      have zqb : qa.toNat + 2 < 17 := Nat.add_lt_add_right zqa 2
      have hT := fibs_bound hqb1 hqb2 (n := qa.toNat) zqa
      refine For_invVF F3 rfl rfl ?_
      k_steps
      unfold Halt
      rename Fr _ _ _ _ => F3
      rename News _ _ _ _ => N3
      rename IsRange _ _ _ _ _ _ _ _ => R3
      refine iter_range (n := qa.toNat + 2) (fun i m nx => ∃ (pa : Addr) (pv : List Value) (pc : Nat), @LT.lt Nat _ lt pa ∧ IntsAre pv (partsOf qg (fibs qb qa.toNat) i) ∧ Nm m [(Str.ofString "parts", .ref pa)] ∧ nx = (pa, listOf pv.toArray pc) :: (lt, listOf tv.toArray tc) :: _)
        rfl R3 (small_one (by decide) (by decide) (by omega) (by omega)) (by rw [rangeSize_nat]; omega) F3 N3 ⟨pl, [], 0, lpl.1, .nil, ⟨rfl, trivial⟩, rfl⟩ ?_ ?_
      · clear F3 N3 R3
        rintro i t m nx h tk I oI hi ⟨pa, pv, pc, w0, w1, w2, rfl⟩ hI1 hI2 F4 N4
        replace F4 := Fr.named1 _ w2 F4
        have w3 := w1.length
        have w4 := partsOf_length (g := qg) hT i
        have w5 : 0 ≤ (fibs qb qa.toNat).getD (0 + (i : Int)).toNat 0 ∧ (fibs qb qa.toNat).getD (0 + (i : Int)).toNat 0 ≤ 2000 := hT _
        obtain ⟨w6, w7⟩ := w5
        k_steps
        unfold Halt
        rename Fr _ _ _ _ => F5
        rename News _ _ _ _ => N5
        rename_i pn hx Fx Nx lpn hy
        have w8 : partsOf qg (fibs qb qa.toNat) (i + 1) = partsOf qg (fibs qb qa.toNat) i ++ List.replicate ((fibs qb qa.toNat).getD (0 + (i : Int)).toNat 0).toNat (qg + (0 + (i : Int))) := by
          rw [show (0 + (i : Int)).toNat = i by omega, show (0 + (i : Int)) = i by omega]; rfl
        refine TurnEnd.intro _ F5 N5 (.tail _ (.tail _ (.tail _ (.head _)))) (all_cons (.head _) fun p hp => .tail _ (.tail _ (.tail _ (.tail _ (.tail _ hp))))) (all_cons (by k_ne) (lt_ne fun p hp => hI1 p (.tail _ hp))) ⟨pn, _, 0, by omega, ?_, ⟨rfl, trivial⟩, rfl⟩
        rw [w8]
        exact IntsAre.append w1 (intsAre_repv _ _ _)
      · rintro m nx h tk ⟨pa, pv, pc, w0, w1, w2, rfl⟩ F4 N4
        clear F3 N3 R3
        replace F4 := Fr.named _ w2 F4
        have w3 := w1.length
        have w4 := partsOf_length (g := qg) hT (qa.toNat + 2)
        dsimp only
        k_steps
        unfold Halt
        rename Fr _ _ _ _ => F5
        rename News _ _ _ _ => N5
        refine LCg.ListComp_U (F₀ := F5) (by with_unfolding_all rfl) (by decide) (by rfl) (by decide) (by rfl) ?_
        k_steps
        unfold Halt
        rename Fr _ _ _ _ => F5
        rename News _ _ _ _ => N5
        rename IsRange _ _ _ _ _ _ _ _ => R5
        refine LCg.CompSrc.range (n := 286) rfl F5 N5 R5 (by decide) (by decide) (by rw [sizeLine_eq]; decide) (fun gg => ?_)
        have y4 : (fibs qb qa.toNat).length = qa.toNat + 2 := fibs_length _ _
        refine comp_rest (fun i ys nx => nx = _ ∧ IntsAre ys (dueL qg (2 + qa) (fibs qb qa.toNat) i)) ⟨rfl, .nil⟩ ?_ ?_
        · rintro i v ys nx I oI C oC D m₂ h tk E' hi ⟨t, rfl⟩ ⟨rfl, hys⟩ hC hx F6 N6 off ⟨ne1, ne2, ne3⟩
          k_steps
          all_goals (
            unfold Halt
            rename Fr _ _ _ _ => F7
            rename News _ _ _ _ => N7
            refine LCg.CompEnd.intro F7 N7 _ (fun p hp => hp) off trivial ⟨rfl, ?_⟩
            rw [dueL_succ]
            refine IntsAre.append hys (intsOne ?_)
            first
            | exact da1 (by assumption) (by assumption)
            | exact da2 (by first | assumption | exact Int.not_le.mpr (by assumption)) (by assumption)
            | exact da3 (by first | assumption | exact Int.not_lt.mpr (by assumption)) (by assumption)
            | exact da4 (by first | assumption | exact Int.not_le.mpr (by assumption)) (by assumption)
            | exact da5 (by first | assumption | exact Int.not_lt.mpr (by assumption)) (by assumption))
        · rintro ys nx ⟨rfl, hys⟩ D h tk F6 N6 off
          have zd : (dueL qg (2 + qa) (fibs qb qa.toNat) 286).length = 286 := dueL_len
          clear F5 N5
          simp only [LCg.Off1, and_true] at off
          rename Below callerA _ _ _ => BB
          have hparts : ∀ x ∈ partsOf qg (fibs qb qa.toNat) (qa.toNat + 2), 0 ≤ x ∧ x < 256 := parts256 hg1 hg2 (Nat.le_of_lt zqb)
          have zpv : pv.length < 100000 := by rw [w3]; exact Nat.lt_of_le_of_lt w4 (Nat.lt_of_le_of_lt (Nat.mul_le_mul_left 2000 (Nat.le_of_lt zqb)) (by decide))
          have hlit : litOf (partsOf qg (fibs qb qa.toNat) (qa.toNat + 2)) = dueL qg (2 + qa) (fibs qb qa.toNat) 286 := by
            have e := lit_due hg1 hg2 hqb1 hqb2 (n := qa.toNat) zqa
            rw [Int.toNat_of_nonneg ha1] at e
            exact e
          k_steps
          unfold Halt
          rename Fr _ _ _ _ => F8
          rename News _ _ _ _ => N8
          refine wpAny_execs_cons (join_K F8 N8 ?_ ?_)
          · k_steps
            · unfold Halt
              rename Fr _ _ _ _ => F9
              rename News _ _ _ _ => N9
              refine counts_of_K BB F9 (by assumption) N9 (by assumption) rfl rfl (by decide) (by decide) (by k_mem) w1 (by rw [← w3]; exact zpv) hparts ?_
              clear F9 N9
              intro ct li di lv dv c1 c2 h' tk F9 N9 i1 i2 k1 k2 k3
              have g0 := allLt_of k1
              k_steps
              unfold Halt
              rename Fr _ _ _ _ => F9
              rename News _ _ _ _ => N9
              refine ne_tups N9 (by k_mem) (by k_mem) (by k_mem) (by k_mem) (by k_mem) (by k_mem) i1 i2 hys (intsAre_rep _ _) (by units_room) hlit rfl ?_
              k_steps
              unfold Halt
              rename Fr _ _ _ _ => F9
              rename News _ _ _ _ => N9
              refine JoinEnd.intro F9 (News.sub N9 ?_)
              repeat (refine all_cons (by k_mem) ?_)
              exact all_nil
            · unfold Halt
              exact JoinEnd.intro F8 N8
          · clear F8 N8
            intro h tk F8 N8
            dsimp only
            have hpd : (pairs (litOf (partsOf qg (fibs qb qa.toNat) (qa.toNat + 2))) 286).length = qa.toNat + 3 := by
              rw [hlit]
              have e := pairs_due hg1 hg2 hqb1 hqb2 (n := qa.toNat) zqa
              rw [Int.toNat_of_nonneg ha1] at e
              exact e
            k_steps
            unfold Halt
            rename Fr _ _ _ _ => F9
            rename News _ _ _ _ => N9
            refine lengths_for_K BB F9 (by assumption) N9 (by assumption) rfl rfl (by decide) (by decide) (by k_mem) w1 (by rw [← w3]; exact zpv) hparts (by rw [hpd]; exact Nat.le_add_left 2 (qa.toNat + 1)) (by rw [hpd]; exact Nat.lt_trans (Nat.add_lt_add_right zqa 3) (by decide)) ?_
            clear F9 N9
            intro rt ra rb lv dv c1 c2 T9 h' tk F9 N9 u1 u2 i1 i2 k1 k2 k3
            rw [hlit] at i1
            have k4 := allLt_of k1
            simp only [AllLt, and_true] at k4
            clear k1
            replace N9 := News.sub (l' := (rt, tupOf [.ref ra, .ref rb]) :: (rb, listOf dv.toArray c2) :: (ra, listOf lv.toArray c1) :: _) N9 (all_cons (.head _) (all_cons (.tail _ (.head _)) (all_cons (.tail _ (.tail _ u1)) fun p hp => .tail _ (.tail _ (u2 p hp)))))
            k_steps
            all_goals try unfold Halt
            have hpl := plain_law hg1 hg2 hqb1 hqb2 (n := qa.toNat) zqa
            rw [Int.toNat_of_nonneg ha1] at hpl
            have zl := clen_length (dueL qg (2 + qa) (fibs qb qa.toNat) 286)
            rw [zd] at zl
            generalize clen (dueL qg (2 + qa) (fibs qb qa.toNat) 286) = lens at *
            generalize dueL qg (2 + qa) (fibs qb qa.toNat) 286 = due at *
            obtain ⟨p1, p2, p3, p4, p5, p6⟩ := hpl
            replace p4 : Kp _ := p4
            replace p5 : Kp _ := p5
            replace p6 : Kp _ := p6
            have zq : qa.toNat + 3 < 18 := Nat.add_lt_add_right zqa 3
            clear hpd hlit w3 w4
            rename Fr _ _ _ _ => F9
            rename News _ _ _ _ => N9
            repeat (first | revert ‹World› | revert ‹Shared› | revert ‹Heap› | revert ‹Str → Option Value› | revert ‹Addr› | revert ‹Obj› | revert ‹Value› | revert ‹List Value› | revert ‹List Int› | revert ‹List (Addr × Obj)› | revert ‹Int› | revert ‹Nat› | revert ‹Tok› | revert ‹Str› | revert ‹Array Value› | revert ‹Around› | revert ‹Env› | revert ‹Scope› | revert ‹PyData› | revert ‹List Addr› | revert ‹Bool› | revert ‹Flow› | revert ‹Value → Shared → Prop› | revert ‹List Str› | revert ‹Program›)
            exact hP.go
noncomputable def partC : (P : Prop) ×' (Bx P → partB.1) := by
  apply @PSigma.mk Prop (fun P => Bx P → partB.1)
  · intro hP
    w_top off
    intro zz0
    set_option tactic.hygienic false in intros
    refine LCt.Assign_ListComp_T (F₀ := F9) (by rfl) (by with_unfolding_all rfl) (by with_unfolding_all rfl) (by decide) (by rfl) (by decide) (by rfl) (by rfl) (by rfl) ?_
    k_steps
    unfold Halt
    rename Fr _ _ _ _ => F9
    rename News _ _ _ _ => N9
    rename IsRange _ _ _ _ _ _ _ _ => R9
    refine LCt.CompSrcT.range (n := 286) rfl F9 N9 R9 (by decide) (by decide) (by rw [sizeLine_eq]; decide) (fun gg => ?_)
    refine comp_restT (fun i ys nx => nx = _ ∧ IntsAre ys (usedOf lens i)) ⟨rfl, .nil⟩ ?_ ?_
    · rintro i v ys nx I oI C oC D m₂ h tk E' hi ⟨t, rfl⟩ ⟨rfl, hys⟩ hC hx F6 N6 off ⟨ne1, ne2, ne3⟩
      k_steps
      unfold Halt
      have ei : (0 + (i : Int)).toNat = i := by omega
      by_cases hp : 0 < lens.getD i 0
      · refine WhlIf.yes (by rw [ei]; exact decide_eq_true hp) ?_
        k_steps
        refine LCg.CompEnd.intro F6 N6 _ (fun p hp => hp) off trivial ⟨rfl, ?_⟩
        rw [used_yes hp]
        exact IntsAre.append hys (intsOne (by omega))
      · refine WhlIf.no (by rw [ei]; exact decide_eq_false hp) ?_
        refine LCg.CompEnd.intro F6 N6 _ (fun p hp => hp) off trivial ⟨rfl, ?_⟩
        rw [used_no hp]; exact hys
    · rintro us nx ⟨rfl, husv⟩ ul h tk F6 N6 off
      clear F9 N9 R9
      simp only [LCg.Off1, and_true] at off
      k_steps
      unfold Halt
      rename Fr _ _ _ _ => F9
      rename News _ _ _ _ => N9
      refine LCt.ListComp_T (F₀ := F9) (by with_unfolding_all rfl) (by decide) (by rfl) (by decide) (by rfl) ?_
      k_steps
      unfold Halt
      rename Fr _ _ _ _ => F9
      rename News _ _ _ _ => N9
      rename IsRange _ _ _ _ _ _ _ _ => R9
      refine LCt.CompSrcT.range (n := 286) rfl F9 N9 R9 (by decide) (by decide) (by rw [sizeLine_eq]; decide) (fun gg => ?_)
      refine comp_restT (fun i ys nx => nx = _ ∧ IntsAre ys (usedOf due i)) ⟨rfl, .nil⟩ ?_ ?_
      · rintro i v ys2 nx I oI C oC D2 m₂ h tk E' hi ⟨t, rfl⟩ ⟨rfl, hys2⟩ hC hx F6 N6 off ⟨ne1, ne2, ne3⟩
        k_steps
        unfold Halt
        have ei : (0 + (i : Int)).toNat = i := by omega
        by_cases hp : 0 < due.getD i 0
        · refine WhlIf.yes (by rw [ei]; exact decide_eq_true hp) ?_
          k_steps
          refine LCg.CompEnd.intro F6 N6 _ (fun p hp => hp) off trivial ⟨rfl, ?_⟩
          rw [used_yes hp]
          exact IntsAre.append hys2 (intsOne (by omega))
        · refine WhlIf.no (by rw [ei]; exact decide_eq_false hp) ?_
          refine LCg.CompEnd.intro F6 N6 _ (fun p hp => hp) off trivial ⟨rfl, ?_⟩
          rw [used_no hp]; exact hys2
      · rintro us2 nx ⟨rfl, husv2⟩ ul2 h tk F6 N6 off
        clear F9 N9 R9
        simp only [LCg.Off1, and_true] at off
        k_steps
        all_goals try unfold Halt
        rename Fr _ _ _ _ => F9
        rename News _ _ _ _ => N9
        refine ne_same N9 (by k_mem) (by k_mem) husv husv2 (by units_room) p1 ?_
        k_steps
        all_goals try unfold Halt
        rename Fr _ _ _ _ => F9
        rename News _ _ _ _ => N9
        refine ne_same N9 (by k_mem) (by k_mem) i2 (intsAre_rep _ _) (by units_room) rfl ?_
        k_steps
        all_goals try unfold Halt
        have hum : ∀ x ∈ usedOf lens 286, 0 ≤ x ∧ x < 286 ∧ 0 < lens.getD x.toNat 0 := fun x hx => used_mem hx
        clear p1 husv2
        generalize usedOf lens 286 = U at *
        have zu := husv.length
        have zus : us.length < 18 := by rw [zu, p2]; exact zq
        rename Fr _ _ _ _ => F9
        rename News _ _ _ _ => N9
        refine LCt.ListComp_T (F₀ := F9) (by with_unfolding_all rfl) (by decide) (by rfl) (by decide) (by rfl) ?_
        k_steps
        unfold Halt
        rename Fr _ _ _ _ => F9
        rename News _ _ _ _ => N9
        refine LCt.CompSrcT.ledger rfl F9 N9 (by k_mem) (by rw [sizeLine_eq, List.size_toArray]; exact Nat.le_trans (Nat.le_of_lt zus) (by decide)) (fun gg => ?_)
        refine comp_restT (fun i ys nx => nx = _ ∧ IntsAre ys (shOf lens (U.take i))) ⟨rfl, .nil⟩ ?_ ?_
        · rintro i v ys3 nx I oI C oC D3 m₂ h tk E' hi hv ⟨rfl, hys3⟩ hC hx F6 N6 off ⟨ne1, ne2, ne3⟩
          obtain ⟨x, tx, rfl, hx'⟩ := husv.at i v (by simpa using hv)
          have e1 : U.take (i + 1) = U.take i ++ [x] := by rw [List.take_add_one, hx']; rfl
          obtain ⟨m1, m2, m3⟩ := hum x (List.mem_of_getElem? hx')
          k_steps
          unfold Halt
          by_cases hp : lens.getD x.toNat 0 < 16
          · refine WhlIf.yes (decide_eq_true hp) ?_
            k_steps
            refine LCg.CompEnd.intro F6 N6 _ (fun p hp => hp) off (.inr ⟨_, by k_mem, rfl, _, rfl⟩) ⟨rfl, ?_⟩
            rw [e1, sh_yes hp]
            exact IntsAre.append hys3 (intsOne (by omega))
          · refine WhlIf.no (decide_eq_false hp) ?_
            refine LCg.CompEnd.intro F6 N6 _ (fun p hp => hp) off (.inr ⟨_, by k_mem, rfl, _, rfl⟩) ⟨rfl, ?_⟩
            rw [e1, sh_no hp]
            exact hys3
        · rintro ys3 nx ⟨rfl, hsh⟩ D3 h tk F6 N6 off
          rw [List.size_toArray, zu, List.take_length] at hsh
          clear F9 N9
          simp only [LCg.Off1, and_true] at off
          k_steps
          all_goals try unfold Halt
          rename Fr _ _ _ _ => F9
          rename News _ _ _ _ => N9
          refine sumK rfl F9 N9 (isList_M N9 (.head _)) hsh ?_
          clear F9 N9
          intro h' tk' t' F9 N9
          k_steps
          all_goals try unfold Halt
          · exfalso
            rename (_ ≠ _) => a
            exact a ((show (shOf lens U).sum = 32768 from p4).trans (by decide))
          rename ((shOf lens U).sum = _) => a
          clear a p4 hsh
          rename Fr _ _ _ _ => F9
          rename News _ _ _ _ => N9
          repeat (first | revert ‹World› | revert ‹Shared› | revert ‹Heap› | revert ‹Str → Option Value› | revert ‹Addr› | revert ‹Obj› | revert ‹Value› | revert ‹List Value› | revert ‹List Int› | revert ‹List (Addr × Obj)› | revert ‹Int› | revert ‹Nat› | revert ‹Tok› | revert ‹Str› | revert ‹Array Value› | revert ‹Around› | revert ‹Env› | revert ‹Scope› | revert ‹PyData› | revert ‹List Addr› | revert ‹Bool› | revert ‹Flow› | revert ‹Value → Shared → Prop› | revert ‹List Str› | revert ‹Program›)
          exact hP.go
theorem partD : partC.1 := by
    w_top off
    intro zz0
    set_option tactic.hygienic false in intros
    refine LCg.ListComp_U (F₀ := F9) (by with_unfolding_all rfl) (by decide) (by rfl) (by decide) (by rfl) ?_
    k_steps
    unfold Halt
    rename Fr _ _ _ _ => F9
    rename News _ _ _ _ => N9
    refine LCg.CompSrc.ledger (its := us.toArray) rfl F9 N9 (by k_mem) (by rw [sizeLine_eq, List.size_toArray]; exact Nat.le_trans (Nat.le_of_lt zus) (by decide)) (fun gg => ?_)
    refine comp_rest (fun i ys nx => nx = _ ∧ IntsAre ys (costOf due lens (U.take i))) ⟨rfl, .nil⟩ ?_ ?_
    · rintro i v ys4 nx I oI C oC D4 m₂ h tk E' hi hv ⟨rfl, hys4⟩ hC hx F6 N6 off ⟨ne1, ne2, ne3⟩
      obtain ⟨x, tx, rfl, hx'⟩ := husv.at i v (by simpa using hv)
      have e1 : U.take (i + 1) = U.take i ++ [x] := by rw [List.take_add_one, hx']; rfl
      obtain ⟨m1, m2, m3⟩ := hum x (List.mem_of_getElem? hx')
      obtain ⟨m4, m5⟩ := p3 x.toNat
      k_steps
      all_goals try unfold Halt
      refine LCg.CompEnd.intro F6 N6 _ (fun p hp => hp) off (.inr ⟨_, by k_mem, rfl, _, rfl⟩) ⟨rfl, ?_⟩
      rw [e1, costOf, List.map_append]
      exact IntsAre.append hys4 (.cons _ _ .nil)
    · rintro ys4 nx ⟨rfl, hco⟩ D4 h tk F6 N6 off
      rw [List.size_toArray, zu, List.take_length] at hco
      clear F9 N9
      simp only [LCg.Off1, and_true] at off
      k_steps
      all_goals try unfold Halt
      rename Fr _ _ _ _ => F9
      rename News _ _ _ _ => N9
      refine sumK rfl F9 N9 (isList_M N9 (.head _)) hco ?_
      clear F9 N9
      intro h' tk' t' F9 N9
      k_steps
      all_goals try unfold Halt
      rename Fr _ _ _ _ => F9
      rename News _ _ _ _ => N9
      refine LCg.ListComp_U (F₀ := F9) (by with_unfolding_all rfl) (by decide) (by rfl) (by decide) (by rfl) ?_
      k_steps
      unfold Halt
      rename Fr _ _ _ _ => F9
      rename News _ _ _ _ => N9
      refine LCg.CompSrc.ledger (its := us.toArray) rfl F9 N9 (by k_mem) (by rw [sizeLine_eq, List.size_toArray]; exact Nat.le_trans (Nat.le_of_lt zus) (by decide)) (fun gg => ?_)
      refine comp_rest (fun i ys nx => nx = _ ∧ IntsAre ys (getOf due (U.take i))) ⟨rfl, .nil⟩ ?_ ?_
      · rintro i v ys5 nx I oI C oC D5 m₂ h tk E' hi hv ⟨rfl, hys5⟩ hC hx F6 N6 off ⟨ne1, ne2, ne3⟩
        obtain ⟨x, tx, rfl, hx'⟩ := husv.at i v (by simpa using hv)
        have e1 : U.take (i + 1) = U.take i ++ [x] := by rw [List.take_add_one, hx']; rfl
        obtain ⟨m1, m2, m3⟩ := hum x (List.mem_of_getElem? hx')
        k_steps
        all_goals try unfold Halt
        refine LCg.CompEnd.intro F6 N6 _ (fun p hp => hp) off (.inr ⟨_, by k_mem, rfl, _, rfl⟩) ⟨rfl, ?_⟩
        rw [e1, getOf, List.map_append]
        exact IntsAre.append hys5 (.cons _ _ .nil)
      · rintro ys5 nx ⟨rfl, hge⟩ D5 h tk F6 N6 off
        rw [List.size_toArray, zu, List.take_length] at hge
        clear F9 N9
        simp only [LCg.Off1, and_true] at off
        have zg : (getOf due U).length = qa.toNat + 3 := by rw [getOf, List.length_map, p2]
        k_steps
        all_goals try unfold Halt
        rename Fr _ _ _ _ => F9
        rename News _ _ _ _ => N9
        refine joined_K (cs := getOf due U) BB F9 (by assumption) N9 (by assumption) rfl rfl (by decide) (by decide) (by k_mem) hge (by rw [zg]; exact Nat.lt_trans zq (by decide)) (by rw [zg]; exact Nat.le_add_left _ _) ?_
        clear F9 N9
        intro jt t1 u1 T' h' tk F9 N9 v1 v2
        have hj1 := allLt_of v2
        simp only [AllLt, and_true] at hj1
        clear v2
        replace N9 := News.sub (l' := (jt, tup2 (joined (getOf due U)).1 (joined (getOf due U)).2 t1 u1) :: _) N9 (all_cons (.head _) fun p hp => .tail _ (v1 p hp))
        clear v1
        clear zg hge hco
        generalize joined (getOf due U) = J at *
        obtain ⟨J1, J2⟩ := J
        generalize (costOf due lens U).sum = cst at *
        dsimp only at p5 p6 N9
        by_cases hd : J2 ≤ 15
        · have hcb : cst = J1 := (show J2 ≤ 15 → cst = J1 from p5) hd
          subst hcb
          k_steps
          all_goals try unfold Halt
        · have hcb : J1 < cst := (show ¬ J2 ≤ 15 → J1 < cst from p6) hd
          k_steps
          all_goals try unfold Halt
theorem law_walk : PySem.Challenge.rw_nn0113_01.Holds := partA.2 ⟨partB.2 ⟨partC.2 ⟨partD⟩⟩⟩
end
end Mine
set_option maxHeartbeats 8000000 in
theorem PySem.Challenge.cw_nn0113_01_holds : PySem.Challenge.rw_nn0113_01.Holds := by
  exact Mine.law_walk
