import PyProof.Rows.All
import Wide.All
import OpenK.AllK
import Wide.FinOn
import PySem.Challenge.RW_nn0191_01
set_option Elab.async false
section
open PySem PySem.W PyProof.Rows
namespace Mine
set_option maxRecDepth 100000 in
set_option maxHeartbeats 8000000 in
open_top hd for PySem.Challenge.rw_nn0191_01
end Mine
end
open PySem PySem.W PySem.Calls PyProof.Rows PySem.Spec
namespace Mine
set_option compiler.extract_closed false
local macro_rules | `(tactic| omega) => `(tactic| first | decide | lia)
section
abbrev Led := List (Addr × Obj)
/-- what a caller gets from a call of the def at f: the value and the ledger behind it -/
def Cal (w : World) (f : Addr) (vs : List Value) (dpN unN : Nat) (news : Led) (Ret : Value → Led → Prop) : Prop :=
  ∀ (loose : List Str) (mean : ExcName → Option Value) (mg mb : Str → Option Value) (dp un : Nat) (gd : Option (List Code)) (cn : Str) (cs : Scope) (a : Addr) (ccd : Value) (cl : List (Str × Addr)) (outer : List Env) (A₀ : Around) (base h₀ : Heap) (L : Addr) (m : Str → Option Value) (s : Shared) (Q E : Value → Shared → Prop),
    Below A₀ base outer h₀ → Fr h₀ L s.heap m → (hd.heap_39 w.params).In h₀ → News h₀ L s.heap news → Top topProg loose mean mg mb h₀ → cs.kind = .function → dp + dpN < recursionLimit → un + unN < cLine →
    (∀ v news' h' tk', Ret v news' → Fr h₀ L h' m → News h₀ L h' news' → Q v { s with heap := h', toks := tk' }) →
    wpAny (model PySem.Challenge.rw_nn0191_01.row.prog w) (ktrTop dp un gd cn cs L a ccd cl outer) (call (.ref f) vs) Q E s
theorem Cal.use {w : World} {f : Addr} {vs : List Value} {dpN unN : Nat} {news : Led} {Ret : Value → Led → Prop} (C : Cal w f vs dpN unN news Ret)
    {loose : List Str} {mean : ExcName → Option Value} {mg mb : Str → Option Value} {dp un : Nat} {gd : Option (List Code)} {cn : Str} {cs : Scope} {a : Addr} {ccd : Value} {cl : List (Str × Addr)} {outer : List Env} {A₀ : Around} {base h₀ : Heap} {L : Addr} {m : Str → Option Value} {s : Shared} {Q E : Value → Shared → Prop}
    (B : Below A₀ base outer h₀) (F : Fr h₀ L s.heap m) (X : (hd.heap_39 w.params).In h₀) (N : News h₀ L s.heap news) (T : Top topProg loose mean mg mb h₀) (hk : cs.kind = .function) (hd : dp + dpN < recursionLimit) (hu : un + unN < cLine)
    (ret : ∀ v news' h' tk', Ret v news' → Fr h₀ L h' m → News h₀ L h' news' → Q v { s with heap := h', toks := tk' }) :
    wpAny (model PySem.Challenge.rw_nn0191_01.row.prog w) (ktrTop dp un gd cn cs L a ccd cl outer) (call (.ref f) vs) Q E s :=
  C _ _ _ _ _ _ _ _ _ _ _ _ _ _ _ _ _ _ _ _ _ B F X N T hk hd hu ret
/-- the same, with what is asked behind a name: the unpacking of the answer copies no goal -/
theorem Cal.go {w : World} {f : Addr} {vs : List Value} {dpN unN : Nat} {news : Led} {Ret : Value → Led → Prop} (C : Cal w f vs dpN unN news Ret)
    {loose : List Str} {mean : ExcName → Option Value} {mg mb : Str → Option Value} {dp un : Nat} {gd : Option (List Code)} {cn : Str} {cs : Scope} {a : Addr} {ccd : Value} {cl : List (Str × Addr)} {outer : List Env} {A₀ : Around} {base h₀ : Heap} {L : Addr} {m : Str → Option Value} {s : Shared} {Q E : Value → Shared → Prop}
    (B : Below A₀ base outer h₀) (F : Fr h₀ L s.heap m) (X : (hd.heap_39 w.params).In h₀) (N : News h₀ L s.heap news) (T : Top topProg loose mean mg mb h₀) (hk : cs.kind = .function) (hd : dp + dpN < recursionLimit) (hu : un + unN < cLine)
    (ret : ∀ G : Value → Led → Heap → Nat → Prop, (∀ v news' h' tk', Q v { s with heap := h', toks := tk' } → G v news' h' tk') → ∀ v news' h' tk', Ret v news' → Fr h₀ L h' m → News h₀ L h' news' → G v news' h' tk') :
    wpAny (model PySem.Challenge.rw_nn0191_01.row.prog w) (ktrTop dp un gd cn cs L a ccd cl outer) (call (.ref f) vs) Q E s :=
  Cal.use C B F X N T hk hd hu (ret (fun v _ h' tk' => Q v { s with heap := h', toks := tk' }) fun _ _ _ _ k => k)
theorem allNe_of {d : Addr} {l : Led} (h : AllLt d l) : ∀ p ∈ l, p.1 ≠ d := by
  induction l with
  | nil => intro p hp; cases hp
  | cons q r ih =>
    intro p hp
    have h1 : @LT.lt Nat _ q.1 d := h.1
    rcases List.mem_cons.mp hp with rfl | hp
    · exact Nat.ne_of_lt h1
    · exact ih h.2 p hp
theorem bare {α : Type} {P : α → Shared → Prop} {v : α} {s : Shared} (h : P v s) : P v s := h
/-- a ledger parted: one entry and the rest -/
inductive Split : Led → Addr → Obj → Led → Prop
  | head {a : Addr} {o : Obj} {r : Led} : Split ((a, o) :: r) a o r
  | tail {x : Addr × Obj} {a : Addr} {o : Obj} {l r : Led} (h : Split l a o r) : Split (x :: l) a o (x :: r)
theorem Split.sub {l r : Led} {a : Addr} {o : Obj} (h : Split l a o r) : ∀ p ∈ (a, o) :: r, p ∈ l := by
  induction h with
  | head => exact fun p hp => hp
  | tail h ih =>
    intro p hp
    rcases List.mem_cons.mp hp with rfl | hp
    · exact .tail _ (ih _ (.head _))
    · rcases List.mem_cons.mp hp with rfl | hp
      · exact .head _
      · exact .tail _ (ih _ (.tail _ hp))
theorem Split.news {h₀ h : Heap} {L : Addr} {l r : Led} {a : Addr} {o : Obj} (S : Split l a o r) (N : News h₀ L h l) : News h₀ L h ((a, o) :: r) := fun p hp => N p (S.sub p hp)
/-- the names written in a list hold in a frame's map -/
def AllP (m : Str → Option Value) : List (Str × Value) → Prop
  | [] => True
  | p :: r => m p.1 = some p.2 ∧ AllP m r
theorem AllP.all {m : Str → Option Value} : ∀ {l : List (Str × Value)}, AllP m l → ∀ p ∈ l, m p.1 = some p.2
  | _ :: _, ⟨h, _⟩, _, .head _ => h
  | _ :: _, ⟨_, r⟩, _, .tail _ hp => r.all _ hp
/-- a frame's map in a loop: the word's names, the names stored besides (anything), the rest as ahead of the loop -/
def Fm (ps : List (Str × Value)) (stored : List Str) (u m₀ : Str → Option Value) : Str → Option Value :=
  kstB (fun z => if stored.contains z then u z else m₀ z) ps
/-- two maps agree but at the names -/
def SameBut (names : List Str) (m m' : Str → Option Value) : Prop := ∀ z, names.contains z = false → m z = m' z
theorem fm_of {ps : List (Str × Value)} {stored : List Str} {m₀ m₁ : Str → Option Value} (h1 : AllP m₁ ps) (h2 : SameBut (ps.map (·.1) ++ stored) m₁ m₀) : Fm ps stored m₁ m₀ = m₁ := by
  funext y
  refine kstB_eq h1.all fun hn => ?_
  show (if stored.contains y = true then m₁ y else m₀ y) = m₁ y
  cases h3 : stored.contains y with
  | true => simp
  | false =>
    simp only [Bool.false_eq_true, if_false]
    refine (h2 y ?_).symm
    rw [List.contains_eq_mem] at h3 ⊢
    simp only [decide_eq_false_iff_not, List.mem_append, List.mem_map, not_or, not_exists, not_and] at h3 ⊢
    exact ⟨fun p hp e => hn p hp e.symm, h3⟩
theorem SameBut.set {names : List Str} {m m' : Str → Option Value} {x : Str} {v : Value} (h : SameBut names m m') (hx : names.contains x = true) : SameBut names (fun y => if y = x then some v else m y) m' := by
  intro z hz
  have : z ≠ x := fun e => by rw [e, hx] at hz; cases hz
  show (if z = x then some v else m z) = m' z
  rw [if_neg this]; exact h z hz
theorem kstB_off {rest : Str → Option Value} {z : Str} : ∀ {ps : List (Str × Value)}, (∀ p ∈ ps, p.1 ≠ z) → kstB rest ps z = rest z
  | [], _ => rfl
  | p :: r, h => by
    show (if z = p.1 then some p.2 else kstB rest r z) = rest z
    rw [if_neg fun e => h p (.head _) e.symm]
    exact kstB_off fun q hq => h q (.tail _ hq)
theorem SameBut.fm {names : List Str} {ps : List (Str × Value)} {stored : List Str} {u m₀ : Str → Option Value} (e : ps.map (·.1) ++ stored = names) : SameBut names (Fm ps stored u m₀) m₀ := by
  intro z hz
  rw [← e, List.contains_eq_mem] at hz
  simp only [decide_eq_false_iff_not, List.mem_append, List.mem_map, not_or, not_exists, not_and] at hz
  have h2 : stored.contains z = false := by rw [List.contains_eq_mem]; simpa using hz.2
  unfold Fm
  rw [kstB_off hz.1, h2]; rfl
theorem SameBut.refl {names : List Str} {m : Str → Option Value} : SameBut names m m := fun _ _ => rfl
section
variable {prog : Program} {w : World} {A : Around} {E : Value → Shared → Prop} {Q : Flow → Shared → Prop} {s : Shared} {env : Env} {h₀ : Heap} {L : Addr}
/-- what a turn of a while must leave -/
def WEnd {σ : Type} (h₀ : Heap) (L : Addr) (s : Shared) (ld : σ → Led) (ps : σ → List (Str × Value)) (names : List Str) (m₀ : Str → Option Value) (P : σ → Prop) (μ : σ → Nat) (n : Nat) (s₂ : Shared) : Prop :=
  ∃ (c' : σ) (h' : Heap) (tk : Nat) (m' : Str → Option Value), s₂ = { s with heap := h', toks := tk } ∧ Fr h₀ L h' m' ∧ News h₀ L h' (ld c') ∧ AllP m' (ps c') ∧ SameBut names m' m₀ ∧ P c' ∧ μ c' < n
def WPost {σ : Type} (h₀ : Heap) (L : Addr) (s : Shared) (ld : σ → Led) (ps : σ → List (Str × Value)) (names : List Str) (m₀ : Str → Option Value) (P : σ → Prop) (μ : σ → Nat) (Q : Flow → Shared → Prop) (n : Nat) (f : Flow) (s₂ : Shared) : Prop :=
  match f with
  | .ret v => Q (.ret v) s₂
  | .brk => Q .next s₂
  | _ => WEnd h₀ L s ld ps names m₀ P μ n s₂
theorem WEnd.intro {σ : Type} {s : Shared} {ld : σ → Led} {ps : σ → List (Str × Value)} {names : List Str} {m₀ m' : Str → Option Value} {P : σ → Prop} {μ : σ → Nat} {n : Nat} {h' : Heap} {tk : Nat} {news' : Led} (c' : σ)
    (F : Fr h₀ L h' m') (N : News h₀ L h' news') (hn : ∀ p ∈ ld c', p ∈ news') (hk : AllP m' (ps c')) (hr : SameBut names m' m₀) (hp : P c') (hm : μ c' < n) :
    WEnd h₀ L s ld ps names m₀ P μ n { s with heap := h', toks := tk } := ⟨c', h', tk, m', rfl, F, fun p hp => N p (hn p hp), hk, hr, hp, hm⟩
/-- a while, by a state of one's own -/
theorem my_while {σ : Type} {test : Expr} {body : List Stmt} {pos : Pos} {m₀ : Str → Option Value} {news : Led} (ld : σ → Led) (ps : σ → List (Str × Value)) (stored names : List Str) (hnames : ∀ c, (ps c).map (·.1) ++ stored = names) (P : σ → Prop) (μ : σ → Nat)
    (F : Fr h₀ L s.heap m₀) (N : News h₀ L s.heap news) (hst : ∃ c₀, AllP m₀ (ps c₀) ∧ (∀ p ∈ ld c₀, p ∈ news) ∧ P c₀)
    (turn : ∀ (c : σ) (u : Str → Option Value) h tk, P c → Fr h₀ L h (Fm (ps c) stored u m₀) → News h₀ L h (ld c) →
      wpAny (model prog w) A (isTrue test env (eval test env)) (fun b s₂ =>
        if b = true then wpAny (model prog w) A (execs body env) (WPost h₀ L s ld ps names m₀ P μ Q (μ c)) E s₂ else Q .next s₂) E { s with heap := h, toks := tk })
    (hE : PassesOwn (model prog w) A env E := by passes_own) :
    wpAny (model prog w) A (exec (.While test body [] pos) env) Q E s := by
  obtain ⟨c₀, hk, hn, hp⟩ := hst
  refine While_inv2 (fun n m nx => ∃ c : σ, nx = ld c ∧ μ c = n ∧ AllP m (ps c) ∧ SameBut names m m₀ ∧ P c) F (fun p hp => N p (hn p hp)) ⟨c₀, rfl, rfl, hk, fun _ _ => rfl, hp⟩ ?_ hE
  rintro n m₁ nx h tk F₁ N₁ ⟨c, hnx, hsz, h1, h2, hp'⟩
  rw [hnx] at N₁
  rw [← hsz]
  rw [← hnames c] at h2
  have F₂ : Fr h₀ L h (Fm (ps c) stored m₁ m₀) := by rw [fm_of h1 h2]; exact F₁
  refine wpAny_mono (turn c m₁ h tk hp' F₂ N₁) (fun b s₂ p => ?_) fun _ _ x => x
  cases b with
  | false => simpa using p
  | true =>
    simp only [if_true] at p ⊢
    refine wpAny_mono p (fun f s₃ q => ?_) fun _ _ x => x
    cases f with
    | ret v => exact q
    | brk => exact q
    | next =>
      obtain ⟨c', h', tk', m', rfl, F', N', hk9, hr9, hp9, hm9⟩ := q
      exact ⟨h', tk', m', ld c', μ c', rfl, F', N', hm9, c', rfl, rfl, hk9, hr9, hp9⟩
    | cont =>
      obtain ⟨c', h', tk', m', rfl, F', N', hk9, hr9, hp9, hm9⟩ := q
      exact ⟨h', tk', m', ld c', μ c', rfl, F', N', hm9, c', rfl, rfl, hk9, hr9, hp9⟩
end
section
variable {prog : Program} {w : World} {A : Around} {E : Value → Shared → Prop} {Q : Value → Shared → Prop} {s : Shared} {h₀ : Heap} {L D b : Addr} {m : Str → Option Value} {r news : Led} {vs ws : List Value} {n n2 : Nat}
theorem my_extend (F : Fr h₀ L s.heap m) (N : News h₀ L s.heap ((D, listOf vs.toArray n) :: r)) (hne : ∀ p ∈ r, p.1 ≠ D) (hb : (b, listOf ws.toArray n2) ∈ r) {ns ms : List Int} (hi : IntsAre vs ns) (hj : IntsAre ws ms) (hz : ns.length + ms.length ≤ 2 ^ 24)
    (h : ∀ h' us n', Fr h₀ L h' m → News h₀ L h' ((D, listOf (List.toArray us) n') :: r) → IntsAre us (ns ++ ms) → Q .none { s with heap := h' }) :
    wpAny (model prog w) A (call (.builtin "list.extend") [.ref D, .ref b]) Q E s := by
  have hz : vs.length + ws.length ≤ sizeLine := by rw [sizeLine_eq, hi.length, hj.length]; exact hz
  have hd : ¬(!vs.toArray.isEmpty && Builtin.List.listTooLong (vs.toArray.size + ws.toArray.size)) = true := by
    have : Builtin.List.listTooLong (vs.toArray.size + ws.toArray.size) = false := by
      simp only [Builtin.List.listTooLong, List.size_toArray, decide_eq_false_iff_not]; omega
    rw [this, Bool.and_false]; exact Bool.false_ne_true
  by_cases hw : ws = []
  · subst hw
    refine kxn_extend F N (.tail _ hb) rfl (.head hne) hd (by simp only; simp only [List.length_nil] at hz; omega) (by simp only [List.size_toArray, List.length_nil] at hz ⊢; omega) fun h' F' N' => ?_
    exact h h' vs n F' N' (by cases hj; rw [List.append_nil]; exact hi)
  · refine kl_extend F N (.tail _ hb) rfl (by simpa using hw) (.head hne) hd (by simp only; omega) (by simp only [List.size_toArray]; omega) fun h' F' N' => ?_
    exact h h' _ (n + 1) F' N' (IntsAre.append hi hj)
theorem my_append {x : Value} (F : Fr h₀ L s.heap m) (N : News h₀ L s.heap ((D, listOf vs.toArray n) :: r)) (hne : ∀ p ∈ r, p.1 ≠ D) (hz : vs.length ≤ sizeLine)
    (h : ∀ h' n', Fr h₀ L h' m → News h₀ L h' ((D, listOf (vs ++ [x]).toArray n') :: r) → Q .none { s with heap := h' }) :
    wpAny (model prog w) A (call (.builtin "list.append") [.ref D, x]) Q E s := by
  refine append_K F N (.head hne) (fun h' F' N' => ?_) (by rw [List.size_toArray]; exact hz)
  refine h h' (n + 1) F' ?_
  rw [List.push_toArray] at N'
  exact N'
theorem my_add {a : Addr} {ns ms : List Int} (F : Fr h₀ L s.heap m) (N : News h₀ L s.heap news) (ha : (a, listOf vs.toArray n) ∈ news) (hb : (b, listOf ws.toArray n2) ∈ news) (hi : IntsAre vs ns) (hj : IntsAre ws ms) (hz : ns.length + ms.length ≤ 2 ^ 24)
    (h : ∀ D us h', Fr h₀ L h' m → News h₀ L h' ((D, listOf (List.toArray us) 0) :: news) → (∀ p ∈ news, p.1 < D) → IntsAre us (ns ++ ms) → Q (.ref D) { s with heap := h' }) :
    wpAny (model prog w) A (binaryOp .Add (.ref a) (.ref b)) Q E s :=
  kmk_add_ints F N (News.isList N ha) (News.isList N hb) hi hj h (by rw [sizeLine_eq]; exact hz)
end
end
section
/-- one entry of a ledger and all the others -/
inductive Pick : Led → Addr → Obj → Led → Prop
  | head {a : Addr} {o : Obj} {r : Led} : Pick ((a, o) :: r) a o r
  | tail {x : Addr × Obj} {a : Addr} {o : Obj} {l r : Led} (h : Pick l a o r) : Pick (x :: l) a o (x :: r)
theorem Pick.sub {l r : Led} {a : Addr} {o : Obj} (h : Pick l a o r) : ∀ p ∈ (a, o) :: r, p ∈ l := by
  induction h with
  | head => exact fun p hp => hp
  | tail h ih =>
    intro p hp
    rcases List.mem_cons.mp hp with rfl | hp
    · exact .tail _ (ih _ (.head _))
    · rcases List.mem_cons.mp hp with rfl | hp
      · exact .head _
      · exact .tail _ (ih _ (.tail _ hp))
theorem Pick.news {h₀ h : Heap} {L : Addr} {l r : Led} {a : Addr} {o : Obj} (S : Pick l a o r) (N : News h₀ L h l) : News h₀ L h ((a, o) :: r) := fun p hp => N p (S.sub p hp)
theorem Pick.news2 {h₀ h : Heap} {L : Addr} {l r r2 : Led} {a b : Addr} {o o2 : Obj} (S : Pick l a o r) (S2 : Pick r b o2 r2) (N : News h₀ L h l) : News h₀ L h ((a, o) :: (b, o2) :: r2) := by
  intro p hp
  refine N p (S.sub p ?_)
  rcases List.mem_cons.mp hp with rfl | hp
  · exact .head _
  · exact .tail _ (S2.sub p hp)
theorem ne_cons {a b : Addr} {o : Obj} {l : Led} (h1 : @Ne Nat b a) (h2 : ∀ p ∈ l, p.1 ≠ a) : ∀ p ∈ (b, o) :: l, p.1 ≠ a := by
  intro p hp
  rcases List.mem_cons.mp hp with rfl | hp
  · exact h1
  · exact h2 p hp
theorem ne_app {a : Addr} {l r : Led} (h1 : ∀ p ∈ l, p.1 ≠ a) (h2 : ∀ p ∈ r, p.1 ≠ a) : ∀ p ∈ l ++ r, p.1 ≠ a := fun p hp => (List.mem_append.mp hp).elim (h1 p) (h2 p)
theorem ne_nil {a : Addr} : ∀ p ∈ ([] : Led), p.1 ≠ a := fun p hp => by cases hp
/-- the first ledger's addresses are none of the second's -/
def Apart (l tl : Led) : Prop := l.foldr (fun p acc => (∀ q ∈ tl, q.1 ≠ p.1) ∧ acc) True
theorem Apart.all {l tl : Led} (h : Apart l tl) : ∀ p ∈ l, ∀ q ∈ tl, q.1 ≠ p.1 := by
  induction l with
  | nil => intro p hp; cases hp
  | cons a r ih =>
    intro p hp
    rcases List.mem_cons.mp hp with rfl | hp
    · exact h.1
    · exact ih h.2 p hp
theorem Apart.of {l tl : Led} (h : ∀ p ∈ l, ∀ q ∈ tl, q.1 ≠ p.1) : Apart l tl := by
  induction l with
  | nil => exact trivial
  | cons a r ih => exact ⟨h a (.head _), ih fun q hq => h q (.tail _ hq)⟩
section
variable {prog : Program} {w : World} {A : Around} {E : Value → Shared → Prop} {Q : Flow → Shared → Prop} {s : Shared} {env : Env} {h₀ : Heap} {L : Addr} {x : Str} {body : List Stmt}
def FEnd {σ : Type} (h₀ : Heap) (L : Addr) (s : Shared) (ld : σ → Led) (ps : σ → List (Str × Value)) (names : List Str) (m₀ : Str → Option Value) (Inv : σ → Prop) (tl : Led) (s₂ : Shared) : Prop :=
  ∃ (c' : σ) (h' : Heap) (tk : Nat) (m' : Str → Option Value), s₂ = { s with heap := h', toks := tk } ∧ Fr h₀ L h' m' ∧ News h₀ L h' (ld c' ++ tl) ∧ AllP m' (ps c') ∧ SameBut names m' m₀ ∧ Apart (ld c') tl ∧ Inv c'
def FPost {σ : Type} (h₀ : Heap) (L : Addr) (s : Shared) (ld : σ → Led) (ps : σ → List (Str × Value)) (names : List Str) (m₀ : Str → Option Value) (Inv : σ → Prop) (tl : Led) (Q : Flow → Shared → Prop) (f : Flow) (s₂ : Shared) : Prop :=
  match f with
  | .ret v => Q (.ret v) s₂
  | .brk => Q .next s₂
  | _ => FEnd h₀ L s ld ps names m₀ Inv tl s₂
theorem FEnd.intro {σ : Type} {s : Shared} {ld : σ → Led} {ps : σ → List (Str × Value)} {names : List Str} {m₀ m' : Str → Option Value} {Inv : σ → Prop} {h' : Heap} {tk : Nat} {news' tl : Led} (c' : σ)
    (F : Fr h₀ L h' m') (N : News h₀ L h' news') (hn : ∀ p ∈ ld c' ++ tl, p ∈ news') (hk : AllP m' (ps c')) (hr : SameBut names m' m₀) (ha : Apart (ld c') tl) (hp : Inv c') :
    FEnd h₀ L s ld ps names m₀ Inv tl { s with heap := h', toks := tk } := ⟨c', h', tk, m', rfl, F, fun p hp => N p (hn p hp), hk, hr, ha, hp⟩
theorem my_loop {σ : Type} {I : Addr} {fp wr : List Addr} {n : Nat} {P : Nat → Value → Prop} {St : Nat → Heap → Prop} {m₀ : Str → Option Value} {news rest : Led} (ld : σ → Led) (ps : σ → List (Str × Value)) (stored names : List Str) (Inv : Nat → σ → Prop)
    (W : Walks prog w A I fp wr n P St) (live : ∀ i h, St i h → ∀ b ∈ fp, ∃ o, h.get? b = some o) (hnames : ∀ c, (ps c).map (·.1) ++ stored = names) (_hx : names.contains x = true) (hLf : env.locals ∉ fp) (hwr : ∀ b ∈ wr, h₀.get? b = none) (hst : St 0 s.heap) (F : Fr h₀ env.locals s.heap m₀) (N : News h₀ env.locals s.heap news) (hrest : ∀ p ∈ rest, p.1 ∉ wr)
    (h0 : ∃ c₀, AllP m₀ (ps c₀) ∧ (∀ p ∈ ld c₀ ++ rest, p ∈ news) ∧ Apart (ld c₀) rest ∧ (∀ p ∈ ld c₀, p.1 ∉ fp) ∧ Inv 0 c₀)
    (turn : ∀ i v c u h tk tl, i < n → P i v → Inv i c → Apart (ld c) tl → (∀ p ∈ rest, p ∈ tl) → Fr h₀ env.locals h (fun y => if y = x then some v else Fm (ps c) stored u m₀ y) → News h₀ env.locals h (ld c ++ tl) →
      wpAny (model prog w) A (execs body env) (FPost h₀ env.locals { s with heap := h, toks := tk } ld ps names m₀ (Inv (i + 1)) tl Q) E { s with heap := h, toks := tk })
    (done : ∀ c u h tk, Inv n c → Apart (ld c) rest → Fr h₀ env.locals h (Fm (ps c) stored u m₀) → News h₀ env.locals h (ld c ++ rest) → Q .next { s with heap := h, toks := tk }) :
    LoopAtV prog w A h₀ env x body Q E (.ref I) s := by
  obtain ⟨c₀, hk0, hn0, ha0, hf0, hi0⟩ := h0
  refine ⟨I, fp, wr, n, P, St, m₀, ld c₀ ++ rest, fun i m nx => ∃ c, nx = ld c ++ rest ∧ AllP m (ps c) ∧ SameBut names m m₀ ∧ Inv i c ∧ Apart (ld c) rest ∧ ∀ p ∈ ld c, p.1 ∉ fp, rfl, W, hLf, hwr, ?_, hst, F, fun p hp => N p (hn0 p hp), ⟨c₀, rfl, hk0, fun _ _ => rfl, hi0, ha0, hf0⟩, ?_, ?_⟩
  · intro p hp
    rcases List.mem_append.mp hp with hp | hp
    · exact fun hw => hf0 p hp (W.sub _ hw)
    · exact hrest p hp
  · rintro i v m₁ news₁ s₁ own ⟨hh', tk', rfl⟩ hin hP ⟨c, rfl, h1, h2, hI, hA, hfp⟩ hnw1 hoff hlive hcomp hst1 F₁ N₁
    have h2' := h2
    rw [← hnames c] at h2'
    have e : Fm (ps c) stored m₁ m₀ = m₁ := fm_of h1 h2'
    have F₂ : Fr h₀ env.locals hh' (fun y => if y = x then some v else Fm (ps c) stored m₁ m₀ y) := by rw [e]; exact F₁
    have N₂ : News h₀ env.locals hh' (ld c ++ (rest ++ own)) := by
      intro p hp
      refine N₁ p ?_
      rcases List.mem_append.mp hp with hp | hp
      · exact List.mem_append.mpr (.inr (List.mem_append.mpr (.inl hp)))
      · rcases List.mem_append.mp hp with hp | hp
        · exact List.mem_append.mpr (.inr (List.mem_append.mpr (.inr hp)))
        · exact List.mem_append.mpr (.inl hp)
    have A₂ : Apart (ld c) (rest ++ own) := by
      refine .of fun p hp q hq => ?_
      rcases List.mem_append.mp hq with hq | hq
      · exact hA.all p hp q hq
      · exact fun e => hfp p hp (e ▸ hoff q hq)
    refine wpAny_mono (turn i v c m₁ hh' tk' (rest ++ own) hin hP hI A₂ (fun p hp => List.mem_append.mpr (.inl hp)) F₂ N₂) (fun f s₂ p => ?_) fun _ _ e => e
    have fin : FEnd h₀ env.locals { s with heap := hh', toks := tk' } ld ps names m₀ (Inv (i + 1)) (rest ++ own) s₂ → LoopStepU h₀ env.locals wr own (fun m nx => ∃ c, nx = ld c ++ rest ∧ AllP m (ps c) ∧ SameBut names m m₀ ∧ Inv (i + 1) c ∧ Apart (ld c) rest ∧ ∀ p ∈ ld c, p.1 ∉ fp) { s with heap := hh', toks := tk' } .next s₂ := by
      rintro ⟨c', h', tk, m', e, F', N', hk, hr, ha, hi⟩
      have hA' : Apart (ld c') rest := .of fun p hp q hq => ha.all p hp q (List.mem_append.mpr (.inl hq))
      have hf' : ∀ p ∈ ld c', p.1 ∉ fp := by
        intro p hp hb
        obtain ⟨o, ho⟩ := live _ _ hst1 p.1 hb
        exact ha.all p hp _ (List.mem_append.mpr (.inr (hcomp p.1 hb (N' p (List.mem_append.mpr (.inl hp))).2.2 o ho))) rfl
      refine ⟨rfl, h', tk, m', ld c' ++ rest, e, F', ?_, ?_, c', rfl, hk, hr, hi, hA', hf'⟩
      · intro p hp
        refine N' p ?_
        rcases List.mem_append.mp hp with hp | hp
        · exact List.mem_append.mpr (.inr (List.mem_append.mpr (.inr hp)))
        · rcases List.mem_append.mp hp with hp | hp
          · exact List.mem_append.mpr (.inl hp)
          · exact List.mem_append.mpr (.inr (List.mem_append.mpr (.inl hp)))
      · intro p hp
        rcases List.mem_append.mp hp with hp | hp
        · exact fun hw => hf' p hp (W.sub _ hw)
        · exact hrest p hp
    cases f with
    | ret v => exact .ret p
    | brk => exact .brk p
    | next => exact .next (fin p)
    | cont => exact .cont (fin p)
  · rintro h' tk m' news' F' N' _ ⟨c, rfl, h1, h2, hI, hA, _⟩
    have h2' := h2
    rw [← hnames c] at h2'
    have e : Fm (ps c) stored m' m₀ = m' := fm_of h1 h2'
    exact done c m' h' tk hI hA (by rw [e]; exact F') N'
theorem my_range {σ : Type} {r : Addr} {a₀ b₀ : Int} {t₀ u₀ v₀ : Tok} {n : Nat} {m₀ : Str → Option Value} {news rest : Led} (ld : σ → Led) (ps : σ → List (Str × Value)) (stored names : List Str) (Inv : Nat → σ → Prop)
    (hh : A.handled = none) (hr : IsRange s.heap r a₀ b₀ 1 t₀ u₀ v₀) (hsmall : Builtin.Range.small a₀ b₀ 1 = true) (hn : Builtin.Range.rangeSize a₀ b₀ 1 = (n : Int)) (hnames : ∀ c, (ps c).map (·.1) ++ stored = names) (_hx : names.contains x = true) (F : Fr h₀ env.locals s.heap m₀) (N : News h₀ env.locals s.heap news)
    (h0 : ∃ c₀, AllP m₀ (ps c₀) ∧ (∀ p ∈ ld c₀ ++ rest, p ∈ news) ∧ Apart (ld c₀) rest ∧ Inv 0 c₀)
    (turn : ∀ (i : Nat) t c u h tk tl, i < n → Inv i c → Apart (ld c) tl → (∀ p ∈ rest, p ∈ tl) → Fr h₀ env.locals h (fun y => if y = x then some (.int (a₀ + i) t) else Fm (ps c) stored u m₀ y) → News h₀ env.locals h (ld c ++ tl) →
      wpAny (model prog w) A (execs body env) (FPost h₀ env.locals { s with heap := h, toks := tk } ld ps names m₀ (Inv (i + 1)) tl Q) E { s with heap := h, toks := tk })
    (done : ∀ c u h tk, Inv n c → Apart (ld c) rest → Fr h₀ env.locals h (Fm (ps c) stored u m₀) → News h₀ env.locals h (ld c ++ rest) → Q .next { s with heap := h, toks := tk }) :
    wpAny (model prog w) A (pyIter (.ref r)) (fun it s₂ => LoopAtV prog w A h₀ env x body Q E it s₂) E s := by
  obtain ⟨c₀, hk0, hn0, ha0, hi0⟩ := h0
  refine wpAny_pyIter_range hr hsmall ?_
  have hnew : ∀ p ∈ news, p.1 ≠ s.heap.objs.size := fun p hp => Nat.ne_of_lt (Heap.lt_size (N p hp).1)
  have W := Walks.range (prog := prog) (w := w) hh s.heap.objs.size a₀ 1 n
  refine my_loop ld ps stored names Inv W ?_ hnames _hx ?_ ?_ (by show IsRangeIter _ _ _ _ _; rw [hn]; simpa using Heap.get?_push_size _ rfl) (F.push _) (fun p hp => ⟨Heap.get?_push_of_some _ (N p hp).1, (N p hp).2⟩) ?_ ⟨c₀, hk0, hn0, ha0, ?_, hi0⟩ ?_ done
  · intro i h hs b hb
    rw [List.mem_singleton.mp hb]
    exact ⟨_, hs⟩
  · intro hm
    exact absurd F.ns.lt ((List.mem_singleton.mp hm) ▸ Nat.lt_irrefl _)
  · intro b hb
    rw [List.mem_singleton.mp hb]
    exact next_is_new F
  · intro p hp hm
    exact hnew p (hn0 p (List.mem_append.mpr (.inr hp))) (List.mem_singleton.mp hm)
  · intro p hp hm
    exact hnew p (hn0 p (List.mem_append.mpr (.inl hp))) (List.mem_singleton.mp hm)
  · rintro i v c u h tk tl hin ⟨t, rfl⟩ hI hA hsub F₁ N₁
    have e : a₀ + (i : Int) * 1 = a₀ + i := by omega
    rw [e] at F₁
    exact turn i t c u h tk tl hin hI hA hsub F₁ N₁
theorem my_list {σ : Type} {l : Addr} {vs : List Value} {nn : Nat} {m₀ : Str → Option Value} {news rest : Led} (ld : σ → Led) (ps : σ → List (Str × Value)) (stored names : List Str) (Inv : Nat → σ → Prop)
    (hh : A.handled = none) (hl : (l, listOf vs.toArray nn) ∈ rest) (hnames : ∀ c, (ps c).map (·.1) ++ stored = names) (_hx : names.contains x = true) (F : Fr h₀ env.locals s.heap m₀) (N : News h₀ env.locals s.heap news)
    (h0 : ∃ c₀, AllP m₀ (ps c₀) ∧ (∀ p ∈ ld c₀ ++ rest, p ∈ news) ∧ Apart (ld c₀) rest ∧ Inv 0 c₀)
    (turn : ∀ (i : Nat) v c u h tk tl, vs[i]? = some v → Inv i c → Apart (ld c) tl → (∀ p ∈ rest, p ∈ tl) → Fr h₀ env.locals h (fun y => if y = x then some v else Fm (ps c) stored u m₀ y) → News h₀ env.locals h (ld c ++ tl) →
      wpAny (model prog w) A (execs body env) (FPost h₀ env.locals { s with heap := h, toks := tk } ld ps names m₀ (Inv (i + 1)) tl Q) E { s with heap := h, toks := tk })
    (done : ∀ c u h tk, Inv vs.length c → Apart (ld c) rest → Fr h₀ env.locals h (Fm (ps c) stored u m₀) → News h₀ env.locals h (ld c ++ rest) → Q .next { s with heap := h, toks := tk }) :
    wpAny (model prog w) A (pyIter (.ref l)) (fun it s₂ => LoopAtV prog w A h₀ env x body Q E it s₂) E s := by
  obtain ⟨c₀, hk0, hn0, ha0, hi0⟩ := h0
  have hl' := hn0 _ (List.mem_append.mpr (.inr hl))
  have hol : s.heap.get? l = some (listOf vs.toArray nn) := (N _ hl').1
  have hls : s.heap.IsList l vs.toArray := ⟨_, hol, rfl, nn, rfl⟩
  have hne : l ≠ s.heap.objs.size := Nat.ne_of_lt (Heap.lt_size hol)
  refine wpAny_pyIter_list hls ?_
  have hnew : ∀ p ∈ news, p.1 ≠ s.heap.objs.size := fun p hp => Nat.ne_of_lt (Heap.lt_size (N p hp).1)
  have W := Walks.list (prog := prog) (w := w) hh s.heap.objs.size l hne vs.toArray
  have hsz : vs.toArray.size = vs.length := by simp
  rw [hsz] at W
  refine my_loop ld ps stored names Inv W ?_ hnames _hx ?_ ?_ ⟨⟨_, Heap.get?_push_size _ rfl, rfl, rfl⟩, hls.at fun o e => Heap.get?_push_of_some _ e⟩ (F.push _) (fun p hp => ⟨Heap.get?_push_of_some _ (N p hp).1, (N p hp).2⟩) ?_ ⟨c₀, hk0, hn0, ha0, ?_, hi0⟩ ?_ done
  · rintro i h ⟨⟨o1, h1, _⟩, ⟨o2, h2, _⟩⟩ b hb
    rcases List.mem_cons.mp hb with rfl | hb
    · exact ⟨_, h1⟩
    · rw [List.mem_singleton.mp hb]; exact ⟨_, h2⟩
  · intro hm
    rcases List.mem_cons.mp hm with e | hm
    · exact absurd F.ns.lt (e ▸ Nat.lt_irrefl _)
    · exact (N _ hl').2.1 (List.mem_singleton.mp hm).symm
  · intro b hb
    rw [List.mem_singleton.mp hb]
    exact next_is_new F
  · intro p hp hm
    exact hnew p (hn0 p (List.mem_append.mpr (.inr hp))) (List.mem_singleton.mp hm)
  · intro p hp hm
    rcases List.mem_cons.mp hm with e | hm
    · exact hnew p (hn0 p (List.mem_append.mpr (.inl hp))) e
    · exact ha0.all p hp _ hl (List.mem_singleton.mp hm).symm
  · rintro i v c u h tk tl hin hv hI hA hsub F₁ N₁
    refine turn i v c u h tk tl ?_ hI hA hsub F₁ N₁
    simpa using hv
end
end
section
section
variable {prog : Program} {w : World} {A : Around} {E : Value → Shared → Prop} {Q : Flow → Shared → Prop} {s : Shared} {env : Env} {h₀ : Heap} {L : Addr} {target : Expr} {body : List Stmt}
theorem my_turns {σ : Type} {I : Addr} {fp wr : List Addr} {n : Nat} {P Md : Nat → Value → Heap → Prop} {St : Nat → Heap → Prop} {m₀ : Str → Option Value} {news rest : Led} (ld : σ → Led) (ps : σ → List (Str × Value)) (stored names : List Str) (Inv : Nat → σ → Prop)
    (W : KTurns prog w A target I fp wr n P Md St) (live : ∀ i h, St i h → ∀ b ∈ fp, ∃ o, h.get? b = some o) (hnames : ∀ c, (ps c).map (·.1) ++ stored = names) (hLf : env.locals ∉ fp) (hwr : ∀ b ∈ wr, h₀.get? b = none) (hst : St 0 s.heap) (F : Fr h₀ env.locals s.heap m₀) (N : News h₀ env.locals s.heap news) (hrest : ∀ p ∈ rest, p.1 ∉ wr)
    (h0 : ∃ c₀, AllP m₀ (ps c₀) ∧ (∀ p ∈ ld c₀ ++ rest, p ∈ news) ∧ Apart (ld c₀) rest ∧ (∀ p ∈ ld c₀, p.1 ∉ fp) ∧ Inv 0 c₀)
    (turn : ∀ i v c u h tk tl, i < n → P i v h → Inv i c → Apart (ld c) tl → (∀ p ∈ rest, p ∈ tl) → Fr h₀ env.locals h (Fm (ps c) stored u m₀) → News h₀ env.locals h (ld c ++ tl) →
      wpAny (model prog w) A (assign target env v) (fun _ s₃ => wpAny (model prog w) A (execs body env) (FPost h₀ env.locals { s with heap := h, toks := tk } ld ps names m₀ (Inv (i + 1)) tl Q) E s₃) E { s with heap := h, toks := tk })
    (done : ∀ c u h tk, Inv n c → Apart (ld c) rest → Fr h₀ env.locals h (Fm (ps c) stored u m₀) → News h₀ env.locals h (ld c ++ rest) → Q .next { s with heap := h, toks := tk }) :
    TurnsAt prog w A h₀ env target body Q E (.ref I) s := by
  obtain ⟨c₀, hk0, hn0, ha0, hf0, hi0⟩ := h0
  refine ⟨I, fp, wr, n, P, Md, St, m₀, ld c₀ ++ rest, fun i m nx => ∃ c, nx = ld c ++ rest ∧ AllP m (ps c) ∧ SameBut names m m₀ ∧ Inv i c ∧ Apart (ld c) rest ∧ ∀ p ∈ ld c, p.1 ∉ fp, rfl, W, hLf, hwr, ?_, hst, F, fun p hp => N p (hn0 p hp), ⟨c₀, rfl, hk0, fun _ _ => rfl, hi0, ha0, hf0⟩, ?_, ?_⟩
  · intro p hp
    rcases List.mem_append.mp hp with hp | hp
    · exact fun hw => hf0 p hp (W.sub _ hw)
    · exact hrest p hp
  · rintro i v m₁ news₁ hh' tk' own hin hP ⟨c, rfl, h1, h2, hI, hA, hfp⟩ hnw1 hoff hlive hcomp hst1 F₁ N₁
    have h2' := h2
    rw [← hnames c] at h2'
    have e : Fm (ps c) stored m₁ m₀ = m₁ := fm_of h1 h2'
    have F₂ : Fr h₀ env.locals hh' (Fm (ps c) stored m₁ m₀) := by rw [e]; exact F₁
    have N₂ : News h₀ env.locals hh' (ld c ++ (rest ++ own)) := by
      intro p hp
      refine N₁ p ?_
      rcases List.mem_append.mp hp with hp | hp
      · exact List.mem_append.mpr (.inr (List.mem_append.mpr (.inl hp)))
      · rcases List.mem_append.mp hp with hp | hp
        · exact List.mem_append.mpr (.inr (List.mem_append.mpr (.inr hp)))
        · exact List.mem_append.mpr (.inl hp)
    have A₂ : Apart (ld c) (rest ++ own) := by
      refine .of fun p hp q hq => ?_
      rcases List.mem_append.mp hq with hq | hq
      · exact hA.all p hp q hq
      · exact fun e => hfp p hp (e ▸ hoff q hq)
    refine wpAny_mono (turn i v c m₁ hh' tk' (rest ++ own) hin hP hI A₂ (fun p hp => List.mem_append.mpr (.inl hp)) F₂ N₂) (fun _ s₃ z => wpAny_mono z (fun f s₂ p => ?_) fun _ _ e => e) fun _ _ e => e
    have fin : FEnd h₀ env.locals { s with heap := hh', toks := tk' } ld ps names m₀ (Inv (i + 1)) (rest ++ own) s₂ → LoopStepU h₀ env.locals wr own (fun m nx => ∃ c, nx = ld c ++ rest ∧ AllP m (ps c) ∧ SameBut names m m₀ ∧ Inv (i + 1) c ∧ Apart (ld c) rest ∧ ∀ p ∈ ld c, p.1 ∉ fp) { s with heap := hh', toks := tk' } .next s₂ := by
      rintro ⟨c', h', tk, m', e, F', N', hk, hr, ha, hi⟩
      have hA' : Apart (ld c') rest := .of fun p hp q hq => ha.all p hp q (List.mem_append.mpr (.inl hq))
      have hf' : ∀ p ∈ ld c', p.1 ∉ fp := by
        intro p hp hb
        obtain ⟨o, ho⟩ := live _ _ hst1 p.1 hb
        exact ha.all p hp _ (List.mem_append.mpr (.inr (hcomp p.1 hb (N' p (List.mem_append.mpr (.inl hp))).2.2 o ho))) rfl
      refine ⟨rfl, h', tk, m', ld c' ++ rest, e, F', ?_, ?_, c', rfl, hk, hr, hi, hA', hf'⟩
      · intro p hp
        refine N' p ?_
        rcases List.mem_append.mp hp with hp | hp
        · exact List.mem_append.mpr (.inr (List.mem_append.mpr (.inr hp)))
        · rcases List.mem_append.mp hp with hp | hp
          · exact List.mem_append.mpr (.inl hp)
          · exact List.mem_append.mpr (.inr (List.mem_append.mpr (.inl hp)))
      · intro p hp
        rcases List.mem_append.mp hp with hp | hp
        · exact fun hw => hf' p hp (W.sub _ hw)
        · exact hrest p hp
    cases f with
    | ret v => exact .ret p
    | brk => exact .brk p
    | next => exact .next (fin p)
    | cont => exact .cont (fin p)
  · rintro h' tk m' news' F' N' _ ⟨c, rfl, h1, h2, hI, hA, _⟩
    have h2' := h2
    rw [← hnames c] at h2'
    have e : Fm (ps c) stored m' m₀ = m' := fm_of h1 h2'
    exact done c m' h' tk hI hA (by rw [e]; exact F') N'
theorem turns_list {σ : Type} {l : Addr} {vs : List Value} {nn : Nat} {m₀ : Str → Option Value} {news rest : Led} (ld : σ → Led) (ps : σ → List (Str × Value)) (stored names : List Str) (Inv : Nat → σ → Prop)
    (hh : A.handled = none) (hl : (l, listOf vs.toArray nn) ∈ rest) (hnames : ∀ c, (ps c).map (·.1) ++ stored = names) (F : Fr h₀ env.locals s.heap m₀) (N : News h₀ env.locals s.heap news)
    (h0 : ∃ c₀, AllP m₀ (ps c₀) ∧ (∀ p ∈ ld c₀ ++ rest, p ∈ news) ∧ Apart (ld c₀) rest ∧ Inv 0 c₀)
    (turn : ∀ (i : Nat) v c u h tk tl, vs[i]? = some v → Inv i c → Apart (ld c) tl → (∀ p ∈ rest, p ∈ tl) → Fr h₀ env.locals h (Fm (ps c) stored u m₀) → News h₀ env.locals h (ld c ++ tl) →
      wpAny (model prog w) A (assign target env v) (fun _ s₃ => wpAny (model prog w) A (execs body env) (FPost h₀ env.locals { s with heap := h, toks := tk } ld ps names m₀ (Inv (i + 1)) tl Q) E s₃) E { s with heap := h, toks := tk })
    (done : ∀ c u h tk, Inv vs.length c → Apart (ld c) rest → Fr h₀ env.locals h (Fm (ps c) stored u m₀) → News h₀ env.locals h (ld c ++ rest) → Q .next { s with heap := h, toks := tk }) :
    wpAny (model prog w) A (pyIter (.ref l)) (fun it s₂ => TurnsAt prog w A h₀ env target body Q E it s₂) E s := by
  obtain ⟨c₀, hk0, hn0, ha0, hi0⟩ := h0
  have hl' := hn0 _ (List.mem_append.mpr (.inr hl))
  have hol : s.heap.get? l = some (listOf vs.toArray nn) := (N _ hl').1
  have hls : s.heap.IsList l vs.toArray := ⟨_, hol, rfl, nn, rfl⟩
  have hne : l ≠ s.heap.objs.size := Nat.ne_of_lt (Heap.lt_size hol)
  refine wpAny_pyIter_list hls ?_
  have hnew : ∀ p ∈ news, p.1 ≠ s.heap.objs.size := fun p hp => Nat.ne_of_lt (Heap.lt_size (N p hp).1)
  have W := KTurns.ofWalks (target := target) (Walks.list (prog := prog) (w := w) hh s.heap.objs.size l hne vs.toArray) fun i v s Q E st q => letGo_listiter st.1 q
  have hsz : vs.toArray.size = vs.length := by simp
  rw [hsz] at W
  refine my_turns ld ps stored names Inv W ?_ hnames ?_ ?_ ⟨⟨_, Heap.get?_push_size _ rfl, rfl, rfl⟩, hls.at fun o e => Heap.get?_push_of_some _ e⟩ (F.push _) (fun p hp => ⟨Heap.get?_push_of_some _ (N p hp).1, (N p hp).2⟩) ?_ ⟨c₀, hk0, hn0, ha0, ?_, hi0⟩ ?_ done
  · rintro i h ⟨⟨o1, h1, _⟩, ⟨o2, h2, _⟩⟩ b hb
    rcases List.mem_cons.mp hb with rfl | hb
    · exact ⟨_, h1⟩
    · rw [List.mem_singleton.mp hb]; exact ⟨_, h2⟩
  · intro hm
    rcases List.mem_cons.mp hm with e | hm
    · exact absurd F.ns.lt (e ▸ Nat.lt_irrefl _)
    · exact (N _ hl').2.1 (List.mem_singleton.mp hm).symm
  · intro b hb
    rw [List.mem_singleton.mp hb]
    exact next_is_new F
  · intro p hp hm
    exact hnew p (hn0 p (List.mem_append.mpr (.inr hp))) (List.mem_singleton.mp hm)
  · intro p hp hm
    rcases List.mem_cons.mp hm with e | hm
    · exact hnew p (hn0 p (List.mem_append.mpr (.inl hp))) e
    · exact ha0.all p hp _ hl (List.mem_singleton.mp hm).symm
  · rintro i v c u h tk tl hin hv hI hA hsub F₁ N₁
    refine turn i v c u h tk tl ?_ hI hA hsub F₁ N₁
    have hv' : vs.toArray[i]? = some v := hv
    simpa using hv'
theorem turns_enum {σ : Type} {elts : List Expr} {k : Nat} {pos : Pos} {l : Addr} {vs : List Value} {nn : Nat} {m₀ : Str → Option Value} {news rest : Led} (ld : σ → Led) (ps : σ → List (Str × Value)) (stored names : List Str) (Inv : Nat → σ → Prop)
    (hh : A.handled = none) (hl : (l, listOf vs.toArray nn) ∈ rest) (hnames : ∀ c, (ps c).map (·.1) ++ stored = names) (F : Fr h₀ env.locals s.heap m₀) (N : News h₀ env.locals s.heap news)
    (h0 : ∃ c₀, AllP m₀ (ps c₀) ∧ (∀ p ∈ ld c₀ ++ rest, p ∈ news) ∧ Apart (ld c₀) rest ∧ Inv 0 c₀)
    (turn : ∀ (i : Nat) T t x c u h tk tl, vs[i]? = some x → IsTup h T #[.int i t, x] → Inv i c → Apart (ld c) tl → (∀ p ∈ rest, p ∈ tl) → Fr h₀ env.locals h (Fm (ps c) stored u m₀) → News h₀ env.locals h (ld c ++ tl) →
      wpAny (model prog w) A (assign (.Tuple elts k pos) env (.ref T)) (fun _ s₃ => wpAny (model prog w) A (execs body env) (FPost h₀ env.locals { s with heap := h, toks := tk } ld ps names m₀ (Inv (i + 1)) tl Q) E s₃) E { s with heap := h, toks := tk })
    (done : ∀ c u h tk, Inv vs.length c → Apart (ld c) rest → Fr h₀ env.locals h (Fm (ps c) stored u m₀) → News h₀ env.locals h (ld c ++ rest) → Q .next { s with heap := h, toks := tk }) :
    wpAny (model prog w) A (call (.type "enumerate") [.ref l]) (fun xv s₁ => wpAny (model prog w) A (pyIter xv) (fun it s₂ => TurnsAt prog w A h₀ env (.Tuple elts k pos) body Q E it s₂) E s₁) E s := by
  obtain ⟨c₀, hk0, hn0, ha0, hi0⟩ := h0
  have hl' := hn0 _ (List.mem_append.mpr (.inr hl))
  have hax := N _ hl'
  have hls : s.heap.IsList l vs.toArray := ⟨_, hax.1, rfl, nn, rfl⟩
  have hlt : l < s.heap.objs.size := Heap.lt_size hax.1
  have hLs : env.locals < s.heap.objs.size := F.ns.lt
  refine call_enumerate_list hls fun h' hE hI hsz hk => ?_
  refine wpAny_pyIter_enum hE ?_
  have W := KTurns.ofWalksU (elts := elts) (k := k) (pos := pos) (WalksT.enumerate (prog := prog) (w := w) hh (s.heap.objs.size + 1) s.heap.objs.size l (Nat.succ_ne_self _) (ktu_ne 1 hlt) (Nat.ne_of_lt hlt) vs.toArray).toU
  have hsz' : vs.toArray.size = vs.length := by simp
  rw [hsz'] at W
  have hnew : ∀ p ∈ news, p.1 ≠ s.heap.objs.size ∧ p.1 ≠ s.heap.objs.size + 1 := fun p hp => ⟨Nat.ne_of_lt (Heap.lt_size (N p hp).1), ktu_ne 1 (Heap.lt_size (N p hp).1)⟩
  refine my_turns (s := { s with heap := h' }) ld ps stored names Inv W ?_ hnames ?_ ?_ ⟨⟨.none, hE⟩, hI, hls.at fun o e => hk l o e⟩ (F.keeps hk) (N.grown hk) ?_ ⟨c₀, hk0, hn0, ha0, ?_, hi0⟩ ?_ done
  · rintro i h ⟨⟨old, he⟩, ⟨o1, h1, _⟩, ⟨o2, h2, _⟩⟩ b hb
    have hb' : b = s.heap.objs.size + 1 ∨ b = s.heap.objs.size ∨ b = l := by simpa using hb
    rcases hb' with rfl | rfl | rfl
    · exact ⟨_, he⟩
    · exact ⟨_, h1⟩
    · exact ⟨_, h2⟩
  · intro hI'
    have hb' : env.locals = s.heap.objs.size + 1 ∨ env.locals = s.heap.objs.size ∨ env.locals = l := by simpa using hI'
    rcases hb' with e | e | e
    · exact ktu_ne 1 hLs e
    · exact Nat.ne_of_lt hLs e
    · exact hax.2.1 e.symm
  · intro b hb
    have hb' : b = s.heap.objs.size + 1 ∨ b = s.heap.objs.size := by simpa using hb
    rcases hb' with rfl | rfl
    · exact ktu_new F (Nat.le_add_right _ _)
    · exact ktu_new F (Nat.le_refl _)
  · intro p hp hm
    have hb' : p.1 = s.heap.objs.size + 1 ∨ p.1 = s.heap.objs.size := by simpa using hm
    have q := hnew p (hn0 p (List.mem_append.mpr (.inr hp)))
    rcases hb' with e | e
    · exact q.2 e
    · exact q.1 e
  · intro p hp hm
    have hb' : p.1 = s.heap.objs.size + 1 ∨ p.1 = s.heap.objs.size ∨ p.1 = l := by simpa using hm
    have q := hnew p (hn0 p (List.mem_append.mpr (.inl hp)))
    rcases hb' with e | e | e
    · exact q.2 e
    · exact q.1 e
    · exact ha0.all p hp _ hl e.symm
  · rintro i v c u h tk tl hin ⟨T, vals, rfl, ⟨t, x, hx, rfl⟩, hT⟩ hI hA hsub F₁ N₁
    refine turn i T t x c u h tk tl (by simpa using hx) ?_ hI hA hsub F₁ N₁
    exact hT
end
end
section
abbrev Blk := Bool × List Int
def hd0 (ks : List Int) : Int := ks.getD 0 0
def bsize (c : Int) : Nat := if 128 < c then 1 else c.toNat + 1
/-- the reading stops here -/
abbrev stops (ks : List Int) : Prop := ks.length ≤ 1 ∨ hd0 ks = 128 ∨ ks.length < 1 + bsize (hd0 ks)
def blkOf (ks : List Int) : Blk := (decide (128 < hd0 ks), if 128 < hd0 ks then List.replicate (257 - hd0 ks).toNat (ks.getD 1 0) else (ks.drop 1).take (bsize (hd0 ks)))
def parse (ks : List Int) : List Blk × List Int :=
  if stops ks then ([], ks) else
    let r := parse (ks.drop (1 + bsize (hd0 ks)))
    (blkOf ks :: r.1, r.2)
termination_by ks.length
decreasing_by
  rename_i h
  have : ¬ ks.length ≤ 1 := fun q => h (.inl q)
  rw [List.length_drop]; omega
def flat (bs : List Blk) : List Int := bs.flatMap (·.2)
theorem parse_stop {ks : List Int} (h : stops ks) : parse ks = ([], ks) := by rw [parse, if_pos h]
theorem parse_go {ks : List Int} (h : ¬ stops ks) : parse ks = (blkOf ks :: (parse (ks.drop (1 + bsize (hd0 ks)))).1, (parse (ks.drop (1 + bsize (hd0 ks)))).2) := by rw [parse, if_neg h]
theorem flat_snoc (bs : List Blk) (b : Blk) : flat (bs ++ [b]) = flat bs ++ b.2 := by simp [flat]
/-- the reader has read bs and stands ahead of ls -/
def At (ks : List Int) (bs : List Blk) (ls : List Int) : Prop := parse ks = (bs ++ (parse ls).1, (parse ls).2)
theorem At.start (ks : List Int) : At ks [] ks := by simp [At]
theorem At.step {ks ls : List Int} {bs : List Blk} (h : At ks bs ls) (hs : ¬ stops ls) : At ks (bs ++ [blkOf ls]) (ls.drop (1 + bsize (hd0 ls))) := by
  unfold At at h ⊢
  rw [h, parse_go hs]; simp
theorem At.stop {ks ls : List Int} {bs : List Blk} (h : At ks bs ls) (hs : stops ls) : parse ks = (bs, ls) := by
  unfold At at h
  rw [h, parse_stop hs]; simp
end
section
theorem hd0_drop (ks : List Int) (i : Nat) : hd0 (ks.drop i) = ks.getD i 0 := by
  unfold hd0; simp [List.getD_eq_getElem?_getD]
theorem clip_nat (n k : Nat) : clipAt n (k : Int) = min k n := by
  unfold clipAt; rw [if_neg (Int.not_lt.mpr (Int.natCast_nonneg k))]; omega
theorem min_sub (a n k : Nat) : min (min (k + a) n - k) (n - k) = min a (n - k) := by
  rw [← Nat.sub_min_sub_right, Nat.add_sub_cancel_left, Nat.min_assoc, Nat.min_self]
theorem clip_lo {n i : Nat} (h : i < n) : clipAt n ((i : Int) + 1) = i + 1 :=
  (clip_nat n (i + 1)).trans (Nat.min_eq_left h)
theorem row_take {ks : List Int} {i : Nat} {c : Int} (hi : i < ks.length) (h0 : 0 ≤ c) :
    List.take (clipAt ks.length ((i : Int) + 2 + c) - clipAt ks.length ((i : Int) + 1)) (List.drop (clipAt ks.length ((i : Int) + 1)) ks) = (ks.drop (i + 1)).take (c.toNat + 1) := by
  obtain ⟨c, rfl⟩ := Int.eq_ofNat_of_zero_le h0
  have e : clipAt ks.length ((i : Int) + 2 + (c : Int)) = min (i + 1 + (c + 1)) ks.length := by
    rw [show ((i : Int) + 2 + (c : Int)) = ((i + 1 + (c + 1) : Nat) : Int) by omega]; exact clip_nat _ _
  rw [clip_lo hi, List.take_eq_take_iff, List.length_drop, e]
  exact min_sub (c + 1) ks.length (i + 1)
/-- a row's length, as the law's reader cuts it -/
theorem row_min {x : Int} {n : Nat} (h0 : 0 ≤ x) : min (x.toNat + 1) (n - 1) = min (min (1 + (x + 1)).toNat n - 1) (n - 1) := by
  obtain ⟨c, rfl⟩ := Int.eq_ofNat_of_zero_le h0
  rw [show (1 + ((c : Int) + 1)).toNat = 1 + (c + 1) by omega]
  exact (min_sub (c + 1) n 1).symm
theorem dec_cut {ks ls : List Int} {bs b2 : List Blk} {i : Nat} {c : Int} (h : At ks b2 (ks.drop i)) (hp : parse ks = (bs, ls)) (hi : i < ks.length) (hc : ks.getD i 0 = c) (h128 : c ≠ 128) (hs : ks.length - i ≤ 1 ∨ ks.length - i < 1 + bsize c) :
    ¬ (ls = [] ∨ hd0 ls = 128) ∧ (ks.length : Int) - ls.length = i := by
  have e := h.stop (by
    unfold stops
    rw [hd0_drop, List.length_drop, hc]
    rcases hs with hs | hs
    · exact .inl hs
    · exact .inr (.inr hs))
  rw [hp] at e
  cases e
  rw [hd0_drop, hc]
  have hl : (ks.drop i).length = ks.length - i := List.length_drop
  refine ⟨?_, by omega⟩
  rintro (q | q)
  · rw [q, List.length_nil] at hl; omega
  · exact h128 q
theorem dec_end {ks ls : List Int} {bs b2 : List Blk} {i : Nat} (h : At ks b2 (ks.drop i)) (hp : parse ks = (bs, ls)) (hi : i ≤ ks.length) (he : ks.length ≤ i ∨ ks.getD i 0 = 128) : (ls = [] ∨ hd0 ls = 128) ∧ bs = b2 := by
  have e := h.stop (by
    unfold stops
    rw [hd0_drop, List.length_drop]
    rcases he with he | he
    · exact .inl (by omega)
    · exact .inr (.inl he))
  rw [hp] at e
  cases e
  refine ⟨?_, rfl⟩
  rcases he with he | he
  · exact .inl (by rw [List.drop_eq_nil_iff]; exact he)
  · exact .inr (by rw [hd0_drop]; exact he)
theorem dec_row {ks : List Int} {b2 : List Blk} {i : Nat} {c : Int} (h : At ks b2 (ks.drop i)) (hi : i < ks.length) (hc : ks.getD i 0 = c) (h0 : 0 ≤ c) (h1 : c < 128) (hl : i + 2 + c.toNat ≤ ks.length) :
    At ks (b2 ++ [(false, (ks.drop (i + 1)).take (c.toNat + 1))]) (ks.drop (i + 2 + c.toNat)) := by
  have hb : bsize c = c.toNat + 1 := by unfold bsize; rw [if_neg (by omega)]
  have e := h.step (by
    unfold stops
    rw [hd0_drop, List.length_drop, hc, hb]
    omega)
  rw [hd0_drop, hc, hb, List.drop_drop] at e
  have hx : blkOf (ks.drop i) = (false, (ks.drop (i + 1)).take (c.toNat + 1)) := by
    unfold blkOf
    rw [hd0_drop, hc, hb, if_neg (by omega), List.drop_drop]
    simp; omega
  rw [hx, show i + (1 + (c.toNat + 1)) = i + 2 + c.toNat by omega] at e
  exact e
theorem dec_run {ks : List Int} {b2 : List Blk} {i : Nat} {c : Int} (h : At ks b2 (ks.drop i)) (hc : ks.getD i 0 = c) (h1 : 128 < c) (hl : i + 1 < ks.length) :
    At ks (b2 ++ [(true, List.replicate (257 - c).toNat (ks.getD (i + 1) 0))]) (ks.drop (i + 2)) := by
  have hb : bsize c = 1 := by unfold bsize; rw [if_pos h1]
  have e := h.step (by
    unfold stops
    rw [hd0_drop, List.length_drop, hc, hb]
    omega)
  rw [hd0_drop, hc, hb, List.drop_drop] at e
  have hx : blkOf (ks.drop i) = (true, List.replicate (257 - c).toNat (ks.getD (i + 1) 0)) := by
    unfold blkOf
    rw [hd0_drop, hc, if_pos h1]
    have : (ks.drop i).getD 1 0 = ks.getD (i + 1) 0 := by simp [List.getD_eq_getElem?_getD]
    rw [this]; simp [h1]
  rw [hx] at e
  exact e
theorem row_short {ks : List Int} {i : Nat} {c : Int} (hi : i < ks.length) (h0 : 0 ≤ c) (h1 : c < 128) (h : ((List.take (clipAt ks.length ((i : Int) + 2 + c) - clipAt ks.length ((i : Int) + 1)) (List.drop (clipAt ks.length ((i : Int) + 1)) ks)).length : Int) ≤ c) : ks.length - i < 1 + bsize c := by
  rw [row_take hi h0, List.length_take, List.length_drop] at h
  unfold bsize; rw [if_neg (by omega)]; omega
theorem row_long {ks : List Int} {i : Nat} {c : Int} (hi : i < ks.length) (h0 : 0 ≤ c) (h : ¬ ((List.take (clipAt ks.length ((i : Int) + 2 + c) - clipAt ks.length ((i : Int) + 1)) (List.drop (clipAt ks.length ((i : Int) + 1)) ks)).length : Int) ≤ c) : i + 2 + c.toNat ≤ ks.length := by
  rw [row_take hi h0, List.length_take, List.length_drop] at h
  omega
theorem flat_rep (n : Nat) (x : Int) : (List.replicate n [x]).flatten = List.replicate n x := by
  induction n with
  | zero => rfl
  | succ n ih => rw [List.replicate_succ, List.flatten_cons, ih, List.replicate_succ]; rfl
end
section
open PySem.Builtin
set_option maxRecDepth 100000
section
variable {prog : Program} {w : World} {A : Around} {E : Value → Shared → Prop} {s : Shared}
def ByteAt (b : Array UInt8) (i : Nat) (v : Value) : Prop := ∃ c u, b[i]? = some c ∧ v = .int (c.toNat : Int) u
theorem lst_hint {b : Array UInt8} {t : Tok} {Q : Bool → Shared → Prop} (h : ∀ r, Q r s) : wpAny (model prog w) A (Builtin.List.listLengthHint (.bytes b t)) Q E s := by
  unfold Builtin.List.listLengthHint
  refine wpAny_bind (wpAny_specialOf (T := "bytes") (v := .bytes b t) rfl FB.slot_bytes_len.lookup ?_)
  wp_delta
  refine wpAny_bind (wpAny_isInstance (T := "bytes") (v := .bytes b t) (b := true) rfl (by rw [isSubtype_type]; kernel_rfl) ?_)
  show wpAny _ _ (typeOf (Value.bytes b t) >>= _) _ _ _
  refine wpAny_bind (wpAny_typeOf (T := "bytes") (v := .bytes b t) rfl ?_)
  exact wpAny_pure (h _)
theorem lst_extend {R : Result → Shared → Prop} (hh : A.handled = none) (b : Array UInt8) (t : Tok) (S : Addr) (res : Value) (c₀ : Nat) (hS : s.heap.get? S = some { cls := .type "list", data := .seq #[] c₀ }) (hn : b.size ≤ sizeLine)
    (hR : ∀ h' tk acc' c', (∀ b o, b ≠ S → s.heap.get? b = some o → h'.get? b = some o) → h'.get? S = some { cls := .type "list", dict := none, data := .seq acc' c', slots := #[] } →
      ItemsOf (ByteAt b) acc' b.size → R (.ok (.ret res)) { s with heap := h', toks := tk }) :
    wpAny (model prog w) A.in1 (Builtin.List.listExtendWith (.ref S) (.bytes b t) res)
      (fun fin s' => match fin with | .done f => R (.ok f) s' | .again c' => c'.quiet = true ∧ codeAny (model prog w) A c' R s') (fun e s' => R (.error e) s') s := by
  have hSI : S ≠ s.heap.objs.size := Nat.ne_of_lt (Heap.lt_size hS)
  have hSf : S ∉ [s.heap.objs.size] := fun hm => hSI (List.mem_singleton.mp hm)
  unfold Builtin.List.listExtendWith
  refine wpAny_bind (wpAny_typeOf (T := "bytes") (v := .bytes b t) rfl ?_)
  have h1 : Builtin.List.listSameRef (.ref S) (.bytes b t) = false := rfl
  have h2 : (Value.type "bytes" == Value.type "list") = false := by decide
  have h3 : (Value.type "bytes" == Value.type "tuple") = false := by decide
  simp only [h1, h2, h3, Bool.or_false, Bool.false_eq_true, if_false]
  refine wpAny_bind (KBw.pyIter_bytes ?_)
  refine wpAny_bind (wpAny_holding (lst_hint fun r => ?_))
  have W := (KBw.walks (prog := prog) (w := w) (A := A.in1) hh s.heap.objs.size b t).toS
  have key : ∀ (h : Heap) (c₁ tk : Nat), KBw.IsBytesIter h s.heap.objs.size b t 0 → (∀ b o, b ≠ S → s.heap.get? b = some o → h.get? b = some o) →
      h.get? S = some { cls := .type "list", data := .seq #[] c₁ } → codeAny (model prog w) A (.builtin "list.extend.loop" ⟨[.ref S, .ref s.heap.objs.size, res], []⟩) R { s with heap := h, toks := tk } := by
    intro h c₁ tk hit hk hS₁
    refine codeAny_extend_loopS W hn S hSf res b.size 0 _ #[] c₁ rfl (Nat.zero_le _) hit hS₁ (ItemsOf.nil _) fun s' acc' c' hm hS' hacc => ?_
    rw [Moved.eq_with hm]
    refine hR s'.heap s'.toks acc' c' (fun b o hb e => hm.heap b o (fun hmem => ?_) (hk b o hb e)) hS' hacc
    rcases List.mem_cons.mp hmem with e' | hmem
    · exact hb e'
    · exact absurd (Heap.lt_size e) (by rw [List.mem_singleton.mp hmem]; exact Nat.lt_irrefl _)
  have hit₁ : KBw.IsBytesIter (s.heap.push { cls := .type "bytes_iterator", data := .fields #[.bytes b t, .int 0 0] }) s.heap.objs.size b t 0 := ⟨_, Heap.get?_push_size _ rfl, rfl, rfl⟩
  have hS₁ := Heap.get?_push_of_some { cls := .type "bytes_iterator", data := .fields #[.bytes b t, .int 0 0] } hS
  refine wpAny_ite_split (fun _ => ?_) (fun _ => wpAny_pure ⟨plainId_quiet F.plain_extend_loop _, key _ c₀ _ hit₁ (fun b o _ e => Heap.get?_push_of_some _ e) hS₁⟩)
  refine wpAny_bind (wpAny_rule ?_)
  refine wpAny_bind ?_
  show wpAny _ _ (updateSeq S (·.push .none) >>= fun _ => updateSeq S (·.pop)) _ _ _
  refine wpAny_bind (wpAny_updateSeq hS₁ rfl ?_)
  have hS₂ := Heap.get?_update_self (Obj.mapSeq (·.push Value.none)) hS₁ rfl
  refine wpAny_updateSeq (hz := by seq_fits) hS₂ rfl ?_
  have hS₃ := Heap.get?_update_self (Obj.mapSeq (·.pop)) hS₂ rfl
  refine wpAny_pure ⟨plainId_quiet F.plain_extend_loop _, key _ _ _ ?_ (fun b o hb e => ?_) hS₃⟩
  · obtain ⟨o, ho, h1, h2⟩ := hit₁
    exact ⟨o, (Heap.get?_update_other _ _ hSI).trans ((Heap.get?_update_other _ _ hSI).trans ho), h1, h2⟩
  · exact (Heap.get?_update_other _ _ (Ne.symm hb)).trans ((Heap.get?_update_other _ _ (Ne.symm hb)).trans (Heap.get?_push_of_some _ e))
theorem lst_init {R : Result → Shared → Prop} (hh : A.handled = none) (b : Array UInt8) (t : Tok) (S : Addr) (hS : s.heap.get? S = some { cls := .type "list", data := .seq #[] }) (hn : b.size ≤ sizeLine)
    (hR : ∀ h' tk acc' c', (∀ b o, b ≠ S → s.heap.get? b = some o → h'.get? b = some o) → h'.get? S = some { cls := .type "list", dict := none, data := .seq acc' c', slots := #[] } →
      ItemsOf (ByteAt b) acc' b.size → R (.ok (.ret .none)) { s with heap := h', toks := tk }) :
    wpAny (model prog w) A.in1 (Builtin.«list.__init__» ⟨[.ref S, .bytes b t], []⟩)
      (fun fin s' => match fin with | .done f => R (.ok f) s' | .again c' => c'.quiet = true ∧ codeAny (model prog w) A c' R s') (fun e s' => R (.error e) s') s := by
  show wpAny _ _ (do let old ← Builtin.List.listItems (.ref S); Builtin.List.listUpdate (.ref S) (fun _ => #[]); letGo old.toList.reverse; Builtin.List.listExtendWith (.ref S) (.bytes b t) .none) _ _ s
  refine wpAny_bind ?_
  unfold Builtin.List.listItems
  refine wpAny_bind (wpAny_seqItems hS rfl (wpAny_pure ?_))
  show wpAny _ _ (updateSeq S (fun _ => #[]) >>= fun _ => letGo (#[] : Array Value).toList.reverse >>= fun _ => Builtin.List.listExtendWith (.ref S) (.bytes b t) .none) _ _ s
  refine wpAny_bind (wpAny_updateSeq hS rfl ?_)
  have hS₂ := Heap.get?_update_self (Obj.mapSeq (fun _ => (#[] : Array Value))) hS rfl
  have oth : ∀ b o, b ≠ S → s.heap.get? b = some o → (s.heap.update S (Obj.mapSeq (fun _ => (#[] : Array Value)))).get? b = some o :=
    fun b o hb e => (Heap.get?_update_other _ _ (Ne.symm hb)).trans e
  refine wpAny_bind (wpAny_letGo ?_)
  refine lst_extend hh b t S .none _ hS₂ hn fun h' tk acc' c' hk hS' hacc => ?_
  exact hR h' tk acc' c' (fun b o hb e => hk b o hb (oth b o hb e)) hS' hacc
theorem lst_call {Q : Value → Shared → Prop} (hh : A.handled = none) (b : Array UInt8) (t : Tok) (hn : b.size ≤ sizeLine)
    (hQ : ∀ h' tk acc' c', (∀ b o, s.heap.get? b = some o → h'.get? b = some o) →
      h'.get? s.heap.objs.size = some { cls := .type "list", dict := none, data := .seq acc' c', slots := #[] } → ItemsOf (ByteAt b) acc' b.size → Q (.ref s.heap.objs.size) { s with heap := h', toks := tk }) :
    wpAny (model prog w) A (call (.type "list") [.bytes b t]) Q E s := by
  refine callType_codes (Q₁ := fun obj s₁ => obj = .ref s.heap.objs.size ∧ s₁ = { s with heap := s.heap.push { cls := .type "list", data := .seq #[] } }) F.called_list (F.typeCall_list_1 _) F.entry_list_init
    (code_list_new _ ⟨rfl, rfl⟩) fun obj s₁ h₁ => ?_
  obtain ⟨rfl, rfl⟩ := h₁
  have hS : (s.heap.push { cls := .type "list", data := .seq #[] }).get? s.heap.objs.size = some { cls := .type "list", data := .seq #[] } := Heap.get?_push_size _ rfl
  refine ⟨⟨_, hS, rfl⟩, F.args_list_init_2 _ _, lst_init (A := A.in1) hh b t _ hS hn fun h' tk acc' c' hk hS' hacc => ?_⟩
  exact ⟨rfl, hQ h' tk acc' c' (fun b o e => hk b o (Nat.ne_of_lt (Heap.lt_size e)) (Heap.get?_push_of_some _ e)) hS' hacc⟩
theorem ints_of_bytes (b : Array UInt8) (vs : List Value) (e : vs.length = b.size) (h : ∀ (j : Nat) (v : Value), vs[j]? = some v → ByteAt b j v) : IntsAre vs (KBw.bInts b) := by
  have key : ∀ (l : List UInt8) (vs : List Value), vs.length = l.length → (∀ (j : Nat) (v : Value), vs[j]? = some v → ∃ c u, l[j]? = some c ∧ v = .int (c.toNat : Int) u) → IntsAre vs (l.map fun c => (c.toNat : Int)) := by
    intro l
    induction l with
    | nil => intro vs e _; rw [List.length_eq_zero_iff.mp e]; exact IntsAre.nil
    | cons x r ih =>
      intro vs e h
      cases vs with
      | nil => cases e
      | cons v vs =>
        obtain ⟨c, u, h1, rfl⟩ := h 0 v rfl
        simp only [List.getElem?_cons_zero, Option.some.injEq] at h1
        subst h1
        exact IntsAre.cons _ _ (ih vs (by simpa using e) fun j v hv => by simpa using h (j + 1) v (by simpa using hv))
  refine key b.toList vs (by simpa using e) fun j v hv => ?_
  obtain ⟨c, u, h1, h2⟩ := h j v hv
  exact ⟨c, u, by simpa using h1, h2⟩
theorem my_listb {Q : Value → Shared → Prop} {h₀ : Heap} {L : Addr} {m : Str → Option Value} {news : Led} {b : Array UInt8} {t : Tok} {ks : List Int} (hh : A.handled = none) (F : Fr h₀ L s.heap m) (N : News h₀ L s.heap news) (hk : KBw.bInts b = ks) (hz : ks.length ≤ 2 ^ 24)
    (h : ∀ D us c h' tk, Fr h₀ L h' m → News h₀ L h' ((D, listOf (List.toArray us) c) :: news) → (∀ p ∈ news, p.1 < D) → IntsAre us ks → Q (.ref D) { s with heap := h', toks := tk }) :
    wpAny (model prog w) A (call (.type "list") [.bytes b t]) Q E s := by
  refine lst_call hh b t (by rw [sizeLine_eq, ← KBw.ints_length, hk]; exact hz) fun h' tk acc c hk' hD hI => ?_
  have hD' : h'.get? s.heap.objs.size = some (listOf (List.toArray acc.toList) c) := by
    rw [Array.toArray_toList]
    exact hD
  exact h _ acc.toList c h' tk (F.keeps hk') (news_pushed F N hk' hD' rfl) (fun p hp => Heap.lt_size (N p hp).1) (hk ▸ ints_of_bytes b _ (by rw [Array.length_toList]; exact hI.1) fun j v hj => hI.2 j v (by rw [← hj, Array.getElem?_toList]))
end
end
section
theorem dict_fields (o : Obj) (f : Array Value → Array Value) : (Obj.mapFields f o).dict = o.dict := by
  unfold Obj.mapFields; split <;> rfl
/-- an exception with a dict of its own, on its way: it has a traceback whose flight mark is fl -/
def TracedD (h base : Heap) (e d : Addr) (cls fl : Value) : Prop :=
  ∃ oe vs T oT ts, h.get? e = some oe ∧ oe.cls = cls ∧ oe.dict = some d ∧ oe.data = .fields vs ∧ vs[1]? = some (.ref T) ∧ base.get? T = none ∧ T ≠ e ∧ h.get? T = some oT ∧ oT.data = .fields ts ∧ ts[3]? = some fl
/-- what such a step leaves -/
structure Stn (base : Heap) (l : List Env) (e d : Addr) (cls fl : Value) (h h' : Heap) : Prop where
  stays : base.StaysIn h'
  frames : h'.FunFrames base l
  traced : TracedD h' base e d cls fl
  upto : h.UpToSlots h'
section
variable {M : Model} {A : Around} {E : Value → Shared → Prop} {s : Shared} {base : Heap} {env : Env} {outer l : List Env} {L e d : Addr} {cls fl : Value} {Q : Unit → Shared → Prop}
theorem upd_upto {h : Heap} {T : Addr} {oT : Obj} {ts : Array Value} {f : Array Value → Array Value} (hT : h.get? T = some oT) (hdT : oT.data = .fields ts) : h.UpToSlots (h.update T (Obj.mapFields f)) := fun b o hb hn =>
  ⟨o.slots, (Heap.get?_update_other _ _ fun q => by subst q; rw [hT] at hb; cases hb; exact hn ts hdT).trans hb⟩
theorem upd_stays {h : Heap} {T : Addr} {f : Obj → Obj} (hk : base.StaysIn h) (hn : base.get? T = none) : base.StaysIn (h.update T f) := fun b o hb =>
  (Heap.get?_update_other _ _ fun q => by rw [← q, hn] at hb; cases hb).trans (hk b o hb)
theorem upto_frames {h h' : Heap} (u : h.UpToSlots h') (hl : h.FunFrames base l) : h'.FunFrames base l :=
  hl.of_keeps fun b o hb hn => let ⟨_, q⟩ := u b o hb hn; ⟨_, q, rfl⟩
theorem fly_entry {oe : Obj} {vs : Array Value} {head : Value} {hadNext : Bool} (hfr : A.frames = some (env :: outer)) (hl : s.heap.FunFrames base (env :: outer)) (hf : env.frame = some L) (hk : base.StaysIn s.heap) (hen : base.get? e = none)
    (he : s.heap.get? e = some oe) (hc : oe.cls = cls) (hdd : oe.dict = some d) (hd : oe.data = .fields vs) (hsz : 1 < vs.size)
    (h : ∀ h', Stn base (env :: outer) e d cls (rawInt L) s.heap h' → Q () { s with heap := h' }) :
    wpAny M A (do let a ← frameOf env; let pl ← entryPlaceOf L hadNext; let b ← EntryCells.newEntry head a .none (rawInt L) .none pl; setField (.ref e) 1 b) Q E s := by
  have hene : e ∉ (env :: outer).filterMap (·.frame) := fun hm => by
    obtain ⟨_, o, ho, hnf⟩ := hl.mem hm
    rw [he] at ho; cases ho; exact hnf vs hd
  refine wpAny_bind (wpAny_frameOf_fun hfr hl hf fun h₁ hs => wpAny_bind (wpAny_entryPlaceOf fun pl hpl => ?_))
  unfold EntryCells.newEntry newFields
  refine wpAny_bind (wpAny_newObj_type ?_ (hpl.sizeOk5 _ _ _ _ _))
  generalize ho : ({ cls := .type "traceback", dict := none, data := .fields ([head, .ref L, .none, rawInt L, .none] ++ (if pl.isEmpty then List.replicate 6 Value.none else pl)).toArray } : Obj) = tb
  have htb : ∃ ts, tb.data = .fields ts ∧ ts[3]? = some (rawInt L) := by
    subst ho
    exact ⟨_, rfl, by first | (simp; done) | (rcases hpl with rfl | ⟨_, _, _, _, _, _, _, rfl⟩ <;> simp)⟩
  obtain ⟨ts, htd, ht3⟩ := htb
  have he₁ : h₁.get? e = some oe := (hs.2.1 e hene).trans he
  have hk₁ : base.StaysIn h₁ := fun b o hb => (hs.2.1 b fun hm => by rw [(hl.mem hm).1] at hb; cases hb).trans (hk b o hb)
  have u₁ : s.heap.UpToSlots h₁ := fun b o hb _ => hs.2.2 b o hb
  have he₂ := Heap.get?_push_of_some tb he₁
  have u₂ : s.heap.UpToSlots (h₁.push tb) := u₁.trans (.of_keeps fun b o hb => Heap.get?_push_of_some tb hb)
  have hTe : h₁.objs.size ≠ e := Nat.ne_of_gt (Heap.lt_size he₁)
  refine wpAny_setField he₂ hd hsz ?_
  have u₃ := u₂.trans (upd_upto (f := fun x => x.setIfInBounds 1 (Value.ref h₁.objs.size)) he₂ hd)
  have hd₃ := Obj.data_mapFields hd fun x => x.setIfInBounds 1 (Value.ref h₁.objs.size)
  have hT := Heap.get?_push_size h₁ (o := tb) (by subst ho; rfl)
  refine h _ ⟨upd_stays (fun b o hb => Heap.get?_push_of_some tb (hk₁ b o hb)) hen, upto_frames u₃ hl, ?_, u₃⟩
  refine ⟨_, _, h₁.objs.size, tb, ts, Heap.get?_update_self _ he₂ (Obj.isFreed_of_fields hd₃), (Obj.cls_mapFields _ _).trans hc, (dict_fields _ _).trans hdd, hd₃, by simp [hsz], hk₁.fresh, hTe, ?_, htd, ht3⟩
  exact (Heap.get?_update_other _ _ (Ne.symm hTe)).trans hT
theorem fly_note1 {oe : Obj} {vs : Array Value} (hfr : A.frames = some (env :: outer)) (hl : s.heap.FunFrames base (env :: outer)) (hf : env.frame = some L) (hk : base.StaysIn s.heap) (hen : base.get? e = none)
    (he : s.heap.get? e = some oe) (hc : oe.cls = cls) (hdd : oe.dict = some d) (hd : oe.data = .fields vs) (h1 : vs[1]? = some .none)
    (h : ∀ h', Stn base (env :: outer) e d cls (rawInt L) s.heap h' → Q () { s with heap := h' }) : wpAny M A (noteFrame (.ref e) env) Q E s := by
  unfold noteFrame
  simp only [hf]
  refine wpAny_bind (wpAny_field he hd h1 ?_)
  rw [if_neg (by decide)]
  exact fly_entry hfr hl hf hk hen he hc hdd hd (Array.getElem?_eq_some_iff.mp h1).1 h
theorem fly_note2 (hfr : A.frames = some (env :: outer)) (hl : s.heap.FunFrames base (env :: outer)) (hf : env.frame = some L) (hk : base.StaysIn s.heap) (hen : base.get? e = none) (ht : TracedD s.heap base e d cls .none)
    (h : ∀ h', Stn base (env :: outer) e d cls (rawInt L) s.heap h' → Q () { s with heap := h' }) : wpAny M A (noteFrame (.ref e) env) Q E s := by
  obtain ⟨oe, vs, T, oT, ts, he, hc, hdd, hd, h1, hnT, hTe, hT, hdT, h3⟩ := ht
  unfold noteFrame
  simp only [hf]
  refine wpAny_bind (wpAny_field he hd h1 ?_)
  rw [if_pos (show (Value.ref T != Value.none) = true from by simp)]
  refine wpAny_bind (wpAny_field hT hdT h3 ?_)
  rw [if_neg (show ¬ ((Value.none == rawInt L) = true) from by simp [rawInt])]
  refine wpAny_bind (wpAny_setField hT hdT (Array.getElem?_eq_some_iff.mp h3).1 ?_)
  have u := upd_upto (f := fun x => x.setIfInBounds 3 Value.none) hT hdT
  exact fly_entry hfr (upto_frames u hl) hf (upd_stays hk hnT) hen ((Heap.get?_update_other _ _ hTe).trans he) hc hdd hd (Array.getElem?_eq_some_iff.mp h1).1 fun h' ⟨x1, x2, x3, x4⟩ => h h' ⟨x1, x2, x3, u.trans x4⟩
theorem fly_land (hl : s.heap.FunFrames base l) (hk : base.StaysIn s.heap) (ht : TracedD s.heap base e d cls fl)
    (h : ∀ h', Stn base l e d cls .none s.heap h' → Q () { s with heap := h' }) : wpAny M A (setFlight (.ref e) none) Q E s := by
  obtain ⟨oe, vs, T, oT, ts, he, hc, hdd, hd, h1, hnT, hTe, hT, hdT, h3⟩ := ht
  unfold setFlight
  refine wpAny_bind (wpAny_field he hd h1 ?_)
  rw [if_pos (show (Value.ref T != Value.none) = true from by simp)]
  have h3s := (Array.getElem?_eq_some_iff.mp h3).1
  have u := upd_upto (f := fun x => x.setIfInBounds 3 ((none : Option Addr).elim Value.none fun f => rawInt f)) hT hdT
  refine wpAny_setField hT hdT h3s (h _ ⟨upd_stays hk hnT, upto_frames u hl, ?_, u⟩)
  exact ⟨oe, vs, T, _, _, (Heap.get?_update_other _ _ hTe).trans he, hc, hdd, hd, h1, hnT, hTe, Heap.get?_update_self _ hT (Obj.isFreed_of_fields (Obj.data_mapFields hdT _)), Obj.data_mapFields hdT _, by simp [h3s]⟩
end
end
section
def FlyingD (base : Heap) (l : List Env) (e d : Addr) (cls : Value) (h : Heap) : Prop := base.StaysIn h ∧ base.get? e = none ∧ h.FunFrames base l ∧ TracedD h base e d cls .none
/-- an exception with a dict of its own flies out to the frames l; the ledger stands -/
def RaisedD (base h₀ : Heap) (l : List Env) (e d : Addr) (cls : Value) (news : Led) (h : Heap) : Prop :=
  ∃ B, base.StaysIn B ∧ (∀ b o, h₀.get? b = some o → b ∉ l.filterMap (·.frame) → B.get? b = some o) ∧ (∀ q ∈ news, B.get? q.1 = some q.2 ∧ h₀.get? q.1 = none) ∧ h₀.get? e = none ∧ FlyingD B l e d cls h
theorem RaisedD.less {base h₀ h : Heap} {l : List Env} {e d : Addr} {cls : Value} {news news' : Led} (R : RaisedD base h₀ l e d cls news h) (hs : ∀ p ∈ news', p ∈ news) : RaisedD base h₀ l e d cls news' h :=
  let ⟨B, a, z, b, y, c⟩ := R; ⟨B, a, z, fun q hq => b q (hs q hq), y, c⟩
theorem RaisedD.down {base h₀ g h : Heap} {l : List Env} {e d : Addr} {cls : Value} {news : Led} (R : RaisedD base g l e d cls news h) (k : ∀ b o, h₀.get? b = some o → g.get? b = some o) : RaisedD base h₀ l e d cls news h :=
  let ⟨B, a, z, b, y, c⟩ := R; ⟨B, a, fun x o hx hn => z x o (k x o hx) hn, fun q hq => ⟨(b q hq).1, fresh_of_stays k (b q hq).2⟩, fresh_of_stays k y, c⟩
section
variable {M : Model} {A : Around} {E : Value → Shared → Prop} {s' : Shared} {base g g₂ h : Heap} {outer : List Env} {L a e d : Addr} {m : Str → Option Value} {name : Str} {scope : Scope} {cd cls : Value} {Q : Unit → Shared → Prop} {news : Led}
theorem leave_newD {oe : Obj} {vs : Array Value} (K : Below A base outer g) (F : Fr g L s'.heap m) (N : News g L s'.heap ((e, oe) :: news)) (hne : ∀ p ∈ news, p.1 ≠ e) (hc : oe.cls = cls) (hdd : oe.dict = some d) (hd : oe.data = .fields vs) (h1 : vs[1]? = some .none)
    (hQ : ∀ h', RaisedD base g outer e d cls news h' → g.UpToSlots h' → Q () { s' with heap := h' }) (hk : scope.kind = .function := by rfl) :
    wpAny M (A.deeper (envOf name scope L a cd)) (leaving (envOf name scope L a cd) (.ref e)) Q E s' := by
  have K' := K.push (name := name) (a := a) (cd := cd) F hk
  have he := N _ (.head _)
  have hbe : base.get? e = none := fresh_of_stays K.stays he.2.2
  have hin : ∀ env ∈ (envOf name scope L a cd :: outer), ∀ b, env.frame = some b → b ∈ e :: (envOf name scope L a cd :: outer).filterMap (·.frame) := fun env hm b hb => .tail _ (List.mem_filterMap.mpr ⟨env, hm, hb⟩)
  have st : base.StaysIn (hideAll s'.heap (e :: (envOf name scope L a cd :: outer).filterMap (·.frame))) := fun b o q => hideAll_get _ (K'.stays b o q) fun hm => by
    rcases List.mem_cons.mp hm with rfl | hm
    · rw [hbe] at q; cases q
    · rw [(K'.frames.mem hm).1] at q; cases q
  have hl : ∀ q ∈ news, (hideAll s'.heap (e :: (envOf name scope L a cd :: outer).filterMap (·.frame))).get? q.1 = some q.2 ∧ g.get? q.1 = none := fun q hq => by
    have Nq := N q (.tail _ hq)
    refine ⟨hideAll_get _ Nq.1 fun hm => ?_, Nq.2.2⟩
    rcases List.mem_cons.mp hm with q1 | hm
    · exact hne q hq q1
    · obtain ⟨env, hv, hf⟩ := List.mem_filterMap.mp hm
      rcases List.mem_cons.mp hv with rfl | hv
      · exact Nq.2.1 (Option.some.inj hf).symm
      · obtain ⟨o, ho, _⟩ := (K.frames.mem (List.mem_filterMap.mpr ⟨env, hv, hf⟩)).2
        rw [Nq.2.2] at ho; cases ho
  have hen : (hideAll s'.heap (e :: (envOf name scope L a cd :: outer).filterMap (·.frame))).get? e = none := hideAll_none _ (.head _)
  unfold leaving
  refine wpAny_bind (fly_note1 K'.stack (funFrames_hide K'.frames hin) rfl (fun b o q => of_hideAll _ q) hen he.1 hc hdd hd h1 fun h1 S1 => ?_)
  refine fly_land S1.frames S1.stays S1.traced fun h2 S2 => ?_
  obtain ⟨_, _, fr⟩ := S2.frames
  have hg : ∀ b o, g.get? b = some o → b ∉ outer.filterMap (·.frame) → (hideAll s'.heap (e :: (envOf name scope L a cd :: outer).filterMap (·.frame))).get? b = some o := fun b o hb hn => by
    refine hideAll_get _ (F.keep b o hb) fun hm => ?_
    rcases List.mem_cons.mp hm with q | hm
    · rw [q, he.2.2] at hb; cases hb
    · obtain ⟨env, hv, hf⟩ := List.mem_filterMap.mp hm
      rcases List.mem_cons.mp hv with rfl | hv
      · have : L = b := Option.some.inj hf
        rw [← this] at hb
        exact absurd (Heap.lt_size hb) (Nat.not_lt.mpr F.above)
      · exact hn (List.mem_filterMap.mpr ⟨env, hv, hf⟩)
  exact hQ h2 ⟨_, st, hg, hl, he.2.2, S2.stays, hen, fr, S2.traced⟩ ((Heap.UpToSlots.of_keeps F.keep).trans (S1.upto.trans S2.upto))
theorem leave_onD (K : Below A base outer g) (F : Fr g L g₂ m) (R : RaisedD base g (envOf name scope L a cd :: outer) e d cls news s'.heap) (hsm : g₂.UpToSlots s'.heap)
    (hQ : ∀ h', RaisedD base g outer e d cls news h' → g.UpToSlots h' → Q () { s' with heap := h' }) :
    wpAny M (A.deeper (envOf name scope L a cd)) (leaving (envOf name scope L a cd) (.ref e)) Q E s' := by
  obtain ⟨B, hB, hg, hl, hne, f1, f2, f3, f4⟩ := R
  unfold leaving
  refine wpAny_bind (fly_note2 (Around.frames_deeper K.stack) f3 rfl f1 f2 f4 fun h1 S1 => ?_)
  refine fly_land S1.frames S1.stays S1.traced fun h2 S2 => ?_
  obtain ⟨_, _, fr⟩ := S2.frames
  have hg' : ∀ b o, g.get? b = some o → b ∉ outer.filterMap (·.frame) → B.get? b = some o := fun b o hb hn => hg b o hb fun hm => by
    obtain ⟨env, hv, hf⟩ := List.mem_filterMap.mp hm
    rcases List.mem_cons.mp hv with rfl | hv
    · have : L = b := Option.some.inj hf
      rw [← this] at hb
      exact absurd (Heap.lt_size hb) (Nat.not_lt.mpr F.above)
    · exact hn (List.mem_filterMap.mpr ⟨env, hv, hf⟩)
  exact hQ h2 ⟨B, hB, hg', hl, hne, S2.stays, f2, fr, S2.traced⟩ ((Heap.UpToSlots.of_keeps F.keep).trans (hsm.trans (S1.upto.trans S2.upto)))
end
def CalX (w : World) (f : Addr) (vs : List Value) (dpN unN : Nat) (news : Led) (Ret : Value → Led → Prop) (RetE : Addr → Addr → Led → Prop) : Prop :=
  ∀ (loose : List Str) (mean : ExcName → Option Value) (mg mb : Str → Option Value) (dp un : Nat) (gd : Option (List Code)) (cn : Str) (cs : Scope) (a : Addr) (ccd : Value) (cl : List (Str × Addr)) (outer : List Env) (A₀ : Around) (base h₀ : Heap) (L : Addr) (m : Str → Option Value) (s : Shared) (Q E : Value → Shared → Prop),
    Below A₀ base outer h₀ → Fr h₀ L s.heap m → (hd.heap_39 w.params).In h₀ → News h₀ L s.heap news → Top topProg loose mean mg mb h₀ → cs.kind = .function → dp + dpN < recursionLimit → un + unN < cLine →
    (∀ v news' h' tk', Ret v news' → Fr h₀ L h' m → News h₀ L h' news' → Q v { s with heap := h', toks := tk' }) →
    (∀ e d news' g₂ h' tk', RetE e d news' → Fr h₀ L g₂ m → g₂.UpToSlots h' → RaisedD base h₀ (envX cn cs L a ccd cl :: outer) e d (.ref 59) news' h' → E (.ref e) { s with heap := h', toks := tk' }) →
    wpAny (model PySem.Challenge.rw_nn0191_01.row.prog w) (ktrTop dp un gd cn cs L a ccd cl outer) (call (.ref f) vs) Q E s
theorem CalX.use {w : World} {f : Addr} {vs : List Value} {dpN unN : Nat} {news : Led} {Ret : Value → Led → Prop} {RetE : Addr → Addr → Led → Prop} (C : CalX w f vs dpN unN news Ret RetE)
    {loose : List Str} {mean : ExcName → Option Value} {mg mb : Str → Option Value} {dp un : Nat} {gd : Option (List Code)} {cn : Str} {cs : Scope} {a : Addr} {ccd : Value} {cl : List (Str × Addr)} {outer : List Env} {A₀ : Around} {base h₀ : Heap} {L : Addr} {m : Str → Option Value} {s : Shared} {Q E : Value → Shared → Prop}
    (B : Below A₀ base outer h₀) (F : Fr h₀ L s.heap m) (X : (hd.heap_39 w.params).In h₀) (N : News h₀ L s.heap news) (T : Top topProg loose mean mg mb h₀) (hk : cs.kind = .function) (hd : dp + dpN < recursionLimit) (hu : un + unN < cLine)
    (ret : ∀ v news' h' tk', Ret v news' → Fr h₀ L h' m → News h₀ L h' news' → Q v { s with heap := h', toks := tk' })
    (retE : ∀ e d news' g₂ h' tk', RetE e d news' → Fr h₀ L g₂ m → g₂.UpToSlots h' → RaisedD base h₀ (envX cn cs L a ccd cl :: outer) e d (.ref 59) news' h' → E (.ref e) { s with heap := h', toks := tk' }) :
    wpAny (model PySem.Challenge.rw_nn0191_01.row.prog w) (ktrTop dp un gd cn cs L a ccd cl outer) (call (.ref f) vs) Q E s :=
  C _ _ _ _ _ _ _ _ _ _ _ _ _ _ _ _ _ _ _ _ _ B F X N T hk hd hu ret retE
/-- no exception: the plain contract -/
theorem CalX.cal {w : World} {f : Addr} {vs : List Value} {dpN unN : Nat} {news : Led} {Ret : Value → Led → Prop} {RetE : Addr → Addr → Led → Prop} (C : CalX w f vs dpN unN news Ret RetE) (no : ∀ e d n, ¬ RetE e d n) : Cal w f vs dpN unN news Ret := by
  intro loose mean mg mb dp un gd cn cs a ccd cl outer A₀ base h₀ L m s Q E B F X N T hk hd hu hret
  exact C.use B F X N T hk hd hu hret fun e d n _ _ _ r => (no e d n r).elim
end
section
set_option maxRecDepth 100000
open Builtin Builtin.ObjectAttr
section
variable {prog : Program} {w : World} {A : Around} {E : Value → Shared → Prop} {s : Shared} {K : Frag} {x C : Addr} {ox : Obj} {od : Option Obj} {name : Str} {expr : Bool}
theorem fx_isExc {M : Model} {h : Heap} {T : Value} (X : K.In h) (I : InstAt h x ox C od) (hs : subIn K (.ref C) T = some true) : Looks M h (isInstance (.ref x) T) true := I.type.andThen (looks_subIn X hs)
theorem fx_get {v : Value} {Q : Value → Shared → Prop} (X : K.In s.heap) (I : InstAt s.heap x ox C od) (hga : findIn K (.ref C) "__getattribute__" = some (some (.builtin "BaseException.__getattribute__"))) (hgg : findIn K (.ref C) "__getattr__" = some none)
    (hs : subIn K (.ref C) (.type "BaseException") = some true) (hf : findObj K C od name = some (.value v)) (hh : handedIn v = true) (h : Q v { s with toks := s.toks + 1 }) : wpAny (model prog w) A (getAttr (.ref x) name expr) Q E s := by
  obtain ⟨hp, g, d, t, os⟩ := s
  have L0 := I.type (M := model prog w)
  have L1 := looks_findIn (M := model prog w) X hga
  have L2 := looks_findIn (M := model prog w) X hgg
  have L3 := looks_find (M := model prog w) X I hf
  have L4 := fx_isExc (M := model prog w) X I hs
  have hx2 : (Value.builtin "BaseException.__getattribute__" == Value.builtin "object.__getattribute__") = false := by decide +kernel
  unfold getAttr getAttrBy
  refine wpAny_bind (wpAny_mkText (wpAny_holding (wpAny_bind (L0.at (wpAny_bind (L1.at ?_))))))
  dsimp only
  rw [hx2, Bool.and_false, if_neg Bool.false_ne_true]
  unfold getAttrByItsOwn hookBefore
  refine wpAny_bind ?_
  rw [if_pos (show onTheHeap (Value.ref C) = true from rfl)]
  refine L2.at (wpAny_bind (wpAny_attempt (wpAny_holding ?_)))
  unfold callGetattribute
  rw [if_neg (by cases expr <;> decide)]
  unfold boundAndCalled
  rw [PySem.F.attrBase_Exception.ga.bind (.ref x)]
  refine wpAny_bind (wpAny_pure (wpAny_call (codeAny_call_builtin PySem.F.attrBase_Exception.ga.plain F.entry_bexc_ga (@check_slot (model prog w) _ _ _ "BaseException.__getattribute__" "BaseException" "__getattribute__" (.ref x) _ [] _ (by decide +kernel) (by decide +kernel) L4 (F.args_bexc_ga _ _) ?_))))
  refine wpAny_bind (wpAny_pure (wpAny_bind (wpAny_pure (wpAny_bind (L0.at (wpAny_bind (L3.at ?_)))))))
  refine wpAny_pure ?_
  show wpAny _ _ (handedOut v) _ _ _
  rw [handedOut_of hh]; exact wpAny_pure h
end
abbrev excObj (t : Addr) (dx : Option Addr) : Obj := { cls := .ref 59, dict := dx, data := .fields #[.ref t, .none, .none, .none, .bool false, .none] }
section
variable {prog : Program} {w : World} {A : Around} {E : Value → Shared → Prop} {s : Shared} {K : Frag} {h₀ : Heap} {L e t : Addr} {m : Str → Option Value} {news : Led}
variable {nm q : Str} {N59 : Addr} {bs bm : List Value} {hdct : Bool} {sn : List Str} {sub : List Value} {ab : Bool} {col : Option Bool} {dd : Option Addr} {k0 k1 k2 k3 k5 : Option Value} {newId : String}
theorem fx_check_init {a : Value} {oe : Obj} {Q : Unit → Shared → Prop} (hC : s.heap.get? 59 = some (excClassObj nm q 59 N59 bs bm hdct sn sub ab col dd k0 k1 k2 k3 k5 newId)) (hcB : (Value.ref 59 :: bm).contains (.type "Exception") = true) (he : s.heap.get? e = some oe) (hc : oe.cls = .ref 59) (hq : Q () s) :
    wpAny (model prog w) A (checkBuiltinCall "Exception.__init__" ⟨[.ref e, a], []⟩) Q E s := by
  obtain ⟨hp, g, d, tk, os⟩ := s
  have FB := PySem.F.excBase_Exception
  have hshort := FB.noStar
  simp only [checkBuiltinCall, FB.initKind, FB.initSplit, FB.initRow]
  repeat (first | (with_reducible refine wpAny_loadPart_at he ?_; rw [hc]) | with_reducible refine wpAny_loadPart_at hC ?_ | (with_reducible refine wpAny_isSubtype_exc hC ?_; rw [hcB]) | wp_step)
  exact hq
theorem fx_init {a : Value} {Q : Value → Shared → Prop} (F : Fr h₀ L s.heap m) (N : News h₀ L s.heap ((e, excObj t none) :: news)) (hC : s.heap.get? 59 = some (excClassObj nm q 59 N59 bs bm hdct sn sub ab col dd k0 k1 k2 k3 k5 newId)) (hcB : (Value.ref 59 :: bm).contains (.type "Exception") = true) (hne : ∀ p ∈ news, p.1 ≠ e)
    (h : ∀ t2 h' tk, Fr h₀ L h' m → News h₀ L h' ((e, excObj t2 none) :: news) → Q .none { s with heap := h', toks := tk }) :
    wpAny (model prog w) A (call (.builtin "Exception.__init__") [.ref e, a]) Q E s := by
  obtain ⟨hp, g, d, tk, os⟩ := s
  have he := (N _ (.head _)).1
  have FB := PySem.F.excBase_Exception
  refine wpAny_call (codeAny_call_builtin FB.init.plain FB.initEntry (fx_check_init hC hcB he rfl ?_))
  unfold Builtin.«BaseException.__init__»
  show wpAny _ _ (newTuple [a] >>= fun v => Builtin.BaseException.bexcPut (.ref e) 0 v >>= fun _ => ret .none) _ _ _
  refine wpAny_bind (newTuple_N F N (fun h' F' N' => ?_))
  unfold Builtin.BaseException.bexcPut
  have he' := (N' _ (.tail _ (.head _))).1
  have nu := news_upd (f := Obj.mapFields (·.setIfInBounds 0 (Value.ref hp.objs.size))) (pre := [(hp.objs.size, { cls := .type "tuple", data := .seq [a].toArray })]) (d := e) (o := excObj t none) (o' := excObj hp.objs.size none) F' N'
    (fun p hp' => by rw [List.mem_singleton.mp hp']; exact Nat.ne_of_gt (Heap.lt_size he)) hne rfl rfl
  refine wpAny_bind (wpAny_bind (wpAny_field he' rfl (x := .ref t) rfl (wpAny_bind (wpAny_setField he' rfl (by simp) ?_))))
  refine wpAny_letGo (wpAny_pure ?_)
  exact h _ _ _ nu.1 fun p hp => nu.2 p (.tail _ hp)
theorem fx_put {dx : Addr} {name : Str} {tk : Tok} {v : Value} {pre post : Led} {es : List DictEntry} {n : Nat} {Q : Fin → Shared → Prop} (F : Fr h₀ L s.heap m) (N : News h₀ L s.heap (pre ++ (dx, dictOf es n) :: post))
    (hl : (lookIn name (dictOf es n)).isSome = true) (h1 : ∀ p ∈ pre, p.1 ≠ dx) (h2 : ∀ p ∈ post, p.1 ≠ dx) (hz : (putL name (PyData.keyHash w.params name) (.str name s.toks) v es).length ≤ 1000)
    (h : ∀ h', Fr h₀ L h' m → News h₀ L h' (pre ++ (dx, dictOf (putL name (PyData.keyHash w.params name) (.str name s.toks) v es) (putN name es n)) :: post) → Q (.done (.ret .none)) { s with heap := h', toks := s.toks + 1 }) :
    wpAny (model prog w) A (Builtin.ObjectAttr.storeInDict dx (.str name tk) name v) Q E s := by
  have e := putName_dict name (PyData.keyHash w.params name) (.str name s.toks) v es n
  obtain ⟨U1, U2⟩ := news_upd (f := Obj.putName name (PyData.keyHash w.params name) (.str name s.toks) v) F N h1 h2 e rfl
  have D := (N (dx, dictOf es n) (by simp)).1
  have D' := (U2 _ (List.mem_append.mpr (.inr (.head _)))).1
  unfold Builtin.ObjectAttr.storeInDict Builtin.ObjectAttr.newKeyGuard
  refine wpAny_bind (wpAny_pure (wpAny_bind ?_))
  unfold nsSet
  refine wpAny_bind (wpAny_bind (wpAny_askSetting (wpAny_pure (wpAny_bind (wpAny_mkText (wpAny_bind (wpAny_loadPart D ?_)))))))
  dsimp only
  have c : (!es.toArray.any (·.key.isStr name) && es.toArray.any (·.refKey)) = false := by
    rw [lookIn_dict] at hl
    unfold getL at hl
    rw [← Array.any_toList, ← Array.any_toList]
    split at hl
    · rename_i en he
      rw [List.any_eq_true.mpr ⟨en, List.mem_of_find?_eq_some he, List.find?_some he⟩]; rfl
    · split at hl
      · cases hl
      · rename_i z; rw [Bool.not_eq_true] at z; rw [z, Bool.and_false]
  rw [aRefKeyMayBeTheName_at, c]
  refine wpAny_updatePart D ?_
  refine wpAny_bind (wpAny_lookBehind D' (pastItsLine_dict (by rw [List.size_toArray, sizeLine_eq]; omega)) ?_)
  exact wpAny_pure (h _ U1 U2)
theorem fx_refuse (x : Value) : refuseLoop x "__setattr__" [.ref 59, .ref 46, .type "Exception", .type "BaseException", .type "object"] = pure () := by
  rw [refuseLoop_ref, refuseLoop_ref, PySem.F.store_Exception.passes]
theorem fx_store {name : Str} {v : Value} {o : Obj} {cd : ClassData} {Q : Unit → Shared → Prop} (X : K.In s.heap) (hx : s.heap.get? e = some o) (hoc : o.cls = .ref 59) (hn : findIn K (.ref 59) name = some none) (hsa : findIn K (.ref 59) "__setattr__" = some (some (.builtin "object.__setattr__")))
    (hcl : clsIn K 59 = some cd) (hm : cd.mro = [.ref 59, .ref 46, .type "Exception", .type "BaseException", .type "object"]) (hso : subIn K (.ref 59) (.type "object") = some true)
    (h : wpAny (model prog w) A.in1 (Builtin.ObjectAttr.ownDictForStores (.ref e)) (fun d s₁ => match d with | some d => wpAny (model prog w) A.in1 (Builtin.ObjectAttr.storeInDict d (.str name s.toks) name v) (fun fin s' => fin = .done (.ret .none) ∧ Q () s') E s₁ | none => False) E { s with toks := s.toks + 1 }) :
    wpAny (model prog w) A (setAttr (.ref e) name v) Q E s := by
  have L0 : Looks (model prog w) s.heap (typeOf (.ref e)) (.ref 59) := hoc ▸ (Looks.ld hx).andThen .now
  have SF := PySem.F.store_object
  have sub : Looks (model prog w) s.heap (isInstance (.ref e) (.type "object")) true := L0.andThen (looks_subIn X hso)
  refine wpAny_bind (wpAny_mkText (wpAny_bind (wpAny_bind (wpAny_bind (L0 _ _ _ _ (fun _ _ e => e) (looks_findIn X hsa _ _ _ _ (fun _ _ e => e) (wpAny_holding ?_)))))))
  rw [SF.slot.bind]
  refine wpAny_bind (wpAny_pure (wpAny_bind (wpAny_call (codeAny_mono (codeAny_call_builtin SF.slot.plain SF.entry (@check_slot (model prog w) _ _ _ "object.__setattr__" "object" "__setattr__" (.ref e) [.str name s.toks, v] [] _ SF.kind SF.split sub (SF.args (.ref e) (.str name s.toks) v) ?_)) fun r s' z => z))))
  have hmm : Looks (model prog w) s.heap (mroOf (.ref 59)) cd.mro := (looks_clsIn X hcl).andThen .now
  rw [show ([Value.ref e] ++ [Value.str name s.toks, v] : List Value) = [Value.ref e, Value.str name s.toks, v] from rfl, osa_eq, refuse_eq]
  refine wpAny_bind (wpAny_bind (L0 _ _ _ _ (fun _ _ e => e) (wpAny_bind (hmm _ _ _ _ (fun _ _ e => e) ?_))))
  rw [hm, fx_refuse]
  refine wpAny_pure (wpAny_bind (L0 _ _ _ _ (fun _ _ e => e) (wpAny_bind (looks_findIn X hn _ _ _ _ (fun _ _ e => e) (wpAny_bind (Looks.now (M := model prog w) (h := s.heap) (a := (none : Option Value)) _ _ _ _ (fun _ _ e => e) ?_))))))
  refine wpAny_bind (wpAny_pure (wpAny_bind (wpAny_mono h (fun d s₁ z => ?_) fun _ _ x => x)))
  cases d with
  | none => exact z.elim
  | some d => exact wpAny_mono z (fun fin s' y => by obtain ⟨rfl, y⟩ := y; exact wpAny_pure (wpAny_pure y)) fun _ _ x => x
theorem fx_dict1 {cd : ClassData} {dx : Addr} {Q : Option Addr → Shared → Prop} (X : K.In s.heap) (hx : s.heap.get? e = some (excObj t (some dx))) (hcl : clsIn K 59 = some cd) (hd : cd.hasDict = true) (h : Q (some dx) s) :
    wpAny (model prog w) A (Builtin.ObjectAttr.ownDictForStores (.ref e)) Q E s := by
  show wpAny _ _ (instanceDict e true) _ _ _
  unfold instanceDict
  refine wpAny_bind (wpAny_loadPart hx (wpAny_bind ((looks_clsIn X hcl).here ?_)))
  rw [hd]
  exact wpAny_pure h
theorem fx_dict0 {cd : ClassData} {Q : Option Addr → Shared → Prop} (F : Fr h₀ L s.heap m) (N : News h₀ L s.heap ((e, excObj t none) :: news)) (X : K.In s.heap) (hne : ∀ p ∈ news, p.1 ≠ e) (hcl : clsIn K 59 = some cd) (hd : cd.hasDict = true)
    (h : ∀ dx h', Fr h₀ L h' m → News h₀ L h' ((e, excObj t (some dx)) :: (dx, dictOf [] 0) :: news) → (∀ p ∈ (e, excObj t none) :: news, p.1 < dx) → (∀ b o, b ≠ e → s.heap.get? b = some o → h'.get? b = some o) → Q (some dx) { s with heap := h' }) :
    wpAny (model prog w) A (Builtin.ObjectAttr.ownDictForStores (.ref e)) Q E s := by
  have hx := (N _ (.head _)).1
  show wpAny _ _ (instanceDict e true) _ _ _
  unfold instanceDict
  refine wpAny_bind (wpAny_loadPart hx (wpAny_bind ((looks_clsIn X hcl).here ?_)))
  rw [hd]
  dsimp only
  have hx₁ : (s.heap.push (dictOf [] 0)).get? e = some (excObj t none) := Heap.get?_push_of_some _ hx
  have N₁ := N.push F (dictOf [] 0)
  have hlt : ∀ p ∈ (e, excObj t none) :: news, p.1 < s.heap.objs.size := fun p hp => Heap.lt_size (N p hp).1
  obtain ⟨U1, U2⟩ := news_upd (f := fun o => { o with dict := some s.heap.objs.size }) (pre := [(s.heap.objs.size, dictOf [] 0)]) (d := e) (o := excObj t none) (o' := excObj t (some s.heap.objs.size)) (F.push _) N₁
    (fun p hp => by rw [List.mem_singleton.mp hp]; exact Nat.ne_of_gt (hlt _ (.head _))) hne rfl rfl
  have fin := h s.heap.objs.size _ U1 (fun p hp => by
    rcases List.mem_cons.mp hp with rfl | hp
    · exact U2 _ (.tail _ (.head _))
    · rcases List.mem_cons.mp hp with rfl | hp
      · exact U2 _ (.head _)
      · exact U2 _ (.tail _ (.tail _ hp))) hlt (fun b o hb q => (Heap.get?_update_ne _ _ _ _ hb).trans (Heap.get?_push_of_some _ q))
  refine wpAny_bind (wpAny_alloc' ?_)
  refine wpAny_bind (wpAny_update' hx₁ ?_)
  exact wpAny_pure fin
theorem fx_set0 {name : Str} {v : Value} {cd : ClassData} {Q : Unit → Shared → Prop} (F : Fr h₀ L s.heap m) (N : News h₀ L s.heap ((e, excObj t none) :: news)) (X : K.In s.heap) (hne : ∀ p ∈ news, p.1 ≠ e) (hn : findIn K (.ref 59) name = some none) (hsa : findIn K (.ref 59) "__setattr__" = some (some (.builtin "object.__setattr__")))
    (hcl : clsIn K 59 = some cd) (hm : cd.mro = [.ref 59, .ref 46, .type "Exception", .type "BaseException", .type "object"]) (hso : subIn K (.ref 59) (.type "object") = some true) (hd : cd.hasDict = true)
    (h : ∀ dx h' tk tk', Fr h₀ L h' m → News h₀ L h' ((e, excObj t (some dx)) :: (dx, dictOf [⟨PyData.keyHash w.params name, .str name tk, v⟩] 1) :: news) → (∀ p ∈ (e, excObj t none) :: news, p.1 < dx) → Q () { s with heap := h', toks := tk' }) :
    wpAny (model prog w) A (setAttr (.ref e) name v) Q E s := by
  refine fx_store X (N _ (.head _)).1 rfl hn hsa hcl hm hso ?_
  refine fx_dict0 (s := { s with toks := s.toks + 1 }) F N X hne hcl hd fun dx h' F' N' l _ => ?_
  refine fx_put (s := { s with heap := h', toks := s.toks + 1 }) (pre := [(e, excObj t (some dx))]) F' N' rfl (fun p hp => by rw [List.mem_singleton.mp hp]; exact Nat.ne_of_lt (l (e, excObj t none) (.head _))) (fun p hp => Nat.ne_of_lt (l p (.tail _ hp))) (by show 1 ≤ 1000; decide) fun h'' F'' N'' => ?_
  exact ⟨rfl, h dx h'' _ _ F'' N'' l⟩
theorem fx_set1 {name : Str} {v : Value} {cd : ClassData} {dx : Addr} {es : List DictEntry} {n : Nat} {Q : Unit → Shared → Prop} (F : Fr h₀ L s.heap m) (N : News h₀ L s.heap ((e, excObj t (some dx)) :: (dx, dictOf es n) :: news)) (X : K.In s.heap) (hne : ∀ p ∈ news, p.1 ≠ dx) (hed : e ≠ dx) (hn : findIn K (.ref 59) name = some none) (hsa : findIn K (.ref 59) "__setattr__" = some (some (.builtin "object.__setattr__")))
    (hcl : clsIn K 59 = some cd) (hm : cd.mro = [.ref 59, .ref 46, .type "Exception", .type "BaseException", .type "object"]) (hso : subIn K (.ref 59) (.type "object") = some true) (hd : cd.hasDict = true)
    (hl : (lookIn name (dictOf es n)).isSome = true) (hz : ∀ tk, (putL name (PyData.keyHash w.params name) (.str name tk) v es).length ≤ 1000)
    (h : ∀ h' tk tk', Fr h₀ L h' m → News h₀ L h' ((e, excObj t (some dx)) :: (dx, dictOf (putL name (PyData.keyHash w.params name) (.str name tk) v es) (putN name es n)) :: news) → Q () { s with heap := h', toks := tk' }) :
    wpAny (model prog w) A (setAttr (.ref e) name v) Q E s := by
  refine fx_store X (N _ (.head _)).1 rfl hn hsa hcl hm hso ?_
  refine fx_dict1 (s := { s with toks := s.toks + 1 }) X (N _ (.head _)).1 hcl hd ?_
  refine fx_put (s := { s with toks := s.toks + 1 }) (pre := [(e, excObj t (some dx))]) F N hl (fun p hp => by rw [List.mem_singleton.mp hp]; exact hed) hne (hz _) fun h'' F'' N'' => ?_
  exact ⟨rfl, h h'' _ _ F'' N''⟩
end
end
section
set_option maxRecDepth 100000
section
variable {prog : Program} {w : World} {A : Around} {E : Value → Shared → Prop} {s : Shared} {K : Frag} {h₀ : Heap} {L e t : Addr} {m : Str → Option Value} {news : Led}
variable {nm q : Str} {N59 : Addr} {bs bm : List Value} {hdct : Bool} {sn : List Str} {sub : List Value} {ab : Bool} {col : Option Bool} {dd : Option Addr} {k0 k1 k2 k3 k5 : Option Value}
theorem fx_check_new {rest : List Value} {Q : Unit → Shared → Prop} (hC : s.heap.get? 59 = some (excClassObj nm q 59 N59 bs bm hdct sn sub ab col dd k0 k1 k2 k3 k5 "Exception.__new__")) (hcE : (Value.ref 59 :: bm).contains (.type "Exception") = true) (hq : Q () s) :
    wpAny (model prog w) A (checkBuiltinCall "Exception.__new__" ⟨.ref 59 :: rest, []⟩) Q E s := by
  obtain ⟨hp, g, d, tk, os⟩ := s
  have Fn := PySem.F.excBase_Exception
  have hstar := Fn.noStar
  simp only [checkBuiltinCall, Fn.newKind, Fn.newSplit, Fn.newRow]
  repeat (first | refine wpAny_loadPart_at hC ?_ | (refine wpAny_isSubtype_exc hC ?_; rw [hcE]) | refine wpAny_staticBase_exc hC ?_ | refine wpAny_madeBy_exc hC ?_ | simp only [bne_self_eq_false, Bool.false_eq_true, if_false] | wp_step)
  exact hq
theorem fx_new {R : Result → Shared → Prop} {rest : List Value} (hC : s.heap.get? 59 = some (excClassObj nm q 59 N59 bs bm hdct sn sub ab col dd k0 k1 k2 k3 k5 "Exception.__new__")) (hcE : (Value.ref 59 :: bm).contains (.type "Exception") = true)
    (hcA : (Value.ref 59 :: bm).contains (.type "AttributeError") = false) (hcN : (Value.ref 59 :: bm).contains (.type "NameError") = false) (hr : rest.length ≤ sizeLine)
    (hq : R (.ok (.ret (.ref (s.heap.objs.size + 1)))) { s with heap := (s.heap.push { cls := .type "tuple", data := .seq rest.toArray }).push (excObj s.heap.objs.size none) }) :
    codeAny (model prog w) A (.builtin "Exception.__new__" ⟨.ref 59 :: rest, []⟩) R s := by
  obtain ⟨hp, g, d, tk, os⟩ := s
  have Fn := PySem.F.excBase_Exception
  have hends := Fn.ends
  have hrest := hr
  refine codeAny_builtinAt Fn.entry ?_
  unfold Builtin.«BaseException.__new__»
  refine PySem.wpAt_bind ?_
  show PySem.wpAt _ _ _ (stack >>= _) _ _ _
  refine PySem.wpAt_bind (PySem.wpAt_stack fun p below => PySem.wpAt_of_wpAny ?_)
  wp_walk
  refine PySem.wpAt_of_wpAny ?_
  rw [Fn.owner]
  repeat (first | with_reducible refine wpAny_madeHere_exc Fn.canon hC ?_ | with_reducible refine wpAny_loadPart_at hC ?_ | (with_reducible refine wpAny_isSubtype_exc hC ?_; first | rw [hcE] | rw [hcA] | rw [hcN]) | wp_step)
  show R _ _
  rw [Heap.size_push]
  exact hq
theorem fx_type_call {rest : List Value} {Q : Fin → Shared → Prop} (F : Fr h₀ L s.heap m) (N : News h₀ L s.heap news) (X : K.In s.heap) (hC : s.heap.get? 59 = some (excClassObj nm q 59 N59 bs bm hdct sn sub ab col dd k0 k1 k2 k3 k5 "Exception.__new__")) (hcE : (Value.ref 59 :: bm).contains (.type "Exception") = true)
    (hcA : (Value.ref 59 :: bm).contains (.type "AttributeError") = false) (hcN : (Value.ref 59 :: bm).contains (.type "NameError") = false) (hr : rest.length ≤ sizeLine)
    (hi : findIn K (.ref 59) "__init__" = some (some (.ref 36))) (hf : typeIn K (.ref 36) = some (.type "function"))
    (hq : ∀ e t h', Fr h₀ L h' m → News h₀ L h' ((e, excObj t none) :: news) → (∀ p ∈ news, p.1 < e) → wpAny (model prog w) A (call (.ref 36) (.ref e :: rest)) (fun r s' => r = .none ∧ Q (.done (.ret (.ref e))) s') E { s with heap := h' }) :
    wpAny (model prog w) A (Builtin.«type.__call__» ⟨.ref 59 :: rest, []⟩) Q E s := by
  obtain ⟨hp, g, d, tk, os⟩ := s
  have Fn := PySem.F.excBase_Exception
  have N2 := (N.push F { cls := .type "tuple", data := .seq rest.toArray }).push (F.push _) (excObj hp.objs.size none)
  have F2 := (F.push { cls := .type "tuple", data := .seq rest.toArray }).push (excObj hp.objs.size none)
  rw [Heap.size_push] at N2
  have hq' := hq (hp.objs.size + 1) hp.objs.size _ F2 (fun p h => N2 p (by
    rcases List.mem_cons.mp h with rfl | h
    · exact .head _
    · exact .tail _ (.tail _ h))) (fun p hp => Nat.lt_succ_of_lt (Heap.lt_size (N p hp).1))
  have hk : ∀ b o, hp.get? b = some o → ((hp.push { cls := .type "tuple", data := .seq rest.toArray }).push (excObj hp.objs.size none)).get? b = some o := fun b o h => Heap.get?_push_of_some _ (Heap.get?_push_of_some _ h)
  have hget := (N2 _ (.head _)).1
  have hC₁ := hk _ _ hC
  have hcC : (Value.ref 59 :: bm).contains (.ref 59) = true := by simp
  have Li := looks_findIn (M := model prog w) (X.keeps hk) hi
  have Lb := bind_fn (M := model prog w) (X.keeps hk) (.ref (hp.objs.size + 1)) hf
  repeat (first | with_reducible refine wpAny_loadPart_at hC ?_ | with_reducible refine wpAny_madeBy_exc hC ?_ | wp_step)
  refine codeAny_call_builtin_code (Code.quiet_builtin _ Fn.quiet) (fx_check_new (s := ⟨hp, g, d, tk, os⟩) hC hcE ?_)
  refine fx_new (s := ⟨hp, g, d, tk, os⟩) hC hcE hcA hcN hr ?_
  show wpAny _ _ _ _ _ _
  unfold isInstance
  repeat (first | with_reducible refine wpAny_loadPart_at hget ?_ | (with_reducible refine wpAny_isSubtype_exc hC₁ ?_; rw [hcC]) | wp_step)
  show wpAny _ _ (typeLookup (.ref 59) _) _ _ _
  refine Li.at (wpAny_holding (wpAny_bind (Lb.at (wpAny_bind (wpAny_mono hq' (fun r s' hr => ?_) fun _ _ x => x)))))
  obtain ⟨rfl, hQ⟩ := hr
  wp_walk
  exact hQ
theorem fx_make {rest : List Value} {Q : Value → Shared → Prop} (F : Fr h₀ L s.heap m) (N : News h₀ L s.heap news) (X : K.In s.heap) (hC : s.heap.get? 59 = some (excClassObj nm q 59 N59 bs bm hdct sn sub ab col dd k0 k1 k2 k3 k5 "Exception.__new__")) (hcE : (Value.ref 59 :: bm).contains (.type "Exception") = true)
    (hcA : (Value.ref 59 :: bm).contains (.type "AttributeError") = false) (hcN : (Value.ref 59 :: bm).contains (.type "NameError") = false) (hr : rest.length ≤ sizeLine)
    (hi : findIn K (.ref 59) "__init__" = some (some (.ref 36))) (hf : typeIn K (.ref 36) = some (.type "function"))
    (hq : ∀ e t h', Fr h₀ L h' m → News h₀ L h' ((e, excObj t none) :: news) → (∀ p ∈ news, p.1 < e) → wpAny (model prog w) (A.under (.builtin "type.__call__" ⟨.ref 59 :: rest, []⟩)) (call (.ref 36) (.ref e :: rest)) (fun r s' => r = .none ∧ Q (.ref e) s') E { s with heap := h' }) :
    wpAny (model prog w) A (call (.ref 59) rest) Q E s := by
  obtain ⟨hp, g, d, tk, os⟩ := s
  have f1 := tc_lookup
  have f2 := tc_bind (.ref 59)
  have hT : (⟨hp, g, d, tk, os⟩ : Shared).TypeIs (.ref 59) "type" := ⟨_, hC, rfl⟩
  refine wpAny_call (codeAny_of_tree ?_)
  show wpAny _ _ (callAny (.ref 59) _) _ _ _
  repeat (any_goals (first | assumption | with_reducible refine wpAny_loadPart_at hC ?_ | wp_step))
  refine ⟨rfl, ?_⟩
  refine codeAny_call_builtin_at (Code.quiet_builtin _ (by decide +kernel)) entry_typeCall (wpAny_check_type_call_sub hC (fx_type_call (s := ⟨hp, g, d, tk, os⟩) F N X hC hcE hcA hcN hr hi hf fun e t h' F' N' l => ?_))
  exact hq e t h' F' N' l
end
end
section
set_option maxRecDepth 100000
def Cls59 (h : Heap) : Prop := ∃ nm q N59 bs bm hdct sn sub ab col dd k0 k1 k2 k3 k5 newId, h.get? 59 = some (excClassObj nm q 59 N59 bs bm hdct sn sub ab col dd k0 k1 k2 k3 k5 newId) ∧ (Value.ref 59 :: bm).contains (.type "BaseException") = true ∧ bm.contains (.type "BaseException") = true
theorem cls59 {w : World} {h : Heap} (X : (hd.heap_39 w.params).In h) : Cls59 h := ⟨_, _, _, _, _, _, _, _, _, _, _, _, _, _, _, _, _, X 59 _ rfl, by decide, by decide⟩
def RaisableD (E : Value → Shared → Prop) (v : Value) (s₁ : Shared) : Prop := ∃ e t dx, v = .ref e ∧ Cls59 s₁.heap ∧ s₁.heap.get? e = some (excObj t (some dx)) ∧ E (.ref e) s₁
section
variable {prog : Program} {w : World} {A : Around} {E : Value → Shared → Prop} {s : Shared} {env : Env}
theorem fx_raiseStmt {M : Model} {x : Sem Value} {Q : Flow → Shared → Prop} (hh : A.handled = none) (h : wpAny M A x (RaisableD E) E s) : wpAny M A (raiseStmt env (some x) none) Q E s := by
  unfold raiseStmt
  refine wpAny_bind (wpAny_mono h (fun v s₁ h₁ => ?_) fun _ _ x => x)
  obtain ⟨e, t, dx, rfl, ⟨nm, q, N59, bs, bm, hdct, sn, sub, ab, col, dd, k0, k1, k2, k3, k5, newId, hC, hcB, _⟩, he, hE⟩ := h₁
  obtain ⟨hp, g, d, tk, os⟩ := s₁
  repeat (first | with_reducible refine wpAny_loadPart_at he ?_ | with_reducible refine wpAny_loadPart_at hC ?_ | (with_reducible refine wpAny_isSubtype_exc hC ?_; rw [hcB]) | wp_step)
  exact wpAny_raiseNew_none hh hE
theorem fx_raise {exc : Expr} {pos : Pos} {Q : Flow → Shared → Prop} (hh : A.handled = none) (h : wpAny (model prog w) A (eval exc env) (RaisableD E) E s) : wpAny (model prog w) A (exec (.Raise (some exc) none pos) env) Q E s := by
  rw [arm_exec_Raise]
  first
  | exact wpAny_bind (wpAny_standAt (fx_raiseStmt hh (wpAny_bind (wpAny_mono h (fun v s₃ h₃ => wpAny_bind (wpAny_standAt (wpAny_pure h₃))) fun _ _ x => x))))
  | (simp only [evalOpt, Option.map]; exact wpAny_bind (wpAny_standAt (fx_raiseStmt hh (wpAny_bind (wpAny_mono h (fun v s₃ h₃ => wpAny_bind (wpAny_standAt (wpAny_pure h₃))) fun _ _ x => x)))))
theorem my_len {l : Addr} {vs : List Value} {ns : List Int} {c : Nat} {h₀ : Heap} {L : Addr} {news : Led} {Q : Value → Shared → Prop} (N : News h₀ L s.heap news) (hm : (l, listOf vs.toArray c) ∈ news) (hi : IntsAre vs ns) (hz : ns.length < 2 ^ 62) (h : Q (.int (ns.length : Nat) (s.toks + 1)) { s with toks := s.toks + 1 + 1 }) :
    wpAny (model prog w) A (call (.builtin "len") [.ref l]) Q E s := KM.len_K N hm (by rw [List.size_toArray, hi.length]) hz h
end
end
section
set_option maxRecDepth 100000
section
variable {w : World} {A₀ : Around} {E : Value → Shared → Prop} {s' : Shared} {base g h : Heap} {L a e d : Addr} {m : Str → Option Value} {name : Str} {scope : Scope} {cd : Value}
  {n x : Str} {b₀ : Stmt} {suite : List Stmt} {pos np : Pos} {rest : List ExceptHandler} {Q : Flow → Shared → Prop} {news : Led} {loose : List Str} {mean : ExcName → Option Value} {mg mb : Str → Option Value} {env : Env} {Lc : Addr} {mc : Str → Option Value}
theorem caught_D (K : Below A₀ base [env] g) (hLc : env.frame = some Lc) (hmc : g.Ns Lc mc) (F : Fr g L h m) (hsm : h.UpToSlots s'.heap) (R : RaisedD base g (envOf name scope L a cd :: [env]) e d (.ref 59) news s'.heap)
    (X : (hd.heap_39 w.params).In base) (T : Top topProg loose mean mg mb base) (hnx : nsIn (hd.heap_39 w.params) mainGlobals x = some (some (.ref 59)))
    (hk : scope.kind = .function) (hlo : (envOf name scope L a cd).kindOf n = some .local) (hx : (envOf name scope L a cd).kindOf x = some .globalImplicit) (hdb : (x == ("__debug__" : Str)) = false)
    (k : ∀ h' tk oe oL vs, base.StaysIn (hideAll g [Lc]) → Fr (hideAll g [Lc]) L h' (fun y => if y = n then some (.ref e) else m y) → News (hideAll g [Lc]) L h' ((e, oe) :: (Lc, oL) :: news) → oe.cls = .ref 59 → oe.dict = some d → oe.data = .fields vs → LCg.NsObj oL mc → (∀ p ∈ (e, oe) :: news, p.1 ≠ Lc) → ∀ E',
      wpAny (model PySem.Challenge.rw_nn0191_01.row.prog w) ((A₀.deeper (envOf name scope L a cd)).mark (some (.ref e))) (execs (b₀ :: suite) (envOf name scope L a cd))
        (fun f s₄ => wpAny (model PySem.Challenge.rw_nn0191_01.row.prog w) (A₀.deeper (envOf name scope L a cd)) (do bindName (envOf name scope L a cd) n .none; unbindBehindTheSuite (envOf name scope L a cd) n pos) (fun _ s₅ => Q f s₅) E s₄)
        E' { s' with heap := h', toks := tk }) :
    wpAny (model PySem.Challenge.rw_nn0191_01.row.prog w) (A₀.deeper (envOf name scope L a cd)) (noteFrame (.ref e) (envOf name scope L a cd))
      (fun _ s₂ => wpAny (model PySem.Challenge.rw_nn0191_01.row.prog w) (A₀.deeper (envOf name scope L a cd)) (setFlight (.ref e) none) (fun _ s₃ =>
        wpAny (model PySem.Challenge.rw_nn0191_01.row.prog w) (A₀.deeper (envOf name scope L a cd)) (handleBy (.ref e) (envOf name scope L a cd) (.ExceptHandler (some (.Name x np)) (some n) (b₀ :: suite) pos :: rest)) Q E s₃) E s₂) E s' := by
  obtain ⟨B, hB, hg, hl, hne, f1, f2, f3, f4⟩ := R
  -- where the frames stand
  have hfe : ∀ b, b ∈ (envOf name scope L a cd :: [env]).filterMap (·.frame) → b = L ∨ b = Lc := fun b hb => by
    obtain ⟨v, hv, hf⟩ := List.mem_filterMap.mp hb
    rcases List.mem_cons.mp hv with rfl | hv
    · exact .inl (Option.some.inj hf).symm
    · rw [List.mem_singleton.mp hv, hLc] at hf; exact .inr (Option.some.inj hf).symm
  have hLg : g.get? L = none := Heap.get?_none_of_le F.above
  have hbLc : base.get? Lc = none := (K.frames.mem (List.mem_filterMap.mpr ⟨env, .head _, hLc⟩)).1
  have hLcL : Lc ≠ L := fun q => by
    obtain ⟨o, _, _, ho, _⟩ := hmc
    rw [q, hLg] at ho; cases ho
  have hB3 : ∀ b o, (hideAll g [Lc]).get? b = some o → B.get? b = some o := fun b o hb => by
    have hb' := of_hideAll _ hb
    refine hg b o hb' fun hm => ?_
    rcases hfe b hm with q | q
    · rw [q, hLg] at hb'; cases hb'
    · rw [q, hideAll_none _ (.head _)] at hb; cases hb
  have hb3 : base.StaysIn (hideAll g [Lc]) := fun b o hb => hideAll_get _ (K.stays b o hb) fun hm => by
    rw [List.mem_singleton.mp hm, hbLc] at hb; cases hb
  have X₃ := X.keeps hb3
  have T₃ := T.keeps hb3
  refine fly_note2 (Around.frames_deeper K.stack) f3 rfl f1 f2 f4 fun h1 S1 => ?_
  refine fly_land S1.frames S1.stays S1.traced fun h2 S2 => ?_
  have u2 : h.UpToSlots h2 := hsm.trans (S1.upto.trans S2.upto)
  have F₂ : Fr (hideAll g [Lc]) L h2 m := ⟨u2.ns F.ns, fun b o hb => S2.stays b o (hB3 b o hb), by rw [hideAll_size]; exact F.above⟩
  obtain ⟨oe2, vs2, T2, oT2, ts2, he2, hc2, _⟩ := id S2.traced
  obtain ⟨nm, q, N59, bs, bm, hdct, sn, sub, ab, col, dd, k0, k1, k2, k3, k5, newId, hC, hcB, hbase⟩ := cls59 (X₃.keeps F₂.keep)
  refine wpAny_handleBy_cons (codeAny_handlers_test (nameX_K (cl := []) F₂ X₃ (topRead_of T₃) hnx ?_ hk hx hdb)) (by intro z; cases z)
  refine wpAny_excMatches_sub_self hC he2 hc2 hbase ?_
  refine codeAny_handlers_suite_as ?_
  refine fly_land (s := { s' with heap := h2 }) S2.frames S2.stays S2.traced fun h3 S3 => ?_
  have u3 : h.UpToSlots h3 := u2.trans S3.upto
  have F₃ : Fr (hideAll g [Lc]) L h3 m := ⟨u3.ns F.ns, fun b o hb => S3.stays b o (hB3 b o hb), by rw [hideAll_size]; exact F.above⟩
  obtain ⟨oe, vs, T', oT, ts, he, hc, hdd, hd, _⟩ := S3.traced
  have hns : h3.Ns Lc mc := ((Heap.UpToSlots.of_keeps F.keep).trans u3).ns hmc
  obtain ⟨oL, hoL, hN⟩ := LCg.ns_obj hns
  have heL : e ≠ L := fun z => by
    obtain ⟨o, es, ep, ho, hd', _⟩ := F₃.ns
    rw [← z, he] at ho; cases ho; rw [hd] at hd'; cases hd'
  have N₃ : News (hideAll g [Lc]) L h3 ((e, oe) :: (Lc, oL) :: news) := fun p hp => by
    rcases List.mem_cons.mp hp with rfl | hp
    · refine ⟨he, heL, ?_⟩
      cases z : (hideAll g [Lc]).get? e with
      | none => rfl
      | some o => have := of_hideAll _ z; rw [hne] at this; cases this
    · rcases List.mem_cons.mp hp with rfl | hp
      · exact ⟨hoL, hLcL, hideAll_none _ (.head _)⟩
      · have q := hl p hp
        refine ⟨S3.stays _ _ q.1, fun z => ?_, ?_⟩
        · obtain ⟨_, ⟨L9, _, hf9, hn9, _⟩, _⟩ := f3
          have : L = L9 := Option.some.inj hf9
          rw [z, this, hn9] at q
          cases q.1
        · cases z : (hideAll g [Lc]).get? p.1 with
          | none => rfl
          | some o => have := of_hideAll _ z; rw [q.2] at this; cases this
  have gLc : ∃ o, g.get? Lc = some o := let ⟨o, _, _, ho, _⟩ := hmc; ⟨o, ho⟩
  have hnc : ∀ p ∈ (e, oe) :: news, p.1 ≠ Lc := fun p hp z => by
    obtain ⟨o, ho⟩ := gLc
    rcases List.mem_cons.mp hp with rfl | hp
    · rw [← z, hne] at ho; cases ho
    · rw [← z, (hl p hp).2] at ho; cases ho
  refine stN F₃ N₃ (fun h4 F₄ N₄ => ?_) hk hlo
  exact k h4 _ oe oL vs hb3 F₄ N₄ hc hdd hd hN hnc _
end
/-- behind the catch: the caller's frame out of the ledger -/
theorem back_caught {g h₀ h' : Heap} {L Lc : Addr} {m mc : Str → Option Value} {oL : Obj} {news : Led} (hb : h₀.StaysIn g) (F : Fr g L h' m) (N : News g L h' ((Lc, oL) :: news)) (hN : LCg.NsObj oL mc) (ha : h₀.objs.size ≤ Lc) (hne : ∀ p ∈ news, p.1 ≠ Lc) : Fr h₀ Lc h' mc ∧ News h₀ Lc h' news := by
  refine ⟨⟨hN.ns (N _ (.head _)).1, fun b o q => F.keep b o (hb b o q), ha⟩, fun p hp => ⟨(N p (.tail _ hp)).1, hne p hp, ?_⟩⟩
  cases q : h₀.get? p.1 with
  | none => rfl
  | some o => have := (N p (.tail _ hp)).2.2; rw [hb _ _ q] at this; cases this
section
variable {prog : Program} {w : World} {A A₀ : Around} {s : Shared} {K : Frag} {L : Addr} {h₀ base : Heap} {m mg mb : Str → Option Value} {news : Led} {p : Program} {loose : List Str} {mean : ExcName → Option Value}
/-- a def is entered; the caller gets its frame back by hand -/
theorem code_raw {env : Env} {outer : List Env} {R : Result → Shared → Prop} {name qual : Str} {params : Arguments} {body : List Stmt} {scope : Scope} {dV kV doc pm cdv ct oc : Value} {an od : Option Addr} {osl : Array (Option Value)} {f : Addr} {args : Args} {binds : List (Str × Value)}
    (B : Below A₀ base outer h₀) (F : Fr h₀ L s.heap m) (X₀ : K.In h₀) (N : News h₀ L s.heap news) (T : Top p loose mean mg mb h₀) (hA : A.frames = some (env :: outer)) (hf : env.frame = some L) (hke : env.scope.kind = .function)
    (ho : K.lookup f = some ⟨oc, od, .func (fnOf name qual params body scope dV kV doc pm an cdv ct), osl⟩) (hcd : codeIn K cdv qual = true) (hroom : A.depth < recursionLimit)
    (hbind : BindsTo s (fnOf name qual params body scope dV kV doc pm an cdv ct) args binds) (hloc : ∀ y ∈ binds, scope.names.lookup y.1 = some .local)
    (h : ∀ g L' h₁, Fr h₀ L g m → Fr g L' h₁ (fun y => binds.reverse.lookup y) → News g L' h₁ news → Below A base (env :: outer) g → K.In g → Top p loose mean mg mb g →
      (∀ h2 m2 news2, Fr g L' h2 m2 → News g L' h2 news2 → Fr h₀ L h2 m ∧ News h₀ L h2 news2) →
      wpAny (model prog w) (A.deeper (envOf qual scope L' f cdv)) (execs body (envOf qual scope L' f cdv))
        (fun fl s' => R (.ok (.ret (match fl with | .ret v => v | _ => .none))) s')
        (fun e s' => wpAny (model prog w) (A.deeper (envOf qual scope L' f cdv)) (leaving (envOf qual scope L' f cdv) e) (fun _ s'' => R (.error e) s'') (fun e' s'' => R (.error e') s'') s')
        { s with heap := h₁, toks := s.toks + binds.length })
    (hco : scope.isCoroutine = false) (hgen : scope.isGenerator = false) (hk : scope.kind = .function)
    (hcell : ∀ x ∈ scope.names, x.2 ≠ .cell) : codeAny (model prog w) A (.call (.ref f) args) R s := by
  obtain ⟨FG, BG, st, _⟩ := groundX (R := R) B F N hA hf hke
  refine codeAny_call_def (fd := fnOf name qual params body scope dV kV doc pm an cdv ct) (body := body) (binds := binds) hroom (X₀.keeps F.keep _ _ ho) rfl (T.nolimit.keeps F.keep) (codeRec_of (X₀.keeps F.keep) hcd) rfl hbind hcell hloc (fun h₁ hns hk₁ => ?_) hco hgen hk
  refine h _ s.heap.objs.size h₁ FG ⟨hns, fun b o e => hk₁ b o (of_hideAll _ e), Nat.le_of_eq (hideAll_size _ _)⟩
    (fun p hp => ⟨hk₁ _ _ (N p hp).1, Nat.ne_of_lt (Heap.lt_size (N p hp).1), hideAll_none _ (List.mem_map_of_mem hp)⟩) BG (X₀.keeps st) (T.keeps st) fun h2 m2 news2 F2 N2 => ?_
  exact (groundX (R := fun _ s' => Fr h₀ L s'.heap m ∧ News h₀ L s'.heap news2) B F N hA hf hke).2.2.2 .none { s with heap := h2 } ⟨_, _, _, F2, N2, fun a b => ⟨a, b⟩⟩
end
section
variable {M : Model} {A : Around} {E : Value → Shared → Prop} {s' : Shared} {base g g₂ : Heap} {outer : List Env} {L a e d : Addr} {m : Str → Option Value} {name : Str} {scope : Scope} {cd cls : Value} {cl : List (Str × Addr)} {Q : Unit → Shared → Prop} {news : Led}
theorem leave_onX (K : Below A base outer g) (F : Fr g L g₂ m) (R : RaisedD base g (envX name scope L a cd cl :: outer) e d cls news s'.heap) (hsm : g₂.UpToSlots s'.heap)
    (hQ : ∀ h', RaisedD base g outer e d cls news h' → g.UpToSlots h' → Q () { s' with heap := h' }) :
    wpAny M (A.deeper (envX name scope L a cd cl)) (leaving (envX name scope L a cd cl) (.ref e)) Q E s' := by
  obtain ⟨B, hB, hg, hl, hne, f1, f2, f3, f4⟩ := R
  unfold leaving
  refine wpAny_bind (fly_note2 (Around.frames_deeper K.stack) f3 rfl f1 f2 f4 fun h1 S1 => ?_)
  refine fly_land S1.frames S1.stays S1.traced fun h2 S2 => ?_
  obtain ⟨_, _, fr⟩ := S2.frames
  have hg' : ∀ b o, g.get? b = some o → b ∉ outer.filterMap (·.frame) → B.get? b = some o := fun b o hb hn => hg b o hb fun hm => by
    obtain ⟨env, hv, hf⟩ := List.mem_filterMap.mp hm
    rcases List.mem_cons.mp hv with rfl | hv
    · have : L = b := Option.some.inj hf
      rw [← this] at hb
      exact absurd (Heap.lt_size hb) (Nat.not_lt.mpr F.above)
    · exact hn (List.mem_filterMap.mpr ⟨env, hv, hf⟩)
  exact hQ h2 ⟨B, hB, hg', hl, hne, S2.stays, f2, fr, S2.traced⟩ ((Heap.UpToSlots.of_keeps F.keep).trans (hsm.trans (S1.upto.trans S2.upto)))
end
end
section
abbrev tupOf (vs : List Value) : Obj := { cls := .type "tuple", data := .seq vs.toArray }
/-- the blocks that a list's items are, by a ledger -/
inductive BlksIn (l : Led) : List Value → List Blk → Prop
  | nil : BlksIn l [] []
  | cons {T O : Addr} {r : Bool} {vs : List Value} {n : Nat} {os : List Int} {ts : List Value} {bs : List Blk} (h1 : (T, tupOf [.bool r, .ref O]) ∈ l) (h2 : (O, listOf vs.toArray n) ∈ l) (h3 : IntsAre vs os) (h : BlksIn l ts bs) : BlksIn l (.ref T :: ts) ((r, os) :: bs)
theorem BlksIn.more {l l' : Led} (hs : ∀ p ∈ l, p ∈ l') {ts : List Value} {bs : List Blk} (h : BlksIn l ts bs) : BlksIn l' ts bs := by
  induction h with
  | nil => exact .nil
  | cons h1 h2 h3 _ ih => exact .cons (hs _ h1) (hs _ h2) h3 ih
theorem BlksIn.snoc {l : Led} {T O : Addr} {r : Bool} {vs : List Value} {n : Nat} {os : List Int} {ts : List Value} {bs : List Blk} (h : BlksIn l ts bs) (h1 : (T, tupOf [.bool r, .ref O]) ∈ l) (h2 : (O, listOf vs.toArray n) ∈ l) (h3 : IntsAre vs os) : BlksIn l (ts ++ [.ref T]) (bs ++ [(r, os)]) := by
  induction h with
  | nil => exact .cons h1 h2 h3 .nil
  | cons g1 g2 g3 _ ih => exact .cons g1 g2 g3 ih
theorem BlksIn.length {l : Led} {ts : List Value} {bs : List Blk} (h : BlksIn l ts bs) : ts.length = bs.length := by
  induction h with
  | nil => rfl
  | cons _ _ _ _ ih => simp [ih]
theorem BlksIn.at {l : Led} {ts : List Value} {bs : List Blk} (h : BlksIn l ts bs) {i : Nat} {v : Value} (hi : ts[i]? = some v) : ∃ T O r vs n os, v = .ref T ∧ bs[i]? = some (r, os) ∧ (T, tupOf [.bool r, .ref O]) ∈ l ∧ (O, listOf vs.toArray n) ∈ l ∧ IntsAre vs os := by
  induction h generalizing i with
  | nil => simp at hi
  | cons h1 h2 h3 _ ih =>
    cases i with
    | zero => simp at hi; subst hi; exact ⟨_, _, _, _, _, _, rfl, rfl, h1, h2, h3⟩
    | succ i => simp only [List.getElem?_cons_succ] at hi ⊢; exact ih hi
end
section
theorem parse_facts : ∀ (n : Nat) (ks : List Int), ks.length ≤ n → KBa.In ks → KBa.In (flat (parse ks).1) ∧ (flat (parse ks).1).length ≤ 128 * ks.length ∧ (parse ks).1.length ≤ ks.length ∧ KBa.In (parse ks).2 := by
  intro n
  induction n with
  | zero =>
    intro ks hn hin
    have : ks = [] := List.length_eq_zero_iff.mp (by omega)
    subst this
    rw [parse_stop (.inl (by simp))]
    exact ⟨fun x hx => by simp [flat] at hx, by simp [flat], by simp, hin⟩
  | succ n ih =>
    intro ks hn hin
    by_cases hs : stops ks
    · rw [parse_stop hs]
      exact ⟨fun x hx => by simp [flat] at hx, by simp [flat], by simp, hin⟩
    · have h1 : ¬ ks.length ≤ 1 := fun q => hs (.inl q)
      have h3 : ¬ ks.length < 1 + bsize (hd0 ks) := fun q => hs (.inr (.inr q))
      have hh : 0 ≤ hd0 ks ∧ hd0 ks < 256 := by
        cases ks with
        | nil => simp at h1
        | cons x r => exact hin x (.head _)
      obtain ⟨i1, i2, i3, i4⟩ := ih (ks.drop (1 + bsize (hd0 ks))) (by rw [List.length_drop]; omega) (fun x hx => hin x (List.mem_of_mem_drop hx))
      have hx1 : 0 ≤ ks.getD 1 0 ∧ ks.getD 1 0 < 256 := by
        cases ks with
        | nil => simp at h1
        | cons x r => cases r with
          | nil => simp at h1
          | cons y r => exact hin y (.tail _ (.head _))
      rw [parse_go hs]
      rw [List.length_drop] at i2 i3
      have hf : flat (blkOf ks :: (parse (ks.drop (1 + bsize (hd0 ks)))).1) = (blkOf ks).2 ++ flat (parse (ks.drop (1 + bsize (hd0 ks)))).1 := by simp [flat]
      have hb : KBa.In (blkOf ks).2 ∧ (blkOf ks).2.length ≤ 128 := by
        unfold blkOf
        by_cases hc : 128 < hd0 ks
        · rw [if_pos hc]
          exact ⟨fun x hx => by rw [List.eq_of_mem_replicate hx]; exact hx1, by rw [List.length_replicate]; omega⟩
        · rw [if_neg hc]
          refine ⟨fun x hx => hin x (List.mem_of_mem_drop (List.mem_of_mem_take hx)), ?_⟩
          have : hd0 ks ≠ 128 := fun q => hs (.inr (.inl q))
          rw [List.length_take]
          unfold bsize
          rw [if_neg hc]; omega
      refine ⟨?_, ?_, ?_, i4⟩
      · dsimp only; rw [hf]
        intro x hx
        rcases List.mem_append.mp hx with hx | hx
        · exact hb.1 x hx
        · exact i1 x hx
      · dsimp only; rw [hf, List.length_append]; omega
      · dsimp only; rw [List.length_cons]; omega
theorem parse_in {ks ls : List Int} {bs : List Blk} (hp : parse ks = (bs, ls)) (hin : KBa.In ks) : KBa.In (flat bs) ∧ (flat bs).length ≤ 128 * ks.length ∧ bs.length ≤ ks.length ∧ KBa.In ls := by
  have := parse_facts ks.length ks (Nat.le_refl _) hin
  rw [hp] at this
  exact this
theorem parse_len : ∀ (n : Nat) (ks : List Int), ks.length ≤ n → (parse ks).2.length ≤ ks.length := by
  intro n
  induction n with
  | zero =>
    intro ks hn
    rw [parse_stop (.inl (by omega))]; exact Nat.le_refl _
  | succ n ih =>
    intro ks hn
    by_cases hs : stops ks
    · rw [parse_stop hs]; exact Nat.le_refl _
    · have h1 : ¬ ks.length ≤ 1 := fun q => hs (.inl q)
      rw [parse_go hs]
      have := ih (ks.drop (1 + bsize (hd0 ks))) (by rw [List.length_drop]; omega)
      rw [List.length_drop] at this
      dsimp only; omega
end
section
theorem bInts_inj {b c : Array UInt8} (h : KBw.bInts b = KBw.bInts c) : b = c := by
  have key : ∀ (l m : List UInt8), l.map (fun c => (c.toNat : Int)) = m.map (fun c => (c.toNat : Int)) → l = m := by
    intro l
    induction l with
    | nil => intro m e; cases m with | nil => rfl | cons _ _ => simp at e
    | cons x r ih =>
      intro m e
      cases m with
      | nil => simp at e
      | cons y m =>
        simp only [List.map_cons, List.cons.injEq] at e
        have h1 : x = y := by
          apply UInt8.toNat_inj.mp
          omega
        rw [h1, ih m e.2]
  have := key b.toList c.toList h
  exact Array.ext' this
theorem my_bne {prog : Program} {w : World} {A : Around} {E : Value → Shared → Prop} {s : Shared} {b c : Array UInt8} {t u : Tok} {ks : List Int} {Q : Value → Shared → Prop} (hb : KBw.bInts b = ks) (hc : KBw.bInts c = ks) (h : Q (.bool false) s) : wpAny (model prog w) A (compareOp .NotEq (.bytes b t) (.bytes c u)) Q E s := by
  refine ne_bytes ?_
  rw [bInts_inj (hb.trans hc.symm), bne_self_eq_false]
  exact h
theorem cut_last {cs : List Int} (h : 1 ≤ cs.length) : cs.take (clipAt cs.length (-1)) = cs.take (cs.length - 1) := by
  congr 1
  unfold clipAt; split <;> omega
end
section
/-- a comprehension whose turns change the ledger -/
theorem comp_st {σ : Type} {prog : Program} {w : World} {A : Around} {h₀ : Heap} {L : Addr} {m : Str → Option Value} {env : Env} {elt : Expr} {x : Str} {scope : Scope} {cl : List (Str × Addr)} {s : Shared} {S : Led → Prop} {P : Nat → Value → Prop} {Fin : List Value → Led → Prop} {n : Nat}
    (nw : σ → Led) (Inv : Nat → List Value → σ → Prop) (fin : ∀ ys c, Inv n ys c → Fin ys (nw c))
    (step : ∀ j ys c v I oI C oC D m₂ h tk (E' : Value → Shared → Prop), j < n → Inv j ys c → P j v → LCg.NsObj oC m₂ → m₂ x = some v → Fr h₀ L h m → News h₀ L h ((I, oI) :: (C, oC) :: (D, LCg.lst ys) :: nw c) → LCg.Off3 I C D (nw c) → ((@Ne Nat I C) ∧ (@Ne Nat I D) ∧ (@Ne Nat C D)) →
      wpAny (model prog w) A (eval elt (compEnvC scope cl C env)) (LCg.CompEnd h₀ L m { s with heap := h, toks := tk } I oI C oC D (LCg.lst ys) S (fun y news' => ∃ c', news' = nw c' ∧ Inv (j + 1) (ys ++ [y]) c')) E' { s with heap := h, toks := tk }) :
    ∀ k j ys c, j + k = n → Inv j ys c → LCg.CompRest prog w A h₀ L m env elt x scope cl s S P Fin k j ys (nw c) := by
  intro k
  induction k with
  | zero => intro j ys c hj hi; obtain rfl : j = n := by omega
            exact fin ys c hi
  | succ k ih =>
    intro j ys c hj hi v I oI C oC D m₂ h tk E' hP hns hx F N off hne
    refine wpAny_mono (step j ys c v I oI C oC D m₂ h tk E' (by omega) hi hP hns hx F N off hne) (fun y s₂ z => ?_) fun _ _ e => e
    obtain ⟨h', tk', news', e, F', N', o', hS, c', rfl, hi'⟩ := z
    exact ⟨h', tk', nw c', e, F', N', o', hS, ih (j + 1) (ys ++ [y]) c' (by omega) hi'⟩
section
variable {prog : Program} {w : World} {A : Around} {E : Value → Shared → Prop} {s : Shared} {h₀ : Heap} {L : Addr} {news : Led}
theorem my_tupitem {value slice : PySem.Expr} {T : Addr} {vs : List Value} {k : Int} {u : Tok} {Q : Value → Shared → Prop} (N : News h₀ L s.heap news) (hm : (T, tupOf vs) ∈ news) (h0 : 0 ≤ k) (h1 : k < (vs.length : Int)) (hz : vs.length ≤ 1000) (h : ∀ v, vs[k.toNat]? = some v → Q v s)
    (hs : subscripted slice false (.ref T) (.int k u) = operate [.ref T, .int k u] (getItem (.ref T) (.int k u))) : wpAny (model prog w) A (subscriptTail value slice (.ref T) (.int k u)) Q E s := by
  have ht : IsTup s.heap T vs.toArray := ⟨_, (N _ hm).1, rfl, _, rfl⟩
  have hlt : k.toNat < vs.length := by omega
  have hn : k < ((vs.toArray.size : Nat) : Int) := by rw [List.size_toArray]; exact h1
  exact tail_any ht.typeIs slot_tuple_getitem.lookup (getItem_tuple ht (by omega) (by omega) (seqIndex_of h0 hn) (x := vs[k.toNat]) (by simp) (h _ (List.getElem?_eq_getElem hlt))) hs
theorem my_tne {a b : Addr} {x : Str} {t1 t2 u1 u2 : Tok} {k : Int} {Q : Value → Shared → Prop} (N : News h₀ L s.heap news) (ha : (a, tupOf [.str x t1, .int k u1]) ∈ news) (hb : (b, tupOf [.str x t2, .int k u2]) ∈ news) (hx : PyData.strOk x = true) (hu : A.units + 64 < cLine) (h : Q (.bool false) s) :
    wpAny (model prog w) A (compareOp .NotEq (.ref a) (.ref b)) Q E s := by
  have ra : ∀ {c t u}, (c, tupOf [.str x t, .int k u]) ∈ news → Reads s.heap (.ref c) (.tuple [.str x, .int k]) _ := fun hm => reads_tuple_at (News.get N hm) rfl rfl (ReadsAll.cons (Reads.str _ _) (ReadsAll.cons (Reads.int _ _) ReadsAll.nil))
  have hs : SeqAt.shaped (.tuple [.str x, .int k]) = true := by simp [SeqAt.shaped, PyData.canLay0, PyData.canLayAll0, PyData.depth, PyData.depthAll, hx]
  refine ne_dataH (ra ha) (ra hb) hs hs hu ?_
  have e : PyData.eqv (.tuple [.str x, .int k]) (.tuple [.str x, .int k]) = true := by simp [PyData.eqv, PyData.eqvAll]
  rw [e]; exact h
end
end
section
set_option maxRecDepth 100000
/-- the table of the law's inner code objects: empty ahead of the lambda's first turn -/
def tabOf (a b : Nat) : Option (Addr × Obj) → Array Value
  | none => #[]
  | some p => #[] ++ #[rawInt a, rawInt b, .ref p.1]
def exLed : Option (Addr × Obj) → Led
  | none => []
  | some p => [p]
theorem lam_eval {M : Model} {A : Around} {E : Value → Shared → Prop} {s : Shared} {h₀ : Heap} {L a c P : Addr} {m mg mb : Str → Option Value} {cn : Str} {cs : Scope} {ccd : Value} {cl : List (Str × Addr)} {rest : Led} {p : Program} {loose : List Str} {mean : ExcName → Option Value} {params : Arguments} {body : PySem.Expr} {scope : Scope} {pos : Pos} {clos : List (Str × Addr)} {ex : Option (Addr × Obj)} {Q : Value → Shared → Prop} {x y : Nat}
    (F : Fr h₀ L s.heap m) (N : News h₀ L s.heap ((P, tabObj (tabOf x y ex)) :: rest)) (T : Top p loose mean mg mb h₀) (C : CodeHd h₀ c P) (hcd : ccd = .ref c) (hpx : pos.line = x) (hpy : pos.col = y) (hne : ∀ q ∈ rest, q.1 ≠ P)
    (hex : ∀ q, ex = some q → q ∈ rest ∧ ∃ vs t, q.2.data = .fields vs ∧ vs[1]? = some (.str ((envX cn cs L a ccd cl).qual ++ "<lambda>") t)) (hcl : closureFor scope (envX cn cs L a ccd cl) = pure clos) (hdef : defaultsOf params (envX cn cs L a ccd cl) = ([], []))
    (h : ∀ f c' oc vs t ctv h' tk, Fr h₀ L h' m → News h₀ L h' ((f, kla_obj "<lambda>" ((envX cn cs L a ccd cl).qual ++ "<lambda>") params body scope clos ((mg "__name__").getD .none) c' ctv) :: (c', oc) :: (P, tabObj (tabOf x y (some (c', oc)))) :: rest) →
      oc.data = .fields vs → vs[1]? = some (.str ((envX cn cs L a ccd cl).qual ++ "<lambda>") t) → ((∀ q ∈ (P, tabObj (tabOf x y ex)) :: rest, q.1 < c') ∨ ex = some (c', oc)) → Q (.ref f) { s with heap := h', toks := tk }) :
    wpAny M A (eval (.Lambda params body scope pos) (envX cn cs L a ccd cl)) Q E s := by
  subst hpx hpy
  refine kla_eval hdef ?_
  cases ex with
  | none =>
    refine kla_nest F N T C hcd (.head hne) (by exact True.intro) (by rfl) hcl fun f c' oc vs t ctv h' tk F' N' d1 d2 l1 l2 => ?_
    exact h f c' oc vs t ctv h' tk F' N' d1 d2 (.inl l1)
  | some q =>
    obtain ⟨hm, vs, t, d1, d2⟩ := hex q rfl
    obtain ⟨c', oc⟩ := q
    refine kla_hit (c' := c') F N T C hcd (.head _) (by simp [tabOf, TriplesOk, rawInt]) (by simp [tabOf, codeAmong, rawInt]) hcl fun f ctv h' tk F' N' l1 => ?_
    refine h f c' oc vs t ctv h' tk F' (fun p hp => N' p ?_) d1 d2 (.inr rfl)
    rcases List.mem_cons.mp hp with rfl | hp
    · exact .head _
    · rcases List.mem_cons.mp hp with rfl | hp
      · exact .tail _ (.tail _ hm)
      · exact .tail _ hp
end
section
local macro_rules | `(tactic| ktr_rel) => `(tactic| (repeat' (first | exact SameBut.fm rfl | exact SameBut.refl | (refine SameBut.set ?_ (by first | rfl | decide)))))
local macro_rules | `(tactic| walk_at "WPost") => `(tactic| (dsimp only [WPost]))
local macro_rules | `(tactic| walk_at "FPost") => `(tactic| (dsimp only [FPost]))
local macro_rules | `(tactic| k_all) => `(tactic| first | assumption | exact ne_nil | exact allNe_of (by assumption) | exact (fun p hp => Nat.ne_of_lt ((by assumption : ∀ q ∈ _, q.1 < _) p hp)) | exact allNe_of (And.right (by assumption)) | exact allNe_of (And.right (And.right (by assumption))) | exact allNe_of (And.right (And.right (And.right (by assumption)))) | exact allNe_of (And.right (And.right (And.right (And.right (by assumption))))) | exact allNe_of (And.right (And.right (And.right (And.right (And.right (by assumption)))))) | ((refine ne_cons ?ka1 ?ka2); (case ka1 => first | assumption | exact Ne.symm (by assumption) | omega); (case ka2 => k_all)) | ((refine ne_app ?ka1 ?ka2); (case ka1 | ka2 => k_all)))
local macro_rules | `(tactic| k_allIn) => `(tactic| (intro p hp; k_ownIn))
local macro_rules | `(tactic| tb_start) => `(tactic| first | exact Pick.head | (refine' Pick.tail ?h9; (case h9 => tb_start)))
local macro_rules | `(tactic| kt_len) => `(tactic| first | omega | ((try simp only [List.length_append, List.length_cons, List.length_nil, List.length_take, List.length_drop, List.length_replicate] at *); omega))
local macro_rules | `(tactic| tb_rel) => `(tactic| first | assumption | exact IntsAre.append (by assumption) (by assumption) | exact IntsAre.append (by assumption) (IntsAre.cons _ _ IntsAre.nil) | exact IntsAre.append (IntsAre.cons _ _ IntsAre.nil) (by assumption) | exact IntsAre.nil | exact IntsAre.cons _ _ IntsAre.nil | exact IntsAre.cons _ _ (IntsAre.cons _ _ IntsAre.nil) | l_ints)
local macro_rules | `(tactic| walk_at "binaryOp Add ref ref") => `(tactic| (k_here; (with_reducible show wpAny _ _ (binaryOp _ (Value.ref _) (Value.ref _)) _ _ _); k_dflt (refine' my_add ?F ?N ?a ?b ?i ?j ?z ?_; (case F | N => k_asm); (case a => k_mem); (case b => k_mem); (case i => tb_rel); (case j => tb_rel); (case z => kt_len)); intro D' ws' h' F' N' l1 hI'; (try k_lt l1); (try k_sweep)))
local macro_rules | `(tactic| walk_at "binaryOp FloorDiv int int") => `(tactic| (k_here; (with_reducible refine floordiv_int (by with_reducible assumption) ?_ (Or.inl (PyProof.noPylong_small (by with_reducible assumption))))))
local macro_rules | `(tactic| walk_at "binaryOp Mod int int") => `(tactic| (k_here; (with_reducible refine mod_int' (by with_reducible assumption) ?_)))
local macro_rules | `(tactic| walk_at "call builtin:list.extend") => `(tactic| (k_here; (with_reducible show wpAny _ _ (call (Value.builtin _) [Value.ref _, Value.ref _]) _ _ _); k_dflt (refine' my_extend ?F (Pick.news ?S ?N) ?ne ?b ?i ?j ?z ?_; (case F | N => k_asm); (case S => tb_start); (case ne => k_all); (case b => k_mem); (case i | j => tb_rel); (case z => kt_len)); intro h' us' n' F' N' hU'; (try k_sweep)))
local macro_rules | `(tactic| walk_at "call builtin:list.append") => `(tactic| (k_here; (with_reducible show wpAny _ _ (call (Value.builtin _) [Value.ref _, _]) _ _ _); k_dflt (refine' my_append ?F (Pick.news ?S ?N) ?ne ?z ?_; (case F | N => k_asm); (case S => tb_start); (case ne => k_all); (case z => (rw [sizeLine_eq]; kt_len))); intro h' n' F' N'; (try k_sweep)))
local macro_rules | `(tactic| walk_at "st bar") => `(tactic| ((fail_if_success (with_reducible show wpAny _ _ (exec (Stmt.While _ _ _ _) _) _ _ _)); (fail_if_success (with_reducible show wpAny _ _ (pyIter _) _ _ _)); (fail_if_success (with_reducible show WEnd _ _ _ _ _ _ _ _ _ _ _)); (fail_if_success (with_reducible show FEnd _ _ _ _ _ _ _ _ _ _))))
local macro_rules | `(tactic| walk_at "st comp") => `(tactic| ((fail_if_success (with_reducible show PyProof.Rows.LCt.CompSrcT _ _ _ _ _ _ _ _ _ _ _ _ _ _ _)); (fail_if_success (with_reducible show PyProof.Rows.LCg.CompSrc _ _ _ _ _ _ _ _ _ _ _ _ _ _)); walk_at "st bar"))
local macro_rules | `(tactic| walk_at "st one") => `(tactic| first | (k_unfold; (try dsimp only)) | (refine bare ?_; k_unfold; (try dsimp only)) | (walk1 <;> (try ((fail_if_success (with_reducible show wpAny _ _ (subscriptTail _ _ _ _) _ _ _)); dsimp only))) | (dsimp only; walk1) | (leave1; try dsimp only))
local macro_rules | `(tactic| ktr_unf) => `(tactic| repeat' (walk_at "st bar"; walk_at "st one"))
section
theorem fresh_A1 : True := by
  w_top off
  trivial
structure RunAt (ks : List Int) (at' c : Nat) : Prop where
  one : 1 ≤ c
  most : c ≤ 128
  fits : at' + c ≤ ks.length
  alike : ∀ j, j < c → ks.getD (at' + j) 0 = ks.getD at' 0
  stop : c = 128 ∨ at' + c = ks.length ∨ ks.getD (at' + c) 0 ≠ ks.getD at' 0
set_option maxRecDepth 100000 in
set_option maxHeartbeats 8000000 in
theorem run_at_call (w : World) (b : Array UInt8) (tb : Tok) (ks : List Int) (at' : Nat) (ta : Tok) (news : Led) (hks : KBw.bInts b = ks) (hat : at' < ks.length) (hb : ks.length < 2 ^ 20) :
    Cal w 68 [.bytes b tb, .int at' ta] 1 8 news (fun v news' => news' = news ∧ ∃ (c : Nat) (t : Tok), v = .int c t ∧ RunAt ks at' c) := by
  unfold Cal; k_fill
  intro loose mean mg mb dp un gd cn cs a ccd cl outer A₀ base h₀ L m s Q E B F X N T hk hd hu hret
  refine wpAny_call ?_
  k_dflt cell_enter
  (rename Fr _ _ _ _ => lF)
  replace lF : Fr _ _ _ (fun y => List.lookup y [(Str.ofString "at", Value.int at' ta), (Str.ofString "octets", .bytes b tb)]) := lF
  generalize s.toks + _ = tk0
  ktr_unf
  (rename Fr _ _ _ _ => lF); (rename News _ _ _ _ => lN)
  refine' my_while (σ := Nat × Tok) (fun _ => news) (fun c => [(Str.ofString "count", .int c.1 c.2)]) [] [Str.ofString "count"] (fun _ => rfl)
    (fun c => 1 ≤ c.1 ∧ c.1 ≤ 128 ∧ at' + c.1 ≤ ks.length ∧ ∀ j, j < c.1 → ks.getD (at' + j) 0 = ks.getD at' 0) (fun c => 128 - c.1) lF lN
    ⟨(1, _), ⟨rfl, trivial⟩, fun _ hp => hp, by dsimp only; omega, by dsimp only; omega, by dsimp only; omega, fun j hj => by have : j = 0 := (by dsimp only at hj; omega); subst this; rfl⟩ ?turn
  clear lF lN
  rintro ⟨c, t⟩ u h tk ⟨h1, h2, h3, h4⟩ F N
  dsimp only at h1 h2 h3 h4 F N ⊢
  (try k_fold)
  ktr_unf
  · rename_i _ hlt _ _ _ _ _ _ _ _ hEq _ _ _
    have e : (at' + c : Int).toNat = at' + c := by omega
    refine WEnd.intro (c + 1, _) (by assumption) (by assumption) (fun _ hp => hp) ⟨rfl, trivial⟩ (by ktr_rel) ?_ (by dsimp only; omega)
    have hge : (at' : Int).toNat = at' := by omega
    rw [e, hge] at hEq
    refine ⟨by dsimp only; omega, by dsimp only; omega, by dsimp only; omega, fun j hj => ?_⟩
    dsimp only at hj
    rcases Nat.lt_or_ge j c with h | h
    · exact h4 j h
    · have : j = c := by omega
      subst this; exact hEq
  · rename_i hne _ _ _ _
    have e : (at' + c : Int).toNat = at' + c := by omega
    have hge : (at' : Int).toNat = at' := by omega
    rw [e, hge] at hne
    exact hret _ news _ _ ⟨rfl, c, t, rfl, h1, h2, h3, h4, .inr (.inr hne)⟩ (by assumption) (by assumption)
  · exact hret _ news _ _ ⟨rfl, c, t, rfl, h1, h2, h3, h4, .inr (.inl (by omega))⟩ (by assumption) (by assumption)
  · exact hret _ news _ _ ⟨rfl, c, t, rfl, h1, h2, h3, h4, .inl (by omega)⟩ (by assumption) (by assumption)
theorem run_at_go {w : World} {b : Array UInt8} {tb : Tok} {ks : List Int} {at' : Nat} {ta : Tok} {news : Led}
    {loose : List Str} {mean : ExcName → Option Value} {mg mb : Str → Option Value} {dp un : Nat} {gd : Option (List Code)} {cn : Str} {cs : Scope} {fa : Addr} {ccd : Value} {fcl : List (Str × Addr)} {outer : List Env} {A₀ : Around} {base h₀ : Heap} {fL : Addr} {m : Str → Option Value} {s : Shared} {fQ fE : Value → Shared → Prop}
    (ret : ∀ h' tk', Fr h₀ fL h' m → ∀ (c : Nat) t, RunAt ks at' c → News h₀ fL h' (news) → fQ (.int c t) { s with heap := h', toks := tk' })
    (B : Below A₀ base outer h₀ := by k_asm) (F : Fr h₀ fL s.heap m := by k_asm) (X : (hd.heap_39 w.params).In h₀ := by k_asm) (N : News h₀ fL s.heap (news) := by k_asm) (T : Top topProg loose mean mg mb h₀ := by k_asm) (hks : KBw.bInts b = ks := by assumption) (hat : at' < ks.length := by omega) (hb : ks.length < 2 ^ 20 := by omega)
    (hk : cs.kind = .function := by first | exact rfl | assumption) (hd : dp + 1 < recursionLimit := by ktr_room) (hu : un + 8 < cLine := by ktr_units) :
    wpAny (model PySem.Challenge.rw_nn0191_01.row.prog w) (ktrTop dp un gd cn cs fL fa ccd fcl outer) (call (.ref 68) [.bytes b tb, .int at' ta]) fQ fE s := by
  refine Cal.use (run_at_call w b tb ks at' ta news hks hat hb) B F X N T hk hd hu fun v' w' h' tk' hR F' N' => ?_
  obtain ⟨e1, c, t, e2, g1⟩ := hR
  subst e1; subst e2
  exact ret _ _ F' c t g1 N'
end
section
theorem fresh_A2 : True := by
  w_top off
  trivial
local macro_rules | `(tactic| walk_at "idle 0") => `(tactic| fail "idle")
def rowCodes (ns : List Int) : List Int := if ns = [] then [] else ((ns.length : Int) - 1) :: ns
set_option maxRecDepth 100000 in
set_option maxHeartbeats 8000000 in
theorem row_codes_call (w : World) (r : Addr) (vs : List Value) (ns : List Int) (n : Nat) (rest : Led) (hi : IntsAre vs ns) (hb : ns.length < 2 ^ 20) :
    Cal w 82 [.ref r] 2 100 ((r, listOf vs.toArray n) :: rest) (fun v news' => ∃ a vs' n', v = .ref a ∧ IntsAre vs' (rowCodes ns) ∧ news' = (a, listOf vs'.toArray n') :: (r, listOf vs.toArray n) :: rest ∧ AllLt a ((r, listOf vs.toArray n) :: rest) ∧ (rowCodes ns).length ≤ ns.length + 1) := by
  unfold Cal; k_fill
  intro loose mean mg mb dp un gd cn cs a ccd cl outer A₀ base h₀ L m s Q E B F X N T hk hd hu hret
  refine wpAny_call ?_
  k_dflt cell_enter
  (rename Fr _ _ _ _ => lF)
  replace lF : Fr _ _ _ (fun y => List.lookup y [(Str.ofString "row", Value.ref r)]) := lF
  generalize s.toks + _ = tk0
  ktr_unf
  · (rename decide _ = true => e)
    (rename _ ∧ _ ∧ AllLt _ _ => l)
    have e := of_decide_eq_true e
    exact hret _ _ _ _ ⟨_, [], 0, rfl, by rw [rowCodes, if_pos e]; exact IntsAre.nil, rfl, l.2, by rw [rowCodes, if_pos e]; simp⟩ (by assumption) (cb_drop (by assumption) (by kcj_all))
  · (rename decide _ = false => e)
    (rename _ ∧ _ ∧ _ ∧ AllLt _ _ => l)
    have e := of_decide_eq_false e
    (rename IntsAre _ ([_] ++ _) => hI)
    exact hret _ _ _ _ ⟨_, _, 0, rfl, by rw [rowCodes, if_neg e]; exact hI, rfl, l.2.2, by rw [rowCodes, if_neg e]; simp⟩ (by assumption) (cb_drop (by assumption) (by kcj_all))
theorem row_codes_go {w : World} {r : Addr} {vs : List Value} {ns : List Int} {n : Nat} {rest : Led}
    {loose : List Str} {mean : ExcName → Option Value} {mg mb : Str → Option Value} {dp un : Nat} {gd : Option (List Code)} {cn : Str} {cs : Scope} {fa : Addr} {ccd : Value} {fcl : List (Str × Addr)} {outer : List Env} {A₀ : Around} {base h₀ : Heap} {fL : Addr} {m : Str → Option Value} {s : Shared} {fQ fE : Value → Shared → Prop}
    (ret : ∀ h' tk', Fr h₀ fL h' m → ∀ a vs' n', IntsAre vs' (rowCodes ns) → AllLt a ((r, listOf vs.toArray n) :: rest) → (rowCodes ns).length ≤ ns.length + 1 → News h₀ fL h' ((a, listOf vs'.toArray n') :: (r, listOf vs.toArray n) :: rest) → fQ (.ref a) { s with heap := h', toks := tk' })
    (B : Below A₀ base outer h₀ := by k_asm) (F : Fr h₀ fL s.heap m := by k_asm) (X : (hd.heap_39 w.params).In h₀ := by k_asm) (N : News h₀ fL s.heap ((r, listOf vs.toArray n) :: rest) := by (refine' Pick.news ?S ?N; (case N => k_asm); (case S => tb_start))) (T : Top topProg loose mean mg mb h₀ := by k_asm) (hi : IntsAre vs ns := by tb_rel) (hb : ns.length < 2 ^ 20 := by kt_len)
    (hk : cs.kind = .function := by first | exact rfl | assumption) (hd : dp + 2 < recursionLimit := by ktr_room) (hu : un + 100 < cLine := by ktr_units) :
    wpAny (model PySem.Challenge.rw_nn0191_01.row.prog w) (ktrTop dp un gd cn cs fL fa ccd fcl outer) (call (.ref 82) [.ref r]) fQ fE s := by
  refine Cal.use (row_codes_call w r vs ns n rest hi hb) B F X N T hk hd hu fun v' w' h' tk' hR F' N' => ?_
  obtain ⟨a, vs', n', e1, g1, e2, g2, g3⟩ := hR
  subst e1; subst e2
  exact ret _ _ F' a vs' n' g1 g2 g3 N'
end
section
def RowOk (os : List Int) : Prop := (∀ a, 2 ≤ a → a < os.length → ¬ (os.getD (a - 2) 0 = os.getD (a - 1) 0 ∧ os.getD (a - 1) 0 = os.getD a 0)) ∧ os.take 1 ≠ (os.drop 1).take 1
def Shaped (bs : List Blk) : Prop := ∀ i r os, bs[i]? = some (r, os) →
  (r = false → (∀ a, 2 ≤ a → a < os.length → ¬ (os.getD (a - 2) 0 = os.getD (a - 1) 0 ∧ os.getD (a - 1) 0 = os.getD a 0)) ∧ os.take 1 ≠ (os.drop 1).take 1 ∧ (0 < i → ∀ r' os', bs[i - 1]? = some (r', os') → ¬ (r' = false ∧ os'.length < 128))) ∧
  1 + (if r then 1 else 0) ≤ os.length ∧ os.length ≤ 128
def LastOk (bs : List Blk) : Prop := ∀ r' os', bs[bs.length - 1]? = some (r', os') → ¬ (r' = false ∧ os'.length < 128)
theorem Shaped.snoc {bs : List Blk} {r : Bool} {os : List Int} (h : Shaped bs) (hr : r = false → RowOk os ∧ LastOk bs) (h1 : 1 + (if r then 1 else 0) ≤ os.length) (h2 : os.length ≤ 128) : Shaped (bs ++ [(r, os)]) := by
  intro i r' os' hi
  rcases Nat.lt_trichotomy i bs.length with hl | hl | hl
  · rw [List.getElem?_append_left hl] at hi
    obtain ⟨g1, g2⟩ := h i r' os' hi
    refine ⟨fun q => ⟨(g1 q).1, (g1 q).2.1, fun h0 r2 os2 hz => (g1 q).2.2 h0 r2 os2 ?_⟩, g2⟩
    rwa [List.getElem?_append_left (by omega)] at hz
  · subst hl
    rw [List.getElem?_append_right (Nat.le_refl _), Nat.sub_self] at hi
    simp at hi
    obtain ⟨rfl, rfl⟩ := hi
    refine ⟨fun q => ⟨(hr q).1.1, (hr q).1.2, fun h0 r2 os2 hz => (hr q).2 r2 os2 ?_⟩, h1, h2⟩
    rwa [List.getElem?_append_left (by omega)] at hz
  · rw [List.getElem?_eq_none (by simp; omega)] at hi; cases hi
theorem lastOk_snoc {bs : List Blk} {r : Bool} {os : List Int} (h : r = true ∨ os.length = 128) : LastOk (bs ++ [(r, os)]) := by
  intro r' os' hi
  simp at hi
  obtain ⟨rfl, rfl⟩ := hi
  rintro ⟨rfl, q⟩
  rcases h with h | h
  · cases h
  · omega
theorem lastOk_nil : LastOk [] := by intro r os h; simp at h
def encB (b : Blk) : List Int := if b.1 then [257 - (b.2.length : Int), b.2.getD 0 0] else ((b.2.length : Int) - 1) :: b.2
def ValidB (b : Blk) : Prop := 1 + (if b.1 then 1 else 0) ≤ b.2.length ∧ b.2.length ≤ 128 ∧ (b.1 = true → b.2 = List.replicate b.2.length (b.2.getD 0 0))
theorem parse_one {b : Blk} (h : ValidB b) (tail : List Int) : parse (encB b ++ tail) = (b :: (parse tail).1, (parse tail).2) := by
  obtain ⟨r, os⟩ := b
  obtain ⟨h1, h2, h3⟩ := h
  dsimp only at h1 h2 h3
  cases r with
  | true =>
    simp only [if_true] at h1
    have e : encB (true, os) ++ tail = (257 - (os.length : Int)) :: os.getD 0 0 :: tail := rfl
    rw [e]
    have hh : hd0 ((257 - (os.length : Int)) :: os.getD 0 0 :: tail) = 257 - (os.length : Int) := rfl
    have hb : bsize (257 - (os.length : Int)) = 1 := by unfold bsize; rw [if_pos (by omega)]
    have hs : ¬ stops ((257 - (os.length : Int)) :: os.getD 0 0 :: tail) := by
      unfold stops; rw [hh, hb]; simp only [List.length_cons]; omega
    rw [parse_go hs, hh, hb]
    have hk : blkOf ((257 - (os.length : Int)) :: os.getD 0 0 :: tail) = (true, os) := by
      unfold blkOf
      rw [hh, if_pos (by omega)]
      have : (257 - (257 - (os.length : Int))).toNat = os.length := by omega
      rw [this]
      have h4 : List.getD ((257 - (os.length : Int)) :: os.getD 0 0 :: tail) 1 0 = os.getD 0 0 := rfl
      rw [h4, ← h3 rfl, decide_eq_true (by omega : (128 : Int) < 257 - os.length)]
    rw [hk]; rfl
  | false =>
    simp only [Bool.false_eq_true, if_false] at h1
    have e : encB (false, os) ++ tail = ((os.length : Int) - 1) :: (os ++ tail) := rfl
    rw [e]
    have hh : hd0 (((os.length : Int) - 1) :: (os ++ tail)) = (os.length : Int) - 1 := rfl
    have hb : bsize ((os.length : Int) - 1) = os.length := by unfold bsize; rw [if_neg (by omega)]; omega
    have hs : ¬ stops (((os.length : Int) - 1) :: (os ++ tail)) := by
      unfold stops; rw [hh, hb]; simp only [List.length_cons, List.length_append]; omega
    rw [parse_go hs, hh, hb]
    have hk : blkOf (((os.length : Int) - 1) :: (os ++ tail)) = (false, os) := by
      unfold blkOf
      rw [hh, if_neg (by omega), hb, decide_eq_false (by omega : ¬ (128 : Int) < os.length - 1)]
      simp
    rw [hk]
    have hd : List.drop (1 + os.length) (((os.length : Int) - 1) :: (os ++ tail)) = tail := by
      rw [Nat.add_comm, List.drop_succ_cons, List.drop_left]
    rw [hd]
theorem parse_all {bs : List Blk} (h : ∀ b ∈ bs, ValidB b) (tail : List Int) : parse (bs.flatMap encB ++ tail) = (bs ++ (parse tail).1, (parse tail).2) := by
  induction bs with
  | nil => rfl
  | cons b r ih =>
    rw [List.flatMap_cons, List.append_assoc, parse_one (h b (.head _)), ih fun x hx => h x (.tail _ hx)]
    rfl
end
section
structure EncI (ks cs rs : List Int) (i : Nat) (bs : List Blk) : Prop where
  valid : ∀ b ∈ bs, ValidB b
  shape : Shaped bs
  code : cs = bs.flatMap encB
  le : i ≤ ks.length
  rl : rs.length ≤ 127
  join : flat bs ++ rs = ks.take i
  last : LastOk bs
  q1 : ∀ p, i - rs.length ≤ p → p < i → ¬ (p + 2 < ks.length ∧ ks.getD p 0 = ks.getD (p + 1) 0 ∧ ks.getD (p + 1) 0 = ks.getD (p + 2) 0)
  q2 : rs ≠ [] → ¬ (i - rs.length + 1 < ks.length ∧ ks.getD (i - rs.length) 0 = ks.getD (i - rs.length + 1) 0)
  size : cs.length ≤ (i - rs.length) + (i - rs.length) / 128
def EncInv (ks cs rs : List Int) (i : Nat) : Prop := ∃ bs, EncI ks cs rs i bs
def EncOut (ks cs : List Int) : Prop := ∃ bs, flat bs = ks ∧ Shaped bs ∧ cs.length ≤ ks.length + (ks.length + 127) / 128 + 1 ∧ 1 ≤ cs.length ∧ parse cs = (bs, [128]) ∧ parse (cs.take (cs.length - 1)) = (bs, []) ∧ ∀ js, parse (cs ++ js) = (bs, 128 :: js)
section
variable {ks cs rs : List Int} {i : Nat} {bs : List Blk}
theorem EncI.len (h : EncI ks cs rs i bs) : (flat bs).length + rs.length = i := by
  have e := congrArg List.length h.join
  rw [List.length_append, List.length_take] at e
  have := h.le
  omega
theorem EncI.get (h : EncI ks cs rs i bs) {a : Nat} (ha : a < rs.length) : rs.getD a 0 = ks.getD (i - rs.length + a) 0 := by
  have hl := h.len
  have hle := h.le
  have e : (flat bs ++ rs)[i - rs.length + a]? = (ks.take i)[i - rs.length + a]? := by rw [h.join]
  rw [List.getElem?_append_right (by omega), List.getElem?_take_of_lt (by omega)] at e
  rw [show i - rs.length + a - (flat bs).length = a by omega] at e
  rw [List.getD_eq_getElem?_getD, List.getD_eq_getElem?_getD, e]
theorem EncI.rowOk (h : EncI ks cs rs i bs) (hn : rs ≠ []) : RowOk rs := by
  have hl := h.len
  have hle := h.le
  have hp : 0 < rs.length := List.length_pos_iff.mpr hn
  constructor
  · intro a h2 ha
    rw [h.get (by omega), h.get (by omega), h.get ha]
    intro q
    refine h.q1 (i - rs.length + (a - 2)) (by omega) (by omega) ⟨by omega, ?_, ?_⟩
    · rw [show i - rs.length + (a - 2) + 1 = i - rs.length + (a - 1) by omega]; exact q.1
    · rw [show i - rs.length + (a - 2) + 1 = i - rs.length + (a - 1) by omega, show i - rs.length + (a - 2) + 2 = i - rs.length + a by omega]; exact q.2
  · cases rs with
    | nil => exact absurd rfl hn
    | cons x r => cases r with
      | nil => simp
      | cons y r =>
        intro q
        have q' : x = y := by simpa using q
        have g0 := h.get (a := 0) (by simp)
        have g1 := h.get (a := 1) (by simp)
        have hq := h.q2 hn
        simp only [List.length_cons] at hq hl
        refine hq ⟨by omega, ?_⟩
        have e0 : List.getD (x :: y :: r) 0 0 = x := rfl
        have e1 : List.getD (x :: y :: r) 1 0 = y := rfl
        rw [e0] at g0; rw [e1] at g1
        simp only [List.length_cons, Nat.add_zero] at g0 g1
        rw [← g0, ← g1]; exact q'
/-- the pending row put behind the blocks -/
def flush (bs : List Blk) (rs : List Int) : List Blk := if rs = [] then bs else bs ++ [(false, rs)]
theorem flat_flush : flat (flush bs rs) = flat bs ++ rs := by
  unfold flush; split
  · rename_i h; rw [h]; simp
  · rw [flat_snoc]
theorem EncI.fl (h : EncI ks cs rs i bs) : (∀ b ∈ flush bs rs, ValidB b) ∧ Shaped (flush bs rs) ∧ cs ++ rowCodes rs = (flush bs rs).flatMap encB := by
  unfold flush rowCodes
  by_cases hn : rs = []
  · rw [if_pos hn, if_pos hn, List.append_nil]; exact ⟨h.valid, h.shape, h.code⟩
  · have hp : 0 < rs.length := List.length_pos_iff.mpr hn
    have hr := h.rl
    rw [if_neg hn, if_neg hn]
    refine ⟨?_, h.shape.snoc (fun _ => ⟨h.rowOk hn, h.last⟩) (by simp; omega) (by omega), ?_⟩
    · intro b hb
      rcases List.mem_append.mp hb with hb | hb
      · exact h.valid b hb
      · rw [List.mem_singleton.mp hb]
        exact ⟨by simp; omega, by dsimp only; omega, fun q => by cases q⟩
    · rw [List.flatMap_append, ← h.code]; simp [encB]
theorem codes_len (rs : List Int) : (rowCodes rs).length ≤ rs.length + 1 ∧ (rs = [] → (rowCodes rs).length = 0) := by
  unfold rowCodes; split
  · rename_i h; subst h; simp
  · rename_i h; simp [h]
end
theorem EncInv.start {ks : List Int} : EncInv ks [] [] 0 := by
  refine ⟨[], ⟨fun b hb => ?_, fun i r os h => ?_, rfl, Nat.zero_le _, by decide, by simp [flat], lastOk_nil, fun p _ h2 => by omega, fun q => absurd rfl q, by simp⟩⟩
  · cases hb
  · simp at h
theorem EncInv.room {ks cs rs : List Int} {i : Nat} (h : EncInv ks cs rs i) : cs.length + rs.length ≤ 2 * i ∧ i ≤ ks.length ∧ rs.length ≤ 127 := by
  obtain ⟨bs, h⟩ := h
  have := h.len; have := h.size; have := h.le; have := h.rl
  omega
theorem EncInv.bytes {ks cs rs : List Int} {i : Nat} (h : EncInv ks cs rs i) (hk : KBa.In ks) : KBa.In (cs ++ rowCodes rs ++ [128]) := by
  obtain ⟨bs, h⟩ := h
  obtain ⟨hv, _, hc⟩ := h.fl
  have hj : ∀ b ∈ flush bs rs, ∀ x ∈ b.2, x ∈ ks := by
    intro b hb x hx
    have : x ∈ flat (flush bs rs) := List.mem_flatMap.mpr ⟨b, hb, hx⟩
    rw [flat_flush, h.join] at this
    exact List.mem_of_mem_take this
  intro x hx
  rcases List.mem_append.mp hx with hx | hx
  · rw [hc] at hx
    obtain ⟨b, hb, hx⟩ := List.mem_flatMap.mp hx
    obtain ⟨v1, v2, v3⟩ := hv b hb
    obtain ⟨r, os⟩ := b
    dsimp only at v1 v2
    cases r with
    | true =>
      simp only [encB, if_true, List.mem_cons, List.not_mem_nil, or_false] at hx
      simp only [if_true] at v1
      rcases hx with rfl | rfl
      · constructor <;> omega
      · refine hk _ (hj _ hb _ ?_)
        cases os with
        | nil => simp at v1
        | cons y r => exact .head _
    | false =>
      simp only [encB, Bool.false_eq_true, if_false, List.mem_cons] at hx
      simp only [Bool.false_eq_true, if_false] at v1
      rcases hx with rfl | hx
      · constructor <;> omega
      · exact hk _ (hj _ hb _ hx)
  · rw [List.mem_singleton.mp hx]; decide
theorem EncInv.run {ks cs rs : List Int} {i c : Nat} (h : EncInv ks cs rs i) (hi : i < ks.length) (hr : RunAt ks i c) (hc : 2 < c ∨ c = 2 ∧ rs = []) : EncInv ks (cs ++ (rowCodes rs ++ [257 - (c : Int), ks.getD i 0])) [] (i + c) := by
  obtain ⟨bs, h⟩ := h
  obtain ⟨hv, hs, hcode⟩ := h.fl
  have hc2 : 2 ≤ c := by omega
  have hm := hr.most
  have hf := hr.fits
  have hlen := h.len
  have hg : ∀ (x : Int), (List.replicate c x).getD 0 0 = x := fun x => by
    cases c with
    | zero => omega
    | succ n => rfl
  refine ⟨flush bs rs ++ [(true, List.replicate c (ks.getD i 0))], ?_, hs.snoc (fun q => by cases q) (by simp; omega) (by simp; omega), ?_, by omega, by simp, ?_, lastOk_snoc (.inl rfl), fun p p1 p2 => by simp at p1; omega, fun q => absurd rfl q, ?_⟩
  · intro b hb
    rcases List.mem_append.mp hb with hb | hb
    · exact hv b hb
    · rw [List.mem_singleton.mp hb]
      refine ⟨by simp; omega, by simp; omega, fun _ => ?_⟩
      dsimp only
      rw [List.length_replicate, hg]
  · rw [List.flatMap_append, ← hcode]
    simp only [List.flatMap_cons, List.flatMap_nil, encB, if_true, List.length_replicate, hg, List.append_nil, List.append_assoc]
  · rw [flat_snoc, flat_flush, h.join, List.append_nil, List.take_add]
    congr 1
    refine List.ext_getElem? fun j => ?_
    rcases Nat.lt_or_ge j c with hj | hj
    · rw [List.getElem?_replicate, if_pos hj, List.getElem?_take_of_lt hj, List.getElem?_drop]
      have := hr.alike j hj
      rw [List.getD_eq_getElem?_getD] at this
      rw [← this]
      have hlt : i + j < ks.length := by omega
      rw [List.getElem?_eq_getElem hlt]; rfl
    · rw [List.getElem?_eq_none (by simp; omega), List.getElem?_eq_none (by simp; omega)]
  · have hs2 := h.size
    obtain ⟨c1, c2⟩ := codes_len rs
    simp only [List.length_append, List.length_cons, List.length_nil, Nat.sub_zero]
    rcases hc with hc | ⟨hc, hn⟩
    · omega
    · have := c2 hn; subst hn; simp only [List.length_nil, Nat.sub_zero] at hs2; omega
theorem not_three {ks rs : List Int} {i c : Nat} (hr : RunAt ks i c) (hc : ¬ (2 < c ∨ c = 2 ∧ rs = [])) : ¬ (i + 2 < ks.length ∧ ks.getD i 0 = ks.getD (i + 1) 0 ∧ ks.getD (i + 1) 0 = ks.getD (i + 2) 0) := by
  rintro ⟨h1, h2, h3⟩
  have ho := hr.one
  rcases hr.stop with q | q | q
  · omega
  · have : c = 1 ∨ c = 2 := by omega
    rcases this with rfl | rfl <;> omega
  · have : c = 1 ∨ c = 2 := by omega
    rcases this with rfl | rfl
    · exact q h2.symm
    · exact q (h3.symm.trans h2.symm)
theorem not_two {ks rs : List Int} {i c : Nat} (hr : RunAt ks i c) (hc : ¬ (2 < c ∨ c = 2 ∧ rs = [])) (hn : rs = []) : ¬ (i + 1 < ks.length ∧ ks.getD i 0 = ks.getD (i + 1) 0) := by
  rintro ⟨h1, h2⟩
  have ho := hr.one
  have : c = 1 := by
    rcases Nat.lt_or_ge c 2 with q | q
    · omega
    · exact absurd (by rcases Nat.lt_or_ge 2 c with z | z; exact .inl z; exact .inr ⟨by omega, hn⟩) hc
  subst this
  rcases hr.stop with q | q | q
  · omega
  · omega
  · exact q h2.symm
theorem take_one {ks : List Int} {i : Nat} (hi : i < ks.length) : ks.take (i + 1) = ks.take i ++ [ks.getD i 0] := by
  rw [List.take_add_one, List.getElem?_eq_getElem hi, List.getD_eq_getElem?_getD, List.getElem?_eq_getElem hi]; rfl
theorem EncInv.row {ks cs rs : List Int} {i c : Nat} (h : EncInv ks cs rs i) (hi : i < ks.length) (hr : RunAt ks i c) (hc : ¬ (2 < c ∨ c = 2 ∧ rs = [])) (hl : rs.length + 1 ≠ 128) : EncInv ks cs (rs ++ [ks.getD i 0]) (i + 1) := by
  obtain ⟨bs, h⟩ := h
  have hlen := h.len
  have hrl := h.rl
  have e : i + 1 - (rs ++ [ks.getD i 0]).length = i - rs.length := by simp
  refine ⟨bs, h.valid, h.shape, h.code, by omega, by simp; omega, ?_, h.last, ?_, ?_, ?_⟩
  · rw [← List.append_assoc, h.join, take_one hi]
  · intro p p1 p2
    rw [e] at p1
    rcases Nat.lt_or_ge p i with q | q
    · exact h.q1 p p1 q
    · have : p = i := by omega
      subst this; exact not_three hr hc
  · intro _
    rw [e]
    by_cases hn : rs = []
    · have z := not_two hr hc hn
      subst hn
      simpa using z
    · exact h.q2 hn
  · rw [e]; exact h.size
theorem EncInv.full {ks cs rs : List Int} {i c : Nat} (h : EncInv ks cs rs i) (hi : i < ks.length) (hr : RunAt ks i c) (hc : ¬ (2 < c ∨ c = 2 ∧ rs = [])) (hl : rs.length + 1 = 128) : EncInv ks (cs ++ rowCodes (rs ++ [ks.getD i 0])) [] (i + 1) := by
  obtain ⟨bs, h⟩ := h
  have hlen := h.len
  have hn : rs ≠ [] := fun q => by subst q; simp at hl
  have e : i + 1 - (rs ++ [ks.getD i 0]).length = i - rs.length := by simp
  have hj : flat bs ++ (rs ++ [ks.getD i 0]) = ks.take (i + 1) := by rw [← List.append_assoc, h.join, take_one hi]
  -- the full row keeps the row's laws
  have get : ∀ a, a < (rs ++ [ks.getD i 0]).length → (rs ++ [ks.getD i 0]).getD a 0 = ks.getD (i - rs.length + a) 0 := by
    intro a ha
    have q : (flat bs ++ (rs ++ [ks.getD i 0]))[i - rs.length + a]? = (ks.take (i + 1))[i - rs.length + a]? := by rw [hj]
    simp at ha
    rw [List.getElem?_append_right (by omega), List.getElem?_take_of_lt (by omega), show i - rs.length + a - (flat bs).length = a by omega] at q
    have q2 := congrArg (fun o : Option Int => o.getD 0) q
    simpa [List.getD_eq_getElem?_getD] using q2
  have hlen2 : (rs ++ [ks.getD i 0]).length = 128 := by simp; omega
  have hrow : RowOk (rs ++ [ks.getD i 0]) := by
    constructor
    · intro a h2 ha
      rw [get _ (by omega), get _ (by omega), get _ ha]
      intro q
      have z : i - rs.length + (a - 2) ≤ i := by omega
      have no : ¬ (i - rs.length + (a - 2) + 2 < ks.length ∧ ks.getD (i - rs.length + (a - 2)) 0 = ks.getD (i - rs.length + (a - 2) + 1) 0 ∧ ks.getD (i - rs.length + (a - 2) + 1) 0 = ks.getD (i - rs.length + (a - 2) + 2) 0) := by
        exact h.q1 _ (by omega) (by omega)
      refine no ⟨by omega, ?_, ?_⟩
      · rw [show i - rs.length + (a - 2) + 1 = i - rs.length + (a - 1) by omega]; exact q.1
      · rw [show i - rs.length + (a - 2) + 1 = i - rs.length + (a - 1) by omega, show i - rs.length + (a - 2) + 2 = i - rs.length + a by omega]; exact q.2
    · have := (h.rowOk hn).2
      cases rs with
      | nil => exact absurd rfl hn
      | cons x r => cases r with
        | nil => simp at hl
        | cons y r => simpa using this
  refine ⟨bs ++ [(false, rs ++ [ks.getD i 0])], ?_, h.shape.snoc (fun _ => ⟨hrow, h.last⟩) (by rw [hlen2]; simp) (by omega), ?_, by omega, by simp, ?_, lastOk_snoc (.inr hlen2), fun p p1 p2 => by simp at p1; omega, fun q => absurd rfl q, ?_⟩
  · intro b hb
    rcases List.mem_append.mp hb with hb | hb
    · exact h.valid b hb
    · rw [List.mem_singleton.mp hb]
      exact ⟨by dsimp only; rw [hlen2]; simp, by dsimp only; omega, fun q => by cases q⟩
  · have hne : rs ++ [ks.getD i 0] ≠ [] := by simp
    rw [List.flatMap_append, ← h.code, rowCodes, if_neg hne]; simp [encB]
  · rw [flat_snoc, List.append_nil]; exact hj
  · have hs := h.size
    obtain ⟨c1, _⟩ := codes_len (rs ++ [ks.getD i 0])
    rw [hlen2] at c1
    rw [List.length_append]
    simp only [List.length_nil, Nat.sub_zero]
    omega
theorem EncInv.fin {ks cs rs : List Int} {i : Nat} (h : EncInv ks cs rs i) (hi : ¬ i < ks.length) : EncOut ks (cs ++ rowCodes rs ++ [128]) := by
  obtain ⟨bs, h⟩ := h
  have hlen := h.len
  have hle := h.le
  have hs := h.size
  obtain ⟨hv, hsh, hc⟩ := h.fl
  obtain ⟨c1, c2⟩ := codes_len rs
  have h128 : stops [128] := .inl (by simp)
  have h128' : ∀ js, stops (128 :: js) := fun js => .inr (.inl rfl)
  refine ⟨flush bs rs, ?_, hsh, ?_, by simp only [List.length_append, List.length_singleton]; omega, ?_, ?_, ?_⟩
  · rw [flat_flush, h.join, List.take_of_length_le (by omega)]
  · rw [List.length_append, List.length_append, List.length_singleton]
    by_cases hn : rs = []
    · have := c2 hn; subst hn; simp only [List.length_nil, Nat.sub_zero] at hs; omega
    · have hp : 0 < rs.length := List.length_pos_iff.mpr hn
      omega
  · rw [hc, parse_all hv, parse_stop h128]; simp
  · rw [List.length_append, List.length_singleton, Nat.add_sub_cancel, List.take_left, hc]
    have := parse_all hv []
    rw [List.append_nil] at this
    rw [this, parse_stop (.inl (by simp))]; simp
  · intro js
    rw [hc, List.append_assoc, List.singleton_append, parse_all hv, parse_stop (h128' js)]; simp
end
section
theorem fresh_A3 : True := by
  w_top off
  trivial
local macro_rules | `(tactic| walk_at "call ref") => `(tactic| (k_here; (with_reducible show wpAny _ _ (call (Value.ref 68) [Value.bytes _ _, Value.int _ _]) _ _ _); k_dflt (refine' run_at_go ?_); intros; (try dsimp only); (try k_fold)))
local macro_rules | `(tactic| walk_at "call ref") => `(tactic| (k_here; (with_reducible show wpAny _ _ (call (Value.ref 82) [Value.ref _]) _ _ _); k_dflt (refine' row_codes_go ?_); intro h' tk' F' a' vs' n' hI' hA' hl' N'; (try simp only [AllLt, and_true] at hA'); (try dsimp only); (try k_fold)))
structure EncSt where
  vs : List Value
  cs : List Int
  n : Nat
  R : Addr
  rvs : List Value
  rs : List Int
  rn : Nat
  i : Nat
  t : Tok
set_option maxRecDepth 100000 in
set_option maxHeartbeats 8000000 in
theorem run_encoded_call (w : World) (b : Array UInt8) (tb : Tok) (ks : List Int) (rest : Led) (hks : KBw.bInts b = ks) (hb : ks.length < 2 ^ 20) :
    Cal w 75 [.bytes b tb] 3 120 rest (fun v news' => news' = rest ∧ ∃ b' t' cs, v = .bytes b' t' ∧ KBw.bInts b' = cs ∧ EncOut ks cs) := by
  unfold Cal; k_fill
  intro loose mean mg mb dp un gd cn cs a ccd cl outer A₀ base h₀ L m s Q E B F X N T hk hd hu hret
  refine wpAny_call ?_
  k_dflt cell_enter
  (rename Fr _ _ _ _ => lF)
  replace lF : Fr _ _ _ (fun y => List.lookup y [(Str.ofString "octets", Value.bytes b tb)]) := lF
  generalize s.toks + _ = tk0
  ktr_unf
  (rename Fr _ _ _ _ => lF); (rename News _ _ _ _ => lN)
  rename_i C _ lC R _ lR D _ lD _ _ _ _
  have lC : AllLt C rest := allLt_of lC
  refine' my_while (σ := EncSt) (fun c => [(C, listOf c.vs.toArray c.n), (c.R, listOf c.rvs.toArray c.rn)] ++ rest) (fun c => [(Str.ofString "row", .ref c.R), (Str.ofString "at", .int c.i c.t)]) [Str.ofString "count"] [Str.ofString "row", Str.ofString "at", Str.ofString "count"] (fun _ => rfl)
    (fun c => IntsAre c.vs c.cs ∧ IntsAre c.rvs c.rs ∧ @LT.lt Nat _ C c.R ∧ AllLt c.R rest ∧ EncInv ks c.cs c.rs c.i) (fun c => ks.length - c.i) lF lN
    ⟨⟨[], [], 0, R, [], [], 0, 0, _⟩, ⟨rfl, rfl, trivial⟩, by dsimp only; kcj_all, .nil, .nil, lR.1, lR.2, .start⟩ ?turn
  clear lF lN
  rintro ⟨vs, cs', n, R', rvs, rs, rn, i, t⟩ u h tk ⟨h1, h2, h3, h4, h5⟩ F N
  dsimp only at h1 h2 h3 h4 h5 F N ⊢
  simp only [List.cons_append, List.nil_append] at N
  have h6 := h5.room
  have l6 := h1.length
  have l7 := h2.length
  have hin := h5.bytes (hks ▸ fun k hk => KBw.ints_in hk)
  (try k_fold)
  ktr_unf
  · rename_i c _ hR _ _ _ _ hc _ _ _ _ _ _ _ _ _ _ _ _ _ _ _ _ _ _ _ _ _ _ us n2 hU R2 _ l2 _ _ _ F2 N2
    have hi : i < ks.length := by omega
    have hR1 := hR.one
    refine WEnd.intro ⟨us, _, n2, R2, [], [], 0, i + c, _⟩ F2 N2 (by dsimp only; kcj_all) ⟨rfl, rfl, trivial⟩ (by ktr_rel) ⟨hU, .nil, l2.1, l2.2.2.2.2.2, h5.run hi hR (.inl (by omega))⟩ (by dsimp only; omega)
  · rename_i c _ hR _ _ _ _ _ hc _ _ _ e _ _ _ _ _ _ _ _ _ _ _ _ _ _ _ _ _ _ _ _ _ _ us n2 hU R2 _ l2 _ _ _ F2 N2
    have hi : i < ks.length := by omega
    have hR1 := hR.one
    refine WEnd.intro ⟨us, _, n2, R2, [], [], 0, i + c, _⟩ F2 N2 (by dsimp only; kcj_all) ⟨rfl, rfl, trivial⟩ (by ktr_rel) ⟨hU, .nil, l2.1, l2.2.2.2.2.2.2, h5.run hi hR (.inr ⟨by omega, of_decide_eq_true e⟩)⟩ (by dsimp only; omega)
  · rename_i c _ hR _ _ _ _ _ hc _ _ _ e _ _ _ _ _ _ _ _ _ hl _ _ _ _ _ _ _ _ _ _ us n2 hU R2 _ l2 _ F2 N2
    have hi : i < ks.length := by omega
    refine WEnd.intro ⟨us, _, n2, R2, [], [], 0, i + 1, _⟩ F2 N2 (by dsimp only; kcj_all) ⟨rfl, rfl, trivial⟩ (by ktr_rel) ⟨hU, .nil, l2.1, l2.2.2.2.2, h5.full hi hR (fun z => ?_) (by omega)⟩ (by dsimp only; omega)
    rcases z with z | ⟨_, z⟩
    · omega
    · exact of_decide_eq_false e z
  · rename_i c _ hR _ _ _ hc _ _ _ e _ t2 _ _ _ _ n2 _ F2 N2 _ hl
    have hi : i < ks.length := by omega
    refine WEnd.intro ⟨vs, cs', n, R', _, _, n2, i + 1, _⟩ F2 N2 (by dsimp only; kcj_all) ⟨rfl, rfl, trivial⟩ (by ktr_rel) ⟨h1, IntsAre.append h2 (IntsAre.cons _ t2 IntsAre.nil), h3, h4, h5.row hi hR (fun z => ?_) (by omega)⟩ (by dsimp only; omega)
    rcases z with z | ⟨_, z⟩
    · omega
    · exact of_decide_eq_false e z
  · rename_i c _ hR _ _ _ _ _ hc _ _ _ _ _ _ _ _ _ hl _ _ _ _ _ _ _ _ _ _ us n2 hU R2 _ l2 _ F2 N2
    have hi : i < ks.length := by omega
    refine WEnd.intro ⟨us, _, n2, R2, [], [], 0, i + 1, _⟩ F2 N2 (by dsimp only; kcj_all) ⟨rfl, rfl, trivial⟩ (by ktr_rel) ⟨hU, .nil, l2.1, l2.2.2.2, h5.full hi hR (fun z => by omega) (by omega)⟩ (by dsimp only; omega)
  · rename_i c _ hR _ _ _ hc _ t2 _ _ _ _ n2 _ F2 N2 _ hl
    have hi : i < ks.length := by omega
    refine WEnd.intro ⟨vs, cs', n, R', _, _, n2, i + 1, _⟩ F2 N2 (by dsimp only; kcj_all) ⟨rfl, rfl, trivial⟩ (by ktr_rel) ⟨h1, IntsAre.append h2 (IntsAre.cons _ t2 IntsAre.nil), h3, h4, h5.row hi hR (fun z => by omega) (by omega)⟩ (by dsimp only; omega)
  · exact hret _ rest _ _ ⟨rfl, _, _, _, rfl, KBa.ints_make hin, h5.fin (by omega)⟩ (by assumption) (cb_drop (by assumption) (by kcj_all))
theorem run_encoded_go {w : World} {b : Array UInt8} {tb : Tok} {ks : List Int} {rest : Led}
    {loose : List Str} {mean : ExcName → Option Value} {mg mb : Str → Option Value} {dp un : Nat} {gd : Option (List Code)} {cn : Str} {cs : Scope} {fa : Addr} {ccd : Value} {fcl : List (Str × Addr)} {outer : List Env} {A₀ : Around} {base h₀ : Heap} {fL : Addr} {m : Str → Option Value} {s : Shared} {fQ fE : Value → Shared → Prop}
    (ret : ∀ h' tk', Fr h₀ fL h' m → ∀ b' t' cs' , KBw.bInts b' = cs' → ∀ bs, flat bs = ks → Shaped bs → cs'.length ≤ ks.length + (ks.length + 127) / 128 + 1 → 1 ≤ cs'.length → parse cs' = (bs, [128]) → parse (cs'.take (cs'.length - 1)) = (bs, []) → (∀ js, parse (cs' ++ js) = (bs, 128 :: js)) → News h₀ fL h' (rest) → fQ (.bytes b' t') { s with heap := h', toks := tk' })
    (B : Below A₀ base outer h₀ := by k_asm) (F : Fr h₀ fL s.heap m := by k_asm) (X : (hd.heap_39 w.params).In h₀ := by k_asm) (N : News h₀ fL s.heap (rest) := by k_asm) (T : Top topProg loose mean mg mb h₀ := by k_asm) (hks : KBw.bInts b = ks := by assumption) (hb : ks.length < 2 ^ 20 := by omega)
    (hk : cs.kind = .function := by first | exact rfl | assumption) (hd : dp + 3 < recursionLimit := by ktr_room) (hu : un + 120 < cLine := by ktr_units) :
    wpAny (model PySem.Challenge.rw_nn0191_01.row.prog w) (ktrTop dp un gd cn cs fL fa ccd fcl outer) (call (.ref 75) [.bytes b tb]) fQ fE s := by
  refine Cal.use (run_encoded_call w b tb ks rest hks hb) B F X N T hk hd hu fun v' w' h' tk' hR F' N' => ?_
  unfold EncOut at hR
  obtain ⟨e1, b', t', cs', e2, g1, bs, g2, g3, g4, g5, g6, g7, g8⟩ := hR
  subst e1; subst e2
  exact ret _ _ F' b' t' cs' g1 bs g2 g3 g4 g5 g6 g7 g8 N'
end
section
theorem fresh_D1 : True := by
  w_top off
  trivial
local macro_rules | `(tactic| walk_at "idle 0") => `(tactic| fail "idle")
abbrev penOf (cl : Addr) (sp lf sa : Int) (t1 t2 t3 : Tok) : List Value := [.ref cl, .int sp t1, .int lf t2, .int sa t3]
def absOf (a : Int) : Int := if a < 0 then -a else a
theorem my_abs {prog : Program} {w : World} {A : Around} {E : Value → Shared → Prop} {s : Shared} {a : Int} {t : Tok} {Q : Value → Shared → Prop} (h : ∀ u tk, 0 ≤ absOf a → Q (.int (absOf a) u) { s with toks := tk }) :
    wpAny (model prog w) A (call (.builtin "abs") [.int a t]) Q E s := call_abs_int fun u tk => h u tk (by unfold absOf; split <;> omega)
theorem my_pow18 {prog : Program} {w : World} {A : Around} {E : Value → Shared → Prop} {s : Shared} {t u : Tok} {Q : Value → Shared → Prop} (h : Q (.int 1000000000000000000 s.toks) { s with toks := s.toks + 1 }) :
    wpAny (model prog w) A (binaryOp .Pow (.int 10 t) (.int 18 u)) Q E s := pow_int_small (by decide) (by decide) (by decide) h
local macro_rules | `(tactic| walk_at "call builtin:abs") => `(tactic| (k_here; (with_reducible refine my_abs ?_); intro u tk hab))
local macro_rules | `(tactic| walk_at "binaryOp Pow int int") => `(tactic| (k_here; (with_reducible refine my_pow18 ?_)))
set_option maxRecDepth 100000 in
set_option maxHeartbeats 8000000 in
theorem draw_call (w : World) (P cl : Addr) (cvs : List Value) (cns : List Int) (cn : Nat) (sp : Nat) (lf sa many : Int) (t1 t2 t3 tm : Tok) (n : Nat) (rest : Led) (hi : IntsAre cvs cns) (hc : cns.length ≤ 63)
    (hsp : sp < 2 ^ 20) (hlf : 0 ≤ lf) (hsa : 0 ≤ sa ∧ sa < 1009) (hm : 0 < many ∧ many < 1000) (hP : @Ne Nat P cl) (hne : ∀ p ∈ rest, p.1 ≠ P) :
    Cal w 96 [.ref P, .int many tm] 2 100 ((P, listOf (penOf cl sp lf sa t1 t2 t3).toArray n) :: (cl, listOf cvs.toArray cn) :: rest) (fun v news' => ∃ d t sp' lf' t1' t2' n', v = .int d t ∧ 0 ≤ d ∧ d < many ∧ sp' ≤ sp + 1 ∧ 0 ≤ lf' ∧ news' = (P, listOf (penOf cl sp' lf' sa t1' t2' t3).toArray n') :: (cl, listOf cvs.toArray cn) :: rest) := by
  unfold Cal; k_fill
  intro loose mean mg mb dp un gd cn cs a ccd cl outer A₀ base h₀ L m s Q E B F X N T hk hd hu hret
  refine wpAny_call ?_
  k_dflt cell_enter
  (rename Fr _ _ _ _ => lF)
  replace lF : Fr _ _ _ (fun y => List.lookup y [(Str.ofString "many", Value.int many tm), (Str.ofString "pen", Value.ref P)]) := lF
  generalize s.toks + _ = tk0
  (rename News _ _ _ _ => lN); dsimp only [penOf] at lN
  obtain ⟨sp1, e1⟩ : ∃ k : Nat, (sp : Int) + 1 = k := ⟨sp + 1, rfl⟩
  have hm0 : many ≠ 0 := by omega
  have hm1 : many.natAbs < 1073741824 := by omega
  ktr_unf
  all_goals (have q1 := fun x : Int => Int.fmod_nonneg_of_pos x hm.1; have q2 := fun x : Int => Int.fmod_lt_of_pos x hm.1; rename News _ _ _ _ => lN; (try simp only [e1] at lN))
  · exact hret _ _ _ _ ⟨_, _, sp, Int.fdiv lf many, _, _, _, rfl, q1 _, q2 _, by omega, Int.fdiv_nonneg hlf (by omega), rfl⟩ (by assumption) (cb_drop lN (by dsimp only [penOf]; kcj_all))
  · exact hret _ _ _ _ ⟨_, _, sp1, _, _, _, _, rfl, q1 _, q2 _, by omega, hlf, rfl⟩ (by assumption) (cb_drop lN (by dsimp only [penOf]; kcj_all))
  · exact hret _ _ _ _ ⟨_, _, sp1, _, _, _, _, rfl, q1 _, q2 _, by omega, hlf, rfl⟩ (by assumption) (cb_drop lN (by dsimp only [penOf]; kcj_all))
  · exact hret _ _ _ _ ⟨_, _, sp1, Int.fdiv (2 * (absOf (cns.getD (sp : Int).toNat 0) - 1000000000000000000) + 1) many, _, _, _, rfl, q1 _, q2 _, by omega, Int.fdiv_nonneg (by omega) (by omega), rfl⟩ (by assumption) (cb_drop lN (by dsimp only [penOf]; kcj_all))
  · exact hret _ _ _ _ ⟨_, _, sp1, Int.fdiv (2 * (absOf (cns.getD (sp : Int).toNat 0) - 1000000000000000000) + 0) many, _, _, _, rfl, q1 _, q2 _, by omega, Int.fdiv_nonneg (by omega) (by omega), rfl⟩ (by assumption) (cb_drop lN (by dsimp only [penOf]; kcj_all))
theorem draw_go {w : World} {P cl : Addr} {cvs : List Value} {cns : List Int} {cn' : Nat} {sp : Nat} {lf sa many : Int} {t1 t2 t3 tm : Tok} {n : Nat} {rest : Led}
    {loose : List Str} {mean : ExcName → Option Value} {mg mb : Str → Option Value} {dp un : Nat} {gd : Option (List Code)} {cn : Str} {cs : Scope} {fa : Addr} {ccd : Value} {fcl : List (Str × Addr)} {outer : List Env} {A₀ : Around} {base h₀ : Heap} {fL : Addr} {m : Str → Option Value} {s : Shared} {fQ fE : Value → Shared → Prop}
    (ret : ∀ h' tk', Fr h₀ fL h' m → ∀ (d : Int) t (sp' : Nat) (lf' : Int) t1' t2' n', 0 ≤ d → d < many → sp' ≤ sp + 1 → 0 ≤ lf' → News h₀ fL h' ((P, listOf (penOf cl sp' lf' sa t1' t2' t3).toArray n') :: (cl, listOf cvs.toArray cn') :: rest) → fQ (.int d t) { s with heap := h', toks := tk' })
    (B : Below A₀ base outer h₀ := by k_asm) (F : Fr h₀ fL s.heap m := by k_asm) (X : (hd.heap_39 w.params).In h₀ := by k_asm) (N : News h₀ fL s.heap ((P, listOf (penOf cl sp lf sa t1 t2 t3).toArray n) :: (cl, listOf cvs.toArray cn') :: rest) := by (refine' Pick.news2 ?S ?S2 ?N; (case N => k_asm); (case S => tb_start); (case S2 => tb_start))) (T : Top topProg loose mean mg mb h₀ := by k_asm) (hi : IntsAre cvs cns := by assumption) (hc : cns.length ≤ 63 := by assumption) (hsp : sp < 2 ^ 20 := by omega) (hlf : 0 ≤ lf := by assumption) (hsa : 0 ≤ sa ∧ sa < 1009 := by assumption) (hm : 0 < many ∧ many < 1000 := by first | decide | omega) (hP : @Ne Nat P cl := by assumption) (hne : ∀ p ∈ rest, p.1 ≠ P := by k_all)
    (hk : cs.kind = .function := by first | exact rfl | assumption) (hd : dp + 2 < recursionLimit := by ktr_room) (hu : un + 100 < cLine := by ktr_units) :
    wpAny (model PySem.Challenge.rw_nn0191_01.row.prog w) (ktrTop dp un gd cn cs fL fa ccd fcl outer) (call (.ref 96) [.ref P, .int many tm]) fQ fE s := by
  refine Cal.use (draw_call w P cl cvs cns cn' sp lf sa many t1 t2 t3 tm n rest hi hc hsp hlf hsa hm hP hne) B F X N T hk hd hu fun v' w' h' tk' hR F' N' => ?_
  obtain ⟨d, t, sp', lf', t1', t2', n', e1, g1, g2, g3, g4, e2⟩ := hR
  subst e1; subst e2
  exact ret _ _ F' d t sp' lf' t1' t2' n' g1 g2 g3 g4 N'
end
section
theorem fresh_D2 : True := by
  w_top off
  trivial
def CalH (H : Heap → Prop) (w : World) (f : Addr) (vs : List Value) (dpN unN : Nat) (news : Led) (Ret : Value → Led → Prop) : Prop :=
  ∀ (loose : List Str) (mean : ExcName → Option Value) (mg mb : Str → Option Value) (dp un : Nat) (gd : Option (List Code)) (cn : Str) (cs : Scope) (a : Addr) (ccd : Value) (cl : List (Str × Addr)) (outer : List Env) (A₀ : Around) (base h₀ : Heap) (L : Addr) (m : Str → Option Value) (s : Shared) (Q E : Value → Shared → Prop),
    H h₀ → Below A₀ base outer h₀ → Fr h₀ L s.heap m → (hd.heap_39 w.params).In h₀ → News h₀ L s.heap news → Top topProg loose mean mg mb h₀ → cs.kind = .function → dp + dpN < recursionLimit → un + unN < cLine →
    (∀ v news' h' tk', Ret v news' → Fr h₀ L h' m → News h₀ L h' news' → Q v { s with heap := h', toks := tk' }) →
    wpAny (model PySem.Challenge.rw_nn0191_01.row.prog w) (ktrTop dp un gd cn cs L a ccd cl outer) (call (.ref f) vs) Q E s
theorem CalH.use {H : Heap → Prop} {w : World} {f : Addr} {vs : List Value} {dpN unN : Nat} {news : Led} {Ret : Value → Led → Prop} (C : CalH H w f vs dpN unN news Ret)
    {loose : List Str} {mean : ExcName → Option Value} {mg mb : Str → Option Value} {dp un : Nat} {gd : Option (List Code)} {cn : Str} {cs : Scope} {a : Addr} {ccd : Value} {cl : List (Str × Addr)} {outer : List Env} {A₀ : Around} {base h₀ : Heap} {L : Addr} {m : Str → Option Value} {s : Shared} {Q E : Value → Shared → Prop}
    (hH : H h₀) (B : Below A₀ base outer h₀) (F : Fr h₀ L s.heap m) (X : (hd.heap_39 w.params).In h₀) (N : News h₀ L s.heap news) (T : Top topProg loose mean mg mb h₀) (hk : cs.kind = .function) (hd : dp + dpN < recursionLimit) (hu : un + unN < cLine)
    (ret : ∀ v news' h' tk', Ret v news' → Fr h₀ L h' m → News h₀ L h' news' → Q v { s with heap := h', toks := tk' }) :
    wpAny (model PySem.Challenge.rw_nn0191_01.row.prog w) (ktrTop dp un gd cn cs L a ccd cl outer) (call (.ref f) vs) Q E s :=
  C _ _ _ _ _ _ _ _ _ _ _ _ _ _ _ _ _ _ _ _ _ hH B F X N T hk hd hu ret
/-- the same, with what is asked behind a name: the unpacking of the answer copies no goal -/
theorem CalH.go {H : Heap → Prop} {w : World} {f : Addr} {vs : List Value} {dpN unN : Nat} {news : Led} {Ret : Value → Led → Prop} (C : CalH H w f vs dpN unN news Ret)
    {loose : List Str} {mean : ExcName → Option Value} {mg mb : Str → Option Value} {dp un : Nat} {gd : Option (List Code)} {cn : Str} {cs : Scope} {a : Addr} {ccd : Value} {cl : List (Str × Addr)} {outer : List Env} {A₀ : Around} {base h₀ : Heap} {L : Addr} {m : Str → Option Value} {s : Shared} {Q E : Value → Shared → Prop}
    (hH : H h₀) (B : Below A₀ base outer h₀) (F : Fr h₀ L s.heap m) (X : (hd.heap_39 w.params).In h₀) (N : News h₀ L s.heap news) (T : Top topProg loose mean mg mb h₀) (hk : cs.kind = .function) (hd : dp + dpN < recursionLimit) (hu : un + unN < cLine)
    (ret : ∀ G : Value → Led → Heap → Nat → Prop, (∀ v news' h' tk', Q v { s with heap := h', toks := tk' } → G v news' h' tk') → ∀ v news' h' tk', Ret v news' → Fr h₀ L h' m → News h₀ L h' news' → G v news' h' tk') :
    wpAny (model PySem.Challenge.rw_nn0191_01.row.prog w) (ktrTop dp un gd cn cs L a ccd cl outer) (call (.ref f) vs) Q E s :=
  CalH.use C hH B F X N T hk hd hu (ret (fun v _ h' tk' => Q v { s with heap := h', toks := tk' }) fun _ _ _ _ k => k)
set_option maxRecDepth 100000 in
set_option maxHeartbeats 8000000 in
theorem pen_call (w : World) (S : Addr) (vs : List Value) (ns : List Int) (rest : Led) (hi : IntsAre vs ns) (hc : ns.length ≤ 63) :
    CalH (fun h => h.IsList S vs.toArray) w 103 [.ref S] 2 100 rest (fun v news' => ∃ P cl cvs cns cn sa t1 t2 t3 n', v = .ref P ∧ IntsAre cvs cns ∧ cns.length ≤ 63 ∧ 0 ≤ sa ∧ sa < 1009 ∧ news' = (P, listOf (penOf cl (0 : Nat) 0 sa t1 t2 t3).toArray n') :: (cl, listOf cvs.toArray cn) :: rest ∧ @LT.lt Nat _ cl P ∧ AllLt cl rest) := by
  unfold CalH; k_fill
  intro loose mean mg mb dp un gd cn cs a ccd cl outer A₀ base h₀ L m s Q E hS B F X N T hk hd hu hret
  refine wpAny_call ?_
  k_dflt cell_enter
  (rename Fr _ _ _ _ => lF)
  replace lF : Fr _ _ _ (fun y => List.lookup y [(Str.ofString "script", Value.ref S)]) := lF
  generalize s.toks + _ = tk0
  rename_i _ _ _ FG0 _ _ _ _
  have hS' := hS.at (fun o e => FG0.keep _ _ e)
  ktr_unf
  rename_i ws1 _ l0 hI1 hC1 _ D2 _ _ l2 _ _ _ _ _ _ _ _ _ _ _ _ P2 _ _ _ l4 _ kN _ _
  have q1 := fun x : Int => Int.fmod_nonneg_of_pos x (show (0 : Int) < 1009 by decide)
  have q2 := fun x : Int => Int.fmod_lt_of_pos x (show (0 : Int) < 1009 by decide)
  exact hret _ _ _ _ ⟨P2, D2, _, _, _, _, _, _, _, _, rfl, hI1, by omega, q1 _, q2 _, rfl, l4.2.1, l2.2⟩ (by assumption) (cb_drop kN (by dsimp only [penOf]; kcj_all))
theorem pen_go {w : World} {S : Addr} {vs : List Value} {ns : List Int} {rest : Led}
    {loose : List Str} {mean : ExcName → Option Value} {mg mb : Str → Option Value} {dp un : Nat} {gd : Option (List Code)} {cn : Str} {cs : Scope} {fa : Addr} {ccd : Value} {fcl : List (Str × Addr)} {outer : List Env} {A₀ : Around} {base h₀ : Heap} {fL : Addr} {m : Str → Option Value} {s : Shared} {fQ fE : Value → Shared → Prop}
    (ret : ∀ h' tk', Fr h₀ fL h' m → ∀ P cl cvs cns cn' (sa : Int) t1 t2 t3 n', IntsAre cvs cns → cns.length ≤ 63 → 0 ≤ sa → sa < 1009 → @LT.lt Nat _ cl P → AllLt cl rest → News h₀ fL h' ((P, listOf (penOf cl (0 : Nat) 0 sa t1 t2 t3).toArray n') :: (cl, listOf cvs.toArray cn') :: rest) → fQ (.ref P) { s with heap := h', toks := tk' })
    (B : Below A₀ base outer h₀ := by k_asm) (F : Fr h₀ fL s.heap m := by k_asm) (X : (hd.heap_39 w.params).In h₀ := by k_asm) (N : News h₀ fL s.heap (rest) := by k_asm) (T : Top topProg loose mean mg mb h₀ := by k_asm) (hH : h₀.IsList S vs.toArray := by assumption) (hi : IntsAre vs ns := by assumption) (hc : ns.length ≤ 63 := by omega)
    (hk : cs.kind = .function := by first | exact rfl | assumption) (hd : dp + 2 < recursionLimit := by ktr_room) (hu : un + 100 < cLine := by ktr_units) :
    wpAny (model PySem.Challenge.rw_nn0191_01.row.prog w) (ktrTop dp un gd cn cs fL fa ccd fcl outer) (call (.ref 103) [.ref S]) fQ fE s := by
  refine CalH.use (pen_call w S vs ns rest hi hc) hH B F X N T hk hd hu fun v' w' h' tk' hR F' N' => ?_
  obtain ⟨P, cl, cvs, cns, cn', sa, t1, t2, t3, n', e1, g1, g2, g3, g4, e2, g5, g6⟩ := hR
  subst e1; subst e2
  exact ret _ _ F' P cl cvs cns cn' sa t1 t2 t3 n' g1 g2 g3 g4 g5 g6 N'
end
section
local macro_rules | `(tactic| walk_at "call ref") => `(tactic| (k_here; (with_reducible show wpAny _ _ (call (Value.ref 96) [Value.ref _, Value.int _ _]) _ _ _); k_dflt (refine' draw_go ?_); intros; (try dsimp only); (try k_fold)))
section
theorem fresh_D3 : True := by
  w_top off
  trivial
structure PcSt where
  R : Addr
  rvs : List Value
  rs : List Int
  rn : Nat
  sp : Nat
  lf : Int
  t1 : Tok
  t2 : Tok
  n : Nat
set_option maxRecDepth 100000 in
set_option maxHeartbeats 8000000 in
theorem pieces_call (w : World) (P Ca : Addr) (cvs : List Value) (cns : List Int) (Cn : Nat) (sp : Nat) (lf sa : Int) (t1 t2 t3 : Tok) (n : Nat) (rest : Led) (hi : IntsAre cvs cns) (hc : cns.length ≤ 63)
    (hsp : sp < 2 ^ 10) (hlf : 0 ≤ lf) (hsa : 0 ≤ sa ∧ sa < 1009) (hP : @Ne Nat P Ca) (hne : ∀ p ∈ rest, p.1 ≠ P) (hnc : ∀ p ∈ rest, p.1 ≠ Ca) :
    Cal w 122 [.ref P] 3 200 ((P, listOf (penOf Ca sp lf sa t1 t2 t3).toArray n) :: (Ca, listOf cvs.toArray Cn) :: rest) (fun v news' => ∃ b t ks sp' lf' t1' t2' n', v = .bytes b t ∧ KBw.bInts b = ks ∧ ks.length ≤ 3000 ∧ sp' ≤ sp + 20 ∧ 0 ≤ lf' ∧ news' = (P, listOf (penOf Ca sp' lf' sa t1' t2' t3).toArray n') :: (Ca, listOf cvs.toArray Cn) :: rest) := by
  unfold Cal; k_fill
  intro loose mean mg mb dp un gd cn cs a ccd cl outer A₀ base h₀ L m s Q E B F X N T hk hd hu hret
  refine wpAny_call ?_
  k_dflt cell_enter
  (rename Fr _ _ _ _ => lF)
  replace lF : Fr _ _ _ (fun y => List.lookup y [(Str.ofString "pen", Value.ref P)]) := lF
  generalize s.toks + _ = tk0
  (rename News _ _ _ _ => lN); dsimp only [penOf] at lN
  ktr_unf
  rename_i R _ lR _ _ _ _ _ _ d _ sp1 lf1 u1 u2 n1 hd0 hd1 hs1 hl1 _ _ _ _ _ _ IR lF lN _
  obtain ⟨k, rfl⟩ := Int.eq_ofNat_of_zero_le hd0
  have lR1 : @LT.lt Nat _ P R := lR.1
  have lR2 : @LT.lt Nat _ Ca R := lR.2.1
  have lR3 := allNe_of lR.2.2
  refine' my_range (σ := PcSt) (rest := rest) (fun c => [(P, listOf (penOf Ca c.sp c.lf sa c.t1 c.t2 t3).toArray c.n), (Ca, listOf cvs.toArray Cn), (c.R, listOf c.rvs.toArray c.rn)]) (fun c => [(Str.ofString "found", .ref c.R)]) [Str.ofString "turn", Str.ofString "times", Str.ofString "octet"] [Str.ofString "found", Str.ofString "turn", Str.ofString "times", Str.ofString "octet"]
    (fun i c => IntsAre c.rvs c.rs ∧ c.rs.length ≤ 300 * i ∧ (∀ k ∈ c.rs, 0 ≤ k ∧ k ≤ 256) ∧ c.sp ≤ sp + 1 + 2 * i ∧ 0 ≤ c.lf ∧ @Ne Nat c.R P ∧ @Ne Nat c.R Ca) (by rfl) IR (by exact small_one (by omega) (by omega) (by omega) (by omega)) (rangeSize_nat _ _) (fun _ => rfl) rfl lF lN
    ⟨⟨R, [], [], 0, sp1, lf1, u1, u2, n1⟩, ⟨rfl, trivial⟩, by dsimp only; kcj_all, ⟨hne, hnc, lR3, trivial⟩, .nil, by simp, by simp, by dsimp only; omega, hl1, by dsimp only; omega, by dsimp only; omega⟩ ?turn ?done
  · clear lF lN IR
    rintro i t c u h tk tl hin ⟨h1, h2, h3, h4, h5, h6, h7⟩ ⟨a1, a2, a3, _⟩ hsub F N
    rcases c with ⟨R, rvs, rs, rn, sp2, lf2, u1, u2, n2⟩
    dsimp only at h1 h2 h3 h4 h5 h6 h7 a1 a2 a3 F N ⊢
    simp only [List.cons_append, List.nil_append] at N
    have hi10 : i < 10 := by omega
    have l6 := h1.length
    (try k_fold)
    ktr_unf
    · rename_i da _ _ _ _ _ _ da0 da1 hs1 _ _ _ _ _ db _ sp3 lf3 _ _ _ db0 db1 hs2 hl3 _ _ _ _ _ _ _ _ _ _ _ _ _ _ n1 _ e1 _ e3 _ D ws _ hI l9 _ F9 N9
      refine FEnd.intro ⟨D, ws, _, 0, sp3, lf3, _, _, _⟩ F9 N9 (by dsimp only; kcj_all) ⟨rfl, trivial⟩ (by ktr_rel) ⟨a1, a2, allNe_of l9.2.2.2.2.2.2, trivial⟩ ⟨hI, ?_, ?_, by dsimp only; omega, hl3, by dsimp only; omega, by dsimp only; omega⟩
      · dsimp only; rw [List.length_append]; omega
      · dsimp only; intro k hk
        rcases List.mem_append.mp hk with hk | hk
        · exact h3 k hk
        · simp only [List.mem_flatten, List.mem_replicate] at hk
          obtain ⟨l, ⟨_, rfl⟩, hk⟩ := hk
          rw [List.mem_singleton.mp hk]; omega
    · rename_i da _ _ _ _ _ _ da0 da1 hs1 _ _ _ _ _ db _ sp3 lf3 _ _ _ db0 db1 hs2 hl3 _ _ _ _ _ _ _ _ _ _ _ _ _ _ _ _ hL _ D ws _ hI l9 _ F9 N9
      refine FEnd.intro ⟨D, ws, _, 0, sp3, lf3, _, _, _⟩ F9 N9 (by dsimp only; kcj_all) ⟨rfl, trivial⟩ (by ktr_rel) ⟨a1, a2, allNe_of l9.2.2.2.2.2.2, trivial⟩ ⟨hI, ?_, ?_, by dsimp only; omega, hl3, by dsimp only; omega, by dsimp only; omega⟩
      · dsimp only; rw [List.length_append]; simp only [List.length_cons, List.length_nil] at hL; omega
      · dsimp only; intro k hk
        rcases List.mem_append.mp hk with hk | hk
        · exact h3 k hk
        · have hk := List.mem_of_mem_take hk
          simp only [List.mem_cons, List.not_mem_nil, or_false] at hk
          omega
  · clear lF lN IR
    rintro ⟨R, rvs, rs, rn, sp2, lf2, u1, u2, n2⟩ u h tk ⟨h1, h2, h3, h4, h5, h6, h7⟩ ⟨a1, a2, a3, _⟩ F N
    dsimp only at h1 h2 h3 h4 h5 h6 h7 a1 a2 a3 F N ⊢
    simp only [List.cons_append, List.nil_append] at N
    have l6 := h1.length
    have h2 : rs.length ≤ 2000 := by omega
    (try k_fold)
    ktr_unf
    (rename KBa.In _ => kI); (rename News h₀ _ _ _ => kN)
    refine hret _ _ _ _ ⟨_, _, _, sp2, lf2, _, _, _, rfl, KBa.ints_make kI, ?_, by omega, h5, rfl⟩ (by assumption) (cb_drop kN (by dsimp only [penOf]; kcj_all))
    rw [List.length_map]
    exact Nat.le_trans (List.length_filter_le _ _) (by omega)
theorem pieces_go {w : World} {P Ca : Addr} {cvs : List Value} {cns : List Int} {Cn : Nat} {sp : Nat} {lf sa : Int} {t1 t2 t3 : Tok} {n : Nat} {rest : Led}
    {loose : List Str} {mean : ExcName → Option Value} {mg mb : Str → Option Value} {dp un : Nat} {gd : Option (List Code)} {cn : Str} {cs : Scope} {fa : Addr} {ccd : Value} {fcl : List (Str × Addr)} {outer : List Env} {A₀ : Around} {base h₀ : Heap} {fL : Addr} {m : Str → Option Value} {s : Shared} {fQ fE : Value → Shared → Prop}
    (ret : ∀ h' tk', Fr h₀ fL h' m → ∀ b t ks (sp' : Nat) (lf' : Int) t1' t2' n', KBw.bInts b = ks → ks.length ≤ 3000 → sp' ≤ sp + 20 → 0 ≤ lf' → News h₀ fL h' ((P, listOf (penOf Ca sp' lf' sa t1' t2' t3).toArray n') :: (Ca, listOf cvs.toArray Cn) :: rest) → fQ (.bytes b t) { s with heap := h', toks := tk' })
    (B : Below A₀ base outer h₀ := by k_asm) (F : Fr h₀ fL s.heap m := by k_asm) (X : (hd.heap_39 w.params).In h₀ := by k_asm) (N : News h₀ fL s.heap ((P, listOf (penOf Ca sp lf sa t1 t2 t3).toArray n) :: (Ca, listOf cvs.toArray Cn) :: rest) := by (refine' Pick.news2 ?S ?S2 ?N; (case N => k_asm); (case S => tb_start); (case S2 => tb_start))) (T : Top topProg loose mean mg mb h₀ := by k_asm) (hi : IntsAre cvs cns := by assumption) (hc : cns.length ≤ 63 := by assumption) (hsp : sp < 2 ^ 10 := by omega) (hlf : 0 ≤ lf := by first | assumption | decide | omega) (hsa : 0 ≤ sa ∧ sa < 1009 := by first | assumption | exact ⟨by assumption, by assumption⟩) (hP : @Ne Nat P Ca := by first | assumption | exact Nat.ne_of_gt (by assumption) | omega) (hne : ∀ p ∈ rest, p.1 ≠ P := by k_all) (hnc : ∀ p ∈ rest, p.1 ≠ Ca := by k_all)
    (hk : cs.kind = .function := by first | exact rfl | assumption) (hd : dp + 3 < recursionLimit := by ktr_room) (hu : un + 200 < cLine := by ktr_units) :
    wpAny (model PySem.Challenge.rw_nn0191_01.row.prog w) (ktrTop dp un gd cn cs fL fa ccd fcl outer) (call (.ref 122) [.ref P]) fQ fE s := by
  refine Cal.use (pieces_call w P Ca cvs cns Cn sp lf sa t1 t2 t3 n rest hi hc hsp hlf hsa hP hne hnc) B F X N T hk hd hu fun v' w' h' tk' hR F' N' => ?_
  obtain ⟨b, t, ks, sp', lf', t1', t2', n', e1, g1, g2, g3, g4, e2⟩ := hR
  subst e1; subst e2
  exact ret _ _ F' b t ks sp' lf' t1' t2' n' g1 g2 g3 g4 N'
end
section
theorem fresh_F1 : True := by
  w_top off
  trivial
theorem in59 (w : World) : clsIn (hd.heap_39 w.params) 59 = some { name := "FilterFault", bases := [.ref 46], mro := [.ref 59, .ref 46, .type "Exception", .type "BaseException", .type "object"], ns := 58, qualname := "FilterFault" } := by rfl
theorem fn59 (w : World) : findIn (hd.heap_39 w.params) (.ref 59) "__setattr__" = some (some (.builtin "object.__setattr__")) := by rfl
theorem ob59 (w : World) : subIn (hd.heap_39 w.params) (.ref 59) (.type "object") = some true := by rfl
local macro_rules | `(tactic| walk_at "getMethod") => `(tactic| (k_here; k_dflt (refine' method_type (v := .builtin "Exception.__init__") ?mF ?mX (by kernel_rfl) (by rfl) ?me (by rfl) ?_; (case mF | mX => k_asm); (case me => kernel_rfl))))
local macro_rules | `(tactic| walk_at "call") => `(tactic| (k_here; (with_reducible show wpAny _ _ (call (Value.builtin _) [Value.ref _, _]) _ _ _); k_dflt (refine' fx_init ?F ?N ?C ?B ?ne ?_; (case F | N => k_asm); (case C => exact (Frag.In.keeps (by k_asm) (Fr.keep (by k_asm))) 59 _ rfl); (case B => rfl); (case ne => k_all)); intro t' h' tk' F' N'; (try dsimp only); (try k_sweep)))
local macro_rules | `(tactic| walk_at "setAttr") => `(tactic| (k_here; k_dflt (refine' fx_set0 ?F ?N ?X ?ne ?n (fn59 _) (in59 _) rfl (ob59 _) rfl ?_; (case F | N => k_asm); (case X => exact Frag.In.keeps (by k_asm) (Fr.keep (by k_asm))); (case ne => k_all); (case n => rfl)); intro dx h' tk1 tk2 F' N' l1; (try dsimp only); (try k_sweep)))
local macro_rules | `(tactic| walk_at "setAttr") => `(tactic| (k_here; k_dflt (refine' fx_set1 ?F ?N ?X ?ne ?ed ?n (fn59 _) (in59 _) rfl (ob59 _) rfl ?hl ?hz ?_; (case F | N => k_asm); (case X => exact Frag.In.keeps (by k_asm) (Fr.keep (by k_asm))); (case ne => exact (fun p hp => Nat.ne_of_lt ((by assumption : ∀ p ∈ (_, _) :: _, p.1 < _) p (.tail _ hp)))); (case ed => exact Nat.ne_of_lt ((by assumption : ∀ p ∈ (_, _) :: _, p.1 < _) _ (.head _))); (case n | hl => rfl); (case hz => intro _; exact Nat.le_of_ble_eq_true rfl)); intro h' tk1 tk2 F' N'; (try dsimp only); (try k_sweep)))
set_option maxRecDepth 100000 in
set_option maxHeartbeats 8000000 in
theorem init_call (w : World) (e t : Addr) (what : Str) (tw ta : Tok) (k : Int) (rest : Led) (hne : ∀ p ∈ rest, p.1 ≠ e) :
    Cal w 36 [.ref e, .str what tw, .int k ta] 2 100 ((e, excObj t none) :: rest) (fun v news' => v = .none ∧ ∃ t2 dx es n, news' = (e, excObj t2 (some dx)) :: (dx, dictOf es n) :: rest ∧ getL "at" es = some (some (.int k ta)) ∧ AllLt dx ((e, excObj t2 none) :: rest)) := by
  unfold Cal; k_fill
  intro loose mean mg mb dp un gd cn cs a ccd cl outer A₀ base h₀ L m s Q E B F X N T hk hd hu hret
  refine wpAny_call ?_
  k_dflt (refine' code_def ?k1 ?k2 ?k3 ?k4 ?k5 ?kA ?kF ?kK ?k6 ?k7 ?k8 ?k9 ?kB ?_ ?c2 ?c3 ?c4 ?c5; (case kA => exact rfl); (case kF => exact rfl); (case kK => assumption); (case k1 => k_asm); (case k2 => k_asm); (case k3 => k_asm); (case k4 => k_asm); (case k5 => k_asm); (case k6 => k_is); (case k7 => k_is); (case k8 => ktr_room); (case k9 => exact binds_K (X.keeps F.keep) rfl rfl rfl rfl rfl); (case c5 => decide); (case kB => exact locs rfl); (case c2 => exact rfl); (case c3 => exact rfl); (case c4 => exact rfl); k_whole; intro g' L' h' FG' F' N' B' X' T'; (try dsimp only); (try k_lift B'); (try k_fold))
  (rename Fr _ _ _ _ => lF)
  replace lF : Fr _ _ _ (fun y => List.lookup y [(Str.ofString "at", Value.int k ta), (Str.ofString "what", Value.str what tw), (Str.ofString "self", Value.ref e)]) := lF
  generalize s.toks + _ = tk0
  ktr_unf
  rename_i dx _ _ _ l1 _ _ _ _ _ _ kN _ _
  refine hret _ _ _ _ ⟨rfl, _, _, _, _, rfl, rfl, allLt_of l1⟩ (by assumption) (cb_drop kN (by kcj_all))
end
section
theorem fresh_F2 : True := by
  w_top off
  trivial
set_option maxRecDepth 100000 in
set_option maxHeartbeats 4000000 in
theorem fault_call (w : World) (what : Str) (tw ta : Tok) (k : Int) (rest : Led) :
    Cal w 59 [.str what tw, .int k ta] 4 120 rest (fun v news' => ∃ e t dx es n, v = .ref e ∧ news' = (e, excObj t (some dx)) :: (dx, dictOf es n) :: rest ∧ getL "at" es = some (some (.int k ta)) ∧ (∀ p ∈ rest, p.1 < e) ∧ AllLt dx ((e, excObj t none) :: rest)) := by
  unfold Cal
  intro loose mean mg mb dp un gd cn cs a ccd cl outer A₀ base h₀ L m s Q E B F X N T hk hdp hu hret
  refine fx_make F N (X.keeps F.keep) (X.keeps F.keep 59 _ rfl) (by decide) (by decide) (by decide) (Nat.le_of_ble_eq_true rfl) (show findIn (hd.heap_39 w.params) (.ref 59) "__init__" = some (some (.ref 36)) from rfl) rfl fun e t h' F' N' l => ?_
  have c : (Around.under (ktrTop dp un gd cn cs L a ccd cl outer) (.builtin "type.__call__" ⟨[.ref 59, .str what tw, .int k ta], []⟩)) = ktrTop (dp + 1) (un + 1) gd cn cs L a ccd cl outer := rfl
  rw [c]
  refine Cal.use (init_call w e t what tw ta k rest (fun p hp => Nat.ne_of_lt (l p hp))) B F' X N' T hk (by omega) (by omega) ?_
  rintro v news' h2 tk' ⟨rfl, t2, dx, es, n, rfl, hg, ha⟩ F2 N2
  exact ⟨rfl, hret _ _ _ _ ⟨e, t2, dx, es, n, rfl, rfl, hg, l, ha⟩ F2 N2⟩
theorem fault_go {w : World} {what : Str} {tw ta : Tok} {k : Int} {rest : Led}
    {loose : List Str} {mean : ExcName → Option Value} {mg mb : Str → Option Value} {dp un : Nat} {gd : Option (List Code)} {cn : Str} {cs : Scope} {fa : Addr} {ccd : Value} {fcl : List (Str × Addr)} {outer : List Env} {A₀ : Around} {base h₀ : Heap} {fL : Addr} {m : Str → Option Value} {s : Shared} {fQ fE : Value → Shared → Prop}
    (ret : ∀ h' tk', Fr h₀ fL h' m → ∀ (e : Addr) t (dx : Addr) es n, getL "at" es = some (some (.int k ta)) → (∀ p ∈ rest, p.1 < e) → AllLt dx ((e, excObj t none) :: rest) → News h₀ fL h' ((e, excObj t (some dx)) :: (dx, dictOf es n) :: rest) → fQ (.ref e) { s with heap := h', toks := tk' })
    (B : Below A₀ base outer h₀ := by k_asm) (F : Fr h₀ fL s.heap m := by k_asm) (X : (hd.heap_39 w.params).In h₀ := by k_asm) (N : News h₀ fL s.heap (rest) := by k_asm) (T : Top topProg loose mean mg mb h₀ := by k_asm)
    (hk : cs.kind = .function := by first | exact rfl | assumption) (hd : dp + 4 < recursionLimit := by ktr_room) (hu : un + 120 < cLine := by ktr_units) :
    wpAny (model PySem.Challenge.rw_nn0191_01.row.prog w) (ktrTop dp un gd cn cs fL fa ccd fcl outer) (call (.ref 59) [.str what tw, .int k ta]) fQ fE s := by
  refine Cal.use (fault_call w what tw ta k rest) B F X N T hk hd hu fun v' w' h' tk' hR F' N' => ?_
  obtain ⟨e, t, dx, es, n, e1, e2, g1, g2, g3⟩ := hR
  subst e1; subst e2
  exact ret _ _ F' e t dx es n g1 g2 g3 N'
end
section
local macro_rules | `(tactic| walk_at "call type:list") => `(tactic| (k_here; (with_reducible show wpAny _ _ (call (Value.type "list") [Value.bytes _ _]) _ _ _); k_dflt (refine' my_listb ?hh ?F ?N ?hk ?z ?_; (case hh => rfl); (case F => k_asm); (case N => k_asm); (case hk => assumption); (case z => kt_len)); intro D' us' c' h' tk' F' N' l1 hI'; (try k_lt l1); (try dsimp only); (try k_sweep)))
local macro_rules | `(tactic| walk_at "call ref") => `(tactic| (k_here; (with_reducible show wpAny _ _ (call (Value.ref 59) [Value.str _ _, Value.int _ _]) _ _ _); k_dflt (refine' fault_go ?_); intros; (try dsimp only); (try k_fold)))
local macro_rules | `(tactic| walk_at "exec Raise some none") => `(tactic| (k_here; (with_reducible show wpAny _ _ (exec (Stmt.Raise (some _) none _) _) _ _ _); k_dflt (refine fx_raise (by exact rfl) ?_)))
local macro_rules | `(tactic| walk_at "RaisableD") => `(tactic| (k_here; k_dflt (refine' ⟨_, _, _, rfl, cls59 (Frag.In.keeps (by k_asm) (Fr.keep (by k_asm))), ?he, ?_⟩; (case he => exact News.get (by k_asm) (by k_mem)))))
local macro_rules | `(tactic| walk_at "leaving ref") => `(tactic| (k_here; k_dflt (refine' leave_newD (oe := excObj _ (some _)) ?B ?F ?N ?ne rfl rfl rfl rfl ?_ ?hk; (case B | F | N => k_asm); (case ne => first | k_all | (refine ne_cons ?w1 ?w2; (case w1 => exact Nat.ne_of_gt (And.left (by assumption))); (case w2 => exact (fun p hp => Nat.ne_of_lt ((by assumption : ∀ q ∈ _, q.1 < _) p hp))))); (case hk => exact rfl)); intro h' R' U'; (try dsimp only)))
local macro_rules | `(tactic| walk_at "call builtin:len") => `(tactic| (k_here; (with_reducible show wpAny _ _ (call (Value.builtin "len") [Value.ref _]) _ _ _); k_dflt (refine' my_len ?N ?m ?i ?z ?_; (case N => k_asm); (case m => k_mem); (case i => assumption); (case z => kt_len)); (try dsimp only)))
local macro_rules | `(tactic| walk_at "subscriptTail Name Slice ref ref") => `(tactic| (k_here; (with_reducible show wpAny _ _ (subscriptTail _ (PySem.Expr.Slice _ _ none _) (Value.ref _) (Value.ref _)) _ _ _); k_dflt (refine' kmk_slice_ints ?F ?N ?l ?p ?q ?i ?m ?c ?_ ?s ?t ?z; (case F | N => k_asm); (case l => kmk_list); (case p | q => kmk_part); (case i => assumption); (case m => first | exact kmk_from (by assumption) (by omega) | exact kmk_run (by assumption) (by omega) (by omega)); (case c => kmk_len); (case s => with_unfolding_all rfl); (case t => kmk_pure); (case z => exact kmk_sz (by assumption) (by rw [sizeLine_eq]; kt_len))); intro D' ws' h' F' N' l1 hI' hC' hL'; (try simp only [Int.reduceNeg, Int.neg_neg, Int.reduceToNat] at hI' hC' hL'); (try k_lt l1); (try k_sweep)))
section
theorem fresh_E1 : True := by
  w_top off
  trivial
structure DecSt where
  vs : List Value
  os : List Int
  n : Nat
  i : Nat
  t : Tok
  bs : List Blk
set_option maxRecDepth 100000 in
set_option maxHeartbeats 8000000 in
theorem run_decoded_callX (w : World) (b : Array UInt8) (tb : Tok) (ks : List Int) (bs : List Blk) (ls : List Int) (rest : Led) (hks : KBw.bInts b = ks) (hb : ks.length < 2 ^ 14) (hp : parse ks = (bs, ls)) :
    CalX w 89 [.bytes b tb] 6 200 rest (fun v news' => (ls = [] ∨ hd0 ls = 128) ∧ news' = rest ∧ ∃ b' t', v = .bytes b' t' ∧ KBw.bInts b' = flat bs)
      (fun e d news' => ¬ (ls = [] ∨ hd0 ls = 128) ∧ ∃ es n ta, news' = (d, dictOf es n) :: rest ∧ getL "at" es = some (some (.int ((ks.length : Int) - ls.length) ta))) := by
  unfold CalX; k_fill
  intro loose mean mg mb dp un gd cn cs a ccd cl outer A₀ base h₀ L m s Q E B F X N T hk hd hu hret hretE
  refine wpAny_call ?_
  k_dflt cell_enter
  (rename Fr _ _ _ _ => lF)
  replace lF : Fr _ _ _ (fun y => List.lookup y [(Str.ofString "data", Value.bytes b tb)]) := lF
  generalize s.toks + _ = tk0
  ktr_unf
  (rename Fr _ _ _ _ => lF); (rename News _ _ _ _ => lN)
  rename_i O _ lO _ _ _ _ _ _
  have lO : AllLt O rest := allLt_of lO
  refine' my_while (σ := DecSt) (fun c => [(O, listOf c.vs.toArray c.n)] ++ rest) (fun c => [(Str.ofString "at", .int c.i c.t)]) [Str.ofString "length", Str.ofString "row"] [Str.ofString "at", Str.ofString "length", Str.ofString "row"] (fun _ => rfl)
    (fun c => IntsAre c.vs c.os ∧ c.i ≤ ks.length ∧ At ks c.bs (ks.drop c.i) ∧ flat c.bs = c.os ∧ c.os.length ≤ 128 * c.i ∧ KBa.In c.os) (fun c => ks.length - c.i) lF lN
    ⟨⟨[], [], 0, 0, _, []⟩, ⟨rfl, trivial⟩, by dsimp only; kcj_all, .nil, Nat.zero_le _, At.start _, rfl, Nat.zero_le _, fun _ h => by cases h⟩ ?turn
  clear lF lN
  rintro ⟨vs, os, n, i, t, bs2⟩ u h tk ⟨h1, h2, h3, h4, h5, h6⟩ F N
  dsimp only at h1 h2 h3 h4 h5 h6 F N ⊢
  simp only [List.cons_append, List.nil_append] at N
  have l6 := h1.length
  have h7 : os.length < 2 ^ 22 := by omega
  (try k_fold)
  ktr_unf
  · rename_i FG _ _ _ _ _ _ _ _ _ _ _ _ _ a0 _ _ c0 _ a1 _ _ _ _ _ _ a2 _ _ _ _ _ _ _ _ _ _ _ _ _ _ _ a3 _ _ _ e1 _ d1 es1 n1 hg _ _ _ _ R U
    rw [Int.toNat_natCast] at a1 a2 a3 c0
    have q := dec_cut h3 hp (by omega) rfl a1 (.inr (row_short (by omega) c0 a2 a3))
    exact hretE e1 d1 _ _ _ _ ⟨q.1, es1, n1, _, rfl, by rw [q.2]; exact hg⟩ FG U ((R.down FG.keep).less (by kcj_all))
  · rename_i a0 _ _ c0 _ a1 _ _ _ _ _ _ a2 _ _ _ _ _ _ _ _ _ _ _ _ _ a3 _ _ us n1 hU _ F9 N9
    rw [Int.toNat_natCast] at a1 a2 a3 c0 hU F9
    have hi : i < ks.length := by omega
    have hl := row_long hi c0 a3
    rw [row_take hi c0] at hU
    have e1 : (i : Int) + 2 + ks.getD i 0 = ((i + 2 + (ks.getD i 0).toNat : Nat) : Int) := by omega
    rw [e1] at F9
    refine WEnd.intro ⟨us, _, n1, i + 2 + (ks.getD i 0).toNat, _, _⟩ F9 N9 (by dsimp only; kcj_all) ⟨rfl, trivial⟩ (by ktr_rel) ⟨hU, hl, dec_row h3 hi rfl c0 a2 hl, ?_, ?_, ?_⟩ (by dsimp only; omega)
    · dsimp only; rw [flat_snoc, h4]
    · dsimp only; rw [List.length_append, List.length_take]; omega
    · dsimp only; intro x hx
      rcases List.mem_append.mp hx with hx | hx
      · exact h6 x hx
      · exact KBw.ints_in (hks ▸ List.mem_of_mem_drop (List.mem_of_mem_take hx))
  · rename_i FG _ _ _ _ _ _ _ _ _ _ _ _ _ a0 _ _ c0 _ a1 _ _ _ _ _ _ _ _ a2 a3 _ _ _ e1 _ d1 es1 n1 hg _ _ _ _ R U
    rw [Int.toNat_natCast] at a1 a2 c0
    have q := dec_cut h3 hp (by omega) rfl a1 (.inl (by omega))
    exact hretE e1 d1 _ _ _ _ ⟨q.1, es1, n1, _, rfl, by rw [q.2]; exact hg⟩ FG U ((R.down FG.keep).less (by kcj_all))
  · rename_i a0 _ _ c0 c1 a1 _ _ _ _ _ _ a2 a3 _ _ _ x0 x1 _ _ _ _ _ _ _ _ _ _ _ _ _ us n2 hU _ _ F9 N9
    have e2 : ((i : Int) + 1).toNat = i + 1 := by omega
    rw [Int.toNat_natCast] at a1 a2 c0 c1 hU F9
    rw [e2] at hU x0 x1
    rw [flat_rep] at hU
    have e1 : (i : Int) + 2 = ((i + 2 : Nat) : Int) := by omega
    rw [e1] at F9
    refine WEnd.intro ⟨us, _, n2, i + 2, _, _⟩ F9 N9 (by dsimp only; kcj_all) ⟨rfl, trivial⟩ (by ktr_rel) ⟨hU, by dsimp only; omega, dec_run h3 rfl (by omega) (by omega), ?_, ?_, ?_⟩ (by dsimp only; omega)
    · dsimp only; rw [flat_snoc, h4]
    · dsimp only; rw [List.length_append, List.length_replicate]; omega
    · dsimp only; intro x hx
      rcases List.mem_append.mp hx with hx | hx
      · exact h6 x hx
      · rw [List.eq_of_mem_replicate hx]; exact ⟨x0, x1⟩
  · rename_i a0 _ _ _ _ a1 _ _ _ _ _ kI _ _ kN _ _
    rw [Int.toNat_natCast] at a1
    have q := dec_end h3 hp (by omega) (.inr a1)
    exact hret _ _ _ _ ⟨q.1, rfl, _, _, rfl, by rw [q.2, h4]; exact KBa.ints_make kI⟩ (by assumption) (cb_drop kN (by kcj_all))
  · rename_i a0 _ _ _ _ _ kI _ _ kN _ _
    have q := dec_end h3 hp (by omega) (.inl (by omega))
    exact hret _ _ _ _ ⟨q.1, rfl, _, _, rfl, by rw [q.2, h4]; exact KBa.ints_make kI⟩ (by assumption) (cb_drop kN (by kcj_all))
theorem decoded_go {w : World} {b : Array UInt8} {tb : Tok} {ks : List Int} {bs : List Blk} {ls : List Int} {rest : Led}
    {loose : List Str} {mean : ExcName → Option Value} {mg mb : Str → Option Value} {dp un : Nat} {gd : Option (List Code)} {cn : Str} {cs : Scope} {fa : Addr} {ccd : Value} {fcl : List (Str × Addr)} {outer : List Env} {A₀ : Around} {base h₀ : Heap} {fL : Addr} {m : Str → Option Value} {s : Shared} {fQ fE : Value → Shared → Prop}
    (ret : ∀ h' tk', Fr h₀ fL h' m → (ls = [] ∨ hd0 ls = 128) → ∀ b' t', KBw.bInts b' = flat bs → News h₀ fL h' (rest) → fQ (.bytes b' t') { s with heap := h', toks := tk' })
    (B : Below A₀ base outer h₀ := by k_asm) (F : Fr h₀ fL s.heap m := by k_asm) (X : (hd.heap_39 w.params).In h₀ := by k_asm) (N : News h₀ fL s.heap (rest) := by k_asm) (T : Top topProg loose mean mg mb h₀ := by k_asm) (hks : KBw.bInts b = ks := by first | assumption | exact KBw.ints_app (by assumption) (by assumption)) (hb : ks.length < 2 ^ 14 := by first | omega | ((rw [List.length_take]); omega) | ((rw [List.length_append]); omega)) (hp : parse ks = (bs, ls) := by first | assumption | ((rw [cut_last (by assumption)]); assumption) | exact (by assumption : ∀ js, parse (_ ++ js) = _) _) (no : ls = [] ∨ hd0 ls = 128 := by first | exact Or.inl rfl | exact Or.inr rfl)
    (hk : cs.kind = .function := by first | exact rfl | assumption) (hd : dp + 6 < recursionLimit := by ktr_room) (hu : un + 200 < cLine := by ktr_units) :
    wpAny (model PySem.Challenge.rw_nn0191_01.row.prog w) (ktrTop dp un gd cn cs fL fa ccd fcl outer) (call (.ref 89) [.bytes b tb]) fQ fE s := by
  refine Cal.use (CalX.cal (run_decoded_callX w b tb ks bs ls rest hks hb hp) fun _ _ _ z => z.1 no) B F X N T hk hd hu fun v' w' h' tk' hR F' N' => ?_
  obtain ⟨g0, e1, b', t', e2, g1⟩ := hR
  subst e1; subst e2
  exact ret _ _ F' g0 b' t' g1 N'
end
section
theorem fresh_G1 : True := by
  w_top off
  trivial
local macro_rules | `(tactic| walk_at "idle 0") => `(tactic| fail "idle")
structure BkSt where
  ts : List Value
  bs : List Blk
  fn : Nat
  LF : Addr
  lvs : List Value
  ls : List Int
  ln : Nat
  bl : Led
set_option maxRecDepth 100000 in
set_option maxHeartbeats 8000000 in
theorem blocks_call (w : World) (b : Array UInt8) (tb : Tok) (ks : List Int) (rest : Led) (hks : KBw.bInts b = ks) (hb : ks.length < 2 ^ 14) :
    Cal w 129 [.bytes b tb] 2 100 rest (fun v news' => ∃ R F LF ts bs fn lvs ls ln bl, v = .ref R ∧ parse ks = (bs, ls) ∧ BlksIn bl ts bs ∧ IntsAre lvs ls ∧ news' = (R, tupOf [.ref F, .ref LF]) :: (F, listOf ts.toArray fn) :: (LF, listOf lvs.toArray ln) :: (bl ++ rest)) := by
  unfold Cal; k_fill
  intro loose mean mg mb dp un gd cn cs a ccd cl outer A₀ base h₀ L m s Q E B F X N T hk hd hu hret
  refine wpAny_call ?_
  k_dflt cell_enter
  (rename Fr _ _ _ _ => lF)
  replace lF : Fr _ _ _ (fun y => List.lookup y [(Str.ofString "codes", Value.bytes b tb)]) := lF
  generalize s.toks + _ = tk0
  ktr_unf
  rename_i FL _ lF0 L0 us0 c0 _ _ hI0 lL0 _ _ _ _ _ _ lF lN
  have lF0 : AllLt FL rest := allLt_of lF0
  have hin0 : KBa.In ks := fun k hk => KBw.ints_in (hks ▸ hk)
  refine' my_while (σ := BkSt) (fun c => (FL, listOf c.ts.toArray c.fn) :: (c.LF, listOf c.lvs.toArray c.ln) :: (c.bl ++ rest)) (fun c => [(Str.ofString "left", .ref c.LF)]) [Str.ofString "size", Str.ofString "octets"] [Str.ofString "left", Str.ofString "size", Str.ofString "octets"] (fun _ => rfl)
    (fun c => BlksIn c.bl c.ts c.bs ∧ IntsAre c.lvs c.ls ∧ At ks c.bs c.ls ∧ KBa.In c.ls ∧ c.bs.length + c.ls.length ≤ ks.length ∧ @LT.lt Nat _ FL c.LF ∧ (∀ p ∈ c.bl, p.1 ≠ FL)) (fun c => c.ls.length) lF lN
    ⟨⟨[], [], 0, L0, us0, ks, c0, []⟩, ⟨rfl, trivial⟩, by dsimp only; kcj_all, .nil, hI0, At.start _, hin0, by simp, lL0.1, fun p hp => by cases hp⟩ ?turn
  clear lF lN
  rintro ⟨ts, bs2, fn, LF, lvs, ls, ln, bl⟩ u h tk ⟨h1, h2, h3, h4, h5, h6, h7⟩ F N
  dsimp only at h1 h2 h3 h4 h5 h6 h7 F N ⊢
  have l6 := h2.length
  have l7 := h1.length
  obtain ⟨i0, i1⟩ : 0 ≤ ls.getD (Int.toNat 0) 0 ∧ ls.getD (Int.toNat 0) 0 < 256 := by
    cases ls with
    | nil => decide
    | cons x r => exact h4 x (.head _)
  (try k_fold)
  ktr_unf
  · rename_i a0 _ a1 _ _ a2 _ _ _ _ _ _ _ _ _ O1 _ hO _ _ _ _ _ k2 _ _ _ T1 _ k3 _ n9 _ L9 ws9 _ hI9 _ _ k4 _ F9 N9
    have hc : hd0 ls = ls.getD (Int.toNat 0) 0 := rfl
    have hb : bsize (hd0 ls) = 1 := by unfold bsize; rw [if_pos (by rw [hc]; exact a2)]
    have hns : ¬ stops ls := by unfold stops; rw [hb, hc]; omega
    have KT := k3.2.2.1
    have KO := k2.2.1
    rw [flat_rep] at hO
    have this : (blkOf ls).2 = List.replicate (257 - ls.getD (Int.toNat 0) 0).toNat (ls.getD (Int.toNat 1) 0) := by unfold blkOf; rw [if_pos (by rw [hc]; exact a2)]; rfl
    rw [← this] at hO
    have hsz : ls.drop (1 + bsize (hd0 ls)) = ls.drop (1 + 1 : Int).toNat := by rw [hb]; rfl
    refine WEnd.intro ⟨ts ++ [.ref T1], bs2 ++ [blkOf ls], n9, L9, ws9, ls.drop (1 + bsize (hd0 ls)), 0, (T1, _) :: (O1, _) :: bl⟩ F9 N9 (by dsimp only; kcj_all) ⟨rfl, trivial⟩ (by ktr_rel)
      ⟨?_, ?_, At.step h3 hns, fun x hx => h4 x (List.mem_of_mem_drop hx), ?_, k4.1, ne_cons (Nat.ne_of_gt KT) (ne_cons (Nat.ne_of_gt KO) h7)⟩ ?_
    · dsimp only
      refine BlksIn.snoc (h1.more fun p hp => .tail _ (.tail _ hp)) (r := decide (128 < hd0 ls)) (.head _) (.tail _ (.head _)) ?_
      exact hO
    · dsimp only; rw [hsz]; exact hI9
    · dsimp only; rw [List.length_append, List.length_drop, List.length_singleton]; omega
    · dsimp only; rw [List.length_drop]; omega
  · rename_i a0 _ a1 _ _ a2 _ _ _ a3 _ _ _ _ _ _ kN _ _
    exact hret _ _ _ _ ⟨_, _, _, ts, bs2, fn, lvs, ls, ln, bl, rfl, h3.stop (by unfold stops; refine .inr (.inr ?_); have hc : hd0 ls = ls.getD (Int.toNat 0) 0 := rfl; unfold bsize; rw [hc, if_neg a2]; omega), h1, h2, rfl⟩ (by assumption) (cb_drop kN (by kcj_all))
  · rename_i a0 _ a1 _ _ a2 _ _ _ a3 _ _ O1 _ _ hO _ _ k2 _ _ _ T1 _ k3 _ n9 _ L9 ws9 _ hI9 _ _ k4 _ F9 N9
    have hc : hd0 ls = ls.getD (Int.toNat 0) 0 := rfl
    have hc0 : ls.getD (Int.toNat 0) 0 = ls.getD 0 0 := rfl
    have hb : bsize (hd0 ls) = (ls.getD 0 0).toNat + 1 := by unfold bsize; rw [if_neg (by rw [hc]; exact a2)]; rfl
    have hns : ¬ stops ls := by unfold stops; rw [hb, hc]; omega
    have KT := k3.2.1
    have KO := k2.1
    have this : (blkOf ls).2 = List.take (min (1 + (ls.getD 0 0 + 1)).toNat ls.length - 1) (List.drop 1 ls) := by
      unfold blkOf; rw [if_neg (by rw [hc]; exact a2), hb]
      show List.take _ _ = _
      rw [List.take_eq_take_iff, List.length_drop]; exact row_min i0
    rw [← this] at hO
    have hsz : ls.drop (1 + bsize (hd0 ls)) = ls.drop (1 + (ls.getD 0 0 + 1) : Int).toNat := by rw [hb]; congr 1; omega
    refine WEnd.intro ⟨ts ++ [.ref T1], bs2 ++ [blkOf ls], n9, L9, ws9, ls.drop (1 + bsize (hd0 ls)), 0, (T1, _) :: (O1, _) :: bl⟩ F9 N9 (by dsimp only; kcj_all) ⟨rfl, trivial⟩ (by ktr_rel)
      ⟨?_, ?_, At.step h3 hns, fun x hx => h4 x (List.mem_of_mem_drop hx), ?_, k4.1, ne_cons (Nat.ne_of_gt KT) (ne_cons (Nat.ne_of_gt KO) h7)⟩ ?_
    · dsimp only
      refine BlksIn.snoc (h1.more fun p hp => .tail _ (.tail _ hp)) (r := decide (128 < hd0 ls)) (.head _) (.tail _ (.head _)) ?_
      exact hO
    · dsimp only; rw [hsz]; exact hI9
    · dsimp only; rw [List.length_append, List.length_drop, List.length_singleton]; omega
    · dsimp only; rw [List.length_drop]; omega
  · rename_i a0 _ a1 _ _ _ _ _ _ kN _ _
    exact hret _ _ _ _ ⟨_, _, _, ts, bs2, fn, lvs, ls, ln, bl, rfl, h3.stop (by unfold stops; exact .inr (.inl a1)), h1, h2, rfl⟩ (by assumption) (cb_drop kN (by kcj_all))
  · rename_i a0 _ _ _ _ _ _ kN _ _
    exact hret _ _ _ _ ⟨_, _, _, ts, bs2, fn, lvs, ls, ln, bl, rfl, h3.stop (by unfold stops; exact .inl (by omega)), h1, h2, rfl⟩ (by assumption) (cb_drop kN (by kcj_all))
theorem blocks_go {w : World} {b : Array UInt8} {tb : Tok} {ks : List Int} {rest : Led}
    {loose : List Str} {mean : ExcName → Option Value} {mg mb : Str → Option Value} {dp un : Nat} {gd : Option (List Code)} {cn : Str} {cs : Scope} {fa : Addr} {ccd : Value} {fcl : List (Str × Addr)} {outer : List Env} {A₀ : Around} {base h₀ : Heap} {fL : Addr} {m : Str → Option Value} {s : Shared} {fQ fE : Value → Shared → Prop}
    (ret : ∀ h' tk', Fr h₀ fL h' m → ∀ R G LF ts bs fn lvs ls ln bl, parse ks = (bs, ls) → BlksIn bl ts bs → IntsAre lvs ls → News h₀ fL h' ((R, tupOf [.ref G, .ref LF]) :: (G, listOf ts.toArray fn) :: (LF, listOf lvs.toArray ln) :: (bl ++ rest)) → fQ (.ref R) { s with heap := h', toks := tk' })
    (B : Below A₀ base outer h₀ := by k_asm) (F : Fr h₀ fL s.heap m := by k_asm) (X : (hd.heap_39 w.params).In h₀ := by k_asm) (N : News h₀ fL s.heap (rest) := by k_asm) (T : Top topProg loose mean mg mb h₀ := by k_asm) (hks : KBw.bInts b = ks := by assumption) (hb : ks.length < 2 ^ 14 := by omega)
    (hk : cs.kind = .function := by first | exact rfl | assumption) (hd : dp + 2 < recursionLimit := by ktr_room) (hu : un + 100 < cLine := by ktr_units) :
    wpAny (model PySem.Challenge.rw_nn0191_01.row.prog w) (ktrTop dp un gd cn cs fL fa ccd fcl outer) (call (.ref 129) [.bytes b tb]) fQ fE s := by
  refine Cal.use (blocks_call w b tb ks rest hks hb) B F X N T hk hd hu fun v' w' h' tk' hR F' N' => ?_
  obtain ⟨R, G, LF, ts, bs, fn, lvs, ls, ln, bl, e1, g1, g2, g3, e2⟩ := hR
  subst e1; subst e2
  exact ret _ _ F' R G LF ts bs fn lvs ls ln bl g1 g2 g3 N'
end
section
local macro_rules | `(tactic| walk_at "exec For Tuple Name cons nil") => `(tactic| (k_here; (rename Fr _ _ _ _ => lF'); k_dflt (refine For_turns lF' ?_)))
local macro_rules | `(tactic| walk_at "exec For Tuple Call cons nil") => `(tactic| (k_here; (rename Fr _ _ _ _ => lF'); k_dflt (refine For_turns lF' ?_)))
section
theorem fresh_H1 : True := by
  w_top off
  trivial
structure JnSt where
  R : Addr
  vs : List Value
  os : List Int
  n : Nat
set_option maxRecDepth 100000 in
set_option maxHeartbeats 8000000 in
theorem joined_call (w : World) (G : Addr) (ts : List Value) (bs : List Blk) (gn : Nat) (l : Led) (hG : (G, listOf ts.toArray gn) ∈ l) (hB : BlksIn l ts bs) (hin : KBa.In (flat bs)) (hb : (flat bs).length ≤ 2 ^ 20) :
    Cal w 136 [.ref G] 2 100 l (fun v news' => news' = l ∧ ∃ b' t', v = .bytes b' t' ∧ KBw.bInts b' = flat bs) := by
  unfold Cal; k_fill
  intro loose mean mg mb dp un gd cn cs a ccd cl outer A₀ base h₀ L m s Q E B F X N T hk hd hu hret
  refine wpAny_call ?_
  k_dflt cell_enter
  (rename Fr _ _ _ _ => lF)
  replace lF : Fr _ _ _ (fun y => List.lookup y [(Str.ofString "blocks", Value.ref G)]) := lF
  generalize s.toks + _ = tk0
  ktr_unf
  rename_i _ _ _ _ _ _ _ R _ lR _ lF lN
  refine' turns_list (σ := JnSt) (rest := l) (fun c => [(c.R, listOf c.vs.toArray c.n)]) (fun c => [(Str.ofString "found", .ref c.R)]) [Str.ofString "is_run", Str.ofString "octets"] [Str.ofString "found", Str.ofString "is_run", Str.ofString "octets"]
    (fun i c => IntsAre c.vs c.os ∧ c.os = flat (bs.take i)) (by rfl) hG (fun _ => rfl) lF lN
    ⟨⟨R, [], [], 0⟩, ⟨rfl, trivial⟩, fun p hp => hp, ⟨fun q hq => Nat.ne_of_lt (lR q hq), trivial⟩, .nil, rfl⟩ ?turn ?done
  · clear lF lN
    rintro i v ⟨R, vs, os, n⟩ u h tk tl hv ⟨h1, h2⟩ ⟨a1, _⟩ hsub F N
    obtain ⟨T, O, r, vs', n', os', rfl, hb1, m1, m2, h3⟩ := hB.at hv
    dsimp only at h1 h2 a1 F N ⊢
    have m1 := hsub _ m1
    have m2 := hsub _ m2
    have N : News _ _ h ((R, listOf vs.toArray n) :: (T, tupOf [.bool r, .ref O]) :: (O, listOf vs'.toArray n') :: tl) := fun p hp => N p (by
      rcases List.mem_cons.mp hp with rfl | hp
      · exact .head _
      · rcases List.mem_cons.mp hp with rfl | hp
        · exact .tail _ m1
        · rcases List.mem_cons.mp hp with rfl | hp
          · exact .tail _ m2
          · exact .tail _ hp)
    have hl1 : os.length + os'.length ≤ 2 ^ 20 := by
      have e : flat (bs.take i) ++ os' ++ flat (bs.drop (i + 1)) = flat bs := by
        have hlt : i < bs.length := (List.getElem?_eq_some_iff.mp hb1).1
        have e1 : bs[i] = (r, os') := (List.getElem?_eq_some_iff.mp hb1).2
        unfold flat
        conv => rhs; rw [← List.take_append_drop i bs, List.drop_eq_getElem_cons hlt, e1]
        simp
      rw [← e] at hb
      simp only [List.length_append] at hb
      rw [h2]; omega
    have h4 : os ++ os' = flat (bs.take (i + 1)) := by rw [h2, List.take_add_one, hb1]; simp [flat]
    (try k_fold)
    ktr_unf
    rename_i D ws _ hI lD _ F9 N9
    exact FEnd.intro ⟨D, ws, _, 0⟩ F9 N9 (by dsimp only; kcj_all) ⟨rfl, trivial⟩ (by ktr_rel) ⟨allNe_of lD.2.2.2, trivial⟩ ⟨hI, h4⟩
  · rintro ⟨R, vs, os, n⟩ u h tk ⟨h1, h2⟩ ⟨a1, _⟩ F N
    dsimp only at h1 h2 a1 F N ⊢
    have h5 : os = flat bs := by rw [h2, hB.length, List.take_length]
    have hin2 : KBa.In os := h5 ▸ hin
    have hb2 : os.length ≤ 2 ^ 20 := h5 ▸ hb
    (try k_fold)
    ktr_unf
    (rename KBa.In _ => kI); (rename News h₀ _ _ _ => kN)
    exact hret _ _ _ _ ⟨rfl, _, _, rfl, by rw [← h5]; exact KBa.ints_make kI⟩ (by assumption) (cb_drop kN (by kcj_all))
theorem joined_go {w : World} {G : Addr} {ts : List Value} {bs : List Blk} {gn : Nat} {l : Led}
    {loose : List Str} {mean : ExcName → Option Value} {mg mb : Str → Option Value} {dp un : Nat} {gd : Option (List Code)} {cn : Str} {cs : Scope} {fa : Addr} {ccd : Value} {fcl : List (Str × Addr)} {outer : List Env} {A₀ : Around} {base h₀ : Heap} {fL : Addr} {m : Str → Option Value} {s : Shared} {fQ fE : Value → Shared → Prop}
    (ret : ∀ h' tk', Fr h₀ fL h' m → ∀ b' t', KBw.bInts b' = flat bs → News h₀ fL h' (l) → fQ (.bytes b' t') { s with heap := h', toks := tk' })
    (B : Below A₀ base outer h₀ := by k_asm) (F : Fr h₀ fL s.heap m := by k_asm) (X : (hd.heap_39 w.params).In h₀ := by k_asm) (N : News h₀ fL s.heap (l) := by k_asm) (T : Top topProg loose mean mg mb h₀ := by k_asm) (hG : (G, listOf ts.toArray gn) ∈ l := by k_mem) (hB : BlksIn l ts bs := by (refine' BlksIn.more ?q1 (by assumption); (case q1 => (intro p hp; repeat (first | exact hp | exact List.mem_append.mpr (Or.inl hp) | refine List.Mem.tail _ ?_))))) (hin : KBa.In (flat bs) := by assumption) (hb : (flat bs).length ≤ 2 ^ 20 := by omega)
    (hk : cs.kind = .function := by first | exact rfl | assumption) (hd : dp + 2 < recursionLimit := by ktr_room) (hu : un + 100 < cLine := by ktr_units) :
    wpAny (model PySem.Challenge.rw_nn0191_01.row.prog w) (ktrTop dp un gd cn cs fL fa ccd fcl outer) (call (.ref 136) [.ref G]) fQ fE s := by
  refine Cal.use (joined_call w G ts bs gn l hG hB hin hb) B F X N T hk hd hu fun v' w' h' tk' hR F' N' => ?_
  obtain ⟨e1, b', t', e2, g1⟩ := hR
  subst e1; subst e2
  exact ret _ _ F' b' t' g1 N'
end
section
theorem fresh_K1 : True := by
  w_top off
  trivial
local macro_rules | `(tactic| ktr_unf) => `(tactic| repeat' (walk_at "st comp"; walk_at "st one"))
theorem comp_ind {prog : Program} {w : World} {A : Around} {h₀ : Heap} {L : Addr} {m : Str → Option Value} {env : Env} {ct elt : Expr} {x : Str} {scope : Scope} {cl : List (Str × Addr)} {s : Shared} {S : Led → Prop} {P : Nat → Value → Prop} {Fin : List Value → Led → Prop} {news : Led} (n : Nat) (h0 : Fin [] news)
    (step : ∀ j k, j + (k + 1) = n → PyProof.Rows.LCt.CompRestT prog w A h₀ L m env ct elt x scope cl s S P Fin k (j + 1) [] news → PyProof.Rows.LCt.CompRestT prog w A h₀ L m env ct elt x scope cl s S P Fin (k + 1) j [] news) :
    PyProof.Rows.LCt.CompRestT prog w A h₀ L m env ct elt x scope cl s S P Fin n 0 [] news := by
  have key : ∀ k j, j + k = n → PyProof.Rows.LCt.CompRestT prog w A h₀ L m env ct elt x scope cl s S P Fin k j [] news := by
    intro k
    induction k with
    | zero => intro j _; exact h0
    | succ k ih => intro j hj; exact step j k hj (ih (j + 1) (by omega))
  exact key n 0 (by omega)
theorem my_item {prog : Program} {w : World} {A : Around} {E : Value → Shared → Prop} {s : Shared} {value slice : PySem.Expr} {l : Addr} {vs : List Value} {n : Nat} {k : Int} {u : Tok} {v : Value} {h₀ : Heap} {L : Addr} {news : Led} {Q : Value → Shared → Prop} (N : News h₀ L s.heap news) (hm : (l, listOf vs.toArray n) ∈ news) (h0 : 0 ≤ k) (hfit : k < 2 ^ 63) (hv : vs[k.toNat]? = some v) (h : Q v s)
    (hs : subscripted slice false (.ref l) (.int k u) = operate [.ref l, .int k u] (getItem (.ref l) (.int k u))) : wpAny (model prog w) A (subscriptTail value slice (.ref l) (.int k u)) Q E s := by
  have hl : s.heap.IsList l vs.toArray := ⟨_, (N _ hm).1, rfl, n, rfl⟩
  exact tail_any hl.typeIs slot_list_getitem.lookup (wpAny_getItem_list hl h0 hfit (by simpa using hv) h) hs
theorem my_storeC {M : Model} {A : Around} {E : Value → Shared → Prop} {s : Shared} {h₀ : Heap} {L a : Addr} {m : Str → Option Value} {name : Str} {scope : Scope} {cd : Value} {x : Str} {c : Addr} {o : Obj} {v₀ : Option Value} {v : Value} {rest : Led} {Q : Unit → Shared → Prop} (F : Fr h₀ L s.heap m) (N : News h₀ L s.heap ((c, o) :: rest))
    (hc : (cellsFrom (L + 1) scope.names []).lookup x = some c) (hd : o.data = .cell v₀) (h2 : ∀ p ∈ rest, p.1 ≠ c)
    (h : ∀ h' o', Fr h₀ L h' m → News h₀ L h' ((c, o') :: rest) → o'.data = .cell (some v) → Q () { s with heap := h' })
    (hk : scope.kind = .function) (hl : (envOfC name scope L a cd).kindOf x = some .cell) :
    wpAny M A (storeName (envOfC name scope L a cd) x v) Q E s := stCN (own := []) F N hc hd (fun p hp => by cases hp) h2 h hk hl
local macro_rules | `(tactic| walk_at "storeName") => `(tactic| (k_here; k_dflt (refine' my_storeC ?F (Pick.news ?S ?N) ?hc ?hd ?h2 ?_ ?hk ?hl; (case hl | hk => rfl); (case F => k_asm); (case N => k_asm); (case hc => rfl); (case S => tb_start); (case hd => k_asm); (case h2 => k_all); k_whole); intro h' o' F' N' d'; (try k_sweep)))
local macro_rules | `(tactic| walk_at "subscriptTail") => `(tactic| (k_here; (with_reducible show wpAny _ _ (subscriptTail _ _ (Value.ref _) (Value.int _ _)) _ _ _); (with_unfolding_all refine' my_item ?k1 ?k2 ?k3 ?k4 ?k5 ?_ ?k6; (case k1 => k_asm); (case k2 => k_mem); (case k5 => assumption); (case k3 => omega); (case k4 => omega); (case k6 => with_unfolding_all rfl); k_whole)))
local macro_rules | `(tactic| walk_at "eval ListComp") => `(tactic| (k_here; k_dflt (refine PyProof.Rows.LCt.ListComp_T (F₀ := by k_asm) (by with_unfolding_all rfl) (by decide) (by rfl) (by decide) (by rfl) ?_)))
set_option maxRecDepth 100000 in
set_option maxHeartbeats 8000000 in
theorem shaped_call (w : World) (G : Addr) (ts : List Value) (bs : List Blk) (gn : Nat) (l : Led) (hG : (G, listOf ts.toArray gn) ∈ l) (hB : BlksIn l ts bs) (hS : Shaped bs) (hb : bs.length ≤ 2 ^ 20) :
    Cal w 141 [.ref G] 2 100 l (fun v news' => news' = l ∧ v = .bool true) := by
  unfold Cal; k_fill
  intro loose mean mg mb dp un gd cn cs a ccd cl outer A₀ base h₀ L m s Q E B F X N T hk hd hu hret
  refine wpAny_call ?_
  k_dflt (refine' code_defC ?k1 ?k2 ?k3 ?k4 ?k5 ?kA ?kF ?kK ?k6 ?k7 ?k8 ?k9 ?kB ?kD ?_ ?c2 ?c3 ?c4; (case kA => exact rfl); (case kF => exact rfl); (case kK => assumption); (case k1 => k_asm); (case k2 => k_asm); (case k3 => k_asm); (case k4 => k_asm); (case k5 => k_asm); (case k6 => k_is); (case k7 => k_is); (case k8 => ktr_room); (case k9 => exact BindsTo.of_eq rfl); (case kB => exact rfl); (case kD => decide +kernel); (case c2 => exact rfl); (case c3 => exact rfl); (case c4 => exact rfl); k_whole; intro g' L' h' tk' cells' FG' F' N' Y' B' X' T' l1; (try k_lt l1); k_cells Y'; (try simp only [List.cons_append, List.nil_append] at N'); (try dsimp only); (try k_lift B'); (try k_fold))
  rename_i o0 d0
  (rename Fr _ _ _ _ => lF)
  replace lF : Fr _ _ _ (fun y => if y = Str.ofString "blocks" then some (Value.ref G) else none) := lF
  ktr_unf
  rename_i lF
  (rename News _ _ _ _ => lN)
  refine' turns_enum (σ := Obj) (rest := l) (fun c => [(_, c)]) (fun c => []) [Str.ofString "spot", Str.ofString "is_run"] [Str.ofString "spot", Str.ofString "is_run"]
    (fun i c => ∃ v, c.data = .cell v) (by rfl) hG (fun _ => rfl) lF lN
    ⟨o0, trivial, fun p hp => hp, ⟨?ap, trivial⟩, ⟨_, d0⟩⟩ ?turn ?done
  case ap => exact fun q hq => Nat.ne_of_lt (Nat.lt_succ_of_lt ((by assumption : ∀ p ∈ l, p.1 < _) q hq))
  · clear lF lN d0
    rintro i T t x o u h tk tl hv hT ⟨v, hd⟩ ⟨a1, _⟩ hsub F N
    obtain ⟨T2, O, r, vs', n', os', rfl, hb1, m1, m2, h3⟩ := hB.at hv
    dsimp only at a1 F N ⊢
    have m1 := hsub _ m1
    have m2 := hsub _ m2
    have hlt : i < bs.length := (List.getElem?_eq_some_iff.mp hb1).1
    have hlt2 : i < ts.length := by rw [hB.length]; exact hlt
    obtain ⟨v3, hv3⟩ : ∃ v3, ts[i - 1]? = some v3 := ⟨ts[i - 1]'(by omega), List.getElem?_eq_getElem (by omega)⟩
    obtain ⟨T3, O3, r3, vs3, n3, os3, rfl, hb3, m4, m5, h6⟩ := hB.at hv3
    have e1 : @Ne Nat T2 _ := a1 _ m1
    have e2 : @Ne Nat O _ := a1 _ m2
    have m4 := hsub _ m4
    have m5 := hsub _ m5
    have mG := hsub _ hG
    have e3 : @Ne Nat T3 _ := a1 _ m4
    have e4 : @Ne Nat O3 _ := a1 _ m5
    have e5 : @Ne Nat G _ := a1 _ mG
    have hv3 : ts[((i : Int) - 1).toNat]? = some (.ref T3) := by rw [show ((i : Int) - 1).toNat = i - 1 by omega]; exact hv3
    have N : News _ _ h ((_, o) :: (T2, tupOf [.bool r, .ref O]) :: (O, listOf vs'.toArray n') :: (T3, tupOf [.bool r3, .ref O3]) :: (O3, listOf vs3.toArray n3) :: (G, listOf ts.toArray gn) :: tl) := fun p hp => N p (by
      simp only [List.mem_cons] at hp
      rcases hp with rfl | rfl | rfl | rfl | rfl | rfl | hp
      · exact .head _
      · exact .tail _ m1
      · exact .tail _ m2
      · exact .tail _ m4
      · exact .tail _ m5
      · exact .tail _ mG
      · exact .tail _ hp)
    obtain ⟨hS1, hS2, hS3⟩ := hS i r os' hb1
    have hq : r = false → ¬ (List.take 1 os' = List.take (min 2 os'.length - 1) (List.drop 1 os')) := fun q z => (hS1 q).2.1 (z.trans (by rw [List.take_eq_take_iff, List.length_drop]; exact min_sub 1 os'.length 1))
    have hS4 : r = false → 0 < i → r3 = false → ¬ os3.length < 128 := fun q h0 z y => (hS1 q).2.2 h0 _ _ hb3 ⟨z, y⟩
    refine unpackN_ F N hT rfl rfl rfl fun h9 F N => ?_
    dsimp only
    have hl3 : os3.length ≤ 128 := (hS (i - 1) r3 os3 hb3).2.2
    clear hT hS
    (try k_fold)
    cases r
    · ktr_unf
      rename_i o9 _ _ d9 _ _ _ _ _ IR lF9 lN9 _
      have fl : os'.length ≤ 128 := hS3
      refine PyProof.Rows.LCt.CompSrcT.range (n := os'.length - 2) (by rfl) lF9 lN9 IR (by exact small_one (by omega) (by omega) (by omega) (by omega)) (by rw [rangeSize_nat]; congr 1; omega) (by rw [sizeLine_eq]; omega) fun g9 => ?_
      refine comp_ind _ ?zero ?step
      case step =>
        intro j k hj ih
        refine PyProof.Rows.LCt.CompRestT.succ ?_
        clear lF9 lN9 IR
        rintro v I oI C oC D m₂ h tk E' ⟨t, rfl⟩ hNs hm2 F N off hne
        have hjl : j < os'.length - 2 := by omega
        have hno := (hS1 rfl).1 (j + 2) (by omega) (by omega)
        rw [show j + 2 - 2 = j by omega, show j + 2 - 1 = j + 1 by omega] at hno
        (try k_fold)
        ktr_unf
        · exfalso
          rename_i a1 _ a2
          rw [show (2 + (j : Int) - 2).toNat = j by omega, show (2 + (j : Int) - 1).toNat = j + 1 by omega] at a1
          rw [show (2 + (j : Int) - 1).toNat = j + 1 by omega, show (2 + (j : Int)).toNat = j + 2 by omega] at a2
          exact hno ⟨a1, a2⟩
        all_goals exact ⟨_, _, _, rfl, F, N, off, trivial, ih⟩
      case zero =>
        clear lF9 lN9 IR
        intro D h tk F N o1
        have hq := hq rfl
        have hS4 := hS4 rfl
        have hS2 : 1 ≤ os'.length := by simpa using hS2
        (try k_fold)
        ktr_unf
        all_goals first
          | (refine FEnd.intro _ (by assumption) (by assumption) (by (try dsimp only); kcj_all) trivial (by ktr_rel) ⟨a1, trivial⟩ ⟨_, d9⟩)
          | (exfalso; first | exact hq (by assumption) | exact hS4 (by omega) (by assumption) (by omega) | (rename_i z _ _ _ _; exact z (by simp; omega)))
    · have hS2 : 2 ≤ os'.length := by simpa using hS2
      ktr_unf
      all_goals (rename _ = Data.cell (some _) => d9)
      all_goals first
          | (refine FEnd.intro _ (by assumption) (by assumption) (by (try dsimp only); kcj_all) trivial (by ktr_rel) ⟨a1, trivial⟩ ⟨_, d9⟩)
          | (exfalso; (rename (¬ (1 + _ : Int) ≤ _) => z; exact z (by simp; omega)))
  · clear lF lN d0
    rintro o u h tk ⟨v, hd⟩ ⟨a1, _⟩ F N
    dsimp only at a1 F N ⊢
    (try k_fold)
    ktr_unf
    (rename News h₀ _ _ _ => kN)
    exact hret _ _ _ _ ⟨rfl, rfl⟩ (by assumption) (cb_drop kN (by kcj_all))
theorem shaped_go {w : World} {G : Addr} {ts : List Value} {bs : List Blk} {gn : Nat} {l : Led}
    {loose : List Str} {mean : ExcName → Option Value} {mg mb : Str → Option Value} {dp un : Nat} {gd : Option (List Code)} {cn : Str} {cs : Scope} {fa : Addr} {ccd : Value} {fcl : List (Str × Addr)} {outer : List Env} {A₀ : Around} {base h₀ : Heap} {fL : Addr} {m : Str → Option Value} {s : Shared} {fQ fE : Value → Shared → Prop}
    (ret : ∀ h' tk', Fr h₀ fL h' m → News h₀ fL h' (l) → fQ (.bool true) { s with heap := h', toks := tk' })
    (B : Below A₀ base outer h₀ := by k_asm) (F : Fr h₀ fL s.heap m := by k_asm) (X : (hd.heap_39 w.params).In h₀ := by k_asm) (N : News h₀ fL s.heap (l) := by k_asm) (T : Top topProg loose mean mg mb h₀ := by k_asm) (hG : (G, listOf ts.toArray gn) ∈ l := by k_mem) (hB : BlksIn l ts bs := by (refine' BlksIn.more ?q1 (by assumption); (case q1 => (intro p hp; repeat (first | exact hp | exact List.mem_append.mpr (Or.inl hp) | refine List.Mem.tail _ ?_))))) (hS : Shaped bs := by assumption) (hb : bs.length ≤ 2 ^ 20 := by omega)
    (hk : cs.kind = .function := by first | exact rfl | assumption) (hd : dp + 2 < recursionLimit := by ktr_room) (hu : un + 100 < cLine := by ktr_units) :
    wpAny (model PySem.Challenge.rw_nn0191_01.row.prog w) (ktrTop dp un gd cn cs fL fa ccd fcl outer) (call (.ref 141) [.ref G]) fQ fE s := by
  refine Cal.use (shaped_call w G ts bs gn l hG hB hS hb) B F X N T hk hd hu fun v' w' h' tk' hR F' N' => ?_
  obtain ⟨e1, e2⟩ := hR
  subst e1; subst e2
  exact ret _ _ F'  N'
end
section
local macro_rules | `(tactic| walk_at "call ref") => `(tactic| (k_here; (with_reducible show wpAny _ _ (call (Value.ref 129) [Value.bytes _ _]) _ _ _); k_dflt (refine' blocks_go ?_); intros; (try dsimp only); (try k_fold)))
local macro_rules | `(tactic| walk_at "call ref") => `(tactic| (k_here; (with_reducible show wpAny _ _ (call (Value.ref 136) [Value.ref _]) _ _ _); k_dflt (refine' joined_go ?_); intros; (try dsimp only); (try k_fold)))
section
theorem fresh_M1 : True := by
  w_top off
  trivial
local macro_rules | `(tactic| ktr_unf) => `(tactic| repeat' (walk_at "st comp"; walk_at "st one"))
theorem lt_of_all {d : Addr} {l : Led} (h : AllLt d l) : ∀ p ∈ l, p.1 < d := by
  induction l with
  | nil => intro p hp; cases hp
  | cons q r ih =>
    intro p hp
    rcases List.mem_cons.mp hp with rfl | hp
    · exact h.1
    · exact ih h.2 p hp
set_option maxRecDepth 100000 in
set_option maxHeartbeats 8000000 in
theorem read_call (w : World) (b : Array UInt8) (tb : Tok) (ks : List Int) (bs : List Blk) (ls : List Int) (rest : Led) (hks : KBw.bInts b = ks) (hb : ks.length < 2 ^ 13) (hp : parse ks = (bs, ls)) :
    Cal w 148 [.bytes b tb] 4 200 rest (fun v news' => ((ls = [] ∨ hd0 ls = 128) ∧ news' = rest ∧ ∃ b' t', v = .bytes b' t' ∧ KBw.bInts b' = flat bs) ∨
      (¬ (ls = [] ∨ hd0 ls = 128) ∧ ∃ T t1 t2, v = .ref T ∧ news' = (T, tupOf [.str "fault" t1, .int ((ks.length : Int) - ls.length) t2]) :: rest ∧ ∀ p ∈ rest, p.1 < T)) := by
  unfold Cal; k_fill
  intro loose mean mg mb dp un gd cn cs a ccd cl outer A₀ base h₀ L m s Q E B F X N T hk hd hu hret
  have hin : KBa.In ks := fun k hk => KBw.ints_in (hks ▸ hk)
  obtain ⟨p1, p2, p3, p4⟩ := parse_in hp hin
  refine wpAny_call ?_
  k_dflt cell_enter
  (rename Fr _ _ _ _ => lF)
  replace lF : Fr _ _ _ (fun y => List.lookup y [(Str.ofString "data", Value.bytes b tb)]) := lF
  generalize s.toks + _ = tk0
  iterate 20 (all_goals (first | (k_unfold; try dsimp only) | (refine bare ?_; k_unfold; try dsimp only) | (walk1 <;> (try ((fail_if_success (with_reducible show wpAny _ _ (subscriptTail _ _ _ _) _ _ _)); dsimp only))) | (dsimp only; walk1) | skip))
  rename_i hp' _ _ _ _ _ _ _
  have e := hp'.symm.trans hp
  cases e
  have hl1 : ls.length ≤ ks.length := by have := parse_len ks.length ks (Nat.le_refl _); rw [hp] at this; exact this
  by_cases hnil : ls = []
  · subst hnil
    ktr_unf
    (rename News h₀ _ _ _ => kN); (rename KBw.bInts _ = flat bs => hJ)
    exact hret _ _ _ _ (.inl ⟨.inl rfl, rfl, _, _, rfl, hJ⟩) (by assumption) (cb_drop kN (by kcj_all))
  · have hpos : 0 < ls.length := List.length_pos_iff.mpr hnil
    have hz : ls.getD (Int.toNat 0) 0 = hd0 ls := rfl
    ktr_unf
    · rename_i a0 _ _ _ _ l1 _ kN _ _
      exact hret _ _ _ _ (.inr ⟨fun q => q.elim hnil fun q => a0 (hz.trans q), _, _, _, rfl, rfl, fun p hp => lt_of_all l1.2.2.2.2 p (List.mem_append.mpr (.inr hp))⟩) (by assumption) (cb_drop kN (by kcj_all))
    · (rename News h₀ _ _ _ => kN); (rename KBw.bInts _ = flat bs => hJ); (rename ls.getD _ _ = 128 => a0)
      exact hret _ _ _ _ (.inl ⟨.inr (hz ▸ a0), rfl, _, _, rfl, hJ⟩) (by assumption) (cb_drop kN (by kcj_all))
end
section
theorem fresh_N1 : True := by
  w_top off
  trivial
local macro_rules | `(tactic| walk_at "exec Try") => `(tactic| (refine wpAny_Try_except ?_))
theorem ga59 (w : World) : findIn (hd.heap_39 w.params) (.ref 59) "__getattribute__" = some (some (.builtin "BaseException.__getattribute__")) := by rfl
theorem gg59 (w : World) : findIn (hd.heap_39 w.params) (.ref 59) "__getattr__" = some none := by rfl
theorem be59 (w : World) : subIn (hd.heap_39 w.params) (.ref 59) (.type "BaseException") = some true := by rfl
theorem at59 (w : World) : findIn (hd.heap_39 w.params) (.ref 59) "at" = some none := by rfl
theorem obj59 (w : World) {es : List DictEntry} {n : Nat} {v : Value} (hat : getL "at" es = some (some v)) : findObj (hd.heap_39 w.params) 59 (some (dictOf es n)) "at" = some (.value v) := by
  unfold findObj
  rw [in59, at59]
  simp only [Option.bind_some]
  unfold W.ownOf
  have hl : lookIn "at" (dictOf es n) = some (some v) := (lookIn_dict _ _ _).trans hat
  simp only [if_true, hl]
  rfl
theorem heard_with {prog : Program} {w : World} {A : Around} {E Q : Value → Shared → Prop} {s : Shared} {q : Addr} {pos : Pos} {env : Env} {h₀ : Heap} {L : Addr} {wo : Obj} {news : Led} (N : News h₀ L s.heap news) (hm : (q, wo) ∈ news) (hfn : ∃ oc od fd sl, wo = ⟨oc, od, .func fd, sl⟩)
    (h : wpAny (model prog w) A (call (.ref q) []) Q E s) : wpAny (model prog w) A (callWith pos (.ref q) [] (backTo pos (starEach [] env)) []) Q E s := by
  obtain ⟨oc, od, fd, sl, rfl⟩ := hfn
  exact callWith_F0 ⟨oc, od, fd, sl, (N _ hm).1⟩ h
local macro_rules | `(tactic| walk_at "callWith ref") => `(tactic| (k_here; k_dflt (refine' heard_with ?N ?m (by assumption) ?_; (case N => k_asm); (case m => exact (.tail _ (by assumption))))))
set_option maxRecDepth 100000 in
set_option maxHeartbeats 8000000 in
theorem heard_call (w : World) (fw : Addr) (wo : Obj) (dpN unN : Nat) (hdp : dpN ≤ 20) (hun : unN ≤ 600) (Ret : Value → Prop) (rest : Led) (PV : Value → Prop) (PE : Prop)
    (C : CalX w fw [] dpN unN rest (fun v news' => Ret v ∧ news' = rest) (fun e d news' => PE ∧ ∃ es n v0, news' = (d, dictOf es n) :: rest ∧ getL "at" es = some (some v0) ∧ PV v0))
    (hv0 : ∀ v0, PV v0 → handedIn v0 = true) (hmem : (fw, wo) ∈ rest) (hfn : ∃ oc od fd sl, wo = ⟨oc, od, .func fd, sl⟩)
    {loose : List Str} {mean : ExcName → Option Value} {mg mb : Str → Option Value} {dp un : Nat} {gd : Option (List Code)} {cn : Str} {cs : Scope} {a : Addr} {ccd : Value} {cl : List (Str × Addr)} {A₀ : Around} {h₀ : Heap} {L : Addr} {m : Str → Option Value} {s : Shared} {Q E : Value → Shared → Prop}
    (B : Below A₀ h₀ [] h₀) (F : Fr h₀ L s.heap m) (X : (hd.heap_39 w.params).In h₀) (N : News h₀ L s.heap rest) (T : Top topProg loose mean mg mb h₀) (hk : cs.kind = .function) (hd : dp + 30 < recursionLimit) (hu : un + 800 < cLine)
    (ret : ∀ v h' tk', Ret v → Fr h₀ L h' m → News h₀ L h' rest → Q v { s with heap := h', toks := tk' })
    (retE : ∀ D t v0 h' tk', PE → PV v0 → Fr h₀ L h' m → News h₀ L h' ((D, tupOf [.str "fault" t, v0]) :: rest) → (∀ p ∈ rest, p.1 < D) → Q (.ref D) { s with heap := h', toks := tk' }) :
    wpAny (model PySem.Challenge.rw_nn0191_01.row.prog w) (ktrTop dp un gd cn cs L a ccd cl []) (call (.ref 117) [.ref fw]) Q E s := by
  revert X; k_fill; intro X
  refine wpAny_call ?_
  k_dflt (refine' code_raw ?k1 ?k2 ?k3 ?k4 ?k5 ?kA ?kF ?kK ?k6 ?k7 ?k8 ?k9 ?kB ?_ ?c2 ?c3 ?c4 ?c5; (case kA => exact rfl); (case kF => exact rfl); (case kK => assumption); (case k1 => k_asm); (case k2 => k_asm); (case k3 => k_asm); (case k4 => k_asm); (case k5 => k_asm); (case k6 => k_is); (case k7 => k_is); (case k8 => ktr_room); (case k9 => exact BindsTo.of_eq rfl); (case c5 => decide); (case kB => exact locs rfl); (case c2 => exact rfl); (case c3 => exact rfl); (case c4 => exact rfl); k_whole; intro g' L' h' FG' F' N' B' X' T' back'; (try dsimp only); (try k_lift B'); (try k_fold))
  (rename Fr _ _ _ _ => lF)
  replace lF : Fr _ _ _ (fun y => List.lookup y [(Str.ofString "work", Value.ref fw)]) := lF
  generalize s.toks + _ = tk0
  iterate 40 (all_goals (first | ((fail_if_success (with_reducible show wpAny _ _ (call (Value.ref _) []) _ _ _)); first | (k_unfold; try dsimp only) | (refine bare ?_; k_unfold; try dsimp only) | (walk1 <;> (try dsimp only)) | (dsimp only; walk1)) | skip))
  refine' CalX.use C ?B ?F ?X (cb_drop (by k_asm) ?N) ?T ?hk ?hd ?hu ?ret ?retE
  case B => k_asm
  case F => k_asm
  case X => k_asm
  case N => kcj_all
  case T => k_asm
  case hk => exact rfl
  case hd => ktr_room
  case hu => ktr_units
  case ret =>
    rintro v news' h2 tk2 ⟨hR, rfl⟩ F2 N2
    try dsimp only
    iterate 60 (all_goals (first | ((fail_if_success (with_reducible show wpAny _ _ (call (Value.ref _) []) _ _ _)); first | (k_unfold; try dsimp only) | (refine bare ?_; k_unfold; try dsimp only) | (walk1 <;> (try dsimp only)) | (dsimp only; walk1)) | skip))
    rename_i F9 N9
    obtain ⟨F8, N8⟩ := back' _ _ _ F9 N9
    exact ret _ _ _ hR F8 N8
  case retE =>
    rintro e d news' g2 h2 tk2 ⟨hPE, es, n, v0, rfl, hat, hpv⟩ F2 U2 R2
    refine caught_D B' rfl FG'.ns F2 U2 R2 X T rfl rfl rfl rfl rfl fun h4 tk4 oe oL vs hb3 F4 N4 hc hdd hdt hNs hne E' => ?_
    have X3 := X.keeps hb3
    have T3 := T.keeps hb3
    iterate 60 (all_goals (first | ((fail_if_success (with_reducible show wpAny _ _ (call (Value.ref _) []) _ _ _)); first | (k_unfold; try dsimp only) | (refine bare ?_; k_unfold; try dsimp only) | (walk1 <;> (try dsimp only)) | (dsimp only; walk1)) | skip))
    rename_i F9 N9
    have hno : notCls oe = true := by unfold notCls; rw [hdt]
    have I9 : InstAt _ e oe 59 (some (dictOf es n)) := ⟨(N9 _ (.head _)).1, hc, hno, by rw [hdd]; exact (N9 _ (.tail _ (.tail _ (.head _)))).1⟩
    refine fx_get (X3.keeps F9.keep) I9 (ga59 w) (gg59 w) (be59 w) (obj59 w hat) (hv0 _ hpv) ?_
    try dsimp only
    iterate 20 (all_goals (first | ((fail_if_success (with_reducible show wpAny _ _ (call (Value.ref _) []) _ _ _)); first | (k_unfold; try dsimp only) | (refine bare ?_; k_unfold; try dsimp only) | (walk1 <;> (try dsimp only)) | (dsimp only; walk1)) | skip))
    rename_i D9 h9 F10 N10 l10
    have hD : D9 ≠ L := Nat.ne_of_gt l10.2.1
    obtain ⟨F8, N8⟩ := back_caught (news := (D9, tupOf [.str "fault" _, v0]) :: rest) hb3 F10 (fun p hp => N10 p (by
      rcases List.mem_cons.mp hp with rfl | hp
      · exact .tail _ (.tail _ (.head _))
      · rcases List.mem_cons.mp hp with rfl | hp
        · exact .head _
        · exact .tail _ (.tail _ (.tail _ (.tail _ hp))))) hNs F.above (fun p hp => by
      rcases List.mem_cons.mp hp with rfl | hp
      · exact hD
      · exact hne p (.tail _ (.tail _ hp)))
    exact retE D9 _ _ _ _ hPE hpv F8 N8 (lt_of_all l10.2.2.2)
end
section
theorem fresh_O1 : True := by
  w_top off
  trivial
abbrev noArgs : Arguments := { posonlyargs := [], args := [], vararg := none, kwonlyargs := [], kw_defaults := [], kwarg := none, defaults := [] }
abbrev lamScope : Scope := { kind := .function, names := [("data", .free), ("run_decoded", .globalImplicit)], isGenerator := false, isCoroutine := false, more := [] }
abbrev lamBody (p1 p2 p3 : Pos) : Expr := .Call (.Name "run_decoded" p1) [.Name "data" p2] [] p3
local macro_rules | `(tactic| walk_at "eval Name") => `(tactic| ((with_reducible show wpAny _ _ (eval (Expr.Name (Str.ofString "data") _) _) _ _ _); k_here; k_dflt (refine' nameX_F ?N rfl (by assumption) (by assumption) ?_ rfl rfl rfl rfl; (case N => k_asm))))
set_option maxRecDepth 100000 in
set_option maxHeartbeats 800000 in
theorem lam_callX (w : World) (f c' cD : Addr) (oc oD : Obj) (nm qual : Str) (ctv pm : Value) (vsC : Array Value) (tq : Tok) (p1 p2 p3 : Pos) (b : Array UInt8) (tb : Tok) (ks : List Int) (bs : List Blk) (ls : List Int) (rest : Led)
    (hf : (f, kla_obj nm qual noArgs (lamBody p1 p2 p3) lamScope [(Str.ofString "data", cD)] pm c' ctv) ∈ rest) (hc : (c', oc) ∈ rest) (hcd : oc.data = .fields vsC) (hcq : vsC[1]? = some (.str qual tq))
    (hD : (cD, oD) ∈ rest) (hDd : oD.data = .cell (some (.bytes b tb))) (hks : KBw.bInts b = ks) (hb : ks.length < 2 ^ 14) (hp : parse ks = (bs, ls)) :
    CalX w f [] 10 400 rest (fun v news' => ((ls = [] ∨ hd0 ls = 128) ∧ ∃ b' t', v = .bytes b' t' ∧ KBw.bInts b' = flat bs) ∧ news' = rest)
      (fun e d news' => ¬ (ls = [] ∨ hd0 ls = 128) ∧ ∃ es n v0, news' = (d, dictOf es n) :: rest ∧ getL "at" es = some (some v0) ∧ ∃ ta, v0 = .int ((ks.length : Int) - ls.length) ta) := by
  unfold CalX; k_fill
  intro loose mean mg mb dp un gd cn cs a ccd cl outer A₀ base h₀ L m s Q E B F X N T hk hd hu hret hretE
  refine wpAny_call ?_
  k_dflt (refine' kla_code ?k1 ?k2 ?k3 ?k4 ?k5 ?kA ?kF ?kK ?k6 ?k7 ?k8 ?k9 ?kB ?_ ?c2 ?c3 ?c4 ?c5; (case kA => exact rfl); (case kF => exact rfl); (case kK => assumption); (case k1 => k_asm); (case k2 => k_asm); (case k3 => k_asm); (case k4 => k_asm); (case k5 => k_asm); (case k6 => exact hf); (case k7 => exact codeRec_news N hc hcd hcq); (case k8 => ktr_room); (case k9 => exact rfl); (case c5 => decide); (case kB => exact locs rfl); (case c2 => exact rfl); (case c3 => exact rfl); (case c4 => exact rfl); k_whole; intro g' L' h' FG' F' N' B' X' T'; (try dsimp only); (try k_lift B'); (try k_fold))
  generalize s.toks + _ = tk0
  iterate 12 (all_goals (first | ((fail_if_success (with_reducible show wpAny _ _ (call (Value.ref _) [_]) _ _ _)); first | (k_unfold; try dsimp only) | (refine bare ?_; k_unfold; try dsimp only) | (walk1 <;> (try dsimp only)) | (dsimp only; walk1)) | skip))
  refine' CalX.use (run_decoded_callX w b tb ks bs ls rest hks hb hp) ?B ?F ?X ?N ?T ?hk ?hd ?hu ?ret ?retE
  case B => k_asm
  case F => k_asm
  case X => k_asm
  case N => k_asm
  case T => k_asm
  case hk => exact rfl
  case hd => ktr_room
  case hu => ktr_units
  case ret =>
    rintro v news' h2 tk2 ⟨h1, rfl, h3⟩ F2 N2
    exact leaveK_ F2 N2 fun a b => hret _ _ _ _ ⟨⟨h1, h3⟩, rfl⟩ a b
  case retE =>
    rintro e d news' g2 h2 tk2 ⟨hr1, es, n, ta, hr2, hr3⟩ F2 U2 R2
    exact leave_onX B' F2 R2 U2 fun h3 R3 U3 => hretE e d news' _ h3 tk2 ⟨hr1, es, n, _, hr2, hr3, ta, rfl⟩ FG' U3 (R3.down FG'.keep)
end
section
theorem fresh_L2 : True := by
  w_top off
  trivial
local macro_rules | `(tactic| ktr_unf) => `(tactic| repeat' ((fail_if_success (with_reducible show wpAny _ _ (call (Value.ref 122) _) _ _ _)); (fail_if_success (with_reducible show wpAny _ _ (call (Value.ref 129) _) _ _ _)); (fail_if_success (with_reducible show wpAny _ _ (call (Value.ref 89) _) _ _ _)); walk_at "st comp"; walk_at "st one"))
local macro_rules | `(tactic| walk_at "call ref") => `(tactic| (k_here; (with_reducible show wpAny _ _ (call (Value.ref 103) [Value.ref _]) _ _ _); k_dflt (refine' pen_go ?_); intros; (try dsimp only); (try k_fold)))
local macro_rules | `(tactic| walk_at "call ref") => `(tactic| (k_here; (with_reducible show wpAny _ _ (call (Value.ref 122) [Value.ref _]) _ _ _); k_dflt (refine' pieces_go ?_); intros; (try dsimp only); (try k_fold)))
local macro_rules | `(tactic| walk_at "call ref") => `(tactic| (k_here; (with_reducible show wpAny _ _ (call (Value.ref 75) [Value.bytes _ _]) _ _ _); k_dflt (refine' run_encoded_go ?_); intros; (try dsimp only); (try k_fold)))
local macro_rules | `(tactic| walk_at "call ref") => `(tactic| (k_here; (with_reducible show wpAny _ _ (call (Value.ref 141) [Value.ref _]) _ _ _); k_dflt (refine' shaped_go ?_); intros; (try dsimp only); (try k_fold)))
local macro_rules | `(tactic| walk_at "call ref") => `(tactic| (k_here; (with_reducible show wpAny _ _ (call (Value.ref 89) [Value.bytes _ _]) _ _ _); k_dflt (refine' decoded_go ?_); intros; (try dsimp only); (try k_fold)))
local macro_rules | `(tactic| walk_at "compareOp NotEq bytes bytes") => `(tactic| (k_here; k_dflt (refine' my_bne ?a ?b ?_; (case a | b => assumption))))
local macro_rules | `(tactic| walk_at "storeName") => `(tactic| (k_here; k_dflt (refine' my_storeC ?F (Pick.news ?S ?N) ?hc ?hd ?h2 ?_ ?hk ?hl; (case hl | hk => rfl); (case F => k_asm); (case N => k_asm); (case hc => rfl); (case S => tb_start); (case hd => k_asm); (case h2 => k_all); k_whole); intro h' o' F' N' d'; (try k_sweep)))
local macro_rules | `(tactic| walk_at "subscriptTail") => `(tactic| (k_here; (with_reducible show wpAny _ _ (subscriptTail _ _ (Value.ref _) (Value.int _ _)) _ _ _); (with_unfolding_all refine' my_tupitem ?k1 ?k2 ?k3 ?k4 ?k5 ?_ ?k6; (case k1 => k_asm); (case k2 => k_mem); (case k3 => omega); (case k4 => (simp only [List.length_cons, List.length_nil]; omega)); (case k5 => exact Nat.le_of_ble_eq_true rfl); (case k6 => with_unfolding_all rfl); k_whole); intro v9 hv9))
local macro_rules | `(tactic| walk_at "eval ListComp") => `(tactic| (k_here; k_dflt (refine PyProof.Rows.LCg.ListComp_U (F₀ := by k_asm) (by with_unfolding_all rfl) (by decide) (by rfl) (by decide) (by rfl) ?_)))
local macro_rules | `(tactic| walk_at "compareOp NotEq ref ref") => `(tactic| (k_here; k_dflt (refine' my_tne ?N ?a ?b (by decide +kernel) ?u ?_; (case N => k_asm); (case a => k_mem); (case b => k_mem); (case u => ke_room))))
local macro_rules | `(tactic| walk_at "call ref") => `(tactic| (k_here; (with_reducible show wpAny _ _ (call (Value.ref 148) [Value.bytes _ _]) _ _ _); k_dflt (refine' Cal.use (read_call _ _ _ _ _ _ _ ?hks ?hb ?hp) ?B ?F ?X ?N ?T ?hk ?hd ?hu ?_; (case B | F | X | N | T => k_asm); (case hk => first | exact rfl | assumption); (case hd => ktr_room); (case hu => ktr_units); (case hks | hp => assumption); (case hb => omega)); intro v' w' h' tk' hR F' N'))
structure PenSt where
  sp : Nat
  lf : Int
  t1 : Tok
  t2 : Tok
  n : Nat
structure LwSt where
  sp : Nat
  lf : Int
  t1 : Tok
  t2 : Tok
  n : Nat
  o : Obj
  ex : Option (Addr × Obj)
def lamQ : Str := (Str.ofString "law" ++ ".<locals>.") ++ "<lambda>"
def ExOk (P : Addr) (i : Nat) : Option (Addr × Obj) → Prop
  | none => i = 0
  | some p => @LT.lt Nat _ P p.1 ∧ ∃ vs t, p.2.data = .fields vs ∧ vs[1]? = some (.str lamQ t)
set_option maxRecDepth 100000 in
set_option maxHeartbeats 8000000 in
theorem L2 : PySem.Challenge.rw_nn0191_01.Holds := by
  refine hd ?_
  k_go0
  (rename Fr _ _ _ _ => lF)
  replace lF : Fr _ _ _ (fun y => if y = Str.ofString "script" then some (Value.ref _) else none) := lF
  rename_i w0 s0 s1 mg0 mb0 hG hY fa0 o0 pm0 doc0 ho0 hg0 hX0 hV0 hT0 hB0 hTE hTW hcd0 ns0 hs00 hlay0 hL0 hr0 hl20 u1 u2 S0 u4 u5 hL1 ra0 wl0 r00 hI0 hr1 hc10 hc20 hD0 h10 tk10 oD oP0 dD dP0 hCA X1 T1 K1 N1 l0
  replace dD : oD.data = Data.cell none := dD
  clear hCA hD0 hcd0
  ktr_unf
  rename_i h11 tk11 F11 P C cvs cns cn _ _ _ tC _ hIc hlc hs0 hs1 hPC hAC _ _ oP _ _ dP
  have n0 : @LT.lt Nat _ C P := hPC
  clear dP0 N1 hL0 hr0 hl20 ra0 wl0 r00 hr1 hc20
  have n1 : @LT.lt Nat _ _ C := hAC.1
  have n2 : @LT.lt Nat _ _ C := hAC.2.1
  have n3 : @LT.lt Nat _ 150 C := hAC.2.2.1
  walk_at "call ref"
  ktr_unf
  walk_at "call ref"
  rename_i sa _ _ _ _ _ _ _ _ bo _ ks sp lf tA tB nP hks hkl hsp hlf _ _ _ _ _ _ bc _ cs hcs bs hfl hsh hcl hc1 hp1 hp2 hp3 _ _ _ _ _ _ _ _ _ _ _ _ bs2 _ _ ls2 _ _ hpx hBx hlx _
  have hsa : 0 ≤ sa ∧ sa < 1009 := ⟨hs0, hs1⟩
  have hPC2 : @Ne Nat P C := Nat.ne_of_gt n0
  obtain ⟨rfl, rfl⟩ := Prod.mk.inj (hpx.symm.trans hp1)
  have hic : KBa.In cs := fun k hk => KBw.ints_in (hcs ▸ hk)
  have jj := parse_in hp1 hic
  have j1 := jj.1
  have j2 := jj.2.1
  have j3 := jj.2.2.1
  have j4 := jj.2.2.2
  clear jj
  subst hfl
  have hcl2 : (cs.length : Int) ≤ ((flat bs2).length : Int) + (((flat bs2).length : Int) + 127).fdiv 128 + 1 := by
    rw [Int.fdiv_eq_ediv_of_nonneg _ (by decide)]; omega
  have hp3c := hp3 (flat bs2)
  have hp2c : parse (cs.take (clipAt cs.length (-1))) = (bs2, []) := by rw [cut_last hc1]; exact hp2
  iterate 190 (all_goals (first | ((fail_if_success (with_reducible show wpAny _ _ (pyIter _) _ _ _)); first | (k_unfold; try dsimp only) | (refine bare ?_; k_unfold; try dsimp only) | (walk1 <;> (try ((fail_if_success (with_reducible show wpAny _ _ (subscriptTail _ _ _ _) _ _ _)); dsimp only))) | (dsimp only; walk1)) | skip))
  rename_i IR lF lN _
  have lN : News _ _ _ ((P, listOf (penOf C sp lf sa tA tB tC).toArray nP) :: (s1.heap.objs.size + 1 + 1, oD) :: (150, tabObj #[]) :: (C, listOf cvs.toArray cn) :: [(s1.heap.objs.size + 1, oP)]) := fun p hp => lN p (by
    simp only [List.mem_cons, List.not_mem_nil, or_false] at hp
    rcases hp with rfl | rfl | rfl | rfl | rfl <;> simp)
  dsimp only at n1 n2
  refine' my_range (σ := LwSt) (rest := [(C, listOf cvs.toArray cn), (s1.heap.objs.size + 1, oP)]) (fun c => (P, listOf (penOf C c.sp c.lf sa c.t1 c.t2 tC).toArray c.n) :: (s1.heap.objs.size + 1 + 1, c.o) :: (150, tabObj (tabOf 136 22 c.ex)) :: exLed c.ex) (fun _ => []) [Str.ofString "turn"] [Str.ofString "turn"]
    (fun i c => c.sp ≤ 20 + 61 * i ∧ 0 ≤ c.lf ∧ (∃ v, c.o.data = .cell v) ∧ ExOk P i c.ex) (by rfl) IR (by decide +kernel) (by decide +kernel : Builtin.Range.rangeSize 0 3 1 = ((3 : Nat) : Int)) (fun _ => rfl) rfl lF lN
    ⟨⟨sp, lf, tA, tB, nP, oD, none⟩, trivial, by dsimp only [exLed, tabOf]; kcj_all, ?ap, by dsimp only; omega, hlf, ⟨_, dD⟩, rfl⟩ ?turn ?done
  case ap =>
    refine .of fun p hp q hq => ?_
    simp only [exLed, List.mem_cons, List.not_mem_nil, or_false] at hp hq
    rcases hp with rfl | rfl | rfl <;> rcases hq with rfl | rfl <;> (refine fun e => ?_; have e : @Eq Nat _ _ := e; omega)
  case done =>
    clear lF lN IR
    rintro ⟨sp2, lf2, u1, u2, n2, o2, ex⟩ u h tk _ _ F N
    dsimp only at F N
    replace F : Fr _ s1.heap.objs.size h _ := F
    replace N : News _ s1.heap.objs.size h _ := N
    iterate 20 (all_goals (first | (k_unfold; try dsimp only) | (refine bare ?_; k_unfold; try dsimp only) | (walk1 <;> (try ((fail_if_success (with_reducible show wpAny _ _ (subscriptTail _ _ _ _) _ _ _)); dsimp only))) | (dsimp only; walk1) | skip))
    refine goodW_bool F hg0 (raisesW_false ?_) ?_
    · wrow_none_raised
    · kc_post
  case turn =>
    clear lF lN IR
    rintro i t ⟨sp2, lf2, u1, u2, n2, o2, ex⟩ u h tk tl hin ⟨h1, h2, ⟨v2, h3⟩, h4⟩ hA hsub F N
    dsimp only at h1 h2 h3 h4 hA F N ⊢
    replace F : Fr _ s1.heap.objs.size h _ := F
    replace N : News _ s1.heap.objs.size h _ := N
    have a1 : ∀ p ∈ exLed ex ++ tl, p.1 ≠ P ∧ p.1 ≠ s1.heap.objs.size + 1 + 1 ∧ p.1 ≠ 150 := by
      intro p hp
      rcases List.mem_append.mp hp with hp | hp
      · cases ex with
        | none => cases hp
        | some q =>
          rw [List.mem_singleton.mp hp]
          have h5 : @LT.lt Nat _ P q.1 := h4.1
          refine ⟨fun e => ?_, fun e => ?_, fun e => ?_⟩ <;> (have e : @Eq Nat _ _ := e; omega)
      · exact ⟨hA.all _ (.head _) p hp, hA.all _ (.tail _ (.head _)) p hp, hA.all _ (.tail _ (.tail _ (.head _))) p hp⟩
    obtain ⟨tl2, htl⟩ : ∃ l, l = exLed ex ++ tl := ⟨_, rfl⟩
    replace N : News _ s1.heap.objs.size h ((P, listOf (penOf C sp2 lf2 sa u1 u2 tC).toArray n2) :: (C, listOf cvs.toArray cn) :: (s1.heap.objs.size + 1 + 1, o2) :: (150, tabObj (tabOf 136 22 ex)) :: (s1.heap.objs.size + 1, oP) :: tl2) := fun p hp => N p (by
      rw [htl] at hp
      rcases List.mem_cons.mp hp with rfl | hp
      · exact .head _
      · rcases List.mem_cons.mp hp with rfl | hp
        · exact List.mem_append.mpr (.inr (hsub _ (.head _)))
        · rcases List.mem_cons.mp hp with rfl | hp
          · exact .tail _ (.head _)
          · rcases List.mem_cons.mp hp with rfl | hp
            · exact .tail _ (.tail _ (.head _))
            · rcases List.mem_cons.mp hp with rfl | hp
              · exact List.mem_append.mpr (.inr (hsub _ (.tail _ (.head _))))
              · exact .tail _ (.tail _ (.tail _ hp)))
    rw [← htl] at a1
    have c1 : ∀ p ∈ tl2, p.1 ≠ P := fun p hp => (a1 p hp).1
    have c2 : ∀ p ∈ tl2, p.1 ≠ s1.heap.objs.size + 1 + 1 := fun p hp => (a1 p hp).2.1
    have c3 : ∀ p ∈ tl2, p.1 ≠ 150 := fun p hp => (a1 p hp).2.2
    (try k_fold)
    iterate 40 (all_goals (first | ((fail_if_success (with_reducible show PyProof.Rows.LCg.CompSrc _ _ _ _ _ _ _ _ _ _ _ _ _ _)); first | (k_unfold; try dsimp only) | (refine bare ?_; k_unfold; try dsimp only) | (walk1 <;> (try ((fail_if_success (with_reducible show wpAny _ _ (subscriptTail _ _ _ _) _ _ _)); dsimp only))) | (dsimp only; walk1)) | skip))
    rename_i d _ sp3 lf3 v1 v2 n3 e0 e1 hsp3 hlf3 _ _ _ _ _ _ IR F9 N9 _
    obtain ⟨k9, rfl⟩ := Int.eq_ofNat_of_zero_le e0
    refine LCg.CompSrc.range (n := k9) (by rfl) F9 N9 IR (by exact small_one (by omega) (by omega) (by omega) (by omega)) (rangeSize_nat _ _) (by rw [sizeLine_eq]; omega) fun g9 => ?_
    clear F9 N9 IR F N
    refine comp_st (σ := PenSt) (fun c => (P, listOf (penOf C c.sp c.lf sa c.t1 c.t2 tC).toArray c.n) :: (C, listOf cvs.toArray cn) :: (s1.heap.objs.size + 1 + 1, o2) :: (150, tabObj (tabOf 136 22 ex)) :: (s1.heap.objs.size + 1, oP) :: tl2)
      (fun j ys c => ∃ ks, IntsAre ys ks ∧ KBa.In ks ∧ ks.length = j ∧ c.sp ≤ sp3 + 2 * j ∧ 0 ≤ c.lf) ?fin ?step _ 0 [] ⟨sp3, lf3, v1, v2, n3⟩ (Nat.zero_add _) ⟨[], .nil, (fun _ h => by cases h), rfl, Nat.le_refl _, hlf3⟩
    case step =>
      rintro j ys ⟨sp4, lf4, w1, w2, n4⟩ vx I oI Cc oC D m₂ h tk E' hj ⟨ks, k1, k2, k3, k4, k5⟩ ⟨tx, rfl⟩ hns hm2 F N off hne
      dsimp only at k4 k5 F N off ⊢
      have qq : (@Ne Nat P I) ∧ (@Ne Nat P Cc) ∧ (@Ne Nat P D) := off.1
      have q1 := qq.1
      have q2 := qq.2.1
      have q3 := qq.2.2
      clear qq
      (try k_fold)
      iterate 56 (all_goals (first | ((fail_if_success (with_reducible show PyProof.Rows.LCg.CompEnd _ _ _ _ _ _ _ _ _ _ _ _ _ _)); first | (k_unfold; try dsimp only) | (refine bare ?_; k_unfold; try dsimp only) | (walk1 <;> (try ((fail_if_success (with_reducible show wpAny _ _ (subscriptTail _ _ _ _) _ _ _)); dsimp only))) | (dsimp only; walk1)) | skip))
      rename_i da ta sp5 lf5 y1 y2 n5 f0 f1 hsp5 hlf5 _ _ DT _ _ _ _ _ _ _ F8 db tb sp6 lf6 z1 z2 n6 g0 g1 hsp6 hlf6 N8 v9 hv9
      obtain ⟨x9, t9, rfl, x0, x1⟩ : ∃ x t, v9 = Value.int x t ∧ 0 ≤ x ∧ x < 256 := by
        have hv := List.mem_of_getElem? hv9
        simp only [List.mem_cons, List.not_mem_nil, or_false] at hv
        rcases hv with rfl | rfl | rfl | rfl | rfl | rfl | rfl | rfl | rfl <;> exact ⟨_, _, rfl, by omega, by omega⟩
      exact LCg.CompEnd.intro F8 N8 ((P, listOf (penOf C sp6 lf6 sa z1 z2 tC).toArray n6) :: (C, listOf cvs.toArray cn) :: (s1.heap.objs.size + 1 + 1, o2) :: (150, tabObj (tabOf 136 22 ex)) :: (s1.heap.objs.size + 1, oP) :: tl2) (by kcj_all) ⟨⟨q1, q2, q3⟩, off.2⟩ trivial ⟨⟨sp6, lf6, z1, z2, n6⟩, rfl, ks ++ [x9], IntsAre.append k1 (.cons _ _ .nil), (by
        intro k hk
        rcases List.mem_append.mp hk with hk | hk
        · exact k2 k hk
        · rw [List.mem_singleton.mp hk]; constructor <;> omega), by rw [List.length_append, k3]; rfl, by dsimp only; omega, hlf6⟩
    case fin =>
      rintro ys ⟨sp4, lf4, w1, w2, n4⟩ ⟨ks, k1, k2, k3, k4, k5⟩ D h tk F N o1
      dsimp only at k4 k5 F N o1 ⊢
      have hkl : ks.length < 31 := by omega
      have pp : (@Ne Nat P D) ∧ (@Ne Nat C D) ∧ (@Ne Nat (s1.heap.objs.size + 1 + 1) D) ∧ (@Ne Nat 150 D) ∧ (@Ne Nat (s1.heap.objs.size + 1) D) ∧ _ := o1
      have p1 := pp.1
      have p2 := pp.2.1
      have p3 := pp.2.2.1
      have p4 := pp.2.2.2.1
      have p5 := pp.2.2.2.2.1
      clear pp
      iterate 30 (all_goals (first | ((fail_if_success (with_reducible show wpAny _ _ (eval (Expr.Lambda _ _ _ _) _) _ _ _)); first | (k_unfold; try dsimp only) | (refine bare ?_; k_unfold; try dsimp only) | (walk1 <;> (try ((fail_if_success (with_reducible show wpAny _ _ (subscriptTail _ _ _ _) _ _ _)); dsimp only))) | (dsimp only; walk1)) | skip))
      rename_i h7 tD _ kIn _ h8 oD9 F9 N9 d9
      have hbk : KBw.bInts (byteArr ks) = ks := KBa.ints_make k2
      obtain ⟨bs9, ls9, hpp⟩ : ∃ bs ls, parse ks = (bs, ls) := ⟨_, _, rfl⟩
      have N9 : News _ _ h8 ((150, tabObj (tabOf 136 22 ex)) :: (s1.heap.objs.size + 1 + 1, oD9) :: (P, listOf (penOf C sp4 lf4 sa w1 w2 tC).toArray n4) :: (C, listOf cvs.toArray cn) :: (s1.heap.objs.size + 1, oP) :: tl2) := fun p hp => N9 p (by
        simp only [List.mem_cons] at hp ⊢
        rcases hp with rfl | rfl | rfl | rfl | rfl | hp
        · exact .inr (.inr (.inr (.inr (.inl rfl))))
        · exact .inl rfl
        · exact .inr (.inr (.inl rfl))
        · exact .inr (.inr (.inr (.inl rfl)))
        · exact .inr (.inr (.inr (.inr (.inr (.inl rfl)))))
        · exact .inr (.inr (.inr (.inr (.inr (.inr hp))))))
      k_dflt (refine' lam_eval F9 N9 ?T codeHd rfl rfl rfl (by k_all) ?hex rfl rfl ?_; (case T => k_asm))
      case hex =>
        intro q hq
        have hq2 : q ∈ tl2 := by rw [htl, hq]; exact List.mem_append.mpr (.inl (.head _))
        rw [hq] at h4
        exact ⟨.tail _ (.tail _ (.tail _ (.tail _ hq2))), h4.2⟩
      clear F9 N9
      rintro f c' oc vsL tL ctv h9 tk9 F9 N9 dL1 dL2 hor
      replace dL2 : vsL[1]? = some (.str lamQ tL) := dL2
      replace N9 : News _ _ h9 ((f, kla_obj "<lambda>" lamQ noArgs (lamBody _ _ _) lamScope [(Str.ofString "data", s1.heap.objs.size + 1 + 1)] _ c' ctv) :: _) := N9
      iterate 12 (all_goals (first | ((fail_if_success (with_reducible show wpAny _ _ (call (Value.ref 117) _) _ _ _)); first | (k_unfold; try dsimp only) | (refine bare ?_; k_unfold; try dsimp only) | (walk1 <;> (try ((fail_if_success (with_reducible show wpAny _ _ (subscriptTail _ _ _ _) _ _ _)); dsimp only))) | (dsimp only; walk1)) | skip))
      have htl2 : ∀ p ∈ tl, p ∈ tl2 := fun p hp => htl ▸ List.mem_append.mpr (.inr hp)
      have hPc : @LT.lt Nat _ P c' := by
        rcases hor with l | e
        · exact l (P, listOf (penOf C sp4 lf4 sa w1 w2 tC).toArray n4) (.tail _ (.tail _ (.head _)))
        · rw [e] at h4; exact h4.1
      have hcn : ∀ q ∈ tl, q.1 ≠ c' := by
        rcases hor with l | e
        · exact fun q hq => Nat.ne_of_lt (l q (.tail _ (.tail _ (.tail _ (.tail _ (.tail _ (htl2 q hq)))))))
        · exact fun q hq => hA.all (c', oc) (by rw [e]; exact .tail _ (.tail _ (.tail _ (.head _)))) q hq
      have hAp : Apart ((P, listOf (penOf C sp4 lf4 sa w1 w2 tC).toArray n4) :: (s1.heap.objs.size + 1 + 1, oD9) :: (150, tabObj (tabOf 136 22 (some (c', oc)))) :: exLed (some (c', oc))) tl :=
        ⟨hA.all (P, listOf (penOf C sp2 lf2 sa u1 u2 tC).toArray n2) (.head _), hA.all (s1.heap.objs.size + 1 + 1, o2) (.tail _ (.head _)), hA.all (150, tabObj (tabOf 136 22 ex)) (.tail _ (.tail _ (.head _))), hcn, trivial⟩
      have hsub2 : ∀ X, ∀ p ∈ ((P, listOf (penOf C sp4 lf4 sa w1 w2 tC).toArray n4) :: (s1.heap.objs.size + 1 + 1, oD9) :: (150, tabObj (tabOf 136 22 (some (c', oc)))) :: exLed (some (c', oc))) ++ tl, p ∈ X :: (c', oc) :: (150, tabObj (tabOf 136 22 (some (c', oc)))) :: (s1.heap.objs.size + 1 + 1, oD9) :: (P, listOf (penOf C sp4 lf4 sa w1 w2 tC).toArray n4) :: (C, listOf cvs.toArray cn) :: (s1.heap.objs.size + 1, oP) :: tl2 := by
        intro X p hp
        rcases List.mem_append.mp hp with hp | hp
        · simp only [exLed, List.mem_cons, List.not_mem_nil, or_false] at hp ⊢
          rcases hp with rfl | rfl | rfl | rfl
          · exact .inr (.inr (.inr (.inr (.inl rfl))))
          · exact .inr (.inr (.inr (.inl rfl)))
          · exact .inr (.inr (.inl rfl))
          · exact .inr (.inl rfl)
        · exact .tail _ (.tail _ (.tail _ (.tail _ (.tail _ (.tail _ (.tail _ (htl2 p hp)))))))
      k_dflt (refine' heard_call w0 f _ 10 400 (by decide) (by decide) _ _ _ _ (lam_callX w0 f c' (s1.heap.objs.size + 1 + 1) oc oD9 _ lamQ ctv _ vsL tL _ _ _ (byteArr ks) _ ks bs9 ls9 _ ?hf ?hc dL1 dL2 ?hD d9 hbk ?hb hpp) ?pv ?mem ?fn ?B ?F ?X ?N ?T ?hk ?hd ?hu ?ret ?retE; (case N => exact N9); (case F => k_asm); (case B => k_asm); (case X => k_asm); (case T => k_asm); (case hf => exact .head _); (case hc => exact .tail _ (.head _)); (case hD => exact .tail _ (.tail _ (.tail _ (.head _)))); (case mem => exact .head _); (case fn => exact ⟨_, _, _, _, rfl⟩); (case hk => exact rfl); (case hd => ktr_room); (case hu => ktr_units); (case hb => omega); (case pv => rintro _ ⟨ta, rfl⟩; rfl))
      · clear F9 N9
        rintro v h10 tk10 ⟨q1, b8, t8, rfl, hb8⟩ F9 N9
        iterate 20 (all_goals (first | ((fail_if_success (with_reducible show wpAny _ _ (compareOp _ _ _) _ _ _)); first | (k_unfold; try dsimp only) | (refine bare ?_; k_unfold; try dsimp only) | (walk1 <;> (try ((fail_if_success (with_reducible show wpAny _ _ (subscriptTail _ _ _ _) _ _ _)); dsimp only))) | (dsimp only; walk1)) | skip))
        rename_i v' w' h' tk' hR F' N'
        rcases hR with ⟨_, rfl, b2, t2', rfl, hb2⟩ | ⟨q2, _⟩
        · clear F9 N9
          ktr_unf
          exact FEnd.intro ⟨sp4, lf4, w1, w2, n4, oD9, some (c', oc)⟩ F' N' (hsub2 _) trivial (by ktr_rel) hAp ⟨by dsimp only; omega, k5, ⟨_, d9⟩, hPc, vsL, tL, dL1, dL2⟩
        · exact absurd q1 q2
      · clear F9 N9
        rintro DT t8 v0 h10 tk10 q1 ⟨ta, rfl⟩ F9 N9 lt9
        iterate 20 (all_goals (first | ((fail_if_success (with_reducible show wpAny _ _ (compareOp _ _ _) _ _ _)); first | (k_unfold; try dsimp only) | (refine bare ?_; k_unfold; try dsimp only) | (walk1 <;> (try ((fail_if_success (with_reducible show wpAny _ _ (subscriptTail _ _ _ _) _ _ _)); dsimp only))) | (dsimp only; walk1)) | skip))
        rename_i v' w' h' tk' hR F' N'
        rcases hR with ⟨q2, _⟩ | ⟨_, T2, t2, t3, rfl, rfl, _⟩
        · exact absurd q2 q1
        · clear F9 N9
          ktr_unf
          exact FEnd.intro ⟨sp4, lf4, w1, w2, n4, oD9, some (c', oc)⟩ F' N' (fun p hp => .tail _ (.tail _ (hsub2 _ p hp))) trivial (by ktr_rel) hAp ⟨by dsimp only; omega, k5, ⟨_, d9⟩, hPc, vsL, tL, dL1, dL2⟩
end
end
end
end
end
end
end Mine
theorem PySem.Challenge.cw_nn0191_01_holds : PySem.Challenge.rw_nn0191_01.Holds := by
  exact Mine.L2
