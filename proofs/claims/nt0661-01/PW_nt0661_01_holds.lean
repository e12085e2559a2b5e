import PyProof.Rows.All
import Wide.All
import OpenK.AllK
import Wide.FinOn
import Lean
import PySem.Challenge.RW_nt0661_01
open PySem PySem.W PyProof.Rows
set_option Elab.async false
set_option maxRecDepth 100000
set_option maxHeartbeats 8000000
namespace Mine
open_top hd for PySem.Challenge.rw_nt0661_01
section
/-- the same tree, with less around it -/
theorem weaken {α : Type} {M : Model} {A A' : Around} {t : Sem α} {Q : α → Shared → Prop} {E : Value → Shared → Prop} {s : Shared} (h : wpAny M A t Q E s)
    (h1 : A'.handled = A.handled) (h3 : A'.frames = A.frames) (h4 : A'.guards = A.guards) (h2 : A'.depth ≤ A.depth) (h5 : A'.units ≤ A.units) : wpAny M A' t Q E s :=
  fun Γ p hΓ => h Γ p ⟨hΓ.1.trans h1, Nat.le_trans hΓ.2.1 h2, fun l hl => hΓ.2.2.1 l (h3.trans hl), fun g hg => hΓ.2.2.2.1 g (h4.trans hg), Nat.le_trans hΓ.2.2.2.2 h5⟩

abbrev lv (d u : Nat) (cn : Str) (cs : Scope) (L a : Addr) (ccd : Value) (cl : List (Str × Addr)) (outer : List Env) : Around :=
  { handled := none, depth := d, frames := some (envX cn cs L a ccd cl :: outer), guards := some [], units := u }

structure Gl where
  p : Program
  loose : List Str
  mean : ExcName → Option Value
  mg : Str → Option Value
  mb : Str → Option Value

structure Cx (w : World) (G : Gl) (A₀ : Around) (base h₀ : Heap) (outer : List Env) (L : Addr) (m : Str → Option Value) (news : List (Addr × Obj)) (h : Heap) : Prop where
  B : Below A₀ base outer h₀
  F : Fr h₀ L h m
  X : (Mine.hd.heap_39 w.params).In h₀
  N : News h₀ L h news
  T : Top G.p G.loose G.mean G.mg G.mb h₀

theorem updF_news {d : Addr} {o : Obj} {news : List (Addr × Obj)} {g : Obj → List (Addr × Obj)} (U : UpdF d o news g) :
    ∃ R, (∀ p ∈ R, p.1 ≠ d) ∧ (∀ p ∈ news, p ∈ (d, o) :: R) ∧ (∀ p ∈ R, p ∈ news) ∧ (∀ o', ∀ p ∈ g o', p ∈ (d, o') :: R) ∧ (d, o) ∈ news := by
  obtain ⟨pre, post, e, hg, h1, h2⟩ := U.split
  refine ⟨pre ++ post, fun p hp => ?_, fun p hp => ?_, fun p hp => ?_, fun o' p hp => ?_, ?_⟩
  · rcases List.mem_append.mp hp with h | h
    · exact h1 p h
    · exact h2 p h
  · rw [e] at hp; simp only [List.mem_append, List.mem_cons] at hp ⊢; grind
  · rw [e]; simp only [List.mem_append, List.mem_cons] at hp ⊢; grind
  · rw [hg] at hp; simp only [List.mem_append, List.mem_cons] at hp ⊢; grind
  · rw [e]; simp

abbrev boxOf (a : Int) (t1 : Tok) (n : Int) (t2 : Tok) (e : Nat) : Obj := listOf #[.int a t1, .int n t2] e
/-- the numbers that the box may hold -/
def BoxOk (a n : Int) : Prop := 0 ≤ a ∧ a < 2 ^ 400 ∧ 0 ≤ n
theorem map1 {m : Str → Option Value} {x : Str} {v : Value} (h : m x = some v) : m = fun y => if y = x then some v else m y := by
  funext y
  by_cases e : y = x
  · rw [if_pos e, e, h]
  · rw [if_neg e]
theorem map2 {m : Str → Option Value} {x x2 : Str} {v v2 : Value} (h : m x = some v) (h2 : m x2 = some v2) : m = fun y => if y = x then some v else if y = x2 then some v2 else m y := by
  funext y
  by_cases e : y = x
  · rw [if_pos e, e, h]
  · rw [if_neg e]; exact congrFun (map1 h2) y
theorem map3 {m : Str → Option Value} {x x2 x3 : Str} {v v2 v3 : Value} (h : m x = some v) (h2 : m x2 = some v2) (h3 : m x3 = some v3) : m = fun y => if y = x then some v else if y = x2 then some v2 else if y = x3 then some v3 else m y := by
  funext y
  by_cases e : y = x
  · rw [if_pos e, e, h]
  · rw [if_neg e]; exact congrFun (map2 h2 h3) y
theorem map4 {m : Str → Option Value} {x x2 x3 x4 : Str} {v v2 v3 v4 : Value} (h : m x = some v) (h2 : m x2 = some v2) (h3 : m x3 = some v3) (h4 : m x4 = some v4) : m = fun y => if y = x then some v else if y = x2 then some v2 else if y = x3 then some v3 else if y = x4 then some v4 else m y := by
  funext y
  by_cases e : y = x
  · rw [if_pos e, e, h]
  · rw [if_neg e]; exact congrFun (map3 h2 h3 h4) y
theorem map5 {m : Str → Option Value} {x x2 x3 x4 x5 : Str} {v v2 v3 v4 v5 : Value} (h : m x = some v) (h2 : m x2 = some v2) (h3 : m x3 = some v3) (h4 : m x4 = some v4) (h5 : m x5 = some v5) : m = fun y => if y = x then some v else if y = x2 then some v2 else if y = x3 then some v3 else if y = x4 then some v4 else if y = x5 then some v5 else m y := by
  funext y
  by_cases e : y = x
  · rw [if_pos e, e, h]
  · rw [if_neg e]; exact congrFun (map4 h2 h3 h4 h5) y
theorem of_allLt {d : Addr} {l : List (Addr × Obj)} : AllLt d l → ∀ p ∈ l, p.1 < d := by
  induction l with
  | nil => intro _ p hp; cases hp
  | cons q r ih =>
    intro h p hp
    rcases List.mem_cons.mp hp with rfl | hp
    · exact h.1
    · exact ih h.2 p hp
theorem news_out {d L : Addr} {o' : Obj} {h₀ h : Heap} {R tl : List (Addr × Obj)} {g : Obj → List (Addr × Obj)} (hout : ∀ o', ∀ p ∈ g o', p ∈ (d, o') :: R) (N : News h₀ L h (tl ++ (d, o') :: R)) : News h₀ L h (tl ++ g o') := fun p hp => N p (by
  rcases List.mem_append.mp hp with hp | hp
  · exact List.mem_append_left _ hp
  · exact List.mem_append_right _ (hout _ p hp))
theorem fresh_one {d D : Addr} {o oD : Obj} {news R : List (Addr × Obj)} (hin : ∀ p ∈ news, p ∈ (d, o) :: R) (l : d < D ∧ AllLt D R) : ∀ p ∈ [(D, oD)], ∀ q ∈ news, q.1 < p.1 := fun p hp q hq => by
  rw [List.mem_singleton.mp hp]
  rcases List.mem_cons.mp (hin q hq) with rfl | hq
  · exact l.1
  · exact of_allLt l.2 q hq
/-- an entry may be changed, and things may be laid behind it -/
inductive UpdT (d : Addr) (o : Obj) : List (Addr × Obj) → (Obj → List (Addr × Obj) → List (Addr × Obj)) → Prop
  | head {r} : (∀ p ∈ r, p.1 ≠ d) → UpdT d o ((d, o) :: r) (fun o' tl => (d, o') :: (tl ++ r))
  | tail {p r g} : p.1 ≠ d → UpdT d o r g → UpdT d o (p :: r) (fun o' tl => p :: g o' tl)
theorem updT_news {d : Addr} {o : Obj} {news : List (Addr × Obj)} {g : Obj → List (Addr × Obj) → List (Addr × Obj)} (U : UpdT d o news g) :
    ∃ R, (∀ p ∈ R, p.1 ≠ d) ∧ (∀ p ∈ news, p ∈ (d, o) :: R) ∧ (∀ p ∈ R, p ∈ news) ∧ (∀ o' tl, ∀ p ∈ g o' tl, p ∈ tl ++ (d, o') :: R) ∧ (d, o) ∈ news := by
  induction U with
  | @head r h => exact ⟨r, h, fun _ x => x, fun _ x => .tail _ x, fun o' tl p hp => by simp only [List.mem_append, List.mem_cons] at hp ⊢; grind, .head _⟩
  | @tail p r g hp _ ih =>
    obtain ⟨R, h1, h2, h3, h4, h5⟩ := ih
    refine ⟨p :: R, fun q hq => ?_, fun q hq => ?_, fun q hq => ?_, fun o' tl q hq => ?_, .tail _ h5⟩
    · rcases List.mem_cons.mp hq with rfl | hq
      · exact hp
      · exact h1 q hq
    · have := h2 q
      simp only [List.mem_cons] at hq this ⊢; grind
    · have := h3 q
      simp only [List.mem_cons] at hq this ⊢; grind
    · have := h4 o' tl q
      simp only [List.mem_cons, List.mem_append] at hq this ⊢; grind
/-- younger than all of these -/
def Fresh (tl news : List (Addr × Obj)) : Prop := ∀ p ∈ tl, ∀ q ∈ news, q.1 < p.1
theorem Fresh.ne {tl news : List (Addr × Obj)} {d : Addr} {o : Obj} (h : Fresh tl news) (hm : (d, o) ∈ news) : ∀ p ∈ tl, p.1 ≠ d := fun p hp => Nat.ne_of_gt (h p hp _ hm)
theorem all_app {tl r : List (Addr × Obj)} {P : Addr × Obj → Prop} (h : ∀ p ∈ tl, P p) (h' : ∀ p ∈ r, P p) : ∀ p ∈ tl ++ r, P p := fun p hp => (List.mem_append.mp hp).elim (h p) (h' p)
theorem ne_of_allLt {d : Addr} {l : List (Addr × Obj)} (h : AllLt d l) : ∀ p ∈ l, p.1 ≠ d := fun p hp => Nat.ne_of_lt (of_allLt h p hp)
theorem ne_of_above {d : Addr} {l : List (Addr × Obj)} (h : ∀ p ∈ l, d < p.1) : ∀ p ∈ l, p.1 ≠ d := fun p hp => Nat.ne_of_gt (h p hp)
theorem news_outT {d L : Addr} {o' : Obj} {h₀ h : Heap} {R tl : List (Addr × Obj)} {g : Obj → List (Addr × Obj) → List (Addr × Obj)} (hout : ∀ o' tl, ∀ p ∈ g o' tl, p ∈ tl ++ (d, o') :: R) (N : News h₀ L h (tl ++ (d, o') :: R)) : News h₀ L h (g o' tl) := fun p hp => N p (hout _ _ p hp)
theorem news_drop2 {h₀ h : Heap} {L : Addr} {a d : Addr × Obj} {r : List (Addr × Obj)} (N : News h₀ L h (a :: d :: r)) : News h₀ L h (a :: r) := fun p hp => N p (by
  rcases List.mem_cons.mp hp with rfl | hp
  · exact .head _
  · exact .tail _ (.tail _ hp))
theorem news_rot8 {h₀ h : Heap} {L : Addr} {d t i k p I v b : Addr × Obj} {r : List (Addr × Obj)} (N : News h₀ L h (d :: t :: i :: k :: p :: I :: v :: b :: r)) : News h₀ L h (i :: k :: p :: I :: v :: b :: d :: r) := fun q hq => N q (by
  simp only [List.mem_cons] at hq ⊢; grind)
theorem news_shuffle {h₀ h : Heap} {L : Addr} {d k p I v b : Addr × Obj} {t1 t2 t3 t4 r : List (Addr × Obj)} (N : News h₀ L h (d :: k :: p :: I :: v :: b :: (t1 ++ (t2 ++ (t3 ++ (t4 ++ r)))))) : News h₀ L h (I :: v :: b :: ((d :: p :: (t1 ++ (t2 ++ (t3 ++ t4)))) ++ r)) := fun q hq => N q (by
  simp only [List.mem_cons, List.mem_append, List.cons_append] at hq ⊢; grind)
theorem news_back {h₀ h : Heap} {L : Addr} {v b : Addr × Obj} {t r : List (Addr × Obj)} (N : News h₀ L h (v :: b :: (t ++ r))) : News h₀ L h ((v :: t) ++ b :: r) := fun q hq => N q (by
  simp only [List.mem_cons, List.mem_append, List.cons_append] at hq ⊢; grind)
theorem sub_cons {q : Addr × Obj} {R r : List (Addr × Obj)} (h : ∀ p ∈ R, p ∈ r) : ∀ p ∈ R, p ∈ q :: r := fun p hp => .tail _ (h p hp)
theorem sub_app {R t r : List (Addr × Obj)} (h : ∀ p ∈ R, p ∈ r) : ∀ p ∈ R, p ∈ t ++ r := fun p hp => List.mem_append_right _ (h p hp)
end
section
section
variable {prog : Program} {w : World} {A : Around} {E : Value → Shared → Prop} {s : Shared} {env : Env} {h₀ : Heap} {target : Expr} {body : List Stmt} {Q : Flow → Shared → Prop}

/-- a loop's turns, under a name that no line of the library knows -/
def Turns (prog : Program) (w : World) (A : Around) (h₀ : Heap) (env : Env) (target : Expr) (body : List Stmt) (Q : Flow → Shared → Prop) (E : Value → Shared → Prop) (it : Value) (s₂ : Shared) : Prop :=
  TurnsAt prog w A h₀ env target body Q E it s₂

theorem For_mine {iter : Expr} {pos : Pos} {m : Str → Option Value} (F : Fr h₀ env.locals s.heap m)
    (h : wpAny (model prog w) A (eval iter env) (fun xv s₁ => wpAny (model prog w) A (pyIter xv) (fun it s₂ => Turns prog w A h₀ env target body Q E it s₂) E s₁) E s)
    (hs : ∀ x, foldedSetIterable iter env x = pure x := by intro _; rfl)
    (hE : PassesOwn (model prog w) A env E := by passes_own) :
    wpAny (model prog w) A (exec (.For target iter body [] pos) env) Q E s := For_turns F h hs hE

def LEnd (h₀ : Heap) (L : Addr) (I : Addr) (oI : Obj) (J : (Str → Option Value) → List (Addr × Obj) → Prop) (s s₂ : Shared) : Prop :=
  ∃ h' tk m' nx, s₂ = { s with heap := h', toks := tk } ∧ Fr h₀ L h' m' ∧ News h₀ L h' ((I, oI) :: nx) ∧ (∀ p ∈ nx, p.1 ≠ I) ∧ J m' nx
theorem LEnd.intro {h₀ : Heap} {L : Addr} {I : Addr} {oI : Obj} {J : (Str → Option Value) → List (Addr × Obj) → Prop} {s : Shared} {h' : Heap} {tk : Nat} {m' : Str → Option Value} {nx : List (Addr × Obj)}
    (F : Fr h₀ L h' m') (N : News h₀ L h' ((I, oI) :: nx)) (hI : ∀ p ∈ nx, p.1 ≠ I) (hJ : J m' nx) : LEnd h₀ L I oI J s { s with heap := h', toks := tk } := ⟨h', tk, m', nx, rfl, F, N, hI, hJ⟩
def LPost (h₀ : Heap) (L : Addr) (I : Addr) (oI : Obj) (J : (Str → Option Value) → List (Addr × Obj) → Prop) (s : Shared) (Q : Flow → Shared → Prop) (f : Flow) (s₂ : Shared) : Prop :=
  match f with
  | .ret v => Q (.ret v) s₂
  | .brk => Q .next s₂
  | _ => LEnd h₀ L I oI J s s₂

theorem turns_core {I : Addr} {fp : List Addr} {n : Nat} {P Md : Nat → Value → Heap → Prop} {St : Nat → Heap → Prop} {m₀ : Str → Option Value} {news : List (Addr × Obj)}
    (W : KTurns prog w A target I fp [I] n P Md St) (J : Nat → (Str → Option Value) → List (Addr × Obj) → Prop)
    (hLf : env.locals ∉ fp) (hI0 : h₀.get? I = none) (hst : St 0 s.heap) (hSt : ∀ i h, St i h → ∃ o, h.get? I = some o) (F : Fr h₀ env.locals s.heap m₀) (N : News h₀ env.locals s.heap news) (hnI : ∀ p ∈ news, p.1 ≠ I)
    (keep : List (Addr × Obj)) (hfp : ∀ b ∈ fp, b = I ∨ (∃ o, h₀.get? b = some o) ∨ ∃ o, (b, o) ∈ keep) (hkeep : ∀ i m nx, J i m nx → ∀ p ∈ keep, p ∈ nx) (hj : J 0 m₀ news)
    (turn : ∀ i v m₁ nx h tk oI, i < n → P i v h → J i m₁ nx → (∀ p ∈ nx, p.1 ≠ I) → Fr h₀ env.locals h m₁ → News h₀ env.locals h ((I, oI) :: nx) →
      wpAny (model prog w) A (assign target env v) (fun _ s₃ => wpAny (model prog w) A (execs body env) (LPost h₀ env.locals I oI (J (i + 1)) { s with heap := h, toks := tk } Q) E s₃) E { s with heap := h, toks := tk })
    (done : ∀ m₁ nx h tk, J n m₁ nx → Fr h₀ env.locals h m₁ → News h₀ env.locals h nx → Q .next { s with heap := h, toks := tk }) :
    Turns prog w A h₀ env target body Q E (.ref I) s := by
  have hIfp : I ∈ fp := W.sub I (List.mem_singleton.mpr rfl)
  refine ⟨I, fp, [I], n, P, Md, St, m₀, news, J, rfl, W, hLf, fun b hb => List.mem_singleton.mp hb ▸ hI0, fun p hp hb => hnI p hp (List.mem_singleton.mp hb), hst, F, N, hj, ?_, ?_⟩
  · intro i v m₁ nx h₁ tk₁ own hi hP hJ hoff hown hget hmem hst₁ F₁ N₁
    obtain ⟨oI, hoI⟩ := hSt _ _ hst₁
    have hIo : (I, oI) ∈ own := hmem I hIfp hI0 oI hoI
    have hnx : ∀ p ∈ nx, p.1 ≠ I := fun p hp e => hoff p hp (List.mem_singleton.mpr e)
    have N₂ : News h₀ env.locals h₁ ((I, oI) :: nx) := fun p hp => by
      rcases List.mem_cons.mp hp with rfl | hp
      · exact N₁ _ (List.mem_append_left _ hIo)
      · exact N₁ _ (List.mem_append_right _ hp)
    have fin : ∀ s₂, LEnd h₀ env.locals I oI (J (i + 1)) { s with heap := h₁, toks := tk₁ } s₂ → LoopStepU h₀ env.locals [I] own (J (i + 1)) { s with heap := h₁, toks := tk₁ } .next s₂ := by
      rintro s₂ ⟨h', tk, m', nx', e, F', N', hI', hJ'⟩
      refine ⟨rfl, h', tk, m', nx', e, F', fun p hp => ?_, fun p hp hb => hI' p hp (List.mem_singleton.mp hb), hJ'⟩
      rcases List.mem_append.mp hp with hp | hp
      · rcases hfp p.1 (hown p hp) with e | ⟨o, ho⟩ | ⟨o, ho⟩
        · have : p = (I, oI) := by
            have h2 := hget p hp
            rw [e, hoI] at h2
            exact Prod.ext e (Option.some.inj h2).symm
          rw [this]; exact N' _ (.head _)
        · have := (N₁ p (List.mem_append_left _ hp)).2.2
          rw [ho] at this; cases this
        · have h2 := hget p hp
          have h3 := (N₁ _ (List.mem_append_right _ (hkeep _ _ _ hJ _ ho))).1
          have h4 : p = (p.1, o) := by
            rw [h2] at h3; exact Prod.ext rfl (Option.some.inj h3)
          rw [h4]; exact N' _ (.tail _ (hkeep _ _ _ hJ' _ ho))
      · exact N' _ (.tail _ hp)
    refine wpAny_mono (turn i v m₁ nx h₁ tk₁ oI hi hP hJ hnx F₁ N₂) (fun _ s₃ h₃ => wpAny_mono h₃ (fun f s₄ p => ?_) fun _ _ e => e) fun _ _ e => e
    cases f with
    | ret v => exact .ret p
    | brk => exact .brk p
    | next => exact .next (fin _ p)
    | cont => exact .cont (fin _ p)
  · intro h' tk m' nx F' N' _ hJ
    exact done m' nx h' tk hJ F' N'

/-- over a list of the ledger -/
theorem iter_list {l : Addr} {vs : List Value} {nn : Nat} {m₀ : Str → Option Value} {news : List (Addr × Obj)} (J : Nat → (Str → Option Value) → List (Addr × Obj) → Prop)
    (hh : A.handled = none) (hm : (l, listOf vs.toArray nn) ∈ news) (F : Fr h₀ env.locals s.heap m₀) (N : News h₀ env.locals s.heap news) (hkeep : ∀ i m nx, J i m nx → (l, listOf vs.toArray nn) ∈ nx) (hj : J 0 m₀ news)
    (turn : ∀ i v m₁ nx h tk I oI, (∀ p ∈ news, p.1 < I) → vs[i]? = some v → J i m₁ nx → (∀ p ∈ nx, p.1 ≠ I) → Fr h₀ env.locals h m₁ → News h₀ env.locals h ((I, oI) :: nx) →
      wpAny (model prog w) A (assign target env v) (fun _ s₃ => wpAny (model prog w) A (execs body env) (LPost h₀ env.locals I oI (J (i + 1)) { s with heap := h, toks := tk } Q) E s₃) E { s with heap := h, toks := tk })
    (done : ∀ m₁ nx h tk, J vs.length m₁ nx → Fr h₀ env.locals h m₁ → News h₀ env.locals h nx → Q .next { s with heap := h, toks := tk }) :
    wpAny (model prog w) A (pyIter (.ref l)) (fun it s₂ => Turns prog w A h₀ env target body Q E it s₂) E s := by
  have hax := N _ hm
  have hl : s.heap.IsList l vs.toArray := ⟨_, hax.1, rfl, nn, rfl⟩
  have hne : l ≠ s.heap.objs.size := Nat.ne_of_lt (Heap.lt_size hax.1)
  refine wpAny_pyIter_list hl ?_
  have W := KTurns.ofWalks (target := target) (Walks.list (prog := prog) (w := w) hh s.heap.objs.size l hne vs.toArray) fun i v s Q E st q => letGo_listiter st.1 q
  rw [List.size_toArray] at W
  refine turns_core W J ?_ (next_is_new F) ⟨⟨_, Heap.get?_push_size _ rfl, rfl, rfl⟩, hl.at fun o e => Heap.get?_push_of_some _ e⟩ (fun i h st => ?_) (F.push _) (fun p hp => ⟨Heap.get?_push_of_some _ (N p hp).1, (N p hp).2⟩)
    (fun p hp e => absurd (Heap.lt_size (N p hp).1) (e ▸ Nat.lt_irrefl _)) [(l, listOf vs.toArray nn)] (fun b hb => ?_) (fun i m nx hJ p hp => by rw [List.mem_singleton.mp hp]; exact hkeep i m nx hJ) hj ?_ ?_
  · intro hI
    rcases List.mem_cons.mp hI with e | hI
    · exact absurd F.ns.lt (e ▸ Nat.lt_irrefl _)
    · exact hax.2.1 (List.mem_singleton.mp hI).symm
  · obtain ⟨it, hit, _⟩ := st.1
    exact ⟨it, hit⟩
  · rcases List.mem_cons.mp hb with e | hb
    · exact .inl e
    · rw [List.mem_singleton.mp hb]; exact .inr (.inr ⟨_, List.mem_singleton.mpr rfl⟩)
  · intro i v m₁ nx h tk oI hi hP hJ hnx F₁ N₁
    exact turn i v m₁ nx h tk _ oI (fun p hp => Heap.lt_size (N p hp).1) (by have hP' : vs.toArray[i]? = some v := hP; simpa using hP') hJ hnx F₁ N₁
  · intro m₁ nx h tk hJ F₁ N₁
    exact done m₁ nx h tk hJ F₁ N₁

/-- over a range -/
theorem iter_range {r : Addr} {a₀ b₀ : Int} {t₀ u₀ v₀ : Tok} {n : Nat} {m₀ : Str → Option Value} {news : List (Addr × Obj)} (J : Nat → (Str → Option Value) → List (Addr × Obj) → Prop)
    (hh : A.handled = none) (hr : IsRange s.heap r a₀ b₀ 1 t₀ u₀ v₀) (hsmall : Builtin.Range.small a₀ b₀ 1 = true) (hn : Builtin.Range.rangeSize a₀ b₀ 1 = (n : Int)) (F : Fr h₀ env.locals s.heap m₀) (N : News h₀ env.locals s.heap news) (hj : J 0 m₀ news)
    (hgo : ∀ it v, letOwnedTupleGo target it v = pure ())
    (turn : ∀ (i : Nat) t m₁ nx h tk I oI, (∀ p ∈ news, p.1 < I) → i < n → J i m₁ nx → (∀ p ∈ nx, p.1 ≠ I) → Fr h₀ env.locals h m₁ → News h₀ env.locals h ((I, oI) :: nx) →
      wpAny (model prog w) A (assign target env (.int (a₀ + (i : Int)) t)) (fun _ s₃ => wpAny (model prog w) A (execs body env) (LPost h₀ env.locals I oI (J (i + 1)) { s with heap := h, toks := tk } Q) E s₃) E { s with heap := h, toks := tk })
    (done : ∀ m₁ nx h tk, J n m₁ nx → Fr h₀ env.locals h m₁ → News h₀ env.locals h nx → Q .next { s with heap := h, toks := tk }) :
    wpAny (model prog w) A (pyIter (.ref r)) (fun it s₂ => Turns prog w A h₀ env target body Q E it s₂) E s := by
  refine wpAny_pyIter_range hr hsmall ?_
  have W := KTurns.ofWalks (target := target) (Walks.range (prog := prog) (w := w) hh s.heap.objs.size a₀ 1 n) fun i v s Q E st q => by rw [hgo]; exact wpAny_pure q
  refine turns_core W J ?_ (next_is_new F) (by show IsRangeIter _ _ _ _ _; rw [hn]; simpa using Heap.get?_push_size _ rfl) (fun i h st => ⟨_, st⟩) (F.push _) (fun p hp => ⟨Heap.get?_push_of_some _ (N p hp).1, (N p hp).2⟩)
    (fun p hp e => absurd (Heap.lt_size (N p hp).1) (e ▸ Nat.lt_irrefl _)) [] (fun b hb => .inl (List.mem_singleton.mp hb)) (fun i m nx hJ p hp => nomatch hp) hj ?_ ?_
  · intro hI
    exact absurd F.ns.lt ((List.mem_singleton.mp hI) ▸ Nat.lt_irrefl _)
  · intro i v m₁ nx h tk oI hi hP hJ hnx F₁ N₁
    obtain ⟨t, rfl⟩ := hP
    have := turn i t m₁ nx h tk _ oI (fun p hp => Heap.lt_size (N p hp).1) hi hJ hnx F₁ N₁
    simpa using this
  · intro m₁ nx h tk hJ F₁ N₁
    exact done m₁ nx h tk hJ F₁ N₁
end
end
section
/-- what stands for a value: nothing, a function, another value -/
inductive Hd where
  | none
  | fn (k : Int)
  | to (i : Int)
inductive HdIn (R : List (Addr × Obj)) : Value → Hd → Prop where
  | none : HdIn R .none .none
  | fn {a : Addr} {t1 : Tok} {k : Int} {t2 : Tok} {n : Nat} : 0 ≤ k → k < 3 → (a, ({ cls := .type "tuple", data := .seq #[.str "function" t1, .int k t2] n } : Obj)) ∈ R → HdIn R (.ref a) (.fn k)
  | to {i : Int} {t : Tok} : 0 ≤ i → i < 5 → HdIn R (.int i t) (.to i)
theorem HdIn.mono {R R' : List (Addr × Obj)} {v : Value} {d : Hd} (h : HdIn R v d) (hs : ∀ p ∈ R, p ∈ R') : HdIn R' v d := by
  cases h with
  | none => exact .none
  | fn h1 h2 hm => exact .fn h1 h2 (hs _ hm)
  | to h1 h2 => exact .to h1 h2
/-- the three keys -/
inductive Ky where | x | one | y
  deriving DecidableEq
/-- the three things -/
inductive Th where | fal | five | v
  deriving DecidableEq
inductive KyIs : Value → Ky → Prop where
  | x {t : Tok} : KyIs (.bytes #[120] t) .x
  | one {t : Tok} : KyIs (.int 1 t) .one
  | y {t : Tok} : KyIs (.bytes #[121] t) .y
inductive ThIs : Value → Th → Prop where
  | fal : ThIs (.bool false) .fal
  | five {t : Tok} : ThIs (.int 5 t) .five
  | v {t : Tok} : ThIs (.bytes #[118] t) .v
theorem keyIs_get {t1 t2 t3 : Tok} {i : Nat} {v : Value} (h : ([.bytes #[120] t1, .int 1 t2, .bytes #[121] t3] : List Value)[i]? = some v) : ∃ k, KyIs v k := by
  match i, h with
  | 0, h => exact ⟨.x, (Option.some.inj h) ▸ .x⟩
  | 1, h => exact ⟨.one, (Option.some.inj h) ▸ .one⟩
  | 2, h => exact ⟨.y, (Option.some.inj h) ▸ .y⟩
  | (n + 3), h => simp at h
abbrev tupOf (its : Array Value) (n : Nat) : Obj := { cls := .type "tuple", data := .seq its n }
inductive PrIn (R : List (Addr × Obj)) : Value → Ky × Th → Prop where
  | mk {a : Addr} {n : Nat} {kv tv : Value} {k : Ky} {t : Th} : (a, tupOf #[kv, tv] n) ∈ R → KyIs kv k → ThIs tv t → PrIn R (.ref a) (k, t)
/-- two lists, item by item -/
inductive All2 {α β : Type} (P : α → β → Prop) : List α → List β → Prop where
  | nil : All2 P [] []
  | cons {a : α} {b : β} {as : List α} {bs : List β} : P a b → All2 P as bs → All2 P (a :: as) (b :: bs)
theorem All2.mono {α β : Type} {P P' : α → β → Prop} {as : List α} {bs : List β} (h : All2 P as bs) (hp : ∀ a b, P a b → P' a b) : All2 P' as bs := by
  induction h with
  | nil => exact .nil
  | cons h1 _ ih => exact .cons (hp _ _ h1) ih
theorem All2.length {α β : Type} {P : α → β → Prop} {as : List α} {bs : List β} (h : All2 P as bs) : as.length = bs.length := by
  induction h with
  | nil => rfl
  | cons _ _ ih => simp [ih]
theorem All2.snoc {α β : Type} {P : α → β → Prop} {as : List α} {bs : List β} (h : All2 P as bs) {a : α} {b : β} (hp : P a b) : All2 P (as ++ [a]) (bs ++ [b]) := by
  induction h with
  | nil => exact .cons hp .nil
  | cons h1 _ ih => exact .cons h1 ih
theorem All2.get {α β : Type} {P : α → β → Prop} {as : List α} {bs : List β} (h : All2 P as bs) : ∀ {i : Nat} {a : α}, as[i]? = some a → ∃ b, bs[i]? = some b ∧ P a b := by
  induction h with
  | nil => intro i a e; simp at e
  | cons h1 _ ih =>
    intro i a e
    cases i with
    | zero => simp at e; subst e; exact ⟨_, rfl, h1⟩
    | succ i => simpa using ih (by simpa using e)
theorem All2.get2 {α β : Type} {P : α → β → Prop} {as : List α} {bs : List β} (h : All2 P as bs) : ∀ {i : Nat} {b : β}, bs[i]? = some b → ∃ a, as[i]? = some a ∧ P a b := by
  induction h with
  | nil => intro i a e; simp at e
  | cons h1 _ ih =>
    intro i a e
    cases i with
    | zero => simp at e; subst e; exact ⟨_, rfl, h1⟩
    | succ i => simpa using ih (by simpa using e)
/-- one value -/
structure Vl where
  has : Bool
  pairs : List (Ky × Th)
  rd : Hd
  wr : Hd
inductive VlIn (R : List (Addr × Obj)) : Value → Vl → Prop where
  | mk {a p : Addr} {n n2 : Nat} {b : Bool} {ps : List Value} {rv wv : Value} {prs : List (Ky × Th)} {rd wr : Hd} :
    (a, tupOf #[.bool b, .ref p, rv, wv] n) ∈ R → (p, listOf ps.toArray n2) ∈ R → All2 (PrIn R) ps prs → HdIn R rv rd → HdIn R wv wr → VlIn R (.ref a) ⟨b, prs, rd, wr⟩
theorem PrIn.mono {R R' : List (Addr × Obj)} {v : Value} {d : Ky × Th} (h : PrIn R v d) (hs : ∀ p ∈ R, p ∈ R') : PrIn R' v d := by
  cases h with
  | mk h1 h2 h3 => exact .mk (hs _ h1) h2 h3
theorem VlIn.mono {R R' : List (Addr × Obj)} {v : Value} {d : Vl} (h : VlIn R v d) (hs : ∀ p ∈ R, p ∈ R') : VlIn R' v d := by
  cases h with
  | mk h1 h2 h3 h4 h5 => exact .mk (hs _ h1) (hs _ h2) (h3.mono fun _ _ x => x.mono hs) (h4.mono hs) (h5.mono hs)
/-- the five values, a list at l -/
def VsIn (R : List (Addr × Obj)) (l : Addr) (D : List Vl) : Prop := ∃ vs n, (l, listOf vs.toArray n) ∈ R ∧ All2 (VlIn R) vs D ∧ D.length = 5
theorem VsIn.mono {R R' : List (Addr × Obj)} {l : Addr} {D : List Vl} (h : VsIn R l D) (hs : ∀ p ∈ R, p ∈ R') : VsIn R' l D := by
  obtain ⟨vs, n, h1, h2, h3⟩ := h
  exact ⟨vs, n, hs _ h1, h2.mono fun _ _ x => x.mono hs, h3⟩
section
variable {prog : Program} {w : World} {A : Around} {E : Value → Shared → Prop} {s : Shared} {h₀ : Heap} {L : Addr} {news : List (Addr × Obj)} {Q : Value → Shared → Prop} {value slice : PySem.Expr}
theorem item_led {l : Addr} {its : Array Value} {n : Nat} {k : Int} {u : Tok} {v : Value} (N : News h₀ L s.heap news) (hm : (l, listOf its n) ∈ news) (h0 : 0 ≤ k) (h63 : k < 2 ^ 63) (hx : its[k.toNat]? = some v) (h : Q v s)
    (hs : subscripted slice false (.ref l) (.int k u) = operate [.ref l, .int k u] (getItem (.ref l) (.int k u)) := by with_unfolding_all rfl) :
    wpAny (model prog w) A (subscriptTail value slice (.ref l) (.int k u)) Q E s :=
  have hl : s.heap.IsList l its := ⟨_, (N _ hm).1, rfl, n, rfl⟩
  tail_any hl.typeIs slot_list_getitem.lookup (wpAny_getItem_list hl h0 h63 hx h) hs
theorem item_tup {a : Addr} {its : Array Value} {n : Nat} {k : Int} {u : Tok} {v : Value} (N : News h₀ L s.heap news) (hm : (a, tupOf its n) ∈ news) (h0 : 0 ≤ k) (h63 : k < 2 ^ 63) (hx : its[k.toNat]? = some v) (h : Q v s)
    (hs : subscripted slice false (.ref a) (.int k u) = operate [.ref a, .int k u] (getItem (.ref a) (.int k u)) := by with_unfolding_all rfl) :
    wpAny (model prog w) A (subscriptTail value slice (.ref a) (.int k u)) Q E s := by
  have hlt : k.toNat < its.size := (Array.getElem?_eq_some_iff.mp hx).1
  refine item_tupleT (l := its.toList) (j := k.toNat) ?_ (by omega) h63 ?_ (by simpa using hx) h hs
  · have e : its.toList.toArray = its := by simp
    rw [e]; exact ⟨_, (N _ hm).1, rfl, n, rfl⟩
  · have hn : ¬ k < 0 := by omega
    have h2 : k < (its.toList.length : Int) := by simp; omega
    simp only [seqIndex?, if_neg hn]
    simp [h0, h2]; omega
theorem things_item {l : Addr} {k : Int} {u t1 t2 : Tok} {n : Nat} (N : News h₀ L s.heap news) (hm : (l, listOf #[.bool false, .int 5 t1, .bytes #[118] t2] n) ∈ news) (hk : 0 ≤ k ∧ k < 3) (h : ∀ v t, ThIs v t → Q v s)
    (hs : subscripted slice false (.ref l) (.int k u) = operate [.ref l, .int k u] (getItem (.ref l) (.int k u)) := by with_unfolding_all rfl) :
    wpAny (model prog w) A (subscriptTail value slice (.ref l) (.int k u)) Q E s := by
  have h3 : k = 0 ∨ k = 1 ∨ k = 2 := by omega
  rcases h3 with rfl | rfl | rfl
  · exact item_led N hm (by decide) (by decide) rfl (h _ _ .fal) hs
  · exact item_led N hm (by decide) (by decide) rfl (h _ _ .five) hs
  · exact item_led N hm (by decide) (by decide) rfl (h _ _ .v) hs
theorem unpack_tup {h₀ : Heap} {L : Addr} {m : Str → Option Value} {news : List (Addr × Obj)} {env : Env} {elts : List PySem.Expr} {k} {pos : Pos} {t : Addr} {items : Array Value} {n : Nat} {Q : Unit → Shared → Prop} (F : Fr h₀ L s.heap m) (N : News h₀ L s.heap news) (hm : (t, tupOf items n) ∈ news)
    (hh : A.handled = none) (hn : (assignEach elts env).length = items.size) (hstar : (assignEach elts env).findIdx? (·.1) = none)
    (h : ∀ h', Fr h₀ L h' m → News h₀ L h' news → wpAny (model prog w) A (assignInOrder ((assignEach elts env).map (·.2)) items.toList) Q E { s with heap := h' }) :
    wpAny (model prog w) A (assign (.Tuple elts k pos) env (.ref t)) Q E s := unpackN_ F N ⟨_, (N _ hm).1, rfl, _, rfl⟩ hh hn hstar h
end
end
section
section
variable {prog : Program} {w : World} {A : Around} {E : Value → Shared → Prop} {s : Shared} {Q : Value → Shared → Prop}
theorem slot_bytes_eq_refl : Slot "bytes" (cmpInfo .Eq).2.2 "bytes.__eq__" := PySem.W.FB.slot_bytes_eq
theorem sub_NoneType_bytes : isSubtype (.type "NoneType") (.type "bytes") = pure false := by rw [isSubtype_type]; kernel_rfl
theorem bytes_eq_other {T : String} {v : Value} (hT : ∀ s : Shared, s.TypeIs v T) (hs : isSubtype (.type T) (.type "bytes") = pure false) (b : Array UInt8) (t : Tok) : Gives (Builtin.«bytes.__eq__» ⟨[.bytes b t, v], []⟩) (.val Value.notImplemented) :=
  .of_wp fun M A E s Q h => by
    show wpAny M A (isInstance v (.type "bytes") >>= fun r => _) _ E s
    refine wpAny_bind (wpAny_isInstance (hT s) hs ?_)
    show wpAny M A (rule _ >>= fun _ => ret Value.notImplemented) _ E s
    exact wpAny_bind (wpAny_rule (wpAny_pure ⟨_, rfl, h⟩))
theorem int_eq_bytes (a : Int) (t : Tok) (b : Array UInt8) (u : Tok) : Gives (Builtin.«int.__eq__» ⟨[.int a t, .bytes b u], []⟩) (.val Value.notImplemented) :=
  .of_wp fun M A E s Q h => by obtain ⟨hp, g, d, tk, os⟩ := s; wp_walk; exact ⟨_, rfl, h⟩
theorem none_eq_bytes (b : Array UInt8) (u : Tok) : Gives (Builtin.«NoneType.__eq__» ⟨[.none, .bytes b u], []⟩) (.val Value.notImplemented) :=
  .of_wp fun M A E s Q h => by obtain ⟨hp, g, d, tk, os⟩ := s; wp_walk; exact ⟨_, rfl, h⟩
theorem eq_bytes_int {b : Array UInt8} {t : Tok} {a : Int} {u : Tok} (h : Q (.bool false) s) : wpAny (model prog w) A (compareOp .Eq (.bytes b t) (.int a u)) Q E s := by
  show wpAny _ A (richCompare .Eq _ _) Q E s
  exact EqNone.wpAny_richCompare_eq_decline (k := false) (fun s' => typeIs_bytes s' b t) (fun s' => typeIs_int s' a u) (by decide) F.sub_int_bytes PySem.W.FB.slot_bytes_eq F.slot_int_eq_refl rfl
    (call_gives PySem.W.FB.slot_bytes_eq (typeIs_bytes s b t) PySem.W.FB.entry_bytes_eq (PySem.W.FB.args_bytes_eq_2 _ _) (bytes_eq_other (fun s => typeIs_int s a u) F.sub_int_bytes b t)
      ⟨rfl, call_gives F.slot_int_eq_refl (typeIs_int s a u) F.entry_int_eq (F.args_int_eq_2 _ _) (int_eq_bytes a u b t) ⟨rfl, h⟩⟩)
theorem eq_int_bytes {b : Array UInt8} {t : Tok} {a : Int} {u : Tok} (h : Q (.bool false) s) : wpAny (model prog w) A (compareOp .Eq (.int a u) (.bytes b t)) Q E s := by
  show wpAny _ A (richCompare .Eq _ _) Q E s
  exact EqNone.wpAny_richCompare_eq_decline (k := false) (fun s' => typeIs_int s' a u) (fun s' => typeIs_bytes s' b t) (by decide) F.sub_bytes_int F.slot_int_eq slot_bytes_eq_refl rfl
    (call_gives F.slot_int_eq (typeIs_int s a u) F.entry_int_eq (F.args_int_eq_2 _ _) (int_eq_bytes a u b t)
      ⟨rfl, call_gives slot_bytes_eq_refl (typeIs_bytes s b t) PySem.W.FB.entry_bytes_eq (PySem.W.FB.args_bytes_eq_2 _ _) (bytes_eq_other (fun s => typeIs_int s a u) F.sub_int_bytes b t) ⟨rfl, h⟩⟩)
theorem eq_bytes_none {b : Array UInt8} {t : Tok} (h : Q (.bool false) s) : wpAny (model prog w) A (compareOp .Eq (.bytes b t) .none) Q E s := by
  show wpAny _ A (richCompare .Eq _ _) Q E s
  exact EqNone.wpAny_richCompare_eq_decline (k := false) (fun s' => typeIs_bytes s' b t) (fun _ => rfl) (by decide) sub_NoneType_bytes PySem.W.FB.slot_bytes_eq F.slot_NoneType_eq_refl rfl
    (call_gives PySem.W.FB.slot_bytes_eq (typeIs_bytes s b t) PySem.W.FB.entry_bytes_eq (PySem.W.FB.args_bytes_eq_2 _ _) (bytes_eq_other (T := "NoneType") (v := .none) (fun _ => rfl) sub_NoneType_bytes b t)
      ⟨rfl, call_gives F.slot_NoneType_eq_refl rfl F.entry_NoneType_eq (F.args_NoneType_eq_2 _ _) (none_eq_bytes b t) ⟨rfl, h⟩⟩)
/-- the key that is asked: none, or one of the three -/
inductive KqIs : Value → Option Ky → Prop where
  | none : KqIs .none .none
  | some {v : Value} {k : Ky} : KyIs v k → KqIs v (.some k)
theorem eq_key {v q : Value} {k : Ky} {kq : Option Ky} (hv : KyIs v k) (hq : KqIs q kq) (h : Q (.bool (decide (some k = kq))) s) : wpAny (model prog w) A (compareOp .Eq v q) Q E s := by
  cases hq with
  | none =>
    cases hv with
    | x => exact eq_bytes_none h
    | one => exact EqNone.eq_int_none h
    | y => exact eq_bytes_none h
  | some hq =>
    cases hv with
    | x =>
      cases hq with
      | x => exact eq_bytes h
      | one => exact eq_bytes_int h
      | y => exact eq_bytes h
    | one =>
      cases hq with
      | x => exact eq_int_bytes h
      | one => exact eq_int h
      | y => exact eq_int_bytes h
    | y =>
      cases hq with
      | x => exact eq_bytes h
      | one => exact eq_bytes_int h
      | y => exact eq_bytes h
end
end
section
section
variable {prog : Program} {w : World} {A : Around} {E : Value → Shared → Prop} {s : Shared} {env : Env} {h₀ : Heap} {test : PySem.Expr} {body : List Stmt} {Q : Flow → Shared → Prop}
def WEnd (h₀ : Heap) (L : Addr) (J : (Str → Option Value) → List (Addr × Obj) → Prop) (s s₂ : Shared) : Prop :=
  ∃ h' tk m' nx, s₂ = { s with heap := h', toks := tk } ∧ Fr h₀ L h' m' ∧ News h₀ L h' nx ∧ J m' nx
theorem WEnd.intro {h₀ : Heap} {L : Addr} {J : (Str → Option Value) → List (Addr × Obj) → Prop} {s : Shared} {h' : Heap} {tk : Nat} {m' : Str → Option Value} {nx : List (Addr × Obj)}
    (F : Fr h₀ L h' m') (N : News h₀ L h' nx) (hJ : J m' nx) : WEnd h₀ L J s { s with heap := h', toks := tk } := ⟨h', tk, m', nx, rfl, F, N, hJ⟩
def WPost (h₀ : Heap) (L : Addr) (J : (Str → Option Value) → List (Addr × Obj) → Prop) (s : Shared) (Q : Flow → Shared → Prop) (f : Flow) (s₂ : Shared) : Prop :=
  match f with
  | .ret v => Q (.ret v) s₂
  | .brk => Q .next s₂
  | _ => WEnd h₀ L J s s₂
def WBr (b : Bool) (P R : Prop) : Prop := (b = true → P) ∧ (b = false → R)
theorem WBr.yes {P R : Prop} (h : P) : WBr true P R := ⟨fun _ => h, fun e => nomatch e⟩
theorem WBr.no {P R : Prop} (h : R) : WBr false P R := ⟨fun e => (nomatch e), fun _ => h⟩
/-- a while by what holds between its turns and a number that every turn lowers -/
theorem while_mine {pos : Pos} {m₀ : Str → Option Value} {news : List (Addr × Obj)} {n : Nat} (J : Nat → (Str → Option Value) → List (Addr × Obj) → Prop)
    (F : Fr h₀ env.locals s.heap m₀) (N : News h₀ env.locals s.heap news) (hj : J n m₀ news)
    (turn : ∀ n m₁ nx h tk, J n m₁ nx → Fr h₀ env.locals h m₁ → News h₀ env.locals h nx →
      wpAny (model prog w) A (isTrue test env (eval test env)) (fun b s₂ => WBr b (wpAny (model prog w) A (execs body env) (WPost h₀ env.locals (fun m' nx' => ∃ n', n' < n ∧ J n' m' nx') { s with heap := h, toks := tk } Q) E s₂) (Q .next s₂)) E { s with heap := h, toks := tk })
    (hE : PassesOwn (model prog w) A env E := by passes_own) :
    wpAny (model prog w) A (exec (.While test body [] pos) env) Q E s := by
  refine whl_start 0 ?_
  have key : ∀ n k m₁ nx h tk, J n m₁ nx → Fr h₀ env.locals h m₁ → News h₀ env.locals h nx → WhlRest prog w A E env test body [] Q k { s with heap := h, toks := tk } := by
    intro n
    induction n using Nat.strongRecOn with
    | _ n ih =>
      intro k m₁ nx h tk hJ F₁ N₁
      show WhlRest prog w A E env test body [] Q (0 + 1) _
      refine whl_turn hE ?_
      refine wpAny_mono (turn n m₁ nx h tk hJ F₁ N₁) (fun b s₂ hb => ?_) fun _ _ e => e
      cases b with
      | true =>
        refine WhlIf.yes rfl (wpAny_mono (hb.1 rfl) (fun f s₃ hf => ?_) fun _ _ e => e)
        cases f with
        | ret v => exact hf
        | brk => exact hf
        | next => obtain ⟨h', tk', m', nx', rfl, F', N', n', hn, hJ'⟩ := hf; exact ih n' hn 0 m' nx' h' tk' hJ' F' N'
        | cont => obtain ⟨h', tk', m', nx', rfl, F', N', n', hn, hJ'⟩ := hf; exact ih n' hn 0 m' nx' h' tk' hJ' F' N'
      | false => exact WhlIf.no rfl (wpAny_pure (hb.2 rfl))
  exact key n 0 m₀ news s.heap s.toks hj F N
end
end
section
/-- what a value has at a key -/
def ownP : List (Ky × Th) → Option Ky → Option Th
  | [], _ => none
  | (k, t) :: r, kq => if some k = kq then some t else ownP r kq
inductive ThqIs : Value → Option Th → Prop where
  | none : ThqIs .none .none
  | some {v : Value} {t : Th} : ThIs v t → ThqIs v (.some t)
theorem thq_split {v : Value} {o : Option Th} (h : ThqIs v o) : (o = none ∧ v = .none) ∨ ∃ t, o = some t ∧ ThIs v t := by
  cases h with
  | none => exact .inl ⟨rfl, rfl⟩
  | some h => exact .inr ⟨_, rfl, h⟩
/-- what an answer bears -/
inductive Wh where
  | none
  | th (t : Th)
  | fn (k : Int)
  deriving DecidableEq
inductive WhIn (R : List (Addr × Obj)) : Value → Wh → Prop where
  | none : WhIn R .none .none
  | th {v : Value} {t : Th} : ThIs v t → WhIn R v (.th t)
  | fn {v : Value} {k : Int} : HdIn R v (.fn k) → WhIn R v (.fn k)
theorem WhIn.mono {R R' : List (Addr × Obj)} {v : Value} {d : Wh} (h : WhIn R v d) (hs : ∀ p ∈ R, p ∈ R') : WhIn R' v d := by
  cases h with
  | none => exact .none
  | th h => exact .th h
  | fn h => exact .fn (h.mono hs)
/-- an answer -/
structure Rs where
  code : Int
  what : Wh
  at' : Int
  deriving DecidableEq
/-- an answer that is a made thing -/
inductive RsOb (R : List (Addr × Obj)) : Obj → Rs → Prop where
  | mk {c i : Int} {t1 t2 : Tok} {v : Value} {x : Wh} {n : Nat} : WhIn R v x → RsOb R (tupOf #[.int c t1, v, .int i t2] n) ⟨c, x, i⟩
/-- what a value answers by itself, or that another stands for it -/
def endF (d : Vl) (i : Int) (kq : Option Ky) (rdg : Bool) : Option Rs :=
  if d.has && !rdg && decide (kq = none) then some ⟨5, .none, i⟩
  else match (if d.has then ownP d.pairs kq else none) with
    | some t => some (if rdg then ⟨0, .th t, i⟩ else ⟨4, .none, i⟩)
    | none => match (if rdg then d.rd else d.wr) with
      | .fn k => some ⟨1, .fn k, i⟩
      | .to _ => none
      | .none => some (if d.has then (if rdg then ⟨0, .none, i⟩ else ⟨4, .none, i⟩) else ⟨2, .none, i⟩)
section
variable {prog : Program} {w : World} {A : Around} {E : Value → Shared → Prop} {s : Shared} {Q : Value → Shared → Prop}
theorem is_none_key {q : Value} {kq : Option Ky} (hq : KqIs q kq) (h : Q (.bool (decide (kq = none))) s) : wpAny (model prog w) A (compareOp .Is q .none) Q E s := by
  cases hq with
  | none => exact wpAny_is_self rfl h
  | some hv => cases hv <;> exact wpAny_is_other (by rfl) (by intro x; cases x) h
theorem isnot_none_th {q : Value} {t : Option Th} (hq : ThqIs q t) (h : Q (.bool (decide (t ≠ none))) s) : wpAny (model prog w) A (compareOp .IsNot q .none) Q E s := by
  cases hq with
  | none => exact wpAny_isNot_self rfl h
  | some hv => cases hv <;> exact wpAny_isNot_other (by rfl) (by intro x; cases x) h
end
/-- what a chain ends with, within n turns -/
def runF (e : Int → Option Rs) (nx : Int → Int) : Nat → Int → Rs
  | 0, v => ⟨3, .none, v⟩
  | n + 1, v => match e v with
    | some r => r
    | none => runF e nx n (nx v)
/-- where a way of n steps ends -/
def orb (nx : Int → Int) (x : Int) : Nat → Int
  | 0 => x
  | j + 1 => nx (orb nx x j)
def wayL (nx : Int → Int) (x : Int) (k : Nat) : List Int := (List.range k).map (orb nx x)
theorem wayL_succ (nx : Int → Int) (x : Int) (k : Nat) : wayL nx x (k + 1) = wayL nx x k ++ [orb nx x k] := by
  simp [wayL, List.range_succ]
theorem wayL_length (nx : Int → Int) (x : Int) (k : Nat) : (wayL nx x k).length = k := by simp [wayL]
theorem wayL_get {nx : Int → Int} {x : Int} {k j : Nat} (h : j < k) : (wayL nx x k)[j]? = some (orb nx x j) := by
  simp [wayL, h]
section
variable {e : Int → Option Rs} {nx : Int → Int} {x : Int}
theorem runF_pre : ∀ {k n : Nat}, (∀ j < k, e (orb nx x j) = none) → runF e nx (k + n) x = runF e nx n (orb nx x k)
  | 0, n, _ => by rw [Nat.zero_add]; rfl
  | k + 1, n, h => by
    rw [show k + 1 + n = k + (n + 1) by omega, runF_pre (k := k) (n := n + 1) fun j hj => h j (by omega)]
    show (match e (orb nx x k) with | some r => r | none => runF e nx n (nx (orb nx x k))) = _
    rw [h k (by omega)]; rfl
theorem runF_end {n : Nat} (h : ∀ j < n, e (orb nx x j) = none) : runF e nx n x = ⟨3, .none, orb nx x n⟩ := by
  have := runF_pre (n := 0) h
  simpa [runF] using this
theorem runF_found {k n : Nat} {r : Rs} (h : ∀ j < k, e (orb nx x j) = none) (hr : e (orb nx x k) = some r) (hn : k + 1 ≤ n) : runF e nx n x = r := by
  obtain ⟨t, rfl⟩ : ∃ t, n = k + (t + 1) := ⟨n - k - 1, by omega⟩
  rw [runF_pre h]
  show (match e (orb nx x k) with | some r => r | none => _) = _
  rw [hr]
theorem orb_add (a : Nat) : ∀ b, orb nx x (a + b) = orb nx (orb nx x a) b
  | 0 => rfl
  | b + 1 => by
    show nx (orb nx x (a + b)) = nx (orb nx (orb nx x a) b)
    rw [orb_add a b]
theorem orb_ring {f p : Nat} (h : orb nx x (f + p) = orb nx x f) : ∀ q t : Nat, orb nx x (f + (t + p * q)) = orb nx x (f + t)
  | 0, t => by simp
  | q + 1, t => by
    rw [show f + (t + p * (q + 1)) = (f + p) + (t + p * q) by rw [Nat.mul_succ]; omega, orb_add, h, ← orb_add, orb_ring h q t]
theorem orb_mod {f p : Nat} (h : orb nx x (f + p) = orb nx x f) (t : Nat) : orb nx x (f + t) = orb nx x (f + t % p) := by
  have := orb_ring h (t / p) (t % p)
  rw [Nat.mod_add_div] at this
  exact this
theorem ring_none {f k : Nat} (hf : f < k) (h : orb nx x k = orb nx x f) (hn : ∀ j < k, e (orb nx x j) = none) (j : Nat) : e (orb nx x j) = none := by
  by_cases hj : j < k
  · exact hn j hj
  · have h' : orb nx x (f + (k - f)) = orb nx x f := by rw [show f + (k - f) = k by omega]; exact h
    have := orb_mod h' (j - f)
    rw [show f + (j - f) = j by omega] at this
    rw [this]
    have := Nat.mod_lt (j - f) (show 0 < k - f by omega)
    exact hn _ (by omega)
theorem runF_ring {f k n : Nat} (hf : f < k) (h : orb nx x k = orb nx x f) (hn : ∀ j < k, e (orb nx x j) = none) (hk : k ≤ n) : runF e nx n x = ⟨3, .none, orb nx x (f + (n - f) % (k - f))⟩ := by
  rw [runF_end fun j _ => ring_none hf h hn j]
  have h' : orb nx x (f + (k - f)) = orb nx x f := by rw [show f + (k - f) = k by omega]; exact h
  have := orb_mod h' (n - f)
  rw [show f + (n - f) = n by omega] at this
  rw [this]
end
/-- five places bear no six different ways -/
theorem nodup_le : ∀ (n : Nat) (l : List Int), l.Nodup → (∀ y ∈ l, 0 ≤ y ∧ y < (n : Int)) → l.length ≤ n
  | 0, l, _, h => by
    cases l with
    | nil => exact Nat.le_refl _
    | cons a r => have := h a (.head _); omega
  | n + 1, l, hd, h => by
    have h1 := nodup_le n (l.erase (n : Int)) (hd.erase _) fun y hy => by
      have h2 := (hd.mem_erase_iff).mp hy
      have h3 := h y h2.2
      have h4 := h2.1
      omega
    by_cases hm : (n : Int) ∈ l
    · rw [List.length_erase_of_mem hm] at h1; omega
    · rw [List.erase_of_not_mem hm] at h1; omega
/-- the five values' answers, and where they lead -/
def eD (D : List Vl) (kq : Option Ky) (rdg : Bool) (i : Int) : Option Rs := match D[i.toNat]? with
  | some d => endF d i kq rdg
  | none => none
def stD (D : List Vl) (rdg : Bool) (i : Int) : Hd := match D[i.toNat]? with
  | some d => if rdg then d.rd else d.wr
  | none => .none
def nxH : Hd → Int
  | .to j => j
  | _ => 0
def nxD (D : List Vl) (rdg : Bool) (i : Int) : Int := nxH (stD D rdg i)
theorem HdIn.nx {R : List (Addr × Obj)} {v : Value} {d : Hd} (h : HdIn R v d) : 0 ≤ nxH d ∧ nxH d < 5 := by
  cases h with
  | none => exact (by decide : (0 : Int) ≤ 0 ∧ (0 : Int) < 5)
  | fn _ _ _ => exact (by decide : (0 : Int) ≤ 0 ∧ (0 : Int) < 5)
  | to a b => exact ⟨a, b⟩
theorem VsIn.nx {R : List (Addr × Obj)} {l : Addr} {D : List Vl} (h : VsIn R l D) (rdg : Bool) (i : Int) : 0 ≤ nxD D rdg i ∧ nxD D rdg i < 5 := by
  obtain ⟨vs, n, hm, hA, hlen⟩ := h
  unfold nxD stD
  cases hd : D[i.toNat]? with
  | none => exact (by decide : (0 : Int) ≤ 0 ∧ (0 : Int) < 5)
  | some d =>
    obtain ⟨v, _, hv⟩ := hA.get2 hd
    cases hv with
    | mk _ _ _ h4 h5 =>
      cases rdg with
      | true => exact h4.nx
      | false => exact h5.nx
theorem VsIn.orb {R : List (Addr × Obj)} {l : Addr} {D : List Vl} (h : VsIn R l D) (rdg : Bool) {i : Int} (hi : 0 ≤ i ∧ i < 5) : ∀ j, 0 ≤ orb (nxD D rdg) i j ∧ orb (nxD D rdg) i j < 5
  | 0 => hi
  | _ + 1 => h.nx rdg _
end
section
/-- a code object of this qualified name -/
def CodeIn (q : Str) (c : Value) (M : List (Addr × Obj)) : Prop := ∃ c' oc vs t, c = .ref c' ∧ (c', oc) ∈ M ∧ oc.data = .fields vs ∧ vs[1]? = some (.str q t)
theorem CodeIn.mono {q : Str} {c : Value} {M M' : List (Addr × Obj)} (h : CodeIn q c M) (hs : ∀ p ∈ M, p ∈ M') : CodeIn q c M' := by
  obtain ⟨c', oc, vs, t, e, hm, a, b⟩ := h
  exact ⟨c', oc, vs, t, e, hs _ hm, a, b⟩
theorem CodeIn.code {q : Str} {c : Addr} {M news : List (Addr × Obj)} {h₀ h : Heap} {L : Addr} (hc : CodeIn q (.ref c) M) (hs : ∀ p ∈ M, p ∈ news) (N : News h₀ L h news) : h.CodeRec (.ref c) q := by
  obtain ⟨c', oc, vs, t, e, hm, a, b⟩ := hc
  cases e
  exact codeRec_news N (hs _ hm) a b
/-- a text's table of codes, every code of this qualified name -/
inductive TabOk (q : Str) (M : List (Addr × Obj)) : List Value → Prop where
  | nil : TabOk q M []
  | cons {a b : Int} {t u : Tok} {c : Value} {r : List Value} : CodeIn q c M → TabOk q M r → TabOk q M (.int a t :: .int b u :: c :: r)
theorem TabOk.mono {q : Str} {M M' : List (Addr × Obj)} {l : List Value} (h : TabOk q M l) (hs : ∀ p ∈ M, p ∈ M') : TabOk q M' l := by
  induction h with
  | nil => exact .nil
  | cons a _ ih => exact .cons (a.mono hs) ih
theorem TabOk.triples {q : Str} {M : List (Addr × Obj)} {l : List Value} (h : TabOk q M l) : TriplesOk l := by
  induction h with
  | nil => exact True.intro
  | cons _ _ ih => exact ih
theorem TabOk.found {q : Str} {M : List (Addr × Obj)} {l : List Value} (h : TabOk q M l) {pos : Pos} {c : Value} (e : codeAmong pos l = some c) : CodeIn q c M := by
  induction h with
  | nil => cases e
  | cons a _ ih =>
    simp only [codeAmong] at e
    split at e
    · rw [← Option.some.inj e]; exact a
    · exact ih e
theorem TabOk.snoc {q : Str} {M : List (Addr × Obj)} {l : List Value} (h : TabOk q M l) {a b : Int} {c : Value} (hc : CodeIn q c M) : TabOk q M (l ++ [rawInt a, rawInt b, c]) := by
  induction h with
  | nil => exact .cons hc .nil
  | cons x _ ih => exact .cons x ih
section
variable {M : Model} {A : Around} {E : Value → Shared → Prop} {s : Shared} {h₀ : Heap} {L a c P : Addr} {m mg mb : Str → Option Value} {cn : Str} {cs : Scope} {ccd : Value} {cl : List (Str × Addr)} {news K : List (Addr × Obj)} {g : Obj → List (Addr × Obj) → List (Addr × Obj)}
  {p : Program} {loose : List Str} {mean : ExcName → Option Value} {name qual : Str} {params : Arguments} {body : PySem.Expr} {scope : Scope} {ps : Array Value} {pos : Pos} {firstLine : Nat} {clos : List (Str × Addr)}
/-- a lambda: made anew, or of a code that stands in the table -/
theorem lam_any {Q : Value → Shared → Prop} (F : Fr h₀ L s.heap m) (N : News h₀ L s.heap news) (T : Top p loose mean mg mb h₀) (C : CodeHd h₀ c P) (hcd : ccd = .ref c) (U : UpdT P (tabObj ps) news g) (ht : TabOk qual K ps.toList)
    (hcl : closureFor scope (envX cn cs L a ccd cl) = pure clos)
    (h : ∀ f c' ctv ps' tl h' tk, Fr h₀ L h' m → News h₀ L h' (g (tabObj ps') ((f, kla_obj name qual params body scope clos ((mg "__name__").getD .none) c' ctv) :: tl)) →
      Fresh ((f, kla_obj name qual params body scope clos ((mg "__name__").getD .none) c' ctv) :: tl) news → TabOk qual (tl ++ K) ps'.toList → CodeIn qual (.ref c') (tl ++ K) → Q (.ref f) { s with heap := h', toks := tk }) :
    wpAny M A (makeFunction name qual params (.expr body) scope (envX cn cs L a ccd cl) [] [] [] pos firstLine) Q E s := by
  obtain ⟨R, hR, hin, hsub, hout, hmem⟩ := updT_news U
  cases hf : codeAmong pos ps.toList with
  | some cv =>
    obtain ⟨c', oc, vs, t, rfl, hcm, hd, hv⟩ := ht.found hf
    refine kla_hit F N T C hcd hmem ht.triples hf hcl fun f ctv h' tk F' N' l => ?_
    refine h f c' ctv ps [] h' tk F' (fun q hq => N' q ?_) (fun q hq => ?_) ht ⟨c', oc, vs, t, rfl, hcm, hd, hv⟩
    · rcases List.mem_cons.mp (hout _ _ q hq) with rfl | hq
      · exact .head _
      · rcases List.mem_cons.mp hq with rfl | hq
        · exact .tail _ hmem
        · exact .tail _ (hsub _ hq)
    · rw [List.mem_singleton.mp hq]; exact l
  | none =>
    have N1 : News h₀ L s.heap ((P, tabObj ps) :: R) := fun q hq => N q (by
      rcases List.mem_cons.mp hq with rfl | hq
      · exact hmem
      · exact hsub q hq)
    refine kla_nest F N1 T C hcd (UpdF.head hR) ht.triples hf hcl fun f c' oc vs t ctv h' tk F' N' hd hv l1 l2 => ?_
    have hc : CodeIn qual (.ref c') ([(c', oc)] ++ K) := ⟨c', oc, vs, t, rfl, .head _, hd, hv⟩
    refine h f c' ctv (ps ++ #[rawInt pos.line, rawInt pos.col, .ref c']) [(c', oc)] h' tk F' (fun q hq => N' q ?_) (fun q hq => ?_) ?_ hc
    · have := hout _ _ q hq
      simpa using this
    · have l1' : ∀ q ∈ news, q.1 < c' := fun q hq => l1 q (hin q hq)
      rcases List.mem_cons.mp hq with rfl | hq
      · exact fun q hq => Nat.lt_trans (l1' q hq) l2
      · rw [List.mem_singleton.mp hq]; exact l1'
    · rw [Array.toList_append]
      exact (ht.mono fun q hq => .tail _ hq).snoc hc
end
theorem updF_app {d : Addr} {o : Obj} {r : List (Addr × Obj)} {g : Obj → List (Addr × Obj)} (U : UpdF d o r g) : ∀ {tl : List (Addr × Obj)}, (∀ p ∈ tl, p.1 ≠ d) → UpdF d o (tl ++ r) (fun o' => tl ++ g o')
  | [], _ => U
  | _ :: _, h => UpdF.tail (h _ (.head _)) (updF_app U fun p hp => h p (.tail _ hp))
theorem updT_app {d : Addr} {o : Obj} {r : List (Addr × Obj)} {g : Obj → List (Addr × Obj) → List (Addr × Obj)} (U : UpdT d o r g) : ∀ {tl : List (Addr × Obj)}, (∀ p ∈ tl, p.1 ≠ d) → UpdT d o (tl ++ r) (fun o' t => tl ++ g o' t)
  | [], _ => U
  | _ :: _, h => UpdT.tail (h _ (.head _)) (updT_app U fun p hp => h p (.tail _ hp))
end
theorem fill_all (w : World) : (PySem.Challenge.rw_nt0661_01.row.prog = PySem.Challenge.rw_nt0661_01.row.prog) ∧ (Mine.hd.heap_39 w.params = Mine.hd.heap_39 w.params) := by
  k_fill
  exact ⟨rfl, rfl⟩
local macro_rules | `(tactic| k_all) => `(tactic| first | with_reducible assumption | (refine' List.forall_mem_cons.mpr ⟨?a, ?b⟩; (case a => k_ne); (case b => k_all)) | exact List.forall_mem_nil _ | (refine all_app ?_ ?_ <;> k_all) | exact Fresh.ne (by with_reducible assumption) (by k_mem) | (refine ne_of_allLt ?_; first | with_reducible assumption | exact And.right (by with_reducible assumption) | exact And.right (And.right (by with_reducible assumption)) | exact And.right (And.right (And.right (by with_reducible assumption))) | exact And.right (And.right (And.right (And.right (by with_reducible assumption)))) | exact And.right (And.right (And.right (And.right (And.right (by with_reducible assumption))))) | exact And.right (And.right (And.right (And.right (And.right (And.right (by with_reducible assumption))))))))
local macro_rules | `(tactic| k_mem) => `(tactic| first | exact List.Mem.head _ | (refine' List.mem_cons_of_mem _ ?_; k_mem) | with_reducible assumption | (refine' List.mem_append_right _ ?_; k_mem) | (refine' List.mem_append_left _ ?_; k_mem))
local macro_rules | `(tactic| walk_at "mine updT") => `(tactic| first | (refine' UpdT.head ?a; (case a => k_all)) | (refine' UpdT.tail ?a ?b; (case a => k_ne); (case b => walk_at "mine updT")) | (refine' updT_app ?b ?a; (case a => k_all); (case b => walk_at "mine updT")))
local macro_rules | `(tactic| k_updF) => `(tactic| first | (refine' UpdF.head ?a; (case a => k_all)) | (refine' UpdF.tail ?a ?b; (case a => k_ne); (case b => k_updF)) | (refine' updF_app ?b ?a; (case a => k_all); (case b => k_updF)))
local macro_rules | `(tactic| walk_at "mine cx") => `(tactic| exact ⟨by k_asm, by k_asm, by k_asm, by k_asm, by k_asm⟩)
local macro_rules | `(tactic| walk_at "mine for") => `(tactic| (k_here; (rename Fr _ _ _ _ => lF'); (with_unfolding_all refine' For_mine lF' ?_); k_whole))
local macro_rules | `(tactic| walk_at "exec For Name Subscript cons nil") => `(tactic| walk_at "mine for")
local macro_rules | `(tactic| walk_at "exec For Name Call cons nil") => `(tactic| walk_at "mine for")
local macro_rules | `(tactic| walk_at "exec For Name BinOp cons nil") => `(tactic| walk_at "mine for")
local macro_rules | `(tactic| walk_at "exec For Name Name cons nil") => `(tactic| walk_at "mine for")
local macro_rules | `(tactic| walk_at "exec For Tuple Subscript cons nil") => `(tactic| walk_at "mine for")
local macro_rules | `(tactic| walk_at "LPost ret") => `(tactic| (dsimp only [LPost]))
local macro_rules | `(tactic| walk_at "subscriptTail") => `(tactic| (k_here; (with_reducible show wpAny _ _ (subscriptTail _ _ (Value.ref _) (Value.int _ _)) _ _ _); k_dflt (first | (refine' item_led ?N ?m ?h0 ?h63 ?x ?_ ?s; (case N => k_asm); (case m => k_mem); (case h0 => first | decide | omega); (case h63 => first | decide | omega); (case x => first | with_reducible assumption | exact rfl); (case s => with_unfolding_all rfl); k_whole) | (refine' item_tup ?N ?m ?h0 ?h63 ?x ?_ ?s; (case N => k_asm); (case m => k_mem); (case h0 => first | decide | omega); (case h63 => first | decide | omega); (case x => exact rfl); (case s => with_unfolding_all rfl); k_whole))))
local macro_rules | `(tactic| walk_at "assign Tuple") => `(tactic| (k_here; (with_reducible show wpAny _ _ (assign (Expr.Tuple _ _ _) _ (Value.ref _)) _ _ _); k_dflt (refine' unpack_tup ?F ?N ?m ?k1 ?k2 ?k3 ?_; (case F => k_asm); (case N => k_asm); (case m => k_mem); (case k1 => exact rfl); (case k2 => exact rfl); (case k3 => exact rfl)); intro h' F' N'; (try k_sweep)))
local macro_rules | `(tactic| walk_at "mine sub") => `(tactic| first | with_reducible assumption | exact fun _ h => h | (refine' sub_cons ?_; walk_at "mine sub") | (refine' sub_app ?_; walk_at "mine sub"))
local macro_rules | `(tactic| walk_at "eval Lambda") => `(tactic| (k_here; k_dflt (refine' kla_eval ?d0 ?_; (case d0 => exact rfl)); k_dflt (refine' lam_any ?F ?N ?T ?C ?cd ?U ?t ?cl ?_; (case F => k_asm); (case N => k_asm); (case T => k_asm); (case cd => exact rfl); (case C => kn_code); (case U => walk_at "mine updT"); (case t => first | with_reducible assumption | (dsimp only [envOfC]; with_reducible assumption)); (case cl => exact rfl); k_whole); intro fL' cL' ctL' psL' tlL' h' tk' F' N' frL' tbL' cdL'; (try dsimp only [envOfC] at tbL' cdL'); (try simp only [List.cons_append, List.nil_append] at N')))
theorem off_02 : True := by
  w_top off
  trivial
section
variable {w : World} {G : Gl} {A₀ : Around} {base h₀ : Heap} {outer : List Env} {L : Addr} {m : Str → Option Value} {news : List (Addr × Obj)} {s : Shared} {cn : Str} {cs : Scope} {a : Addr} {ccd : Value} {cl : List (Str × Addr)} {Q E : Value → Shared → Prop}
theorem take_spec {b : Addr} {x n many : Int} {t1 t2 tm : Tok} {e : Nat} {g : Obj → List (Addr × Obj)}
    (C : Cx w G A₀ base h₀ outer L m news s.heap) (hk : cs.kind = .function) (U : UpdF b (boxOf x t1 n t2 e) news g) (ok : BoxOk x n) (hm : 1 ≤ many ∧ many ≤ 5)
    (h : ∀ (d x' : Int) (t t1' t2' : Tok) h' tk', Fr h₀ L h' m → News h₀ L h' (g (boxOf x' t1' (n + 1) t2' e)) → 0 ≤ d ∧ d < many → BoxOk x' (n + 1) → Q (.int d t) { s with heap := h', toks := tk' }) :
    wpAny (model PySem.Challenge.rw_nt0661_01.row.prog w) (lv 340 900 cn cs L a ccd cl outer) (call (.ref 49) [.ref b, .int many tm]) Q E s := by
  obtain ⟨B, F, X, N, T⟩ := C
  obtain ⟨R, hR, hin, hsub, hout, _⟩ := updF_news U
  have N1 : News h₀ L s.heap ((b, boxOf x t1 n t2 e) :: R) := fun p hp => N p (by
    rcases List.mem_cons.mp hp with rfl | hp
    · assumption
    · exact hsub p hp)
  clear N
  obtain ⟨o1, o2, o3⟩ := ok
  refine wpAny_call ?_
  k_dflt ktr_enter
  k_steps
  · (rename News h₀ _ _ _ => N9); (rename Fr h₀ _ _ _ => F9)
    have hx0 : 0 ≤ x.fmod many := Int.fmod_nonneg_of_pos _ (by omega)
    have hx1 : x.fmod many < many := Int.fmod_lt_of_pos _ (by omega)
    have hd0 : 0 ≤ x.fdiv many := Int.fdiv_nonneg o1 (by omega)
    have hd1 : x.fdiv many < 2 ^ 400 := Int.lt_of_le_of_lt (Int.fdiv_le_self _ o1) o2
    exact h (x.fmod many) (x.fdiv many) _ _ _ _ _ F9 (fun p hp => N9 p (hout _ p hp)) ⟨hx0, hx1⟩ ⟨hd0, hd1, by omega⟩
  · (rename News h₀ _ _ _ => N9); (rename Fr h₀ _ _ _ => F9)
    exact h (((n + 1) * 7 + (n + 1).fdiv 5).fmod many) x _ _ _ _ _ F9 (fun p hp => N9 p (hout _ p hp)) ⟨Int.fmod_nonneg_of_pos _ (by omega), Int.fmod_lt_of_pos _ (by omega)⟩ ⟨o1, o2, by omega⟩
end
local macro_rules | `(tactic| walk_at "call ref") => `(tactic| (k_here; (with_reducible show wpAny _ _ (call (Value.ref 49) _) _ _ _); k_dflt (refine' weaken (A := lv 340 900 _ _ _ _ _ _ _) (take_spec ?C ?k ?U ?ok ?m ?_) rfl rfl rfl ?d ?u; (case C => walk_at "mine cx"); (case k => exact rfl); (case U => k_updF); (case ok => assumption); (case m => decide); (case d => k_units); (case u => k_units)); intro dT' xT' tT' tT1' tT2' h' tk' F' N' hdT' okT'; (try dsimp only); (try k_sweep)))
theorem off_04 : True := by
  w_top off
  trivial
section
variable {w : World} {G : Gl} {A₀ : Around} {base h₀ : Heap} {outer : List Env} {L : Addr} {m : Str → Option Value} {news : List (Addr × Obj)} {s : Shared} {cn : Str} {cs : Scope} {a : Addr} {ccd : Value} {cl : List (Str × Addr)} {Q E : Value → Shared → Prop}
theorem pow_lt24 : ∀ j : Fin 25, (65536 : Int) ^ (j : Nat) < 2 ^ 400 := by decide +kernel
theorem whole_spec {l : Addr} {vs : List Value} {ns : List Int} (hl : base.IsList l vs.toArray) (hi : IntsAre vs ns) (hlen : ns.length ≤ 63)
    (C : Cx w G A₀ base h₀ outer L m news s.heap) (hk : cs.kind = .function)
    (h : ∀ (x : Int) (t : Tok) h' tk', Fr h₀ L h' m → News h₀ L h' news → 0 ≤ x → x < 2 ^ 400 → Q (.int x t) { s with heap := h', toks := tk' }) :
    wpAny (model PySem.Challenge.rw_nt0661_01.row.prog w) (lv 340 900 cn cs L a ccd cl outer) (call (.ref 56) [.ref l]) Q E s := by
  obtain ⟨B, F, X, N, T⟩ := C
  have hl0 : h₀.IsList l vs.toArray := stays_list B.stays hl
  refine wpAny_call ?_
  k_dflt cell_enter
  k_steps
  rename_i D1 ws1 h1 l1a hI1 hC1 hL1 D2 ws2 h2 F9 N9 hI2 hC2 l1b
  have hle : ws2.length ≤ 24 := by
    have e1 := hI2.length
    rw [e1, hC2, hC1]; exact Nat.min_le_left _ _
  refine iter_list (fun i m nx => nx = ((D2, listOf ws2.toArray 0) :: (D1, listOf ws1.toArray 0) :: news) ∧ ∃ (x : Int) (t : Tok), m (Str.ofString "total") = some (.int x t) ∧ 0 ≤ x ∧ x < 65536 ^ i) rfl (.head _) F9 N9
    (fun i m nx h => by rw [h.1]; exact .head _) ⟨rfl, 0, _, rfl, by decide, by decide⟩ ?_ ?_
  · rintro i v m₁ nx h3 tk3 I oI lI hv ⟨rfl, x, t, hx, x0, x1⟩ hnI F3 N3
    clear F9 N9 lI
    obtain ⟨k, t2, hk2, rfl⟩ : ∃ k t2, (List.take 24 ns).reverse[i]? = some k ∧ v = .int k t2 := by
      have hi9 : i < (List.take 24 ns).reverse.length := by
        rw [← hI2.length]; exact (List.getElem?_eq_some_iff.mp hv).1
      obtain ⟨t2, e2⟩ := hI2.get i _ (List.getElem?_eq_getElem hi9)
      rw [e2] at hv
      exact ⟨_, t2, List.getElem?_eq_getElem hi9, (Option.some.inj hv).symm⟩
    rw [map1 hx] at F3
    have hi9 : i < 24 := Nat.lt_of_lt_of_le (List.getElem?_eq_some_iff.mp hv).1 hle
    have x2 : x < 2 ^ 400 := Int.lt_trans x1 (pow_lt24 ⟨i, by omega⟩)
    try k_fold
    k_steps
    (rename News _ _ _ _ => N9); (rename Fr _ _ _ _ => F9)
    refine LEnd.intro F9 N9 hnI ⟨rfl, _, _, rfl, ?_, ?_⟩
    · have h0 := Int.fmod_nonneg_of_pos (if k < 0 then -k else k) (b := 65536) (by decide)
      exact Int.add_nonneg (Int.mul_nonneg x0 (by decide)) (Int.fmod_nonneg_of_pos _ (by decide))
    · have h1 : ∀ z : Int, z.fmod 65536 < 65536 := fun z => Int.fmod_lt_of_pos z (by decide)
      have h2 : ∀ z : Int, x * 65536 + z.fmod 65536 < 65536 ^ (i + 1) := fun z => by
        have h3 := h1 z
        rw [Int.pow_succ]
        omega
      exact h2 _
  · rintro m₁ nx h3 tk3 ⟨rfl, x, t, hx, x0, x1⟩ F3 N3
    clear F9 N9
    rw [map1 hx] at F3
    try k_fold
    k_steps
    (rename News h₀ _ _ _ => N9); (rename Fr h₀ _ _ _ => F9)
    exact h x _ _ _ F9 (fun p hp => N9 p (.tail _ (.tail _ hp))) x0 (Int.lt_trans x1 (pow_lt24 ⟨ws2.length, by omega⟩))
end
local macro_rules | `(tactic| walk_at "call ref") => `(tactic| (k_here; (with_reducible show wpAny _ _ (call (Value.ref 56) _) _ _ _); k_dflt (refine' weaken (A := lv 340 900 _ _ _ _ _ _ _) (whole_spec ?l ?i ?n ?C ?k ?_) rfl rfl rfl ?d ?u; (case l => assumption); (case i => assumption); (case n => omega); (case C => walk_at "mine cx"); (case k => exact rfl); (case d => k_units); (case u => k_units)); intro xW' tW' h' tk' F' N' hW0' hW1'; (try dsimp only); (try k_sweep)))
theorem off_05 : True := by
  w_top off
  trivial
section
variable {w : World} {G : Gl} {A₀ : Around} {base h₀ : Heap} {outer : List Env} {L : Addr} {m : Str → Option Value} {news : List (Addr × Obj)} {s : Shared} {cn : Str} {cs : Scope} {a : Addr} {ccd : Value} {cl : List (Str × Addr)} {Q E : Value → Shared → Prop}

theorem hand_spec {b : Addr} {x n : Int} {t1 t2 : Tok} {e : Nat} {g : Obj → List (Addr × Obj) → List (Addr × Obj)}
    (C : Cx w G A₀ base h₀ outer L m news s.heap) (hk : cs.kind = .function) (U : UpdT b (boxOf x t1 n t2 e) news g) (ok : BoxOk x n)
    (h : ∀ (v : Value) (d : Hd) (tl : List (Addr × Obj)) (x' n' : Int) (t1' t2' : Tok) h' tk', Fr h₀ L h' m → News h₀ L h' (g (boxOf x' t1' n' t2' e) tl) → Fresh tl news → HdIn tl v d → BoxOk x' n' → Q v { s with heap := h', toks := tk' }) :
    wpAny (model PySem.Challenge.rw_nt0661_01.row.prog w) (lv 330 800 cn cs L a ccd cl outer) (call (.ref 63) [.ref b]) Q E s := by
  obtain ⟨B, F, X, N, T⟩ := C
  obtain ⟨R, hR, hin, hsub, hout, hmem⟩ := updT_news U
  have N1 : News h₀ L s.heap ((b, boxOf x t1 n t2 e) :: R) := fun p hp => N p (by
    rcases List.mem_cons.mp hp with rfl | hp
    · assumption
    · exact hsub p hp)
  clear N
  refine wpAny_call ?_
  k_dflt cell_enter
  k_steps
  · (with_reducible rename News h₀ _ _ _ => N9); (with_reducible rename Fr h₀ _ _ _ => F9); (with_reducible rename BoxOk _ _ => ok9)
    exact h .none .none [] _ _ _ _ _ _ F9 (news_outT (tl := []) hout N9) (fun p hp => nomatch hp) .none ok9
  · (with_reducible rename News h₀ _ _ _ => N9); (with_reducible rename Fr h₀ _ _ _ => F9); (with_reducible rename BoxOk _ _ => ok9); (with_reducible rename _ < _ ∧ AllLt _ _ => l9); (with_reducible rename 0 ≤ _ ∧ _ < (3 : Int) => hd9)
    exact h _ (.fn _) [_] _ _ _ _ _ _ F9 (news_outT (tl := [_]) hout N9) (fresh_one hin l9) (.fn hd9.1 hd9.2 (.head _)) ok9
  · (with_reducible rename News h₀ _ _ _ => N9); (with_reducible rename Fr h₀ _ _ _ => F9); (with_reducible rename BoxOk _ _ => ok9); (with_reducible rename 0 ≤ _ ∧ _ < (5 : Int) => hd9)
    exact h _ (.to _) [] _ _ _ _ _ _ F9 (news_outT (tl := []) hout N9) (fun p hp => nomatch hp) (.to hd9.1 hd9.2) ok9
end
local macro_rules | `(tactic| walk_at "call ref") => `(tactic| (k_here; (with_reducible show wpAny _ _ (call (Value.ref 63) _) _ _ _); k_dflt (refine' weaken (A := lv 330 800 _ _ _ _ _ _ _) (hand_spec ?C ?k ?U ?ok ?_) rfl rfl rfl ?d ?u; (case C => walk_at "mine cx"); (case k => exact rfl); (case U => walk_at "mine updT"); (case ok => assumption); (case d => k_units); (case u => k_units)); intro vH' dH' tlH' xT' nT' tT1' tT2' h' tk' F' N' lH' hH' okT'; (try dsimp only); (try k_sweep)))
theorem off_07 : True := by
  w_top off
  trivial
section
variable {w : World} {G : Gl} {A₀ : Around} {base h₀ : Heap} {outer : List Env} {L : Addr} {m : Str → Option Value} {news : List (Addr × Obj)} {s : Shared} {cn : Str} {cs : Scope} {a : Addr} {ccd : Value} {cl : List (Str × Addr)} {Q E : Value → Shared → Prop}
local macro_rules | `(tactic| walk_at "subscriptTail Call Name nil nil Call ref int") => `(tactic| (k_here; k_dflt (refine' things_item ?N ?m ?k ?_ ?s; (case N => k_asm); (case m => k_mem); (case k => assumption); (case s => with_unfolding_all rfl); k_whole); intro vTh' tTh' hTh'))
local macro_rules | `(tactic| walk_at "subscriptTail Name Call ref int") => `(tactic| (k_here; k_dflt (refine' things_item ?N ?m ?k ?_ ?s; (case N => k_asm); (case m => k_mem); (case k => assumption); (case s => with_unfolding_all rfl); k_whole); intro vTh' tTh' hTh'))
theorem drawn_spec {b : Addr} {x n : Int} {t1 t2 : Tok} {e : Nat} {g : Obj → List (Addr × Obj) → List (Addr × Obj)}
    (C : Cx w G A₀ base h₀ outer L m news s.heap) (hk : cs.kind = .function) (U : UpdT b (boxOf x t1 n t2 e) news g) (ok : BoxOk x n)
    (h : ∀ (l : Addr) (D : List Vl) (tl : List (Addr × Obj)) (x' n' : Int) (t1' t2' : Tok) h' tk', Fr h₀ L h' m → News h₀ L h' (g (boxOf x' t1' n' t2' e) tl) → Fresh tl news → VsIn tl l D → BoxOk x' n' → Q (.ref l) { s with heap := h', toks := tk' }) :
    wpAny (model PySem.Challenge.rw_nt0661_01.row.prog w) (lv 320 700 cn cs L a ccd cl outer) (call (.ref 70) [.ref b]) Q E s := by
  obtain ⟨B, F, X, N, T⟩ := C
  obtain ⟨R, hR, hin, hsub, hout, hmem⟩ := updT_news U
  have N1 : News h₀ L s.heap ((b, boxOf x t1 n t2 e) :: R) := fun p hp => N p (by
    rcases List.mem_cons.mp hp with rfl | hp
    · assumption
    · exact hsub p hp)
  clear N
  refine wpAny_call ?_
  k_dflt cell_enter
  k_steps
  rename_i vl hA l1 hB FA NA hC tkC tr ur vr hr FB NB kp
  have hbv : @LT.lt Nat _ b vl := l1.1
  have hRv : ∀ p ∈ R, p.1 < vl := of_allLt l1.2
  refine iter_range (n := 5) (fun i m nx => ∃ (x n : Int) (t1 t2 : Tok) (vs : List Value) (D : List Vl) (tl : List (Addr × Obj)) (nn : Nat), nx = (vl, listOf vs.toArray nn) :: (b, boxOf x t1 n t2 e) :: (tl ++ R) ∧ m (Str.ofString "values") = some (.ref vl) ∧ m (Str.ofString "box") = some (.ref b) ∧ BoxOk x n ∧ All2 (VlIn tl) vs D ∧ D.length = i ∧ (∀ p ∈ tl, vl < p.1))
    rfl hr (by decide) (by decide) FB NB ⟨x, n, t1, t2, [], [], [], 0, rfl, rfl, rfl, ok, .nil, rfl, fun p hp => nomatch hp⟩ (by intro _ _; rfl) ?_ ?_
  · rintro i t m₁ nx h3 tk3 I oI lI hi ⟨x, n, t1, t2, vs, D, tl, nn, rfl, hmv, hmb, ok, hV, hD, htl⟩ hnI F3 N3
    have hvI : @LT.lt Nat _ vl I := lI _ (.head _)
    have hbI : @LT.lt Nat _ b I := Nat.lt_trans hbv hvI
    clear FA NA FB NB lI kp hr
    rw [map2 hmv hmb] at F3
    have hlb : ∀ p ∈ tl ++ R, p.1 ≠ b := all_app (fun p hp => Nat.ne_of_gt (Nat.lt_trans hbv (htl p hp))) hR
    have hlv : ∀ p ∈ tl ++ R, p.1 ≠ vl := all_app (ne_of_above htl) (fun p hp => Nat.ne_of_lt (hRv p hp))
    try k_fold
    k_steps
    rename_i dh xh th th1 th2 hx0 tkx0 hdh okh pl hx1 l9a D9 hx2 l9b hx3 hx4 hx5 lF9 Nx9 tkx gx Lx hx6 FGx Bx Xx Tx kl hx7 Fx Ny l9c kF9 kN9 Tc9 kX9
    clear lF9 Nx9 FGx Bx Xx Tx Fx Ny Tc9 F3 N3
    have hpk : @LT.lt Nat _ pl kl := l9c.2.1
    have hIk : @LT.lt Nat _ I kl := l9c.2.2.1
    have hIp : @LT.lt Nat _ I pl := l9a.1
    have hall : ∀ p ∈ tl ++ R, p.1 ≠ pl := ne_of_allLt l9a.2.2.2
    have hallk : ∀ p ∈ tl ++ R, p.1 < kl := of_allLt l9c.2.2.2.2.2
    refine iter_list (fun j m nx => ∃ (x n : Int) (t1 t2 : Tok) (ps : List Value) (prs : List (Ky × Th)) (tl2 : List (Addr × Obj)) (np : Nat), nx = (kl, listOf [.bytes #[120] _, .int 1 _, .bytes #[121] _].toArray 0) :: (pl, listOf ps.toArray np) :: (I, oI) :: (vl, listOf vs.toArray nn) :: (b, boxOf x t1 n t2 e) :: (tl2 ++ (tl ++ R)) ∧
        m (Str.ofString "values") = some (.ref vl) ∧ m (Str.ofString "box") = some (.ref b) ∧ m (Str.ofString "has_things") = some (.bool (decide (0 < dh))) ∧ m (Str.ofString "pairs") = some (.ref pl) ∧ BoxOk x n ∧ All2 (PrIn tl2) ps prs ∧ ps.length ≤ j ∧ (∀ p ∈ tl2, kl < p.1))
      rfl (.head _) kF9 (news_drop2 kN9) (fun j m nx h => by obtain ⟨_, _, _, _, _, _, _, _, h, _⟩ := h; rw [h]; exact .head _)
      ⟨xh, n + 1, th1, th2, [], [], [], 0, rfl, rfl, rfl, rfl, rfl, okh, .nil, Nat.le_refl _, fun p hp => nomatch hp⟩ ?_ ?_
    · rintro j v m₂ nx h4 tk4 I2 oI2 lI2 hv ⟨x2, n2, t21, t22, ps, prs, tl2, np, rfl, hmv2, hmb2, hmh2, hmp2, ok2, hps, hpl, htl2⟩ hnI2 F4 N4
      obtain ⟨ky, hky⟩ := keyIs_get hv
      have hj : j < 3 := (List.getElem?_eq_some_iff.mp hv).1
      have hkI2 : @LT.lt Nat _ kl I2 := lI2 _ (.head _)
      clear kF9 kN9 lI2
      rw [map4 hmv2 hmb2 hmh2 hmp2] at F4
      have h2b : ∀ p ∈ tl2, p.1 ≠ b := fun p hp => by have := ltN (htl2 p hp); refine neN ?_; omega
      have h2v : ∀ p ∈ tl2, p.1 ≠ vl := fun p hp => by have := ltN (htl2 p hp); refine neN ?_; omega
      have h2p : ∀ p ∈ tl2, p.1 ≠ pl := fun p hp => by have := ltN (htl2 p hp); refine neN ?_; omega
      have hnI2' : ∀ p ∈ tl2 ++ (tl ++ R), p.1 ≠ I2 := fun p hp => hnI2 p (.tail _ (.tail _ (.tail _ (.tail _ (.tail _ hp)))))
      have h2I : ∀ p ∈ tl2, p.1 ≠ I2 := fun p hp => hnI2' p (List.mem_append_left _ hp)
      have hlI : ∀ p ∈ tl ++ R, p.1 ≠ I2 := fun p hp => hnI2' p (List.mem_append_right _ hp)
      try k_fold
      k_steps
      · (with_reducible rename News _ _ _ _ => N9); (with_reducible rename Fr _ _ _ _ => F9); (with_reducible rename BoxOk _ _ => ok9); (with_reducible rename ThIs _ _ => hT9); (with_reducible rename _ < _ ∧ _ < _ ∧ _ < _ ∧ _ < _ ∧ _ < _ ∧ _ < _ ∧ _ < _ ∧ AllLt _ _ => l9)
        simp only [List.push_toArray] at N9
        have N10 := news_rot8 N9
        have hkD := ltN l9.2.2.1
        exact LEnd.intro F9 N10 (by k_dflt k_all) ⟨_, _, _, _, ps ++ [.ref _], prs ++ [(ky, _)], _ :: tl2, _, rfl, rfl, rfl, rfl, rfl, ok9, (hps.mono fun _ _ x => x.mono fun _ y => .tail _ y).snoc (.mk (.head _) hky hT9), by rw [List.length_append]; exact Nat.succ_le_succ hpl,
          fun p hp => by
            rcases List.mem_cons.mp hp with rfl | hp
            · exact hkD
            · exact htl2 p hp⟩
      · (with_reducible rename News _ _ _ _ => N9); (with_reducible rename Fr _ _ _ _ => F9); (with_reducible rename BoxOk _ _ => ok9)
        exact LEnd.intro F9 N9 (by k_dflt k_all) ⟨_, _, _, _, ps, prs, tl2, _, rfl, rfl, rfl, rfl, rfl, ok9, hps, Nat.le_succ_of_le hpl, htl2⟩
    · rintro m₂ nx h4 tk4 ⟨x2, n2, t21, t22, ps, prs, tl2, np, rfl, hmv2, hmb2, hmh2, hmp2, ok2, hps, hpl, htl2⟩ F4 N4
      clear kF9 kN9
      rw [map4 hmv2 hmb2 hmh2 hmp2] at F4
      have h2b : ∀ p ∈ tl2, p.1 ≠ b := fun p hp => by have := ltN (htl2 p hp); refine neN ?_; omega
      have h2v : ∀ p ∈ tl2, p.1 ≠ vl := fun p hp => by have := ltN (htl2 p hp); refine neN ?_; omega
      have hvl : vs.length < 5 := by rw [hV.length, hD]; exact hi
      try k_fold
      k_steps
      rename_i v1 d1 ta x1' n1' ta1 ta2 ha tka la ha1 oka v2 d2 tb x2' n2' tb1 tb2 hb tkb lb hb1 okb DD hc ld hd FF NN
      simp only [List.push_toArray] at NN
      have NN2 := news_shuffle NN
      have hnI' : ∀ p ∈ tl ++ R, p.1 ≠ I := fun p hp => hnI p (.tail _ (.tail _ hp))
      have htI : ∀ p ∈ tl, p.1 ≠ I := fun p hp => hnI' p (List.mem_append_left _ hp)
      have hRI : ∀ p ∈ R, p.1 ≠ I := fun p hp => hnI' p (List.mem_append_right _ hp)
      have h2I : ∀ p ∈ tl2, p.1 ≠ I := fun p hp => by have := ltN (htl2 p hp); refine neN ?_; omega
      have hDv : @LT.lt Nat _ vl DD := ld.2.2.2.1
      refine LEnd.intro FF NN2 (by k_dflt k_all) ⟨_, _, _, _, vs ++ [.ref DD], D ++ [⟨decide (0 < dh), prs, d1, d2⟩], _ :: _ :: (tb ++ (ta ++ (tl2 ++ tl))), _, rfl, rfl, rfl, okb, ?_, ?_, ?_⟩
      · exact (hV.mono fun _ _ x => x.mono fun p hp => .tail _ (.tail _ (List.mem_append_right _ (List.mem_append_right _ (List.mem_append_right _ hp))))).snoc
          (.mk (.head _) (.tail _ (.head _)) (hps.mono fun _ _ x => x.mono fun p hp => .tail _ (.tail _ (List.mem_append_right _ (List.mem_append_right _ (List.mem_append_left _ hp)))))
            (ha1.mono fun p hp => .tail _ (.tail _ (List.mem_append_right _ (List.mem_append_left _ hp)))) (hb1.mono fun p hp => .tail _ (.tail _ (List.mem_append_left _ hp))))
      · rw [List.length_append, hD]; rfl
      · intro p hp
        rcases List.mem_cons.mp hp with rfl | hp
        · exact hDv
        rcases List.mem_cons.mp hp with rfl | hp
        · exact Nat.lt_trans hvI hIp
        rcases List.mem_append.mp hp with hp | hp
        · exact lb p hp (vl, _) (.tail _ (.tail _ (.tail _ (.head _))))
        rcases List.mem_append.mp hp with hp | hp
        · exact la p hp (vl, _) (.tail _ (.tail _ (.tail _ (.head _))))
        rcases List.mem_append.mp hp with hp | hp
        · have := ltN (htl2 p hp); refine ltN ?_; omega
        · exact htl p hp
  · rintro m₁ nx h3 tk3 ⟨x, n, t1, t2, vs, D, tl, nn, rfl, hmv, hmb, ok, hV, hD, htl⟩ F3 N3
    clear FA NA FB NB kp hr
    rw [map2 hmv hmb] at F3
    try k_fold
    k_steps
    (with_reducible rename News h₀ _ _ _ => N9); (with_reducible rename Fr h₀ _ _ _ => F9)
    refine h vl D (_ :: tl) _ _ _ _ _ _ F9 (news_outT hout (news_back N9)) (fun p hp q hq => ?_) ⟨vs, nn, .head _, hV.mono fun _ _ x => x.mono fun _ y => .tail _ y, hD⟩ ok
    have hqv : q.1 < vl := by
      rcases List.mem_cons.mp (hin q hq) with rfl | hq
      · exact hbv
      · exact hRv q hq
    rcases List.mem_cons.mp hp with rfl | hp
    · exact hqv
    · exact Nat.lt_trans hqv (htl p hp)
end
local macro_rules | `(tactic| walk_at "call ref") => `(tactic| (k_here; (with_reducible show wpAny _ _ (call (Value.ref 70) _) _ _ _); k_dflt (refine' weaken (A := lv 320 700 _ _ _ _ _ _ _) (drawn_spec ?C ?k ?U ?ok ?_) rfl rfl rfl ?d ?u; (case C => walk_at "mine cx"); (case k => exact rfl); (case U => walk_at "mine updT"); (case ok => assumption); (case d => k_units); (case u => k_units)); intro lD' dD' tlD' xT' nT' tT1' tT2' h' tk' F' N' lH' hV' okT'; (try dsimp only); (try k_sweep)))
theorem off_09 : True := by
  w_top off
  trivial
section
variable {w : World} {G : Gl} {A₀ : Around} {base h₀ : Heap} {outer : List Env} {L : Addr} {m : Str → Option Value} {news : List (Addr × Obj)} {s : Shared} {cn : Str} {cs : Scope} {a : Addr} {ccd : Value} {cl : List (Str × Addr)} {Q E : Value → Shared → Prop}
local macro_rules | `(tactic| walk_at "compareOp Eq") => `(tactic| (refine' eq_key ?v ?q ?_; (case v => with_reducible assumption); (case q => with_reducible assumption)))
theorem own_spec {l : Addr} {D : List Vl} {i : Int} {d : Vl} {ti : Tok} {qv : Value} {kq : Option Ky} {R : List (Addr × Obj)} (hV₀ : VsIn R l D) (hs : ∀ p ∈ R, p ∈ news) (h0 : 0 ≤ i) (hd : D[i.toNat]? = some d) (hq : KqIs qv kq)
    (C : Cx w G A₀ base h₀ outer L m news s.heap) (hk : cs.kind = .function)
    (h : ∀ (v : Value) h' tk', Fr h₀ L h' m → News h₀ L h' news → ThqIs v (ownP d.pairs kq) → Q v { s with heap := h', toks := tk' }) :
    wpAny (model PySem.Challenge.rw_nt0661_01.row.prog w) (lv 350 950 cn cs L a ccd cl outer) (call (.ref 77) [.ref l, .int i ti, qv]) Q E s := by
  obtain ⟨B, F, X, N, T⟩ := C
  have hV := hV₀.mono hs
  clear hV₀ hs
  obtain ⟨vs, nv, hm, hA, hlen⟩ := hV
  obtain ⟨av, hav, hvl⟩ := hA.get2 hd
  have hi5 : i.toNat < 5 := by rw [← hlen]; exact (List.getElem?_eq_some_iff.mp hd).1
  have hav' : vs.toArray[i.toNat]? = some av := by simpa using hav
  cases hvl with
  | @mk ad pp n1 n2 b ps rv wv prs rd wr m1 m2 m3 m4 m5 =>
  refine wpAny_call ?_
  k_dflt cell_enter
  k_steps
  (with_reducible rename News _ _ _ _ => N9); (with_reducible rename Fr _ _ _ _ => F9)
  refine iter_list (fun j m nx => nx = news ∧ m (Str.ofString "key") = some qv ∧ ownP prs kq = ownP (prs.drop j) kq) rfl m2 F9 N9 (fun j m nx h => by rw [h.1]; exact m2) ⟨rfl, rfl, rfl⟩ ?_ ?_
  · rintro j v m₁ nx h3 tk3 I oI lI hv ⟨rfl, hmk, hown⟩ hnI F3 N3
    clear F9 N9 lI
    obtain ⟨⟨k, t⟩, hpr, hin⟩ := m3.get hv
    cases hin with
    | @mk ap np kv tv _ _ p1 p2 p3 =>
    rw [map1 hmk] at F3
    have hdrop : ownP (prs.drop j) kq = if some k = kq then some t else ownP (prs.drop (j + 1)) kq := by
      have hj : j < prs.length := (List.getElem?_eq_some_iff.mp hpr).1
      rw [List.drop_eq_getElem_cons hj, (List.getElem?_eq_some_iff.mp hpr).2]; rfl
    try k_fold
    k_steps
    · (with_reducible rename News h₀ _ _ _ => N9); (with_reducible rename Fr h₀ _ _ _ => F9); (with_reducible rename some k = kq => e9)
      refine h _ _ _ F9 (fun p hp => N9 p (.tail _ hp)) ?_
      show ThqIs _ (ownP prs kq)
      rw [hown, hdrop, if_pos e9]
      exact .some p3
    · (with_reducible rename News _ _ _ _ => N9); (with_reducible rename Fr _ _ _ _ => F9); (with_reducible rename ¬ some k = kq => e9)
      refine LEnd.intro F9 N9 hnI ⟨rfl, rfl, ?_⟩
      rw [hown, hdrop, if_neg e9]
  · rintro m₁ nx h3 tk3 ⟨rfl, hmk, hown⟩ F3 N3
    clear F9 N9
    try k_fold
    k_steps
    (with_reducible rename News h₀ _ _ _ => N9); (with_reducible rename Fr h₀ _ _ _ => F9)
    refine h _ _ _ F9 N9 ?_
    rw [hown, List.drop_eq_nil_of_le (by rw [← m3.length]; exact Nat.le_refl _)]
    exact .none
end
local macro_rules | `(tactic| walk_at "call ref") => `(tactic| (k_here; (with_reducible show wpAny _ _ (call (Value.ref 77) _) _ _ _); k_dflt (refine' weaken (A := lv 350 950 _ _ _ _ _ _ _) (own_spec ?V ?s ?z ?dd ?q ?C ?k ?_) rfl rfl rfl ?d ?u; (case C => walk_at "mine cx"); (case V => with_reducible assumption); (case s => walk_at "mine sub"); (case z => assumption); (case dd => assumption); (case q => with_reducible assumption); (case k => exact rfl); (case d => k_units); (case u => k_units)); intro vO' h' tk' F' N' hO'; (try dsimp only); (try k_sweep)))
theorem off_10 : True := by
  w_top off
  trivial
section
variable {w : World} {G : Gl} {A₀ : Around} {base h₀ : Heap} {outer : List Env} {L : Addr} {m : Str → Option Value} {news : List (Addr × Obj)} {s : Shared} {cn : Str} {cs : Scope} {a : Addr} {ccd : Value} {cl : List (Str × Addr)} {Q E : Value → Shared → Prop}
local macro_rules | `(tactic| walk_at "compareOp Is none") => `(tactic| (refine' is_none_key ?q ?_; (case q => with_reducible assumption)))
local macro_rules | `(tactic| walk_at "compareOp IsNot none") => `(tactic| (refine' isnot_none_th ?q ?_; (case q => with_reducible assumption)))
theorem end_spec {l : Addr} {D : List Vl} {i : Int} {d : Vl} {ti : Tok} {qv : Value} {kq : Option Ky} {rdg : Bool} {R : List (Addr × Obj)} (hV : VsIn R l D) (hs : ∀ p ∈ R, p ∈ news) (h0 : 0 ≤ i) (hd : D[i.toNat]? = some d) (hq : KqIs qv kq)
    (C : Cx w G A₀ base h₀ outer L m news s.heap) (hk : cs.kind = .function)
    (hN : ∀ h' tk', Fr h₀ L h' m → News h₀ L h' news → endF d i kq rdg = none → Q .none { s with heap := h', toks := tk' })
    (hS : ∀ a o r h' tk', Fr h₀ L h' m → News h₀ L h' ((a, o) :: news) → (∀ p ∈ news, p.1 < a) → endF d i kq rdg = some r → RsOb R o r → Q (.ref a) { s with heap := h', toks := tk' }) :
    wpAny (model PySem.Challenge.rw_nt0661_01.row.prog w) (lv 340 900 cn cs L a ccd cl outer) (call (.ref 84) [.ref l, .int i ti, qv, .bool rdg]) Q E s := by
  obtain ⟨B, F, X, N, T⟩ := C
  have hV' := hV
  obtain ⟨vs, nv, hm, hA, hlen⟩ := hV'
  obtain ⟨av, hav, hvl⟩ := hA.get2 hd
  have hi5 : i.toNat < 5 := by rw [← hlen]; exact (List.getElem?_eq_some_iff.mp hd).1
  have hav' : vs.toArray[i.toNat]? = some av := by simpa using hav
  cases hvl with
  | @mk ad pp n1 n2 b ps rv wv prs rd wr m1 m2 m3 m4 m5 =>
  have hm := hs _ hm
  have m1 := hs _ m1
  cases b <;> cases rdg
  all_goals (refine wpAny_call ?_; k_dflt cell_enter; k_steps)
  · cases m5 with
    | none => k_steps; ((with_reducible rename News h₀ _ _ _ => N9); (with_reducible rename Fr h₀ _ _ _ => F9); first | (refine hN _ _ F9 N9 ?_; (first | rfl | (simp [endF, e9]; done) | (simp [endF, hk9, e9]; done) | (simp [endF, hk9]; done)); done) | (refine hS _ _ _ _ _ F9 N9 (by with_reducible assumption) ?_ (by first | exact .mk .none | exact .mk (.fn (.fn (by assumption) (by assumption) (by assumption))) | exact .mk (.th (by assumption))); (first | rfl | (simp [endF, e9]; done) | (simp [endF, hk9, e9]; done) | (simp [endF, hk9]; done)); done))
    | fn f1 f2 f3 => have f4 := hs _ f3; k_steps; ((with_reducible rename News h₀ _ _ _ => N9); (with_reducible rename Fr h₀ _ _ _ => F9); first | (refine hN _ _ F9 N9 ?_; (first | rfl | (simp [endF, e9]; done) | (simp [endF, hk9, e9]; done) | (simp [endF, hk9]; done)); done) | (refine hS _ _ _ _ _ F9 N9 (by with_reducible assumption) ?_ (by first | exact .mk .none | exact .mk (.fn (.fn (by assumption) (by assumption) (by assumption))) | exact .mk (.th (by assumption))); (first | rfl | (simp [endF, e9]; done) | (simp [endF, hk9, e9]; done) | (simp [endF, hk9]; done)); done))
    | to f1 f2 => k_steps; ((with_reducible rename News h₀ _ _ _ => N9); (with_reducible rename Fr h₀ _ _ _ => F9); first | (refine hN _ _ F9 N9 ?_; (first | rfl | (simp [endF, e9]; done) | (simp [endF, hk9, e9]; done) | (simp [endF, hk9]; done)); done) | (refine hS _ _ _ _ _ F9 N9 (by with_reducible assumption) ?_ (by first | exact .mk .none | exact .mk (.fn (.fn (by assumption) (by assumption) (by assumption))) | exact .mk (.th (by assumption))); (first | rfl | (simp [endF, e9]; done) | (simp [endF, hk9, e9]; done) | (simp [endF, hk9]; done)); done))
  · cases m4 with
    | none => k_steps; ((with_reducible rename News h₀ _ _ _ => N9); (with_reducible rename Fr h₀ _ _ _ => F9); first | (refine hN _ _ F9 N9 ?_; (first | rfl | (simp [endF, e9]; done) | (simp [endF, hk9, e9]; done) | (simp [endF, hk9]; done)); done) | (refine hS _ _ _ _ _ F9 N9 (by with_reducible assumption) ?_ (by first | exact .mk .none | exact .mk (.fn (.fn (by assumption) (by assumption) (by assumption))) | exact .mk (.th (by assumption))); (first | rfl | (simp [endF, e9]; done) | (simp [endF, hk9, e9]; done) | (simp [endF, hk9]; done)); done))
    | fn f1 f2 f3 => have f4 := hs _ f3; k_steps; ((with_reducible rename News h₀ _ _ _ => N9); (with_reducible rename Fr h₀ _ _ _ => F9); first | (refine hN _ _ F9 N9 ?_; (first | rfl | (simp [endF, e9]; done) | (simp [endF, hk9, e9]; done) | (simp [endF, hk9]; done)); done) | (refine hS _ _ _ _ _ F9 N9 (by with_reducible assumption) ?_ (by first | exact .mk .none | exact .mk (.fn (.fn (by assumption) (by assumption) (by assumption))) | exact .mk (.th (by assumption))); (first | rfl | (simp [endF, e9]; done) | (simp [endF, hk9, e9]; done) | (simp [endF, hk9]; done)); done))
    | to f1 f2 => k_steps; ((with_reducible rename News h₀ _ _ _ => N9); (with_reducible rename Fr h₀ _ _ _ => F9); first | (refine hN _ _ F9 N9 ?_; (first | rfl | (simp [endF, e9]; done) | (simp [endF, hk9, e9]; done) | (simp [endF, hk9]; done)); done) | (refine hS _ _ _ _ _ F9 N9 (by with_reducible assumption) ?_ (by first | exact .mk .none | exact .mk (.fn (.fn (by assumption) (by assumption) (by assumption))) | exact .mk (.th (by assumption))); (first | rfl | (simp [endF, e9]; done) | (simp [endF, hk9, e9]; done) | (simp [endF, hk9]; done)); done))
  · (with_reducible rename kq = none => hk9); ((with_reducible rename News h₀ _ _ _ => N9); (with_reducible rename Fr h₀ _ _ _ => F9); first | (refine hN _ _ F9 N9 ?_; (first | rfl | (simp [endF, e9]; done) | (simp [endF, hk9, e9]; done) | (simp [endF, hk9]; done)); done) | (refine hS _ _ _ _ _ F9 N9 (by with_reducible assumption) ?_ (by first | exact .mk .none | exact .mk (.fn (.fn (by assumption) (by assumption) (by assumption))) | exact .mk (.th (by assumption))); (first | rfl | (simp [endF, e9]; done) | (simp [endF, hk9, e9]; done) | (simp [endF, hk9]; done)); done))
  · (with_reducible rename ThqIs _ _ => hO9); (with_reducible rename ¬ kq = none => hk9); rcases thq_split hO9 with ⟨e9, rfl⟩ | ⟨t9, e9, ht9⟩
    · exact absurd e9 (by assumption)
    · dsimp only at e9
      ((with_reducible rename News h₀ _ _ _ => N9); (with_reducible rename Fr h₀ _ _ _ => F9); first | (refine hN _ _ F9 N9 ?_; (first | rfl | (simp [endF, e9]; done) | (simp [endF, hk9, e9]; done) | (simp [endF, hk9]; done)); done) | (refine hS _ _ _ _ _ F9 N9 (by with_reducible assumption) ?_ (by first | exact .mk .none | exact .mk (.fn (.fn (by assumption) (by assumption) (by assumption))) | exact .mk (.th (by assumption))); (first | rfl | (simp [endF, e9]; done) | (simp [endF, hk9, e9]; done) | (simp [endF, hk9]; done)); done))
  · (with_reducible rename ThqIs _ _ => hO9); (with_reducible rename ¬ kq = none => hk9); rcases thq_split hO9 with ⟨e9, rfl⟩ | ⟨t9, e9, ht9⟩
    · dsimp only at e9
      cases m5 with
      | none => k_steps; ((with_reducible rename News h₀ _ _ _ => N9); (with_reducible rename Fr h₀ _ _ _ => F9); first | (refine hN _ _ F9 N9 ?_; (first | rfl | (simp [endF, e9]; done) | (simp [endF, hk9, e9]; done) | (simp [endF, hk9]; done)); done) | (refine hS _ _ _ _ _ F9 N9 (by with_reducible assumption) ?_ (by first | exact .mk .none | exact .mk (.fn (.fn (by assumption) (by assumption) (by assumption))) | exact .mk (.th (by assumption))); (first | rfl | (simp [endF, e9]; done) | (simp [endF, hk9, e9]; done) | (simp [endF, hk9]; done)); done))
      | fn f1 f2 f3 => have f4 := hs _ f3; k_steps; ((with_reducible rename News h₀ _ _ _ => N9); (with_reducible rename Fr h₀ _ _ _ => F9); first | (refine hN _ _ F9 N9 ?_; (first | rfl | (simp [endF, e9]; done) | (simp [endF, hk9, e9]; done) | (simp [endF, hk9]; done)); done) | (refine hS _ _ _ _ _ F9 N9 (by with_reducible assumption) ?_ (by first | exact .mk .none | exact .mk (.fn (.fn (by assumption) (by assumption) (by assumption))) | exact .mk (.th (by assumption))); (first | rfl | (simp [endF, e9]; done) | (simp [endF, hk9, e9]; done) | (simp [endF, hk9]; done)); done))
      | to f1 f2 => k_steps; ((with_reducible rename News h₀ _ _ _ => N9); (with_reducible rename Fr h₀ _ _ _ => F9); first | (refine hN _ _ F9 N9 ?_; (first | rfl | (simp [endF, e9]; done) | (simp [endF, hk9, e9]; done) | (simp [endF, hk9]; done)); done) | (refine hS _ _ _ _ _ F9 N9 (by with_reducible assumption) ?_ (by first | exact .mk .none | exact .mk (.fn (.fn (by assumption) (by assumption) (by assumption))) | exact .mk (.th (by assumption))); (first | rfl | (simp [endF, e9]; done) | (simp [endF, hk9, e9]; done) | (simp [endF, hk9]; done)); done))
    · exact absurd (fun q => by rw [e9] at q; cases q) (by assumption)
  · (with_reducible rename ThqIs _ _ => hO9); rcases thq_split hO9 with ⟨e9, rfl⟩ | ⟨t9, e9, ht9⟩
    · exact absurd e9 (by assumption)
    · dsimp only at e9
      ((with_reducible rename News h₀ _ _ _ => N9); (with_reducible rename Fr h₀ _ _ _ => F9); first | (refine hN _ _ F9 N9 ?_; (first | rfl | (simp [endF, e9]; done) | (simp [endF, hk9, e9]; done) | (simp [endF, hk9]; done)); done) | (refine hS _ _ _ _ _ F9 N9 (by with_reducible assumption) ?_ (by first | exact .mk .none | exact .mk (.fn (.fn (by assumption) (by assumption) (by assumption))) | exact .mk (.th (by assumption))); (first | rfl | (simp [endF, e9]; done) | (simp [endF, hk9, e9]; done) | (simp [endF, hk9]; done)); done))
  · (with_reducible rename ThqIs _ _ => hO9); rcases thq_split hO9 with ⟨e9, rfl⟩ | ⟨t9, e9, ht9⟩
    · dsimp only at e9
      cases m4 with
      | none => k_steps; ((with_reducible rename News h₀ _ _ _ => N9); (with_reducible rename Fr h₀ _ _ _ => F9); first | (refine hN _ _ F9 N9 ?_; (first | rfl | (simp [endF, e9]; done) | (simp [endF, hk9, e9]; done) | (simp [endF, hk9]; done)); done) | (refine hS _ _ _ _ _ F9 N9 (by with_reducible assumption) ?_ (by first | exact .mk .none | exact .mk (.fn (.fn (by assumption) (by assumption) (by assumption))) | exact .mk (.th (by assumption))); (first | rfl | (simp [endF, e9]; done) | (simp [endF, hk9, e9]; done) | (simp [endF, hk9]; done)); done))
      | fn f1 f2 f3 => have f4 := hs _ f3; k_steps; ((with_reducible rename News h₀ _ _ _ => N9); (with_reducible rename Fr h₀ _ _ _ => F9); first | (refine hN _ _ F9 N9 ?_; (first | rfl | (simp [endF, e9]; done) | (simp [endF, hk9, e9]; done) | (simp [endF, hk9]; done)); done) | (refine hS _ _ _ _ _ F9 N9 (by with_reducible assumption) ?_ (by first | exact .mk .none | exact .mk (.fn (.fn (by assumption) (by assumption) (by assumption))) | exact .mk (.th (by assumption))); (first | rfl | (simp [endF, e9]; done) | (simp [endF, hk9, e9]; done) | (simp [endF, hk9]; done)); done))
      | to f1 f2 => k_steps; ((with_reducible rename News h₀ _ _ _ => N9); (with_reducible rename Fr h₀ _ _ _ => F9); first | (refine hN _ _ F9 N9 ?_; (first | rfl | (simp [endF, e9]; done) | (simp [endF, hk9, e9]; done) | (simp [endF, hk9]; done)); done) | (refine hS _ _ _ _ _ F9 N9 (by with_reducible assumption) ?_ (by first | exact .mk .none | exact .mk (.fn (.fn (by assumption) (by assumption) (by assumption))) | exact .mk (.th (by assumption))); (first | rfl | (simp [endF, e9]; done) | (simp [endF, hk9, e9]; done) | (simp [endF, hk9]; done)); done))
    · exact absurd (fun q => by rw [e9] at q; cases q) (by assumption)
end
local macro_rules | `(tactic| walk_at "call ref") => `(tactic| (k_here; (with_reducible show wpAny _ _ (call (Value.ref 84) _) _ _ _); k_dflt (refine' weaken (A := lv 340 900 _ _ _ _ _ _ _) (end_spec ?V ?s ?z ?dd ?q ?C ?k ?_ ?_) rfl rfl rfl ?d ?u; (case C => walk_at "mine cx"); (case V => with_reducible assumption); (case s => walk_at "mine sub"); (case z => assumption); (case dd => assumption); (case q => with_reducible assumption); (case k => exact rfl); (case d => k_units); (case u => k_units)); (first | (intro h' tk' F' N' hE'; (try dsimp only); (try k_sweep)) | skip); rotate_left; (first | (intro aE' oE' rE' h' tk' F' N' lE' hE' rsE'; (try dsimp only); (try k_sweep)) | skip); rotate_left))
theorem off_13 : True := by
  w_top off
  trivial
section
variable {w : World} {G : Gl} {A₀ : Around} {base h₀ : Heap} {outer : List Env} {L : Addr} {m : Str → Option Value} {news : List (Addr × Obj)} {s : Shared} {cn : Str} {cs : Scope} {a : Addr} {ccd : Value} {cl : List (Str × Addr)} {Q E : Value → Shared → Prop}
theorem index_way {prog : Program} {w : World} {A : Around} {E : Value → Shared → Prop} {s : Shared} {h₀ : Heap} {L : Addr} {news : List (Addr × Obj)} {l : Addr} {vs : List Value} {ns : List Int} {n : Nat} {k : Int} {t : Tok} {Q : Value → Shared → Prop} (N : News h₀ L s.heap news) (hm : (l, listOf vs.toArray n) ∈ news) (hi : IntsAre vs ns) (hz : ns.length ≤ 5) (hk : k ∈ ns) {f : Nat} (hf : ns.idxOf k = f)
    (h : Q (.int (f : Nat) s.toks) { s with toks := s.toks + 1 }) : wpAny (model prog w) A (call (.builtin "list.index") [.ref l, .int k t]) Q E s := by
  subst hf
  have hlen := hi.length
  have hj : ns.idxOf k < ns.length := List.idxOf_lt_length_iff.mpr hk
  refine call_meets PySem.F.slot_list_index ⟨_, (N _ hm).1, rfl⟩ PySem.F.entry_list_index (PySem.F.args_list_index_2 _ _)
    (MeetsSeq.list_index l vs.toArray n (.int k t) (isInt k) (fun y hy => eq_isInt k t hi y (by simpa using hy)) (ns.idxOf k) (by simpa [hlen] using hj) (by omega) ?_ ?_) ⟨(N _ hm).1, h⟩
  · show isInt k vs[ns.idxOf k] = true
    rw [isInt_at k hi _ (by omega) hj]
    simp
  · intro j hjs hlt
    show isInt k vs[j] = false
    rw [isInt_at k hi j (by simpa using hjs) (by omega)]
    exact ne_of_lt_idxOf hlt _
theorem notin_way {prog : Program} {w : World} {A : Around} {E : Value → Shared → Prop} {s : Shared} {h₀ : Heap} {L : Addr} {news : List (Addr × Obj)} {l : Addr} {vs : List Value} {ns : List Int} {n : Nat} {k : Int} {t : Tok} {Q : Value → Shared → Prop} (N : News h₀ L s.heap news) (hm : (l, listOf vs.toArray n) ∈ news) (hi : IntsAre vs ns) {b : Bool} (hb : (!(ns.any (· == k))) = b)
    (h : Q (.bool b) s) : wpAny (model prog w) A (compareOp .NotIn (.int k t) (.ref l)) Q E s := notin_list_ints (PySem.IsL.isList (n := n) (N _ hm).1) hi (by rw [hb]; exact h)
theorem map6 {m : Str → Option Value} {x x2 x3 x4 x5 x6 : Str} {v v2 v3 v4 v5 v6 : Value} (h : m x = some v) (h2 : m x2 = some v2) (h3 : m x3 = some v3) (h4 : m x4 = some v4) (h5 : m x5 = some v5) (h6 : m x6 = some v6) : m = fun y => if y = x then some v else if y = x2 then some v2 else if y = x3 then some v3 else if y = x4 then some v4 else if y = x5 then some v5 else if y = x6 then some v6 else m y := by
  funext y
  by_cases e : y = x
  · rw [if_pos e, e, h]
  · rw [if_neg e]; exact congrFun (map5 h2 h3 h4 h5 h6) y
/-- a while, under a name that no line of the library knows -/
def WhileAt (prog : Program) (w : World) (A : Around) (E : Value → Shared → Prop) (env : Env) (test : PySem.Expr) (body : List Stmt) (pos : Pos) (Q : Flow → Shared → Prop) (s : Shared) : Prop := wpAny (model prog w) A (exec (.While test body [] pos) env) Q E s
theorem While_mine {prog : Program} {w : World} {A : Around} {E : Value → Shared → Prop} {env : Env} {test : PySem.Expr} {body : List Stmt} {pos : Pos} {Q : Flow → Shared → Prop} {s : Shared} (h : WhileAt prog w A E env test body pos Q s) : wpAny (model prog w) A (exec (.While test body [] pos) env) Q E s := h
theorem len_mine {prog : Program} {w : World} {A : Around} {E : Value → Shared → Prop} {s : Shared} {h₀ : Heap} {L : Addr} {news : List (Addr × Obj)} {D : Addr} {its : Array Value} {c : Nat} {Q : Value → Shared → Prop} (N : News h₀ L s.heap news) (hm : (D, listOf its c) ∈ news) (hs : its.size < 2 ^ 62) (h : Q (.int (its.size : Nat) (s.toks + 1)) { s with toks := s.toks + 1 + 1 }) :
    wpAny (model prog w) A (call (.builtin "len") [.ref D]) Q E s := KM.len_K N hm rfl hs h
theorem item_way {prog : Program} {w : World} {A : Around} {E : Value → Shared → Prop} {s : Shared} {h₀ : Heap} {L : Addr} {news : List (Addr × Obj)} {D : Addr} {its : Array Value} {n k : Nat} {nx : Int → Int} {x b : Int} {u : Tok} {value slice : PySem.Expr} {Q : Value → Shared → Prop} (N : News h₀ L s.heap news) (hm : (D, listOf its n) ∈ news) (hi : IntsAre its.toList (wayL nx x k)) (h0 : 0 ≤ b) (hk : b < (k : Int)) (hz : k < 100)
    (h : ∀ t, Q (.int (orb nx x b.toNat) t) s) (hs : subscripted slice false (.ref D) (.int b u) = operate [.ref D, .int b u] (getItem (.ref D) (.int b u)) := by with_unfolding_all rfl) :
    wpAny (model prog w) A (subscriptTail value slice (.ref D) (.int b u)) Q E s := by
  obtain ⟨t, ht⟩ := hi.get b.toNat _ (wayL_get (nx := nx) (x := x) (show b.toNat < k by omega))
  exact item_led N hm h0 (by omega) (by simpa using ht) (h t) hs
theorem idx_ring {b : Int} {f k : Nat} (h0 : (k : Int) ≤ b) (hf : f < k) : ((f : Int) + (b - f).fmod (k - f)).toNat = f + (b.toNat - f) % (k - f) := by
  obtain ⟨c, rfl⟩ : ∃ c : Nat, b = c := ⟨b.toNat, by omega⟩
  rw [show ((c : Int) - f) = ((c - f : Nat) : Int) by omega, show ((k : Int) - f) = ((k - f : Nat) : Int) by omega, Int.fmod_eq_emod_of_nonneg _ (by omega), ← Int.natCast_emod]
  simp; omega
theorem endF_none {d : Vl} {i : Int} {kq : Option Ky} {rdg : Bool} (h : ∀ j, (if rdg then d.rd else d.wr) ≠ .to j) : endF d i kq rdg ≠ none := by
  unfold endF
  intro e
  split at e
  · cases e
  · split at e
    · cases e
    · split at e
      · cases e
      · next j hj => exact h j hj
      · cases e
theorem any_mem {l : List Int} {k : Int} (h : (!(l.any (· == k))) = false) : k ∈ l := by simpa using h
theorem any_not {l : List Int} {k : Int} (h : (!(l.any (· == k))) = true) : k ∉ l := fun hk => by
  have : l.any (· == k) = true := List.any_eq_true.mpr ⟨k, hk, by simp⟩
  rw [this] at h; cases h
local macro_rules | `(tactic| walk_at "subscriptTail Name Name ref int") => `(tactic| (k_here; (with_reducible show wpAny _ _ (subscriptTail _ _ (Value.ref _) (Value.int _ _)) _ _ _); k_dflt (refine' item_way ?N ?m ?i ?h0 ?hk ?z ?_ ?s; (case N => k_asm); (case m => k_mem); (case s => with_unfolding_all rfl)); (case i => with_reducible assumption); (case h0 => omega); (case hk => omega); (case z => omega); k_whole; intro tW'))
local macro_rules | `(tactic| walk_at "subscriptTail Name BinOp ref int") => `(tactic| (k_here; (with_reducible show wpAny _ _ (subscriptTail _ _ (Value.ref _) (Value.int _ _)) _ _ _); k_dflt (refine' item_way ?N ?m ?i ?h0 ?hk ?z ?_ ?s; (case N => k_asm); (case m => k_mem); (case s => with_unfolding_all rfl)); (case i => with_reducible assumption); (case h0 => omega); (case hk => omega); (case z => omega); k_whole; intro tW'))
local macro_rules | `(tactic| walk_at "WBr") => `(tactic| (first | refine' WBr.yes ?_ | refine' WBr.no ?_))
local macro_rules | `(tactic| walk_at "WPost ret") => `(tactic| (dsimp only [WPost]))
local macro_rules | `(tactic| walk_at "compareOp NotIn int ref") => `(tactic| (k_here; k_dflt (refine' notin_way ?N ?m ?i ?b ?_; (case N => k_asm); (case m => k_mem); (case i => with_reducible assumption); (case b => with_reducible assumption))))
local macro_rules | `(tactic| walk_at "exec While Compare cons nil") => `(tactic| (k_here; (with_unfolding_all refine' While_mine ?_); k_whole))
local macro_rules | `(tactic| walk_at "call builtin:len") => `(tactic| (k_here; (with_reducible show wpAny _ _ (call (Value.builtin "len") [Value.ref _]) _ _ _); k_dflt (refine' len_mine ?N ?m ?z ?_; (case N => k_asm); (case m => k_mem); (case z => (simp only [List.size_toArray, Array.size_push]; omega)))))
local macro_rules | `(tactic| walk_at "call builtin:list.index") => `(tactic| (k_here; (with_reducible show wpAny _ _ (call (Value.builtin _) [Value.ref _, Value.int _ _]) _ _ _); k_dflt (refine' index_way ?N ?m ?i ?z ?k ?f ?_; (case N => k_asm); (case m => k_mem); (case i => with_reducible assumption); (case z => rw [wayL_length]; omega); (case k => exact any_mem (by with_reducible assumption)); (case f => with_reducible assumption))))
theorem due_spec {l : Addr} {D : List Vl} {i b : Int} {ti tb : Tok} {qv : Value} {kq : Option Ky} {rdg : Bool} {R : List (Addr × Obj)} (hV : VsIn R l D) (hs : ∀ p ∈ R, p ∈ news) (h0 : 0 ≤ i ∧ i < 5) (hq : KqIs qv kq) (hb : 0 ≤ b ∧ b < 100)
    (C : Cx w G A₀ base h₀ outer L m news s.heap) (hk : cs.kind = .function)
    (h : ∀ a o h' tk', Fr h₀ L h' m → News h₀ L h' ((a, o) :: news) → (∀ p ∈ news, p.1 < a) → RsOb R o (runF (eD D kq rdg) (nxD D rdg) b.toNat i) → Q (.ref a) { s with heap := h', toks := tk' }) :
    wpAny (model PySem.Challenge.rw_nt0661_01.row.prog w) (lv 330 800 cn cs L a ccd cl outer) (call (.ref 91) [.ref l, .int i ti, qv, .int b tb, .bool rdg]) Q E s := by
  obtain ⟨B, F, X, N, T⟩ := C
  refine wpAny_call ?_
  k_dflt cell_enter
  k_steps
  (with_reducible rename ∀ p ∈ news, p.1 < _ => l9); (with_reducible rename News _ _ _ _ => N9); (with_reducible rename Fr _ _ _ _ => F9)
  refine while_mine (n := 5) (fun n m nx => ∃ (way : Addr) (k : Nat) (ws : List Value) (wn : Nat) (t : Tok), nx = (way, listOf ws.toArray wn) :: news ∧ (∀ p ∈ news, p.1 < way) ∧
      m (Str.ofString "values") = some (.ref l) ∧ m (Str.ofString "at") = some (.int (orb (nxD D rdg) i k) t) ∧ m (Str.ofString "key") = some qv ∧ m (Str.ofString "bound") = some (.int b tb) ∧ m (Str.ofString "is_reading") = some (.bool rdg) ∧ m (Str.ofString "way") = some (.ref way) ∧
      IntsAre ws (wayL (nxD D rdg) i k) ∧ (wayL (nxD D rdg) i k).Nodup ∧ (∀ j < k, eD D kq rdg (orb (nxD D rdg) i j) = none) ∧ n + k = 5)
    F9 N9 ⟨_, 0, [], 0, ti, rfl, l9, rfl, rfl, rfl, rfl, rfl, rfl, .nil, List.nodup_nil, fun j hj => absurd hj (Nat.not_lt_zero _), rfl⟩ ?_
  rintro n m₁ nx h3 tk3 ⟨way, k, ws, wn, t, rfl, hlw, mv, ma, mk, mb, mr, mw, hws, hnd, hno, hnk⟩ F3 N3
  clear F9 N9 l9
  rw [map6 mv ma mk mb mr mw] at F3
  have hnw : ∀ p ∈ news, p.1 ≠ way := fun p hp => Nat.ne_of_lt (hlw p hp)
  have hat := hV.orb rdg h0 k
  have hwl : ws.length < 6 := by rw [hws.length, wayL_length]; omega
  have hat0 := hat.1
  have hb0 := hb.1
  obtain ⟨vs, nv, hm, hA, hl5⟩ := id hV
  obtain ⟨d, hd⟩ : ∃ d, D[(orb (nxD D rdg) i k).toNat]? = some d := ⟨_, List.getElem?_eq_getElem (by rw [hl5]; omega)⟩
  obtain ⟨av, hav, hvl⟩ := hA.get2 hd
  have hav' : vs.toArray[(orb (nxD D rdg) i k).toNat]? = some av := by simpa using hav
  have hm := hs _ hm
  have hlb : @LT.lt Nat _ l way := hlw _ hm
  cases hvl with
  | @mk ad pp n1 n2 b0 ps rv wv prs rd wr m1 m2 m3 m4 m5 =>
  have m1 := hs _ m1
  have hsz : ws.toArray.size = k := by rw [List.size_toArray, hws.length, wayL_length]
  have hsz2 : (ws.toArray.push (.int (orb (nxD D rdg) i k) t)).size = k + 1 := by rw [Array.size_push, hsz]
  have hws1 : IntsAre ws.toArray.toList (wayL (nxD D rdg) i k) := hws
  have hws2 : IntsAre (ws.toArray.push (.int (orb (nxD D rdg) i k) t)).toList (wayL (nxD D rdg) i (k + 1)) := by
    rw [wayL_succ]; simpa using hws.append (.cons _ t .nil)
  have hwa : (ws.toArray.push (.int (orb (nxD D rdg) i k) t)) = (ws ++ [Value.int (orb (nxD D rdg) i k) t]).toArray := by simp
  cases hbm : (!((wayL (nxD D rdg) i k).any fun x => x == orb (nxD D rdg) i k)) with
  | false =>
    have hmem := any_mem hbm
    obtain ⟨f, hf⟩ : ∃ f, (wayL (nxD D rdg) i k).idxOf (orb (nxD D rdg) i k) = f := ⟨_, rfl⟩
    have hfk : f < k := by
      have := List.idxOf_lt_length_iff.mpr hmem
      rw [hf, wayL_length] at this; exact this
    have hfo : orb (nxD D rdg) i k = orb (nxD D rdg) i f := by
      have h1 := List.getElem_idxOf (List.idxOf_lt_length_iff.mpr hmem)
      have h2 := wayL_get (nx := nxD D rdg) (x := i) hfk
      have h3 : (wayL (nxD D rdg) i k)[f]? = some (orb (nxD D rdg) i k) := by
        rw [← hf, List.getElem?_eq_getElem (List.idxOf_lt_length_iff.mpr hmem), h1]
      rw [h3] at h2; exact Option.some.inj h2
    have hm1 := Int.fmod_nonneg_of_pos (b - (f : Int)) (b := (ws.toArray.size : Int) - (f : Int)) (by omega)
    have hm2 := Int.fmod_lt_of_pos (b - (f : Int)) (b := (ws.toArray.size : Int) - (f : Int)) (by omega)
    have hm3 : 0 ≤ (f : Int) + (b - (f : Int)).fmod ((ws.toArray.size : Int) - (f : Int)) := by omega
    k_steps
    · (with_reducible rename News h₀ _ _ _ => N9); (with_reducible rename Fr h₀ _ _ _ => F9); (with_reducible rename _ ∧ AllLt _ _ => l9); (with_reducible rename b < _ => c9)
      refine h _ _ _ _ F9 (news_drop2 N9) (of_allLt l9.2) ?_
      rw [runF_end (fun j hj => hno j (by omega))]
      exact .mk .none
    · (with_reducible rename News h₀ _ _ _ => N9); (with_reducible rename Fr h₀ _ _ _ => F9); (with_reducible rename _ ∧ AllLt _ _ => l9); (with_reducible rename ¬ b < _ => c9)
      rw [hsz] at N9 c9
      rw [idx_ring (by omega) hfk] at N9
      refine h _ _ _ _ F9 (news_drop2 N9) (of_allLt l9.2) ?_
      rw [runF_ring hfk hfo hno (by omega)]
      exact .mk .none
  | true =>
    have hnm := any_not hbm
    have hnd2 : (wayL (nxD D rdg) i (k + 1)).Nodup := by
      rw [wayL_succ]
      exact List.nodup_append.mpr ⟨hnd, by simp, fun x hx y hy => by
        rw [List.mem_singleton.mp hy]; exact fun e => hnm (e ▸ hx)⟩
    have hk5 : k + 1 ≤ 5 := by
      have := nodup_le 5 _ hnd2 fun y hy => by
        simp only [wayL, List.mem_map] at hy
        obtain ⟨j, _, rfl⟩ := hy
        exact hV.orb rdg h0 j
      rw [wayL_length] at this; exact this
    have hwa2 : IntsAre (ws ++ [Value.int (orb (nxD D rdg) i k) t]) (wayL (nxD D rdg) i (k + 1)) := by rw [wayL_succ]; exact hws.append (.cons _ t .nil)
    have heD : eD D kq rdg (orb (nxD D rdg) i k) = endF ⟨b0, prs, rd, wr⟩ (orb (nxD D rdg) i k) kq rdg := by simp only [eD, hd]
    have hno2 : endF ⟨b0, prs, rd, wr⟩ (orb (nxD D rdg) i k) kq rdg = none → ∀ j < k + 1, eD D kq rdg (orb (nxD D rdg) i j) = none := fun e j hj => by
      rcases Nat.lt_succ_iff_lt_or_eq.mp hj with hj | rfl
      · exact hno j hj
      · rw [heD]; exact e
    k_steps
    · (with_reducible rename News _ _ _ _ => N9); (with_reducible rename Fr _ _ _ _ => F9); (with_reducible rename endF _ _ _ _ = none => e9); (with_reducible rename rdg = true => r9)
      subst r9
      rw [hwa] at N9
      cases m4 with
      | none => exact absurd e9 (endF_none (by intro j e; cases e))
      | fn _ _ _ => exact absurd e9 (endF_none (by intro j e; cases e))
      | @to j tj j1 j2 =>
        exact WEnd.intro F9 N9 ⟨4 - k, by omega, way, k + 1, _, wn + 1, tj, rfl, hlw, rfl, by show some (Value.int j tj) = some (Value.int (nxD D true (orb (nxD D true) i k)) tj); simp [nxD, stD, hd, nxH], rfl, rfl, rfl, rfl, hwa2, hnd2, hno2 e9, by omega⟩
    · (with_reducible rename News _ _ _ _ => N9); (with_reducible rename Fr _ _ _ _ => F9); (with_reducible rename endF _ _ _ _ = none => e9); (with_reducible rename rdg = false => r9)
      subst r9
      rw [hwa] at N9
      cases m5 with
      | none => exact absurd e9 (endF_none (by intro j e; cases e))
      | fn _ _ _ => exact absurd e9 (endF_none (by intro j e; cases e))
      | @to j tj j1 j2 =>
        exact WEnd.intro F9 N9 ⟨4 - k, by omega, way, k + 1, _, wn + 1, tj, rfl, hlw, rfl, by show some (Value.int j tj) = some (Value.int (nxD D false (orb (nxD D false) i k)) tj); simp [nxD, stD, hd, nxH], rfl, rfl, rfl, rfl, hwa2, hnd2, hno2 e9, by omega⟩
    · (with_reducible rename News h₀ _ _ _ => N9); (with_reducible rename Fr h₀ _ _ _ => F9); (with_reducible rename ∀ p ∈ (way, _) :: news, p.1 < _ => l9); (with_reducible rename _ ≤ b => c9); (with_reducible rename endF _ _ _ _ = some _ => e9); (with_reducible rename RsOb R _ _ => r9)
      refine h _ _ _ _ F9 (news_drop2 N9) (fun p hp => l9 p (.tail _ hp)) ?_
      rw [runF_found hno (heD.trans e9) (by omega)]
      exact r9
    · (with_reducible rename News h₀ _ _ _ => N9); (with_reducible rename Fr h₀ _ _ _ => F9); (with_reducible rename _ ∧ _ ∧ AllLt _ _ => l9); (with_reducible rename ¬ _ ≤ b => c9)
      refine h _ _ _ _ F9 (news_drop2 (news_drop2 N9)) (of_allLt l9.2.2) ?_
      rw [runF_end (fun j hj => hno j (by omega))]
      exact .mk .none
end
local macro_rules | `(tactic| walk_at "call ref") => `(tactic| (k_here; (with_reducible show wpAny _ _ (call (Value.ref 91) _) _ _ _); k_dflt (refine' weaken (A := lv 330 800 _ _ _ _ _ _ _) (due_spec ?V ?s ?z ?q ?b ?C ?k ?_) rfl rfl rfl ?d ?u; (case C => walk_at "mine cx"); (case V => with_reducible assumption); (case s => walk_at "mine sub"); (case z => with_reducible assumption); (case q => with_reducible assumption); (case b => with_reducible assumption); (case k => exact rfl); (case d => k_units); (case u => k_units)); intro aD' oD' h' tk' F' N' lD' rsD'; (try k_lt lD'); (try dsimp only); (try k_sweep)))
theorem off_14 : True := by
  w_top off
  trivial
section
variable {w : World} {G : Gl} {A₀ : Around} {base h₀ : Heap} {outer : List Env} {L : Addr} {m : Str → Option Value} {news : List (Addr × Obj)} {s : Shared} {cn : Str} {cs : Scope} {a : Addr} {ccd : Value} {cl : List (Str × Addr)} {Q E : Value → Shared → Prop}
/-- what stands for a value, with no bound on where it leads -/
inductive HdV (R : List (Addr × Obj)) : Value → Hd → Prop where
  | none : HdV R .none .none
  | fn {v : Value} {k : Int} : HdIn R v (.fn k) → HdV R v (.fn k)
  | to {i : Int} {t : Tok} : HdV R (.int i t) (.to i)
theorem HdIn.v {R : List (Addr × Obj)} {v : Value} {d : Hd} (h : HdIn R v d) : HdV R v d := by
  cases h with
  | none => exact .none
  | fn a b c => exact .fn (.fn a b c)
  | to _ _ => exact .to
theorem HdV.mono {R R' : List (Addr × Obj)} {v : Value} {d : Hd} (h : HdV R v d) (hs : ∀ p ∈ R, p ∈ R') : HdV R' v d := by
  cases h with
  | none => exact .none
  | fn h => exact .fn (h.mono hs)
  | to => exact .to
def isHn : Hd → Bool
  | .none => true
  | _ => false
def isHf : Hd → Bool
  | .fn _ => true
  | _ => false
/-- what a call answers, wherever it is made -/
def Gv (w : World) (G : Gl) (base : Heap) (R : List (Addr × Obj)) (f : Addr) (args : List Value) (P : Value → Prop) : Prop :=
  ∀ ⦃A₀ : Around⦄ ⦃h₀ : Heap⦄ ⦃outer : List Env⦄ ⦃L : Addr⦄ ⦃m : Str → Option Value⦄ ⦃news : List (Addr × Obj)⦄ ⦃s : Shared⦄ ⦃cn : Str⦄ ⦃cs : Scope⦄ ⦃a : Addr⦄ ⦃ccd : Value⦄ ⦃cl : List (Str × Addr)⦄ ⦃Q E : Value → Shared → Prop⦄,
    (∀ p ∈ R, p ∈ news) → Cx w G A₀ base h₀ outer L m news s.heap → cs.kind = .function →
    (∀ v h' tk', Fr h₀ L h' m → News h₀ L h' news → P v → Q v { s with heap := h', toks := tk' }) →
    wpAny (model PySem.Challenge.rw_nt0661_01.row.prog w) (lv 340 900 cn cs L a ccd cl outer) (call (.ref f) args) Q E s
theorem Gv.mono {w : World} {G : Gl} {base : Heap} {R R' : List (Addr × Obj)} {f : Addr} {args : List Value} {P P' : Value → Prop} (g : Gv w G base R f args P) (hs : ∀ p ∈ R, p ∈ R') (hp : ∀ v, P v → P' v) : Gv w G base R' f args P' :=
  fun _ _ _ _ _ _ _ _ _ _ _ _ _ _ h1 h2 h3 h4 => g (fun p hp => h1 p (hs p hp)) h2 h3 fun v h' tk' F N p => h4 v h' tk' F N (hp v p)
/-- what a value answers by itself -/
def endG (has : Bool) (ow : Option Th) (st : Hd) (i : Int) (kq : Option Ky) (rdg : Bool) : Option Rs :=
  if has && !rdg && decide (kq = none) then some ⟨5, .none, i⟩
  else match (if has then ow else none) with
    | some t => some (if rdg then ⟨0, .th t, i⟩ else ⟨4, .none, i⟩)
    | none => match st with
      | .fn k => some ⟨1, .fn k, i⟩
      | .to _ => none
      | .none => some (if has then (if rdg then ⟨0, .none, i⟩ else ⟨4, .none, i⟩) else ⟨2, .none, i⟩)
def eG (has : Int → Bool) (ow : Int → Option Th) (st : Int → Hd) (kq : Option Ky) (rdg : Bool) (i : Int) : Option Rs := endG (has i) (ow i) (st i) i kq rdg
def nxG (st : Int → Hd) (i : Int) : Int := nxH (st i)
theorem no_both {b : Bool} {P : Prop} (e : b = true) (e' : b = false) : P := by rw [e] at e'; cases e'
theorem hdv_fn {R : List (Addr × Obj)} {v : Value} {d : Hd} (h : HdV R v d) (hf : isHf d = true) : ∃ k, d = .fn k ∧ HdIn R v (.fn k) := by
  cases h with
  | none => cases hf
  | fn h => exact ⟨_, rfl, h⟩
  | to => cases hf
theorem hdv_to {R : List (Addr × Obj)} {v : Value} {d : Hd} (h : HdV R v d) (hn : isHn d = false) (hf : isHf d = false) : ∃ j t, d = .to j ∧ v = .int j t := by
  cases h with
  | none => cases hn
  | fn h => cases hf
  | to => exact ⟨_, _, rfl, rfl⟩
section
variable {has : Int → Bool} {ow : Int → Option Th} {st : Int → Hd} {kq : Option Ky} {rdg : Bool} {i : Int}
theorem eG_fn (hp : has i = true → ow i = none ∧ (rdg = false → kq ≠ none)) {k : Int} (hs : st i = .fn k) : eG has ow st kq rdg i = some ⟨1, .fn k, i⟩ := by
  unfold eG endG
  cases hh : has i with
  | false => simp [hs]
  | true => obtain ⟨a, b⟩ := hp hh; cases rdg <;> simp_all
theorem eG_to (hp : has i = true → ow i = none ∧ (rdg = false → kq ≠ none)) {k : Int} (hs : st i = .to k) : eG has ow st kq rdg i = none := by
  unfold eG endG
  cases hh : has i with
  | false => simp [hs]
  | true => obtain ⟨a, b⟩ := hp hh; cases rdg <;> simp_all
theorem eG_none (hp : has i = true → ow i = none ∧ (rdg = false → kq ≠ none)) (hs : isHn (st i) = true) : eG has ow st kq rdg i = some (if has i then (if rdg then ⟨0, .none, i⟩ else ⟨4, .none, i⟩) else ⟨2, .none, i⟩) := by
  unfold eG endG
  cases hst : st i with
  | none =>
    cases hh : has i with
    | false => simp
    | true => obtain ⟨a, b⟩ := hp hh; cases rdg <;> simp_all
  | fn k => rw [hst] at hs; cases hs
  | to k => rw [hst] at hs; cases hs
theorem eG_nokey (hh : has i = true) (hk : kq = none) : eG has ow st kq false i = some ⟨5, .none, i⟩ := by
  unfold eG endG
  simp_all
theorem eG_th (hh : has i = true) (hk : rdg = false → kq ≠ none) {t : Th} (ht : ow i = some t) : eG has ow st kq rdg i = some (if rdg then ⟨0, .th t, i⟩ else ⟨4, .none, i⟩) := by
  unfold eG endG
  cases rdg <;> simp_all
end
/-- a function of the base or of the ledger -/
def FnOk (base : Heap) (R : List (Addr × Obj)) (f : Addr) : Prop := ∃ oc od fd sl, base.get? f = some ⟨oc, od, .func fd, sl⟩ ∨ (f, (⟨oc, od, .func fd, sl⟩ : Obj)) ∈ R
theorem FnOk.at' {A₀ : Around} {base h₀ h : Heap} {R news : List (Addr × Obj)} {f L : Addr} {m : Str → Option Value} {outer : List Env} (o : FnOk base R f) (hs : ∀ p ∈ R, p ∈ news) (B : Below A₀ base outer h₀) (F : Fr h₀ L h m) (N : News h₀ L h news) : FnAt f h := by
  obtain ⟨oc, od, fd, sl, o | o⟩ := o
  · exact ⟨oc, od, fd, sl, F.keep _ _ (B.stays _ _ o)⟩
  · exact ⟨oc, od, fd, sl, (N _ (hs _ o)).1⟩
theorem FnOk.mono {base : Heap} {R R' : List (Addr × Obj)} {f : Addr} (o : FnOk base R f) (hs : ∀ p ∈ R, p ∈ R') : FnOk base R' f := by
  obtain ⟨oc, od, fd, sl, o | o⟩ := o
  · exact ⟨oc, od, fd, sl, .inl o⟩
  · exact ⟨oc, od, fd, sl, .inr (hs _ o)⟩
/-- the four that a chain is given -/
structure Four (w : World) (G : Gl) (base : Heap) (R : List (Addr × Obj)) (dom : Int → Prop) (has : Int → Bool) (ow : Int → Option Th) (st : Int → Hd) (qv : Value) (fT fO fS fF : Addr) : Prop where
  T : ∀ i t, dom i → Gv w G base R fT [.int i t] (fun v => v = .bool (has i))
  O : ∀ i t, dom i → Gv w G base R fO [.int i t, qv] (fun v => ThqIs v (ow i))
  S : ∀ i t, dom i → Gv w G base R fS [.int i t] (fun v => HdV R v (st i))
  F : ∀ i v, dom i → HdV R v (st i) → isHn (st i) = false → Gv w G base R fF [v] (fun u => u = .bool (isHf (st i)))
  N : ∀ i j, dom i → st i = .to j → dom j
  fT : FnOk base R fT
  fO : FnOk base R fO
  fS : FnOk base R fS
  fF : FnOk base R fF
section
variable {prog : Program} {w : World} {A : Around} {E : Value → Shared → Prop} {s : Shared} {Q : Value → Shared → Prop}
theorem is_none_hd {q : Value} {R : List (Addr × Obj)} {d : Hd} (hq : HdV R q d) (h : Q (.bool (isHn d)) s) : wpAny (model prog w) A (compareOp .Is q .none) Q E s := by
  cases hq with
  | none => exact wpAny_is_self rfl h
  | fn hv => cases hv; exact wpAny_is_other (by rfl) (by intro x; cases x) h
  | to => exact wpAny_is_other (by rfl) (by intro x; cases x) h
end
theorem small_range {b : Int} (hb : 0 ≤ b ∧ b < 100) : Builtin.Range.small 0 b 1 = true := by
  obtain ⟨n, rfl⟩ : ∃ n : Nat, b = n := ⟨b.toNat, by omega⟩
  have : n < 100 := by omega
  exact (by decide +kernel : ∀ n : Fin 100, Builtin.Range.small 0 ((n : Nat) : Int) 1 = true) ⟨n, this⟩
local macro_rules | `(tactic| walk_at "compareOp IsNot none") => `(tactic| (refine' isnot_none_th ?q ?_; (case q => with_reducible assumption)))
local macro_rules | `(tactic| walk_at "compareOp Is none") => `(tactic| first | (refine' is_none_key ?q ?_; (case q => with_reducible assumption)) | (refine' is_none_hd ?q ?_; (case q => with_reducible assumption)))
local macro_rules | `(tactic| walk_at "mine hn") => `(tactic| first | with_reducible assumption | exact eq_false_of_ne_true (by with_reducible assumption))
theorem Gv.use {w : World} {G : Gl} {base : Heap} {R : List (Addr × Obj)} {f : Addr} {args : List Value} {P : Value → Prop} {A₀ : Around} {h₀ : Heap} {outer : List Env} {L : Addr} {m : Str → Option Value} {news : List (Addr × Obj)} {s : Shared} {cn : Str} {cs : Scope} {a : Addr} {ccd : Value} {cl : List (Str × Addr)} {Q E : Value → Shared → Prop}
    (g : Gv w G base R f args P) (hs : ∀ p ∈ R, p ∈ news) (C : Cx w G A₀ base h₀ outer L m news s.heap) (hk : cs.kind = .function)
    (h : ∀ v h' tk', Fr h₀ L h' m → News h₀ L h' news → P v → Q v { s with heap := h', toks := tk' }) : wpAny (model PySem.Challenge.rw_nt0661_01.row.prog w) (lv 340 900 cn cs L a ccd cl outer) (call (.ref f) args) Q E s :=
  g hs C hk h
local macro_rules | `(tactic| walk_at "call ref") => `(tactic| (k_here; k_dflt (refine' weaken (A := lv 340 900 _ _ _ _ _ _ _) (Gv.use ?g ?s ?C ?k ?_) rfl rfl rfl ?d ?u; (case g => first | exact Four.T (by with_reducible assumption) _ _ (by with_reducible assumption) | exact Four.O (by with_reducible assumption) _ _ (by with_reducible assumption) | exact Four.S (by with_reducible assumption) _ _ (by with_reducible assumption) | exact Four.F (by with_reducible assumption) _ _ (by with_reducible assumption) (by with_reducible assumption) (by walk_at "mine hn")); (case C => walk_at "mine cx"); (case s => walk_at "mine sub"); (case k => exact rfl); (case d => k_units); (case u => k_units)); intro vG' h' tk' F' N' pG'; (try dsimp only at pG'); (try subst pG'); (try dsimp only); (try k_sweep)))
local macro_rules | `(tactic| walk_at "FnAt") => `(tactic| (k_dflt (refine' FnOk.at' ?o ?s ?B ?F ?N; (case B => k_asm); (case F => k_asm); (case N => k_asm); (case o => with_reducible assumption); (case s => walk_at "mine sub"))))
local macro_rules | `(tactic| walk_at "callWith ref") => `(tactic| (k_here; k_dflt (refine' callWith_F ?k1 ?_; (case k1 => walk_at "FnAt"); k_whole)))
theorem read_spec {R : List (Addr × Obj)} {dom : Int → Prop} {has : Int → Bool} {ow : Int → Option Th} {st : Int → Hd} {qv : Value} {kq : Option Ky} {fT fO fS fF : Addr} {i b : Int} {ti tb : Tok} (h4 : Four w G base R dom has ow st qv fT fO fS fF) (hs : ∀ p ∈ R, p ∈ news) (h0 : dom i) (hb : 0 ≤ b ∧ b < 100)
    (C : Cx w G A₀ base h₀ outer L m news s.heap) (hk : cs.kind = .function)
    (h : ∀ a o h' tk', Fr h₀ L h' m → News h₀ L h' ((a, o) :: news) → (∀ p ∈ news, p.1 < a) → RsOb R o (runF (eG has ow st kq true) (nxG st) b.toNat i) → Q (.ref a) { s with heap := h', toks := tk' }) :
    wpAny (model PySem.Challenge.rw_nt0661_01.row.prog w) (lv 330 800 cn cs L a ccd cl outer) (call (.ref 21) [.ref fT, .ref fO, .ref fS, .ref fF, .int i ti, qv, .int b tb]) Q E s := by
  obtain ⟨B, F, X, N, T⟩ := C
  have ofT := h4.fT
  have ofO := h4.fO
  have ofS := h4.fS
  have ofF := h4.fF
  refine wpAny_call ?_
  k_dflt cell_enter
  k_steps
  (with_reducible rename IsRange _ _ _ _ _ _ _ _ => hr9); (with_reducible rename News _ _ _ _ => N9); (with_reducible rename Fr _ _ _ _ => F9)
  have hnb : ((b.toNat : Nat) : Int) = b := by omega
  refine iter_range (n := b.toNat) (fun j m nx => nx = news ∧ ∃ (t : Tok), m (Str.ofString "is_table") = some (.ref fT) ∧ m (Str.ofString "own") = some (.ref fO) ∧ m (Str.ofString "stand_in") = some (.ref fS) ∧ m (Str.ofString "is_function") = some (.ref fF) ∧
      m (Str.ofString "value") = some (.int (orb (nxG st) i j) t) ∧ m (Str.ofString "key") = some qv ∧ dom (orb (nxG st) i j) ∧ (∀ j' < j, eG has ow st kq true (orb (nxG st) i j') = none))
    rfl hr9 (small_range hb) ((rangeSize_nat 0 b).trans (by omega)) F9 N9 ⟨rfl, ti, rfl, rfl, rfl, rfl, rfl, rfl, h0, fun j hj => absurd hj (Nat.not_lt_zero _)⟩ (by intro _ _; rfl) ?_ ?_
  · rintro j t m₁ nx h3 tk3 I oI lI hj ⟨rfl, tv, mT, mO, mS, mF, mv, mk, hd, hno⟩ hnI F3 N3
    clear F9 N9 lI hr9
    rw [map6 mT mO mS mF mv mk] at F3
    try k_fold
    k_steps
    k_steps
    · (with_reducible rename News h₀ _ _ _ => N9); (with_reducible rename Fr h₀ _ _ _ => F9); (with_reducible rename _ ∧ AllLt _ _ => l9); (with_reducible rename ThqIs _ _ => q9); (with_reducible rename ow _ ≠ none => n9)
      rcases thq_split q9 with ⟨e9, _⟩ | ⟨t9, e9, ht9⟩
      · exact absurd e9 n9
      refine h _ _ _ _ F9 (news_drop2 N9) (of_allLt l9.2) ?_
      rw [runF_found hno (eG_th (rdg := true) (by assumption) (fun e => nomatch e) e9) hj]
      exact .mk (.th ht9)
    · (with_reducible rename News h₀ _ _ _ => N9); (with_reducible rename Fr h₀ _ _ _ => F9); (with_reducible rename _ ∧ AllLt _ _ => l9)
      refine h _ _ _ _ F9 (news_drop2 N9) (of_allLt l9.2) ?_
      rw [runF_found hno (eG_none (rdg := true) (fun e => by first | exact ⟨Decidable.not_not.mp (by assumption), fun e => nomatch e⟩ | exact no_both e (by with_reducible assumption)) (by assumption)) hj, if_pos (by assumption)]
      exact .mk .none
    · (with_reducible rename News h₀ _ _ _ => N9); (with_reducible rename Fr h₀ _ _ _ => F9); (with_reducible rename _ ∧ AllLt _ _ => l9); (with_reducible rename HdV _ _ _ => q9); obtain ⟨k9, h9, hf9⟩ := hdv_fn q9 (by with_reducible assumption); refine h _ _ _ _ F9 (news_drop2 N9) (of_allLt l9.2) ?_; rw [runF_found hno (eG_fn (rdg := true) (fun e => by first | exact ⟨Decidable.not_not.mp (by assumption), fun e => nomatch e⟩ | exact no_both e (by with_reducible assumption)) h9) hj]; exact .mk (.fn hf9)
    · (with_reducible rename News _ _ _ _ => N9); (with_reducible rename Fr _ _ _ _ => F9); (with_reducible rename HdV _ _ _ => q9); obtain ⟨j9, t9, h9, rfl⟩ := hdv_to q9 (by with_reducible assumption) (by with_reducible assumption); exact LEnd.intro F9 N9 hnI ⟨rfl, t9, rfl, rfl, rfl, rfl, (by show some (Value.int j9 t9) = some (Value.int (nxH (st (orb (nxG st) i j))) t9); rw [h9]; rfl), rfl, (by show dom (nxH (st (orb (nxG st) i j))); rw [h9]; exact h4.N _ _ hd h9), (fun j' hj' => by (rcases Nat.lt_succ_iff_lt_or_eq.mp hj' with hj' | rfl); exact hno _ hj'; exact eG_to (rdg := true) (fun e => by first | exact ⟨Decidable.not_not.mp (by assumption), fun e => nomatch e⟩ | exact no_both e (by with_reducible assumption)) h9)⟩
    · (with_reducible rename News h₀ _ _ _ => N9); (with_reducible rename Fr h₀ _ _ _ => F9); (with_reducible rename _ ∧ AllLt _ _ => l9)
      refine h _ _ _ _ F9 (news_drop2 N9) (of_allLt l9.2) ?_
      rw [runF_found hno (eG_none (rdg := true) (fun e => by first | exact ⟨Decidable.not_not.mp (by assumption), fun e => nomatch e⟩ | exact no_both e (by with_reducible assumption)) (by assumption)) hj, if_neg (ne_true_of_eq_false (by with_reducible assumption))]
      exact .mk .none
    · (with_reducible rename News h₀ _ _ _ => N9); (with_reducible rename Fr h₀ _ _ _ => F9); (with_reducible rename _ ∧ AllLt _ _ => l9); (with_reducible rename HdV _ _ _ => q9); obtain ⟨k9, h9, hf9⟩ := hdv_fn q9 (by with_reducible assumption); refine h _ _ _ _ F9 (news_drop2 N9) (of_allLt l9.2) ?_; rw [runF_found hno (eG_fn (rdg := true) (fun e => by first | exact ⟨Decidable.not_not.mp (by assumption), fun e => nomatch e⟩ | exact no_both e (by with_reducible assumption)) h9) hj]; exact .mk (.fn hf9)
    · (with_reducible rename News _ _ _ _ => N9); (with_reducible rename Fr _ _ _ _ => F9); (with_reducible rename HdV _ _ _ => q9); obtain ⟨j9, t9, h9, rfl⟩ := hdv_to q9 (by with_reducible assumption) (by with_reducible assumption); exact LEnd.intro F9 N9 hnI ⟨rfl, t9, rfl, rfl, rfl, rfl, (by show some (Value.int j9 t9) = some (Value.int (nxH (st (orb (nxG st) i j))) t9); rw [h9]; rfl), rfl, (by show dom (nxH (st (orb (nxG st) i j))); rw [h9]; exact h4.N _ _ hd h9), (fun j' hj' => by (rcases Nat.lt_succ_iff_lt_or_eq.mp hj' with hj' | rfl); exact hno _ hj'; exact eG_to (rdg := true) (fun e => by first | exact ⟨Decidable.not_not.mp (by assumption), fun e => nomatch e⟩ | exact no_both e (by with_reducible assumption)) h9)⟩
  · rintro m₁ nx h3 tk3 ⟨rfl, tv, mT, mO, mS, mF, mv, mk, hd, hno⟩ F3 N3
    clear F9 N9 hr9
    rw [map6 mT mO mS mF mv mk] at F3
    try k_fold
    k_steps
    (with_reducible rename News h₀ _ _ _ => N9); (with_reducible rename Fr h₀ _ _ _ => F9); (with_reducible rename ∀ p ∈ nx, p.1 < _ => l9)
    refine h _ _ _ _ F9 N9 l9 ?_
    rw [runF_end hno]
    exact .mk .none
theorem write_spec {R : List (Addr × Obj)} {dom : Int → Prop} {has : Int → Bool} {ow : Int → Option Th} {st : Int → Hd} {qv : Value} {kq : Option Ky} {fT fO fS fF : Addr} {i b : Int} {ti tb : Tok} (h4 : Four w G base R dom has ow st qv fT fO fS fF) (hs : ∀ p ∈ R, p ∈ news) (hq : KqIs qv kq) (h0 : dom i) (hb : 0 ≤ b ∧ b < 100)
    (C : Cx w G A₀ base h₀ outer L m news s.heap) (hk : cs.kind = .function)
    (h : ∀ a o h' tk', Fr h₀ L h' m → News h₀ L h' ((a, o) :: news) → (∀ p ∈ news, p.1 < a) → RsOb R o (runF (eG has ow st kq false) (nxG st) b.toNat i) → Q (.ref a) { s with heap := h', toks := tk' }) :
    wpAny (model PySem.Challenge.rw_nt0661_01.row.prog w) (lv 330 800 cn cs L a ccd cl outer) (call (.ref 28) [.ref fT, .ref fO, .ref fS, .ref fF, .int i ti, qv, .int b tb]) Q E s := by
  obtain ⟨B, F, X, N, T⟩ := C
  have ofT := h4.fT
  have ofO := h4.fO
  have ofS := h4.fS
  have ofF := h4.fF
  refine wpAny_call ?_
  k_dflt cell_enter
  k_steps
  (with_reducible rename IsRange _ _ _ _ _ _ _ _ => hr9); (with_reducible rename News _ _ _ _ => N9); (with_reducible rename Fr _ _ _ _ => F9)
  have hnb : ((b.toNat : Nat) : Int) = b := by omega
  refine iter_range (n := b.toNat) (fun j m nx => nx = news ∧ ∃ (t : Tok), m (Str.ofString "is_table") = some (.ref fT) ∧ m (Str.ofString "own") = some (.ref fO) ∧ m (Str.ofString "stand_in") = some (.ref fS) ∧ m (Str.ofString "is_function") = some (.ref fF) ∧
      m (Str.ofString "value") = some (.int (orb (nxG st) i j) t) ∧ m (Str.ofString "key") = some qv ∧ dom (orb (nxG st) i j) ∧ (∀ j' < j, eG has ow st kq false (orb (nxG st) i j') = none))
    rfl hr9 (small_range hb) ((rangeSize_nat 0 b).trans (by omega)) F9 N9 ⟨rfl, ti, rfl, rfl, rfl, rfl, rfl, rfl, h0, fun j hj => absurd hj (Nat.not_lt_zero _)⟩ (by intro _ _; rfl) ?_ ?_
  · rintro j t m₁ nx h3 tk3 I oI lI hj ⟨rfl, tv, mT, mO, mS, mF, mv, mk, hd, hno⟩ hnI F3 N3
    clear F9 N9 lI hr9
    rw [map6 mT mO mS mF mv mk] at F3
    try k_fold
    k_steps
    k_steps
    · (with_reducible rename News h₀ _ _ _ => N9); (with_reducible rename Fr h₀ _ _ _ => F9); (with_reducible rename _ ∧ AllLt _ _ => l9)
      refine h _ _ _ _ F9 (news_drop2 N9) (of_allLt l9.2) ?_
      rw [runF_found hno (eG_nokey (by assumption) (by assumption)) hj]
      exact .mk .none
    · (with_reducible rename News h₀ _ _ _ => N9); (with_reducible rename Fr h₀ _ _ _ => F9); (with_reducible rename _ ∧ AllLt _ _ => l9); (with_reducible rename ThqIs _ _ => q9); (with_reducible rename ow _ ≠ none => n9)
      rcases thq_split q9 with ⟨e9, _⟩ | ⟨t9, e9, ht9⟩
      · exact absurd e9 n9
      refine h _ _ _ _ F9 (news_drop2 N9) (of_allLt l9.2) ?_
      rw [runF_found hno (eG_th (rdg := false) (by assumption) (fun _ => by assumption) e9) hj]
      exact .mk .none
    · (with_reducible rename News h₀ _ _ _ => N9); (with_reducible rename Fr h₀ _ _ _ => F9); (with_reducible rename _ ∧ AllLt _ _ => l9)
      refine h _ _ _ _ F9 (news_drop2 N9) (of_allLt l9.2) ?_
      rw [runF_found hno (eG_none (rdg := false) (fun e => by first | exact ⟨Decidable.not_not.mp (by assumption), fun _ => by assumption⟩ | exact no_both e (by with_reducible assumption)) (by assumption)) hj, if_pos (by assumption)]
      exact .mk .none
    · (with_reducible rename News h₀ _ _ _ => N9); (with_reducible rename Fr h₀ _ _ _ => F9); (with_reducible rename _ ∧ AllLt _ _ => l9); (with_reducible rename HdV _ _ _ => q9); obtain ⟨k9, h9, hf9⟩ := hdv_fn q9 (by with_reducible assumption); refine h _ _ _ _ F9 (news_drop2 N9) (of_allLt l9.2) ?_; rw [runF_found hno (eG_fn (rdg := false) (fun e => by first | exact ⟨Decidable.not_not.mp (by assumption), fun _ => by assumption⟩ | exact no_both e (by with_reducible assumption)) h9) hj]; exact .mk (.fn hf9)
    · (with_reducible rename News _ _ _ _ => N9); (with_reducible rename Fr _ _ _ _ => F9); (with_reducible rename HdV _ _ _ => q9); obtain ⟨j9, t9, h9, rfl⟩ := hdv_to q9 (by with_reducible assumption) (by with_reducible assumption); exact LEnd.intro F9 N9 hnI ⟨rfl, t9, rfl, rfl, rfl, rfl, (by show some (Value.int j9 t9) = some (Value.int (nxH (st (orb (nxG st) i j))) t9); rw [h9]; rfl), rfl, (by show dom (nxH (st (orb (nxG st) i j))); rw [h9]; exact h4.N _ _ hd h9), (fun j' hj' => by (rcases Nat.lt_succ_iff_lt_or_eq.mp hj' with hj' | rfl); exact hno _ hj'; exact eG_to (rdg := false) (fun e => by first | exact ⟨Decidable.not_not.mp (by assumption), fun _ => by assumption⟩ | exact no_both e (by with_reducible assumption)) h9)⟩
    · (with_reducible rename News h₀ _ _ _ => N9); (with_reducible rename Fr h₀ _ _ _ => F9); (with_reducible rename _ ∧ AllLt _ _ => l9)
      refine h _ _ _ _ F9 (news_drop2 N9) (of_allLt l9.2) ?_
      rw [runF_found hno (eG_none (rdg := false) (fun e => by first | exact ⟨Decidable.not_not.mp (by assumption), fun _ => by assumption⟩ | exact no_both e (by with_reducible assumption)) (by assumption)) hj, if_neg (ne_true_of_eq_false (by with_reducible assumption))]
      exact .mk .none
    · (with_reducible rename News h₀ _ _ _ => N9); (with_reducible rename Fr h₀ _ _ _ => F9); (with_reducible rename _ ∧ AllLt _ _ => l9); (with_reducible rename HdV _ _ _ => q9); obtain ⟨k9, h9, hf9⟩ := hdv_fn q9 (by with_reducible assumption); refine h _ _ _ _ F9 (news_drop2 N9) (of_allLt l9.2) ?_; rw [runF_found hno (eG_fn (rdg := false) (fun e => by first | exact ⟨Decidable.not_not.mp (by assumption), fun _ => by assumption⟩ | exact no_both e (by with_reducible assumption)) h9) hj]; exact .mk (.fn hf9)
    · (with_reducible rename News _ _ _ _ => N9); (with_reducible rename Fr _ _ _ _ => F9); (with_reducible rename HdV _ _ _ => q9); obtain ⟨j9, t9, h9, rfl⟩ := hdv_to q9 (by with_reducible assumption) (by with_reducible assumption); exact LEnd.intro F9 N9 hnI ⟨rfl, t9, rfl, rfl, rfl, rfl, (by show some (Value.int j9 t9) = some (Value.int (nxH (st (orb (nxG st) i j))) t9); rw [h9]; rfl), rfl, (by show dom (nxH (st (orb (nxG st) i j))); rw [h9]; exact h4.N _ _ hd h9), (fun j' hj' => by (rcases Nat.lt_succ_iff_lt_or_eq.mp hj' with hj' | rfl); exact hno _ hj'; exact eG_to (rdg := false) (fun e => by first | exact ⟨Decidable.not_not.mp (by assumption), fun _ => by assumption⟩ | exact no_both e (by with_reducible assumption)) h9)⟩
  · rintro m₁ nx h3 tk3 ⟨rfl, tv, mT, mO, mS, mF, mv, mk, hd, hno⟩ F3 N3
    clear F9 N9 hr9
    rw [map6 mT mO mS mF mv mk] at F3
    try k_fold
    k_steps
    (with_reducible rename News h₀ _ _ _ => N9); (with_reducible rename Fr h₀ _ _ _ => F9); (with_reducible rename ∀ p ∈ nx, p.1 < _ => l9)
    refine h _ _ _ _ F9 N9 l9 ?_
    rw [runF_end hno]
    exact .mk .none
end
theorem off_16 : True := by
  w_top off
  trivial
section
variable {w : World} {G : Gl} {A₀ : Around} {base h₀ : Heap} {outer : List Env} {L : Addr} {m : Str → Option Value} {news : List (Addr × Obj)} {s : Shared} {cn : Str} {cs : Scope} {a : Addr} {ccd : Value} {cl : List (Str × Addr)} {Q E : Value → Shared → Prop}
abbrev qT : Str := Str.ofString "_law_is_table" ++ ".<locals>." ++ "<lambda>"
theorem gvF {R : List (Addr × Obj)} {v : Value} {d : Hd} (hv : HdV R v d) (hn : isHn d = false) : Gv w G base R 105 [v] (fun u => u = .bool (isHf d)) := by
  intro A₀ h₀ outer L m news s cn cs a ccd cl Q E hs C hk h
  obtain ⟨B, F, X, N, T⟩ := C
  cases hv with
  | none => cases hn
  | fn hf =>
    cases hf with
    | @fn av t1 k t2 n k0 k3 hm =>
      have hm := hs _ hm
      refine wpAny_call ?_
      k_dflt cell_enter
      k_steps
      (with_reducible rename News h₀ _ _ _ => N9); (with_reducible rename Fr h₀ _ _ _ => F9)
      exact h _ _ _ F9 N9 rfl
  | to =>
      refine wpAny_call ?_
      k_dflt cell_enter
      k_steps
      (with_reducible rename News h₀ _ _ _ => N9); (with_reducible rename Fr h₀ _ _ _ => F9)
      exact h _ _ _ F9 N9 rfl
theorem fresh_head {f : Addr} {o : Obj} {tl news : List (Addr × Obj)} (_ : Fresh ((f, o) :: tl) news) : ∃ o', o' = o := ⟨o, rfl⟩
theorem ist_spec {l : Addr} {D : List Vl} {R K : List (Addr × Obj)} {ps : Array Value} {g : Obj → List (Addr × Obj) → List (Addr × Obj)} (hV : VsIn R l D) (hs : ∀ p ∈ R, p ∈ news) (U : UpdT 93 (tabObj ps) news g) (ht : TabOk qT K ps.toList) (hC : CodeHd base 97 93)
    (C : Cx w G A₀ base h₀ outer L m news s.heap) (hk : cs.kind = .function)
    (h : ∀ f ps' tl h' tk', Fr h₀ L h' m → News h₀ L h' (g (tabObj ps') tl) → Fresh tl news → TabOk qT (tl ++ K) ps'.toList → FnOk base tl f →
      (∀ i t d, 0 ≤ i → D[i.toNat]? = some d → Gv w G base (tl ++ (K ++ R)) f [.int i t] (fun v => v = .bool d.has)) → Q (.ref f) { s with heap := h', toks := tk' }) :
    wpAny (model PySem.Challenge.rw_nt0661_01.row.prog w) (lv 330 800 cn cs L a ccd cl outer) (call (.ref 98) [.ref l]) Q E s := by
  obtain ⟨B, F, X, N, T⟩ := C
  obtain ⟨R', hR, hin, hsub, hout, hmem⟩ := updT_news U
  have N1 : News h₀ L s.heap ((93, tabObj ps) :: R') := fun p hp => N p (by
    rcases List.mem_cons.mp hp with rfl | hp
    · assumption
    · exact hsub p hp)
  clear N
  refine wpAny_call ?_
  k_dflt (refine' code_defC ?k1 ?k2 ?k3 ?k4 ?k5 ?kA ?kF ?kK ?k6 ?k7 ?k8 ?k9 ?kB ?kD ?_ ?c2 ?c3 ?c4; (case kA => exact rfl); (case kF => exact rfl); (case kK => exact hk); (case k1 => k_asm); (case k2 => k_asm); (case k3 => k_asm); (case k4 => k_asm); (case k5 => k_asm); (case k6 => k_is); (case k7 => k_is); (case k8 => ktr_room); (case k9 => exact BindsTo.of_eq rfl); (case kB => exact rfl); (case kD => decide +kernel); (case c2 => exact rfl); (case c3 => exact rfl); (case c4 => exact rfl); k_whole; intro g' L' h' tk' cells' FG' F' N' Y' B' X' T' l1; (try k_lt l1); k_cells Y'; (try simp only [List.cons_append, List.nil_append] at N'); (try dsimp only); (try k_lift B'); (try k_fold))
  k_steps
  rename_i o1 do1 fL cL ctL psL tlL hL2 tkL FL NL frL tbL cdL kF kN kT kX
  have do2 : o1.data = .cell (some (.ref l)) := do1
  have hnew : ∀ p ∈ news, p.1 < L' := fun p hp => by
    rcases List.mem_cons.mp (hin p hp) with rfl | hp
    · exact l1.1
    · exact of_allLt l1.2 p hp
  have hmf : ∀ p ∈ (93, tabObj ps) :: R', p ∈ news := fun p hp => by
    rcases List.mem_cons.mp hp with rfl | hp
    · exact hmem
    · exact hsub p hp
  obtain ⟨oF, eF⟩ := fresh_head frL
  rw [← eF] at kN frL
  have ok : FnOk base ((fL, oF) :: (L' + 1, o1) :: tlL) fL := by rw [eF]; exact ⟨_, _, _, _, .inr (.head _)⟩
  refine h fL psL ((fL, oF) :: (L' + 1, o1) :: tlL) _ _ kF (fun p hp => kN p ?_) (fun p hp q hq => ?_) (tbL.mono fun p hp => ?_) ok ?_
  · have := hout _ _ p hp
    simp only [List.mem_cons, List.mem_append, List.cons_append] at this ⊢; grind
  · have h1 : ∀ q ∈ news, q.1 < L' + 1 := fun q hq => Nat.lt_succ_of_lt (hnew q hq)
    rcases List.mem_cons.mp hp with rfl | hp
    · exact Nat.lt_trans (h1 q hq) (frL _ (.head _) (L' + 1, o1) (.head _))
    · rcases List.mem_cons.mp hp with rfl | hp
      · exact h1 q hq
      · exact Nat.lt_trans (h1 q hq) (frL _ (.tail _ hp) (L' + 1, o1) (.head _))
  · simp only [List.mem_cons, List.mem_append, List.cons_append] at hp ⊢; grind
  · intro i t d h0 hd
    have hcd := cdL.mono (M' := ((fL, oF) :: (L' + 1, o1) :: tlL) ++ (K ++ R)) (fun p hp => by simp only [List.mem_cons, List.mem_append, List.cons_append] at hp ⊢; grind)
    clear kF kN kT kX FL NL frL tbL cdL F' N' B' X' T' FG' F N1 B X T hin hsub hout hmem U ht h do1 hnew hmf hR
    intro A₀' h₀' outer' L2 m' news' s' cn' cs' a' ccd' cl' Q' E' hs' C' hk' h
    obtain ⟨B, F, X, N, T⟩ := C'
    have hmf := hs' (fL, oF) (List.Mem.head _)
    rw [eF] at hmf
    have hmc := hs' (L' + 1, o1) (List.Mem.tail _ (List.Mem.head _))
    have hV' := hV.mono fun p hp => hs' p (List.mem_append_right _ (List.mem_append_right _ hp))
    obtain ⟨vs, nv, hm, hA, hlen⟩ := hV'
    obtain ⟨av, hav, hvl⟩ := hA.get2 hd
    have hi5 : i.toNat < 5 := by rw [← hlen]; exact (List.getElem?_eq_some_iff.mp hd).1
    have hav' : vs.toArray[i.toNat]? = some av := by simpa using hav
    cases hvl with
    | @mk ad pp n1 n2 b ps rv wv prs rd wr m1 m2 m3 m4 m5 =>
    refine wpAny_call ?_
    k_dflt (refine' kla_code ?k1 ?k2 ?k3 ?k4 ?k5 ?kA ?kF ?kK ?k6 ?k7 ?k8 ?k9 ?kB ?_ ?c2 ?c3 ?c4 ?c5; (case kA => exact rfl); (case kF => exact rfl); (case kK => exact hk'); (case k1 => k_asm); (case k2 => k_asm); (case k3 => k_asm); (case k4 => k_asm); (case k5 => k_asm); (case k6 => exact hmf); (case k7 => exact CodeIn.code hcd hs' N); (case k8 => ktr_room); (case k9 => exact rfl); (case c5 => decide); (case kB => exact locs rfl); (case c2 => exact rfl); (case c3 => exact rfl); (case c4 => exact rfl); k_whole; intro g' L' h' FG' F' N' B' X' T'; (try dsimp only); (try k_lift B'); (try k_fold))
    k_steps
    (with_reducible rename News h₀' _ _ _ => N9); (with_reducible rename Fr h₀' _ _ _ => F9)
    exact h _ _ _ F9 N9 rfl
end
section
theorem slot_bytes_repr : Slot "bytes" "__repr__" "bytes.__repr__" :=
  .of (owner := "bytes") (n := "__repr__") (by rw [typeLookup_type, builtinLookup_eq_fast]; kernel_rfl) (by decide +kernel) (by decide +kernel) (by decide +kernel)
    (by first | exact .inl (by decide +kernel) | exact .inr (by decide +kernel)) (by rw [isSubtype_type]; kernel_rfl)
theorem entry_bytes_repr : entryFor table "bytes.__repr__" = some Builtin.«bytes.__repr__» := entryFor_of_tree (by kernel_rfl)
theorem args_bytes_repr (a : Value) : argsOk "bytes.__repr__" ⟨[a], []⟩ := by
  unfold argsOk; rw [signature?_of (id := "bytes.__repr__") (n := ['_', '_', 'r', 'p', 'e', 'r', '_', '_']) (o := ['s', 'e', 't', 'y', 'b']) (by kernel_rfl) PySem.W.FB.owner_bytes]; kernel_rfl
def txV : Str := Builtin.Bytes.literal #[118]
theorem gives_bytes_repr (t : Tok) : Gives (Builtin.«bytes.__repr__» ⟨[.bytes #[118] t], []⟩) (.str txV) := .of_eq rfl
theorem txV_len : txV.length ≤ 4 := by decide +kernel
theorem ReprIs_v {prog : Program} {w : World} (t : Tok) : ReprIs prog w (.bytes #[118] t) txV := fun n hn _ _ s _ h => by
  have hn' : n ≤ sizeLine := by omega
  rw [pyReprUnder_leaf (v := .bytes #[118] t) hn' (fun _ e => nomatch e)]
  unfold pyRepr
  exact wpAny_bind (wpAny_pyReprObj_gives (typeIs_bytes s #[118] t) slot_bytes_repr entry_bytes_repr (args_bytes_repr _) (gives_bytes_repr t) (wpAny_pure (h _)) (hx := by have := txV_len; rw [sizeLine_eq]; omega))
def thT : Th → Str
  | .fal => "False"
  | .five => toString (5 : Int)
  | .v => txV
def fnT : Str := reprText (Str.ofString "function")
def whT : Wh → Str
  | .none => "None"
  | .th t => thT t
  | .fn k => tupleText [fnT, toString k]
/-- an answer's text -/
def rsT (r : Rs) : Str := tupleText [toString r.code, whT r.what, toString r.at']
/-- an answer in bounds -/
structure Rs.Ok (r : Rs) : Prop where
  c : 0 ≤ r.code ∧ r.code < 50
  a : 0 ≤ r.at' ∧ r.at' < 50
theorem num_len {k : Int} (h : 0 ≤ k ∧ k < 50) : (toString k : Str).length ≤ 2 := by
  obtain ⟨n, rfl⟩ : ∃ n : Nat, k = n := ⟨k.toNat, by omega⟩
  exact (by decide +kernel : ∀ n : Fin 50, (toString ((n : Nat) : Int) : Str).length ≤ 2) ⟨n, by omega⟩
theorem num_log {k : Int} (h : 0 ≤ k ∧ k < 50) : k.natAbs.log2 < 1920 := by
  obtain ⟨n, rfl⟩ : ∃ n : Nat, k = n := ⟨k.toNat, by omega⟩
  exact (by decide +kernel : ∀ n : Fin 50, ((n : Nat) : Int).natAbs.log2 < 1920) ⟨n, by omega⟩
theorem tup2_len (x y : Str) : (tupleText [x, y]).length ≤ x.length + y.length + 6 := by
  show ((("(" : Str) ++ (x ++ ", " ++ y)) ++ ((if ([x, y] : List Str).length == 1 then ",)" else ")" : String) : Str)).length ≤ _
  rw [strLen_append, strLen_append, strLen_append, strLen_append]
  have e1 : ((", " : String) : Str).length = 2 := rfl
  have e2 : (("(" : String) : Str).length = 1 := rfl
  have e3 : ((if ([x, y] : List Str).length == 1 then ",)" else ")" : String) : Str).length = 1 := rfl
  omega
theorem tup3_len (x y z : Str) : (tupleText [x, y, z]).length ≤ x.length + y.length + z.length + 8 := by
  show ((("(" : Str) ++ (x ++ ", " ++ (y ++ ", " ++ z))) ++ ((if ([x, y, z] : List Str).length == 1 then ",)" else ")" : String) : Str)).length ≤ _
  rw [strLen_append, strLen_append, strLen_append, strLen_append, strLen_append, strLen_append]
  have e1 : ((", " : String) : Str).length = 2 := rfl
  have e2 : (("(" : String) : Str).length = 1 := rfl
  have e3 : ((if ([x, y, z] : List Str).length == 1 then ",)" else ")" : String) : Str).length = 1 := rfl
  omega
theorem fnT_len : fnT.length ≤ 20 := by decide +kernel
theorem thT_len (t : Th) : (thT t).length ≤ 20 := by cases t <;> decide +kernel
section
variable {prog : Program} {w : World} {A : Around} {E : Value → Shared → Prop} {s : Shared} {h₀ : Heap} {L : Addr} {m : Str → Option Value} {news R : List (Addr × Obj)} {Q : Value → Shared → Prop}
theorem repr_wh {v : Value} {x : Wh} (hv : WhIn R v x) (hs : ∀ p ∈ R, p ∈ news) (N : News h₀ L s.heap news) {a : Addr} {its : Array Value} {n : Nat} (hm : (a, tupOf its n) ∈ news) (hz : its.size = 3) :
    (∃ as, a ∉ as ∧ ReprK prog w as s.heap 1 v (whT x)) ∧ (whT x).length ≤ 100 := by
  cases hv with
  | none => exact ⟨⟨[], by simp, .of_is ReprIs.none _ _ _⟩, by decide +kernel⟩
  | @th v t ht =>
    refine ⟨⟨[], by simp, ?_⟩, Nat.le_trans (thT_len t) (by decide)⟩
    cases ht with
    | fal => exact .of_is (ReprIs.bool false) _ _ _
    | five => exact .of_is (ReprIs.int _ (by decide)) _ _ _
    | v => exact .of_is (ReprIs_v _) _ _ _
  | @fn v k hf =>
    cases hf with
    | @fn b t1 k t2 n2 k0 k3 hb =>
      have hb' := (N _ (hs _ hb)).1
      have hlen : (whT (.fn k)).length ≤ 100 := by
        have h1 := tup2_len fnT (toString k)
        have h2 := fnT_len
        have h3 := num_len (k := k) ⟨k0, by omega⟩
        show (tupleText [fnT, toString k]).length ≤ 100
        omega
      refine ⟨⟨[b], fun e => ?_, ?_⟩, hlen⟩
      · rw [List.mem_singleton.mp e] at hm
        have := (N _ hm).1
        rw [hb'] at this
        have e2 := Option.some.inj this
        have e3 : #[Value.str "function" t1, .int k t2] = its := by injection e2 with _ _ e3 _; injection e3
        rw [← e3] at hz; cases hz
      · refine ReprK.tuple (as := []) (d := 0) hb' rfl rfl (by simp) ?_
        exact .cons (.of_is (ReprIs.str _ _ (by have := fnT_len; rw [sizeLine_eq]; exact Nat.le_trans this (by decide))) _ _ _) (.cons (.of_is (ReprIs.int _ (num_log ⟨k0, by omega⟩)) _ _ _) .nil)
theorem repr_rs {a : Addr} {o : Obj} {r : Rs} (hr : RsOb R o r) (ok : r.Ok) (hs : ∀ p ∈ R, p ∈ news) (hm : (a, o) ∈ news) (F : Fr h₀ L s.heap m) (N : News h₀ L s.heap news) (hg : A.guards = some []) (hu : A.units + 4 < cLine)
    (hQ : ∀ h' u tk, Fr h₀ L h' m → News h₀ L h' news → Q (.str (rsT r) u) { s with heap := h', toks := tk }) : wpAny (model prog w) A (call (.builtin "repr") [.ref a]) Q E s := by
  cases hr with
  | @mk c i t1 t2 v x n hx =>
  have ha := (N _ hm).1
  obtain ⟨⟨as, hna, hk⟩, hl⟩ := repr_wh (prog := prog) (w := w) hx hs N hm rfl
  have h1 : (rsT ⟨c, x, i⟩).length ≤ sizeLine := by
    have h1 := tup3_len (toString c) (whT x) (toString i)
    have h2 := num_len ok.c
    have h3 := num_len ok.a
    simp only at h2 h3
    show (tupleText [toString c, whT x, toString i]).length ≤ _
    rw [sizeLine_eq]; omega
  refine call_repr_slot (by omega) (T := "tuple") ⟨_, ha, rfl⟩ PySem.F.slot_tuple_repr ?_
  refine call_tuple_reprK (d := 1) (as := as) (g := []) ha rfl rfl hna (ts := [toString c, whT x, toString i]) ?_ hg (fun b _ => Clear.nil b) (by show A.units + 1 + (1 + 1) < cLine; omega) (fun _ _ e => e) (fun h' u tk hk => ⟨_, _, rfl, hQ h' u tk (F.keptAll hk) (N.grown hk)⟩) h1
  exact .cons (.of_is (ReprIs.int _ (num_log ok.c)) _ _ _) (.cons hk (.cons (.of_is (ReprIs.int _ (num_log ok.a)) _ _ _) .nil))
end
theorem endG_ok {has : Bool} {ow : Option Th} {st : Hd} {i : Int} {kq : Option Ky} {rdg : Bool} {r : Rs} (hi : 0 ≤ i ∧ i < 50) (h : endG has ow st i kq rdg = some r) : r.Ok := by
  unfold endG at h
  split at h
  · rw [← Option.some.inj h]; exact ⟨(by decide : (0 : Int) ≤ 5 ∧ (5 : Int) < 50), hi⟩
  · split at h
    · split at h <;> (rw [← Option.some.inj h]; exact ⟨⟨by show (0 : Int) ≤ _; simp, by simp⟩, hi⟩)
    · split at h
      · rw [← Option.some.inj h]; exact ⟨(by decide : (0 : Int) ≤ 1 ∧ (1 : Int) < 50), hi⟩
      · cases h
      · split at h
        · split at h <;> (rw [← Option.some.inj h]; exact ⟨⟨by show (0 : Int) ≤ _; simp, by simp⟩, hi⟩)
        · rw [← Option.some.inj h]; exact ⟨(by decide : (0 : Int) ≤ 2 ∧ (2 : Int) < 50), hi⟩
theorem runF_ok {e : Int → Option Rs} {nx : Int → Int} {dom : Int → Prop} (hd : ∀ i, dom i → 0 ≤ i ∧ i < 50) (he : ∀ i r, dom i → e i = some r → r.Ok) (hn : ∀ i, dom i → dom (nx i)) : ∀ {n : Nat} {i : Int}, dom i → (runF e nx n i).Ok
  | 0, i, h => ⟨(by decide : (0 : Int) ≤ 3 ∧ (3 : Int) < 50), hd i h⟩
  | n + 1, i, h => by
    show (match e i with | some r => r | none => runF e nx n (nx i)).Ok
    cases hr : e i with
    | some r => exact he i r h hr
    | none => exact runF_ok hd he hn (hn i h)
end
theorem off_18 : True := by
  w_top off
  trivial
section
variable {w : World} {G : Gl} {A₀ : Around} {base h₀ : Heap} {outer : List Env} {L : Addr} {m : Str → Option Value} {news : List (Addr × Obj)} {s : Shared} {cn : Str} {cs : Scope} {a : Addr} {ccd : Value} {cl : List (Str × Addr)} {Q E : Value → Shared → Prop}
theorem updF_T {d : Addr} {o : Obj} {news : List (Addr × Obj)} {g : Obj → List (Addr × Obj)} (U : UpdF d o news g) : ∃ g', UpdT d o news g' ∧ (∀ o' tl, ∀ p ∈ g o' ++ tl, p ∈ g' o' tl) := by
  obtain ⟨pre, post, e, hg, h1, h2⟩ := U.split
  subst e
  refine ⟨_, updT_app (UpdT.head h2) h1, fun o' tl p hp => ?_⟩
  rw [hg] at hp
  simp only [List.mem_append, List.mem_cons] at hp ⊢; grind
theorem lam_end {M : Model} {A : Around} {a c P : Addr} {mg mb : Str → Option Value} {K : List (Addr × Obj)} {g : Obj → List (Addr × Obj)}
  {p : Program} {loose : List Str} {mean : ExcName → Option Value} {name qual : Str} {params : Arguments} {body : PySem.Expr} {scope : Scope} {ps : Array Value} {pos : Pos} {firstLine : Nat} {clos : List (Str × Addr)} (F : Fr h₀ L s.heap m) (N : News h₀ L s.heap news) (T : Top p loose mean mg mb h₀) (C : CodeHd h₀ c P) (hcd : ccd = .ref c) (U : UpdF P (tabObj ps) news g) (ht : TabOk qual K ps.toList)
    (hcl : closureFor scope (envX cn cs L a ccd cl) = pure clos)
    (h : ∀ f c' ctv oF ps' tl h' tk, oF = kla_obj name qual params body scope clos ((mg "__name__").getD .none) c' ctv → Fr h₀ L h' m → News h₀ L h' ((f, oF) :: (g (tabObj ps') ++ tl)) →
      (∀ q ∈ news, q.1 < f) → Fresh tl news → TabOk qual (tl ++ K) ps'.toList → CodeIn qual (.ref c') (tl ++ K) → Q (.ref f) { s with heap := h', toks := tk }) :
    wpAny M A (makeFunction name qual params (.expr body) scope (envX cn cs L a ccd cl) [] [] [] pos firstLine) Q E s := by
  obtain ⟨g', U', hg⟩ := updF_T U
  have hsub := (updT_news U')
  refine lam_any F N T C hcd U' ht hcl fun f c' ctv ps' tl h' tk F' N' fr tb cd => ?_
  refine h f c' ctv _ ps' tl h' tk rfl F' (fun q hq => N' q ?_) (fr _ (.head _)) (fun q hq => fr q (.tail _ hq)) tb cd
  rcases List.mem_cons.mp hq with rfl | hq
  · exact hg _ _ _ (List.mem_append_right _ (.head _))
  · rcases List.mem_append.mp hq with hq | hq
    · exact hg _ _ _ (List.mem_append_left _ hq)
    · exact hg _ _ _ (List.mem_append_right _ (.tail _ hq))
theorem ist_end {l : Addr} {D : List Vl} {R K : List (Addr × Obj)} {ps : Array Value} {g : Obj → List (Addr × Obj)} (hV : VsIn R l D) (hs : ∀ p ∈ R, p ∈ news) (U : UpdF 93 (tabObj ps) news g) (ht : TabOk qT K ps.toList) (hC : CodeHd base 97 93)
    (C : Cx w G A₀ base h₀ outer L m news s.heap) (hk : cs.kind = .function)
    (h : ∀ f ps' tl h' tk', Fr h₀ L h' m → News h₀ L h' (g (tabObj ps') ++ tl) → Fresh tl news → TabOk qT (tl ++ K) ps'.toList → FnOk base tl f →
      (∀ i t d, 0 ≤ i → D[i.toNat]? = some d → Gv w G base (tl ++ (K ++ R)) f [.int i t] (fun v => v = .bool d.has)) → Q (.ref f) { s with heap := h', toks := tk' }) :
    wpAny (model PySem.Challenge.rw_nt0661_01.row.prog w) (lv 330 800 cn cs L a ccd cl outer) (call (.ref 98) [.ref l]) Q E s := by
  obtain ⟨g', U', hg⟩ := updF_T U
  exact ist_spec hV hs U' ht hC C hk fun f ps' tl h' tk' F' N' fr tb ok gv => h f ps' tl h' tk' F' (fun q hq => N' q (hg _ _ _ hq)) fr tb ok gv
end
local macro_rules | `(tactic| walk_at "call ref") => `(tactic| (k_here; (with_reducible show wpAny _ _ (call (Value.ref 98) _) _ _ _); k_dflt (refine' weaken (A := lv 330 800 _ _ _ _ _ _ _) (ist_end ?V ?s ?U ?t ?hC ?C ?k ?_) rfl rfl rfl ?d ?u; (case C => walk_at "mine cx"); (case V => with_reducible assumption); (case s => walk_at "mine sub"); (case U => k_updF); (case t => with_reducible assumption); (case hC => with_reducible assumption); (case k => exact rfl); (case d => k_units); (case u => k_units)); intro fI' psI' tlI' h' tk' F' N' lI' tbI' okI' gvI'; (try simp only [List.cons_append, List.nil_append] at N')))
local macro_rules | `(tactic| walk_at "eval Lambda") => `(tactic| (k_here; k_dflt (refine' kla_eval ?d0 ?_; (case d0 => exact rfl)); k_dflt (refine' lam_end ?F ?N ?T ?C ?cd ?U ?t ?cl ?_; (case F => k_asm); (case N => k_asm); (case T => k_asm); (case cd => exact rfl); (case C => kn_code); (case U => k_updF); (case t => first | with_reducible assumption | (dsimp only [envOfC]; with_reducible assumption)); (case cl => exact rfl); k_whole); intro fL' cL' ctL' oL' psL' tlL' h' tk' eL' F' N' fL1' frL' tbL' cdL'; (try k_lt fL1'); (try dsimp only [envOfC] at tbL' cdL'); (try simp only [List.cons_append, List.nil_append] at N')))
section
abbrev qL : Str := Str.ofString "law" ++ ".<locals>." ++ "<lambda>"
section
variable {prog : Program} {w : World} {A : Around} {E : Value → Shared → Prop} {s : Shared} {env : Env} {h₀ : Heap} {target : PySem.Expr} {body : List Stmt} {Q : Flow → Shared → Prop}
/-- over a tuple of the ledger -/
theorem iter_tup {l : Addr} {vs : Array Value} {nn : Nat} {m₀ : Str → Option Value} {news : List (Addr × Obj)} (J : Nat → (Str → Option Value) → List (Addr × Obj) → Prop)
    (hh : A.handled = none) (hm : (l, tupOf vs nn) ∈ news) (F : Fr h₀ env.locals s.heap m₀) (N : News h₀ env.locals s.heap news) (hkeep : ∀ i m nx, J i m nx → (l, tupOf vs nn) ∈ nx) (hj : J 0 m₀ news)
    (turn : ∀ i v m₁ nx h tk I oI, (∀ p ∈ news, p.1 < I) → vs[i]? = some v → J i m₁ nx → (∀ p ∈ nx, p.1 ≠ I) → Fr h₀ env.locals h m₁ → News h₀ env.locals h ((I, oI) :: nx) →
      wpAny (model prog w) A (assign target env v) (fun _ s₃ => wpAny (model prog w) A (execs body env) (LPost h₀ env.locals I oI (J (i + 1)) { s with heap := h, toks := tk } Q) E s₃) E { s with heap := h, toks := tk })
    (done : ∀ m₁ nx h tk, J vs.size m₁ nx → Fr h₀ env.locals h m₁ → News h₀ env.locals h nx → Q .next { s with heap := h, toks := tk }) :
    wpAny (model prog w) A (pyIter (.ref l)) (fun it s₂ => Turns prog w A h₀ env target body Q E it s₂) E s := by
  have hax := N _ hm
  have hl : s.heap.IsTuple l vs := ⟨_, hax.1, rfl, nn, rfl⟩
  have hne : l ≠ s.heap.objs.size := Nat.ne_of_lt (Heap.lt_size hax.1)
  refine wpAny_pyIter_tuple hl ?_
  have W := KTurns.ofWalks (target := target) (Walks.tuple (prog := prog) (w := w) hh s.heap.objs.size l hne vs) fun i v s Q E st q => letGo_tupleiter st.1 q
  refine turns_core W J ?_ (next_is_new F) ⟨⟨_, Heap.get?_push_size _ rfl, rfl, rfl⟩, hl.at fun o e => Heap.get?_push_of_some _ e⟩ (fun i h st => ?_) (F.push _) (fun p hp => ⟨Heap.get?_push_of_some _ (N p hp).1, (N p hp).2⟩)
    (fun p hp e => absurd (Heap.lt_size (N p hp).1) (e ▸ Nat.lt_irrefl _)) [(l, tupOf vs nn)] (fun b hb => ?_) (fun i m nx hJ p hp => by rw [List.mem_singleton.mp hp]; exact hkeep i m nx hJ) hj ?_ ?_
  · intro hI
    rcases List.mem_cons.mp hI with e | hI
    · exact absurd F.ns.lt (e ▸ Nat.lt_irrefl _)
    · exact hax.2.1 (List.mem_singleton.mp hI).symm
  · obtain ⟨it, hit, _⟩ := st.1
    exact ⟨it, hit⟩
  · rcases List.mem_cons.mp hb with e | hb
    · exact .inl e
    · rw [List.mem_singleton.mp hb]; exact .inr (.inr ⟨_, List.mem_singleton.mpr rfl⟩)
  · intro i v m₁ nx h tk oI hi hP hJ hnx F₁ N₁
    exact turn i v m₁ nx h tk _ oI (fun p hp => Heap.lt_size (N p hp).1) hP hJ hnx F₁ N₁
  · intro m₁ nx h tk hJ F₁ N₁
    exact done m₁ nx h tk hJ F₁ N₁
end
/-- the way of forty-one -/
def has41 (_ : Int) : Bool := true
def ow41 (i : Int) : Option Th := if i = 40 then some .five else none
def st41 (i : Int) : Hd := .to (i + 1)
theorem run41 : runF (eG has41 ow41 st41 (some .one) true) (nxG st41) (41 : Int).toNat 0 = ⟨0, .th .five, 40⟩ := by decide +kernel
theorem run40 : runF (eG has41 ow41 st41 (some .one) true) (nxG st41) (40 : Int).toNat 0 = ⟨3, .none, 40⟩ := by decide +kernel
section
variable {prog : Program} {w : World} {A : Around} {E : Value → Shared → Prop} {s : Shared} {h₀ : Heap} {L : Addr} {news R R' : List (Addr × Obj)} {Q : Value → Shared → Prop}
def dtA : Rs → PyData
  | ⟨c, .th _, i⟩ => .tuple [.int c, .int 5, .int i]
  | ⟨c, _, i⟩ => .tuple [.int c, .none, .int i]
theorem rs_reads {a : Addr} {o : Obj} {r : Rs} (hr : RsOb R o r) (hm : (a, o) ∈ news) (N : News h₀ L s.heap news) (hw : r = ⟨0, .th .five, 40⟩ ∨ r = ⟨3, .none, 40⟩) : ∃ as, Reads s.heap (.ref a) (dtA r) as := by
  have ha := (N _ hm).1
  rcases hw with rfl | rfl
  · cases hr with
    | mk hx =>
      cases hx with
      | th ht => cases ht; exact ⟨_, .tuple ha rfl rfl (.cons (.int _ _) (.cons (.int _ _) (.cons (.int _ _) .nil)))⟩
  · cases hr with
    | mk hx => cases hx; exact ⟨_, .tuple ha rfl rfl (.cons (.int _ _) (.cons .none (.cons (.int _ _) .nil)))⟩
theorem ne_rs {a a' : Addr} {o o' : Obj} {r : Rs} (h1 : RsOb R o r) (h2 : RsOb R' o' r) (hm1 : (a, o) ∈ news) (hm2 : (a', o') ∈ news) (N : News h₀ L s.heap news) (hw : r = ⟨0, .th .five, 40⟩ ∨ r = ⟨3, .none, 40⟩) (hu : A.units + 64 < cLine)
    (h : Q (.bool false) s) : wpAny (model prog w) A (compareOp .NotEq (.ref a) (.ref a')) Q E s := by
  obtain ⟨as, r1⟩ := rs_reads h1 hm1 N hw
  obtain ⟨bs, r2⟩ := rs_reads h2 hm2 N hw
  have hl : (dtA r).layable0 = true := by rcases hw with rfl | rfl <;> decide +kernel
  refine ne_dataS r1 r2 hl hl hu ?_
  have he : (!PyData.eqv (dtA r) (dtA r)) = false := by rcases hw with rfl | rfl <;> decide +kernel
  rw [he]; exact h
end
/-- what the law's loops keep: the box, the two tables of codes, and the rest -/
def LJ (b : Addr) (FR0 FR nx : List (Addr × Obj)) : Prop := ∃ (x n : Int) (t1 t2 : Tok) (pT pL : Array Value) (tl : List (Addr × Obj)), nx = (b, boxOf x t1 n t2 0) :: (93, tabObj pT) :: (107, tabObj pL) :: (tl ++ FR) ∧ BoxOk x n ∧ TabOk qT tl pT.toList ∧ TabOk qL (tl ++ FR0) pL.toList ∧
  (∀ p ∈ tl, p.1 ≠ b) ∧ (∀ p ∈ tl, p.1 ≠ 93) ∧ (∀ p ∈ tl, p.1 ≠ 107) ∧ (∀ p ∈ tl, ∀ q ∈ FR, p.1 ≠ q.1)
theorem LJ.sub {b : Addr} {FR0 FR nx : List (Addr × Obj)} (h : LJ b FR0 FR nx) : ∀ p ∈ FR, p ∈ nx := by
  obtain ⟨x, n, t1, t2, pT, pL, tl, rfl, _⟩ := h
  exact fun p hp => .tail _ (.tail _ (.tail _ (List.mem_append_right _ hp)))
theorem dj_app {t1 t2 FR : List (Addr × Obj)} (h1 : ∀ p ∈ t1, ∀ q ∈ FR, p.1 ≠ q.1) (h2 : ∀ p ∈ t2, ∀ q ∈ FR, p.1 ≠ q.1) : ∀ p ∈ t1 ++ t2, ∀ q ∈ FR, p.1 ≠ q.1 := fun p hp => (List.mem_append.mp hp).elim (h1 p) (h2 p)
theorem dj_fresh {t led FR : List (Addr × Obj)} (h : Fresh t led) (hs : ∀ p ∈ FR, p ∈ led) : ∀ p ∈ t, ∀ q ∈ FR, p.1 ≠ q.1 := fun p hp q hq => Nat.ne_of_gt (h p hp q (hs q hq))
/-- one loop's own iterator goes to the rest -/
theorem fr_push {b : Addr} {FR : List (Addr × Obj)} (I : Addr × Obj) (h1 : I.1 ≠ b) (h2 : I.1 ≠ 93) (h3 : I.1 ≠ 107) (f1 : ∀ p ∈ FR, p.1 ≠ b) (f2 : ∀ p ∈ FR, p.1 ≠ 93) (f3 : ∀ p ∈ FR, p.1 ≠ 107) :
    ∃ FR' : List (Addr × Obj), I ∈ FR' ∧ (∀ p ∈ FR, p ∈ FR') ∧ (∀ p ∈ FR', p.1 ≠ b) ∧ (∀ p ∈ FR', p.1 ≠ 93) ∧ (∀ p ∈ FR', p.1 ≠ 107) ∧ (∀ p ∈ FR', p = I ∨ p ∈ FR) :=
  ⟨I :: FR, .head _, fun p hp => .tail _ hp, List.forall_mem_cons.mpr ⟨h1, f1⟩, List.forall_mem_cons.mpr ⟨h2, f2⟩, List.forall_mem_cons.mpr ⟨h3, f3⟩, fun p hp => List.mem_cons.mp hp⟩
theorem lj_pop {b : Addr} {FR0 FR FR' nx : List (Addr × Obj)} {h₀ h : Heap} {L : Addr} {I : Addr × Obj} (hJ : LJ b FR0 FR' nx) (hI : I ∈ FR') (hs : ∀ p ∈ FR, p ∈ FR') (N : News h₀ L h nx) (h1 : I.1 ≠ b) (h2 : I.1 ≠ 93) (h3 : I.1 ≠ 107) (hF : ∀ p ∈ FR, p.1 ≠ I.1) :
    ∃ nx', LJ b FR0 FR nx' ∧ News h₀ L h (I :: nx') ∧ ∀ p ∈ nx', p.1 ≠ I.1 := by
  obtain ⟨x, n, t1, t2, pT, pL, tl, rfl, ok, tT, tL, tb, t93, t107, dj⟩ := hJ
  refine ⟨_, ⟨x, n, t1, t2, pT, pL, tl, rfl, ok, tT, tL, tb, t93, t107, fun p hp q hq => dj p hp q (hs q hq)⟩, fun p hp => N p ?_, fun p hp => ?_⟩
  · rcases List.mem_cons.mp hp with rfl | hp
    · exact .tail _ (.tail _ (.tail _ (List.mem_append_right _ hI)))
    · rcases List.mem_cons.mp hp with rfl | hp
      · exact .head _
      rcases List.mem_cons.mp hp with rfl | hp
      · exact .tail _ (.head _)
      rcases List.mem_cons.mp hp with rfl | hp
      · exact .tail _ (.tail _ (.head _))
      rcases List.mem_append.mp hp with hp | hp
      · exact .tail _ (.tail _ (.tail _ (List.mem_append_left _ hp)))
      · exact .tail _ (.tail _ (.tail _ (List.mem_append_right _ (hs p hp))))
  · rcases List.mem_cons.mp hp with rfl | hp
    · exact h1.symm
    rcases List.mem_cons.mp hp with rfl | hp
    · exact h2.symm
    rcases List.mem_cons.mp hp with rfl | hp
    · exact h3.symm
    rcases List.mem_append.mp hp with hp | hp
    · exact dj p hp I hI
    · exact hF p hp
theorem news_start {h₀ h : Heap} {L : Addr} {d5 d4 d3 d2 d1 lb l9 fo ce bo t9 t10 : Addr × Obj} {r : List (Addr × Obj)} (N : News h₀ L h (d5 :: d4 :: d3 :: d2 :: d1 :: lb :: l9 :: fo :: ce :: bo :: t9 :: t10 :: r)) :
    ∃ FR, FR = d5 :: d4 :: d3 :: d2 :: d1 :: lb :: fo :: ce :: r ∧ News h₀ L h (bo :: t9 :: t10 :: ([] ++ FR)) := ⟨_, rfl, fun p hp => N p (by simp only [List.mem_cons, List.nil_append] at hp ⊢; grind)⟩
section
variable {prog : Program} {w : World} {A : Around} {E : Value → Shared → Prop} {s : Shared} {h₀ : Heap} {L : Addr} {m : Str → Option Value} {news : List (Addr × Obj)} {Q : Value → Shared → Prop} {value slice : PySem.Expr}
theorem keys_slice {l : Addr} {t1 t2 t3 u : Tok} {n : Nat} {k : Int} {ops : List Value} (F : Fr h₀ L s.heap m) (N : News h₀ L s.heap news) (hm : (l, listOf #[.bytes #[120] t1, .int 1 t2, .bytes #[121] t3] n) ∈ news) (hk : 0 ≤ k ∧ k < 2)
    (h : ∀ D (ks : List Value) h', Fr h₀ L h' m → News h₀ L h' ((D, listOf ks.toArray 0) :: news) → (∀ p ∈ news, p.1 < D) → ks.length ≤ 3 → (∀ v ∈ ks, ∃ ky, KyIs v ky) → Q (.ref D) { s with heap := h' })
    (hs : subscripted slice false (.ref l) (.ref s.heap.objs.size) = operate ops (getItem (.ref l) (.ref s.heap.objs.size))) :
    wpAny (model prog w) A (subscriptTail value slice (.ref l) (.ref s.heap.objs.size)) Q E { s with heap := s.heap.push { cls := .type "slice", data := .fields #[.int k u, .none, .none] } } := by
  have hl : s.heap.IsList l #[.bytes #[120] t1, .int 1 t2, .bytes #[121] t3] := News.isList N hm
  refine tail_any (Heap.IsList.typeIs (s := { s with heap := s.heap.push { cls := .type "slice", data := .fields #[.int k u, .none, .none] } }) (hl.push _)) slot_list_getitem.lookup
    (wpAny_getItem_list_slice (hl.push _) (Heap.IsSliceOf.new ..) (IsPart.int k u) IsPart.none IsPart.none (by simp) ?_ (by rw [sizeLine_eq]; exact (by decide : (3 : Nat) ≤ 16777216))) hs
  have N1 := News.push (F.push { cls := .type "slice", data := .fields #[.int k u, .none, .none] }) (N.grown fun _ _ e => Heap.get?_push_of_some _ e) { cls := .type "list", data := .seq (slicePick #[.bytes #[120] t1, .int 1 t2, .bytes #[121] t3] (some k) none none) }
  refine h _ (slicePick #[.bytes #[120] t1, .int 1 t2, .bytes #[121] t3] (some k) none none).toList _ ((F.push _).push _) (by rw [Array.toArray_toList]; exact N1) (fun p hp => by rw [Heap.size_push]; exact Nat.lt_succ_of_lt (Heap.lt_size (N p hp).1)) ?_ ?_
  · rw [kms_pick_eq]
    simp only [kms_pick, List.length_take, List.length_drop]
    simp; omega
  · rw [kms_pick_eq]
    intro v hv
    have hv' := List.mem_of_mem_drop (List.mem_of_mem_take hv)
    simp only [List.mem_cons, List.not_mem_nil, or_false] at hv'
    rcases hv' with rfl | rfl | rfl
    · exact ⟨_, .x⟩
    · exact ⟨_, .one⟩
    · exact ⟨_, .y⟩
end
def hasD (D : List Vl) (i : Int) : Bool := match D[i.toNat]? with
  | some d => d.has
  | none => false
def owD (D : List Vl) (kq : Option Ky) (i : Int) : Option Th := match D[i.toNat]? with
  | some d => ownP d.pairs kq
  | none => none
def stF (D : List Vl) (rdg : Bool) (i : Int) : Hd := match D[i.toNat]? with
  | some d => if rdg then d.rd else d.wr
  | none => .to 0
theorem eG_D (D : List Vl) (kq : Option Ky) (rdg : Bool) : eG (hasD D) (owD D kq) (stF D rdg) kq rdg = eD D kq rdg := by
  funext i
  unfold eG hasD owD stF eD
  cases D[i.toNat]? with
  | none => cases rdg <;> rfl
  | some d => rfl
theorem nxG_D (D : List Vl) (rdg : Bool) : nxG (stF D rdg) = nxD D rdg := by
  funext i
  unfold nxG stF nxD stD
  cases D[i.toNat]? with
  | none => rfl
  | some d => rfl
theorem eD_ok {D : List Vl} {kq : Option Ky} {rdg : Bool} {i : Int} {r : Rs} (hi : 0 ≤ i ∧ i < 50) (h : eD D kq rdg i = some r) : r.Ok := by
  rw [← eG_D] at h
  exact endG_ok hi h
theorem run_ok {R : List (Addr × Obj)} {l : Addr} {D : List Vl} (h : VsIn R l D) (kq : Option Ky) (rdg : Bool) (n : Nat) {i : Int} (hi : 0 ≤ i ∧ i < 5) : (runF (eD D kq rdg) (nxD D rdg) n i).Ok :=
  runF_ok (dom := fun i => 0 ≤ i ∧ i < 5) (fun i hi => ⟨hi.1, by have := hi.2; omega⟩) (fun i r hi hr => eD_ok ⟨hi.1, by have := hi.2; omega⟩ hr) (fun i _ => h.nx rdg i) hi
theorem VsIn.some {R : List (Addr × Obj)} {l : Addr} {D : List Vl} (h : VsIn R l D) {i : Int} (hi : 0 ≤ i ∧ i < 5) : ∃ d, D[i.toNat]? = some d := by
  obtain ⟨_, _, _, _, h5⟩ := h
  exact ⟨_, List.getElem?_eq_getElem (by omega)⟩
theorem VsIn.step {R : List (Addr × Obj)} {l : Addr} {D : List Vl} (h : VsIn R l D) (rdg : Bool) {i j : Int} (e : stF D rdg i = .to j) : 0 ≤ j ∧ j < 5 := by
  have := h.nx rdg i
  rw [← nxG_D] at this
  unfold nxG at this
  rw [e] at this
  exact this
theorem sub_appL {R t r : List (Addr × Obj)} (h : ∀ p ∈ R, p ∈ t) : ∀ p ∈ R, p ∈ t ++ r := fun p hp => List.mem_append_left _ (h p hp)
theorem news_keys {h₀ h : Heap} {L a b : Addr} {its : Array Value} {ks : List Value} {n : Nat} {dk lk ln Io : Addr × Obj} {ob o9 o10 : Obj} {tl FR : List (Addr × Obj)} (N : News h₀ L h ((a, listOf its n) :: dk :: lk :: ln :: Io :: (b, ob) :: (93, o9) :: (107, o10) :: (tl ++ FR))) (e : its.toList = Value.none :: ks)
    (hA : ∀ p ∈ dk :: lk :: ln :: Io :: (b, ob) :: (93, o9) :: (107, o10) :: (tl ++ FR), p.1 < a) (h1 : Io.1 ≠ b) (h2 : Io.1 ≠ 93) (h3 : Io.1 ≠ 107) (f1 : ∀ p ∈ FR, p.1 ≠ b) (f2 : ∀ p ∈ FR, p.1 ≠ 93) (f3 : ∀ p ∈ FR, p.1 ≠ 107) (dj : ∀ p ∈ tl, ∀ q ∈ FR, p.1 ≠ q.1) (hI : ∀ p ∈ tl, p.1 ≠ Io.1) :
    ∃ FR2 : List (Addr × Obj), (a, listOf (Value.none :: ks).toArray n) ∈ FR2 ∧ Io ∈ FR2 ∧ (∀ p ∈ FR, p ∈ FR2) ∧ (∀ p ∈ FR2, p.1 ≠ b) ∧ (∀ p ∈ FR2, p.1 ≠ 93) ∧ (∀ p ∈ FR2, p.1 ≠ 107) ∧ (∀ p ∈ tl, ∀ q ∈ FR2, p.1 ≠ q.1) ∧ News h₀ L h ((b, ob) :: (93, o9) :: (107, o10) :: (tl ++ FR2)) := by
  have hab : a ≠ b := Nat.ne_of_gt (hA (b, ob) (by simp))
  have ha9 : a ≠ 93 := Nat.ne_of_gt (hA (93, o9) (by simp))
  have ha10 : a ≠ 107 := Nat.ne_of_gt (hA (107, o10) (by simp))
  refine ⟨(a, listOf (Value.none :: ks).toArray n) :: Io :: FR, .head _, .tail _ (.head _), fun p hp => .tail _ (.tail _ hp), List.forall_mem_cons.mpr ⟨hab, List.forall_mem_cons.mpr ⟨h1, f1⟩⟩, List.forall_mem_cons.mpr ⟨ha9, List.forall_mem_cons.mpr ⟨h2, f2⟩⟩, List.forall_mem_cons.mpr ⟨ha10, List.forall_mem_cons.mpr ⟨h3, f3⟩⟩, fun p hp => List.forall_mem_cons.mpr ⟨?_, List.forall_mem_cons.mpr ⟨hI p hp, dj p hp⟩⟩, ?_⟩
  · exact Nat.ne_of_lt (hA p (by simp only [List.mem_cons, List.mem_append]; exact .inr (.inr (.inr (.inr (.inr (.inr (.inr (.inl hp)))))))))
  · rw [← e, Array.toArray_toList]
    exact fun p hp => N p (by simp only [List.mem_cons, List.mem_append] at hp ⊢; grind)
theorem keys_kq {ks : List Value} (h : ∀ v ∈ ks, ∃ ky, KyIs v ky) {j : Nat} {v : Value} (hv : (Value.none :: ks)[j]? = some v) : ∃ kq, KqIs v kq := by
  have := List.mem_of_getElem? hv
  rcases List.mem_cons.mp this with rfl | hm
  · exact ⟨_, .none⟩
  · obtain ⟨ky, hk⟩ := h v hm
    exact ⟨_, .some hk⟩
theorem bounds_ok {t1 t2 t3 t4 : Tok} {d xw : Int} (hd : 0 ≤ d ∧ d < 4) (hw : xw = 9 ∨ xw = 30) {j : Nat} {v : Value} (hv : ([.int 0 t1, .int 1 t2, .int (4 + d) t3, .int xw t4] : List Value)[j]? = some v) : ∃ bb tb, v = .int bb tb ∧ (0 ≤ bb ∧ bb < 100) := by
  have := List.mem_of_getElem? hv
  simp only [List.mem_cons, List.not_mem_nil, or_false] at this
  rcases this with rfl | rfl | rfl | rfl
  · exact ⟨_, _, rfl, by decide⟩
  · exact ⟨_, _, rfl, by decide⟩
  · exact ⟨_, _, rfl, by omega⟩
  · exact ⟨_, _, rfl, by omega⟩
end
theorem off_20 : True := by
  w_top off
  trivial
section
variable {w : World} {G : Gl} {A₀ : Around} {base h₀ : Heap} {outer : List Env} {L : Addr} {m : Str → Option Value} {news : List (Addr × Obj)} {s : Shared} {cn : Str} {cs : Scope} {a : Addr} {ccd : Value} {cl : List (Str × Addr)} {Q E : Value → Shared → Prop}
theorem box0 {x : Int} (h : 0 ≤ x) (h' : x < 2 ^ 400) : BoxOk x 0 := ⟨h, h', by decide⟩
local macro_rules | `(tactic| walk_at "call ref") => `(tactic| (k_here; (with_reducible show wpAny _ _ (call (Value.ref 56) _) _ _ _); k_dflt (refine' weaken (A := lv 340 900 _ _ _ _ _ _ _) (whole_spec ?l ?i ?n ?C ?k ?_) rfl rfl rfl ?d ?u; (case l => assumption); (case i => assumption); (case n => omega); (case C => walk_at "mine cx"); (case k => exact rfl); (case d => k_units); (case u => k_units)); intro xW' tW' h' tk' F' N' hW0' hW1'; have okW' := box0 hW0' hW1'; (try dsimp only); (try k_sweep)))
theorem news_law {h₀ h : Heap} {L : Addr} {b c t l : Addr × Obj} {tl : List (Addr × Obj)} (N : News h₀ L h (b :: (tl ++ [c, t, l]))) : News h₀ L h (c :: b :: t :: l :: tl) := fun p hp => N p (by
  simp only [List.mem_cons, List.mem_append] at hp ⊢; grind)
local macro_rules | `(tactic| walk_at "call ref") => `(tactic| (k_here; (with_reducible show wpAny _ _ (call (Value.ref 70) _) _ _ _); k_dflt (refine' weaken (A := lv 320 700 _ _ _ _ _ _ _) (drawn_spec ?C ?k ?U ?ok ?_) rfl rfl rfl ?d ?u; (case C => walk_at "mine cx"); (case k => exact rfl); (case U => walk_at "mine updT"); (case ok => assumption); (case d => k_units); (case u => k_units)); intro lD' dD' tlD' xT' nT' tT1' tT2' h' tk' F' N' lH' hV' okT'; (replace N' := news_law N'); (try dsimp only); (try k_sweep)))
theorem pack_top {p : Program} {loose : List Str} {mean : ExcName → Option Value} {mg mb : Str → Option Value} {h : Heap} (T : Top p loose mean mg mb h) : ∃ G : Gl, Top G.p G.loose G.mean G.mg G.mb h := ⟨⟨p, loose, mean, mg, mb⟩, T⟩
/-- a call, under a name that no line of the library knows -/
def CallAt (prog : Program) (w : World) (A : Around) (E : Value → Shared → Prop) (f : Addr) (args : List Value) (Q : Value → Shared → Prop) (s : Shared) : Prop := wpAny (model prog w) A (call (.ref f) args) Q E s
theorem CallAt.go {prog : Program} {w : World} {A : Around} {E : Value → Shared → Prop} {f : Addr} {args : List Value} {Q : Value → Shared → Prop} {s : Shared} (h : CallAt prog w A E f args Q s) : wpAny (model prog w) A (call (.ref f) args) Q E s := h
theorem two_item {prog : Program} {w : World} {A : Around} {E : Value → Shared → Prop} {s : Shared} {h₀ : Heap} {L : Addr} {news : List (Addr × Obj)} {Q : Value → Shared → Prop} {value slice : PySem.Expr} {l : Addr} {k a b : Int} {u t1 t2 : Tok} {n : Nat} (N : News h₀ L s.heap news) (hm : (l, listOf #[.int a t1, .int b t2] n) ∈ news) (hk : 0 ≤ k ∧ k < 2) (h : ∀ x t, (x = a ∨ x = b) → Q (.int x t) s)
    (hs : subscripted slice false (.ref l) (.int k u) = operate [.ref l, .int k u] (getItem (.ref l) (.int k u)) := by with_unfolding_all rfl) :
    wpAny (model prog w) A (subscriptTail value slice (.ref l) (.int k u)) Q E s := by
  have h3 : k = 0 ∨ k = 1 := by omega
  rcases h3 with rfl | rfl
  · exact item_led N hm (by decide) (by decide) rfl (h _ _ (.inl rfl)) hs
  · exact item_led N hm (by decide) (by decide) rfl (h _ _ (.inr rfl)) hs
local macro_rules | `(tactic| walk_at "subscriptTail List cons Call ref int") => `(tactic| (k_here; k_dflt (refine' two_item ?N ?m ?k ?_ ?s; (case N => k_asm); (case m => k_mem); (case k => assumption); (case s => with_unfolding_all rfl); k_whole); intro xTw' tTw' hTw'))
local macro_rules | `(tactic| walk_at "call ref") => `(tactic| (k_here; (with_reducible show wpAny _ _ (call (Value.ref 21) _) _ _ _); refine' CallAt.go ?_))
local macro_rules | `(tactic| walk_at "call ref") => `(tactic| (k_here; (with_reducible show wpAny _ _ (call (Value.ref 28) _) _ _ _); refine' CallAt.go ?_))
theorem ne_same {prog : Program} {w : World} {A : Around} {E : Value → Shared → Prop} {s : Shared} {x : Str} {t u : Tok} {Q : Value → Shared → Prop} (h : Q (.bool false) s) : wpAny (model prog w) A (compareOp .NotEq (.str x t) (.str x u)) Q E s := ne_str (by simpa using h)
local macro_rules | `(tactic| walk_at "compareOp NotEq str str") => `(tactic| (refine' ne_same ?_))
local macro_rules | `(tactic| walk_at "exec For Tuple Tuple cons nil") => `(tactic| walk_at "mine for")
local macro_rules | `(tactic| walk_at "subscriptTail Call Name nil nil Slice ref ref") => `(tactic| (k_here; k_dflt (refine' keys_slice ?F ?N ?m ?k ?_ ?s; (case F => k_asm); (case N => k_asm); (case m => k_mem); (case k => assumption); (case s => with_unfolding_all rfl)); intro dK' kK' h' F' N' lK' hK1' hK2'; (try k_lt lK')))
local macro_rules | `(tactic| walk_at "mine sub") => `(tactic| first | with_reducible assumption | exact fun _ h => h | (refine' sub_cons ?_; walk_at "mine sub") | (refine' sub_app ?_; walk_at "mine sub") | (refine' sub_appL ?_; walk_at "mine sub"))
local macro_rules | `(tactic| walk_at "call builtin:repr") => `(tactic| (k_here; k_dflt (refine' repr_rs ?r ?ok ?s ?m ?F ?N ?g ?u ?_; (case F => k_asm); (case N => k_asm); (case m => k_mem); (case r => with_reducible assumption); (case ok => with_reducible assumption); (case s => walk_at "mine sub"); (case g => exact rfl); (case u => k_units)); intro hR' uR' tkR' FR' NR'))
local macro_rules | `(tactic| walk_at "callWith ref") => `(tactic| (k_here; k_dflt (refine' callWith_K ?k1 ?k2 ?_; (case k1 => k_asm); (case k2 => k_is); k_whole)))
local macro_rules | `(tactic| walk_at "callWith ref nil nil") => `(tactic| (k_here; k_dflt (refine' callWith_K ?k1 ?k2 ?_; (case k1 => k_asm); (case k2 => k_is); k_whole)))
theorem fnOk_of {base : Heap} {R : List (Addr × Obj)} {f : Addr} {o : Obj} {oc : Value} {od : Option Addr} {fd : FuncData} {sl : Array (Option Value)} (e : o = ⟨oc, od, .func fd, sl⟩) (hm : (f, o) ∈ R) : FnOk base R f := ⟨oc, od, fd, sl, .inr (e ▸ hm)⟩
local macro_rules | `(tactic| walk_at "compareOp NotEq ref ref") => `(tactic| (k_here; k_dflt (refine' ne_rs ?a ?b ?m ?n ?N ?w ?u ?_; (case N => k_asm); (case m => k_mem); (case n => k_mem); (case a => with_reducible assumption); (case b => with_reducible assumption); (case w => with_reducible assumption); (case u => k_units))))
set_option maxHeartbeats 8000000 in
theorem law_holds : PySem.Challenge.rw_nt0661_01.Holds := Mine.hd (by
  k_go0
  all_goals try k_fold
  (with_reducible rename List Int => ns9)
  (with_reducible rename IntsAre _ _ => hI9)
  have hlen9 : ns9.length ≤ 63 := by omega
  (with_reducible rename Top _ _ _ _ _ _ => tp9)
  obtain ⟨G, TG⟩ := pack_top tp9
  clear tp9
  (with_reducible rename CodeHd _ _ _ => cB)
  have cB : CodeHd _ 111 107 := cB
  (with_reducible rename World => w)
  (with_reducible rename Shared => s1)
  have cA : CodeHd (ghostOf s1.heap [(97, 93), (111, 107)]) 97 93 := codeHd
  have hfF : ∀ R, FnOk (ghostOf s1.heap [(97, 93), (111, 107)]) R 105 := by
    (with_reducible rename Frag.In _ _ => kx9)
    exact fun R => ⟨_, _, _, _, .inl (kx9 _ _ (by k_dflt k_is))⟩
  have tbL0 : TabOk qL [] (#[] : Array Value).toList := .nil
  k_steps
  rename_i hA1 tkA1 hW0 hW1 okW bx hA2 lb hA3 tkA3 lV D tlD xD nD tD1 tD2 hD tkD frD hV okD hE oC dC tkE fO cO ctO oO psO tlO hO tkO eO frO tbO cdO ltO hF d1 x1 t1a t1b t1c h1 tk1 hd1 ok1 l9 h9 lt9 d2 x2 t2a t2b t2c h2 tk2 hd2 ok2 xw tw hw lB hBd ltB hG D1 hD1 lt1 D2 hD2 lt2 D3 hD3 lt3 D4 hD4 lt4 D5 hD5 F5 N5 lt5
  clear hW0 hW1 okW tbL0
  have gvO : ∀ (i : Int) (t : Tok) (qv : Value) (kq : Option Ky) (d : Vl), 0 ≤ i → D[i.toNat]? = some d → KqIs qv kq → Gv w G (ghostOf s1.heap [(97, 93), (111, 107)]) ((fO, oO) :: (s1.heap.objs.size + 1, oC) :: (tlD ++ tlO)) fO [.int i t, qv] (fun v => ThqIs v (ownP d.pairs kq)) := by
    --<SKIP
    intro i t qv kq d h0 hd hq
    clear F5 N5 TG
    intro A₀' h₀' outer' L2 m' news' s' cn' cs' a' ccd' cl' Q' E' hs' C' hk' h
    obtain ⟨B, F, X, N, T⟩ := C'
    have hmf := hs' (fO, oO) (.head _)
    rw [eO] at hmf
    have hmc := hs' (s1.heap.objs.size + 1, oC) (.tail _ (.head _))
    have hV' := hV.mono fun p hp => hs' p (.tail _ (.tail _ (List.mem_append_left _ hp)))
    have hcd := cdO.mono (M' := news') fun p hp => by
      rw [List.append_nil] at hp
      exact hs' p (.tail _ (.tail _ (List.mem_append_right _ hp)))
    have hsc : ∀ p ∈ news', p ∈ news' := fun _ h => h
    refine wpAny_call ?_; k_dflt (refine' kla_code ?k1 ?k2 ?k3 ?k4 ?k5 ?kA ?kF ?kK ?k6 ?k7 ?k8 ?k9 ?kB ?_ ?c2 ?c3 ?c4 ?c5; (case kA => exact rfl); (case kF => exact rfl); (case kK => exact hk'); (case k1 => k_asm); (case k2 => k_asm); (case k3 => k_asm); (case k4 => k_asm); (case k5 => k_asm); (case k6 => exact hmf); (case k7 => exact CodeIn.code hcd hsc N); (case k8 => ktr_room); (case k9 => exact rfl); (case c5 => decide); (case kB => exact locs rfl); (case c2 => exact rfl); (case c3 => exact rfl); (case c4 => exact rfl); k_whole; intro g' L' h' FG' F' N' B' X' T'; (try dsimp only); (try k_lift B'); (try k_fold))
    k_steps
    (with_reducible rename News h₀' _ _ _ => N9); (with_reducible rename Fr h₀' _ _ _ => F9); (with_reducible rename ThqIs _ _ => q9)
    exact h _ _ _ F9 N9 q9
    -->SKIP
  obtain ⟨FR, eFR, NS⟩ := news_start N5
  clear N5
  have hFb : ∀ p ∈ FR, p.1 ≠ bx := by rw [eFR]; k_dflt k_all
  have hF93 : ∀ p ∈ FR, p.1 ≠ 93 := by rw [eFR]; k_dflt k_all
  have hF107 : ∀ p ∈ FR, p.1 ≠ 107 := by rw [eFR]; k_dflt k_all
  have hO : ∀ p ∈ (fO, oO) :: (s1.heap.objs.size + 1, oC) :: (tlD ++ tlO), p ∈ FR := by rw [eFR]; exact fun p hp => .tail _ (.tail _ (.tail _ (.tail _ (.tail _ (.tail _ hp)))))
  have hfO : FnOk (ghostOf s1.heap [(97, 93), (111, 107)]) FR fO := fnOk_of eO (hO _ (.head _))
  have hcell : (s1.heap.objs.size + 1, oC) ∈ FR := hO _ (.tail _ (.head _))
  have hVF : VsIn FR lV D := hV.mono fun p hp => hO p (.tail _ (.tail _ (List.mem_append_left _ hp)))
  have tbF : TabOk qL FR psO.toList := tbO.mono fun p hp => hO p (.tail _ (.tail _ (List.mem_append_right _ (by rw [List.append_nil] at hp; exact hp))))
  have hmB : ∃ tB1 tB2 tB3 tB4 nB, (lB, listOf #[.int 0 tB1, .int 1 tB2, .int (4 + d1) tB3, .int xw tB4] nB) ∈ FR := by rw [eFR]; exact ⟨_, _, _, _, _, .tail _ (.tail _ (.tail _ (.tail _ (.tail _ (.head _)))))⟩
  have hm5 : ∃ n5, (D5, tupOf #[.ref D2, .ref D4] n5) ∈ FR := by rw [eFR]; exact ⟨_, .head _⟩
  have hpr : ∀ (i : Nat) v, (#[.ref D2, .ref D4] : Array Value)[i]? = some v → ∃ pr bb tb due odue nn, v = .ref pr ∧ (pr, tupOf #[.int bb tb, .ref due] nn) ∈ FR ∧ (due, odue) ∈ FR ∧ RsOb FR odue (runF (eG has41 ow41 st41 (some .one) true) (nxG st41) bb.toNat 0) ∧ (0 ≤ bb ∧ bb < 100) ∧
      (runF (eG has41 ow41 st41 (some .one) true) (nxG st41) bb.toNat 0 = ⟨0, .th .five, 40⟩ ∨ runF (eG has41 ow41 st41 (some .one) true) (nxG st41) bb.toNat 0 = ⟨3, .none, 40⟩) := by
    intro i v hv
    rw [eFR]
    match i, hv with
    | 0, hv => exact ⟨D2, 41, _, D1, _, _, (Option.some.inj hv).symm, .tail _ (.tail _ (.tail _ (.head _))), .tail _ (.tail _ (.tail _ (.tail _ (.head _)))), by rw [run41]; exact .mk (.th .five), by decide, .inl run41⟩
    | 1, hv => exact ⟨D4, 40, _, D3, _, _, (Option.some.inj hv).symm, .tail _ (.head _), .tail _ (.tail _ (.head _)), by rw [run40]; exact .mk .none, by decide, .inr run40⟩
    | (n + 2), hv => simp at hv
  have hb93 : @LT.lt Nat _ 93 bx := lb.2.1
  have hb107 : @LT.lt Nat _ 107 bx := lb.2.2
  clear lt1 lt2 lt3 lt4 lt5 ltB lt9 ltO frO frD tbO hV eFR
  obtain ⟨n5, hm5⟩ := hm5
  refine iter_tup (fun i m nx => LJ bx FR FR nx ∧ m (Str.ofString "box") = some (.ref bx) ∧ m (Str.ofString "own") = some (.ref fO) ∧ m (Str.ofString "bounds") = some (.ref lB)) rfl (List.mem_append_right [_, _, _] hm5) F5 NS (fun i m nx h => h.1.sub _ hm5)
    ⟨⟨_, _, _, _, _, _, [], rfl, ok2, .nil, tbF, (fun p hp => nomatch hp), (fun p hp => nomatch hp), (fun p hp => nomatch hp), (fun p hp => nomatch hp)⟩, rfl, rfl, rfl⟩ ?_ ?_
  · --<SKIP
    rintro i v m₁ nx h3 tk3 I oI lI hv ⟨⟨x, n, t1, t2, pT, pL, tl, rfl, ok, tT, tL, tb, t93, t107, dj⟩, mbox, mown, mbnd⟩ hnI F3 N3
    obtain ⟨pr, bb, tbb, due, odue, nn, rfl, hmp, hmd, hrs, hbb, hrr⟩ := hpr i v hv
    clear F5 NS lI
    rw [map3 mbox mown mbnd] at F3
    have hTb : ∀ p ∈ tl ++ FR, p.1 ≠ bx := all_app tb hFb
    have hT93 : ∀ p ∈ tl ++ FR, p.1 ≠ 93 := all_app t93 hF93
    have hT107 : ∀ p ∈ tl ++ FR, p.1 ≠ 107 := all_app t107 hF107
    have hIb : @Ne Nat bx I := hnI _ (.head _)
    have hI93 : @Ne Nat 93 I := hnI _ (.tail _ (.head _))
    have hI107 : @Ne Nat 107 I := hnI _ (.tail _ (.tail _ (.head _)))
    have hTI : ∀ p ∈ tl ++ FR, p.1 ≠ I := fun p hp => hnI p (.tail _ (.tail _ (.tail _ hp)))
    try k_fold
    k_steps
    rename_i fG cG ctG oG psG tlG hG2 tkG eG9 frG tbG cdG ltG hg9 Fg Ng fT cT ctT oT psT tlT hT tkT eT FT NT frT tbT cdT ltT fS cS ctS oS psS tlS hS tkS eS FS NS frS tbS cdS ltS fF cF ctF oF psF tlF hF tkF eF FF NF frF tbF cdF ltF
    unfold CallAt
    k_dflt (refine' weaken (A := lv 330 800 _ _ _ _ _ _ _) (read_spec (kq := some .one) (dom := fun i => 0 ≤ i) (has := has41) (ow := ow41) (st := st41) ?h49 ?s9 ?z9 ?b9 ?C9 ?k9 ?_) rfl rfl rfl ?d9 ?u9; (case C9 => walk_at "mine cx"); (case s9 => exact fun _ h => h); (case z9 => decide); (case b9 => exact hbb); (case k9 => exact rfl); (case d9 => k_units); (case u9 => k_units))
    · clear Fg Ng FT NT FS NS FF NF
      refine ⟨?_, ?_, ?_, ?_, ?_, fnOk_of eT (by k_dflt k_mem), fnOk_of eG9 (by k_dflt k_mem), fnOk_of eS (by k_dflt k_mem), fnOk_of eF (by k_dflt k_mem)⟩
      · intro i t hi
        intro A₀' h₀' outer' L2 m' news' s' cn' cs' a' ccd' cl' Q' E' hs' C' hk' h; obtain ⟨B, F, X, N, T⟩ := C'; have hsc : ∀ p ∈ news', p ∈ news' := fun _ h => h
        have hmf := hs' (fT, oT) (by k_dflt k_mem)
        rw [eT] at hmf
        have hcd := cdT.mono (M' := news') (fun p hp => hs' p (by simp only [List.mem_cons, List.mem_append] at hp ⊢; grind))
        refine wpAny_call ?_; k_dflt (refine' kla_code ?k1 ?k2 ?k3 ?k4 ?k5 ?kA ?kF ?kK ?k6 ?k7 ?k8 ?k9 ?kB ?_ ?c2 ?c3 ?c4 ?c5; (case kA => exact rfl); (case kF => exact rfl); (case kK => exact hk'); (case k1 => k_asm); (case k2 => k_asm); (case k3 => k_asm); (case k4 => k_asm); (case k5 => k_asm); (case k6 => exact hmf); (case k7 => exact CodeIn.code hcd hsc N); (case k8 => ktr_room); (case k9 => exact rfl); (case c5 => decide); (case kB => exact locs rfl); (case c2 => exact rfl); (case c3 => exact rfl); (case c4 => exact rfl); k_whole; intro g' L' h' FG' F' N' B' X' T'; (try dsimp only); (try k_lift B'); (try k_fold))
        k_steps
        (with_reducible rename News h₀' _ _ _ => N9); (with_reducible rename Fr h₀' _ _ _ => F9)
        exact h _ _ _ F9 N9 rfl
      · intro i t hi
        intro A₀' h₀' outer' L2 m' news' s' cn' cs' a' ccd' cl' Q' E' hs' C' hk' h; obtain ⟨B, F, X, N, T⟩ := C'; have hsc : ∀ p ∈ news', p ∈ news' := fun _ h => h
        have hmf := hs' (fG, oG) (by k_dflt k_mem)
        rw [eG9] at hmf
        have hcd := cdG.mono (M' := news') (fun p hp => hs' p (by simp only [List.mem_cons, List.mem_append] at hp ⊢; grind))
        refine wpAny_call ?_; k_dflt (refine' kla_code ?k1 ?k2 ?k3 ?k4 ?k5 ?kA ?kF ?kK ?k6 ?k7 ?k8 ?k9 ?kB ?_ ?c2 ?c3 ?c4 ?c5; (case kA => exact rfl); (case kF => exact rfl); (case kK => exact hk'); (case k1 => k_asm); (case k2 => k_asm); (case k3 => k_asm); (case k4 => k_asm); (case k5 => k_asm); (case k6 => exact hmf); (case k7 => exact CodeIn.code hcd hsc N); (case k8 => ktr_room); (case k9 => exact rfl); (case c5 => decide); (case kB => exact locs rfl); (case c2 => exact rfl); (case c3 => exact rfl); (case c4 => exact rfl); k_whole; intro g' L' h' FG' F' N' B' X' T'; (try dsimp only); (try k_lift B'); (try k_fold))
        k_steps
        · (with_reducible rename News h₀' _ _ _ => N9); (with_reducible rename Fr h₀' _ _ _ => F9); (with_reducible rename i = 40 => e9)
          exact h _ _ _ F9 N9 (by show ThqIs _ (ow41 i); unfold ow41; rw [if_pos e9]; exact .some .five)
        · (with_reducible rename News h₀' _ _ _ => N9); (with_reducible rename Fr h₀' _ _ _ => F9); (with_reducible rename ¬ i = 40 => e9)
          exact h _ _ _ F9 N9 (by show ThqIs _ (ow41 i); unfold ow41; rw [if_neg e9]; exact .none)
      · intro i t hi
        intro A₀' h₀' outer' L2 m' news' s' cn' cs' a' ccd' cl' Q' E' hs' C' hk' h; obtain ⟨B, F, X, N, T⟩ := C'; have hsc : ∀ p ∈ news', p ∈ news' := fun _ h => h
        have hmf := hs' (fS, oS) (by k_dflt k_mem)
        rw [eS] at hmf
        have hcd := cdS.mono (M' := news') (fun p hp => hs' p (by simp only [List.mem_cons, List.mem_append] at hp ⊢; grind))
        refine wpAny_call ?_; k_dflt (refine' kla_code ?k1 ?k2 ?k3 ?k4 ?k5 ?kA ?kF ?kK ?k6 ?k7 ?k8 ?k9 ?kB ?_ ?c2 ?c3 ?c4 ?c5; (case kA => exact rfl); (case kF => exact rfl); (case kK => exact hk'); (case k1 => k_asm); (case k2 => k_asm); (case k3 => k_asm); (case k4 => k_asm); (case k5 => k_asm); (case k6 => exact hmf); (case k7 => exact CodeIn.code hcd hsc N); (case k8 => ktr_room); (case k9 => exact rfl); (case c5 => decide); (case kB => exact locs rfl); (case c2 => exact rfl); (case c3 => exact rfl); (case c4 => exact rfl); k_whole; intro g' L' h' FG' F' N' B' X' T'; (try dsimp only); (try k_lift B'); (try k_fold))
        k_steps
        (with_reducible rename News h₀' _ _ _ => N9); (with_reducible rename Fr h₀' _ _ _ => F9)
        exact h _ _ _ F9 N9 .to
      · intro i v hi hv hn
        intro A₀' h₀' outer' L2 m' news' s' cn' cs' a' ccd' cl' Q' E' hs' C' hk' h; obtain ⟨B, F, X, N, T⟩ := C'; have hsc : ∀ p ∈ news', p ∈ news' := fun _ h => h
        have hmf := hs' (fF, oF) (by k_dflt k_mem)
        rw [eF] at hmf
        have hcd := cdF.mono (M' := news') (fun p hp => hs' p (by simp only [List.mem_cons, List.mem_append] at hp ⊢; grind))
        refine wpAny_call ?_; k_dflt (refine' kla_code ?k1 ?k2 ?k3 ?k4 ?k5 ?kA ?kF ?kK ?k6 ?k7 ?k8 ?k9 ?kB ?_ ?c2 ?c3 ?c4 ?c5; (case kA => exact rfl); (case kF => exact rfl); (case kK => exact hk'); (case k1 => k_asm); (case k2 => k_asm); (case k3 => k_asm); (case k4 => k_asm); (case k5 => k_asm); (case k6 => exact hmf); (case k7 => exact CodeIn.code hcd hsc N); (case k8 => ktr_room); (case k9 => exact rfl); (case c5 => decide); (case kB => exact locs rfl); (case c2 => exact rfl); (case c3 => exact rfl); (case c4 => exact rfl); k_whole; intro g' L' h' FG' F' N' B' X' T'; (try dsimp only); (try k_lift B'); (try k_fold))
        k_steps
        (with_reducible rename News h₀' _ _ _ => N9); (with_reducible rename Fr h₀' _ _ _ => F9)
        exact h _ _ _ F9 N9 rfl
      · intro i j hi hj
        have : i + 1 = j := by injection hj
        show 0 ≤ j
        omega
    · intro aR oR hR tkR FR9 NR9 ltR rsR
      k_lt ltR
      k_steps
      (with_reducible rename News _ _ _ _ => N9); (with_reducible rename Fr _ _ _ _ => F9)
      refine LEnd.intro F9 (nx := (bx, boxOf x t1 n t2 0) :: (93, tabObj pT) :: (107, tabObj psF) :: ((tl ++ (tlG ++ (tlT ++ (tlS ++ tlF)))) ++ FR)) (fun p hp => N9 p (by simp only [List.mem_cons, List.mem_append] at hp ⊢; grind)) ?_ ⟨⟨x, n, t1, t2, pT, psF, tl ++ (tlG ++ (tlT ++ (tlS ++ tlF))), rfl, ok, tT.mono (fun p hp => List.mem_append_left _ hp), tbF.mono (fun p hp => by simp only [List.mem_cons, List.mem_append] at hp ⊢; grind), all_app tb (by k_dflt k_all), all_app t93 (by k_dflt k_all), all_app t107 (by k_dflt k_all), dj_app dj (dj_app (dj_fresh frG (fun p hp => by simp only [List.mem_cons, List.mem_append]; grind)) (dj_app (dj_fresh frT (fun p hp => by simp only [List.mem_cons, List.mem_append]; grind)) (dj_app (dj_fresh frS (fun p hp => by simp only [List.mem_cons, List.mem_append]; grind)) (dj_fresh frF (fun p hp => by simp only [List.mem_cons, List.mem_append]; grind)))))⟩, rfl, rfl, rfl⟩
      have hTI1 : ∀ p ∈ tl, p.1 ≠ I := fun p hp => hTI p (List.mem_append_left _ hp)
      have hTI2 : ∀ p ∈ FR, p.1 ≠ I := fun p hp => hTI p (List.mem_append_right _ hp)
      k_dflt k_all
    -->SKIP
  · rintro m₁ nx h3 tk3 ⟨⟨x, n, t1, t2, pT, pL, tl, rfl, ok, tT, tL, tb, t93, t107, dj⟩, mbox, mown, mbnd⟩ F3 N3
    clear F5 NS hpr hm5
    rw [map3 mbox mown mbnd] at F3
    obtain ⟨tB1, tB2, tB3, tB4, nB, hmB⟩ := hmB
    try k_fold
    k_steps
    (with_reducible rename IsRange _ _ _ _ _ _ _ _ => hr9); (with_reducible rename News _ _ _ _ => N9); (with_reducible rename Fr _ _ _ _ => F9)
    refine iter_range (n := 5) (fun i m nx => LJ bx FR FR nx ∧ m (Str.ofString "box") = some (.ref bx) ∧ m (Str.ofString "own") = some (.ref fO) ∧ m (Str.ofString "bounds") = some (.ref lB))
      rfl hr9 (by decide) (by decide) F9 N9 ⟨⟨x, n, t1, t2, pT, pL, tl, rfl, ok, tT, tL, tb, t93, t107, dj⟩, rfl, rfl, rfl⟩ (by intro _ _; rfl) ?_ ?_
    · clear ok tT tL tb t93 t107 F9 N9 hr9
      rintro i ti m₁ nx h3 tk3 I oI lI hi ⟨⟨x, n, t1, t2, pT, pL, tl, rfl, ok, tT, tL, tb, t93, t107, dj⟩, mbox, mown, mbnd⟩ hnI F3 N3
      rw [map3 mbox mown mbnd] at F3
      have hTb : ∀ p ∈ tl ++ FR, p.1 ≠ bx := all_app tb hFb; have hT93 : ∀ p ∈ tl ++ FR, p.1 ≠ 93 := all_app t93 hF93; have hT107 : ∀ p ∈ tl ++ FR, p.1 ≠ 107 := all_app t107 hF107; have hIb : @Ne Nat bx I := hnI _ (.head _); have hI93 : @Ne Nat 93 I := hnI _ (.tail _ (.head _)); have hI107 : @Ne Nat 107 I := hnI _ (.tail _ (.tail _ (.head _))); have hTI : ∀ p ∈ tl ++ FR, p.1 ≠ I := fun p hp => hnI p (.tail _ (.tail _ (.tail _ hp)))
      have hi0 : 0 ≤ (0 + (i : Int)) ∧ (0 + (i : Int)) < 5 := by omega
      try k_fold
      k_steps
      rename_i dK kK hK FK NK hK1 hK2 lK hC FC NC
      obtain ⟨FR2, hk2, hI2m, hs2, f2b, f293, f2107, dj2, NS2⟩ := news_keys (ks := kK) NC (by simp) (fun p hp => Heap.lt_size (NK p hp).1) hIb.symm hI93.symm hI107.symm hFb hF93 hF107 dj (fun p hp => hTI p (List.mem_append_left _ hp))
      have hTI2 : ∀ p ∈ FR, p.1 ≠ I := fun p hp => hTI p (List.mem_append_right _ hp)
      (with_reducible rename BoxOk _ (n + 1) => ok2)
      refine iter_list (vs := Value.none :: kK) (fun j m nx => LJ bx FR FR2 nx ∧ m (Str.ofString "box") = some (.ref bx) ∧ m (Str.ofString "own") = some (.ref fO) ∧ m (Str.ofString "bounds") = some (.ref lB) ∧ m (Str.ofString "at") = some (.int (0 + (i : Int)) ti))
        rfl (List.mem_append_right (_ :: _ :: _ :: tl) hk2) FC NS2 (fun i m nx h => h.1.sub _ hk2) ⟨⟨_, _, _, _, pT, pL, tl, rfl, ok2, tT, tL, tb, t93, t107, dj2⟩, rfl, rfl, rfl, rfl⟩ ?_ ?_
      · clear ok tT tL tb t93 t107 dj hTb hT93 hT107 hTI FK NK FC NC NS2 F3 N3 lK ok2 dj2 lI hnI
        rintro j v m₁ nx h3 tk3 I2 oI2 lI2 hv ⟨⟨x, n, t1, t2, pT, pL, tl, rfl, ok, tT, tL, tb, t93, t107, dj⟩, mbox, mown, mbnd, mat⟩ hnI2 F3 N3
        obtain ⟨kq, hkq⟩ := keys_kq hK2 hv
        rw [map4 mbox mown mbnd mat] at F3
        have hI2b : @Ne Nat bx I2 := hnI2 _ (.head _)
        have hI293 : @Ne Nat 93 I2 := hnI2 _ (.tail _ (.head _))
        have hI2107 : @Ne Nat 107 I2 := hnI2 _ (.tail _ (.tail _ (.head _)))
        have hTI3 : ∀ p ∈ FR2, p.1 ≠ I2 := fun p hp => hnI2 p (.tail _ (.tail _ (.tail _ (List.mem_append_right _ hp))))
        have hTI4 : ∀ p ∈ tl, p.1 ≠ I2 := fun p hp => hnI2 p (.tail _ (.tail _ (.tail _ (List.mem_append_left _ hp))))
        obtain ⟨FR3, hI3m, hs3, f3b, f393, f3107, f3or⟩ := fr_push (b := bx) (FR := FR2) (I2, oI2) hI2b.symm hI293.symm hI2107.symm f2b f293 f2107
        have hs03 : ∀ p ∈ FR, p ∈ FR3 := fun p hp => hs3 p (hs2 p hp)
        have dj3 : ∀ p ∈ tl, ∀ q ∈ FR3, p.1 ≠ q.1 := fun p hp q hq => (f3or q hq).elim (fun e => e ▸ hTI4 p hp) (dj p hp q)
        try k_fold
        k_steps
        (with_reducible rename News _ _ _ _ => N9); (with_reducible rename Fr _ _ _ _ => F9)
        have NS3 : News _ _ _ ((bx, boxOf x t1 n t2 0) :: (93, tabObj pT) :: (107, tabObj pL) :: (tl ++ FR3)) := fun p hp => N9 p (by
          simp only [List.mem_cons, List.mem_append] at hp ⊢
          rcases hp with hp | hp | hp | hp | hp
          · exact .inr (.inl hp)
          · exact .inr (.inr (.inl hp))
          · exact .inr (.inr (.inr (.inl hp)))
          · exact .inr (.inr (.inr (.inr (.inl hp))))
          · exact (f3or p hp).elim .inl (fun h => .inr (.inr (.inr (.inr (.inr h))))))
        refine iter_list (vs := [.int 0 tB1, .int 1 tB2, .int (4 + d1) tB3, .int xw tB4]) (fun j m nx => LJ bx FR FR3 nx ∧ m (Str.ofString "box") = some (.ref bx) ∧ m (Str.ofString "own") = some (.ref fO) ∧ m (Str.ofString "bounds") = some (.ref lB) ∧ m (Str.ofString "at") = some (.int (0 + (i : Int)) ti) ∧ m (Str.ofString "key") = some v)
          rfl (List.mem_append_right (_ :: _ :: _ :: tl) (hs03 _ hmB)) F9 NS3 (fun i m nx h => h.1.sub _ (hs03 _ hmB)) ⟨⟨_, _, _, _, pT, pL, tl, rfl, ok, tT, tL, tb, t93, t107, dj3⟩, rfl, rfl, rfl, rfl, rfl⟩ ?_ ?_
        · clear ok tT tL tb t93 t107 dj F9 N9 NS3 F3 N3 dj3 hnI2 lI2 hTI4
          rintro j2 vb m₁ nx h3 tk3 I oI lI hvb ⟨⟨x, n, t1, t2, pT, pL, tl, rfl, ok, tT, tL, tb, t93, t107, dj⟩, mbox, mown, mbnd, mat, mkey⟩ hnI F3 N3
          obtain ⟨bb, tbb, rfl, hbb⟩ := bounds_ok hd1 hw hvb
          rw [map5 mbox mown mbnd mat mkey] at F3
          have hTb : ∀ p ∈ tl ++ FR3, p.1 ≠ bx := all_app tb f3b
          have hT93 : ∀ p ∈ tl ++ FR3, p.1 ≠ 93 := all_app t93 f393
          have hT107 : ∀ p ∈ tl ++ FR3, p.1 ≠ 107 := all_app t107 f3107
          have hIb : @Ne Nat bx I := hnI _ (.head _)
          have hI93 : @Ne Nat 93 I := hnI _ (.tail _ (.head _))
          have hI107 : @Ne Nat 107 I := hnI _ (.tail _ (.tail _ (.head _)))
          have hTI : ∀ p ∈ tl ++ FR3, p.1 ≠ I := fun p hp => hnI p (.tail _ (.tail _ (.tail _ hp)))
          have hcell3 := hs03 _ hcell
          clear hvb lI hd1 hw
          try k_fold
          k_steps
          rename_i fI psI tlI hI9 tkI FI NI lI tbI okI gvI fS cS ctS oS psS tlS hS tkS eS FS NS frS tbS cdS ltS
          unfold CallAt
          k_dflt (refine' weaken (A := lv 330 800 _ _ _ _ _ _ _) (read_spec (kq := kq) (dom := fun i => 0 ≤ i ∧ i < 5) (has := hasD D) (ow := owD D kq) (st := stF D true) ?yh49 ?ys9 ?yz9 ?yb9 ?yC9 ?yk9 ?_) rfl rfl rfl ?yd9 ?yu9; (case yC9 => walk_at "mine cx"); (case ys9 => exact fun _ h => h); (case yz9 => exact hi0); (case yb9 => exact hbb); (case yk9 => exact rfl); (case yd9 => k_units); (case yu9 => k_units))
          · clear FI NI FS NS
            refine ⟨?_, ?_, ?_, ?_, ?_, okI.mono (fun p hp => by simp only [List.mem_cons, List.mem_append] at hp ⊢; grind), hfO.mono (fun p hp => by have hq9 := hs03 p hp; simp only [List.mem_cons, List.mem_append]; grind), fnOk_of eS (by k_dflt k_mem), hfF _⟩
            · intro i2 t2' hi2
              obtain ⟨d, hd⟩ := hVF.some hi2
              exact (gvI i2 t2' d hi2.1 hd).mono (fun p hp => by simp only [List.mem_cons, List.mem_append] at hp ⊢; grind) (fun v e => by rw [e]; simp only [hasD, hd])
            · intro i2 t2' hi2
              obtain ⟨d, hd⟩ := hVF.some hi2
              exact (gvO i2 t2' v kq d hi2.1 hd hkq).mono (fun p hp => ((fun p hp => by have hq9 := hs03 p hp; simp only [List.mem_cons, List.mem_append]; grind) : ∀ p ∈ FR, _) p (hO p hp)) (fun v e => by simp only [owD, hd]; exact e)
            · intro i2 t2' hi2
              obtain ⟨d, hd⟩ := hVF.some hi2
              intro A₀' h₀' outer' L2 m' news' s' cn' cs' a' ccd' cl' Q' E' hs' C' hk' h; obtain ⟨B, F, X, N, T⟩ := C'; have hsc : ∀ p ∈ news', p ∈ news' := fun _ h => h
              have hmf := hs' (fS, oS) (by k_dflt k_mem)
              rw [eS] at hmf
              have hcd := cdS.mono (M' := news') (fun p hp => hs' p (by simp only [List.mem_cons, List.mem_append] at hp ⊢; grind))
              have hFn : ∀ p ∈ FR, p ∈ news' := fun p hp => hs' p (((fun p hp => by have hq9 := hs03 p hp; simp only [List.mem_cons, List.mem_append]; grind) : ∀ p ∈ FR, _) p hp)
              obtain ⟨vs, nv, hm, hA, hlen⟩ := id hVF
              obtain ⟨av, hav, hvl⟩ := hA.get2 hd
              have hi5 : i2.toNat < 5 := by rw [← hlen]; exact (List.getElem?_eq_some_iff.mp hd).1
              have hav' : vs.toArray[i2.toNat]? = some av := by simpa using hav
              have hi2' := hi2.1
              cases hvl with
              | @mk ad pp n1 n2 b0 ps rv wv prs rd wr m1 m2 m3 m4 m5 =>
              have hm := hFn _ hm
              have m1 := hFn _ m1
              have hcc := hFn _ hcell
              refine wpAny_call ?_; k_dflt (refine' kla_code ?k1 ?k2 ?k3 ?k4 ?k5 ?kA ?kF ?kK ?k6 ?k7 ?k8 ?k9 ?kB ?_ ?c2 ?c3 ?c4 ?c5; (case kA => exact rfl); (case kF => exact rfl); (case kK => exact hk'); (case k1 => k_asm); (case k2 => k_asm); (case k3 => k_asm); (case k4 => k_asm); (case k5 => k_asm); (case k6 => exact hmf); (case k7 => exact CodeIn.code hcd hsc N); (case k8 => ktr_room); (case k9 => exact rfl); (case c5 => decide); (case kB => exact locs rfl); (case c2 => exact rfl); (case c3 => exact rfl); (case c4 => exact rfl); k_whole; intro g' L' h' FG' F' N' B' X' T'; (try dsimp only); (try k_lift B'); (try k_fold))
              k_steps
              (with_reducible rename News h₀' _ _ _ => N9); (with_reducible rename Fr h₀' _ _ _ => F9)
              exact h _ _ _ F9 N9 (by show HdV _ rv _; unfold stF; rw [hd]; exact m4.v.mono (fun p hp => by have hq9 := hs03 p hp; simp only [List.mem_cons, List.mem_append]; grind))
            · intro i2 v2 hi2 hv2 hn2
              exact gvF hv2 hn2
            · intro i2 j3 hi2 e
              exact hVF.step true e
          intro aR oR hR tkR FR9 NR9 ltR rsR
          rw [eG_D, nxG_D] at rsR
          have okR := run_ok hVF kq true bb.toNat hi0
          k_lt ltR
          k_steps
          rename_i fI2 psI2 tlI2 hI92 tkI2 FI2 NI2 lI2 tbI2 okI2 gvI2 fS2 cS2 ctS2 oS2 psS2 tlS2 hS2 tkS2 eS2 FS2 NS2 frS2 tbS2 cdS2 ltS2
          unfold CallAt
          k_dflt (refine' weaken (A := lv 330 800 _ _ _ _ _ _ _) (write_spec (kq := kq) (dom := fun i => 0 ≤ i ∧ i < 5) (has := hasD D) (ow := owD D kq) (st := stF D false) ?xh49 ?xs9 ?xq9 ?xz9 ?xb9 ?xC9 ?xk9 ?_) rfl rfl rfl ?xd9 ?xu9; (case xC9 => walk_at "mine cx"); (case xs9 => exact fun _ h => h); (case xq9 => exact hkq); (case xz9 => exact hi0); (case xb9 => exact hbb); (case xk9 => exact rfl); (case xd9 => k_units); (case xu9 => k_units))
          · clear FI2 NI2 FS2 NS2
            refine ⟨?_, ?_, ?_, ?_, ?_, okI2.mono (fun p hp => by simp only [List.mem_cons, List.mem_append] at hp ⊢; grind), hfO.mono (fun p hp => by have hq9 := hs03 p hp; simp only [List.mem_cons, List.mem_append]; grind), fnOk_of eS2 (by k_dflt k_mem), hfF _⟩
            · intro i2 t2' hi2
              obtain ⟨d, hd⟩ := hVF.some hi2
              exact (gvI2 i2 t2' d hi2.1 hd).mono (fun p hp => by simp only [List.mem_cons, List.mem_append] at hp ⊢; grind) (fun v e => by rw [e]; simp only [hasD, hd])
            · intro i2 t2' hi2
              obtain ⟨d, hd⟩ := hVF.some hi2
              exact (gvO i2 t2' v kq d hi2.1 hd hkq).mono (fun p hp => ((fun p hp => by have hq9 := hs03 p hp; simp only [List.mem_cons, List.mem_append]; grind) : ∀ p ∈ FR, _) p (hO p hp)) (fun v e => by simp only [owD, hd]; exact e)
            · intro i2 t2' hi2
              obtain ⟨d, hd⟩ := hVF.some hi2
              intro A₀' h₀' outer' L2 m' news' s' cn' cs' a' ccd' cl' Q' E' hs' C' hk' h; obtain ⟨B, F, X, N, T⟩ := C'; have hsc : ∀ p ∈ news', p ∈ news' := fun _ h => h
              have hmf := hs' (fS2, oS2) (by k_dflt k_mem)
              rw [eS2] at hmf
              have hcd := cdS2.mono (M' := news') (fun p hp => hs' p (by simp only [List.mem_cons, List.mem_append] at hp ⊢; grind))
              have hFn : ∀ p ∈ FR, p ∈ news' := fun p hp => hs' p (((fun p hp => by have hq9 := hs03 p hp; simp only [List.mem_cons, List.mem_append]; grind) : ∀ p ∈ FR, _) p hp)
              obtain ⟨vs, nv, hm, hA, hlen⟩ := id hVF
              obtain ⟨av, hav, hvl⟩ := hA.get2 hd
              have hi5 : i2.toNat < 5 := by rw [← hlen]; exact (List.getElem?_eq_some_iff.mp hd).1
              have hav' : vs.toArray[i2.toNat]? = some av := by simpa using hav
              have hi2' := hi2.1
              cases hvl with
              | @mk ad pp n1 n2 b0 ps rv wv prs rd wr m1 m2 m3 m4 m5 =>
              have hm := hFn _ hm
              have m1 := hFn _ m1
              have hcc := hFn _ hcell
              refine wpAny_call ?_; k_dflt (refine' kla_code ?k1 ?k2 ?k3 ?k4 ?k5 ?kA ?kF ?kK ?k6 ?k7 ?k8 ?k9 ?kB ?_ ?c2 ?c3 ?c4 ?c5; (case kA => exact rfl); (case kF => exact rfl); (case kK => exact hk'); (case k1 => k_asm); (case k2 => k_asm); (case k3 => k_asm); (case k4 => k_asm); (case k5 => k_asm); (case k6 => exact hmf); (case k7 => exact CodeIn.code hcd hsc N); (case k8 => ktr_room); (case k9 => exact rfl); (case c5 => decide); (case kB => exact locs rfl); (case c2 => exact rfl); (case c3 => exact rfl); (case c4 => exact rfl); k_whole; intro g' L' h' FG' F' N' B' X' T'; (try dsimp only); (try k_lift B'); (try k_fold))
              k_steps
              (with_reducible rename News h₀' _ _ _ => N9); (with_reducible rename Fr h₀' _ _ _ => F9)
              exact h _ _ _ F9 N9 (by show HdV _ wv _; unfold stF; rw [hd]; exact m5.v.mono (fun p hp => by have hq9 := hs03 p hp; simp only [List.mem_cons, List.mem_append]; grind))
            · intro i2 v2 hi2 hv2 hn2
              exact gvF hv2 hn2
            · intro i2 j3 hi2 e
              exact hVF.step false e
          intro aW oW hW9 tkW FW9 NW9 ltW rsW
          rw [eG_D, nxG_D] at rsW
          have okW := run_ok hVF kq false bb.toNat hi0
          k_lt ltW
          k_steps
          (with_reducible rename News _ _ _ _ => N9); (with_reducible rename Fr _ _ _ _ => F9)
          refine LEnd.intro F9 (nx := (bx, boxOf x t1 n t2 0) :: (93, tabObj psI2) :: (107, tabObj psS2) :: ((tl ++ (tlI ++ (tlS ++ (tlI2 ++ tlS2)))) ++ FR3)) (fun p hp => N9 p (by simp only [List.mem_cons, List.mem_append] at hp ⊢; grind)) ?_ ⟨⟨x, n, t1, t2, psI2, psS2, tl ++ (tlI ++ (tlS ++ (tlI2 ++ tlS2))), rfl, ok, tbI2.mono (fun p hp => by simp only [List.mem_cons, List.mem_append] at hp ⊢; grind), tbS2.mono (fun p hp => by simp only [List.mem_cons, List.mem_append] at hp ⊢; grind), all_app tb (by k_dflt k_all), all_app t93 (by k_dflt k_all), all_app t107 (by k_dflt k_all), dj_app dj (dj_app (dj_fresh lI (fun p hp => by simp only [List.mem_cons, List.mem_append]; grind)) (dj_app (dj_fresh frS (fun p hp => by simp only [List.mem_cons, List.mem_append]; grind)) (dj_app (dj_fresh lI2 (fun p hp => by simp only [List.mem_cons, List.mem_append]; grind)) (dj_fresh frS2 (fun p hp => by simp only [List.mem_cons, List.mem_append]; grind)))))⟩, rfl, rfl, rfl, rfl, rfl⟩
          have hTI1 : ∀ p ∈ tl, p.1 ≠ I := fun p hp => hTI p (List.mem_append_left _ hp)
          have hTI5 : ∀ p ∈ FR3, p.1 ≠ I := fun p hp => hTI p (List.mem_append_right _ hp)
          k_dflt k_all
        · rintro m₂ nx h4 tk4 ⟨hJ, mbox, mown, mbnd, mat, mkey⟩ F4 N4
          obtain ⟨nx', hJ', N', hI'⟩ := lj_pop hJ hI3m hs3 N4 hI2b.symm hI293.symm hI2107.symm hTI3
          try k_fold
          k_steps
          (with_reducible rename News _ _ _ (_ :: nx') => N9); (with_reducible rename Fr _ _ _ _ => F9)
          exact LEnd.intro F9 N9 hI' ⟨hJ', mbox, mown, mbnd, mat⟩
      · rintro m₂ nx h4 tk4 ⟨hJ, mbox, mown, mbnd, mat⟩ F4 N4
        obtain ⟨nx', hJ', N', hI'⟩ := lj_pop hJ hI2m hs2 N4 hIb.symm hI93.symm hI107.symm hTI2
        try k_fold
        k_steps
        (with_reducible rename News _ _ _ (_ :: nx') => N9); (with_reducible rename Fr _ _ _ _ => F9)
        exact LEnd.intro F9 N9 hI' ⟨hJ', mbox, mown, mbnd⟩
    · clear ok tT tL tb t93 t107 dj F9 N9 hr9
      rintro m₁ nx h3 tk3 ⟨⟨x, n, t1, t2, pT, pL, tl, rfl, ok, tT, tL, tb, t93, t107, dj⟩, mbox, mown, mbnd⟩ F3 N3
      try k_fold
      k_steps)
end
end Mine
set_option maxRecDepth 100000 in
set_option maxHeartbeats 8000000 in
theorem PySem.Challenge.cw_nt0661_01_holds : PySem.Challenge.rw_nt0661_01.Holds := by
  exact Mine.law_holds
