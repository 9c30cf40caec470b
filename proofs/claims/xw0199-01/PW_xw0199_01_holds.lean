import PyProof.Rows.All
import Wide.All
import OpenK.AllK
import Wide.FinOn
import Lean
import PySem.Challenge.RW_xw0199_01
open PySem PySem.W PyProof.Rows
set_option Elab.async false
set_option maxRecDepth 100000
set_option maxHeartbeats 8000000
namespace Mine
open_top hd for PySem.Challenge.rw_xw0199_01
end Mine
namespace Mine
/-- what a call of the def at f asks and gives; Out: of the answer and the new ledger -/
def Call (w : World) (loose : List Str) (mean : ExcName → Option Value) (mg mb : Str → Option Value) (f : Addr) (d : Nat) (vs : List Value) (news : List (Addr × Obj))
    (Pre : Heap → Prop) (Out : Value → List (Addr × Obj) → Prop) : Prop :=
  ∀ (dp un : Nat) (gd : Option (List Code)) (cn : Str) (cs : Scope) (a : Addr) (ccd : Value) (cl : List (Str × Addr)) (outer : List Env) (A₀ : Around) (base h₀ : Heap) (L : Addr) (m : Str → Option Value) (s : Shared) (Q E : Value → Shared → Prop),
    Below A₀ base outer h₀ → Fr h₀ L s.heap m → (hd.heap_39 w.params).In h₀ → News h₀ L s.heap news → Top hd.view_39 loose mean mg mb h₀ → cs.kind = .function → Pre h₀ → dp + d < recursionLimit → un + 8 * d < cLine →
    (∀ r news' h' tk', Fr h₀ L h' m → News h₀ L h' news' → Out r news' → Q r { s with heap := h', toks := tk' }) →
    wpAny (model PySem.Challenge.rw_xw0199_01.row.toRowW.prog w) (ktrTop dp un gd cn cs L a ccd cl outer) (call (.ref f) vs) Q E s
theorem one_lt (c : Nat) (x : Str) (n : Nat) (hx : x.cps.toList = [n]) : ([c] < x.cps.toList) ↔ c < n := by rw [hx]; simp [List.cons_lt_cons_iff]
theorem lt_one (c : Nat) (x : Str) (n : Nat) (hx : x.cps.toList = [n]) : (x.cps.toList < [c]) ↔ n < c := by rw [hx]; simp [List.cons_lt_cons_iff]
theorem c_small (w : World) (loose : List Str) (mean : ExcName → Option Value) (mg mb : Str → Option Value) (news : List (Addr × Obj)) (c : Nat) (t : Tok) :
    Call w loose mean mg mb 56 1 [.str ⟨#[c]⟩ t] news (fun _ => True) (fun r news' => r = .bool (decide (97 ≤ c) && decide (c ≤ 122)) ∧ news' = news) := by
  unfold Call
  k_fill
  intro dp un gd cn cs a ccd cl outer A₀ base h₀ L m s Q E B F X N T hk hpre hd hu hret
  refine wpAny_call ?_
  k_dflt cell_enter
  k_steps
  all_goals (refine' hret _ _ _ _ (by k_asm) (by k_asm) ⟨congrArg Value.bool ?_, rfl⟩; dsimp only at *; simp only [one_lt c (Str.ofString "a") 97 rfl, lt_one c (Str.ofString "z") 122 rfl] at *)
  all_goals (rw [Bool.eq_iff_iff]; simp only [Bool.not_eq_true', decide_eq_false_iff_not, Bool.and_eq_true, decide_eq_true_eq]; omega)
abbrev pairO (a b : Int) (t1 t2 : Tok) (n : Nat) : Obj := { cls := .type "tuple", data := .seq #[.int a t1, .int b t2] n }
def Has (h₀ : Heap) (news : List (Addr × Obj)) (a : Addr) (o : Obj) : Prop := h₀.get? a = some o ∨ (a, o) ∈ news
inductive Rgs (P : Addr → Obj → Prop) : List Value → List (Int × Int) → Prop where
  | nil : Rgs P [] []
  | cons {r : Addr} {a b : Int} {t1 t2 : Tok} {n : Nat} {vs : List Value} {R : List (Int × Int)} : P r (pairO a b t1 t2 n) → Rgs P vs R → Rgs P (.ref r :: vs) ((a, b) :: R)
def RgIn (P : Addr → Obj → Prop) (v : Value) (R : List (Int × Int)) : Prop :=
  ∃ (l : Addr) (c : String) (vs : List Value) (n : Nat), v = .ref l ∧ (c = "list" ∨ c = "tuple") ∧ P l { cls := .type c, data := .seq vs.toArray n } ∧ Rgs P vs R
theorem Has.get {h₀ h : Heap} {L : Addr} {m : Str → Option Value} {news : List (Addr × Obj)} {a : Addr} {o : Obj} (F : Fr h₀ L h m) (N : News h₀ L h news) (x : Has h₀ news a o) : h.get? a = some o := x.elim (fun e => F.keep _ _ e) fun e => (N _ e).1
theorem Has.into {h₀ g : Heap} {L : Addr} {m : Str → Option Value} {news : List (Addr × Obj)} {a : Addr} {o : Obj} (F : Fr h₀ L g m) (x : Has h₀ news a o) : Has g news a o := x.imp (fun e => F.keep _ _ e) id
theorem Rgs.mono {P P' : Addr → Obj → Prop} (h : ∀ a o, P a o → P' a o) {vs : List Value} {R : List (Int × Int)} (x : Rgs P vs R) : Rgs P' vs R := by
  induction x with
  | nil => exact .nil
  | cons hp _ ih => exact .cons (h _ _ hp) ih
theorem RgIn.mono {P P' : Addr → Obj → Prop} (h : ∀ a o, P a o → P' a o) {v : Value} {R : List (Int × Int)} (x : RgIn P v R) : RgIn P' v R :=
  let ⟨l, c, vs, n, e, hc, hp, hr⟩ := x; ⟨l, c, vs, n, e, hc, h _ _ hp, hr.mono h⟩
section
variable {prog : Program} {w : World} {A : Around} {E : Value → Shared → Prop} {s : Shared} {env : Env} {h₀ : Heap} {target : PySem.Expr} {body : List Stmt} {Q : Flow → Shared → Prop}
theorem items_ind {ws : List (Addr × String)} {keep news : List (Addr × Obj)} {M : Str → Option Value} {x1 x2 : Str} {P : Addr → Obj → Prop} (C : List (Int × Int) → Prop)
    (done : ∀ u1 u2 : Option Value, C [] → ItemsRest prog w A E h₀ env target body Q s ws keep [] (fun y => if y = x2 then u2 else if y = x1 then u1 else M y) news)
    (step : ∀ lo hi R t1 t2 n r rest (u1 u2 : Option Value), C ((lo, hi) :: R) → P r (pairO lo hi t1 t2 n) →
      (∀ v1 v2 : Option Value, C R → ItemsRest prog w A E h₀ env target body Q s ws keep rest (fun y => if y = x2 then v2 else if y = x1 then v1 else M y) news) →
      ItemsRest prog w A E h₀ env target body Q s ws keep (.val (.ref r) :: rest) (fun y => if y = x2 then u2 else if y = x1 then u1 else M y) news)
    {vs : List Value} {R : List (Int × Int)} (hR : Rgs P vs R) (hC : C R) (hM1 : M x1 = none) (hM2 : M x2 = none) :
    ItemsRest prog w A E h₀ env target body Q s ws keep (vs.map .val) M news := by
  have all : ∀ {vs : List Value} {R : List (Int × Int)}, Rgs P vs R → C R → ∀ u1 u2 : Option Value, ItemsRest prog w A E h₀ env target body Q s ws keep (vs.map .val) (fun y => if y = x2 then u2 else if y = x1 then u1 else M y) news := by
    intro vs R hR
    induction hR with
    | nil => exact fun c u1 u2 => done u1 u2 c
    | cons hp _ ih => exact fun c u1 u2 => step _ _ _ _ _ _ _ _ u1 u2 c hp fun v1 v2 c' => ih c' v1 v2
  have e : M = fun y => if y = x2 then none else if y = x1 then none else M y := by
    funext y
    by_cases h2 : y = x2
    · rw [if_pos h2, h2, hM2]
    · rw [if_neg h2]
      by_cases h1 : y = x1
      · rw [if_pos h1, h1, hM1]
      · rw [if_neg h1]
  rw [e]
  exact all hR hC none none
theorem two_names {x1 x2 : Str} {u1 u2 v1 v2 : Option Value} {M : Str → Option Value} :
    (fun y => if y = x2 then v2 else if y = x1 then v1 else if y = x2 then u2 else if y = x1 then u1 else M y) = fun y => if y = x2 then v2 else if y = x1 then v1 else M y := by
  funext y
  by_cases h2 : y = x2
  · simp [h2]
  · by_cases h1 : y = x1
    · simp [h1]
    · simp [h2, h1]
theorem iter_rg {v : Value} {R : List (Int × Int)} {m₀ : Str → Option Value} {news sub : List (Addr × Obj)} (hh : A.handled = none) (F : Fr h₀ env.locals s.heap m₀) (N : News h₀ env.locals s.heap news) (hsub : ∀ p ∈ sub, p ∈ news) (hv : RgIn (Has h₀ sub) v R)
    (rest : ∀ (I : Addr) (k : String) (keep : List (Addr × Obj)) (vs : List Value), (∀ p ∈ news, p.1 < I) → SubL keep sub → Rgs (Has h₀ sub) vs R → ItemsRest prog w A E h₀ env target body Q s [(I, k)] keep (vs.map .val) m₀ news) :
    wpAny (model prog w) A (pyIter v) (fun it s₂ => TurnsAt prog w A h₀ env target body Q E it s₂) E s := by
  obtain ⟨l, c, vs, n, rfl, hc, hp, hr⟩ := hv
  have hg := hp.get F (fun p q => N p (hsub p q))
  have hlt : l < s.heap.objs.size := Heap.lt_size hg
  have hne : l ≠ s.heap.objs.size := Nat.ne_of_lt hlt
  have hLl : env.locals ≠ l := by
    rcases hp with h | h
    · intro e; exact absurd (Heap.lt_size h) (Nat.not_lt.mpr (e ▸ F.above))
    · intro e; exact (N _ (hsub _ h)).2.1 e.symm
  obtain ⟨keep, hkeep0, hkeep, hk2⟩ : ∃ keep : List (Addr × Obj), SubL keep sub ∧ SubL keep news ∧ ((∃ o, (l, o) ∈ keep) ∨ ∃ o, h₀.get? l = some o) := by
    rcases hp with h | h
    · exact ⟨[], trivial, trivial, .inr ⟨_, h⟩⟩
    · exact ⟨[(l, _)], ⟨h, trivial⟩, ⟨hsub _ h, trivial⟩, .inl ⟨_, List.mem_singleton.mpr rfl⟩⟩
  rcases hc with rfl | rfl
  · have hl : s.heap.IsList l vs.toArray := ⟨_, hg, rfl, n, rfl⟩
    refine wpAny_pyIter_list hl ?_
    refine ktg_core (tk0 := s.toks) (keep := keep) (KTurns.ofWalks (Walks.list hh s.heap.objs.size l hne vs.toArray) fun i v s Q E st q => letGo_listiter st.1 q) (by simp) (fun i v h hp => ⟨.val v, ?_, rfl⟩) (fun i h st => ?_) (fun b hb => ?_) (fun b hb => by simpa using hb) (fun b hb => ?_) ?_ (fun p hp hI => ?_) ?_ (F.push _) (fun p hp => ⟨Heap.get?_push_of_some _ (N p hp).1, (N p hp).2⟩) hkeep (rest _ "list_iterator" keep vs (fun p hp => Heap.lt_size (N p hp).1) hkeep0 hr)
    · have hp' : vs.toArray[i]? = some v := hp
      simpa using hp'
    · obtain ⟨it, hit, hic, _⟩ := st.1
      exact ⟨[(s.heap.objs.size, it)], ⟨⟨rfl, hic⟩, trivial⟩, fun p hp => by rw [List.mem_singleton.mp hp]; exact hit⟩
    · have hb' : b = s.heap.objs.size := by simpa using hb
      rw [hb']
      exact ⟨List.mem_cons_self .., next_is_new F⟩
    · have hb' : b = s.heap.objs.size ∨ b = l := by simpa using hb
      rcases hb' with e | e
      · exact .inl (by simp [e])
      · rw [e]; exact .inr hk2
    · intro hI
      rcases List.mem_cons.mp hI with e | hI
      · exact absurd F.ns.lt (e ▸ Nat.lt_irrefl _)
      · exact hLl (List.mem_singleton.mp hI)
    · exact absurd (Heap.lt_size (N p hp).1) ((List.mem_singleton.mp hI) ▸ Nat.lt_irrefl _)
    · exact ⟨⟨_, Heap.get?_push_size _ rfl, rfl, rfl⟩, hl.at fun o e => Heap.get?_push_of_some _ e⟩
  · have hl : s.heap.IsTuple l vs.toArray := ⟨_, hg, rfl, n, rfl⟩
    refine wpAny_pyIter_tuple hl ?_
    refine ktg_core (tk0 := s.toks) (keep := keep) (KTurns.ofWalks (Walks.tuple hh s.heap.objs.size l hne vs.toArray) fun i v s Q E st q => letGo_tupleiter st.1 q) (by simp) (fun i v h hp => ⟨.val v, ?_, rfl⟩) (fun i h st => ?_) (fun b hb => ?_) (fun b hb => by simpa using hb) (fun b hb => ?_) ?_ (fun p hp hI => ?_) ?_ (F.push _) (fun p hp => ⟨Heap.get?_push_of_some _ (N p hp).1, (N p hp).2⟩) hkeep (rest _ "tuple_iterator" keep vs (fun p hp => Heap.lt_size (N p hp).1) hkeep0 hr)
    · have hp' : vs.toArray[i]? = some v := hp
      simpa using hp'
    · obtain ⟨it, hit, hic, _⟩ := st.1
      exact ⟨[(s.heap.objs.size, it)], ⟨⟨rfl, hic⟩, trivial⟩, fun p hp => by rw [List.mem_singleton.mp hp]; exact hit⟩
    · have hb' : b = s.heap.objs.size := by simpa using hb
      rw [hb']
      exact ⟨List.mem_cons_self .., next_is_new F⟩
    · have hb' : b = s.heap.objs.size ∨ b = l := by simpa using hb
      rcases hb' with e | e
      · exact .inl (by simp [e])
      · rw [e]; exact .inr hk2
    · intro hI
      rcases List.mem_cons.mp hI with e | hI
      · exact absurd F.ns.lt (e ▸ Nat.lt_irrefl _)
      · exact hLl (List.mem_singleton.mp hI)
    · exact absurd (Heap.lt_size (N p hp).1) ((List.mem_singleton.mp hI) ▸ Nat.lt_irrefl _)
    · exact ⟨⟨_, Heap.get?_push_size _ rfl, rfl, rfl⟩, hl.at fun o e => Heap.get?_push_of_some _ e⟩
end
def inR (c : Int) : List (Int × Int) → Bool
  | [] => false
  | p :: r => if c < p.1 then false else if c ≤ p.2 then true else inR c r
theorem inR_cons (c lo hi : Int) (R : List (Int × Int)) : inR c ((lo, hi) :: R) = if c < lo then false else if c ≤ hi then true else inR c R := rfl
def hasR (c : Int) (R : List (Int × Int)) : Bool := R.any fun p => decide (p.1 ≤ c) && decide (c ≤ p.2)
end Mine
namespace Mine
section
local macro_rules | `(tactic| walk_at "exec For Tuple Name cons nil") => `(tactic| (k_here; (rename Fr _ _ _ _ => lF'); (with_unfolding_all refine' For_turns lF' ?_; k_whole)))
theorem c_in (w : World) (loose : List Str) (mean : ExcName → Option Value) (mg mb : Str → Option Value) (news : List (Addr × Obj)) (c : Int) (t : Tok) (v : Value) (R : List (Int × Int)) :
    Call w loose mean mg mb 42 1 [.int c t, v] news (fun h₀ => RgIn (Has h₀ news) v R) (fun r news' => r = .bool (inR c R) ∧ news' = news) := by
  unfold Call
  k_fill
  intro dp un gd cn cs a ccd cl outer A₀ base h₀ L m s Q E B F X N T hk hpre hd hu hret
  refine wpAny_call ?_
  k_dflt cell_enter
  k_steps
  rename_i g L' h' FG lF N' B' X' T'
  have hv := RgIn.mono (fun a o x => Has.into FG x) hpre
  refine iter_rg (by rfl) lF N' (fun _ h => h) hv ?_
  intro I k keep vs hI hkeep hR
  refine items_ind (x1 := Str.ofString "low") (x2 := Str.ofString "high") (fun R' => inR c R' = inR c R) ?_ ?_ hR rfl (by with_unfolding_all rfl) (by with_unfolding_all rfl)
  · intro u1 u2 hC
    clear N' lF hR
    k_steps
    exact hret _ _ _ _ (by k_asm) (by k_asm) ⟨congrArg Value.bool hC, rfl⟩
  · intro lo hi R' t1 t2 n r rest u1 u2 hC hP ih
    clear lF hR N'
    refine ItemsRest.val (fun h' tk' F' => ?_)
    refine AllObj.cons (fun o' hc' => AllObj.nil (fun N2 => ?_))
    have hT : IsTup h' r #[.int lo t1, .int hi t2] := ⟨_, hP.get F' (fun p hp => N2 p (List.mem_append_right _ hp)), rfl, n, rfl⟩
    rw [inR_cons] at hC
    k_steps
    · rw [if_pos (by assumption)] at hC
      rename News _ _ _ _ => lN
      exact hret _ _ _ _ (by k_asm) (fun p hp => lN p (List.mem_append_right _ hp)) ⟨congrArg Value.bool hC, rfl⟩
    · rw [if_neg (by assumption), if_pos (by assumption)] at hC
      rename News _ _ _ _ => lN
      exact hret _ _ _ _ (by k_asm) (fun p hp => lN p (List.mem_append_right _ hp)) ⟨congrArg Value.bool hC, rfl⟩
    · rw [if_neg (by assumption), if_neg (by assumption)] at hC
      rename News _ _ _ _ => lN
      rename Fr _ _ _ _ => lF
      rw [two_names] at lF
      refine ⟨_, _, _, news, rfl, lF, lN, fun p hp q hq => ?_, hkeep, ih _ _ hC⟩
      rw [List.mem_singleton.mp hq]
      exact Nat.ne_of_lt (hI p hp)
end
end Mine
namespace Mine
def RgL (news : List (Addr × Obj)) (v : Value) (R : List (Int × Int)) : Prop :=
  ∃ (l : Addr) (vs : List Value) (n : Nat), v = .ref l ∧ (l, ({ cls := .type "list", data := .seq vs.toArray n } : Obj)) ∈ news ∧ Rgs (fun a o => (a, o) ∈ news) vs R
theorem Rgs.length {P : Addr → Obj → Prop} {vs : List Value} {R : List (Int × Int)} (x : Rgs P vs R) : vs.length = R.length := by
  induction x with
  | nil => rfl
  | cons _ _ ih => rw [List.length_cons, List.length_cons, ih]
theorem Rgs.at {P : Addr → Obj → Prop} {vs : List Value} {R : List (Int × Int)} (x : Rgs P vs R) : ∀ {i : Nat} {v : Value}, vs[i]? = some v → ∃ a b t1 t2 n r, R[i]? = some (a, b) ∧ v = .ref r ∧ P r (pairO a b t1 t2 n) := by
  induction x with
  | nil => intro i v h; simp at h
  | cons hp _ ih =>
    intro i v h
    cases i with
    | zero => exact ⟨_, _, _, _, _, _, rfl, by simpa using h.symm, hp⟩
    | succ i => exact ih (by simpa using h)
theorem sum_has (c : Int) (R : List (Int × Int)) : decide (0 < (R.map fun p => if p.1 ≤ c ∧ c ≤ p.2 then (1 : Int) else 0).sum) = hasR c R := by
  have h0 : ∀ R : List (Int × Int), 0 ≤ (R.map fun p => if p.1 ≤ c ∧ c ≤ p.2 then (1 : Int) else 0).sum := by
    intro R
    induction R with
    | nil => simp
    | cons p r ih => rw [List.map_cons, List.sum_cons]; split <;> omega
  induction R with
  | nil => rfl
  | cons p r ih =>
    have h := h0 r
    have e : hasR c (p :: r) = ((decide (p.1 ≤ c) && decide (c ≤ p.2)) || hasR c r) := rfl
    rw [e, ← ih, List.map_cons, List.sum_cons, Bool.eq_iff_iff]
    simp only [Bool.or_eq_true, Bool.and_eq_true, decide_eq_true_eq]
    by_cases hp : p.1 ≤ c ∧ c ≤ p.2
    · rw [if_pos hp]; exact ⟨fun _ => .inl hp, fun _ => by omega⟩
    · rw [if_neg hp]; exact ⟨fun h => .inr (by omega), fun h => h.elim (fun q => absurd q hp) fun q => by omega⟩
theorem ints_snoc : ∀ {vs : List Value} {ns : List Int}, IntsAre vs ns → ∀ (n : Int) (t : Tok), IntsAre (vs ++ [.int n t]) (ns ++ [n])
  | _, _, .nil, n, t => .cons n t .nil
  | _, _, .cons a b h, n, t => .cons a b (ints_snoc h n t)
section
variable {prog : Program} {w : World} {A : Around} {s : Shared} {h₀ : Heap} {L : Addr} {m : Str → Option Value} {env : Env}
def IntEnd (h₀ : Heap) (L : Addr) (m : Str → Option Value) (s₁ : Shared) (need : List (Addr × Obj)) (n : Int) (y : Value) (s₂ : Shared) : Prop :=
  ∃ t h' tk', y = .int n t ∧ s₂ = { s₁ with heap := h', toks := tk' } ∧ Fr h₀ L h' m ∧ News h₀ L h' need
theorem IntEnd.intro {h₀ : Heap} {L : Addr} {m : Str → Option Value} {s₁ : Shared} {need : List (Addr × Obj)} {n n' : Int} {t : Tok} {h' : Heap} {tk' : Nat} (F : Fr h₀ L h' m) (N : News h₀ L h' need) (e : n' = n) :
    IntEnd h₀ L m s₁ need n (.int n' t) { s₁ with heap := h', toks := tk' } := ⟨t, h', tk', e ▸ rfl, rfl, F, N⟩
theorem rest_P {elt : PySem.Expr} {x x₂ : Str} {scope : Scope} {cl : List (Str × Addr)} {S : List (Addr × Obj) → Prop} {Fin : List Value → List (Addr × Obj) → Prop} {vs : List Value} {R : List (Int × Int)} {news : List (Addr × Obj)} (f : Int × Int → Int)
    (hR : Rgs (fun a o => (a, o) ∈ news) vs R) (hS : S news)
    (turn : ∀ lo hi t1 t2 ys I oI C oC D m₂ h tk (E' : Value → Shared → Prop), LCg.NsObj oC m₂ → m₂ x = some (.int lo t1) → m₂ x₂ = some (.int hi t2) → Fr h₀ L h m → News h₀ L h ((I, oI) :: (C, oC) :: (D, LCg.lst ys) :: news) →
      wpAny (model prog w) A (eval elt (compEnvC scope cl C env)) (IntEnd h₀ L m s ((I, oI) :: (C, oC) :: (D, LCg.lst ys) :: news) (f (lo, hi))) E' { s with heap := h, toks := tk })
    (fin : ∀ ys, IntsAre ys (R.map f) → Fin ys news) :
    LCp.CompRestP prog w A h₀ L m env elt x x₂ scope cl s S (fun i v => vs.toArray[i]? = some v) Fin vs.toArray.size 0 [] news := by
  have all : ∀ k i ys, i + k = vs.length → IntsAre ys ((R.take i).map f) → LCp.CompRestP prog w A h₀ L m env elt x x₂ scope cl s S (fun i v => vs.toArray[i]? = some v) Fin k i ys news := by
    intro k
    induction k with
    | zero =>
      intro i ys hi hy
      have e : R.take i = R := List.take_of_length_le (by rw [← hR.length]; omega)
      rw [e] at hy
      exact fin ys hy
    | succ k ih =>
      intro i ys hi hy
      refine LCp.CompRestP.succ fun v hv => ?_
      obtain ⟨a, b, t1, t2, n, r, hRi, rfl, hm⟩ := hR.at (i := i) (v := v) (by simpa using hv)
      refine ⟨r, _, _, _, n, rfl, hm, rfl, rfl, ?_⟩
      intro I oI C oC D m₂ h tk E' hC h1 h2 F N off ne
      refine wpAny_mono (turn a b t1 t2 ys I oI C oC D m₂ h tk E' hC h1 h2 F N) ?_ fun _ _ e => e
      rintro y s₂ ⟨t, h', tk', rfl, rfl, F', N'⟩
      refine ⟨h', tk', news, rfl, F', N', off, hS, ih (i + 1) _ (by omega) ?_⟩
      rw [List.take_add_one, hRi, List.map_append]
      exact ints_snoc hy _ _
  exact all _ 0 [] (by simp) .nil
end
section
local macro_rules | `(tactic| walk_at "SrcLP") => `(tactic| (k_here; k_dflt (refine' LCp.SrcLP.ledger (by rfl) (by k_asm) (by k_asm) (List.mem_cons_of_mem _ (by assumption)) (by assumption) ?_)))
theorem c_has (w : World) (loose : List Str) (mean : ExcName → Option Value) (mg mb : Str → Option Value) (news : List (Addr × Obj)) (c : Int) (t : Tok) (v : Value) (R : List (Int × Int)) :
    Call w loose mean mg mb 117 1 [.int c t, v] news (fun h₀ => RgL news v R ∧ R.length ≤ 1000) (fun r news' => r = .bool (hasR c R) ∧ news' = news) := by
  unfold Call
  k_fill
  intro dp un gd cn cs a ccd cl outer A₀ base h₀ L m s Q E B F X N T hk hpre hd hu hret
  obtain ⟨⟨l, vs, n, rfl, hm, hR⟩, hlen⟩ := hpre
  refine wpAny_call ?_
  k_dflt (refine' code_defC ?k1 ?k2 ?k3 ?k4 ?k5 ?kA ?kF ?kK ?k6 ?k7 ?k8 ?k9 ?kB ?kD ?_ ?c2 ?c3 ?c4; (case kA => exact rfl); (case kF => exact rfl); (case kK => assumption); (case k1 => k_asm); (case k2 => k_asm); (case k3 => k_asm); (case k4 => k_asm); (case k5 => k_asm); (case k6 => k_is); (case k7 => k_is); (case k8 => ktr_room); (case k9 => exact BindsTo.of_eq rfl); (case kB => exact rfl); (case kD => decide +kernel); (case c2 => exact rfl); (case c3 => exact rfl); (case c4 => exact rfl); k_whole; intro g' L' h' tk' cells' FG' F' N' Y' B' X' T' l1; k_cells Y'; (try simp only [List.cons_append, List.nil_append] at N'); (try dsimp only); (try k_lift B'); (try k_fold))
  rename News _ _ _ _ => N'
  rename Frag.In _ _ => X'
  have hsz : vs.toArray.size ≤ sizeLine := by rw [List.size_toArray, hR.length, sizeLine_eq]; omega
  k_steps
  refine rest_P (fun p => if p.1 ≤ c ∧ c ≤ p.2 then 1 else 0) (hR.mono fun a o h => List.mem_cons_of_mem _ h) (.inr ⟨_, List.mem_cons_of_mem _ hm, rfl, _, rfl⟩) ?_ ?_
  · intro lo hi t1 t2 ys I oI C oC D m₂ h tk E' hC h1 h2 F N
    clear N'
    k_steps
    refine IntEnd.intro (by k_asm) (by k_asm) ?_
    by_cases h3 : lo ≤ c <;> by_cases h4 : c ≤ hi <;> simp [h3, h4]
  · intro ys hys
    k_steps
    rename News _ _ _ _ => lN
    exact hret _ _ _ _ (by k_asm) (fun p hp => lN p (.tail _ (.tail _ hp))) ⟨congrArg Value.bool (sum_has c R), rfl⟩
end
end Mine
namespace Mine
def Above (news tl : List (Addr × Obj)) : Prop := ∀ q ∈ news, ∀ p ∈ tl, q.1 < p.1
def moreT : List (Int × Int) := [(183, 183), (768, 879), (8255, 8256)]
def charT : List (Int × Int) := [(9, 10), (13, 13), (32, 55295), (57344, 65533), (65536, 1114111)]
def startT : List (Int × Int) := [(192, 214), (216, 246), (248, 767), (880, 893), (895, 8191), (8204, 8205), (8304, 8591), (11264, 12271), (12289, 55295), (63744, 64975), (65008, 65533), (65536, 983039)]
theorem Above.nil {news : List (Addr × Obj)} : Above news [] := fun _ _ _ h => nomatch h
theorem Above.cons {news tl : List (Addr × Obj)} {a : Addr} {o : Obj} (h : AllLt a news) (t : Above news tl) : Above news ((a, o) :: tl) := fun q hq p hp => by
  rcases List.mem_cons.mp hp with rfl | hp
  · exact ktn_ltOf h q hq
  · exact t q hq p hp
section
local macro_rules | `(tactic| walk_at "newTuple") => `(tactic| (k_here; k_dflt (refine' kup_newTuple ?F ?N ?_ ?z; (case F => k_asm); (case N => k_asm); (case z => kmk_size)); intro D' h' F' N' l1; (try k_lt l1); (try k_sweep)))
theorem c_more (w : World) (loose : List Str) (mean : ExcName → Option Value) (mg mb : Str → Option Value) (news : List (Addr × Obj)) :
    Call w loose mean mg mb 105 1 [] news (fun _ => True) (fun r news' => ∃ tl, news' = tl ++ news ∧ Above news tl ∧ RgL tl r moreT) := by
  unfold Call
  k_fill
  intro dp un gd cn cs a ccd cl outer A₀ base h₀ L m s Q E B F X N T hk hpre hd hu hret
  refine wpAny_call ?_
  k_dflt cell_enter
  k_steps
  refine' hret _ _ _ _ (by k_asm) (by k_asm) ⟨[_, _, _, _], rfl, ?_, ⟨_, _, _, rfl, List.Mem.head _, ?_⟩⟩
  · repeat (first | exact Above.nil | refine Above.cons (by first | exact allLt_of (by assumption) | simp only [*]) ?_)
  · repeat (first | exact Rgs.nil | refine Rgs.cons (by k_mem) ?_)
theorem c_chars (w : World) (loose : List Str) (mean : ExcName → Option Value) (mg mb : Str → Option Value) (news : List (Addr × Obj)) :
    Call w loose mean mg mb 112 1 [] news (fun _ => True) (fun r news' => ∃ tl, news' = tl ++ news ∧ Above news tl ∧ RgL tl r charT) := by
  unfold Call
  k_fill
  intro dp un gd cn cs a ccd cl outer A₀ base h₀ L m s Q E B F X N T hk hpre hd hu hret
  refine wpAny_call ?_
  k_dflt cell_enter
  k_steps
  refine' hret _ _ _ _ (by k_asm) (by k_asm) ⟨[_, _, _, _, _, _], rfl, ?_, ⟨_, _, _, rfl, List.Mem.head _, ?_⟩⟩
  · repeat (first | exact Above.nil | refine Above.cons (by first | exact allLt_of (by assumption) | simp only [*]) ?_)
  · repeat (first | exact Rgs.nil | refine Rgs.cons (by k_mem) ?_)
theorem c_starts (w : World) (loose : List Str) (mean : ExcName → Option Value) (mg mb : Str → Option Value) (news : List (Addr × Obj)) :
    Call w loose mean mg mb 98 1 [] news (fun _ => True) (fun r news' => ∃ tl, news' = tl ++ news ∧ Above news tl ∧ RgL tl r startT) := by
  unfold Call
  k_fill
  intro dp un gd cn cs a ccd cl outer A₀ base h₀ L m s Q E B F X N T hk hpre hd hu hret
  refine wpAny_call ?_
  k_dflt cell_enter
  k_steps
  refine' hret _ _ _ _ (by k_asm) (by k_asm) ⟨[_, _, _, _, _, _, _, _, _, _, _, _, _], rfl, ?_, ⟨_, _, _, rfl, List.Mem.head _, ?_⟩⟩
  · repeat (first | exact Above.nil | refine Above.cons (by first | exact allLt_of (by assumption) | simp only [*]) ?_)
  · repeat (first | exact Rgs.nil | refine Rgs.cons (by k_mem) ?_)
end
end Mine
namespace Mine
def signS : Str := Str.ofString "abcdefghijklmnopqrstuvwxyz" ++ Str.ofString "ABCDEFGHIJKLMNOPQRSTUVWXYZ" ++ Str.ofString "_:"
def beginsB (c : Nat) : Bool := decide (c ∈ signS.cps.toList)
def followsB (c : Nat) : Bool := beginsB c || decide (c ∈ (Str.ofString "0123456789-.").cps.toList)
section
local macro_rules | `(tactic| walk_at "newTuple") => `(tactic| (k_here; k_dflt (refine' kup_newTuple ?F ?N ?_ ?z; (case F => k_asm); (case N => k_asm); (case z => kmk_size)); intro D' h' F' N' l1; (try k_lt l1); (try k_sweep)))
theorem c_lsmall (w : World) (loose : List Str) (mean : ExcName → Option Value) (mg mb : Str → Option Value) (news : List (Addr × Obj)) (c : Nat) (t : Tok) :
    Call w loose mean mg mb 129 1 [.str ⟨#[c]⟩ t] news (fun _ => True) (fun r news' => ∃ D, r = .ref D ∧ news' = (D, { cls := .type "tuple", data := .seq #[.bool (beginsB c), .bool (followsB c)] }) :: news) := by
  unfold Call
  k_fill
  intro dp un gd cn cs a ccd cl outer A₀ base h₀ L m s Q E B F X N T hk hpre hd hu hret
  refine wpAny_call ?_
  k_dflt cell_enter
  k_steps
  · refine' hret _ _ _ _ (by k_asm) (by k_asm) ⟨_, rfl, ?_⟩
    rename List.isEmpty _ = true => h
    have hb : beginsB c = false := by unfold beginsB signS; rw [← StrLaws.found_one, h]; rfl
    rw [StrLaws.found_one, StrLaws.found_one, followsB, hb, Bool.false_or]
    exact congrArg (fun b => (_, ({ cls := .type "tuple", data := .seq #[.bool b, .bool _] } : Obj)) :: news) hb
  · refine' hret _ _ _ _ (by k_asm) (by k_asm) ⟨_, rfl, ?_⟩
    have hb : beginsB c = true := by
      unfold beginsB signS
      rw [← StrLaws.found_one]
      first
        | (rename List.isEmpty _ = false => h; rw [h]; rfl)
        | (rename ¬ (List.isEmpty _ = true) => h; rw [Bool.eq_false_iff.mpr h]; rfl)
    rw [StrLaws.found_one, followsB, hb, Bool.true_or]
    exact congrArg (fun b => (_, ({ cls := .type "tuple", data := .seq #[.bool b, .bool b] } : Obj)) :: news) hb
end
end Mine
namespace Mine
theorem Call.use {w : World} {loose : List Str} {mean : ExcName → Option Value} {mg mb : Str → Option Value} {f : Addr} {d : Nat} {vs : List Value} {news : List (Addr × Obj)} {Pre : Heap → Prop} {Out : Value → List (Addr × Obj) → Prop}
    {dp un : Nat} {gd : Option (List Code)} {cn : Str} {cs : Scope} {a : Addr} {ccd : Value} {cl : List (Str × Addr)} {outer : List Env} {A₀ : Around} {base h₀ : Heap} {L : Addr} {m : Str → Option Value} {s : Shared} {Q E : Value → Shared → Prop}
    (C : Call w loose mean mg mb f d vs news Pre Out) (B : Below A₀ base outer h₀) (F : Fr h₀ L s.heap m) (X : (hd.heap_39 w.params).In h₀) (N : News h₀ L s.heap news) (T : Top hd.view_39 loose mean mg mb h₀) (hk : cs.kind = .function)
    (hp : Pre h₀) (hd : dp + d < recursionLimit) (hu : un + 8 * d < cLine) (ret : ∀ r news' h' tk', Fr h₀ L h' m → News h₀ L h' news' → Out r news' → Q r { s with heap := h', toks := tk' }) :
    wpAny (model PySem.Challenge.rw_xw0199_01.row.toRowW.prog w) (ktrTop dp un gd cn cs L a ccd cl outer) (call (.ref f) vs) Q E s := C _ _ _ _ _ _ _ _ _ _ _ _ _ _ _ _ _ B F X N T hk hp hd hu ret
def charK : List (Int × Int) := [(32, 55295), (57344, 65533), (65536, 1114111)]
theorem rg_start {w : World} {h : Heap} {news : List (Addr × Obj)} (X : (hd.heap_39 w.params).In h) : RgIn (Has h news) (.ref 31) startT :=
  ⟨31, "tuple", [.ref 19, .ref 20, .ref 21, .ref 22, .ref 23, .ref 24, .ref 25, .ref 26, .ref 27, .ref 28, .ref 29, .ref 30], 0, rfl, .inr rfl, .inl (X _ _ rfl),
    .cons (.inl (X _ _ rfl)) (.cons (.inl (X _ _ rfl)) (.cons (.inl (X _ _ rfl)) (.cons (.inl (X _ _ rfl)) (.cons (.inl (X _ _ rfl)) (.cons (.inl (X _ _ rfl)) (.cons (.inl (X _ _ rfl)) (.cons (.inl (X _ _ rfl)) (.cons (.inl (X _ _ rfl))
      (.cons (.inl (X _ _ rfl)) (.cons (.inl (X _ _ rfl)) (.cons (.inl (X _ _ rfl)) .nil)))))))))))⟩
theorem rg_more {w : World} {h : Heap} {news : List (Addr × Obj)} (X : (hd.heap_39 w.params).In h) : RgIn (Has h news) (.ref 35) moreT :=
  ⟨35, "tuple", [.ref 32, .ref 33, .ref 34], 0, rfl, .inr rfl, .inl (X _ _ rfl), .cons (.inl (X _ _ rfl)) (.cons (.inl (X _ _ rfl)) (.cons (.inl (X _ _ rfl)) .nil))⟩
theorem rg_char {w : World} {h : Heap} {news : List (Addr × Obj)} (X : (hd.heap_39 w.params).In h) : RgIn (Has h news) (.ref 18) charK :=
  ⟨18, "tuple", [.ref 15, .ref 16, .ref 17], 0, rfl, .inr rfl, .inl (X _ _ rfl), .cons (.inl (X _ _ rfl)) (.cons (.inl (X _ _ rfl)) (.cons (.inl (X _ _ rfl)) .nil))⟩
theorem one_eq (c : Nat) (x : Str) (n : Nat) (hx : x = ⟨#[n]⟩) : ((⟨#[c]⟩ : Str) == x) = decide (c = n) := by
  rw [hx, Bool.eq_iff_iff, beq_iff_eq, decide_eq_true_eq]
  exact ⟨fun h => by simpa using h, fun h => h ▸ rfl⟩
def charB (c : Nat) : Bool := if c < 32 then decide (c ∈ (Str.ofString " \t\n\x0d").cps.toList) else inR (c : Int) charK
section
local macro_rules | `(tactic| walk_at "call ref") => `(tactic| (k_here; (with_reducible show wpAny _ _ (call (Value.ref 42) [Value.int _ _, Value.ref 18]) _ _ _); k_dflt (refine' Call.use (c_in _ _ _ _ _ _ _ _ _ charK) ?k1 ?k2 ?k3 ?k4 ?k5 ?kK ?kp ?kd ?ku ?_; (case k1 => k_asm); (case k2 => k_asm); (case k3 => k_asm); (case k4 => k_asm); (case k5 => k_asm); (case kK => first | exact rfl | assumption); (case kp => exact rg_char (by k_asm)); (case kd => ktr_room); (case ku => ktr_units)); intro r9 n9 h9 tk9 F9 N9 o9; obtain ⟨e1, e2⟩ := o9; subst r9; subst n9; (try dsimp only); (try k_fold)))
local macro_rules | `(tactic| walk_at "call ref") => `(tactic| (k_here; (with_reducible show wpAny _ _ (call (Value.ref 42) [Value.int _ _, Value.ref 31]) _ _ _); k_dflt (refine' Call.use (c_in _ _ _ _ _ _ _ _ _ startT) ?k1 ?k2 ?k3 ?k4 ?k5 ?kK ?kp ?kd ?ku ?_; (case k1 => k_asm); (case k2 => k_asm); (case k3 => k_asm); (case k4 => k_asm); (case k5 => k_asm); (case kK => first | exact rfl | assumption); (case kp => exact rg_start (by k_asm)); (case kd => ktr_room); (case ku => ktr_units)); intro r9 n9 h9 tk9 F9 N9 o9; obtain ⟨e1, e2⟩ := o9; subst r9; subst n9; (try dsimp only); (try k_fold)))
local macro_rules | `(tactic| walk_at "call ref") => `(tactic| (k_here; (with_reducible show wpAny _ _ (call (Value.ref 42) [Value.int _ _, Value.ref 35]) _ _ _); k_dflt (refine' Call.use (c_in _ _ _ _ _ _ _ _ _ moreT) ?k1 ?k2 ?k3 ?k4 ?k5 ?kK ?kp ?kd ?ku ?_; (case k1 => k_asm); (case k2 => k_asm); (case k3 => k_asm); (case k4 => k_asm); (case k5 => k_asm); (case kK => first | exact rfl | assumption); (case kp => exact rg_more (by k_asm)); (case kd => ktr_room); (case ku => ktr_units)); intro r9 n9 h9 tk9 F9 N9 o9; obtain ⟨e1, e2⟩ := o9; subst r9; subst n9; (try dsimp only); (try k_fold)))
local macro_rules | `(tactic| walk_at "call ref") => `(tactic| (k_here; (with_reducible show wpAny _ _ (call (Value.ref 56) [Value.str _ _]) _ _ _); k_dflt (refine' Call.use (c_small _ _ _ _ _ _ _ _) ?k1 ?k2 ?k3 ?k4 ?k5 ?kK ?kp ?kd ?ku ?_; (case k1 => k_asm); (case k2 => k_asm); (case k3 => k_asm); (case k4 => k_asm); (case k5 => k_asm); (case kK => first | exact rfl | assumption); (case kp => exact trivial); (case kd => ktr_room); (case ku => ktr_units)); intro r9 n9 h9 tk9 F9 N9 o9; obtain ⟨e1, e2⟩ := o9; subst r9; subst n9; (try dsimp only); (try k_fold)))
theorem c_char (w : World) (loose : List Str) (mean : ExcName → Option Value) (mg mb : Str → Option Value) (news : List (Addr × Obj)) (c : Nat) (t : Tok) :
    Call w loose mean mg mb 49 2 [.str ⟨#[c]⟩ t] news (fun _ => True) (fun r news' => r = .bool (charB c) ∧ news' = news) := by
  unfold Call
  k_fill
  intro dp un gd cn cs a ccd cl outer A₀ base h₀ L m s Q E B F X N T hk hpre hd hu hret
  refine wpAny_call ?_
  k_dflt cell_enter
  k_steps
  · refine' hret _ _ _ _ (by k_asm) (by k_asm) ⟨congrArg Value.bool ?_, rfl⟩
    rename _ < _ => h
    rw [StrLaws.found_one, charB, if_pos (by omega)]
  · refine' hret _ _ _ _ (by k_asm) (by k_asm) ⟨congrArg Value.bool ?_, rfl⟩
    rename ¬ (_ < _) => h
    rw [charB, if_neg (by omega)]
def startB (c : Nat) : Bool := if c < 128 then (decide (97 ≤ c) && decide (c ≤ 122)) || (decide (65 ≤ c) && decide (c ≤ 90)) || decide (c = 95) || decide (c = 58) else inR (c : Int) startT
theorem c_nstart (w : World) (loose : List Str) (mean : ExcName → Option Value) (mg mb : Str → Option Value) (news : List (Addr × Obj)) (c : Nat) (t : Tok) :
    Call w loose mean mg mb 63 2 [.str ⟨#[c]⟩ t] news (fun _ => True) (fun r news' => r = .bool (startB c) ∧ news' = news) := by
  unfold Call
  k_fill
  intro dp un gd cn cs a ccd cl outer A₀ base h₀ L m s Q E B F X N T hk hpre hd hu hret
  refine wpAny_call ?_
  k_dflt cell_enter
  k_steps
  all_goals (
    refine' hret _ _ _ _ (by k_asm) (by k_asm) ⟨congrArg Value.bool ?_, rfl⟩
    simp only [one_lt c (Str.ofString "A") 65 rfl, lt_one c (Str.ofString "Z") 90 rfl, one_eq c (Str.ofString "_") 95 rfl, one_eq c (Str.ofString ":") 58 rfl, Bool.and_eq_true, Bool.and_eq_false_iff, decide_eq_true_eq, decide_eq_false_iff_not, Bool.not_eq_true', Bool.not_eq_false'] at *
    rw [startB]
    first
      | (exfalso; omega)
      | (rw [if_neg (by omega)])
      | (rw [if_pos (by omega), Bool.eq_iff_iff]; simp only [Bool.or_eq_true, Bool.and_eq_true, decide_eq_true_eq, Bool.not_eq_true', decide_eq_false_iff_not]; omega))
def ncharB (c : Nat) : Bool := startB c || if c < 128 then (decide (48 ≤ c) && decide (c ≤ 57)) || decide (c = 45) || decide (c = 46) else inR (c : Int) moreT
local macro_rules | `(tactic| walk_at "call ref") => `(tactic| (k_here; (with_reducible show wpAny _ _ (call (Value.ref 63) [Value.str _ _]) _ _ _); k_dflt (refine' Call.use (c_nstart _ _ _ _ _ _ _ _) ?k1 ?k2 ?k3 ?k4 ?k5 ?kK ?kp ?kd ?ku ?_; (case k1 => k_asm); (case k2 => k_asm); (case k3 => k_asm); (case k4 => k_asm); (case k5 => k_asm); (case kK => first | exact rfl | assumption); (case kp => exact trivial); (case kd => ktr_room); (case ku => ktr_units)); intro r9 n9 h9 tk9 F9 N9 o9; obtain ⟨e1, e2⟩ := o9; subst r9; subst n9; (try dsimp only); (try k_fold)))
theorem c_nchar (w : World) (loose : List Str) (mean : ExcName → Option Value) (mg mb : Str → Option Value) (news : List (Addr × Obj)) (c : Nat) (t : Tok) :
    Call w loose mean mg mb 70 3 [.str ⟨#[c]⟩ t] news (fun _ => True) (fun r news' => r = .bool (ncharB c) ∧ news' = news) := by
  unfold Call
  k_fill
  intro dp un gd cn cs a ccd cl outer A₀ base h₀ L m s Q E B F X N T hk hpre hd hu hret
  refine wpAny_call ?_
  k_dflt cell_enter
  k_steps
  all_goals (
    refine' hret _ _ _ _ (by k_asm) (by k_asm) ⟨congrArg Value.bool ?_, rfl⟩
    (try dsimp only at *)
    simp only [one_lt c (Str.ofString "0") 48 rfl, lt_one c (Str.ofString "9") 57 rfl, one_eq c (Str.ofString "-") 45 rfl, one_eq c (Str.ofString ".") 46 rfl, Bool.and_eq_true, Bool.and_eq_false_iff, decide_eq_true_eq, decide_eq_false_iff_not, Bool.not_eq_true', Bool.not_eq_false'] at *
    rw [ncharB]
    first
      | (exfalso; omega)
      | (rw [show startB c = true by assumption, Bool.true_or])
      | (rw [show startB c = false by first | assumption | exact Bool.eq_false_iff.mpr (by assumption), Bool.false_or]; first
        | (rw [if_neg (by omega)])
        | (rw [if_pos (by omega), Bool.eq_iff_iff]; simp only [Bool.or_eq_true, Bool.and_eq_true, decide_eq_true_eq, Bool.not_eq_true', decide_eq_false_iff_not]; omega)))
end
end Mine
namespace Mine
def Rising : List (Int × Int) → Prop
  | [] => True
  | p :: r => p.1 ≤ p.2 ∧ (∀ q ∈ r, p.2 < q.1) ∧ Rising r
theorem hasR_cons (c : Int) (p : Int × Int) (R : List (Int × Int)) : hasR c (p :: R) = ((decide (p.1 ≤ c) && decide (c ≤ p.2)) || hasR c R) := rfl
theorem hasR_low (c : Int) : ∀ R : List (Int × Int), (∀ q ∈ R, c < q.1) → hasR c R = false
  | [], _ => rfl
  | p :: r, h => by
    rw [hasR_cons, hasR_low c r fun q hq => h q (.tail _ hq), Bool.or_false, decide_eq_false (by have := h p (.head _); omega), Bool.false_and]
theorem inR_has (c : Int) : ∀ R : List (Int × Int), Rising R → inR c R = hasR c R
  | [], _ => rfl
  | (lo, hi) :: r, ⟨h1, h2, h3⟩ => by
    have h1' : lo ≤ hi := h1
    rw [inR_cons, hasR_cons]
    by_cases a : c < lo
    · rw [if_pos a, hasR_low c r fun q hq => by have := h2 q hq; simp only at this; omega, decide_eq_false (show ¬ lo ≤ c by omega)]; rfl
    · rw [if_neg a, decide_eq_true (show lo ≤ c by omega)]
      by_cases b : c ≤ hi
      · rw [if_pos b, decide_eq_true (show c ≤ hi from b)]; rfl
      · rw [if_neg b, decide_eq_false (show ¬ c ≤ hi from b), inR_has c r h3]; rfl
theorem rise_start : Rising startT := by simp [Rising, startT]
theorem rise_more : Rising moreT := by simp [Rising, moreT]
theorem rise_charK : Rising charK := by simp [Rising, charK]
theorem small_all : (List.range 128).all (fun c => (startB c == beginsB c) && (ncharB c == followsB c) && (charB c == hasR (c : Int) charT)) = true := by decide +kernel
theorem small_at (c : Nat) (h : c < 128) : startB c = beginsB c ∧ ncharB c = followsB c ∧ charB c = hasR (c : Int) charT := by
  have := List.all_eq_true.mp small_all c (List.mem_range.mpr h)
  simp only [Bool.and_eq_true, beq_iff_eq] at this
  exact ⟨this.1.1, this.1.2, this.2⟩
theorem great_at (c : Nat) (h : 128 ≤ c) : startB c = hasR (c : Int) startT ∧ ncharB c = (hasR (c : Int) startT || hasR (c : Int) moreT) ∧ charB c = hasR (c : Int) charT := by
  have n : ¬ c < 128 := by omega
  have e : startB c = hasR (c : Int) startT := by rw [startB, if_neg n, inR_has _ _ rise_start]
  refine ⟨e, ?_, ?_⟩
  · rw [ncharB, e, if_neg n, inR_has _ _ rise_more]
  · rw [charB, if_neg (by omega), inR_has _ _ rise_charK]
    show _ = ((decide ((9 : Int) ≤ c) && decide ((c : Int) ≤ 10)) || ((decide ((13 : Int) ≤ c) && decide ((c : Int) ≤ 13)) || hasR c charK))
    rw [decide_eq_false (show ¬ (c : Int) ≤ 10 by omega), decide_eq_false (show ¬ (c : Int) ≤ 13 by omega), Bool.and_false, Bool.and_false, Bool.false_or, Bool.false_or]
end Mine
namespace Mine
abbrev threeO (x y z : Bool) (n : Nat) : Obj := { cls := .type "tuple", data := .seq #[.bool x, .bool y, .bool z] n }
theorem reads_three {h : Heap} {a : Addr} {x y z : Bool} {n : Nat} (e : h.get? a = some (threeO x y z n)) : Reads h (.ref a) (.tuple [.bool x, .bool y, .bool z]) [] :=
  reads_tuple_at e rfl rfl (.cons (.bool x) (.cons (.bool y) (.cons (.bool z) .nil)))
theorem eq_three {prog : Program} {w : World} {A : Around} {E : Value → Shared → Prop} {s : Shared} {a b : Addr} {x y z x' y' z' : Bool} {n n' : Nat} {Q : Value → Shared → Prop}
    (ha : s.heap.get? a = some (threeO x y z n)) (hb : s.heap.get? b = some (threeO x' y' z' n')) (hu : A.units + 64 < cLine) (e1 : x = x') (e2 : y = y') (e3 : z = z') (h : Q (.bool true) s) :
    wpAny (model prog w) A (compareOp .Eq (.ref a) (.ref b)) Q E s := by
  subst e1; subst e2; subst e3
  refine eq_dataH (reads_three ha) (reads_three hb) rfl rfl hu ?_
  simpa [PyData.eqv, PyData.eqvAll] using h
end Mine
namespace Mine
theorem RgL.left {tl news : List (Addr × Obj)} {v : Value} {R : List (Int × Int)} (x : RgL tl v R) : RgL (tl ++ news) v R :=
  let ⟨l, vs, n, e, hm, hr⟩ := x; ⟨l, vs, n, e, List.mem_append_left _ hm, hr.mono fun _ _ h => List.mem_append_left _ h⟩
section
local macro_rules | `(tactic| walk_at "newTuple") => `(tactic| (k_here; k_dflt (refine' kup_newTuple ?F ?N ?_ ?z; (case F => k_asm); (case N => k_asm); (case z => kmk_size)); intro D' h' F' N' l1; (try k_lt l1); (try k_sweep)))
local macro_rules | `(tactic| walk_at "call ref") => `(tactic| (k_here; (with_reducible show wpAny _ _ (call (Value.ref 98) _) _ _ _); k_dflt (refine' Call.use (c_starts _ _ _ _ _ _) ?k1 ?k2 ?k3 ?k4 ?k5 ?kK ?kp ?kd ?ku ?_; (case k1 => k_asm); (case k2 => k_asm); (case k3 => k_asm); (case k4 => k_asm); (case k5 => k_asm); (case kK => first | exact rfl | assumption); (case kp => exact trivial); (case kd => ktr_room); (case ku => ktr_units)); intro r9 n9 h9 tk9 F9 N9 o9; obtain ⟨tl9, e2, hA9, hR9⟩ := o9; subst n9; obtain ⟨l9, _, _, e1, _, _⟩ := id hR9; subst r9; (try dsimp only); (try k_fold)))
local macro_rules | `(tactic| walk_at "call ref") => `(tactic| (k_here; (with_reducible show wpAny _ _ (call (Value.ref 105) _) _ _ _); k_dflt (refine' Call.use (c_more _ _ _ _ _ _) ?k1 ?k2 ?k3 ?k4 ?k5 ?kK ?kp ?kd ?ku ?_; (case k1 => k_asm); (case k2 => k_asm); (case k3 => k_asm); (case k4 => k_asm); (case k5 => k_asm); (case kK => first | exact rfl | assumption); (case kp => exact trivial); (case kd => ktr_room); (case ku => ktr_units)); intro r9 n9 h9 tk9 F9 N9 o9; obtain ⟨tl9, e2, hA9, hR9⟩ := o9; subst n9; obtain ⟨l9, _, _, e1, _, _⟩ := id hR9; subst r9; (try dsimp only); (try k_fold)))
local macro_rules | `(tactic| walk_at "call ref") => `(tactic| (k_here; (with_reducible show wpAny _ _ (call (Value.ref 112) _) _ _ _); k_dflt (refine' Call.use (c_chars _ _ _ _ _ _) ?k1 ?k2 ?k3 ?k4 ?k5 ?kK ?kp ?kd ?ku ?_; (case k1 => k_asm); (case k2 => k_asm); (case k3 => k_asm); (case k4 => k_asm); (case k5 => k_asm); (case kK => first | exact rfl | assumption); (case kp => exact trivial); (case kd => ktr_room); (case ku => ktr_units)); intro r9 n9 h9 tk9 F9 N9 o9; obtain ⟨tl9, e2, hA9, hR9⟩ := o9; subst n9; obtain ⟨l9, _, _, e1, _, _⟩ := id hR9; subst r9; (try dsimp only); (try k_fold)))
local macro_rules | `(tactic| walk_at "call ref") => `(tactic| (k_here; (with_reducible show wpAny _ _ (call (Value.ref 117) [Value.int _ _, Value.ref _]) _ _ _); k_dflt (refine' Call.use (c_has _ _ _ _ _ _ _ _ _ _) ?k1 ?k2 ?k3 ?k4 ?k5 ?kK ?kp ?kd ?ku ?_; (case k1 => k_asm); (case k2 => k_asm); (case k3 => k_asm); (case k4 => k_asm); (case k5 => k_asm); (case kK => first | exact rfl | assumption); (case kp => exact ⟨RgL.left (by assumption), by decide⟩); (case kd => ktr_room); (case ku => ktr_units)); intro r9 n9 h9 tk9 F9 N9 o9; obtain ⟨e1, e2⟩ := o9; subst r9; subst n9; (try dsimp only); (try k_fold)))
local macro_rules | `(tactic| walk_at "call ref") => `(tactic| (k_here; (with_reducible show wpAny _ _ (call (Value.ref 129) [Value.str _ _]) _ _ _); k_dflt (refine' Call.use (c_lsmall _ _ _ _ _ _ _ _) ?k1 ?k2 ?k3 ?k4 ?k5 ?kK ?kp ?kd ?ku ?_; (case k1 => k_asm); (case k2 => k_asm); (case k3 => k_asm); (case k4 => k_asm); (case k5 => k_asm); (case kK => first | exact rfl | assumption); (case kp => exact trivial); (case kd => ktr_room); (case ku => ktr_units)); intro r9 n9 h9 tk9 F9 N9 o9; obtain ⟨D9, e1, e2⟩ := o9; subst r9; subst n9; (try dsimp only); (try k_fold)))
local macro_rules | `(tactic| walk_at "call ref") => `(tactic| (k_here; (with_reducible show wpAny _ _ (call (Value.ref 63) [Value.str _ _]) _ _ _); k_dflt (refine' Call.use (c_nstart _ _ _ _ _ _ _ _) ?k1 ?k2 ?k3 ?k4 ?k5 ?kK ?kp ?kd ?ku ?_; (case k1 => k_asm); (case k2 => k_asm); (case k3 => k_asm); (case k4 => k_asm); (case k5 => k_asm); (case kK => first | exact rfl | assumption); (case kp => exact trivial); (case kd => ktr_room); (case ku => ktr_units)); intro r9 n9 h9 tk9 F9 N9 o9; obtain ⟨e1, e2⟩ := o9; subst r9; subst n9; (try dsimp only); (try k_fold)))
local macro_rules | `(tactic| walk_at "call ref") => `(tactic| (k_here; (with_reducible show wpAny _ _ (call (Value.ref 70) [Value.str _ _]) _ _ _); k_dflt (refine' Call.use (c_nchar _ _ _ _ _ _ _ _) ?k1 ?k2 ?k3 ?k4 ?k5 ?kK ?kp ?kd ?ku ?_; (case k1 => k_asm); (case k2 => k_asm); (case k3 => k_asm); (case k4 => k_asm); (case k5 => k_asm); (case kK => first | exact rfl | assumption); (case kp => exact trivial); (case kd => ktr_room); (case ku => ktr_units)); intro r9 n9 h9 tk9 F9 N9 o9; obtain ⟨e1, e2⟩ := o9; subst r9; subst n9; (try dsimp only); (try k_fold)))
local macro_rules | `(tactic| walk_at "call ref") => `(tactic| (k_here; (with_reducible show wpAny _ _ (call (Value.ref 49) [Value.str _ _]) _ _ _); k_dflt (refine' Call.use (c_char _ _ _ _ _ _ _ _) ?k1 ?k2 ?k3 ?k4 ?k5 ?kK ?kp ?kd ?ku ?_; (case k1 => k_asm); (case k2 => k_asm); (case k3 => k_asm); (case k4 => k_asm); (case k5 => k_asm); (case kK => first | exact rfl | assumption); (case kp => exact trivial); (case kd => ktr_room); (case ku => ktr_units)); intro r9 n9 h9 tk9 F9 N9 o9; obtain ⟨e1, e2⟩ := o9; subst r9; subst n9; (try dsimp only); (try k_fold)))
theorem c_sign (w : World) (loose : List Str) (mean : ExcName → Option Value) (mg mb : Str → Option Value) (news : List (Addr × Obj)) (c : Int) (t : Tok) :
    Call w loose mean mg mb 136 16 [.int c t] news (fun _ => 0 ≤ c ∧ c ≤ 1114111) (fun r news' => r = .bool true ∧ news' = news) := by
  unfold Call
  k_fill
  intro dp un gd cn cs a ccd cl outer A₀ base h₀ L m s Q E B F X N T hk hpre hd hu hret
  obtain ⟨hp0, hp1⟩ := hpre
  refine wpAny_call ?_
  k_dflt cell_enter
  have hc : ((c.toNat : Nat) : Int) = c := Int.toNat_of_nonneg hp0
  k_steps
  · rename News _ _ _ _ => lN
    rename _ = true => hs
    have g := great_at c.toNat (by omega)
    rw [hc] at g
    refine eq_three (News.get lN (.tail _ (List.mem_append_right _ (.head _)))) (News.get lN (.head _)) (by ktr_units) g.1 (by rw [g.2.1, hs, Bool.true_or]) g.2.2 ?_
    k_steps
    rename News _ _ _ _ => lN2
    exact hret _ _ _ _ (by k_asm) (fun p hp => lN2 p (.tail _ (List.mem_append_right _ (.tail _ (List.mem_append_right _ hp))))) ⟨rfl, rfl⟩
  · rename News _ _ _ _ => lN
    rename _ = false => hs
    have g := great_at c.toNat (by omega)
    rw [hc] at g
    refine eq_three (News.get lN (.tail _ (List.mem_append_right _ (.head _)))) (News.get lN (.head _)) (by ktr_units) g.1 (by rw [g.2.1, hs, Bool.false_or]) g.2.2 ?_
    k_steps
    rename News _ _ _ _ => lN2
    exact hret _ _ _ _ (by k_asm) (fun p hp => lN2 p (.tail _ (List.mem_append_right _ (.tail _ (List.mem_append_right _ (List.mem_append_right _ hp)))))) ⟨rfl, rfl⟩
  · rename News _ _ _ _ => lN
    have g := small_at c.toNat (by omega)
    rw [hc] at g
    refine eq_three (News.get lN (.tail _ (List.mem_append_right _ (.head _)))) (News.get lN (.head _)) (by ktr_units) g.1 g.2.1 g.2.2 ?_
    k_steps
    rename News _ _ _ _ => lN2
    exact hret _ _ _ _ (by k_asm) (fun p hp => lN2 p (.tail _ (List.mem_append_right _ (.tail _ (.tail _ (.tail _ hp)))))) ⟨rfl, rfl⟩
end
end Mine
namespace Mine
abbrev srcO (x y : Int) (t1 t2 : Tok) (n : Nat) : Obj := { cls := .type "list", data := .seq #[.int x t1, .int y t2] n }
section
local macro_rules | `(tactic| k_all) => `(tactic| assumption)
theorem c_take (w : World) (loose : List Str) (mean : ExcName → Option Value) (mg mb : Str → Option Value) (rest : List (Addr × Obj)) (l : Addr) (x y : Int) (t1 t2 : Tok) (n : Nat) (top : Int) (t : Tok) :
    Call w loose mean mg mb 84 1 [.ref l, .int top t] ((l, srcO x y t1 t2 n) :: rest) (fun _ => 0 ≤ x ∧ 0 ≤ y ∧ y < 2147483647 ∧ 1 ≤ top ∧ top ≤ 1000000 ∧ ∀ p ∈ rest, p.1 ≠ l)
      (fun r news' => ∃ k tk x' y' t1' t2' n', r = .int k tk ∧ 0 ≤ k ∧ k < top ∧ 0 ≤ x' ∧ 0 ≤ y' ∧ y' < 2147483647 ∧ news' = (l, srcO x' y' t1' t2' n') :: rest) := by
  unfold Call
  k_fill
  intro dp un gd cn cs a ccd cl outer A₀ base h₀ L m s Q E B F X N T hk hpre hd hu hret
  obtain ⟨hx, hy0, hy1, ht0, ht1, hne⟩ := hpre
  refine wpAny_call ?_
  k_dflt cell_enter
  k_steps
  · rename _ < _ => hpos
    have hpos' : 0 < x := hpos
    exact hret _ _ _ _ (by k_asm) (by k_asm) ⟨_, _, _, _, _, _, _, rfl, Int.fmod_nonneg_of_pos _ (by omega), Int.fmod_lt_of_pos _ (by omega), Int.fdiv_nonneg hx (by omega), hy0, hy1, rfl⟩
  · have hb0 : 0 ≤ (y * 39373 + 7).fmod 2147483647 := Int.fmod_nonneg_of_pos _ (by decide)
    have hb1 : (y * 39373 + 7).fmod 2147483647 < 2147483647 := Int.fmod_lt_of_pos _ (by decide)
    refine mul_int ?_ (IntMulOk.of_right (intBits_le_64 (show -(2 ^ 64) < (y * 39373 + 7).fmod 2147483647 by omega) (show (y * 39373 + 7).fmod 2147483647 < 2 ^ 64 by omega)))
    k_steps
    exact hret _ _ _ _ (by k_asm) (by k_asm) ⟨_, _, _, _, _, _, _, rfl, Int.fmod_nonneg_of_pos _ (by omega), Int.fmod_lt_of_pos _ (by omega), hx, hb0, hb1, rfl⟩
end
end Mine
namespace Mine
section
local macro_rules | `(tactic| k_all) => `(tactic| assumption)
local macro_rules | `(tactic| walk_at "call ref") => `(tactic| (k_here; (with_reducible show wpAny _ _ (call (Value.ref 84) [Value.ref _, Value.int _ _]) _ _ _); k_dflt (refine' Call.use (c_take _ _ _ _ _ _ _ _ _ _ _ _ _ _) ?k1 ?k2 ?k3 ?k4 ?k5 ?kK ?kp ?kd ?ku ?_; (case k1 => k_asm); (case k2 => k_asm); (case k3 => k_asm); (case k4 => k_asm); (case k5 => k_asm); (case kK => first | exact rfl | assumption); (case kp => exact ⟨by assumption, by assumption, by assumption, by omega, by omega, by assumption⟩); (case kd => ktr_room); (case ku => ktr_units)); intro r9 n9 h9 tk9 F9 N9 o9; obtain ⟨k9, tk9', x9, y9, ta9, tb9, nn9, e1, hk0, hk1, hx9, hy9, hyy9, e2⟩ := o9; subst r9; subst n9; (try dsimp only); (try k_fold)))
theorem item_mem {prog : Program} {w : World} {A : Around} {E : Value → Shared → Prop} {s : Shared} {value slice : PySem.Expr} {l : Addr} {vs : List Value} {k : Int} {u : Tok} {Q : Value → Shared → Prop}
    (hl : s.heap.IsList l vs.toArray) (h0 : 0 ≤ k) (h1 : k < ((vs.toArray.size : Nat) : Int)) (h2 : vs.length ≤ 1000) (h : ∀ v ∈ vs, Q v s)
    (hs : subscripted slice false (.ref l) (.int k u) = operate [.ref l, .int k u] (getItem (.ref l) (.int k u))) :
    wpAny (model prog w) A (subscriptTail value slice (.ref l) (.int k u)) Q E s := by
  rw [List.size_toArray] at h1
  have hlt : k.toNat < vs.length := by omega
  exact tail_any hl.typeIs slot_list_getitem.lookup (wpAny_getItem_list hl h0 (by omega) (by simpa using List.getElem?_eq_getElem hlt) (h _ (List.getElem_mem hlt))) hs
theorem lett_all : (List.range 24).all (fun n => Txt.item (Str.ofString "bcdefghijklmnopqrstuvwxy") (n : Int) == ⟨#[98 + n]⟩) = true := by decide +kernel
theorem lett_at (k : Int) (h0 : 0 ≤ k) (h1 : k < 24) : ∃ c, Txt.item (Str.ofString "bcdefghijklmnopqrstuvwxy") k = ⟨#[c]⟩ ∧ 98 ≤ c ∧ c ≤ 121 := by
  have := List.all_eq_true.mp lett_all k.toNat (List.mem_range.mpr (by omega))
  rw [beq_iff_eq, Int.toNat_of_nonneg h0] at this
  exact ⟨_, this, by omega, by omega⟩
theorem c_oneS (w : World) (loose : List Str) (mean : ExcName → Option Value) (mg mb : Str → Option Value) (rest : List (Addr × Obj)) (l : Addr) (x y : Int) (t1 t2 : Tok) (n : Nat) (t : Tok) :
    Call w loose mean mg mb 91 2 [.ref l, .str (Str.ofString "bcdefghijklmnopqrstuvwxy") t] ((l, srcO x y t1 t2 n) :: rest) (fun _ => 0 ≤ x ∧ 0 ≤ y ∧ y < 2147483647 ∧ ∀ p ∈ rest, p.1 ≠ l)
      (fun r news' => ∃ c tk x' y' t1' t2' n', r = .str ⟨#[c]⟩ tk ∧ 98 ≤ c ∧ c ≤ 121 ∧ 0 ≤ x' ∧ 0 ≤ y' ∧ y' < 2147483647 ∧ news' = (l, srcO x' y' t1' t2' n') :: rest) := by
  unfold Call
  k_fill
  intro dp un gd cn cs a ccd cl outer A₀ base h₀ L m s Q E B F X N T hk hpre hd hu hret
  obtain ⟨hx, hy0, hy1, hne⟩ := hpre
  refine wpAny_call ?_
  k_dflt cell_enter
  k_steps
  rename _ < ((24 : Nat) : Int) => hk1
  obtain ⟨c, hc, hc0, hc1⟩ := lett_at _ (by omega) hk1
  rw [hc]
  exact hret _ _ _ _ (by k_asm) (by k_asm) ⟨c, _, _, _, _, _, _, rfl, hc0, hc1, by omega, by omega, by omega, rfl⟩
theorem c_oneL (w : World) (loose : List Str) (mean : ExcName → Option Value) (mg mb : Str → Option Value) (rest : List (Addr × Obj)) (l : Addr) (x y : Int) (t1 t2 : Tok) (n : Nat) (lt : Addr) (vs : List Value) (nt : Nat) :
    Call w loose mean mg mb 91 2 [.ref l, .ref lt] ((l, srcO x y t1 t2 n) :: rest) (fun _ => 0 ≤ x ∧ 0 ≤ y ∧ y < 2147483647 ∧ (∀ p ∈ rest, p.1 ≠ l) ∧ (lt, ({ cls := .type "list", data := .seq vs.toArray nt } : Obj)) ∈ rest ∧ 1 ≤ vs.length ∧ vs.length ≤ 1000)
      (fun r news' => ∃ x' y' t1' t2' n', r ∈ vs ∧ 0 ≤ x' ∧ 0 ≤ y' ∧ y' < 2147483647 ∧ news' = (l, srcO x' y' t1' t2' n') :: rest) := by
  unfold Call
  k_fill
  intro dp un gd cn cs a ccd cl outer A₀ base h₀ L m s Q E B F X N T hk hpre hd hu hret
  obtain ⟨hx, hy0, hy1, hne, hm, hv1, hv2⟩ := hpre
  refine wpAny_call ?_
  k_dflt cell_enter
  have hw1 : (1 : Int) ≤ (vs.toArray.size : Nat) := by rw [List.size_toArray]; omega
  have hw2 : ((vs.toArray.size : Nat) : Int) ≤ 1000 := by rw [List.size_toArray]; omega
  k_steps
  rename News _ _ _ _ => lN
  refine len_list (items := vs.toArray) ⟨_, (lN _ (List.mem_cons_of_mem _ hm)).1, rfl, nt, rfl⟩ (by omega) ?_
  k_steps
  rename News _ _ _ _ => lN2
  refine item_mem (vs := vs) ⟨_, (lN2 _ (List.mem_cons_of_mem _ hm)).1, rfl, nt, rfl⟩ (by omega) (by omega) hv2 (fun v hv => ?_) (by with_unfolding_all rfl)
  k_steps
  exact hret _ _ _ _ (by k_asm) (by k_asm) ⟨_, _, _, _, _, hv, by omega, by omega, by omega, rfl⟩
end
end Mine
namespace Mine
section
variable {prog : Program} {w : World} {A : Around} {E : Value → Shared → Prop} {s : Shared} {env : Env} {h₀ : Heap} {target : PySem.Expr} {body : List Stmt} {Q : Flow → Shared → Prop}
theorem items_ind2 {ws : List (Addr × String)} {keep nw₀ : List (Addr × Obj)} {M : Str → Option Value} {x1 x2 : Str} {P : Addr → Obj → Prop} (C : List (Int × Int) → List (Addr × Obj) → Prop)
    (done : ∀ (u1 u2 : Option Value) nw, C [] nw → ItemsRest prog w A E h₀ env target body Q s ws keep [] (fun y => if y = x2 then u2 else if y = x1 then u1 else M y) nw)
    (step : ∀ lo hi R t1 t2 n r rest (u1 u2 : Option Value) nw, C ((lo, hi) :: R) nw → P r (pairO lo hi t1 t2 n) →
      (∀ (v1 v2 : Option Value) nw', C R nw' → ItemsRest prog w A E h₀ env target body Q s ws keep rest (fun y => if y = x2 then v2 else if y = x1 then v1 else M y) nw') →
      ItemsRest prog w A E h₀ env target body Q s ws keep (.val (.ref r) :: rest) (fun y => if y = x2 then u2 else if y = x1 then u1 else M y) nw)
    {vs : List Value} {R : List (Int × Int)} (hR : Rgs P vs R) (hC : C R nw₀) (hM1 : M x1 = none) (hM2 : M x2 = none) :
    ItemsRest prog w A E h₀ env target body Q s ws keep (vs.map .val) M nw₀ := by
  have all : ∀ {vs : List Value} {R : List (Int × Int)}, Rgs P vs R → ∀ nw, C R nw → ∀ u1 u2 : Option Value, ItemsRest prog w A E h₀ env target body Q s ws keep (vs.map .val) (fun y => if y = x2 then u2 else if y = x1 then u1 else M y) nw := by
    intro vs R hR
    induction hR with
    | nil => exact fun nw c u1 u2 => done u1 u2 nw c
    | cons hp _ ih => exact fun nw c u1 u2 => step _ _ _ _ _ _ _ _ u1 u2 nw c hp fun v1 v2 nw' c' => ih nw' c' v1 v2
  have e : M = fun y => if y = x2 then none else if y = x1 then none else M y := by
    funext y
    by_cases h2 : y = x2
    · rw [if_pos h2, h2, hM2]
    · rw [if_neg h2]
      by_cases h1 : y = x1
      · rw [if_pos h1, h1, hM1]
      · rw [if_neg h1]
  rw [e]
  exact all hR nw₀ hC none none
end
section
variable {prog : Program} {w : World} {A : Around} {s : Shared} {h₀ : Heap} {L : Addr} {m : Str → Option Value} {env : Env}
def BoolEnd (h₀ : Heap) (L : Addr) (m : Str → Option Value) (s₁ : Shared) (need : List (Addr × Obj)) (b : Bool) (ok : Bool) (s₂ : Shared) : Prop :=
  ∃ h' tk', ok = b ∧ s₂ = { s₁ with heap := h', toks := tk' } ∧ Fr h₀ L h' m ∧ News h₀ L h' need
theorem BoolEnd.intro {h₀ : Heap} {L : Addr} {m : Str → Option Value} {s₁ : Shared} {need : List (Addr × Obj)} {b b' : Bool} {h' : Heap} {tk' : Nat} (F : Fr h₀ L h' m) (N : News h₀ L h' need) (e : b' = b) :
    BoolEnd h₀ L m s₁ need b b' { s₁ with heap := h', toks := tk' } := ⟨h', tk', e, rfl, F, N⟩
theorem ints_at {vs : List Value} {ns : List Int} (h : IntsAre vs ns) {i : Nat} {v : Value} (e : vs[i]? = some v) : ∃ n t, v = .int n t ∧ ns[i]? = some n := h.at i v e
theorem rest_T {ct elt : PySem.Expr} {x : Str} {scope : Scope} {cl : List (Str × Addr)} {S : List (Addr × Obj) → Prop} {Fin : List Value → List (Addr × Obj) → Prop} {vs : List Value} {ns : List Int} {news : List (Addr × Obj)} (p : Int → Bool)
    (hv : IntsAre vs ns) (hS : S news)
    (test : ∀ c t ys I oI C oC D m₂ h tk (E' : Value → Shared → Prop), c ∈ ns → LCg.NsObj oC m₂ → m₂ x = some (.int c t) → Fr h₀ L h m → News h₀ L h ((I, oI) :: (C, oC) :: (D, LCg.lst ys) :: news) →
      wpAny (model prog w) A (isTrue ct (compEnvC scope cl C env) (eval ct (compEnvC scope cl C env))) (BoolEnd h₀ L m s ((I, oI) :: (C, oC) :: (D, LCg.lst ys) :: news) (p c)) E' { s with heap := h, toks := tk })
    (el : ∀ c t ys I oI C oC D m₂ h tk (E' : Value → Shared → Prop), c ∈ ns → p c = true → LCg.NsObj oC m₂ → m₂ x = some (.int c t) → Fr h₀ L h m → News h₀ L h ((I, oI) :: (C, oC) :: (D, LCg.lst ys) :: news) →
      wpAny (model prog w) A (eval elt (compEnvC scope cl C env)) (IntEnd h₀ L m s ((I, oI) :: (C, oC) :: (D, LCg.lst ys) :: news) c) E' { s with heap := h, toks := tk })
    (fin : ∀ ys, IntsAre ys (ns.filter p) → Fin ys news) :
    LCt.CompRestT prog w A h₀ L m env ct elt x scope cl s S (fun i v => vs.toArray[i]? = some v) Fin vs.toArray.size 0 [] news := by
  have all : ∀ k i ys, i + k = vs.length → IntsAre ys ((ns.take i).filter p) → LCt.CompRestT prog w A h₀ L m env ct elt x scope cl s S (fun i v => vs.toArray[i]? = some v) Fin k i ys news := by
    intro k
    induction k with
    | zero =>
      intro i ys hi hy
      have e : ns.take i = ns := List.take_of_length_le (by rw [← hv.length]; omega)
      rw [e] at hy
      exact fin ys hy
    | succ k ih =>
      intro i ys hi hy
      refine LCt.CompRestT.succ ?_
      intro v I oI C oC D m₂ h tk E' hPv hC h1 F N off ne
      obtain ⟨c, t, rfl, hci⟩ := ints_at hv (i := i) (v := v) (by simpa using hPv)
      have hcm : c ∈ ns := List.mem_of_getElem? hci
      refine wpAny_mono (test c t ys I oI C oC D m₂ h tk E' hcm hC h1 F N) ?_ fun _ _ e => e
      rintro ok s₂ ⟨h', tk', rfl, rfl, F', N'⟩
      have hoC : LCg.NsObj oC m₂ := hC
      cases hb : p c with
      | true =>
        rw [if_pos rfl]
        refine wpAny_mono (el c t ys I oI C oC D m₂ h' tk' E' hcm hb hC h1 F' N') ?_ fun _ _ e => e
        rintro y s₃ ⟨t', h₃, tk₃, rfl, rfl, F₃, N₃⟩
        refine ⟨h₃, tk₃, news, rfl, F₃, N₃, off, hS, ih (i + 1) _ (by omega) ?_⟩
        rw [List.take_add_one, hci, List.filter_append]
        show IntsAre _ (_ ++ List.filter p [c])
        rw [List.filter_cons_of_pos (by simpa using hb)]
        exact ints_snoc hy _ _
      | false =>
        rw [if_neg Bool.false_ne_true]
        refine ⟨h', tk', news, rfl, F', N', off, hS, ih (i + 1) _ (by omega) ?_⟩
        rw [List.take_add_one, hci, List.filter_append]
        show IntsAre _ (_ ++ List.filter p [c])
        rw [List.filter_cons_of_neg (by simp [hb]), List.filter_nil, List.append_nil]
        exact hy
  exact all _ 0 [] (by simp) .nil
end
end Mine
namespace Mine
theorem RgL.toIn {h : Heap} {news : List (Addr × Obj)} {v : Value} {R : List (Int × Int)} (x : RgL news v R) : RgIn (Has h news) v R :=
  let ⟨l, vs, n, e, hm, hr⟩ := x; ⟨l, "list", vs, n, e, .inl rfl, .inr hm, hr.mono fun _ _ h => .inr h⟩
theorem RgL.more {news news' : List (Addr × Obj)} {v : Value} {R : List (Int × Int)} (x : RgL news v R) (h : ∀ p ∈ news, p ∈ news') : RgL news' v R :=
  let ⟨l, vs, n, e, hm, hr⟩ := x; ⟨l, vs, n, e, h _ hm, hr.mono fun _ _ q => h _ q⟩
theorem SubL.more {p : Addr × Obj} : ∀ {keep news : List (Addr × Obj)}, SubL keep news → SubL keep (p :: news)
  | [], _, _ => trivial
  | _ :: _, _, h => ⟨List.mem_cons_of_mem _ h.1, SubL.more h.2⟩
theorem off1_mem {D : Addr} : ∀ {l : List (Addr × Obj)}, LCg.Off1 D l → ∀ p ∈ l, p.1 ≠ D
  | [], _, _, h => nomatch h
  | q :: r, x, p, h => by
    rcases List.mem_cons.mp h with rfl | h
    · exact x.1
    · exact off1_mem x.2 p h
def okCode (c : Int) : Bool := decide (0 ≤ c) && decide (c ≤ 1114111)
section
local macro_rules | `(tactic| walk_at "exec For Tuple Name cons nil") => `(tactic| (k_here; (rename Fr _ _ _ _ => lF'); (with_unfolding_all refine' For_turns lF' ?_; k_whole)))
local macro_rules | `(tactic| walk_at "CompSrcT") => `(tactic| (k_here; k_dflt (refine LCt.CompSrcT.ledger (by rfl) (by k_asm) (by k_asm) (by k_mem) (by assumption) ?_; intro g')))
local macro_rules | `(tactic| walk_at "eval ListComp") => `(tactic| (k_here; lct_look; k_dflt (refine LCt.ListComp_T (F₀ := by k_asm) (by with_unfolding_all rfl) (by decide) (by rfl) (by decide) (by rfl) ?_)))
theorem c_rims (w : World) (loose : List Str) (mean : ExcName → Option Value) (mg mb : Str → Option Value) (news : List (Addr × Obj)) (v : Value) (R : List (Int × Int)) :
    Call w loose mean mg mb 122 1 [v] news (fun _ => RgL news v R ∧ R.length ≤ 100)
      (fun r news' => ∃ D ys ns, r = .ref D ∧ news' = (D, LCg.lst ys) :: news ∧ IntsAre ys ns ∧ (∀ c ∈ ns, 0 ≤ c ∧ c ≤ 1114111) ∧ ns.length ≤ 400 ∧ ∀ q ∈ news, q.1 ≠ D) := by
  unfold Call
  k_fill
  intro dp un gd cn cs a ccd cl outer A₀ base h₀ L m s Q E B F X N T hk hpre hd hu hret
  obtain ⟨hrg, hlen⟩ := hpre
  refine wpAny_call ?_
  k_dflt cell_enter
  k_steps
  rename News _ _ _ _ => N'
  rename Fr _ _ _ _ => lF
  rename ∀ p ∈ news, _ => hbelow
  refine iter_rg (sub := news) (by rfl) lF N' (fun _ h => List.mem_cons_of_mem _ h) (RgL.toIn hrg) ?_
  intro I k keep vs hI hkeep hR
  refine items_ind2 (x1 := Str.ofString "low") (x2 := Str.ofString "high") (fun R' nw => ∃ ys ns k, nw = (_, W.listOf ys.toArray k) :: news ∧ IntsAre ys ns ∧ ys.length + 4 * R'.length = 4 * R.length) ?_ ?_ hR ⟨[], [], 0, rfl, .nil, by simp⟩ (by with_unfolding_all rfl) (by with_unfolding_all rfl)
  · rintro u1 u2 nw ⟨ys, ns, k, rfl, hys, hl⟩
    clear N' lF hR
    have hsz : ys.toArray.size ≤ sizeLine := by rw [List.size_toArray, sizeLine_eq]; simp at hl; omega
    k_steps
    refine rest_T okCode hys (.inr ⟨_, List.Mem.head _, rfl, _, rfl⟩) ?_ ?_ ?_
    · intro c t ys' I oI C oC D m₂ h tk E' hcm hC h1 F N
      k_steps
      all_goals (
        refine BoolEnd.intro (by k_asm) (by k_asm) ?_
        rw [Bool.eq_iff_iff, okCode, Bool.and_eq_true, decide_eq_true_eq, decide_eq_true_eq]
        (try rw [decide_eq_true_eq])
        first
          | omega
          | exact ⟨fun h => absurd h Bool.false_ne_true, fun h => by omega⟩)
    · intro c t ys' I oI C oC D m₂ h tk E' hcm hpc hC h1 F N
      k_steps
      exact IntEnd.intro (by k_asm) (by k_asm) rfl
    · intro ys' hys'
      k_steps
      rename News _ _ _ _ => lN
      rename _ ∧ LCg.Off1 _ _ => ho
      refine hret _ ((_, _) :: news) _ _ (by k_asm) (fun p hp => ?_) ⟨_, _, _, rfl, rfl, hys', fun c hc => ?_, ?_, off1_mem ho.2⟩
      · rcases List.mem_cons.mp hp with e | hp
        · exact lN p (e ▸ List.Mem.head _)
        · exact lN p (List.Mem.tail _ (List.Mem.tail _ hp))
      · have h := (List.mem_filter.mp hc).2
        rw [okCode, Bool.and_eq_true, decide_eq_true_eq, decide_eq_true_eq] at h
        exact h
      · have h := List.length_filter_le okCode ns
        have h2 := hys.length
        simp at hl
        omega
  · rintro lo hi R' t1 t2 n r rest u1 u2 nw ⟨ys, ns, k, rfl, hys, hl⟩ hP ih
    clear lF hR N'
    refine ItemsRest.val (fun h' tk' F' => ?_)
    refine AllObj.cons (fun o' hc' => AllObj.nil (fun N2 => ?_))
    have hT : IsTup h' r #[.int lo t1, .int hi t2] := ⟨_, hP.get F' (fun p hp => N2 p (List.mem_append_right _ (List.mem_cons_of_mem _ hp))), rfl, n, rfl⟩
    k_steps
    rename AllLt _ _ => hb
    rename News _ _ _ _ => lN
    have hID := hI _ (List.Mem.head _)
    rw [List.length_cons] at hl
    refine kl_extend (l := ys ++ [_, _, _, _]) (by k_asm) lN (List.Mem.head _) (by rw [List.toList_toArray]) (by exact Nat.succ_ne_zero 3) (Upd.tail (Nat.ne_of_gt hb.2.1) (Upd.tail (Nat.ne_of_gt hID) (Upd.head fun p hp => Nat.ne_of_lt (hbelow p hp)))) ?_ ?_ ?_ ?_
    · simp [Builtin.List.listTooLong, sizeLine_eq]; omega
    · rw [List.toList_toArray, sizeLine_eq]; omega
    · rw [List.size_toArray, sizeLine_eq]; simp; omega
    intro h2 F2 N3
    clear lN
    k_steps
    rename News _ _ _ _ => lN
    rename Fr _ _ _ _ => lF
    rw [two_names] at lF
    refine ⟨_, _, _, (_, _) :: news, rfl, lF, fun p hp => lN p (List.Mem.tail _ hp), fun p hp q hq => ?_, SubL.more hkeep, ih _ _ _ ⟨_, _, _, rfl, hys.append (.cons _ _ (.cons _ _ (.cons _ _ (.cons _ _ .nil)))), ?_⟩⟩
    · rw [List.mem_singleton.mp hq]
      rcases List.mem_cons.mp hp with rfl | hp
      · exact Nat.ne_of_lt hID
      · exact Nat.ne_of_lt (hI p (List.mem_cons_of_mem _ hp))
    · simp; omega
end
end Mine
namespace Mine
theorem Call.upd {w : World} {loose : List Str} {mean : ExcName → Option Value} {mg mb : Str → Option Value} {f l : Addr} {d : Nat} {vs : List Value} {news : List (Addr × Obj)} {g : Obj → List (Addr × Obj)} {o : Obj} {Pre : Heap → Prop} {Post : Value → Obj → Prop}
    (U : UpdF l o news g) (C : ∀ rest, (∀ p ∈ rest, p.1 ≠ l) → (∀ p ∈ news, p.1 ≠ l → p ∈ rest) → Call w loose mean mg mb f d vs ((l, o) :: rest) Pre (fun r news' => ∃ o', Post r o' ∧ news' = (l, o') :: rest)) :
    Call w loose mean mg mb f d vs news Pre (fun r news' => ∃ o', Post r o' ∧ news' = g o') := by
  obtain ⟨pre, post, rfl, hg, h1, h2⟩ := U.split
  intro dp un gd cn cs a ccd cl outer A₀ base h₀ L m s Q E B F X N T hk hpre hd hu hret
  refine C (pre ++ post) (fun p hp => (List.mem_append.mp hp).elim (h1 p) (h2 p)) (fun p hp ne => ?_) dp un gd cn cs a ccd cl outer A₀ base h₀ L m s Q E B F X (fun p hp => N p ?_) T hk hpre hd hu ?_
  · rcases List.mem_append.mp hp with hp | hp
    · exact List.mem_append_left _ hp
    · rcases List.mem_cons.mp hp with rfl | hp
      · exact absurd rfl ne
      · exact List.mem_append_right _ hp
  · rcases List.mem_cons.mp hp with rfl | hp
    · exact List.mem_append_right _ (List.Mem.head _)
    · exact (List.mem_append.mp hp).elim (fun h => List.mem_append_left _ h) fun h => List.mem_append_right _ (List.Mem.tail _ h)
  · rintro r news' h' tk' F' N' ⟨o', ho, rfl⟩
    refine hret r (g o') h' tk' F' (fun p hp => N' p ?_) ⟨o', ho, rfl⟩
    rw [hg] at hp
    rcases List.mem_append.mp hp with hp | hp
    · exact List.Mem.tail _ (List.mem_append_left _ hp)
    · rcases List.mem_cons.mp hp with rfl | hp
      · exact List.Mem.head _
      · exact List.Mem.tail _ (List.mem_append_right _ hp)
theorem Call.out {w : World} {loose : List Str} {mean : ExcName → Option Value} {mg mb : Str → Option Value} {f : Addr} {d : Nat} {vs : List Value} {news : List (Addr × Obj)} {Pre Pre' : Heap → Prop} {Out Out' : Value → List (Addr × Obj) → Prop}
    (C : Call w loose mean mg mb f d vs news Pre Out) (hp : ∀ h, Pre' h → Pre h) (h : ∀ r n, Out r n → Out' r n) : Call w loose mean mg mb f d vs news Pre' Out' :=
  fun dp un gd cn cs a ccd cl outer A₀ base h₀ L m s Q E B F X N T hk hpre hd hu hret => C dp un gd cn cs a ccd cl outer A₀ base h₀ L m s Q E B F X N T hk (hp _ hpre) hd hu fun r n h' tk' F' N' ho => hret r n h' tk' F' N' (h r n ho)
def IsSrc (o : Obj) : Prop := ∃ x y t1 t2 n, o = srcO x y t1 t2 n ∧ 0 ≤ x ∧ 0 ≤ y ∧ y < 2147483647
theorem c_takeU (w : World) (loose : List Str) (mean : ExcName → Option Value) (mg mb : Str → Option Value) (news : List (Addr × Obj)) (g : Obj → List (Addr × Obj)) (l : Addr) (x y : Int) (t1 t2 : Tok) (n : Nat) (top : Int) (t : Tok) (U : UpdF l (srcO x y t1 t2 n) news g) :
    Call w loose mean mg mb 84 1 [.ref l, .int top t] news (fun _ => 0 ≤ x ∧ 0 ≤ y ∧ y < 2147483647 ∧ 1 ≤ top ∧ top ≤ 1000000)
      (fun r news' => ∃ o', (∃ k tk x' y' t1' t2' n', r = .int k tk ∧ 0 ≤ k ∧ k < top ∧ o' = srcO x' y' t1' t2' n' ∧ 0 ≤ x' ∧ 0 ≤ y' ∧ y' < 2147483647) ∧ news' = g o') :=
  Call.upd (Post := fun r o' => ∃ k tk x' y' t1' t2' n', r = .int k tk ∧ 0 ≤ k ∧ k < top ∧ o' = srcO x' y' t1' t2' n' ∧ 0 ≤ x' ∧ 0 ≤ y' ∧ y' < 2147483647) U fun rest hr _ => (c_take w loose mean mg mb rest l x y t1 t2 n top t).out (fun _ h => ⟨h.1, h.2.1, h.2.2.1, h.2.2.2.1, h.2.2.2.2, hr⟩)
    fun _ _ ⟨k, tk, x', y', t1', t2', n', e, h1, h2, h3, h4, h5, e'⟩ => ⟨_, ⟨k, tk, x', y', t1', t2', n', e, h1, h2, rfl, h3, h4, h5⟩, e'⟩
end Mine
namespace Mine
theorem off1_of {D : Addr} : ∀ {l : List (Addr × Obj)}, (∀ p ∈ l, p.1 ≠ D) → LCg.Off1 D l
  | [], _ => trivial
  | p :: _, h => ⟨h p (.head _), off1_of fun q hq => h q (.tail _ hq)⟩
def Hold (P : Prop) : Prop := P
theorem hold {P : Prop} (h : Hold P) : P := h
section
variable {prog : Program} {w : World} {A : Around} {E : Value → Shared → Prop} {s : Shared} {env : Env} {h₀ : Heap} {body : List Stmt} {Q : Flow → Shared → Prop}
abbrev atMap (xa xh xt : Str) (M : Str → Option Value) (at0 : Int) (ta : Tok) (u1 u2 : Option Value) : Str → Option Value :=
  fun y => if y = xa then some (.int at0 ta) else if y = xh then u1 else if y = xt then u2 else M y
def AtEnd (xa xh xt : Str) (M : Str → Option Value) (C : Int → List (Addr × Obj) → Prop) (m : Str → Option Value) (nx : List (Addr × Obj)) : Prop := ∃ at1 ta u1 u2, m = atMap xa xh xt M at1 ta u1 u2 ∧ C at1 nx
theorem range_ind {xa xh xt : Str} {M : Str → Option Value} {at0 : Int} {ta0 : Tok} {nw0 : List (Addr × Obj)} {r : Addr} {b₀ : Int} {t₀ u₀ v₀ : Tok} {n : Nat} (C : Nat → Int → List (Addr × Obj) → Prop)
    (hh : A.handled = none) (hr : IsRange s.heap r 0 b₀ 1 t₀ u₀ v₀) (hsmall : Builtin.Range.small 0 b₀ 1 = true) (hn : Builtin.Range.rangeSize 0 b₀ 1 = (n : Int))
    (F : Fr h₀ env.locals s.heap (fun y => if y = xa then some (.int at0 ta0) else M y)) (N : News h₀ env.locals s.heap nw0) (h0 : C 0 at0 nw0) (hMh : M xh = none) (hMt : M xt = none)
    (turn : ∀ i k t at1 ta u1 u2 nx h tk own, i < n → TbOff own nx → C i at1 nx → Fr h₀ env.locals h (fun y => if y = xt then some (.int k t) else atMap xa xh xt M at1 ta u1 u2 y) → News h₀ env.locals h (nx ++ own) →
      wpAny (model prog w) A (execs body env) (TbPost h₀ env.locals (AtEnd xa xh xt M (C (i + 1))) own { s with heap := h, toks := tk } Q) E { s with heap := h, toks := tk })
    (done : ∀ at1 ta u1 u2 nx h tk, C n at1 nx → Fr h₀ env.locals h (atMap xa xh xt M at1 ta u1 u2) → News h₀ env.locals h nx → Q .next { s with heap := h, toks := tk }) :
    wpAny (model prog w) A (pyIter (.ref r)) (fun it s₂ => LoopAtV prog w A h₀ env xt body Q E it s₂) E s := by
  have e : (fun y => if y = xa then some (Value.int at0 ta0) else M y) = atMap xa xh xt M at0 ta0 none none := by
    funext y
    show (if y = xa then _ else _) = (if y = xa then _ else if y = xh then _ else if y = xt then _ else _)
    by_cases h1 : y = xa
    · rw [if_pos h1, if_pos h1]
    · rw [if_neg h1, if_neg h1]
      by_cases h2 : y = xh
      · rw [if_pos h2, h2, hMh]
      · rw [if_neg h2]
        by_cases h3 : y = xt
        · rw [if_pos h3, h3, hMt]
        · rw [if_neg h3]
  rw [e] at F
  refine tbr_invG (n := n) (fun i m nx => AtEnd xa xh xt M (C i) m nx) hh hr hsmall hn F N ⟨at0, ta0, none, none, rfl, h0⟩ ?_ ?_
  · rintro i k t m₁ nx h tk own hk hoff ⟨at1, ta, u1, u2, rfl, hC⟩ F₁ N₁
    have hi : i < n := by
      have := (List.getElem?_eq_some_iff.mp hk).1
      simpa [rangeKs] using this
    exact turn i k t at1 ta u1 u2 nx h tk own hi hoff hC F₁ N₁
  · rintro m₁ nx h tk ⟨at1, ta, u1, u2, rfl, hC⟩ F₁ N₁
    exact done at1 ta u1 u2 nx h tk hC F₁ N₁
theorem three_names {xa xh xt : Str} {M : Str → Option Value} {at0 at1 : Int} {ta ta1 : Tok} {u1 u2 v1 v2 : Option Value} :
    (fun y => if y = xa then some (Value.int at1 ta1) else if y = xh then v1 else if y = xt then v2 else if y = xa then some (Value.int at0 ta) else if y = xh then u1 else if y = xt then u2 else M y) = atMap xa xh xt M at1 ta1 v1 v2 := by
  funext y
  show _ = (if y = xa then _ else if y = xh then _ else if y = xt then _ else _)
  by_cases h1 : y = xa
  · simp [h1]
  · by_cases h2 : y = xh
    · simp [h2]
    · by_cases h3 : y = xt
      · simp [h3]
      · simp [h1, h2, h3]
end
theorem Rising.snoc : ∀ {R : List (Int × Int)} {lo hi : Int}, Rising R → (∀ q ∈ R, q.2 < lo) → lo ≤ hi → Rising (R ++ [(lo, hi)])
  | [], _, _, _, _, h => ⟨h, (fun _ h => nomatch h), trivial⟩
  | p :: r, lo, hi, ⟨a, b, c⟩, hq, h => ⟨a, fun q hm => by
      rcases List.mem_append.mp hm with hm | hm
      · exact b q hm
      · rw [List.mem_singleton.mp hm]; exact hq p (.head _), c.snoc (fun q hm => hq q (.tail _ hm)) h⟩
theorem Rgs.snoc {P : Addr → Obj → Prop} : ∀ {vs : List Value} {R : List (Int × Int)}, Rgs P vs R → ∀ {r : Addr} {a b : Int} {t1 t2 : Tok} {n : Nat}, P r (pairO a b t1 t2 n) → Rgs P (vs ++ [.ref r]) (R ++ [(a, b)])
  | _, _, .nil, _, _, _, _, _, _, h => .cons h .nil
  | _, _, .cons h' x, _, _, _, _, _, _, h => .cons h' (x.snoc h)
def RC (rest : List (Addr × Obj)) (l lr a : Addr) (oc : Obj) (i : Nat) (at1 : Int) (nx : List (Addr × Obj)) : Prop :=
  ∃ vs R k x y t1 t2 n nr, nx = (lr, W.listOf vs.toArray k) :: (a, oc) :: (l, srcO x y t1 t2 n) :: nr ∧ 0 ≤ x ∧ 0 ≤ y ∧ y < 2147483647 ∧ (∀ p ∈ nr, p.1 ≠ l) ∧ (∀ p ∈ nr, p.1 ≠ lr) ∧ (∀ p ∈ rest, p ∈ nr) ∧
      Rgs (fun a o => (a, o) ∈ nr) vs R ∧ Rising R ∧ (∀ q ∈ R, q.2 < at1) ∧ R.length ≤ i
theorem rc_end {rest nr own : List (Addr × Obj)} {l lr a T L : Addr} {oc : Obj} {h₀ h : Heap} {i k nt n n' tk : Nat} {at1 hi at2 x y x' y' : Int} {ta th tc t1 t2 t1' t2' : Tok} {vs : List Value} {R : List (Int × Int)} {xa xh xt : Str} {M : Str → Option Value} {u1 u2 : Option Value} {s₁ : Shared} {k0 : Nat}
    (lF : Fr h₀ L h (atMap xa xh xt M at2 tc u1 u2))
    (lN : News h₀ L h ((T, pairO at1 hi ta th nt) :: (lr, W.listOf (vs.toArray.push (Value.ref T)) k) :: (a, oc) :: (l, srcO x y t1 t2 n) :: (nr ++ own)))
    (hoff : TbOff own ((lr, W.listOf vs.toArray k0) :: (a, oc) :: (l, srcO x' y' t1' t2' n') :: nr)) (hlt : AllLt T (nr ++ own)) (hTl : l < T) (hTr : lr < T)
    (hx : 0 ≤ x) (hy : 0 ≤ y) (hyy : y < 2147483647) (hnl : ∀ p ∈ nr, p.1 ≠ l) (hnr : ∀ p ∈ nr, p.1 ≠ lr) (hsub : ∀ p ∈ rest, p ∈ nr) (hR : Rgs (fun a o => (a, o) ∈ nr) vs R) (hrise : Rising R) (hbel : ∀ q ∈ R, q.2 < at1) (hlen : R.length ≤ i)
    (h1 : at1 ≤ hi) (h2 : hi < at2) : TbEnd h₀ L (AtEnd xa xh xt M (RC rest l lr a oc (i + 1))) own s₁ { s₁ with heap := h, toks := tk } := by
  rw [List.push_toArray] at lN
  refine ⟨h, tk, _, _, (lr, W.listOf (vs ++ [Value.ref T]).toArray k) :: (a, oc) :: (l, srcO x y t1 t2 n) :: (T, pairO at1 hi ta th nt) :: nr, rfl, lF, lN, ?_, ?_, ?_, at2, tc, u1, u2, rfl, vs ++ [Value.ref T], R ++ [(at1, hi)], k, x, y, t1, t2, n, (T, pairO at1 hi ta th nt) :: nr, rfl, hx, hy, hyy, ?_, ?_, ?_, ?_, ?_, ?_, ?_⟩
  · intro p hp
    rcases List.mem_cons.mp hp with rfl | hp
    · exact .tail _ (.head _)
    rcases List.mem_cons.mp hp with rfl | hp
    · exact .tail _ (.tail _ (.head _))
    rcases List.mem_cons.mp hp with rfl | hp
    · exact .tail _ (.tail _ (.tail _ (.head _)))
    rcases List.mem_cons.mp hp with rfl | hp
    · exact .head _
    · exact .tail _ (.tail _ (.tail _ (.tail _ (List.mem_append_left _ hp))))
  · exact fun p hp => .tail _ (.tail _ (.tail _ (.tail _ (List.mem_append_right _ hp))))
  · intro p hp q hq
    rcases List.mem_cons.mp hq with rfl | hq
    · exact hoff p hp (lr, W.listOf vs.toArray k0) (.head _)
    rcases List.mem_cons.mp hq with rfl | hq
    · exact hoff p hp _ (.tail _ (.head _))
    rcases List.mem_cons.mp hq with rfl | hq
    · exact hoff p hp (l, srcO x' y' t1' t2' n') (.tail _ (.tail _ (.head _)))
    rcases List.mem_cons.mp hq with rfl | hq
    · exact Nat.ne_of_lt (ktn_ltOf hlt p (List.mem_append_right _ hp))
    · exact hoff p hp _ (.tail _ (.tail _ (.tail _ hq)))
  · intro p hp
    rcases List.mem_cons.mp hp with rfl | hp
    · exact Nat.ne_of_gt hTl
    · exact hnl p hp
  · intro p hp
    rcases List.mem_cons.mp hp with rfl | hp
    · exact Nat.ne_of_gt hTr
    · exact hnr p hp
  · exact fun p hp => .tail _ (hsub p hp)
  · exact (hR.mono fun _ _ h => List.Mem.tail _ h).snoc (List.Mem.head _)
  · exact hrise.snoc hbel h1
  · intro q hq
    rcases List.mem_append.mp hq with hq | hq
    · have := hbel q hq; omega
    · rw [List.mem_singleton.mp hq]; exact h2
  · rw [List.length_append, List.length_singleton]; omega
end Mine
namespace Mine
section
local macro_rules | `(tactic| k_all) => `(tactic| assumption)
local macro_rules | `(tactic| walk_at "newTuple") => `(tactic| (k_here; k_dflt (refine' kup_newTuple ?F ?N ?_ ?z; (case F => k_asm); (case N => k_asm); (case z => kmk_size)); intro D' h' F' N' l1; (try k_lt l1); (try k_sweep)))
local macro_rules | `(tactic| walk_at "call ref") => `(tactic| (k_here; (with_reducible show wpAny _ _ (call (Value.ref 84) [Value.ref _, Value.int _ _]) _ _ _); k_dflt (refine' Call.use (c_takeU _ _ _ _ _ _ _ _ _ _ _ _ _ _ _ ?kU) ?k1 ?k2 ?k3 ?k4 ?k5 ?kK ?kp ?kd ?ku ?_; (case k1 => k_asm); (case k2 => k_asm); (case k3 => k_asm); (case k4 => k_asm); (case kU => k_updF); (case k5 => k_asm); (case kK => first | exact rfl | assumption); (case kp => exact ⟨by omega, by omega, by omega, by omega, by omega⟩); (case kd => ktr_room); (case ku => ktr_units)); intro r9 n9 h9 tk9 F9 N9 o9; obtain ⟨oo9, ⟨k9, tk9', x9, y9, ta9, tb9, nn9, e1, hk0, hk1, eo9, hx9, hy9, hyy9⟩, e2⟩ := o9; subst r9; subst n9; subst oo9; (try dsimp only); (try dsimp only at N9); (try k_fold)))
local macro_rules | `(tactic| walk_at "call type:range") => `(tactic| (k_here; (with_reducible show wpAny _ _ (call (Value.type "range") [Value.int _ _]) _ _ _); refine hold ?_))
local macro_rules | `(tactic| walk_at "exec For Name Call cons nil") => `(tactic| (k_here; (rename Fr _ _ _ _ => lF'); (with_unfolding_all refine' For_invVF lF' ?k1 ?k2 ?_; (case k1 => exact rfl); (case k2 => exact rfl); k_whole)))
local macro_rules | `(tactic| walk_at "call ref") => `(tactic| (k_here; (with_reducible show wpAny _ _ (call (Value.ref 122) [Value.ref _]) _ _ _); k_dflt (refine' Call.use (c_rims _ _ _ _ _ _ _ _) ?k1 ?k2 ?k3 ?k4 ?k5 ?kK ?kp ?kd ?ku ?_; (case k1 => k_asm); (case k2 => k_asm); (case k3 => k_asm); (case k4 => k_asm); (case k5 => k_asm); (case kK => first | exact rfl | assumption); (case kp => exact ⟨RgL.more (by assumption) (fun p hp => (List.mem_cons.mp hp).elim (fun e => by rw [e]; k_mem) (fun hp => by repeat first | exact hp | refine List.Mem.tail _ ?_)), by omega⟩); (case kd => ktr_room); (case ku => ktr_units)); intro r9 n9 h9 tk9 F9 N9 o9; obtain ⟨D9, ys9, ns9, e1, e2, hI9, hb9, hl9, ho9⟩ := o9; subst r9; subst n9; replace ho9 := off1_of ho9; (try simp only [LCg.Off1] at ho9); (try dsimp only); (try k_fold)))
local macro_rules | `(tactic| walk_at "eval ListComp") => `(tactic| (k_here; lct_look; k_dflt (refine LCt.ListComp_T (F₀ := by k_asm) (by with_unfolding_all rfl) (by decide) (by rfl) (by decide) (by rfl) ?_)))
local macro_rules | `(tactic| walk_at "CompSrcT") => `(tactic| (k_here; k_dflt (refine LCt.CompSrcT.ledger (by rfl) (by k_asm) (by k_asm) (by k_mem) (by rw [List.size_toArray, IntsAre.length (by with_reducible assumption), sizeLine_eq]; simp only [List.length_append, List.length_cons, List.length_nil]; omega) ?_; intro g')))
local macro_rules | `(tactic| walk_at "compareOp Eq ref ref") => `(tactic| (k_here; (with_reducible show wpAny _ _ (compareOp CmpOp.Eq (Value.ref _) (Value.ref _)) _ _ _); k_dflt (refine ke_eq_ints (xs := []) (ys := []) (ns := []) (ms := []) (by is_list) (by is_list) .nil .nil (by ktr_units) ?_)))
local macro_rules | `(tactic| walk_at "call ref") => `(tactic| (k_here; (with_reducible show wpAny _ _ (call (Value.ref 42) [Value.int _ _, Value.ref _]) _ _ _); k_dflt (refine' Call.use (c_in _ _ _ _ _ _ _ _ _ _) ?k1 ?k2 ?k3 ?k4 ?k5 ?kK ?kp ?kd ?ku ?_; (case k1 => k_asm); (case k2 => k_asm); (case k3 => k_asm); (case k4 => k_asm); (case k5 => k_asm); (case kK => first | exact rfl | assumption); (case kp => exact RgL.toIn (RgL.more (by assumption) (fun p hp => (List.mem_cons.mp hp).elim (fun e => by rw [e]; k_mem) (fun hp => by repeat first | exact hp | refine List.Mem.tail _ ?_)))); (case kd => ktr_room); (case ku => ktr_units)); intro r9 n9 h9 tk9 F9 N9 o9; obtain ⟨e1, e2⟩ := o9; subst r9; subst n9; (try dsimp only); (try k_fold)))
local macro_rules | `(tactic| walk_at "call ref") => `(tactic| (k_here; (with_reducible show wpAny _ _ (call (Value.ref 117) [Value.int _ _, Value.ref _]) _ _ _); k_dflt (refine' Call.use (c_has _ _ _ _ _ _ _ _ _ _) ?k1 ?k2 ?k3 ?k4 ?k5 ?kK ?kp ?kd ?ku ?_; (case k1 => k_asm); (case k2 => k_asm); (case k3 => k_asm); (case k4 => k_asm); (case k5 => k_asm); (case kK => first | exact rfl | assumption); (case kp => exact ⟨RgL.more (by assumption) (fun p hp => (List.mem_cons.mp hp).elim (fun e => by rw [e]; k_mem) (fun hp => by repeat first | exact hp | refine List.Mem.tail _ ?_)), by omega⟩); (case kd => ktr_room); (case ku => ktr_units)); intro r9 n9 h9 tk9 F9 N9 o9; obtain ⟨e1, e2⟩ := o9; subst r9; subst n9; (try dsimp only); (try k_fold)))
theorem c_right (w : World) (loose : List Str) (mean : ExcName → Option Value) (mg mb : Str → Option Value) (rest : List (Addr × Obj)) (l : Addr) (x y : Int) (t1 t2 : Tok) (n : Nat) :
    Call w loose mean mg mb 141 16 [.ref l] ((l, srcO x y t1 t2 n) :: rest) (fun _ => 0 ≤ x ∧ 0 ≤ y ∧ y < 2147483647 ∧ ∀ p ∈ rest, p.1 ≠ l)
      (fun r news' => ∃ o', (r = .bool true ∧ IsSrc o') ∧ news' = (l, o') :: rest) := by
  unfold Call
  k_fill
  intro dp un gd cn cs a ccd cl outer A₀ base h₀ L m s Q E B F X N T hk hpre hd hu hret
  obtain ⟨hx, hy0, hy1, hne⟩ := hpre
  refine wpAny_call ?_
  k_dflt (refine' code_defC ?k1 ?k2 ?k3 ?k4 ?k5 ?kA ?kF ?kK ?k6 ?k7 ?k8 ?k9 ?kB ?kD ?_ ?c2 ?c3 ?c4; (case kA => exact rfl); (case kF => exact rfl); (case kK => assumption); (case k1 => k_asm); (case k2 => k_asm); (case k3 => k_asm); (case k4 => k_asm); (case k5 => k_asm); (case k6 => k_is); (case k7 => k_is); (case k8 => ktr_room); (case k9 => exact BindsTo.of_eq rfl); (case kB => exact rfl); (case kD => decide +kernel); (case c2 => exact rfl); (case c3 => exact rfl); (case c4 => exact rfl); k_whole; intro g' L' h' tk' cells' FG' F' N' Y' B' X' T' l1; (try k_lt l1); k_cells Y'; (try simp only [List.cons_append, List.nil_append] at N'); (try dsimp only); (try k_lift B'); (try k_fold))
  have hneL : ∀ p ∈ rest, p.1 ≠ L' + 1 := fun p hp => Nat.ne_of_lt (Nat.lt_succ_of_lt (ktn_ltOf l1.2 p hp))
  k_steps
  unfold Hold
  rename News _ _ _ _ => lN
  rename Fr _ _ _ _ => lF
  rename_i lr _ l1a _ _ _ _ _ _ _ _ _ hka _ _ _ _ _ _ D _ l1b _ _ oc dc _ _ _ _ _ k9 _ _ _ _ _ _ hk0 hk1 hx9 hy9 hyy9
  refine range1_rows lF lN ?_
  clear lF
  intro h1 tk1 tr ur vr hr F1 N1 _
  clear lN
  dsimp only
  have N2 : News g' L' h1 ((lr, W.listOf [].toArray 0) :: (L' + 1, oc) :: (l, srcO _ _ _ _ _) :: rest) := fun p hp => N1 p (List.Mem.tail _ hp)
  clear N1
  have hcr : ∀ p ∈ rest, p.1 ≠ lr := fun p hp => Nat.ne_of_lt (ktn_ltOf l1a.2.2 p hp)
  refine range_ind (xa := Str.ofString "at") (xh := Str.ofString "high") (xt := Str.ofString "turn") (n := (1 + k9).toNat)
    (RC rest l lr (L' + 1) oc)
    (by rfl) hr (small_one (by omega) (by omega) (by omega) (by omega)) (by rw [rangeSize_nat]; simp) F1 N2 ⟨[], [], 0, _, _, _, _, _, rest, rfl, hx9, hy9, hyy9, hne, hcr, fun _ h => h, .nil, trivial, (fun _ h => nomatch h), Nat.le_refl _⟩ (by with_unfolding_all rfl) (by with_unfolding_all rfl) ?_ ?_
  · clear N2 F1
    rintro i kk tt at1 ta u1 u2 nx h tk own hi hoff ⟨vs, R, k, x', y', t1', t2', n', nr, rfl, hx', hy', hyy', hnl, hnr, hsub, hR, hrise, hbel, hlen⟩ F2 N2
    have N3 : News g' L' h ((lr, W.listOf vs.toArray k) :: (L' + 1, oc) :: (l, srcO x' y' t1' t2' n') :: (nr ++ own)) := N2
    clear N2
    have hol : ∀ p ∈ nr ++ own, p.1 ≠ l := fun p hp => (List.mem_append.mp hp).elim (hnl p) fun h => hoff p h _ (.tail _ (.tail _ (.head _)))
    have hor : ∀ p ∈ nr ++ own, p.1 ≠ lr := fun p hp => (List.mem_append.mp hp).elim (hnr p) fun h => hoff p h _ (.head _)
    k_steps
    rename News _ _ _ _ => lN
    rename lr < _ ∧ _ => hlt
    refine append_K (by k_asm) lN (Upd.tail (Nat.ne_of_gt hlt.1) (Upd.head (by k_all))) ?_ (by have := hR.length; rw [List.size_toArray, sizeLine_eq]; omega)
    clear lN
    intro h2 F3 N4
    k_steps
    rename News _ _ _ _ => lN
    rename Fr _ _ _ _ => lF
    have lF2 := lF
    dsimp only [atMap] at lF2
    rw [three_names] at lF2
    exact rc_end lF2 lN hoff (by first | exact hlt.2.2.2 | simp only [hlt]) hlt.2.2.1 hlt.1 (by omega) (by omega) (by omega) hnl hnr hsub hR hrise hbel hlen (by omega) (by omega)
  · rintro at1 ta u1 u2 nx h tk ⟨vs, R, k, x', y', t1', t2', n', nr, rfl, hx', hy', hyy', hnl, hnr, hsub, hR, hrise, hbel, hlen⟩ F2 N3
    clear N2 F1
    have hRL : RgL ((lr, W.listOf vs.toArray k) :: nr) (.ref lr) R := ⟨lr, vs, k, rfl, List.Mem.head _, hR.mono fun _ _ h => List.Mem.tail _ h⟩
    k_steps
    refine rest_T (fun _ => false) (by assumption) (.inr ⟨_, by k_mem, rfl, _, rfl⟩) ?_ ?_ ?_
    · intro c t ys' I oI C oC D m₂ h tk E' hcm hC h1 F N
      k_steps
      refine BoolEnd.intro (by k_asm) (by k_asm) ?_
      rw [inR_has _ _ hrise]
      simp
    · intro c t ys' I oI C oC D m₂ h tk E' hcm hpc hC h1 F N
      exact absurd hpc Bool.false_ne_true
    · intro ys' hys'
      have hy : ys' = [] := by
        rw [List.filter_eq_nil_iff.mpr (fun _ _ => Bool.false_ne_true)] at hys'
        exact hys'.nil_inv
      subst hy
      k_steps
      rename News _ _ _ _ => lN
      refine' hret _ ((l, srcO _ _ _ _ _) :: rest) _ _ (by k_asm) (fun p hp => lN p ?hm) ⟨_, ⟨congrArg Value.bool (by simp), ⟨_, _, _, _, _, rfl, ?ha, ?hb, ?hc⟩⟩, rfl⟩
      case hm =>
        rcases List.mem_cons.mp hp with rfl | hp
        · k_mem
        · have hs := hsub p hp
          repeat first | exact hs | refine List.Mem.tail _ ?_
      case ha => omega
      case hb => omega
      case hc => omega
end
end Mine
namespace Mine
theorem great_ok (a : Int) (b : Bool) : 0 ≤ (if -1 - a > a then -1 - a else a) * (if b = true then 1 else 0) :=
  Int.mul_nonneg (by split <;> omega) (by cases b <;> decide)
section
local macro_rules | `(tactic| walk_at "call builtin:len") => `(tactic| (k_here; (with_reducible show wpAny _ _ (call (Value.builtin "len") [Value.ref _]) _ _ _); k_dflt (refine len_list (by is_list) (by assumption) ?_)))
theorem c_pool (w : World) (loose : List Str) (mean : ExcName → Option Value) (mg mb : Str → Option Value) (news : List (Addr × Obj)) (ls : Addr) (vs : List Value) (ns : List Int) (t : Tok) :
    Call w loose mean mg mb 77 2 [.ref ls, .int 0 t] news (fun h => h.IsList ls vs.toArray ∧ IntsAre vs ns ∧ ns.length ≤ 1000)
      (fun r news' => ∃ D o', r = .ref D ∧ IsSrc o' ∧ news' = (D, o') :: news ∧ ∀ q ∈ news, q.1 < D) := by
  unfold Call
  k_fill
  intro dp un gd cn cs a ccd cl outer A₀ base h₀ L m s Q E B F X N T hk hpre hd hu hret
  obtain ⟨hls, his, hlen⟩ := hpre
  refine wpAny_call ?_
  k_dflt cell_enter
  rename_i g L' h' FG lF N' B' X' T'
  have hls' : g.IsList ls vs.toArray := hls.at fun o e => FG.keep _ _ e
  have hsz : ((vs.toArray.size : Nat) : Int) < 2 ^ 63 := by rw [List.size_toArray, his.length]; omega
  k_steps
  all_goals exact hret _ _ _ _ (by k_asm) (by k_asm) ⟨_, _, rfl, ⟨_, _, _, _, _, rfl, great_ok _ _, Int.fmod_nonneg_of_pos _ (by decide), Int.fmod_lt_of_pos _ (by decide)⟩, rfl, by assumption⟩
end
end Mine
namespace Mine
section
variable {prog : Program} {w : World} {A : Around} {E : Value → Shared → Prop} {s : Shared} {h₀ : Heap} {L : Addr} {m : Str → Option Value} {env : Env}
def TextSrc (prog : Program) (w : World) (A : Around) (h₀ : Heap) (L : Addr) (m : Str → Option Value) (env : Env) (elt : PySem.Expr) (x : Str) (scope : Scope) (cl : List (Str × Addr)) (Q : Value → Shared → Prop) (xv : Value) (s₁ : Shared) : Prop :=
  ∃ z t news, xv = .str z t ∧ z.cps.all (· < 128) = false ∧ A.handled = none ∧ Fr h₀ L s₁.heap m ∧ News h₀ L s₁.heap news ∧ z.cps.size ≤ sizeLine ∧
      ∀ g, LCg.CompRest prog w A h₀ L m env elt x scope cl { s₁ with heap := g } (fun _ => True) (SignAt z) (LCg.FinE h₀ L m { s₁ with heap := g } Q) z.cps.size 0 [] news
theorem TextSrc.intro {elt : PySem.Expr} {x : Str} {scope : Scope} {cl : List (Str × Addr)} {Q : Value → Shared → Prop} {z : Str} {t : Tok} {news : List (Addr × Obj)} {s₁ : Shared} (hw : z.cps.all (· < 128) = false) (hh : A.handled = none) (F : Fr h₀ L s₁.heap m) (N : News h₀ L s₁.heap news) (hz : z.cps.size ≤ sizeLine)
    (h : ∀ g, LCg.CompRest prog w A h₀ L m env elt x scope cl { s₁ with heap := g } (fun _ => True) (SignAt z) (LCg.FinE h₀ L m { s₁ with heap := g } Q) z.cps.size 0 [] news) : TextSrc prog w A h₀ L m env elt x scope cl Q (.str z t) s₁ := ⟨z, t, news, rfl, hw, hh, F, N, hz, h⟩
theorem ListComp_text {elt iter : PySem.Expr} {x : Str} {px : Pos} {scope : Scope} {cl : List (Str × Addr)} {pos : Pos} {Q : Value → Shared → Prop} (_F₀ : Fr h₀ L s.heap m)
    (hclos : closureFor scope env = pure cl) (hcell : ∀ y ∈ scope.names, y.2 ≠ .cell) (hkind : scope.kind = .function)
    (hnames : ∀ y ∈ scope.names, y.2 = .local → scope.names.lookup y.1 = some .local) (hx : scope.names.lookup x = some .local)
    (h : wpAny (model prog w) A (eval iter env) (TextSrc prog w A h₀ L m env elt x scope cl Q) E s)
    (hs : ∀ x, foldedSetIterable iter env x = pure x := by intro _; rfl) :
    wpAny (model prog w) A (eval (.ListComp elt [⟨.Name x px, iter, [], 0⟩] scope pos) env) Q E s := by
  rw [eval_ListComp]
  refine wpAny_comprehension_free (use := none) rfl hs hclos hkind hnames (wpAny_mono h (fun xv s₁ h₁ => ?_) fun _ _ e => e)
  obtain ⟨z, t, news, rfl, hw, hh, F, N, hsz, R⟩ := h₁
  refine wpAny_pyIter_wide hw ?_
  refine LCg.block_U (P := SignAt z) (S := fun _ => True) (Walks.strWide hh s₁.heap.objs.size z t) hsz (fun i h st => by obtain ⟨o, e, _⟩ := st; exact ⟨o, e⟩) (fun i h h' o nw st e e' _ _ _ => by obtain ⟨o', q, r⟩ := st; rw [e] at q; cases q; exact ⟨o, e', r⟩) hcell hkind hx ⟨_, Heap.get?_push_size _ rfl, rfl, rfl⟩ (fun b hb => ?_)
    (F.keeps fun _ _ e => Heap.get?_push_of_some _ e) (N.grown fun _ _ e => Heap.get?_push_of_some _ e) (Nat.ne_of_lt F.ns.lt) (next_is_new F) (fun p hp => Nat.ne_of_lt (Heap.lt_size (N p hp).1)) trivial (R _) ?_
  · rw [List.mem_singleton.mp hb]
    show s₁.heap.objs.size < (s₁.heap.push _).objs.size
    rw [Heap.size_push]; exact Nat.lt_succ_self _
  · intro D C h tk m' ys news' F' N' o1 hn hC₀ hD₀ hCL hDL hCD offC fin
    refine ⟨m', hn, fun h'' hs'' => fin D h'' tk (F'.change hs'' hCL hC₀) (fun p hp => ?_) o1⟩
    refine ⟨hs''.extBut _ _ ?_ (N' p hp).1, (N' p hp).2⟩
    rcases List.mem_cons.mp hp with rfl | hp
    · exact Ne.symm hCD
    · exact offC p hp
def ValEnd (h₀ : Heap) (L : Addr) (m : Str → Option Value) (s₁ : Shared) (need : List (Addr × Obj)) (v : Value) (y : Value) (s₂ : Shared) : Prop :=
  ∃ h' tk', y = v ∧ s₂ = { s₁ with heap := h', toks := tk' } ∧ Fr h₀ L h' m ∧ News h₀ L h' need
theorem ValEnd.intro {s₁ : Shared} {need : List (Addr × Obj)} {v y : Value} {h' : Heap} {tk' : Nat} (F : Fr h₀ L h' m) (N : News h₀ L h' need) (e : y = v) :
    ValEnd h₀ L m s₁ need v y { s₁ with heap := h', toks := tk' } := ⟨h', tk', e, rfl, F, N⟩
theorem rest_B {elt : PySem.Expr} {x : Str} {scope : Scope} {cl : List (Str × Addr)} {S : List (Addr × Obj) → Prop} {P : Nat → Value → Prop} {Fin : List Value → List (Addr × Obj) → Prop} {n : Nat} {news : List (Addr × Obj)} (f : Nat → Bool) (hS : S news)
    (turn : ∀ i v ys I oI C oC D m₂ h tk (E' : Value → Shared → Prop), i < n → P i v → LCg.NsObj oC m₂ → m₂ x = some v → Fr h₀ L h m → News h₀ L h ((I, oI) :: (C, oC) :: (D, LCg.lst ys) :: news) →
      wpAny (model prog w) A (eval elt (compEnvC scope cl C env)) (ValEnd h₀ L m s ((I, oI) :: (C, oC) :: (D, LCg.lst ys) :: news) (.bool (f i))) E' { s with heap := h, toks := tk })
    (fin : Fin (((List.range n).map f).map Value.bool) news) : LCg.CompRest prog w A h₀ L m env elt x scope cl s S P Fin n 0 [] news := by
  have all : ∀ k i, i + k = n → LCg.CompRest prog w A h₀ L m env elt x scope cl s S P Fin k i (((List.range i).map f).map Value.bool) news := by
    intro k
    induction k with
    | zero =>
      intro i hi
      have e : i = n := by omega
      subst e
      exact fin
    | succ k ih =>
      intro i hi
      refine LCg.CompRest.succ ?_
      intro v I oI C oC D m₂ h tk E' hP hC hx F N off ne
      refine wpAny_mono (turn i v _ I oI C oC D m₂ h tk E' (by omega) hP hC hx F N) ?_ fun _ _ e => e
      rintro y s₂ ⟨h', tk', rfl, rfl, F', N'⟩
      refine ⟨h', tk', news, rfl, F', N', off, hS, ?_⟩
      have q := ih (i + 1) (by omega)
      rw [List.range_succ, List.map_append, List.map_append] at q
      exact q
  exact all n 0 (by omega)
end
end Mine
namespace Mine
theorem c_small_yes (w : World) (loose : List Str) (mean : ExcName → Option Value) (mg mb : Str → Option Value) (news : List (Addr × Obj)) (c : Nat) (t : Tok) :
    Call w loose mean mg mb 56 1 [.str ⟨#[c]⟩ t] news (fun _ => 98 ≤ c ∧ c ≤ 121) (fun r news' => r = .bool true ∧ news' = news) := by
  intro dp un gd cn cs a ccd cl outer A₀ base h₀ L m s Q E B F X N T hk hpre hd hu hret
  refine c_small w loose mean mg mb news c t dp un gd cn cs a ccd cl outer A₀ base h₀ L m s Q E B F X N T hk trivial hd hu ?_
  rintro r n h' tk' F' N' ⟨rfl, rfl⟩
  exact hret _ _ h' tk' F' N' ⟨by rw [decide_eq_true (show 97 ≤ c by omega), decide_eq_true (show c ≤ 122 by omega)]; rfl, rfl⟩
theorem c_small_up (w : World) (loose : List Str) (mean : ExcName → Option Value) (mg mb : Str → Option Value) (news : List (Addr × Obj)) (c : Nat) (t : Tok) :
    Call w loose mean mg mb 56 1 [.str (Txt.upper ⟨#[c]⟩) t] news (fun _ => 98 ≤ c ∧ c ≤ 121) (fun r news' => r = .bool false ∧ news' = news) := by
  intro dp un gd cn cs a ccd cl outer A₀ base h₀ L m s Q E B F X N T hk hpre hd hu hret
  have e : Txt.upper ⟨#[c]⟩ = ⟨#[c - 32]⟩ := by rw [KOpn.upper_one (by omega), if_pos (by omega)]
  rw [e]
  refine c_small w loose mean mg mb news (c - 32) t dp un gd cn cs a ccd cl outer A₀ base h₀ L m s Q E B F X N T hk trivial hd hu ?_
  rintro r n h' tk' F' N' ⟨rfl, rfl⟩
  exact hret _ _ h' tk' F' N' ⟨by rw [decide_eq_false (show ¬ 97 ≤ c - 32 by omega)]; rfl, rfl⟩
/-- the tables' calls, the source ahead of the rest -/
theorem Call.tabL {w : World} {loose : List Str} {mean : ExcName → Option Value} {mg mb : Str → Option Value} {f l : Addr} {d : Nat} {vs : List Value} {R : List (Int × Int)} {o : Obj} {rest : List (Addr × Obj)}
    (C : Call w loose mean mg mb f d vs ((l, o) :: rest) (fun _ => True) (fun r news' => ∃ tl, news' = tl ++ ((l, o) :: rest) ∧ Above ((l, o) :: rest) tl ∧ RgL tl r R)) :
    Call w loose mean mg mb f d vs ((l, o) :: rest) (fun _ => ∀ p ∈ rest, p.1 ≠ l) (fun r news' => ∃ rest', news' = (l, o) :: rest' ∧ (∀ p ∈ rest, p ∈ rest') ∧ (∀ p ∈ rest', p.1 ≠ l) ∧ RgL rest' r R) := by
  intro dp un gd cn cs a ccd cl outer A₀ base h₀ L m s Q E B F X N T hk hpre hd hu hret
  refine C dp un gd cn cs a ccd cl outer A₀ base h₀ L m s Q E B F X N T hk trivial hd hu ?_
  rintro r n h' tk' F' N' ⟨tl, rfl, hA, hR⟩
  refine hret _ ((l, o) :: (tl ++ rest)) h' tk' F' (fun p hp => N' p ?_) ⟨tl ++ rest, rfl, fun p hp => List.mem_append_right _ hp, fun p hp => ?_, hR.left⟩
  · rcases List.mem_cons.mp hp with rfl | hp
    · exact List.mem_append_right _ (.head _)
    · exact (List.mem_append.mp hp).elim (fun h => List.mem_append_left _ h) fun h => List.mem_append_right _ (.tail _ h)
  · rcases List.mem_append.mp hp with hp | hp
    · exact Nat.ne_of_gt (hA _ (.head _) p hp)
    · exact hpre p hp
theorem c_oneSU (w : World) (loose : List Str) (mean : ExcName → Option Value) (mg mb : Str → Option Value) (news : List (Addr × Obj)) (g : Obj → List (Addr × Obj)) (l : Addr) (x y : Int) (t1 t2 : Tok) (n : Nat) (t : Tok) (U : UpdF l (srcO x y t1 t2 n) news g) :
    Call w loose mean mg mb 91 2 [.ref l, .str (Str.ofString "bcdefghijklmnopqrstuvwxy") t] news (fun _ => 0 ≤ x ∧ 0 ≤ y ∧ y < 2147483647)
      (fun r news' => ∃ o', (∃ c tk x' y' t1' t2' n', r = .str ⟨#[c]⟩ tk ∧ 98 ≤ c ∧ c ≤ 121 ∧ o' = srcO x' y' t1' t2' n' ∧ 0 ≤ x' ∧ 0 ≤ y' ∧ y' < 2147483647) ∧ news' = g o') :=
  Call.upd (Post := fun r o' => ∃ c tk x' y' t1' t2' n', r = .str ⟨#[c]⟩ tk ∧ 98 ≤ c ∧ c ≤ 121 ∧ o' = srcO x' y' t1' t2' n' ∧ 0 ≤ x' ∧ 0 ≤ y' ∧ y' < 2147483647) U fun rest hr _ => (c_oneS w loose mean mg mb rest l x y t1 t2 n t).out (fun _ h => ⟨h.1, h.2.1, h.2.2, hr⟩)
    fun _ _ ⟨c, tk, x', y', t1', t2', n', e, h1, h2, h3, h4, h5, e'⟩ => ⟨_, ⟨c, tk, x', y', t1', t2', n', e, h1, h2, rfl, h3, h4, h5⟩, e'⟩
theorem c_oneLU (w : World) (loose : List Str) (mean : ExcName → Option Value) (mg mb : Str → Option Value) (news : List (Addr × Obj)) (g : Obj → List (Addr × Obj)) (l : Addr) (x y : Int) (t1 t2 : Tok) (n : Nat) (lt : Addr) (vs : List Value) (nt : Nat) (U : UpdF l (srcO x y t1 t2 n) news g)
    (hm : (lt, ({ cls := .type "list", data := .seq vs.toArray nt } : Obj)) ∈ news) :
    Call w loose mean mg mb 91 2 [.ref l, .ref lt] news (fun _ => 0 ≤ x ∧ 0 ≤ y ∧ y < 2147483647 ∧ lt ≠ l ∧ 1 ≤ vs.length ∧ vs.length ≤ 1000)
      (fun r news' => ∃ o', (∃ x' y' t1' t2' n', r ∈ vs ∧ o' = srcO x' y' t1' t2' n' ∧ 0 ≤ x' ∧ 0 ≤ y' ∧ y' < 2147483647) ∧ news' = g o') := by
  intro dp un gd cn cs a ccd cl outer A₀ base h₀ L m s Q E B F X N T hk hpre hd hu hret
  refine Call.upd (Pre := fun _ => 0 ≤ x ∧ 0 ≤ y ∧ y < 2147483647 ∧ lt ≠ l ∧ 1 ≤ vs.length ∧ vs.length ≤ 1000) (Post := fun r o' => ∃ x' y' t1' t2' n', r ∈ vs ∧ o' = srcO x' y' t1' t2' n' ∧ 0 ≤ x' ∧ 0 ≤ y' ∧ y' < 2147483647) U
    (fun rest hr hmem => (c_oneL w loose mean mg mb rest l x y t1 t2 n lt vs nt).out (fun _ h => ⟨h.1, h.2.1, h.2.2.1, hr, hmem _ hm h.2.2.2.1, h.2.2.2.2.1, h.2.2.2.2.2⟩)
      fun _ _ ⟨x', y', t1', t2', n', e, h3, h4, h5, e'⟩ => ⟨_, ⟨x', y', t1', t2', n', e, rfl, h3, h4, h5⟩, e'⟩) dp un gd cn cs a ccd cl outer A₀ base h₀ L m s Q E B F X N T hk hpre hd hu hret
theorem c_rightU (w : World) (loose : List Str) (mean : ExcName → Option Value) (mg mb : Str → Option Value) (news : List (Addr × Obj)) (g : Obj → List (Addr × Obj)) (l : Addr) (x y : Int) (t1 t2 : Tok) (n : Nat) (U : UpdF l (srcO x y t1 t2 n) news g) :
    Call w loose mean mg mb 141 16 [.ref l] news (fun _ => 0 ≤ x ∧ 0 ≤ y ∧ y < 2147483647) (fun r news' => ∃ o', (r = .bool true ∧ IsSrc o') ∧ news' = g o') :=
  Call.upd (Post := fun r o' => r = .bool true ∧ IsSrc o') U fun rest hr _ => (c_right w loose mean mg mb rest l x y t1 t2 n).out (fun _ h => ⟨h.1, h.2.1, h.2.2, hr⟩) fun _ _ h => h
theorem News.one {h₀ h : Heap} {L : Addr} {p : Addr × Obj} {news : List (Addr × Obj)} (N : News h₀ L h (p :: news)) : News h₀ L h [p] := fun q hq => N q (by rw [List.mem_singleton.mp hq]; exact .head _)
theorem rg_none {h : Heap} {news : List (Addr × Obj)} {l : Addr} {n : Nat} (hm : (l, ({ cls := .type "list", data := .seq #[] n } : Obj)) ∈ news) : RgIn (Has h news) (.ref l) [] := ⟨l, "list", [], n, rfl, .inl rfl, .inr hm, .nil⟩
def rg3 : List (Int × Int) := [(2, 3), (5, 5), (8, 9)]
theorem rg_three {h : Heap} {news : List (Addr × Obj)} {l a b c : Addr} {t1 t2 t3 t4 t5 t6 : Tok} {n n1 n2 n3 : Nat} (hm : (l, ({ cls := .type "tuple", data := .seq #[.ref a, .ref b, .ref c] n } : Obj)) ∈ news)
    (h1 : (a, pairO 2 3 t1 t2 n1) ∈ news) (h2 : (b, pairO 5 5 t3 t4 n2) ∈ news) (h3 : (c, pairO 8 9 t5 t6 n3) ∈ news) : RgIn (Has h news) (.ref l) rg3 :=
  ⟨l, "tuple", [.ref a, .ref b, .ref c], n, rfl, .inr rfl, .inr hm, .cons (.inr h1) (.cons (.inr h2) (.cons (.inr h3) .nil))⟩
def codes8 : List Int := [1, 2, 3, 4, 5, 6, 9, 10]
def eightB (i : Nat) : Bool := inR (codes8.getD i 0) rg3
theorem eight_all : (List.range 8).map eightB = [false, true, true, false, true, false, true, false] := by decide +kernel
def textB (i : Nat) : Bool := decide (97 ≤ ((Str.ofString "az`{AZ\x40[é ").cps[i]?).getD 0) && decide (((Str.ofString "az`{AZ\x40[é ").cps[i]?).getD 0 ≤ 122)
theorem text_all : (List.range 10).map textB = [true, true, false, false, false, false, false, false, false, false] := by decide +kernel
theorem c_in_nil (w : World) (loose : List Str) (mean : ExcName → Option Value) (mg mb : Str → Option Value) (news : List (Addr × Obj)) (c : Int) (t : Tok) (v : Value) :
    Call w loose mean mg mb 42 1 [.int c t, v] news (fun h₀ => RgIn (Has h₀ news) v []) (fun r news' => r = .bool false ∧ news' = news) := c_in w loose mean mg mb news c t v []
theorem IsSrc.out {o : Obj} (h : IsSrc o) : ∃ x y t1 t2 n, o = srcO x y t1 t2 n ∧ 0 ≤ x ∧ 0 ≤ y ∧ y < 2147483647 := h
theorem RgL.out {news : List (Addr × Obj)} {v : Value} {R : List (Int × Int)} (h : RgL news v R) : ∃ (l : Addr) (vs : List Value) (n : Nat), v = .ref l ∧ (l, ({ cls := .type "list", data := .seq vs.toArray n } : Obj)) ∈ news ∧ Rgs (fun a o => (a, o) ∈ news) vs R := h
theorem rg_mem {news : List (Addr × Obj)} {r : Value} {l1 l2 l3 : Addr} (h1 : RgL news (.ref l1) startT) (h2 : RgL news (.ref l2) moreT) (h3 : RgL news (.ref l3) charT) (hr : r ∈ [Value.ref l1, Value.ref l2, Value.ref l3]) :
    ∃ lt vs n R, r = .ref lt ∧ (lt, ({ cls := .type "list", data := .seq vs.toArray n } : Obj)) ∈ news ∧ Rgs (fun a o => (a, o) ∈ news) vs R ∧ 1 ≤ vs.length ∧ vs.length ≤ 1000 := by
  have k : ∀ {l : Addr} {R : List (Int × Int)}, RgL news (.ref l) R → 1 ≤ R.length → R.length ≤ 1000 → ∃ lt vs n R, Value.ref l = .ref lt ∧ (lt, ({ cls := .type "list", data := .seq vs.toArray n } : Obj)) ∈ news ∧ Rgs (fun a o => (a, o) ∈ news) vs R ∧ 1 ≤ vs.length ∧ vs.length ≤ 1000 := by
    rintro l R ⟨l', vs, n, e, hm, hg⟩ ha hb
    exact ⟨l', vs, n, R, e, hm, hg, by rw [hg.length]; exact ha, by rw [hg.length]; exact hb⟩
  rcases List.mem_cons.mp hr with rfl | hr
  · exact k h1 (by decide +kernel) (by decide +kernel)
  rcases List.mem_cons.mp hr with rfl | hr
  · exact k h2 (by decide +kernel) (by decide +kernel)
  · rw [List.mem_singleton.mp hr]
    exact k h3 (by decide +kernel) (by decide +kernel)
theorem Rgs.of_mem {P : Addr → Obj → Prop} {vs : List Value} {R : List (Int × Int)} (x : Rgs P vs R) : ∀ {v : Value}, v ∈ vs → ∃ r a b t1 t2 n, v = .ref r ∧ P r (pairO a b t1 t2 n) := by
  intro v h
  obtain ⟨i, hi⟩ := List.getElem?_of_mem h
  obtain ⟨a, b, t1, t2, n, r, _, e, hp⟩ := x.at hi
  exact ⟨r, a, b, t1, t2, n, e, hp⟩
theorem Rgs.drop {P : Addr → Obj → Prop} {vs : List Value} {R : List (Int × Int)} (x : Rgs P vs R) : ∀ k, Rgs P (vs.drop k) (R.drop k) := by
  induction x with
  | nil => intro k; rw [List.drop_nil, List.drop_nil]; exact .nil
  | cons hp h ih =>
    intro k
    cases k with
    | zero => exact .cons hp h
    | succ k => exact ih k
theorem Rgs.take {P : Addr → Obj → Prop} {vs : List Value} {R : List (Int × Int)} (x : Rgs P vs R) : ∀ k, Rgs P (vs.take k) (R.take k) := by
  induction x with
  | nil => intro k; rw [List.take_nil, List.take_nil]; exact .nil
  | cons hp h ih =>
    intro k
    cases k with
    | zero => exact .nil
    | succ k => exact .cons hp (ih k)
theorem Rgs.pick13 {P : Addr → Obj → Prop} {vs : List Value} {R : List (Int × Int)} (x : Rgs P vs R) : Rgs P (slicePick vs.toArray (some 1) (some 3) none).toList ((R.drop 1).take 2) := by
  have e : sliceBounds (some 1) (some 3) none vs.toArray.size = (((min 1 vs.length : Nat) : Int), ((min 3 vs.length : Nat) : Int), 1) := by
    simp only [sliceBounds, List.size_toArray, Option.getD_none, show (1 : Int) > 0 by decide, if_true, if_neg (show ¬ ((1 : Int) < 0) by omega), if_neg (show ¬ ((3 : Int) < 0) by omega)]
    congr 1
    · omega
    · congr 1
      omega
  rw [kmk_pick_nat _ e]
  show Rgs P ((vs.drop (min 1 vs.length)).take (min 3 vs.length - min 1 vs.length)) _
  have e2 : (vs.drop (min 1 vs.length)).take (min 3 vs.length - min 1 vs.length) = (vs.drop 1).take 2 := by
    rw [kmk_drop_min]
    by_cases h : 3 ≤ vs.length
    · rw [Nat.min_eq_left h, Nat.min_eq_left (by omega)]
    · rw [List.take_of_length_le (by rw [List.length_drop]; omega), List.take_of_length_le (by rw [List.length_drop]; omega)]
  rw [e2]
  exact (x.drop 1).take 2
theorem Rgs.pick1 {P : Addr → Obj → Prop} {vs : List Value} {R : List (Int × Int)} (x : Rgs P vs R) : Rgs P (slicePick vs.toArray (some 1) none none).toList (R.drop 1) := by
  have e : sliceBounds (some 1) none none vs.toArray.size = (((min 1 vs.length : Nat) : Int), ((vs.length : Nat) : Int), 1) := by
    simp only [sliceBounds, List.size_toArray, Option.getD_none, show (1 : Int) > 0 by decide, if_true, if_neg (show ¬ ((1 : Int) < 0) by omega)]
    congr 1
    omega
  rw [kmk_pick_nat _ e]
  show Rgs P ((vs.drop (min 1 vs.length)).take (vs.length - min 1 vs.length)) _
  rw [kmk_drop_min, List.take_of_length_le (by rw [List.length_drop]; omega)]
  exact x.drop 1
theorem News.cdr {h₀ h : Heap} {L : Addr} {p : Addr × Obj} {news : List (Addr × Obj)} (N : News h₀ L h (p :: news)) : News h₀ L h news := fun q hq => N q (.tail _ hq)
theorem ne_of_all {G : Addr} {l : List (Addr × Obj)} (h : AllLt G l) : ∀ p ∈ l, p.1 ≠ G := fun p hp => Nat.ne_of_lt (ktn_ltOf h p hp)
theorem News.dup {h₀ h : Heap} {L l : Addr} {o : Obj} {q : Addr × Obj} {r rs : List (Addr × Obj)} (N : News h₀ L h ((l, o) :: rs)) (hs : ∀ p ∈ q :: r, p ∈ rs) : News h₀ L h ((l, o) :: q :: rs) := fun p hp => N p (by
  rcases List.mem_cons.mp hp with rfl | hp
  · exact .head _
  rcases List.mem_cons.mp hp with rfl | hp
  · exact .tail _ (hs _ (.head _))
  · exact .tail _ hp)
theorem News.c1 {h₀ h : Heap} {L : Addr} {a b : Addr × Obj} {r : List (Addr × Obj)} (N : News h₀ L h (a :: b :: r)) : News h₀ L h (a :: r) := fun p hp => N p (by
  rcases List.mem_cons.mp hp with rfl | hp
  · exact .head _
  · exact .tail _ (.tail _ hp))
theorem News.g1 {h₀ h : Heap} {L : Addr} {a b c d : Addr × Obj} {r : List (Addr × Obj)} (N : News h₀ L h (a :: b :: c :: d :: r)) : News h₀ L h (d :: a :: r) := fun p hp => N p (by
  rcases List.mem_cons.mp hp with rfl | hp
  · exact .tail _ (.tail _ (.tail _ (.head _)))
  rcases List.mem_cons.mp hp with rfl | hp
  · exact .head _
  · exact .tail _ (.tail _ (.tail _ (.tail _ hp))))
theorem bnd {P : Int → Prop} {a b : List Int} (ha : ∀ c ∈ a, P c) (hb : ∀ c ∈ b, P c) : ∀ c ∈ a ++ b, P c := fun c h => (List.mem_append.mp h).elim (ha c) (hb c)
theorem News.c2 {h₀ h : Heap} {L : Addr} {a b c : Addr × Obj} {r : List (Addr × Obj)} (N : News h₀ L h (a :: b :: c :: r)) : News h₀ L h (a :: b :: r) := fun p hp => N p (by
  rcases List.mem_cons.mp hp with rfl | hp
  · exact .head _
  rcases List.mem_cons.mp hp with rfl | hp
  · exact .tail _ (.head _)
  · exact .tail _ (.tail _ (.tail _ hp)))
theorem single_bnd {k : Int} (h1 : k < 128) (h0 : 0 ≤ k) : ∀ c ∈ [k], 0 ≤ c ∧ c ≤ 1114111 := fun c hc => by rw [List.mem_singleton.mp hc]; exact ⟨h0, by omega⟩
theorem ints_by {h₀ h : Heap} {L G : Addr} {p : Addr × Obj} {r : List (Addr × Obj)} {vs : List Value} {ns : List Int} {n : Int} {t : Tok} {k : Nat} (_N : News h₀ L h (p :: (G, W.listOf (vs ++ [Value.int n t]).toArray k) :: r)) (hI : IntsAre vs ns) : IntsAre (vs ++ [Value.int n t]) (ns ++ [n]) := ints_snoc hI n t
theorem slice_any {prog : Program} {w : World} {A : Around} {E : Value → Shared → Prop} {s : Shared} {h₀ : Heap} {L l : Addr} {m : Str → Option Value} {news : List (Addr × Obj)} {value slice : PySem.Expr} {its : Array Value} {vl vu : Value} {lo hi : Option Int} {Q : Value → Shared → Prop}
    (P : List Value → Prop) (F : Fr h₀ L s.heap m) (N : News h₀ L s.heap news) (hl : s.heap.IsList l its) (pl : IsPart vl lo) (pu : IsPart vu hi) (hp : P (slicePick its lo hi none).toList)
    (h : ∀ D zs h', Fr h₀ L h' m → News h₀ L h' ((D, listOf (List.toArray zs) 0) :: news) → (∀ p ∈ news, p.1 < D) → P zs → Q (.ref D) { s with heap := h' })
    (hs : subscripted slice false (.ref l) (.ref s.heap.objs.size) = operate [.ref s.heap.objs.size, .ref l] (getItem (.ref l) (.ref s.heap.objs.size))) (ht : ∀ r, letTemporaryGo value (.ref l) r = pure ()) (hz : its.size ≤ sizeLine) :
    wpAny (model prog w) A (subscriptTail value slice (.ref l) (.ref s.heap.objs.size)) Q E { s with heap := s.heap.push { cls := .type "slice", data := .fields #[vl, vu, .none] } } :=
  kmk_slice F N hl pl pu (fun D h' F' N' l1 => h D _ h' F' (by rw [Array.toArray_toList]; exact N') l1 hp) hs ht hz
def RgsP (news : List (Addr × Obj)) (R : List (Int × Int)) (zs : List Value) : Prop := Rgs (fun a o => (a, o) ∈ news) zs R
theorem RgsP.list {news : List (Addr × Obj)} {R : List (Int × Int)} {zs : List Value} (h : RgsP news R zs) {a b c : Addr × Obj} : Rgs (fun a' o => (a', o) ∈ a :: b :: c :: news) zs R := (show Rgs (fun a' o => (a', o) ∈ news) zs R from h).mono fun _ _ h => List.Mem.tail _ (List.Mem.tail _ (List.Mem.tail _ h))
abbrev RgsP.of {news : List (Addr × Obj)} {R : List (Int × Int)} {vs : List Value} (_h : Rgs (fun a o => (a, o) ∈ news) vs R) (R' : List (Int × Int)) (zs : List Value) : Prop := RgsP news R' zs
theorem RgsP.back {news : List (Addr × Obj)} {R R' : List (Int × Int)} {vs zs : List Value} {h : Rgs (fun a o => (a, o) ∈ news) vs R} (x : RgsP.of h R' zs) : RgsP news R' zs := x
end Mine
namespace Mine
local macro_rules | `(tactic| k_all) => `(tactic| assumption)
local macro_rules | `(tactic| walk_at "newTuple") => `(tactic| (k_here; k_dflt (refine' kup_newTuple ?F ?N ?_ ?z; (case F => k_asm); (case N => k_asm); (case z => kmk_size)); intro D' h' F' N' l1; (try k_lt l1); (try k_sweep)))
local macro_rules | `(tactic| walk_at "eval ListComp") => `(tactic| (k_here; (with_reducible show wpAny _ _ (eval (Expr.ListComp _ [⟨Expr.Name _ _, Expr.Name _ _, [], 0⟩] _ _) _) _ _ _); k_dflt (refine ListComp_text (by k_asm) (by with_unfolding_all rfl) (by decide) (by rfl) (by decide) (by rfl) ?_)))
local macro_rules | `(tactic| walk_at "eval ListComp") => `(tactic| (k_here; (with_reducible show wpAny _ _ (eval (Expr.ListComp _ [⟨Expr.Name _ _, Expr.List _ _, [], 0⟩] _ _) _) _ _ _); k_dflt (refine LCg.ListComp_U (F₀ := by k_asm) (by with_unfolding_all rfl) (by decide) (by rfl) (by decide) (by rfl) ?_)))
local macro_rules | `(tactic| walk_at "eval ListComp") => `(tactic| (k_here; lct_look; k_dflt (refine LCt.ListComp_T (F₀ := by k_asm) (by with_unfolding_all rfl) (by decide) (by rfl) (by decide) (by rfl) ?_)))
local macro_rules | `(tactic| walk_at "ite") => `(tactic| first | ((with_reducible show if (false = true) then _ else _); (with_reducible refine ite_neg Bool.false_ne_true ?_)) | ((with_reducible show if (true = true) then _ else _); (with_reducible refine ite_pos rfl ?_)))
local macro_rules | `(tactic| walk_at "CompSrc") => `(tactic| (k_here; k_dflt (refine LCg.CompSrc.ledger (by rfl) (by k_asm) (News.one (by k_asm)) (List.Mem.head _) (by exact Nat.le_of_ble_eq_true rfl) ?_; intro g'); refine hold ?_))
local macro_rules | `(tactic| walk_at "call builtin:str.upper") => `(tactic| (k_here; (with_reducible show wpAny _ _ (call (Value.builtin "str.upper") [Value.str (Str.mk _) _]) _ _ _); (refine SCL.upper (show (1 : Nat) ≤ 5592405 by decide) ?_; intro _)))
local macro_rules | `(tactic| walk_at "call builtin:list.append") => `(tactic| (k_here; refine hold ?_))
local macro_rules | `(tactic| walk_at "subscriptTail Name Slice ref ref") => `(tactic| (k_here; refine hold ?_))
local macro_rules | `(tactic| walk_at "CompSrcT") => `(tactic| (k_here; k_dflt (refine LCt.CompSrcT.ledger (by rfl) (by k_asm) (by k_asm) (by k_mem) (by rw [List.size_toArray, IntsAre.length (by with_reducible assumption), sizeLine_eq]; simp only [List.length_append, List.length_cons, List.length_nil]; omega) ?_; intro g')))
local macro_rules | `(tactic| walk_at "compareOp Eq ref ref") => `(tactic| (k_here; (with_reducible show wpAny _ _ (compareOp CmpOp.Eq (Value.ref _) (Value.ref _)) _ _ _); k_dflt (refine ke_eq_ints (xs := []) (ys := []) (ns := []) (ms := []) (by is_list) (by is_list) .nil .nil (by ktr_units) ?_)))
local macro_rules | `(tactic| walk_at "call ref") => `(tactic| (k_here; (with_reducible show wpAny _ _ (call (Value.ref 56) [Value.str (Str.mk _) _]) _ _ _); k_dflt (refine' Call.use (c_small _ _ _ _ _ _ _ _) ?k1 ?k2 ?k3 ?k4 ?k5 ?kK ?kp ?kd ?ku ?_; (case k1 => k_asm); (case k2 => k_asm); (case k3 => k_asm); (case k4 => k_asm); (case k5 => k_asm); (case kK => first | exact rfl | assumption); (case kp => exact trivial); (case kd => ktr_room); (case ku => ktr_units)); intro r9 n9 h9 tk9 F9 N9 o9; obtain ⟨e1, e2⟩ := o9; subst r9; subst n9; (try dsimp only); (try k_fold)))
local macro_rules | `(tactic| walk_at "call ref") => `(tactic| (k_here; (with_reducible show wpAny _ _ (call (Value.ref 56) [Value.str (Str.mk _) _]) _ _ _); k_dflt (refine' Call.use (c_small_yes _ _ _ _ _ _ _ _) ?k1 ?k2 ?k3 ?k4 ?k5 ?kK ?kp ?kd ?ku ?_; (case k1 => k_asm); (case k2 => k_asm); (case k3 => k_asm); (case k4 => k_asm); (case k5 => k_asm); (case kK => first | exact rfl | assumption); (case kp => exact ⟨by assumption, by assumption⟩); (case kd => ktr_room); (case ku => ktr_units)); intro r9 n9 h9 tk9 F9 N9 o9; obtain ⟨e1, e2⟩ := o9; subst r9; subst n9; (try dsimp only); (try k_fold)))
local macro_rules | `(tactic| walk_at "call ref") => `(tactic| (k_here; (with_reducible show wpAny _ _ (call (Value.ref 56) [Value.str (Txt.upper _) _]) _ _ _); k_dflt (refine' Call.use (c_small_up _ _ _ _ _ _ _ _) ?k1 ?k2 ?k3 ?k4 ?k5 ?kK ?kp ?kd ?ku ?_; (case k1 => k_asm); (case k2 => k_asm); (case k3 => k_asm); (case k4 => k_asm); (case k5 => k_asm); (case kK => first | exact rfl | assumption); (case kp => exact ⟨by assumption, by assumption⟩); (case kd => ktr_room); (case ku => ktr_units)); intro r9 n9 h9 tk9 F9 N9 o9; obtain ⟨e1, e2⟩ := o9; subst r9; subst n9; (try dsimp only); (try k_fold)))
local macro_rules | `(tactic| walk_at "call ref") => `(tactic| (k_here; (with_reducible show wpAny _ _ (call (Value.ref 42) [Value.int _ _, Value.ref _]) _ _ _); k_dflt (refine' Call.use (c_in _ _ _ _ _ _ _ _ _ rg3) ?k1 ?k2 ?k3 ?k4 ?k5 ?kK ?kp ?kd ?ku ?_; (case k1 => k_asm); (case k2 => k_asm); (case k3 => k_asm); (case k4 => k_asm); (case k5 => k_asm); (case kK => first | exact rfl | assumption); (case kp => exact rg_three (by k_mem) (by k_mem) (by k_mem) (by k_mem)); (case kd => ktr_room); (case ku => ktr_units)); intro r9 n9 h9 tk9 F9 N9 o9; obtain ⟨e1, e2⟩ := o9; subst r9; subst n9; (try dsimp only); (try k_fold)))
local macro_rules | `(tactic| walk_at "call ref") => `(tactic| (k_here; (with_reducible show wpAny _ _ (call (Value.ref 42) [Value.int _ _, Value.ref _]) _ _ _); k_dflt (refine' Call.use (c_in_nil _ _ _ _ _ _ _ _ _) ?k1 ?k2 ?k3 ?k4 ?k5 ?kK ?kp ?kd ?ku ?_; (case k1 => k_asm); (case k2 => k_asm); (case k3 => k_asm); (case k4 => k_asm); (case k5 => k_asm); (case kK => first | exact rfl | assumption); (case kp => exact rg_none (by k_mem)); (case kd => ktr_room); (case ku => ktr_units)); intro r9 n9 h9 tk9 F9 N9 o9; obtain ⟨e1, e2⟩ := o9; subst r9; subst n9; (try dsimp only); (try k_fold)))
local macro_rules | `(tactic| walk_at "call ref") => `(tactic| (k_here; (with_reducible show wpAny _ _ (call (Value.ref 77) [Value.ref _, Value.int _ _]) _ _ _); k_dflt (refine' Call.use (c_pool _ _ _ _ _ _ _ _ _ _) ?k1 ?k2 ?k3 ?k4 ?k5 ?kK ?kp ?kd ?ku ?_; (case k1 => k_asm); (case k2 => k_asm); (case k3 => k_asm); (case k4 => k_asm); (case k5 => k_asm); (case kK => first | exact rfl | assumption); (case kp => exact ⟨by assumption, by assumption, by omega⟩); (case kd => ktr_room); (case ku => ktr_units)); intro r9 n9 h9 tk9 F9 N9 o9; obtain ⟨D9, oo9, e1, hS9, e2, hlt9⟩ := o9; obtain ⟨x9, y9, ta9, tb9, nn9, eo9, hx9, hy9, hyy9⟩ := IsSrc.out hS9; subst r9; subst n9; subst oo9; replace N9 := News.one N9; clear hlt9; (try dsimp only); (try k_fold)))
local macro_rules | `(tactic| walk_at "call ref") => `(tactic| (k_here; (with_reducible show wpAny _ _ (call (Value.ref 91) [Value.ref _, Value.str _ _]) _ _ _); k_dflt (refine' Call.use (c_oneSU _ _ _ _ _ _ _ _ _ _ _ _ _ _ ?kU) ?k1 ?k2 ?k3 ?k4 ?k5 ?kK ?kp ?kd ?ku ?_; (case k1 => k_asm); (case k2 => k_asm); (case k3 => k_asm); (case k4 => k_asm); (case kU => k_updF); (case k5 => k_asm); (case kK => first | exact rfl | assumption); (case kp => exact ⟨by omega, by omega, by omega⟩); (case kd => ktr_room); (case ku => ktr_units)); intro r9 n9 h9 tk9 F9 N9 o9; obtain ⟨oo9, ⟨c9, tk9', x9, y9, ta9, tb9, nn9, e1, hc0, hc1, eo9, hx9, hy9, hyy9⟩, e2⟩ := o9; subst r9; subst n9; subst oo9; (try dsimp only at N9); (try dsimp only); (try k_fold)))
local macro_rules | `(tactic| walk_at "call ref") => `(tactic| (k_here; (with_reducible show wpAny _ _ (call (Value.ref 141) [Value.ref _]) _ _ _); k_dflt (refine' Call.use (c_rightU _ _ _ _ _ _ _ _ _ _ _ _ _ ?kU) ?k1 ?k2 ?k3 ?k4 ?k5 ?kK ?kp ?kd ?ku ?_; (case k1 => k_asm); (case k2 => k_asm); (case k3 => k_asm); (case k4 => k_asm); (case kU => k_updF); (case k5 => k_asm); (case kK => first | exact rfl | assumption); (case kp => exact ⟨by omega, by omega, by omega⟩); (case kd => ktr_room); (case ku => ktr_units)); intro r9 n9 h9 tk9 F9 N9 o9; obtain ⟨oo9, ⟨e1, hS9⟩, e2⟩ := o9; obtain ⟨x9, y9, ta9, tb9, nn9, eo9, hx9, hy9, hyy9⟩ := IsSrc.out hS9; subst r9; subst n9; subst oo9; (try dsimp only at N9); (try dsimp only); (try k_fold)))
local macro_rules | `(tactic| walk_at "call ref") => `(tactic| (k_here; (with_reducible show wpAny _ _ (call (Value.ref 84) [Value.ref _, Value.int _ _]) _ _ _); k_dflt (refine' Call.use (c_takeU _ _ _ _ _ _ _ _ _ _ _ _ _ _ _ ?kU) ?k1 ?k2 ?k3 ?k4 ?k5 ?kK ?kp ?kd ?ku ?_; (case k1 => k_asm); (case k2 => k_asm); (case k3 => k_asm); (case k4 => k_asm); (case kU => k_updF); (case k5 => k_asm); (case kK => first | exact rfl | assumption); (case kp => exact ⟨by omega, by omega, by omega, by omega, by omega⟩); (case kd => ktr_room); (case ku => ktr_units)); intro r9 n9 h9 tk9 F9 N9 o9; obtain ⟨oo9, ⟨k9, tk9', x9, y9, ta9, tb9, nn9, e1, hk0, hk1, eo9, hx9, hy9, hyy9⟩, e2⟩ := o9; subst r9; subst n9; subst oo9; (try dsimp only at N9); (try dsimp only); (try k_fold)))
local macro_rules | `(tactic| walk_at "call ref") => `(tactic| (k_here; (with_reducible show wpAny _ _ (call (Value.ref 105) _) _ _ _); refine hold ?_))
local macro_rules | `(tactic| walk_at "call ref") => `(tactic| (k_here; (with_reducible show wpAny _ _ (call (Value.ref 98) _) _ _ _); k_dflt (refine' Call.use (Call.tabL (c_starts _ _ _ _ _ ((_, srcO _ _ _ _ _) :: _))) ?k1 ?k2 ?k3 ?k4 ?k5 ?kK ?kp ?kd ?ku ?_; (case k1 => k_asm); (case k2 => k_asm); (case k3 => k_asm); (case k4 => k_asm); (case k5 => k_asm); (case kK => first | exact rfl | assumption); (case kp => first | exact List.forall_mem_nil _ | assumption | (refine List.forall_mem_cons.mpr ⟨?_, ?_⟩ <;> assumption)); (case kd => ktr_room); (case ku => ktr_units)); intro r9 n9 h9 tk9 F9 N9 o9; obtain ⟨rs9, e2, hs9, hn9, hR9⟩ := o9; subst n9; obtain ⟨l9, vv9, kk9, e1, hm9, hg9⟩ := RgL.out hR9; subst r9; (try replace N9 := News.dup N9 hs9); (try dsimp only); (try k_fold)))
local macro_rules | `(tactic| walk_at "call ref") => `(tactic| (k_here; (with_reducible show wpAny _ _ (call (Value.ref 105) _) _ _ _); k_dflt (refine' Call.use (Call.tabL (c_more _ _ _ _ _ ((_, srcO _ _ _ _ _) :: _))) ?k1 ?k2 ?k3 ?k4 ?k5 ?kK ?kp ?kd ?ku ?_; (case k1 => k_asm); (case k2 => k_asm); (case k3 => k_asm); (case k4 => k_asm); (case k5 => k_asm); (case kK => first | exact rfl | assumption); (case kp => first | exact List.forall_mem_nil _ | assumption | (refine List.forall_mem_cons.mpr ⟨?_, ?_⟩ <;> assumption)); (case kd => ktr_room); (case ku => ktr_units)); intro r9 n9 h9 tk9 F9 N9 o9; obtain ⟨rs9, e2, hs9, hn9, hR9⟩ := o9; subst n9; obtain ⟨l9, vv9, kk9, e1, hm9, hg9⟩ := RgL.out hR9; subst r9; (try replace N9 := News.dup N9 hs9); (try dsimp only); (try k_fold)))
local macro_rules | `(tactic| walk_at "call ref") => `(tactic| (k_here; (with_reducible show wpAny _ _ (call (Value.ref 112) _) _ _ _); k_dflt (refine' Call.use (Call.tabL (c_chars _ _ _ _ _ ((_, srcO _ _ _ _ _) :: _))) ?k1 ?k2 ?k3 ?k4 ?k5 ?kK ?kp ?kd ?ku ?_; (case k1 => k_asm); (case k2 => k_asm); (case k3 => k_asm); (case k4 => k_asm); (case k5 => k_asm); (case kK => first | exact rfl | assumption); (case kp => first | exact List.forall_mem_nil _ | assumption | (refine List.forall_mem_cons.mpr ⟨?_, ?_⟩ <;> assumption)); (case kd => ktr_room); (case ku => ktr_units)); intro r9 n9 h9 tk9 F9 N9 o9; obtain ⟨rs9, e2, hs9, hn9, hR9⟩ := o9; subst n9; obtain ⟨l9, vv9, kk9, e1, hm9, hg9⟩ := RgL.out hR9; subst r9; (try replace N9 := News.dup N9 hs9); (try dsimp only); (try k_fold)))
local macro_rules | `(tactic| walk_at "call ref") => `(tactic| (k_here; (with_reducible show wpAny _ _ (call (Value.ref 91) [Value.ref _, Value.ref _]) _ _ _); refine hold ?_))
local macro_rules | `(tactic| walk_at "call ref") => `(tactic| (k_here; (with_reducible show wpAny _ _ (call (Value.ref 122) _) _ _ _); refine hold ?_))
local macro_rules | `(tactic| walk_at "call ref") => `(tactic| (k_here; (with_reducible show wpAny _ _ (call (Value.ref 136) [Value.int _ _]) _ _ _); k_dflt (refine' Call.use (c_sign _ _ _ _ _ _ _ _) ?k1 ?k2 ?k3 ?k4 ?k5 ?kK ?kp ?kd ?ku ?_; (case k1 => k_asm); (case k2 => k_asm); (case k3 => k_asm); (case k4 => k_asm); (case k5 => k_asm); (case kK => first | exact rfl | assumption); (case kp => exact ⟨by assumption, by assumption⟩); (case kd => ktr_room); (case ku => ktr_units)); intro r9 n9 h9 tk9 F9 N9 o9; obtain ⟨e1, e2⟩ := o9; subst r9; subst n9; (try dsimp only); (try k_fold)))
structure Wrap (P : Prop) : Prop where
  out : P
theorem cut {P Q : Prop} (f : Wrap P → Q) (p : P) : Q := f ⟨p⟩
theorem main : PySem.Challenge.rw_xw0199_01.Holds :=
  cut (fun hX => Mine.hd (by
  w_strict (
    k_go0
    (all_goals try k_fold)
    k_steps
    refine TextSrc.intro (by decide +kernel) (by rfl) (by k_asm) (by k_asm) (by exact Nat.le_of_ble_eq_true rfl) ?_
    intro g
    refine rest_B textB trivial ?_ ?_
    · rintro i v ys I oI C oC D m₂ h tk E' hi ⟨c, u, hc, rfl⟩ hC h1 F N
      have hcB : textB i = (decide (97 ≤ c) && decide (c ≤ 122)) := by unfold textB; rw [hc]; rfl
      rw [hcB]
      k_steps
      exact ValEnd.intro (by k_asm) (by k_asm) rfl
    rw [show (Str.ofString "az`{AZ\x40[é ").cps.size = 10 from rfl, text_all]
    dsimp only [List.map]
    k_steps
    unfold Hold
    refine rest_B (n := 8) eightB (.inr ⟨_, List.Mem.head _, rfl, _, rfl⟩) ?_ ?_
    · intro i v ys I oI C oC D m₂ h tk E' hi hP hC h1 F N
      obtain ⟨c, t, rfl, hc⟩ := ints_at (vs := [_, _, _, _, _, _, _, _]) (ns := codes8) (.cons _ _ (.cons _ _ (.cons _ _ (.cons _ _ (.cons _ _ (.cons _ _ (.cons _ _ (.cons _ _ .nil)))))))) (i := i) (v := v) (by simpa using hP)
      have hcB : eightB i = inR c rg3 := by unfold eightB; rw [List.getD_eq_getElem?_getD, hc]; rfl
      rw [hcB]
      clear hP
      k_steps
      refine ValEnd.intro (by k_asm) ?_ rfl
      rename News _ _ _ _ => lN
      exact fun p hp => lN p (.tail _ (.tail _ (.tail _ (.tail _ hp))))
    rw [eight_all]
    dsimp only [List.map]
    k_steps
    unfold Hold
    (repeat (rename Bool → Shared → Prop => dead; clear dead))
    (repeat (rename List Value → Shared → Prop => dead; clear dead))
    (repeat (rename Value → Shared → Prop => dead; clear dead))
    (repeat (rename _ => dead; revert dead))
    intro hX
    exact hX.out)))
  (cut (fun hX => (by
  w_strict (
    k_fill
    intros
    (try rename ∀ c : Int, c ∈ _ → _ ∧ _ => hB)
    rename RgL _ _ startT => hS
    rename RgL _ _ moreT => hM
    rename RgL _ _ charT => hC
    rename ∀ (p : Addr × Obj), p ∈ _ → p ∈ _ => hs23
    rename ∀ (p : Addr × Obj), p ∈ _ → p.1 ≠ _ => hn3
    rename _ < _ ∧ AllLt _ _ => hlt
    replace hM := RgL.more hM hs23
    replace hS := RgL.more (RgL.more hS (by assumption)) hs23
    refine' Call.use (c_oneLU _ _ _ _ _ _ _ _ _ _ _ _ _ _ _ _ ?kU ?hm) ?k1 ?k2 ?k3 ?k4 ?k5 ?kK ?kp ?kd ?ku ?_
    case k1 => k_asm
    case k2 => k_asm
    case k3 => k_asm
    case k4 => k_asm
    case kU => k_updF
    case k5 => k_asm
    case hm => exact List.Mem.head _
    case kK => first | exact rfl | assumption
    case kp => exact ⟨by omega, by omega, by omega, Nat.ne_of_gt hlt.1, Nat.le_of_ble_eq_true rfl, Nat.le_of_ble_eq_true rfl⟩
    case kd => ktr_room
    case ku => ktr_units
    intro r9 n9 h9 tk9 F9 N9 o9
    obtain ⟨oo9, ⟨x9, y9, ta9, tb9, nn9, hr9, eo9, hx9, hy9, hyy9⟩, e2⟩ := o9
    subst n9; subst oo9
    (try dsimp only at N9)
    replace N9 := News.cdr N9
    clear hlt
    obtain ⟨lt, vst, kt, Rt, rfl, hmt, hgt, ht1, ht2⟩ := rg_mem hS hM hC hr9
    clear hr9 hS hM hC
    k_steps
    unfold Hold
    refine' Call.use (c_oneLU _ _ _ _ _ _ _ _ _ _ _ _ _ lt vst kt ?kU ?hm) ?k1 ?k2 ?k3 ?k4 ?k5 ?kK ?kp ?kd ?ku ?_
    case k1 => k_asm
    case k2 => k_asm
    case k3 => k_asm
    case k4 => k_asm
    case kU => k_updF
    case k5 => k_asm
    case hm => exact List.Mem.tail _ hmt
    case kK => first | exact rfl | assumption
    case kp => exact ⟨by omega, by omega, by omega, hn3 _ hmt, ht1, ht2⟩
    case kd => ktr_room
    case ku => ktr_units
    intro r9 n9 h9 tk9 F9 N9 o9
    obtain ⟨oo9, ⟨x9, y9, ta9, tb9, nn9, hr9, eo9, hx9, hy9, hyy9⟩, e2⟩ := o9
    subst n9; subst oo9
    (try dsimp only at N9)
    obtain ⟨rp, pa, pb, pt1, pt2, pn, rfl, hmp⟩ := hgt.of_mem hr9
    clear hr9
    k_steps
    unfold Hold
    refine' Call.use (c_rims _ _ _ _ _ _ _ [(pa, pb)]) ?k1 ?k2 ?k3 ?k4 ?k5 ?kK ?kp ?kd ?ku ?_
    case k1 => k_asm
    case k2 => k_asm
    case k3 => k_asm
    case k4 => k_asm
    case k5 => k_asm
    case kK => first | exact rfl | assumption
    case kp => exact ⟨⟨_, [.ref rp], 0, rfl, List.Mem.head _, .cons (List.Mem.tail _ (List.Mem.tail _ hmp)) .nil⟩, Nat.le_of_ble_eq_true rfl⟩
    case kd => ktr_room
    case ku => ktr_units
    intro r9 n9 h9 tk9 F9 N9 o9
    obtain ⟨D9, ys9, ns9, e1, e2, hI9, hb9, hl9, ho9⟩ := o9
    subst r9; subst n9
    have hDl := off1_of ho9
    (try simp only [LCg.Off1] at hDl)
    clear ho9
    replace N9 := News.c1 N9
    have hB := hb9
    have hL := hl9
    clear hb9 hl9
    k_steps
    unfold Hold
    rename News _ _ _ _ => lN
    rename _ < _ ∧ _ => hlt
    rename IntsAre _ (_ ++ _) => hI1
    rename _ < (128 : Int) => hk1
    refine' append_K ?k1 lN ?k3 ?_ ?z
    case k1 => k_asm
    case k3 => exact Upd.head (ne_of_all hlt)
    case z =>
      rw [List.size_toArray, hI1.length, sizeLine_eq]
      simp only [List.length_append, List.length_cons, List.length_nil]
      omega
    clear lN
    intro h2 F3 N4
    rw [List.push_toArray] at N4
    replace N4 := News.g1 N4
    have hGl := Nat.ne_of_gt hlt.2.2.1
    clear hlt
    replace hI1 := ints_by N4 hI1
    replace hB := bnd (bnd hB (b := [9, 10, 45, 46, 47, 48, 57, 58, 64, 65, 90, 91, 95, 96, 97, 122, 123]) (by decide)) (single_bnd hk1 (by assumption))
    (repeat (rename Bool → Shared → Prop => dead; clear dead))
    (repeat (rename List Value → Shared → Prop => dead; clear dead))
    (repeat (rename Value → Shared → Prop => dead; clear dead))
    (repeat (rename _ => dead; revert dead))
    intro hX
    exact hX.out)))
  (cut (fun hX => (by
  w_strict (
    k_fill
    intros
    (try rename ∀ c : Int, c ∈ _ → _ ∧ _ => hB)
    k_steps
    unfold Hold
    rename News _ _ _ _ => lN
    rename RgL _ _ charT => hR
    obtain ⟨lc, vc, kc, e, hm, hg⟩ := RgL.out hR
    cases e
    refine' slice_any (RgsP.of hg ((charT.drop 1).take 2)) ?vF1 lN ?vl1 ?vp1 ?vq1 ?ve1 ?_ ?vs1 ?vt1 ?vz1
    case vF1 => k_asm
    case vl1 => exact News.isList lN (List.Mem.tail _ (List.Mem.tail _ hm))
    case vp1 => kmk_part
    case vq1 => kmk_part
    case ve1 => exact Rgs.pick13 hg
    case vs1 => with_unfolding_all rfl
    case vt1 => kmk_pure
    case vz1 => rw [List.size_toArray, hg.length]; exact Nat.le_of_ble_eq_true rfl
    clear lN
    intro D' zs h' F' N' l1 hzs
    replace hzs := RgsP.back hzs
    clear hg
    clear l1
    k_steps
    unfold Hold
    refine' Call.use (c_rims _ _ _ _ _ _ _ ((charT.drop 1).take 2)) ?k1 ?k2 ?k3 ?k4 ?k5 ?kK ?kp ?kd ?ku ?_
    case k1 => k_asm
    case k2 => k_asm
    case k3 => k_asm
    case k4 => k_asm
    case k5 => k_asm
    case kK => first | exact rfl | assumption
    case kp => exact ⟨⟨_, _, 0, rfl, List.Mem.head _, RgsP.list hzs⟩, by decide +kernel⟩
    case kd => ktr_room
    case ku => ktr_units
    intro r9 n9 h9 tk9 F9 N9 o9
    obtain ⟨D9, ys9, ns9, e1, e2, hI9, hb9, hl9, ho9⟩ := o9
    subst r9; subst n9
    clear ho9
    replace hB := bnd hB hb9
    have hL2 := hl9
    clear hb9 hl9
    k_steps
    unfold Hold
    rename News _ _ _ _ => lN
    rename _ < _ ∧ _ => hlt
    have hHl := Nat.ne_of_gt hlt.2.2.1
    clear hlt
    replace lN := News.c2 (News.g1 lN)
    refine' Call.use (Call.tabL (c_more _ _ _ _ _ ((_, srcO _ _ _ _ _) :: _))) ?k1 ?k2 ?k3 ?k4 ?k5 ?kK ?kp ?kd ?ku ?_
    case k1 => k_asm
    case k2 => k_asm
    case k3 => k_asm
    case k4 => k_asm
    case k5 => k_asm
    case kK => first | exact rfl | assumption
    case kp => refine List.forall_mem_cons.mpr ⟨?_, ?_⟩ <;> assumption
    case kd => ktr_room
    case ku => ktr_units
    intro r9 n9 h9 tk9 F9 N9 o9
    obtain ⟨rs9, e2, hs9, hn9, hR9⟩ := o9
    subst n9
    obtain ⟨lc, vc, kc, e1, hm, hg⟩ := RgL.out hR9
    subst r9
    replace N9 := News.dup N9 hs9
    k_steps
    unfold Hold
    rename News _ _ _ _ => lN
    refine' slice_any (RgsP.of hg (moreT.drop 1)) ?vF2 lN ?vl2 ?vp2 ?vq2 ?ve2 ?_ ?vs2 ?vt2 ?vz2
    case vF2 => k_asm
    case vl2 => exact News.isList lN (List.Mem.tail _ (List.Mem.tail _ hm))
    case vp2 => kmk_part
    case vq2 => kmk_part
    case ve2 => exact Rgs.pick1 hg
    case vs2 => with_unfolding_all rfl
    case vt2 => kmk_pure
    case vz2 => rw [List.size_toArray, hg.length]; exact Nat.le_of_ble_eq_true rfl
    clear lN
    intro D' zs h' F' N' l1 hzs
    replace hzs := RgsP.back hzs
    clear hg
    clear l1
    k_steps
    unfold Hold
    refine' Call.use (c_rims _ _ _ _ _ _ _ (moreT.drop 1)) ?k1 ?k2 ?k3 ?k4 ?k5 ?kK ?kp ?kd ?ku ?_
    case k1 => k_asm
    case k2 => k_asm
    case k3 => k_asm
    case k4 => k_asm
    case k5 => k_asm
    case kK => first | exact rfl | assumption
    case kp => exact ⟨⟨_, _, 0, rfl, List.Mem.head _, RgsP.list hzs⟩, by decide +kernel⟩
    case kd => ktr_room
    case ku => ktr_units
    intro r9 n9 h9 tk9 F9 N9 o9
    obtain ⟨D9, ys9, ns9, e1, e2, hI9, hb9, hl9, ho9⟩ := o9
    subst r9; subst n9
    clear ho9
    replace hB := bnd hB hb9
    have hL3 := hl9
    clear hb9 hl9
    k_steps
    (repeat (rename Bool → Shared → Prop => dead; clear dead))
    (repeat (rename List Value → Shared → Prop => dead; clear dead))
    (repeat (rename Value → Shared → Prop => dead; clear dead))
    (repeat (rename _ => dead; revert dead))
    intro hX
    exact hX.out)))
  ((by
  w_strict (
    k_fill
    intros
    (try rename ∀ c : Int, c ∈ _ → _ ∧ _ => hB)
    refine rest_T (fun _ => false) (by assumption) (.inr ⟨_, by k_mem, rfl, _, rfl⟩) ?_ ?_ ?_
    · intro c t ys' I oI C oC D m₂ h tk E' hcm hC h1 F N
      have hc01 := hB c hcm
      have hc0 := hc01.1
      have hc1 := hc01.2
      clear hc01
      k_steps
      exact BoolEnd.intro (by k_asm) (by k_asm) rfl
    · intro c t ys' I oI C oC D m₂ h tk E' hcm hpc hC h1 F N
      exact absurd hpc Bool.false_ne_true
    · intro ys' hys'
      have hy : ys' = [] := by
        rw [List.filter_eq_nil_iff.mpr (fun _ _ => Bool.false_ne_true)] at hys'
        exact hys'.nil_inv
      subst hy
      k_steps)))))
end Mine
theorem PySem.Challenge.cw_xw0199_01_holds : PySem.Challenge.rw_xw0199_01.Holds :=
  Mine.main
