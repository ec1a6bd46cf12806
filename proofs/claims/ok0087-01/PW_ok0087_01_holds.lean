import PyProof.Rows.All
import Wide.All
import OpenK.AllK
import Wide.FinOn
import PySem.Challenge.RW_ok0087_01
set_option Elab.async false
set_option maxRecDepth 100000
set_option maxHeartbeats 8000000
namespace Mine
open PySem PySem.W PyProof.Rows in
open_top hd for PySem.Challenge.rw_ok0087_01
end Mine
namespace Mine
theorem fdiv_pos {a v : Int} (h : 0 < v) : a.fdiv v = a / v := Int.fdiv_eq_ediv_of_nonneg a (Int.le_of_lt h)
theorem fdiv_neg' {a v : Int} (h : v < 0) : a.fdiv v = (-a) / (-v) := by
  rw [← Int.neg_fdiv_neg, fdiv_pos (by omega)]
theorem floor_pos {a v u : Int} (h : 0 < v) : u ≤ a.fdiv v ↔ v * u ≤ a := by
  rw [fdiv_pos h, Int.le_ediv_iff_mul_le h, Int.mul_comm]
theorem ceil_pos {a v u : Int} (h : 0 < v) : -((-a).fdiv v) ≤ u ↔ a ≤ v * u := by
  have := floor_pos (a := -a) (u := -u) h
  rw [Int.mul_neg] at this
  constructor
  · intro q; have := this.mp (by omega); omega
  · intro q; have := this.mpr (by omega); omega
theorem floor_neg {a v u : Int} (h : v < 0) : u ≤ a.fdiv v ↔ a ≤ v * u := by
  rw [fdiv_neg' h, Int.le_ediv_iff_mul_le (by omega), Int.mul_neg, Int.mul_comm]
  constructor <;> intro q <;> omega
theorem ceil_neg {a v u : Int} (h : v < 0) : -((-a).fdiv v) ≤ u ↔ v * u ≤ a := by
  have := floor_neg (a := -a) (u := -u) h
  rw [Int.mul_neg] at this
  constructor
  · intro q; have := this.mp (by omega); omega
  · intro q; have := this.mpr (by omega); omega
/-- some u of the second factor's range puts v * u into the third range -/
def Fac (b0 b1 g0 g1 v : Int) : Prop := ∃ u, b0 ≤ u ∧ u ≤ b1 ∧ g0 ≤ v * u ∧ v * u ≤ g1
theorem fac_zero1 {b0 b1 g0 g1 v : Int} (hb : b0 ≤ b1) (hv : v = 0) (h : g0 ≤ 0) : decide (0 ≤ g1) = true ↔ Fac b0 b1 g0 g1 v := by
  subst hv
  simp only [Fac, Int.zero_mul, decide_eq_true_eq]
  exact ⟨fun q => ⟨b0, by omega, hb, h, q⟩, fun ⟨_, _, _, _, q⟩ => q⟩
theorem fac_zero0 {b0 b1 g0 g1 v : Int} (hv : v = 0) (h : ¬ g0 ≤ 0) : decide (g0 ≤ 0) = true ↔ Fac b0 b1 g0 g1 v := by
  subst hv
  simp only [Fac, Int.zero_mul, decide_eq_true_eq]
  exact ⟨fun q => absurd q h, fun ⟨_, _, _, q, _⟩ => q⟩
theorem meet_iff {lo hi b0 b1 : Int} : decide ((if b0 > lo then b0 else lo) ≤ if b1 < hi then b1 else hi) = true ↔ ∃ u, b0 ≤ u ∧ u ≤ b1 ∧ lo ≤ u ∧ u ≤ hi := by
  rw [decide_eq_true_eq]
  constructor
  · intro q
    refine ⟨if b0 > lo then b0 else lo, ?_⟩
    split at q <;> split at q <;> rename_i h1 h2 <;> simp only [h1, if_true, if_false] <;> omega
  · rintro ⟨u, h1, h2, h3, h4⟩
    split <;> split <;> omega
theorem fac_pos {b0 b1 g0 g1 v : Int} (hv : 0 < v) : decide ((if b0 > -((-g0).fdiv v) then b0 else -((-g0).fdiv v)) ≤ if b1 < g1.fdiv v then b1 else g1.fdiv v) = true ↔ Fac b0 b1 g0 g1 v := by
  rw [meet_iff]
  simp only [Fac, floor_pos hv, ceil_pos hv]
theorem fac_neg {b0 b1 g0 g1 v : Int} (hv : v < 0) : decide ((if b0 > -((-g1).fdiv v) then b0 else -((-g1).fdiv v)) ≤ if b1 < g0.fdiv v then b1 else g0.fdiv v) = true ↔ Fac b0 b1 g0 g1 v := by
  rw [meet_iff]
  simp only [Fac, floor_neg hv, ceil_neg hv]
  exact ⟨fun ⟨u, a, b, c, d⟩ => ⟨u, a, b, d, c⟩, fun ⟨u, a, b, c, d⟩ => ⟨u, a, b, d, c⟩⟩
/-- v is a product of a number of the first range and one of the second -/
def Prd (a0 a1 b0 b1 v : Int) : Prop := ∃ a b, a0 ≤ a ∧ a ≤ a1 ∧ b0 ≤ b ∧ b ≤ b1 ∧ v = a * b
theorem prd_yes {a0 a1 b0 b1 v k : Int} (hm : v.fmod k = 0) (h1 : b0 ≤ v.fdiv k) (h2 : v.fdiv k ≤ b1) (h3 : a0 ≤ k) (h4 : k ≤ a1) : true = true ↔ Prd a0 a1 b0 b1 v := by
  refine ⟨fun _ => ⟨k, v.fdiv k, h3, h4, h1, h2, ?_⟩, fun _ => rfl⟩
  have := Int.fmod_add_mul_fdiv v k
  rw [hm] at this
  omega
theorem prd_meet0 {a0 a1 : Int} (h : a0 ≤ a1) : ((if (0 : Int) > a0 then 0 else a0) ≤ if (0 : Int) < a1 then 0 else a1) ↔ a0 ≤ 0 ∧ 0 ≤ a1 := by
  split <;> split <;> omega
theorem prd_zero1 {a0 a1 b0 b1 v : Int} (ha : a0 ≤ a1) (hb : b0 ≤ b1) (hv : v = 0) (h : (if (0 : Int) > a0 then 0 else a0) ≤ if (0 : Int) < a1 then 0 else a1) :
    decide ((if (0 : Int) > a0 then 0 else a0) ≤ if (0 : Int) < a1 then 0 else a1) = true ↔ Prd a0 a1 b0 b1 v := by
  subst hv
  rw [decide_eq_true_eq]
  rw [prd_meet0 ha] at h ⊢
  exact ⟨fun _ => ⟨0, b0, h.1, h.2, Int.le_refl _, hb, by omega⟩, fun _ => h⟩
theorem prd_zero2 {a0 a1 b0 b1 v : Int} (ha : a0 ≤ a1) (hb : b0 ≤ b1) (hv : v = 0) (h : ¬ ((if (0 : Int) > a0 then 0 else a0) ≤ if (0 : Int) < a1 then 0 else a1)) :
    decide ((if (0 : Int) > b0 then 0 else b0) ≤ if (0 : Int) < b1 then 0 else b1) = true ↔ Prd a0 a1 b0 b1 v := by
  subst hv
  rw [decide_eq_true_eq]
  rw [prd_meet0 ha] at h
  rw [prd_meet0 hb]
  constructor
  · intro q
    exact ⟨a0, 0, Int.le_refl _, ha, q.1, q.2, by omega⟩
  · rintro ⟨a, b, h1, h2, h3, h4, h5⟩
    rcases Int.mul_eq_zero.mp h5.symm with e | e
    · exact absurd ⟨by omega, by omega⟩ h
    · subst e; exact ⟨h3, h4⟩
theorem prd_no {a0 a1 b0 b1 v : Int} (hv : v ≠ 0)
    (h : ∀ j, (if (-if v < 0 then -v else v) > a0 then -if v < 0 then -v else v else a0) ≤ j → j < (if (if v < 0 then -v else v) < a1 then if v < 0 then -v else v else a1) + 1 → ¬ (j ≠ 0 ∧ v.fmod j = 0 ∧ b0 ≤ v.fdiv j ∧ v.fdiv j ≤ b1)) :
    false = true ↔ Prd a0 a1 b0 b1 v := by
  refine ⟨fun q => Bool.noConfusion q, ?_⟩
  rintro ⟨a, b, h1, h2, h3, h4, rfl⟩
  exfalso
  have ha : a ≠ 0 := fun e => hv (by rw [e, Int.zero_mul])
  have hb : b ≠ 0 := fun e => hv (by rw [e, Int.mul_zero])
  have hab : a.natAbs ≤ (a * b).natAbs := by
    rw [Int.natAbs_mul]
    exact Nat.le_mul_of_pos_right _ (Int.natAbs_pos.mpr hb)
  have hd : (a * b).fdiv a = b := Int.mul_fdiv_cancel_left _ ha
  have hm : (a * b).fmod a = 0 := Int.mul_fmod_right _ _
  refine h a ?_ ?_ ⟨ha, hm, by rw [hd]; exact h3, by rw [hd]; exact h4⟩
  · generalize a * b = v at *
    split <;> split <;> omega
  · generalize a * b = v at *
    split <;> split <;> omega
end Mine
namespace Mine
theorem num_step {n x : Int} (h : 0 ≤ n) : 0 ≤ n * 1009 + x.fmod (10 ^ Int.toNat 30) := by
  have := Int.fmod_nonneg_of_pos x (b := 10 ^ Int.toNat 30) (by decide)
  omega
theorem bd6 {p x y : Int} {R : Prop} (h : (p = x.fmod 13 - 6 ∨ p = y.fmod 13 - 6) ∧ R) : -6 ≤ p ∧ p ≤ 6 := by
  have h1 := Int.fmod_nonneg_of_pos x (b := 13) (by decide)
  have h2 := Int.fmod_nonneg_of_pos y (b := 13) (by decide)
  have h3 := Int.fmod_lt_of_pos x (b := 13) (by decide)
  have h4 := Int.fmod_lt_of_pos y (b := 13) (by decide)
  omega
theorem bdg0 {x y : Int} : -100 ≤ x.fmod 41 - 20 - y.fmod 5 := by
  have h1 := Int.fmod_nonneg_of_pos x (b := 41) (by decide)
  have h4 := Int.fmod_lt_of_pos y (b := 5) (by decide)
  omega
theorem bdg1 {x y : Int} : x.fmod 41 - 20 + y.fmod 5 ≤ 100 := by
  have h1 := Int.fmod_lt_of_pos x (b := 41) (by decide)
  have h4 := Int.fmod_lt_of_pos y (b := 5) (by decide)
  omega
theorem bdg {x y : Int} : x.fmod 41 - 20 - y.fmod 5 ≤ x.fmod 41 - 20 + y.fmod 5 := by
  have h4 := Int.fmod_nonneg_of_pos y (b := 5) (by decide)
  omega
end Mine
section
open PySem PySem.W PyProof.Rows
namespace Mine
abbrev tupO (vs : List Value) (n : Nat) : Obj := { cls := .type "tuple", data := .seq vs.toArray n }
/-- a stop of the walk: the goal waits to be taken by hand -/
def Halt (P : Prop) : Prop := P
theorem Halt.on {P : Prop} (h : Halt P) : P := h
theorem Halt.off {P : Prop} (h : P) : Halt P := h
/-- what a call of the text's def at f, from a def's frame, may lean on -/
abbrev Ctx (w : World) (mean : ExcName → Option Value) (mg mb : Str → Option Value) (f : Addr) (room : Nat) (args : List Value) (news : List (Addr × Obj)) (P : Heap → Addr → (Str → Option Value) → Shared → (Value → Shared → Prop) → Prop) : Prop :=
  ∀ (dp un : Nat) (gd : Option (List Code)) (cn : Str) (cs : Scope) (a : Addr) (ccd : Value) (cl : List (Str × Addr)) (outer : List Env) (A₀ : Around) (base h₀ : Heap) (L : Addr) (m : Str → Option Value) (s : Shared) (Q E : Value → Shared → Prop),
    Below A₀ base outer h₀ → Fr h₀ L s.heap m → (Mine.hd.heap_39 w.params).In h₀ → News h₀ L s.heap news → Top Mine.hd.view_39 (looseW Mine.hd.view_39 []) mean mg mb h₀ → cs.kind = .function →
    dp + room < recursionLimit → un + 8 * room < cLine → P h₀ L m s Q →
    wpAny (model PySem.Challenge.rw_ok0087_01.row.prog w) (ktrTop dp un gd cn cs L a ccd cl outer) (call (.ref f) args) Q E s
/-- the same for a call from the law's own frame -/
abbrev CtxT (w : World) (mean : ExcName → Option Value) (mg mb : Str → Option Value) (f : Addr) (args : List Value) (news : List (Addr × Obj)) (P : Heap → Addr → (Str → Option Value) → Shared → (Value → Shared → Prop) → Prop) : Prop :=
  ∀ (cn : Str) (nm : List (Str × NameKind)) (ig ic : Bool) (mo : List (Str × Const)) (a : Addr) (ccd : Value) (base h₀ : Heap) (L : Addr) (m : Str → Option Value) (s : Shared) (Q E : Value → Shared → Prop),
    Below callerA base [] h₀ → Fr h₀ L s.heap m → (Mine.hd.heap_39 w.params).In h₀ → News h₀ L s.heap news → Top Mine.hd.view_39 (looseW Mine.hd.view_39 []) mean mg mb h₀ → P h₀ L m s Q →
    wpAny (model PySem.Challenge.rw_ok0087_01.row.prog w) (callerA.deeper (envOf cn { kind := .function, names := nm, isGenerator := ig, isCoroutine := ic, more := mo } L a ccd)) (call (.ref f) args) Q E s
/-- the same for a call from a frame that the law has called -/
abbrev CtxT2 (w : World) (mean : ExcName → Option Value) (mg mb : Str → Option Value) (f : Addr) (args : List Value) (news : List (Addr × Obj)) (P : Heap → Addr → (Str → Option Value) → Shared → (Value → Shared → Prop) → Prop) : Prop :=
  ∀ (e₁ : Env) (cn : Str) (nm : List (Str × NameKind)) (ig ic : Bool) (mo : List (Str × Const)) (a : Addr) (ccd : Value) (cl : List (Str × Addr)) (base h₀ : Heap) (L : Addr) (m : Str → Option Value) (s : Shared) (Q E : Value → Shared → Prop),
    Below (callerA.deeper e₁) base [e₁] h₀ → Fr h₀ L s.heap m → (Mine.hd.heap_39 w.params).In h₀ → News h₀ L s.heap news → Top Mine.hd.view_39 (looseW Mine.hd.view_39 []) mean mg mb h₀ → P h₀ L m s Q →
    wpAny (model PySem.Challenge.rw_ok0087_01.row.prog w) ((callerA.deeper e₁).deeper (envX cn { kind := .function, names := nm, isGenerator := ig, isCoroutine := ic, more := mo } L a ccd cl)) (call (.ref f) args) Q E s
end Mine
namespace Mine
open PySem PySem.Calls PyProof.Rows PySem.W
section
variable {prog : Program} {w : World} {A : Around} {E : Value → Shared → Prop} {s : Shared} {h₀ : Heap} {L l : Addr}
theorem lst_item {value slice : PySem.Expr} {news : List (Addr × Obj)} {us : List Value} {n : Nat} {k : Int} {u : Tok} {v : Value} {Q : Value → Shared → Prop} (N : News h₀ L s.heap news) (hm : (l, listOf us.toArray n) ∈ news)
    (h0 : 0 ≤ k) (hfit : k < 2 ^ 63) (hx : us[k.toNat]? = some v) (h : Q v s)
    (hs : subscripted slice false (.ref l) (.int k u) = operate [.ref l, .int k u] (getItem (.ref l) (.int k u)) := by with_unfolding_all rfl) :
    wpAny (model prog w) A (subscriptTail value slice (.ref l) (.int k u)) Q E s := by
  have hl : s.heap.IsList l us.toArray := ⟨_, (N _ hm).1, rfl, n, rfl⟩
  exact tail_any hl.typeIs slot_list_getitem.lookup (wpAny_getItem_list hl h0 hfit (by simpa using hx) h) hs
theorem tup_of {h : Heap} {news : List (Addr × Obj)} {us : List Value} {n : Nat} (N : News h₀ L h news) (hm : (l, tupO us n) ∈ news) : IsTup h l us.toArray := News.isTup N hm
theorem drop5 {h : Heap} {news : List (Addr × Obj)} {p1 p2 p3 p4 p5 : Addr × Obj} (N : News h₀ L h (p1 :: p2 :: p3 :: p4 :: p5 :: news)) : News h₀ L h news :=
  fun p hp => N p (.tail _ (.tail _ (.tail _ (.tail _ (.tail _ hp)))))
theorem regroup {h : Heap} {news tl : List (Addr × Obj)} {c x d l : Addr} {co xo do' lo : Obj} (N : News h₀ L h ((l, lo) :: ((x, xo) :: (d, do') :: (c, co) :: news ++ tl)))
    (h1 : ∀ p ∈ (c, co) :: news, p.1 ≠ x ∧ p.1 ≠ d) (h2 : ∀ p ∈ (x, xo) :: (d, do') :: (c, co) :: news, p.1 ≠ l ∧ ∀ q ∈ tl, q.1 ≠ p.1) (h3 : ∀ p ∈ news, p.1 < c) :
    ∃ led, News h₀ L h ((c, co) :: led) ∧ (l, lo) ∈ led ∧ (x, xo) ∈ led ∧ (d, do') ∈ led ∧ (∀ p ∈ news, p ∈ led) ∧ (∀ p ∈ tl, p ∈ led) ∧ ∀ p ∈ led, p.1 ≠ c := by
  refine ⟨(l, lo) :: (x, xo) :: (d, do') :: (news ++ tl), fun p hp => N p ?_, .head _, .tail _ (.head _), .tail _ (.tail _ (.head _)), fun p hp => ?_, fun p hp => ?_, fun p hp => ?_⟩
  · simp only [List.mem_cons, List.mem_append, List.cons_append] at hp ⊢
    rcases hp with h | h | h | h | h | h <;> simp [h]
  · simp [hp]
  · simp [hp]
  · have m : (c, co) ∈ (x, xo) :: (d, do') :: (c, co) :: news := .tail _ (.tail _ (.head _))
    simp only [List.mem_cons, List.mem_append] at hp
    rcases hp with rfl | rfl | rfl | hp | hp
    · exact fun e => (h2 _ m).1 e.symm
    · exact fun e => (h1 _ (.head _)).1 e.symm
    · exact fun e => (h1 _ (.head _)).2 e.symm
    · exact Nat.ne_of_lt (h3 p hp)
    · exact (h2 _ m).2 p hp
theorem regroup2 {h : Heap} {led : List (Addr × Obj)} {T D lt D1 D2 ls D3 c : Addr} {oT oD ot o1 o2 os o3 co : Obj} (N : News h₀ L h ((T, oT) :: (D, oD) :: (lt, ot) :: (D1, o1) :: (D2, o2) :: (ls, os) :: (D3, o3) :: (c, co) :: led)) (hne : ∀ p ∈ led, p.1 ≠ c)
    (e1 : @LT.lt Nat _ c T) (e2 : @LT.lt Nat _ c D) (e3 : @LT.lt Nat _ c lt) (e4 : @LT.lt Nat _ c D1) (e5 : @LT.lt Nat _ c D2) (e6 : @LT.lt Nat _ c ls) (e7 : @LT.lt Nat _ c D3) :
    ∃ led', News h₀ L h ((c, co) :: led') ∧ (T, oT) ∈ led' ∧ (lt, ot) ∈ led' ∧ (D1, o1) ∈ led' ∧ (D2, o2) ∈ led' ∧ (ls, os) ∈ led' ∧ (∀ p ∈ led, p ∈ led') ∧ ∀ p ∈ led', p.1 ≠ c := by
  refine ⟨(T, oT) :: (D, oD) :: (lt, ot) :: (D1, o1) :: (D2, o2) :: (ls, os) :: (D3, o3) :: led, fun p hp => N p ?_, ?_, ?_, ?_, ?_, ?_, fun p hp => ?_, fun p hp => ?_⟩
  · simp only [List.mem_cons] at hp ⊢
    rcases hp with h | h | h | h | h | h | h | h | h <;> simp [h]
  · simp
  · simp
  · simp
  · simp
  · simp
  · simp [hp]
  · simp only [List.mem_cons] at hp
    rcases hp with rfl | rfl | rfl | rfl | rfl | rfl | rfl | hp
    · exact Nat.ne_of_gt e1
    · exact Nat.ne_of_gt e2
    · exact Nat.ne_of_gt e3
    · exact Nat.ne_of_gt e4
    · exact Nat.ne_of_gt e5
    · exact Nat.ne_of_gt e6
    · exact Nat.ne_of_gt e7
    · exact hne p hp
end
end Mine
end
section
open PySem PySem.W PyProof.Rows PySem.Calls
namespace Mine
section
variable {prog : Program} {w : World} {A : Around} {E : Value → Shared → Prop} {s : Shared} {env : Env} {h₀ : Heap} {x : Str} {body : List Stmt} {Q : Flow → Shared → Prop}
/-- a turn of a loop over a range that keeps the ledger: P holds of its int when it goes on -/
def SrchJ (news : List (Addr × Obj)) (x : Str) (stored : List Str) (m₀ : Str → Option Value) (P : List Int → Prop) (pre : List Int) : (Str → Option Value) → List (Addr × Obj) → Prop :=
  KstS (σ := Unit) (fun _ => news) (fun _ => []) (fun _ => True) x stored m₀ (fun pre _ => P pre) pre
theorem srch_range {r : Addr} {a₀ b₀ : Int} {t₀ u₀ v₀ : Tok} {m₀ : Str → Option Value} {news : List (Addr × Obj)} (stored : List Str) (P : Int → Prop)
    (hh : A.handled = none) (hr : IsRange s.heap r a₀ b₀ 1 t₀ u₀ v₀) (ha : -(2 ^ 62) ≤ a₀) (ha' : a₀ < 2 ^ 62) (hb : -(2 ^ 62) ≤ b₀) (hb' : b₀ < 2 ^ 62)
    (F : Fr h₀ env.locals s.heap m₀) (N : News h₀ env.locals s.heap news)
    (turn : ∀ (pre : List Int) (k : Int) t (u : Str → Option Value) h tk own, a₀ ≤ k → k < b₀ → OwnOff own (news.map (·.1)) →
      Fr h₀ env.locals h (fun y => if y = x then some (.int k t) else if stored.contains y then u y else m₀ y) → News h₀ env.locals h (news ++ own) →
      wpAny (model prog w) A (execs body env) (InvPostN h₀ env.locals (SrchJ news x stored m₀ (fun q => q = pre ++ [k] → P k) (pre ++ [k])) own (news.map (·.1)) { s with heap := h, toks := tk } Q) E { s with heap := h, toks := tk })
    (done : ∀ (u : Str → Option Value) h tk, (∀ j, a₀ ≤ j → j < b₀ → P j) → Fr h₀ env.locals h (fun y => if y = x then u y else if stored.contains y then u y else m₀ y) → News h₀ env.locals h news → Q .next { s with heap := h, toks := tk }) :
    wpAny (model prog w) A (pyIter (.ref r)) (fun it s₂ => LoopAtV prog w A h₀ env x body Q E it s₂) E s := by
  refine kst_range (σ := Unit) (fun _ => news) (fun _ => []) (fun _ => True) stored (fun pre _ => ∀ j ∈ pre, P j) () hh hr (small_one ha ha' hb hb') (rangeSize_nat _ _) F N trivial (fun _ h => nomatch h) (fun _ h => nomatch h) ?_ ?_
  · intro c pre k t u h tk own hk hlt hoff _ hp F₁ N₁
    refine wpAny_mono (turn pre k t u h tk own (by omega) (by omega) hoff F₁ N₁) (fun f s₂ p => ?_) fun _ _ e => e
    have up : InvEndN h₀ env.locals (SrchJ news x stored m₀ (fun q => q = pre ++ [k] → P k) (pre ++ [k])) own (news.map (·.1)) { s with heap := h, toks := tk } s₂ →
        InvEndN h₀ env.locals (KstS (σ := Unit) (fun _ => news) (fun _ => []) (fun _ => True) x stored m₀ (fun pre _ => ∀ j ∈ pre, P j) (pre ++ [k])) own (news.map (·.1)) { s with heap := h, toks := tk } s₂ := by
      rintro ⟨h', tk', m', news', nx', e', F', N', hn', ho', ha, c', e1, _, e3, e4, e5⟩
      refine ⟨h', tk', m', news', nx', e', F', N', hn', ho', ha, c', e1, trivial, e3, e4, ?_⟩
      intro j hj
      rcases List.mem_append.mp hj with hj | hj
      · exact hp j hj
      · rw [List.mem_singleton.mp hj]; exact e5 rfl
    cases f with
    | ret v => exact p
    | brk => exact p
    | next => exact up p
    | cont => exact up p
  · intro c u h tk _ hp F₁ N₁
    refine done u h tk (fun j h1 h2 => hp j ?_) F₁ N₁
    exact List.mem_map.mpr ⟨(j - a₀).toNat, List.mem_range.mpr (by omega), by omega⟩
theorem srch_end {news : List (Addr × Obj)} {stored : List Str} {m₀ m' : Str → Option Value} {P : List Int → Prop} {pre : List Int} {L : Addr} {own news' : List (Addr × Obj)} {s₁ : Shared} {h' : Heap} {tk : Nat}
    (F : Fr h₀ L h' m') (N : News h₀ L h' news') (hn : ∀ p ∈ news ++ own, p ∈ news') (hr : ∀ z, z ≠ x → stored.contains z = false → m' z = m₀ z) (hp : P pre) :
    InvEndN h₀ L (SrchJ news x stored m₀ P pre) own (news.map (·.1)) s₁ { s₁ with heap := h', toks := tk } :=
  kst_end (σ := Unit) () F N (fun p hp => hn p (List.mem_append_left _ hp)) (fun p hp => hn p (List.mem_append_right _ hp)) rfl trivial (fun _ h => nomatch h) (fun z h1 _ h3 => hr z h1 h3) hp
end
end Mine
end
section
open PySem PySem.W PyProof.Rows PySem.Calls
namespace Mine
/-- the lines of one a -/
def rowsA (b0 b1 g0 g1 a : Int) : List (Int × Int × Int) := ((rangeKs b0 (b1 + 1 - b0).toNat).filter fun b => decide (g0 ≤ a * b ∧ a * b ≤ g1)).map fun b => (a, b, a * b)
/-- the law's table of products -/
def rowsOf (a0 a1 b0 b1 g0 g1 : Int) : List (Int × Int × Int) := (rangeKs a0 (a1 + 1 - a0).toNat).flatMap (rowsA b0 b1 g0 g1)
def rowD (p : Int × Int × Int) : Dat := .tuple [.int p.1, .int p.2.1, .int p.2.2]
theorem rowsA_len (b0 b1 g0 g1 a : Int) : (rowsA b0 b1 g0 g1 a).length ≤ (b1 + 1 - b0).toNat := by
  unfold rowsA
  rw [List.length_map]
  refine Nat.le_trans (List.length_filter_le _ _) ?_
  rw [rangeKs_length]
  exact Nat.le_refl _
theorem rows_len (b0 b1 g0 g1 : Int) (pre : List Int) : (pre.flatMap (rowsA b0 b1 g0 g1)).length ≤ pre.length * (b1 + 1 - b0).toNat := by
  induction pre with
  | nil => simp
  | cons a pre ih =>
    rw [List.flatMap_cons, List.length_append, List.length_cons, Nat.succ_mul]
    have := rowsA_len b0 b1 g0 g1 a
    omega
theorem rows_len' {b0 b1 g0 g1 : Int} {pre : List Int} (h : pre.length ≤ 13) (h0 : -6 ≤ b0) (h1 : b1 ≤ 6) : (pre.flatMap (rowsA b0 b1 g0 g1)).length ≤ 169 := by
  refine Nat.le_trans (rows_len _ _ _ _ _) ?_
  exact Nat.le_trans (Nat.mul_le_mul h (show (b1 + 1 - b0).toNat ≤ 13 by omega)) (by decide)
theorem step_yes {ds ds' : List Dat} {g0 g1 k k' c b0 : Int} {pre' : List Int} (h : ds' = ds ++ ((pre'.filter fun b => decide (g0 ≤ k * b ∧ k * b ≤ g1)).map fun b => (k, b, k * b)).map rowD ∧ c = k * (b0 + (pre'.length : Int))) (hk : k' = b0 + (pre'.length : Int)) (h0 : g0 ≤ c) (h1 : c ≤ g1) :
    ds' ++ [.tuple [.int k, .int k', .int c]] = ds ++ (((pre' ++ [k']).filter fun b => decide (g0 ≤ k * b ∧ k * b ≤ g1)).map fun b => (k, b, k * b)).map rowD ∧ c + k = k * (b0 + ((pre' ++ [k']).length : Int)) := by
  obtain ⟨rfl, rfl⟩ := h
  subst hk
  refine ⟨?_, ?_⟩
  · rw [List.filter_append, List.map_append, List.map_append, List.append_assoc]
    simp [h0, h1, rowD]
  · simp only [List.length_append, List.length_cons, List.length_nil, Nat.zero_add, Int.natCast_add, Int.mul_add]
    omega
theorem step_no {ds ds' : List Dat} {g0 g1 k k' c b0 : Int} {pre' : List Int} (h : ds' = ds ++ ((pre'.filter fun b => decide (g0 ≤ k * b ∧ k * b ≤ g1)).map fun b => (k, b, k * b)).map rowD ∧ c = k * (b0 + (pre'.length : Int))) (hk : k' = b0 + (pre'.length : Int)) (h0 : ¬ (g0 ≤ c ∧ c ≤ g1)) :
    ds' = ds ++ (((pre' ++ [k']).filter fun b => decide (g0 ≤ k * b ∧ k * b ≤ g1)).map fun b => (k, b, k * b)).map rowD ∧ c + k = k * (b0 + ((pre' ++ [k']).length : Int)) := by
  obtain ⟨rfl, rfl⟩ := h
  subst hk
  refine ⟨?_, ?_⟩
  · rw [List.filter_append, List.map_append, List.map_append]
    simp [h0]
  · simp only [List.length_append, List.length_cons, List.length_nil, Nat.zero_add, Int.natCast_add, Int.mul_add]
    omega
theorem step_a {ds ds' : List Dat} {b0 b1 g0 g1 k : Int} {pre : List Int} (h : ds = (pre.flatMap (rowsA b0 b1 g0 g1)).map rowD) (h' : ds' = ds ++ (((rangeKs b0 (b1 + 1 - b0).toNat).filter fun b => decide (g0 ≤ k * b ∧ k * b ≤ g1)).map fun b => (k, b, k * b)).map rowD) :
    ds' = ((pre ++ [k]).flatMap (rowsA b0 b1 g0 g1)).map rowD := by
  subst h; subst h'
  rw [List.flatMap_append, List.map_append]
  simp [rowsA]
end Mine
end
section
open PySem PySem.W PyProof.Rows PySem.Calls
namespace Mine
section
variable {τ : Type} {prog : Program} {w : World} {A : Around} {E : Value → Shared → Prop} {s : Shared} {env : Env} {h₀ : Heap} {x : Str} {body : List Stmt} {Q : Flow → Shared → Prop}
abbrev BldS (τ : Type) : Type := List Value × List Dat × Nat × τ
/-- what stands between two turns of a loop that grows the list at l by data -/
def BldJ (l : Addr) (led base9 : List (Addr × Obj)) (ps : τ → List (Str × Value)) (x : Str) (stored : List Str) (m₀ : Str → Option Value) (P : List Int → List Dat → τ → Prop) (pre : List Int) : (Str → Option Value) → List (Addr × Obj) → Prop :=
  KdS (σ := BldS τ) (fun c => [(l, listOf c.1.toArray c.2.2.1)]) led (fun c => ps c.2.2.2) (fun L9 c => DatAll (base9 ++ L9.drop led.length) c.1 c.2.1) x stored m₀ (fun pre c => P pre c.2.1 c.2.2.2) (l :: led.map (·.1)) pre
theorem bld_range {l r : Addr} {a₀ b₀ : Int} {t₀ u₀ v₀ : Tok} {m₀ : Str → Option Value} {led : List (Addr × Obj)} {vs₀ : List Value} {ds₀ : List Dat} {nn₀ : Nat} (base9 : List (Addr × Obj)) (ps : τ → List (Str × Value)) (stored : List Str) (P : List Int → List Dat → τ → Prop) (c₀ : τ)
    (hh : A.handled = none) (hr : IsRange s.heap r a₀ b₀ 1 t₀ u₀ v₀) (ha : -(2 ^ 62) ≤ a₀) (ha' : a₀ < 2 ^ 62) (hb : -(2 ^ 62) ≤ b₀) (hb' : b₀ < 2 ^ 62)
    (F : Fr h₀ env.locals s.heap m₀) (N : News h₀ env.locals s.heap ((l, listOf vs₀.toArray nn₀) :: led)) (hne : ∀ p ∈ led, p.1 ≠ l) (hd : DatAll base9 vs₀ ds₀) (hk : ∀ p ∈ ps c₀, m₀ p.1 = some p.2) (hp : P [] ds₀ c₀)
    (turn : ∀ (c : τ) vs ds nn tl (pre : List Int) (k : Int) t (u : Str → Option Value) h tk own, k = a₀ + (pre.length : Int) → k < b₀ → KdSep own tl (l :: led.map (·.1)) → (∀ p ∈ led ++ (tl ++ own), p.1 ≠ l) → DatAll (base9 ++ tl) vs ds → P pre ds c →
      Fr h₀ env.locals h (fun y => if y = x then some (.int k t) else kstB (fun z => if stored.contains z then u z else m₀ z) (ps c) y) → News h₀ env.locals h ((l, listOf vs.toArray nn) :: (led ++ (tl ++ own))) →
      wpAny (model prog w) A (execs body env) (InvPostG h₀ env.locals (BldJ l led base9 ps x stored m₀ P (pre ++ [k])) own { s with heap := h, toks := tk } Q) E { s with heap := h, toks := tk })
    (done : ∀ (c : τ) vs ds nn tl (u : Str → Option Value) h tk, (∀ p ∈ tl, ∀ b ∈ l :: led.map (·.1), p.1 ≠ b) → DatAll (base9 ++ tl) vs ds → P (rangeKs a₀ (b₀ - a₀).toNat) ds c →
      Fr h₀ env.locals h (fun y => if y = x then u y else kstB (fun z => if stored.contains z then u z else m₀ z) (ps c) y) → News h₀ env.locals h ((l, listOf vs.toArray nn) :: (led ++ tl)) → Q .next { s with heap := h, toks := tk }) :
    wpAny (model prog w) A (pyIter (.ref r)) (fun it s₂ => LoopAtV prog w A h₀ env x body Q E it s₂) E s := by
  refine kd_range (σ := BldS τ) (fun c => [(l, listOf c.1.toArray c.2.2.1)]) led (fun c => ps c.2.2.2) (fun L9 c => DatAll (base9 ++ L9.drop led.length) c.1 c.2.1) stored (fun pre c => P pre c.2.1 c.2.2.2) (l :: led.map (·.1)) (vs₀, ds₀, nn₀, c₀)
    hh hr (small_one ha ha' hb hb') (rangeSize_nat _ _) F N (fun p hp => by simpa using hp) (fun c => rfl) (by simpa using hd) hk hp ?_ ?_
  · rintro ⟨vs, ds, nn, c⟩ tl pre k t u h tk own hk' hlt hsep hoff hf hp' F₁ N₁
    rw [List.drop_left] at hf
    refine turn c vs ds nn tl pre k t u h tk own hk' (by omega) hsep ?_ hf hp' F₁ N₁
    intro p hp
    rcases List.mem_append.mp hp with hp | hp
    · exact hne p hp
    · exact hoff p hp l (.head _)
  · rintro ⟨vs, ds, nn, c⟩ tl u h tk hoff hf hp' F₁ N₁
    rw [List.drop_left] at hf
    exact done c vs ds nn tl u h tk hoff hf hp' F₁ N₁
theorem bld_end {l : Addr} {led base9 : List (Addr × Obj)} {ps : τ → List (Str × Value)} {stored : List Str} {m₀ m' : Str → Option Value} {P : List Int → List Dat → τ → Prop} {pre : List Int} {L : Addr} {tl own news' : List (Addr × Obj)} {s₁ : Shared} {h' : Heap} {tk : Nat}
    {vs : List Value} {ds : List Dat} {nn : Nat} (c : τ) (add : List (Addr × Obj)) (sep : KdSep own tl (l :: led.map (·.1)))
    (F : Fr h₀ L h' m') (N : News h₀ L h' news') (hn : ∀ p ∈ (l, listOf vs.toArray nn) :: (led ++ (add ++ tl)), p ∈ news') (ho : ∀ p ∈ own, p ∈ news')
    (hl : ∀ q ∈ add, l ≠ q.1) (hw : ∀ q ∈ add, ∀ p ∈ led ++ own, p.1 ≠ q.1) (hd : DatAll (base9 ++ (add ++ tl)) vs ds) (hk : ∀ p ∈ ps c, m' p.1 = some p.2)
    (hr : ∀ z, z ≠ x → (∀ p ∈ ps c, z ≠ p.1) → stored.contains z = false → m' z = m₀ z) (hp : P pre ds c) :
    InvEndG h₀ L (BldJ l led base9 ps x stored m₀ P pre) own s₁ { s₁ with heap := h', toks := tk } := by
  refine kd_end (σ := BldS τ) (vs, ds, nn, c) add sep F N hn ho rfl ?_ ?_ hk hr (by rw [List.drop_left]; exact hd) hp
  · intro q hq b hb
    rcases List.mem_cons.mp hb with rfl | hb
    · exact hl q hq
    · obtain ⟨p, hp, rfl⟩ := List.mem_map.mp hb
      exact hw q hq p (List.mem_append_left _ hp)
  · exact fun q hq p hp => hw q hq p (List.mem_append_right _ hp)
section
variable {l D : Addr} {led base9 : List (Addr × Obj)} {ps : τ → List (Str × Value)} {stored : List Str} {m₀ m' : Str → Option Value} {P : List Int → List Dat → τ → Prop} {pre : List Int} {L : Addr} {tl own : List (Addr × Obj)} {s₁ : Shared} {h' : Heap} {tk : Nat}
  {vs us : List Value} {ds es : List Dat} {nn n : Nat}
/-- a turn that appends one tuple -/
theorem bld_push (c : τ) (sep : KdSep own tl (l :: led.map (·.1))) (F : Fr h₀ L h' m')
    (N : News h₀ L h' ((D, tupO us n) :: (l, listOf (vs.toArray.push (.ref D)) nn) :: (led ++ (tl ++ own)))) (l1 : l < D ∧ AllLt D (led ++ (tl ++ own))) (hd : DatAll (base9 ++ tl) vs ds) (ht : DatAll [] us es)
    (hk : ∀ p ∈ ps c, m' p.1 = some p.2) (hr : ∀ z, z ≠ x → (∀ p ∈ ps c, z ≠ p.1) → stored.contains z = false → m' z = m₀ z) (hp : P pre (ds ++ [.tuple es]) c) :
    InvEndG h₀ L (BldJ l led base9 ps x stored m₀ P pre) own s₁ { s₁ with heap := h', toks := tk } := by
  have hlt := kst_ltOf l1.2
  rw [List.push_toArray] at N
  refine bld_end (nn := nn) (vs := vs ++ [.ref D]) (ds := ds ++ [.tuple es]) c [(D, tupO us n)] sep F N ?_ ?_ ?_ ?_ ?_ hk hr hp
  · intro p hp
    simp only [List.mem_cons, List.mem_append, List.not_mem_nil, or_false] at hp ⊢
    rcases hp with h | h | h | h <;> simp [h]
  · intro p hp
    simp only [List.mem_cons, List.mem_append]
    exact .inr (.inr (.inr (.inr hp)))
  · intro q hq
    rw [List.mem_singleton.mp hq]
    exact Nat.ne_of_lt l1.1
  · intro q hq p hp
    rw [List.mem_singleton.mp hq]
    refine Nat.ne_of_lt (hlt p ?_)
    simp only [List.mem_append] at hp ⊢
    rcases hp with h | h <;> simp [h]
  · refine DatAll.append (DatAll.mono (fun p hp => ?_) hd) (.one (.tuple (a := D) (n := n) ?_ (DatAll.mono (news := []) (fun p hp => absurd hp List.not_mem_nil) ht)))
    · simp only [List.mem_append] at hp ⊢
      rcases hp with h | h <;> simp [h]
    · simp
theorem bld_keep (c : τ) (sep : KdSep own tl (l :: led.map (·.1))) (F : Fr h₀ L h' m')
    (N : News h₀ L h' ((l, listOf vs.toArray nn) :: (led ++ (tl ++ own)))) (hd : DatAll (base9 ++ tl) vs ds)
    (hk : ∀ p ∈ ps c, m' p.1 = some p.2) (hr : ∀ z, z ≠ x → (∀ p ∈ ps c, z ≠ p.1) → stored.contains z = false → m' z = m₀ z) (hp : P pre ds c) :
    InvEndG h₀ L (BldJ l led base9 ps x stored m₀ P pre) own s₁ { s₁ with heap := h', toks := tk } := by
  refine bld_end (nn := nn) (vs := vs) (ds := ds) c [] sep F N ?_ ?_ (fun _ h => nomatch h) (fun _ h => nomatch h) (by simpa using hd) hk hr hp
  · intro p hp
    simp only [List.mem_cons, List.mem_append, List.not_mem_nil, false_or] at hp ⊢
    rcases hp with h | h | h <;> simp [h]
  · intro p hp
    simp only [List.mem_cons, List.mem_append]
    exact .inr (.inr (.inr hp))
/-- a turn behind a loop of its own that has grown the list -/
theorem bld_more {tl' : List (Addr × Obj)} (c : τ) (sep : KdSep own tl (l :: led.map (·.1))) (F : Fr h₀ L h' m')
    (N : News h₀ L h' ((l, listOf vs.toArray nn) :: ((led ++ (tl ++ own)) ++ tl'))) (hoff : ∀ p ∈ tl', ∀ b ∈ l :: (led ++ (tl ++ own)).map (·.1), p.1 ≠ b) (hd : DatAll (tl ++ tl') vs ds)
    (hk : ∀ p ∈ ps c, m' p.1 = some p.2) (hr : ∀ z, z ≠ x → (∀ p ∈ ps c, z ≠ p.1) → stored.contains z = false → m' z = m₀ z) (hp : P pre ds c) :
    InvEndG h₀ L (BldJ l led [] ps x stored m₀ P pre) own s₁ { s₁ with heap := h', toks := tk } := by
  refine bld_end (nn := nn) (vs := vs) (ds := ds) c tl' sep F N ?_ ?_ ?_ ?_ (DatAll.mono (fun p hp => ?_) hd) hk hr hp
  · intro p hp
    simp only [List.mem_cons, List.mem_append] at hp ⊢
    rcases hp with h | h | h | h <;> simp [h]
  · intro p hp
    simp only [List.mem_cons, List.mem_append]
    exact .inr (.inl (.inr (.inr hp)))
  · intro q hq e
    exact hoff q hq l (.head _) e.symm
  · intro q hq p hp e
    refine hoff q hq p.1 (.tail _ (List.mem_map.mpr ⟨p, ?_, rfl⟩)) e.symm
    simp only [List.mem_append] at hp ⊢
    rcases hp with h | h <;> simp [h]
  · simp only [List.nil_append, List.mem_append] at hp ⊢
    rcases hp with h | h <;> simp [h]
end
end
end Mine
end
section
open PySem PySem.W PyProof.Rows PySem.Calls
open AutoSeq1 (wpAny_loadPart')
namespace Mine
section
variable {prog : Program} {w : World} {A : Around} {E : Value → Shared → Prop} {s : Shared}
theorem tupNext_item {it t : Addr} {i : Nat} {items : Array Value} {x : Value} {Q : Value → Shared → Prop} (hit : s.heap.IsTupleIter it t i) (ht : s.heap.IsTuple t items) (hx : items[i]? = some x)
    (hQ : ∀ h', h'.IsTupleIter it t (i + 1) → Heap.SameBut it s.heap h' → Q x { s with heap := h' }) : wpAny (model prog w) A (Builtin.SmallTypes.nextOf (.ref it)) Q E s := by
  obtain ⟨o, ho, hc, hd⟩ := id hit
  obtain ⟨ol, hol, _, nl, hdl⟩ := ht
  unfold Builtin.SmallTypes.nextOf
  refine wpAny_bind (wpAny_callSpecial?_slot (name := Str.ofString "__next__") hit.typeIs F.slot_tuple_iterator_next
    (wpAny_call_entry F.slot_tuple_iterator_next hit.typeIs F.entry_tuple_iterator_next ?_ (F.args_tuple_iterator_next_1 _)))
  show wpAny _ _ (field (.ref it) 0 >>= _) _ _ s
  refine wpAny_bind (wpAny_field ho hd (x := .ref t) rfl ?_)
  show wpAny _ _ (if (Value.ref t == Value.none) = true then _ else _) _ _ s
  rw [if_neg (show ¬ ((Value.ref t == Value.none) = true) from Bool.false_ne_true)]
  show wpAny _ _ (field (.ref it) 1 >>= _) _ _ s
  refine wpAny_bind (wpAny_field ho hd (x := .int i 0) rfl ?_)
  show wpAny _ _ (seqItems? (.ref t) >>= _) _ _ s
  refine wpAny_bind (wpAny_seqItems hol hdl ?_)
  simp only [Int.toNat_natCast, hx]
  refine wpAny_bind (wpAny_setField ho hd (by simp) (wpAny_pure ⟨x, rfl, wpAny_pure (hQ _ ?_ (Heap.SameBut.update ..))⟩))
  exact ⟨_, Heap.get?_update_self _ ho (Obj.isFreed_of_fields (Obj.data_mapFields hd _)), (Obj.cls_mapFields ..).trans hc, by
    rw [Obj.data_mapFields hd]; simp [rawInt]⟩
theorem tupNext_end {it t : Addr} {i : Nat} {items : Array Value} {Q : Value → Shared → Prop} (hh : A.handled = none) (hit : s.heap.IsTupleIter it t i) (ht : s.heap.IsTuple t items) (hx : items[i]? = none)
    (hE : ∀ h' e, Heap.ExtBut it s.heap h' → (∃ o, h'.get? e = some o ∧ o.cls = .type "StopIteration") → E (.ref e) { s with heap := h' }) :
    wpAny (model prog w) A (Builtin.SmallTypes.nextOf (.ref it)) Q E s := by
  obtain ⟨o, ho, hc, hd⟩ := id hit
  obtain ⟨ol, hol, _, nl, hdl⟩ := ht
  unfold Builtin.SmallTypes.nextOf
  refine wpAny_bind (wpAny_callSpecial?_slot (name := Str.ofString "__next__") hit.typeIs F.slot_tuple_iterator_next
    (wpAny_call_entry F.slot_tuple_iterator_next hit.typeIs F.entry_tuple_iterator_next ?_ (F.args_tuple_iterator_next_1 _)))
  show wpAny _ _ (field (.ref it) 0 >>= _) _ _ s
  refine wpAny_bind (wpAny_field ho hd (x := .ref t) rfl ?_)
  show wpAny _ _ (if (Value.ref t == Value.none) = true then _ else _) _ _ s
  rw [if_neg (show ¬ ((Value.ref t == Value.none) = true) from Bool.false_ne_true)]
  show wpAny _ _ (field (.ref it) 1 >>= _) _ _ s
  refine wpAny_bind (wpAny_field ho hd (x := .int i 0) rfl ?_)
  show wpAny _ _ (seqItems? (.ref t) >>= _) _ _ s
  refine wpAny_bind (wpAny_seqItems hol hdl ?_)
  simp only [Int.toNat_natCast, hx]
  refine wpAny_bind (wpAny_rule (wpAny_bind (wpAny_setField ho hd (by simp) ?_)))
  show wpAny _ _ (newExc (.type "StopIteration") [] >>= _) _ _ _
  refine wpAny_bind ?_
  simp only [newExc, newTuple]
  refine wpAny_bind (wpAny_newObj_type ?_ (by size_fits))
  refine wpAny_bind (m := firstArgMember _ _) (wpAny_of_eq (a := Value.none) (by first | rfl | (simp only [firstArgMember]; rfl)) ?_)
  refine wpAny_newObj_type ?_ (by size_fits)
  simp only [raiseNew]
  refine wpAny_bind (wpAny_handled ?_)
  first | rw [show A.in1.handled = none from hh] | rw [hh]
  refine wpAny_bind (wpAny_pure (wpAny_throw ?_))
  exact hE _ _ (((Heap.SameBut.update ..).extBut.push _).push _) ⟨_, Heap.get?_push_size _ rfl, rfl⟩
end
theorem draws_tuple {prog : Program} {w : World} {A : Around} (hh : A.handled = none) (it t : Addr) (hne : t ≠ it) (items : Array Value) :
    Draws prog w A it [it, t] items.size (fun i v => items[i]? = some v) (fun i h => h.IsTupleIter it t i ∧ h.IsTuple t items) where
  live := fun _ _ st => let ⟨o, ho, _⟩ := st.1; ⟨o, ho⟩
  frame := fun _ _ _ st hk => ⟨st.1.at fun o e => hk it (by simp) o e, st.2.at fun o e => hk t (by simp) o e⟩
  item := fun i s Q E hi st hQ => by
    refine tupNext_item st.1 st.2 (x := items[i]) (by simp [hi]) fun h' hit' hs' => ?_
    exact hQ _ h' s.toks (by simp [hi]) ⟨hit', st.2.extBut hs'.extBut hne⟩ hs'
  done := fun s Q E st hE => tupNext_end hh st.1 st.2 (by simp) hE
set_option maxHeartbeats 1000000 in
theorem meets_enum_tup (t : Addr) (items : Array Value) (n : Nat) :
    Meets (Builtin.«enumerate.__new__» ⟨[.type "enumerate", .ref t], []⟩) (fun _ R s => s.heap.get? t = some { cls := .type "tuple", data := .seq items n } ∧
      R (.ok (.ret (.ref (s.heap.push { cls := .type "tuple_iterator", data := .fields #[.ref t, .int 0 0] }).objs.size)))
        { s with heap := (s.heap.push { cls := .type "tuple_iterator", data := .fields #[.ref t, .int 0 0] }).push { cls := .type "enumerate", data := .fields #[.none, .bool false, .ref s.heap.objs.size, rawInt 0, .none, .none] } }) :=
  .of_wp fun prog w A R s h => by
    obtain ⟨hp, g, d, tk, os⟩ := s; obtain ⟨hl, h⟩ := h
    have hsub := sub_enumerate
    have hT : Heap.IsTuple (Shared.heap ⟨hp, g, d, tk, os⟩) t items := ⟨_, hl, rfl, n, rfl⟩
    wp_walk using wpAny_loadPart' hl
    refine wpAny_stack_any fun st => wpAny_pure ?_
    split
    · rename_i c _ _ _ _ _
      cases (c == Value.type "enumerate")
      · wp_walk using wpAny_loadPart' hl, wpAny_pyIter_tuple hT
        exact ⟨_, rfl, h⟩
      · wp_walk using wpAny_loadPart' hl, wpAny_pyIter_tuple hT
        exact ⟨_, rfl, h⟩
    · wp_walk using wpAny_loadPart' hl, wpAny_pyIter_tuple hT
      exact ⟨_, rfl, h⟩
section
variable {prog : Program} {w : World} {A : Around} {E : Value → Shared → Prop} {s : Shared}
theorem call_enum_tup {t : Addr} {items : Array Value} {n : Nat} {Q : Value → Shared → Prop} (hl : s.heap.get? t = some { cls := .type "tuple", data := .seq items n })
    (h : ∀ h', IsEnum h' (s.heap.objs.size + 1) s.heap.objs.size 0 .none → h'.IsTupleIter s.heap.objs.size t 0 → h'.objs.size = s.heap.objs.size + 2 →
      (∀ b o, s.heap.get? b = some o → h'.get? b = some o) → Q (.ref (s.heap.objs.size + 1)) { s with heap := h' }) :
    wpAny (model prog w) A (call (.type "enumerate") [.ref t]) Q E s := by
  refine callType_new F.called_enumerate (by decide) (F.typeCall_enumerate_1 _) (F.newCall_enumerate_1 _) (fun obj => F.args_object_init_2 obj _) F.entry_enumerate_new
    (meets_enum_tup t items n) ⟨hl, ?_⟩
  have hz : (s.heap.push { cls := .type "tuple_iterator", data := .fields #[.ref t, .int 0 0] }).objs.size = s.heap.objs.size + 1 := Heap.size_push ..
  show _ ∧ _
  rw [hz]
  have he : IsEnum ((s.heap.push { cls := .type "tuple_iterator", data := .fields #[.ref t, .int 0 0] }).push
      { cls := .type "enumerate", data := .fields #[.none, .bool false, .ref s.heap.objs.size, rawInt 0, .none, .none] }) (s.heap.objs.size + 1) s.heap.objs.size 0 .none := by
    have := Heap.get?_push_size (s.heap.push { cls := .type "tuple_iterator", data := .fields #[.ref t, .int 0 0] })
      (o := { cls := .type "enumerate", data := .fields #[.none, .bool false, .ref s.heap.objs.size, rawInt 0, .none, .none] }) rfl
    rw [hz] at this; exact this
  refine ⟨⟨_, he, rfl⟩, h _ he ⟨_, Heap.get?_push_of_some _ (Heap.get?_push_size _ rfl), rfl, rfl⟩ (by rw [Heap.size_push, hz]) fun b o x => Heap.get?_push_of_some _ (Heap.get?_push_of_some _ x)⟩
end
section
variable {prog : Program} {w : World} {A : Around} {E : Value → Shared → Prop} {s : Shared} {env : Env} {h₀ : Heap} {target : Expr} {body : List Stmt} {Q : Flow → Shared → Prop}
/-- the items of a loop, each turn shown to keep a word of the frame and the ledger -/
theorem rest_ind {ws : List (Addr × String)} {keep : List (Addr × Obj)} (Inv : (Str → Option Value) → List (Addr × Obj) → Prop)
    (fin : ∀ m news, Inv m news → ∀ h tk, Fr h₀ env.locals h m → News h₀ env.locals h news → Q .next { s with heap := h, toks := tk }) :
    ∀ xs : List Itm, (∀ a ∈ xs, ∀ m news, Inv m news → ∀ v h tk, a.Is v h → Fr h₀ env.locals h m → AllObj ws (fun its => News h₀ env.locals h (its ++ news) →
      wpAny (model prog w) A (assign target env v) (fun _ s₂ => wpAny (model prog w) A (execs body env) (UnrPostW h₀ env.locals { s with heap := h, toks := tk } its (fun m' n' => SubL keep n' ∧ Inv m' n') Q) E s₂) E { s with heap := h, toks := tk })) →
    ∀ m news, Inv m news → ItemsRest prog w A E h₀ env target body Q s ws keep xs m news
  | [], _, m, news, hI => fun h tk F N => fin m news hI h tk F N
  | a :: r, ht, m, news, hI => by
    have ih := rest_ind Inv fin r (fun b hb => ht b (.tail _ hb))
    intro v h tk hv F
    have one := ht a (.head _) m news hI v h tk hv F
    have all : ∀ (ws : List (Addr × String)) (k k' : List (Addr × Obj) → Prop), (∀ its, k its → k' its) → AllObj ws k → AllObj ws k' := by
      intro ws
      induction ws with
      | nil => exact fun k k' hk x => hk _ x
      | cons p r ih => exact fun k k' hk x o ho => ih _ _ (fun its y => hk _ y) (x o ho)
    refine all ws _ _ (fun its k N => ?_) one
    refine wpAny_mono (k N) (fun _ s₂ h₂ => wpAny_mono h₂ (fun f s₃ p => ?_) fun _ _ e => e) fun _ _ e => e
    have up : UnrEndW h₀ env.locals { s with heap := h, toks := tk } its (fun m' n' => SubL keep n' ∧ Inv m' n') s₃ →
        UnrEndW h₀ env.locals { s with heap := h, toks := tk } its (fun m' n' => SubL keep n' ∧ ItemsRest prog w A E h₀ env target body Q s ws keep r m' n') s₃ := by
      rintro ⟨h', tk', m', news', e, F', N', ho, hk, hi⟩
      exact ⟨h', tk', m', news', e, F', N', ho, hk, ih m' news' hi⟩
    cases f with
    | ret v => exact p
    | brk => exact p
    | next => exact up p
    | cont => exact up p
theorem enum_tup {elts : List Expr} {k : Nat} {pos : Pos} {l : Addr} {vs : List Value} {n : Nat} {m₀ : Str → Option Value} {news : List (Addr × Obj)}
    (hh : A.handled = none) (F : Fr h₀ env.locals s.heap m₀) (N : News h₀ env.locals s.heap news) (hm : (l, tupO vs n) ∈ news)
    (rest₀ : ∀ I : Addr, (∀ p ∈ news, p.1 < I) → ItemsRest prog w A E h₀ env (.Tuple elts k pos) body Q s [(I + 1, "enumerate"), (I, "tuple_iterator")] [(l, tupO vs n)] (enumItems 0 vs) m₀ news) :
    wpAny (model prog w) A (call (.type "enumerate") [.ref l]) (fun xv s₁ => wpAny (model prog w) A (pyIter xv) (fun it s₂ => TurnsAt prog w A h₀ env (.Tuple elts k pos) body Q E it s₂) E s₁) E s := by
  have hax := N _ hm
  have hl : s.heap.IsTuple l vs.toArray := ⟨_, hax.1, rfl, n, rfl⟩
  have hlt : l < s.heap.objs.size := Heap.lt_size hax.1
  have hLs : env.locals < s.heap.objs.size := F.ns.lt
  refine call_enum_tup hax.1 fun h' hE hI hsz hk => ?_
  refine wpAny_pyIter_enum hE ?_
  refine ktu_core (tk0 := s.toks) (keep := [(l, tupO vs n)]) (KTurns.ofWalksU (WalksT.enumerateD (draws_tuple (A := A.in1) hh s.heap.objs.size l (Nat.ne_of_lt hlt) vs.toArray) (s.heap.objs.size + 1) (Nat.succ_ne_self _) (by
    intro hb
    have hb' : s.heap.objs.size + 1 = s.heap.objs.size ∨ s.heap.objs.size + 1 = l := by simpa using hb
    rcases hb' with e | e
    · exact Nat.succ_ne_self _ e
    · exact absurd hlt (by rw [← e]; exact Nat.not_lt.mpr (Nat.le_succ _))) (by simp)).toU) (by simp [enumItems_length]) ?_ ?_ ?_ ?_ ?_ ?_ ?_ ?_ (F.keeps hk) (N.grown hk) (And.intro hm trivial) (rest₀ _ fun p hp => Heap.lt_size (N p hp).1)
  · rintro i v h ⟨T, vals, rfl, ⟨t, x, hx, rfl⟩, hT⟩
    refine ⟨_, enumItems_get vs 0 i (v := x) (by simpa using hx), T, t, rfl, ?_⟩
    show IsTup h T #[.int ((0 + i : Nat) : Int) t, x]
    rw [Nat.zero_add]
    exact hT
  · rintro i h ⟨⟨old, he⟩, ⟨oi, hoi, hic, _⟩, _⟩
    have he' : ∃ oe : Obj, h.get? (s.heap.objs.size + 1) = some oe ∧ oe.cls = .type "enumerate" := ⟨_, he, rfl⟩
    obtain ⟨oe, h1, h2⟩ := he'
    refine ⟨[(s.heap.objs.size + 1, oe), (s.heap.objs.size, oi)], ⟨⟨rfl, h2⟩, ⟨rfl, hic⟩, trivial⟩, fun p hp => ?_⟩
    rcases List.mem_cons.mp hp with rfl | hp
    · exact h1
    · rw [List.mem_singleton.mp hp]; exact hoi
  · intro b hb
    have hb' : b = s.heap.objs.size + 1 ∨ b = s.heap.objs.size := by simpa using hb
    rcases hb' with rfl | rfl
    · exact ⟨by simp, ktu_new F (Nat.le_add_right _ _)⟩
    · exact ⟨by simp, ktu_new F (Nat.le_refl _)⟩
  · intro b hb
    simpa using hb
  · intro b hb
    have hb' : b = s.heap.objs.size + 1 ∨ b = s.heap.objs.size ∨ b = l := by simpa using hb
    rcases hb' with rfl | rfl | rfl
    · exact .inl (by simp)
    · exact .inl (by simp)
    · exact .inr ⟨tupO vs n, by simp⟩
  · intro hI'
    have hb' : env.locals = s.heap.objs.size + 1 ∨ env.locals = s.heap.objs.size ∨ env.locals = l := by simpa using hI'
    rcases hb' with e | e | e
    · exact ktu_ne 1 hLs e
    · exact Nat.ne_of_lt hLs e
    · exact hax.2.1 e.symm
  · intro p hp hI'
    have hb' : p.1 = s.heap.objs.size + 1 ∨ p.1 = s.heap.objs.size := by simpa using hI'
    have hlp := Heap.lt_size (N p hp).1
    rcases hb' with e | e
    · exact ktu_ne 1 hlp e
    · exact Nat.ne_of_lt hlp e
  · exact ⟨⟨_, hE⟩, hI, hl.at fun o e => hk _ o e⟩
/-- between two turns: the cell stands ahead of a ledger that does not change, the frame has changed under the stored names alone -/
def EnumInv (c : Addr) (led : List (Addr × Obj)) (stored : List Str) (m₀ m : Str → Option Value) (nx : List (Addr × Obj)) : Prop :=
  (∃ co v, nx = (c, co) :: led ∧ co.data = .cell v) ∧ ∀ z, stored.contains z = false → m z = m₀ z
theorem enum_turns {elts : List Expr} {k : Nat} {pos : Pos} {l c : Addr} {co₀ : Obj} {led : List (Addr × Obj)} {vs : List Value} {n : Nat} {m₀ : Str → Option Value} {v₀ : Option Value} (stored : List Str)
    (hh : A.handled = none) (F : Fr h₀ env.locals s.heap m₀) (N : News h₀ env.locals s.heap ((c, co₀) :: led)) (hm : (l, tupO vs n) ∈ led) (hne : ∀ p ∈ led, p.1 ≠ c) (hcell : co₀.data = .cell v₀)
    (turn : ∀ (i : Nat) (v : Value), vs[i]? = some v → ∀ (I T : Addr) (t : Tok) (u : Str → Option Value) (co : Obj) (ov : Option Value) (oe oi : Obj) (h : Heap) (tk : Nat), co.data = .cell ov → (∀ p ∈ led, p.1 < I) → c < I → (∀ p ∈ led ++ [(I + 1, oe), (I, oi)], p.1 ≠ c) → IsTup h T #[.int (i : Int) t, v] →
      Fr h₀ env.locals h (fun y => if stored.contains y then u y else m₀ y) → News h₀ env.locals h ((c, co) :: (led ++ [(I + 1, oe), (I, oi)])) →
      wpAny (model prog w) A (assign (.Tuple elts k pos) env (.ref T)) (fun _ s₂ => wpAny (model prog w) A (execs body env) (UnrPostW h₀ env.locals { s with heap := h, toks := tk } [(I + 1, oe), (I, oi)] (fun m' n' => SubL [(l, tupO vs n)] n' ∧ EnumInv c led stored m₀ m' n') Q) E s₂) E { s with heap := h, toks := tk })
    (done : ∀ (u : Str → Option Value) (co : Obj) (ov : Option Value) (h : Heap) (tk : Nat), co.data = .cell ov → Fr h₀ env.locals h (fun y => if stored.contains y then u y else m₀ y) → News h₀ env.locals h ((c, co) :: led) → Q .next { s with heap := h, toks := tk }) :
    wpAny (model prog w) A (call (.type "enumerate") [.ref l]) (fun xv s₁ => wpAny (model prog w) A (pyIter xv) (fun it s₂ => TurnsAt prog w A h₀ env (.Tuple elts k pos) body Q E it s₂) E s₁) E s := by
  have frame : ∀ m : Str → Option Value, (∀ z, stored.contains z = false → m z = m₀ z) → m = fun y => if stored.contains y then m y else m₀ y := by
    intro m hz
    funext y
    cases hy : stored.contains y with
    | true => simp
    | false => simp [hz y hy]
  refine enum_tup hh F N (.tail _ hm) fun I hI => ?_
  have hcI : c < I := hI (c, co₀) (.head _)
  have hlI : ∀ p ∈ led, p.1 < I := fun p hp => hI p (.tail _ hp)
  refine rest_ind (EnumInv c led stored m₀) ?_ _ ?_ m₀ _ ⟨⟨co₀, v₀, rfl, hcell⟩, fun _ _ => rfl⟩
  · rintro m nx ⟨⟨co, ov, rfl, hc⟩, hz⟩ h tk F' N'
    rw [frame m hz] at F'
    exact done m co ov h tk hc F' N'
  · rintro a ha m nx ⟨⟨co, ov, rfl, hc⟩, hz⟩ v h tk hv F'
    obtain ⟨i, hi, he⟩ := List.getElem_of_mem ha
    rw [enumItems_length] at hi
    have hg := enumItems_get vs 0 i (List.getElem?_eq_getElem hi)
    rw [List.getElem?_eq_getElem (by rw [enumItems_length]; exact hi), he, Nat.zero_add] at hg
    cases Option.some.inj hg
    obtain ⟨T, t, rfl, hT⟩ := hv
    refine AllObj.cons fun oe _ => AllObj.cons fun oi _ => AllObj.nil fun N' => ?_
    rw [frame m hz] at F'
    refine turn i _ (List.getElem?_eq_getElem hi) I T t m co ov oe oi h tk hc hlI hcI ?_ hT F' ?_
    · intro p hp
      rcases List.mem_append.mp hp with hp | hp
      · exact hne p hp
      · have hb : p = (I + 1, oe) ∨ p = (I, oi) := by simpa using hp
        rcases hb with rfl | rfl
        · exact Nat.ne_of_gt (Nat.lt_succ_of_lt hcI)
        · exact Nat.ne_of_gt hcI
    · intro p hp
      refine N' p ?_
      simp only [List.mem_cons, List.mem_append, List.not_mem_nil, or_false, List.cons_append, List.nil_append] at hp ⊢
      rcases hp with h | h | h | h <;> simp [h]
theorem enum_end {c l I : Addr} {co oe oi : Obj} {ov : Option Value} {led all : List (Addr × Obj)} {stored : List Str} {m₀ m' : Str → Option Value} {L : Addr} {vs : List Value} {n : Nat} {s₁ : Shared} {h' : Heap} {tk : Nat}
    (hm : (l, tupO vs n) ∈ led) (hI : ∀ p ∈ led, p.1 < I) (hcI : c < I) (F : Fr h₀ L h' m') (N : News h₀ L h' all) (hs : ∀ p ∈ (c, co) :: (led ++ [(I + 1, oe), (I, oi)]), p ∈ all) (hc : co.data = .cell ov) (hr : ∀ z, stored.contains z = false → m' z = m₀ z) :
    UnrEndW h₀ L s₁ [(I + 1, oe), (I, oi)] (fun m' n' => SubL [(l, tupO vs n)] n' ∧ EnumInv c led stored m₀ m' n') { s₁ with heap := h', toks := tk } := by
  refine ⟨h', tk, m', (c, co) :: led, rfl, F, fun p hp => N p (hs p ?_), ?_, ⟨.tail _ hm, trivial⟩, ⟨co, ov, rfl, hc⟩, hr⟩
  · simp only [List.mem_cons, List.mem_append, List.not_mem_nil, or_false, List.cons_append, List.nil_append] at hp ⊢
    rcases hp with h | h | h | h <;> simp [h]
  · intro p hp q hq
    have hpI : p.1 < I := by
      rcases List.mem_cons.mp hp with rfl | hp
      · exact hcI
      · exact hI p hp
    have hb : q = (I + 1, oe) ∨ q = (I, oi) := by simpa using hq
    rcases hb with rfl | rfl
    · exact Nat.ne_of_lt (Nat.lt_succ_of_lt hpI)
    · exact Nat.ne_of_lt hpI
end
end Mine
end
section
open PySem PySem.W PyProof.Rows PySem.Calls
namespace Mine
theorem dat_row {led : List (Addr × Obj)} {v : Value} {p : Int × Int × Int} (h : DatIn led v (rowD p)) : ∃ T n t1 t2 t3, v = .ref T ∧ (T, tupO [.int p.1 t1, .int p.2.1 t2, .int p.2.2 t3] n) ∈ led := by
  unfold rowD at h
  cases h with
  | tuple hm hd =>
    cases hd with
    | cons h1 hd =>
      cases hd with
      | cons h2 hd =>
        cases hd with
        | cons h3 hd =>
          cases hd
          cases h1
          cases h2
          cases h3
          exact ⟨_, _, _, _, _, rfl, hm⟩
section
variable {prog : Program} {w : World} {A : Around} {s : Shared} {h₀ : Heap} {L : Addr} {m : Str → Option Value} {env : Env} {elt : PySem.Expr} {x : Str} {scope : Scope} {cl : List (Str × Addr)} {S : List (Addr × Obj) → Prop} {Fin : List Value → List (Addr × Obj) → Prop}
/-- a comprehension over the table's lines whose element is one int of the line -/
theorem comp_rows {led news : List (Addr × Obj)} {vs : List Value} {rows : List (Int × Int × Int)} (f : Int × Int × Int → Int) (hd : DatAll led vs (rows.map rowD)) (hS : S news)
    (turn : ∀ (row : Int × Int × Int) (T : Addr) (n : Nat) (t1 t2 t3 : Tok) (ys : List Value) (I : Addr) (oI : Obj) (C : Addr) (oC : Obj) (D : Addr) (m₂ : Str → Option Value) (h : Heap) (tk : Nat) (E' : Value → Shared → Prop),
      (T, tupO [.int row.1 t1, .int row.2.1 t2, .int row.2.2 t3] n) ∈ led → LCg.NsObj oC m₂ → m₂ x = some (.ref T) → Fr h₀ L h m → News h₀ L h ((I, oI) :: (C, oC) :: (D, LCg.lst ys) :: news) →
      wpAny (model prog w) A (eval elt (compEnvC scope cl C env)) (fun y s₂ => (∃ t tk', y = .int (f row) t ∧ s₂ = { s with heap := h, toks := tk' })) E' { s with heap := h, toks := tk })
    (fin : ∀ ys, IntsAre ys (rows.map f) → Fin ys news) :
    LCg.CompRest prog w A h₀ L m env elt x scope cl s S (fun i v => vs.toArray[i]? = some v) Fin vs.toArray.size 0 [] news := by
  have hlen : vs.length = rows.length := by rw [hd.length, List.length_map]
  have go : ∀ k i ys, i + k = rows.length → IntsAre ys ((rows.take i).map f) → LCg.CompRest prog w A h₀ L m env elt x scope cl s S (fun i v => vs.toArray[i]? = some v) Fin k i ys news := by
    intro k
    induction k with
    | zero =>
      intro i ys hi hy
      refine LCg.CompRest.zero (fin ys ?_)
      rw [show i = rows.length by omega, List.take_length] at hy
      exact hy
    | succ k ih =>
      intro i ys hi hy
      refine LCg.CompRest.succ ?_
      intro v I oI C oC D m₂ h tk E' hv hC hx F N off ne
      have hi' : i < rows.length := by omega
      obtain ⟨v', hv', hD⟩ := hd.get (k := i) (by rw [List.length_map]; exact hi')
      have hv2 : vs[i]? = some v := by simpa using hv
      cases Option.some.inj (hv2.symm.trans hv')
      rw [List.getElem_map] at hD
      obtain ⟨T, n, t1, t2, t3, rfl, hT⟩ := dat_row hD
      refine wpAny_mono (turn rows[i] T n t1 t2 t3 ys I oI C oC D m₂ h tk E' hT hC hx F N) (fun y s₂ hq => ?_) fun _ _ e => e
      obtain ⟨t, tk', rfl, rfl⟩ := hq
      refine ⟨h, tk', news, rfl, F, N, off, hS, ih (i + 1) _ (by omega) ?_⟩
      rw [List.take_add_one, List.getElem?_eq_getElem hi', Option.toList_some, List.map_append, List.map_singleton]
      exact IntsAre.append hy (.cons _ _ .nil)
  have := go rows.length 0 [] (by omega) .nil
  rw [List.size_toArray, hlen]
  exact this
end
end Mine
end
section
open PySem PySem.W PyProof.Rows
namespace Mine
theorem mem_rows {a0 a1 b0 b1 g0 g1 : Int} {r : Int × Int × Int} : r ∈ rowsOf a0 a1 b0 b1 g0 g1 ↔ ∃ a b, a0 ≤ a ∧ a ≤ a1 ∧ b0 ≤ b ∧ b ≤ b1 ∧ g0 ≤ a * b ∧ a * b ≤ g1 ∧ r = (a, b, a * b) := by
  unfold rowsOf rowsA rangeKs
  simp only [List.mem_flatMap, List.mem_map, List.mem_filter, List.mem_range, decide_eq_true_eq]
  constructor
  · rintro ⟨a, ⟨i, hi, rfl⟩, b, ⟨⟨j, hj, rfl⟩, h1, h2⟩, rfl⟩
    exact ⟨_, _, by omega, by omega, by omega, by omega, h1, h2, rfl⟩
  · rintro ⟨a, b, h1, h2, h3, h4, h5, h6, rfl⟩
    exact ⟨a, ⟨(a - a0).toNat, by omega, by omega⟩, b, ⟨⟨(b - b0).toNat, by omega, by omega⟩, h5, h6⟩, rfl⟩
theorem any_rows {rows : List (Int × Int × Int)} {f : Int × Int × Int → Int} {k : Int} : ((rows.map f).any fun x => x == k) = true ↔ ∃ r ∈ rows, f r = k := by
  simp [List.any_eq_true]
theorem seen0 {a0 a1 b0 b1 g0 g1 k : Int} (h0 : a0 ≤ k) (h1 : k ≤ a1) : (((rowsOf a0 a1 b0 b1 g0 g1).map fun r => r.1).any fun x => x == k) = true ↔ Fac b0 b1 g0 g1 k := by
  rw [any_rows]
  constructor
  · rintro ⟨r, hr, rfl⟩
    obtain ⟨a, b, _, _, h3, h4, h5, h6, rfl⟩ := mem_rows.mp hr
    exact ⟨b, h3, h4, h5, h6⟩
  · rintro ⟨b, h3, h4, h5, h6⟩
    exact ⟨(k, b, k * b), mem_rows.mpr ⟨k, b, h0, h1, h3, h4, h5, h6, rfl⟩, rfl⟩
theorem seen1 {a0 a1 b0 b1 g0 g1 k : Int} (h0 : b0 ≤ k) (h1 : k ≤ b1) : (((rowsOf a0 a1 b0 b1 g0 g1).map fun r => r.2.1).any fun x => x == k) = true ↔ Fac a0 a1 g0 g1 k := by
  rw [any_rows]
  constructor
  · rintro ⟨r, hr, rfl⟩
    obtain ⟨a, b, h3, h4, _, _, h5, h6, rfl⟩ := mem_rows.mp hr
    exact ⟨a, h3, h4, by rw [Int.mul_comm]; exact h5, by rw [Int.mul_comm]; exact h6⟩
  · rintro ⟨a, h3, h4, h5, h6⟩
    rw [Int.mul_comm] at h5 h6
    exact ⟨(a, k, a * k), mem_rows.mpr ⟨a, k, h3, h4, h0, h1, h5, h6, rfl⟩, rfl⟩
theorem seen2 {a0 a1 b0 b1 g0 g1 k : Int} (h0 : g0 ≤ k) (h1 : k ≤ g1) : (((rowsOf a0 a1 b0 b1 g0 g1).map fun r => r.2.2).any fun x => x == k) = true ↔ Prd a0 a1 b0 b1 k := by
  rw [any_rows]
  constructor
  · rintro ⟨r, hr, rfl⟩
    obtain ⟨a, b, h3, h4, h5, h6, _, _, rfl⟩ := mem_rows.mp hr
    exact ⟨a, b, h3, h4, h5, h6, rfl⟩
  · rintro ⟨a, b, h3, h4, h5, h6, rfl⟩
    exact ⟨(a, b, a * b), mem_rows.mpr ⟨a, b, h3, h4, h5, h6, h0, h1, rfl⟩, rfl⟩
theorem fac_turn0 {b0 b1 g0 g1 k : Int} : Fac b0 b1 (0 - g1) (0 - g0) (0 - k) ↔ Fac b0 b1 g0 g1 k := by
  unfold Fac
  constructor <;> rintro ⟨u, h1, h2, h3, h4⟩ <;> refine ⟨u, h1, h2, ?_, ?_⟩ <;> rw [Int.sub_mul, Int.zero_mul] at * <;> omega
theorem fac_turn1 {a0 a1 g0 g1 k : Int} : Fac (0 - a1) (0 - a0) (0 - g1) (0 - g0) k ↔ Fac a0 a1 g0 g1 k := by
  unfold Fac
  constructor <;> rintro ⟨u, h1, h2, h3, h4⟩ <;> refine ⟨0 - u, by omega, by omega, ?_, ?_⟩ <;> rw [Int.mul_sub, Int.mul_zero] <;> omega
theorem prd_swap {a0 a1 b0 b1 k : Int} : Prd b0 b1 a0 a1 k ↔ Prd a0 a1 b0 b1 k := by
  unfold Prd
  constructor <;> rintro ⟨a, b, h1, h2, h3, h4, rfl⟩ <;> exact ⟨b, a, h3, h4, h1, h2, Int.mul_comm _ _⟩
theorem prd_turn {a0 a1 b0 b1 k : Int} : Prd (0 - a1) (0 - a0) b0 b1 (0 - k) ↔ Prd a0 a1 b0 b1 k := by
  unfold Prd
  constructor <;> rintro ⟨a, b, h1, h2, h3, h4, h5⟩ <;> refine ⟨0 - a, b, by omega, by omega, h3, h4, ?_⟩ <;> rw [Int.sub_mul, Int.zero_mul] <;> omega
theorem told_false {c0 c1 c2 s : Bool} {P : Prop} (h : (c0 == s && (c1 == s && c2 == s)) = false) (e0 : c0 = true ↔ P) (e1 : c1 = true ↔ P) (e2 : c2 = true ↔ P) (es : s = true ↔ P) : False := by
  have h0 : c0 = s := Bool.eq_iff_iff.mpr (e0.trans es.symm)
  have h1 : c1 = s := Bool.eq_iff_iff.mpr (e1.trans es.symm)
  have h2 : c2 = s := Bool.eq_iff_iff.mpr (e2.trans es.symm)
  subst h0 h1 h2
  simp at h
theorem off_of {l : List Str} {z : Str} (h : l.contains z = false) : ∀ y ∈ l, z ≠ y := by
  intro y hy e
  subst e
  rw [List.contains_iff_mem.mpr hy] at h
  cases h
end Mine
end
section
open PySem PySem.W PyProof.Rows PySem.Calls
namespace Mine
abbrev bagO (n : Int) (tn : Tok) (k : Int) (tk : Tok) (nn : Nat) : Obj := listOf [.int n tn, .int k tk].toArray nn
section
variable {prog : Program} {w : World} {A : Around} {E : Value → Shared → Prop} {s : Shared} {env : Env} {h₀ : Heap} {x : Str} {body : List Stmt} {Q : Flow → Shared → Prop}
abbrev LapS : Type := Int × Tok × Int × Tok × Nat
/-- between two laps: the bag's two ints, the second one counts the draws -/
def LapJ (l : Addr) (led : List (Addr × Obj)) (x : Str) (stored : List Str) (m₀ : Str → Option Value) (pre : List Int) : (Str → Option Value) → List (Addr × Obj) → Prop :=
  KstS (σ := LapS) (fun c => (l, bagO c.1 c.2.1 c.2.2.1 c.2.2.2.1 c.2.2.2.2) :: led) (fun _ => []) (fun _ => True) x stored m₀ (fun pre c => 0 ≤ c.2.2.1 ∧ c.2.2.1 ≤ 6 * (pre.length : Int)) pre
theorem lap_range {l r : Addr} {b₀ : Int} {t₀ u₀ v₀ : Tok} {m₀ : Str → Option Value} {led : List (Addr × Obj)} {n₀ : Int} {tn₀ tk₀ : Tok} {nn₀ : Nat} (stored : List Str)
    (hh : A.handled = none) (hr : IsRange s.heap r 0 b₀ 1 t₀ u₀ v₀) (hb : 0 ≤ b₀) (hb' : b₀ ≤ 2)
    (F : Fr h₀ env.locals s.heap m₀) (N : News h₀ env.locals s.heap ((l, bagO n₀ tn₀ 0 tk₀ nn₀) :: led)) (hne : ∀ p ∈ led, p.1 ≠ l)
    (turn : ∀ (pre : List Int) (i : Int) t (u : Str → Option Value) h tk own (n : Int) (tn : Tok) (k : Int) (tkk : Tok) (nn : Nat), 0 ≤ k → k ≤ 6 * (pre.length : Int) → pre.length < 2 → (∀ p ∈ led ++ own, p.1 ≠ l) →
      Fr h₀ env.locals h (fun y => if y = x then some (.int i t) else if stored.contains y then u y else m₀ y) → News h₀ env.locals h ((l, bagO n tn k tkk nn) :: (led ++ own)) →
      wpAny (model prog w) A (execs body env) (InvPostN h₀ env.locals (LapJ l led x stored m₀ (pre ++ [i])) own (l :: led.map (·.1)) { s with heap := h, toks := tk } Q) E { s with heap := h, toks := tk })
    (done : ∀ (u : Str → Option Value) h tk news, Fr h₀ env.locals h (fun y => if y = x then u y else if stored.contains y then u y else m₀ y) → News h₀ env.locals h news → Q .next { s with heap := h, toks := tk }) :
    wpAny (model prog w) A (pyIter (.ref r)) (fun it s₂ => LoopAtV prog w A h₀ env x body Q E it s₂) E s := by
  refine kst_range (σ := LapS) (fun c => (l, bagO c.1 c.2.1 c.2.2.1 c.2.2.2.1 c.2.2.2.2) :: led) (fun _ => []) (fun _ => True) stored (fun pre c => 0 ≤ c.2.2.1 ∧ c.2.2.1 ≤ 6 * (pre.length : Int)) (n₀, tn₀, 0, tk₀, nn₀) hh hr
    (small_one (by omega) (by omega) (by omega) (by omega)) (rangeSize_nat _ _) F N trivial (fun _ h => nomatch h) ⟨Int.le_refl _, by simp⟩ ?_ ?_
  · rintro ⟨n, tn, k, tkk, nn⟩ pre i t u h tk own hi hlt hoff _ hp F₁ N₁
    refine turn pre i t u h tk own n tn k tkk nn hp.1 hp.2 (by omega) (fun p hp => ?_) F₁ N₁
    rcases List.mem_append.mp hp with hp | hp
    · exact hne p hp
    · exact hoff p hp l (.head _)
  · intro c u h tk _ hp F₁ N₁
    exact done u h tk _ F₁ N₁
theorem lap_end {l : Addr} {led all own : List (Addr × Obj)} {stored : List Str} {m₀ m' : Str → Option Value} {pre : List Int} {L : Addr} {s₁ : Shared} {h' : Heap} {tk : Nat} {n : Int} {tn : Tok} {k : Int} {tkk : Tok} {nn : Nat}
    (F : Fr h₀ L h' m') (N : News h₀ L h' all) (hm : (l, bagO n tn k tkk nn) ∈ all) (hs : ∀ p ∈ led ++ own, p ∈ all) (hr : ∀ z, z ≠ x → stored.contains z = false → m' z = m₀ z) (h0 : 0 ≤ k) (h1 : k ≤ 6 * (pre.length : Int)) :
    InvEndN h₀ L (LapJ l led x stored m₀ pre) own (l :: led.map (·.1)) s₁ { s₁ with heap := h', toks := tk } :=
  kst_end (σ := LapS) (n, tn, k, tkk, nn) F N (fun p hp => by
    rcases List.mem_cons.mp hp with rfl | hp
    · exact hm
    · exact hs p (List.mem_append_left _ hp)) (fun p hp => hs p (List.mem_append_right _ hp)) rfl trivial (fun _ h => nomatch h) (fun z h1 _ h3 => hr z h1 h3) ⟨h0, h1⟩
theorem btw_news {L : Addr} {h : Heap} {T D l' l : Addr} {oT oD ol ob : Obj} {led : List (Addr × Obj)} (N : News h₀ L h ((T, oT) :: (D, oD) :: (l', ol) :: (l, ob) :: led)) : News h₀ L h ((l, ob) :: (T, oT) :: led) := fun p hp => N p (by
  simp only [List.mem_cons] at hp ⊢
  rcases hp with h | h | h <;> simp [h])
theorem btw_ne {D l : Addr} {A1 A2 R : Prop} (h : A1 ∧ A2 ∧ @LT.lt Nat _ l D ∧ R) : D ≠ l := Nat.ne_of_gt h.2.2.1
end
end Mine
end
section
open PySem PySem.W PyProof.Rows Mine
local macro_rules | `(tactic| k_mem) => `(tactic| ((repeat (first | assumption | exact List.Mem.head _ | refine' List.mem_cons_of_mem _ ?_ | refine' List.mem_append_left _ ?_)); done))
local macro_rules | `(tactic| k_memK) => `(tactic| ((repeat (first | assumption | exact List.Mem.head _ | refine' List.mem_cons_of_mem _ ?_ | refine' List.mem_append_left _ ?_)); done))
local macro_rules | `(tactic| walk_at "subscriptTail") => `(tactic| (k_here; (with_reducible show wpAny _ _ (subscriptTail _ _ (Value.ref _) (Value.int _ _)) _ _ _); k_dflt (refine' item_tupleT ?t ?a ?b ?c ?d ?_; (case t => exact News.isTup (by k_asm) (by k_mem)); (case a => decide); (case b => decide); (case c => rfl); (case d => rfl); k_whole)))
local macro_rules | `(tactic| walk_at "subscriptTail") => `(tactic| (k_here; (with_reducible show wpAny _ _ (subscriptTail _ _ (Value.ref _) (Value.int _ _)) _ _ _); k_dflt (refine' lst_item ?t ?a ?b ?c ?d ?_; (case t => k_asm); (case a => k_mem); (case b => decide); (case c => decide); (case d => rfl); k_whole)))
local macro_rules | `(tactic| walk_at "call ref") => `(tactic| (k_here; (with_reducible show wpAny _ _ (call (Value.ref _) _) _ _ _); refine wpAny_call ?_; k_dflt cell_enter))
local macro_rules | `(tactic| walk_at "binaryOp FloorDiv int int") => `(tactic| (k_here; (with_reducible refine floordiv_int ?kbe ?_ (Or.inl (PyProof.noPylong_small ?kbp))); (case kbe => omega); (case kbp => omega)))
local macro_rules | `(tactic| walk_at "exec For Name Call cons nil") => `(tactic| (k_here; (rename Fr _ _ _ _ => lF'); (with_unfolding_all refine' For_invVF lF' ?k1 ?k2 ?_; (case k1 => exact rfl); (case k2 => exact rfl); k_whole)))
local macro_rules | `(tactic| walk_at "pyIter ref") => `(tactic| (kst_has; k_extra "pyIter ref"))
local macro_rules | `(tactic| k_all) => `(tactic| assumption)
local macro_rules | `(tactic| size_fits) => `(tactic| (simp only [List.size_toArray, PySem.sizeLine_eq]; omega))
local macro_rules | `(tactic| walk_at "call ref") => `(tactic| (k_extra "call ref"))
local macro_rules | `(tactic| walk_at "call type:enumerate") => `(tactic| (k_extra "call type:enumerate"))
local macro_rules | `(tactic| walk_at "subscriptTail Name Constant ref int") => `(tactic| (k_here; (with_reducible show wpAny _ _ (subscriptTail _ _ (Value.ref _) (Value.int _ _)) _ _ _); k_dflt (refine' item_tupleT ?t ?a ?b ?c ?d ?_; (case t => exact News.isTup (by k_asm) (by k_mem)); (case a => decide); (case b => decide); (case c => rfl); (case d => rfl); k_whole)))
local macro_rules | `(tactic| walk_at "subscriptTail Name Constant ref int") => `(tactic| (k_here; (with_reducible show wpAny _ _ (subscriptTail _ _ (Value.ref _) (Value.int _ _)) _ _ _); k_dflt (refine' lst_item ?t ?a ?b ?c ?d ?_; (case t => k_asm); (case a => k_mem); (case b => decide); (case c => decide); (case d => rfl); k_whole)))
local macro_rules | `(tactic| walk_at "CompSrc") => `(tactic| (k_extra "CompSrc"))
local macro_rules | `(tactic| walk_at "Exists") => `(tactic| (k_extra "Exists"))
local macro_rules | `(tactic| walk_at "InvEndN") => `(tactic| (k_extra "InvEndN"))
namespace Mine
theorem can_be0 {w : World} {mean : ExcName → Option Value} {mg mb : Str → Option Value} {news : List (Addr × Obj)} {x rl r0 r1 r2 : Addr} {n n0 n1 n2 : Nat} {a0 a1 b0 b1 g0 g1 v : Int} {t0 t1 t2 t3 t4 t5 t6 t7 : Tok}
    (hrl : (rl, listOf [Value.ref r0, .ref r1, .ref r2].toArray n) ∈ news)
    (h0 : (r0, tupO [.int a0 t0, .int a1 t1] n0) ∈ news) (h1 : (r1, tupO [.int b0 t2, .int b1 t3] n1) ∈ news) (h2 : (r2, tupO [.int g0 t4, .int g1 t5] n2) ∈ news)
    (hv0 : -1000 ≤ v) (hv1 : v ≤ 1000) (hb : b0 ≤ b1) :
    Ctx w mean mg mb 170 4 [.ref x, .ref rl, .int 0 t6, .int v t7] news fun h₀ L m s Q =>
      ∀ b h' tk', Fr h₀ L h' m → News h₀ L h' news → (b = true ↔ Fac b0 b1 g0 g1 v) → Q (.bool b) { s with heap := h', toks := tk' } := by
  unfold Ctx
  k_fill
  w_top off
  intro dp un gd cn cs a ccd cl outer A₀ base h₀ L m s Q E B F X N T hk hd hu hret
  have hkk : ScopeKind.function = ScopeKind.function := rfl
  refine wpAny_call ?_
  k_dflt cell_enter
  k_steps
  all_goals refine hret _ _ _ (by k_asm) (by first | k_asm | exact cb_drop (by assumption) (fun p hp => by k_mem)) ?_
  all_goals first
    | exact fac_pos (by omega)
    | exact fac_neg (by omega)
    | exact fac_zero0 (by omega) (by omega)
    | exact fac_zero1 (by assumption) (by omega) (by omega)
theorem can_be1 {w : World} {mean : ExcName → Option Value} {mg mb : Str → Option Value} {news : List (Addr × Obj)} {x rl r0 r1 r2 : Addr} {n n0 n1 n2 : Nat} {a0 a1 b0 b1 g0 g1 v : Int} {t0 t1 t2 t3 t4 t5 t6 t7 : Tok}
    (hrl : (rl, listOf [Value.ref r0, .ref r1, .ref r2].toArray n) ∈ news)
    (h0 : (r0, tupO [.int a0 t0, .int a1 t1] n0) ∈ news) (h1 : (r1, tupO [.int b0 t2, .int b1 t3] n1) ∈ news) (h2 : (r2, tupO [.int g0 t4, .int g1 t5] n2) ∈ news)
    (hv0 : -1000 ≤ v) (hv1 : v ≤ 1000) (ha : a0 ≤ a1) :
    Ctx w mean mg mb 170 4 [.ref x, .ref rl, .int 1 t6, .int v t7] news fun h₀ L m s Q =>
      ∀ b h' tk', Fr h₀ L h' m → News h₀ L h' news → (b = true ↔ Fac a0 a1 g0 g1 v) → Q (.bool b) { s with heap := h', toks := tk' } := by
  unfold Ctx
  k_fill
  w_top off
  intro dp un gd cn cs a ccd cl outer A₀ base h₀ L m s Q E B F X N T hk hd hu hret
  have hkk : ScopeKind.function = ScopeKind.function := rfl
  refine wpAny_call ?_
  k_dflt cell_enter
  k_steps
  all_goals refine hret _ _ _ (by k_asm) (by first | k_asm | exact cb_drop (by assumption) (fun p hp => by k_mem)) ?_
  all_goals first
    | exact fac_pos (by omega)
    | exact fac_neg (by omega)
    | exact fac_zero0 (by omega) (by omega)
    | exact fac_zero1 (by assumption) (by omega) (by omega)
theorem times_spec {w : World} {mean : ExcName → Option Value} {mg mb : Str → Option Value} {news : List (Addr × Obj)} {t0 t1 t2 : Tok} :
    CtxT2 w mean mg mb 187 [.int 2 t0, .int 1 t1, .int 0 t2] news fun h₀ L m s Q =>
      ∀ x d es n h' tk', Fr h₀ L h' m → News h₀ L h' ((x, instObj 187 d) :: (d, dictOf es n) :: news) → (∀ p ∈ news, p.1 ≠ x ∧ p.1 ≠ d) → getL (Str.ofString "can_be") es = some none → Q (.ref x) { s with heap := h', toks := tk' } := by
  unfold CtxT2
  k_fill
  w_top off
  intro e₁ cn nm ig ic mo a ccd cl base h₀ L m s Q E B F X N T hret
  k_with_none
  k_steps
  (rename News _ _ _ _ => N8)
  refine hret _ _ _ _ _ _ (by k_asm) (drop5 N8) ?_ (by rfl)
  (rename ∀ (p : Addr × Obj), p ∈ news → p.1 < _ => l9)
  exact fun p hp => ⟨Nat.ne_of_lt (Nat.lt_trans (l9 p hp) (by assumption)), Nat.ne_of_lt (l9 p hp)⟩
theorem can_be2 {w : World} {mean : ExcName → Option Value} {mg mb : Str → Option Value} {news : List (Addr × Obj)} {x rl r0 r1 r2 : Addr} {n n0 n1 : Nat} {a0 a1 b0 b1 v : Int} {t0 t1 t2 t3 t6 t7 : Tok}
    (hrl : (rl, listOf [Value.ref r0, .ref r1, .ref r2].toArray n) ∈ news)
    (h0 : (r0, tupO [.int a0 t0, .int a1 t1] n0) ∈ news) (h1 : (r1, tupO [.int b0 t2, .int b1 t3] n1) ∈ news)
    (hv0 : -1000 ≤ v) (hv1 : v ≤ 1000) (ha : a0 ≤ a1) (hb : b0 ≤ b1) (ba0 : -1000 ≤ a0) (ba1 : a1 ≤ 1000) :
    Ctx w mean mg mb 170 4 [.ref x, .ref rl, .int 2 t6, .int v t7] news fun h₀ L m s Q =>
      ∀ b h' tk', Fr h₀ L h' m → News h₀ L h' news → (b = true ↔ Prd a0 a1 b0 b1 v) → Q (.bool b) { s with heap := h', toks := tk' } := by
  unfold Ctx
  k_fill
  w_top off
  intro dp un gd cn cs a ccd cl outer A₀ base h₀ L m s Q E B F X N T hk hd hu hret
  have hkk : ScopeKind.function = ScopeKind.function := rfl
  k_with_none
  k_with "pyIter ref" => (refine Halt.on ?_)
  refine wpAny_call ?_
  k_dflt cell_enter
  k_steps
  rotate_left 2
  refine Halt.off ?_
  (rename Fr _ _ _ _ => lF'); (rename News _ _ _ _ => lN'); (rename IsRange _ _ _ _ _ _ _ _ => rgX)
  with_unfolding_all refine' srch_range [] (fun u => ¬ (u ≠ 0 ∧ v.fmod u = 0 ∧ b0 ≤ v.fdiv u ∧ v.fdiv u ≤ b1)) (by rfl) rgX (by omega) (by omega) (by omega) (by omega) lF' lN' ?_ ?_
  · (clear lF' lN'); intro pre k t u h tk own hk0 hk1 hoff kFr kNews
    dsimp only at kFr
    k_steps
    · refine hret _ _ _ (by k_asm) (by exact cb_drop (by assumption) (fun p hp => by k_mem)) ?_
      exact prd_yes (k := k) (by assumption) (by assumption) (by assumption) (by omega) (by omega)
    all_goals
      refine srch_end (by k_asm) (by k_asm) (fun p hp => hp) ?_ ?_
      · intro z hz1 hz2; simp [hz1]
      · intro _ hnot; first | exact absurd hnot.1 (by assumption) | exact absurd hnot.2.1 (by assumption) | exact absurd hnot.2.2.1 (by assumption) | exact absurd hnot.2.2.2 (by assumption) | omega
  · (clear lF' lN'); intro u h tk hnone kFr kNews
    dsimp only at kFr
    k_steps
    refine hret _ _ _ (by k_asm) (by k_asm) ?_
    exact prd_no (by assumption) hnone
  all_goals refine hret _ _ _ (by k_asm) (by first | k_asm | exact cb_drop (by assumption) (fun p hp => by k_mem)) ?_
  all_goals first
    | exact prd_zero1 ha hb (by assumption) (by assumption)
    | exact prd_zero2 ha hb (by assumption) (by assumption)
theorem table_spec {w : World} {mean : ExcName → Option Value} {mg mb : Str → Option Value} {news : List (Addr × Obj)} {r0 r1 r2 : Addr} {n0 n1 n2 : Nat} {a0 a1 b0 b1 g0 g1 : Int} {t0 t1 t2 t3 t4 t5 : Tok}
    (h0 : (r0, tupO [.int a0 t0, .int a1 t1] n0) ∈ news) (h1 : (r1, tupO [.int b0 t2, .int b1 t3] n1) ∈ news) (h2 : (r2, tupO [.int g0 t4, .int g1 t5] n2) ∈ news) (ha : a0 ≤ a1) (hb : b0 ≤ b1) (ba0 : -6 ≤ a0) (ba1 : a1 ≤ 6) (bb0 : -6 ≤ b0) (bb1 : b1 ≤ 6) :
    Ctx w mean mg mb 210 4 [.ref r0, .ref r1, .ref r2] news fun h₀ L m s Q =>
      ∀ tl l vs nn h' tk', Fr h₀ L h' m → News h₀ L h' ((l, listOf vs.toArray nn) :: (news ++ tl)) → (∀ p ∈ news, p.1 ≠ l ∧ ∀ q ∈ tl, q.1 ≠ p.1) → DatAll tl vs ((rowsOf a0 a1 b0 b1 g0 g1).map rowD) → Q (.ref l) { s with heap := h', toks := tk' } := by
  unfold Ctx
  k_fill
  w_top off
  intro dp un gd cn cs a ccd cl outer A₀ base h₀ L m s Q E B F X N T hk hd hu hret
  have hkk : ScopeKind.function = ScopeKind.function := rfl
  k_with_none
  k_with "pyIter ref" => (refine Halt.on ?_)
  refine wpAny_call ?_
  k_dflt cell_enter
  k_steps
  refine Halt.off ?_
  (rename Fr _ _ _ _ => lF'); (rename News _ _ _ _ => lN'); (rename IsRange _ _ _ _ _ _ _ _ => rgX); (rename ∀ (p : Addr × Obj), p ∈ news → p.1 < _ => l1)
  with_unfolding_all refine' bld_range (τ := Unit) (vs₀ := []) [] (fun _ => []) ["c", "b"] (fun pre ds _ => ds = (pre.flatMap (rowsA b0 b1 g0 g1)).map rowD) () (by rfl) rgX (by omega) (by omega) (by omega) (by omega) lF' lN' (fun p hp => Nat.ne_of_lt (l1 p hp)) .nil (fun _ h => nomatch h) (by rfl) ?_ ?_
  · (clear lF' lN'); intro c vs ds nn tl pre k t u h tk own hk0 hk1 hsep hne hdat hP kFr kNews
    dsimp only [kstB] at kFr
    have hlen : ds.length ≤ 169 := by rw [hP, List.length_map]; exact rows_len' (by omega) bb0 bb1
    k_steps
    refine Halt.off ?_
    (rename Fr _ _ _ _ => lF'); (rename News _ _ _ _ => lN'); (rename IsRange _ _ _ _ _ _ _ _ => rgX)
    with_unfolding_all refine' bld_range (τ := Int × Nat) tl (fun c => [(Str.ofString "c", .int c.1 c.2)]) [] (fun pre' ds' c' => ds' = ds ++ ((pre'.filter fun b => decide (g0 ≤ k * b ∧ k * b ≤ g1)).map fun b => (k, b, k * b)).map rowD ∧ c'.1 = k * (b0 + (pre'.length : Int))) (k * b0, _) (by rfl) rgX (by omega) (by omega) (by omega) (by omega) lF' lN' hne hdat (by (intro p hp; rw [List.mem_singleton.mp hp]; rfl)) ⟨(List.append_nil _).symm, (by simp)⟩ ?_ ?_
    · (clear lF' lN'); intro c' vs' ds' nn' tl' pre' k' t' u' h' tk' own' hk0' hk1' hsep' hne' hdat' hP' kFr' kNews'
      dsimp only [kstB] at kFr'
      have hlen' : vs'.length ≤ 200 := by
        have := List.length_filter_le (fun b => decide (g0 ≤ k * b ∧ k * b ≤ g1)) pre'
        rw [hdat'.length, hP'.1, List.length_append, List.length_map, List.length_map]; omega
      k_steps
      · (rename News _ _ _ _ => N8); (rename _ < _ ∧ AllLt _ _ => l8)
        refine bld_push (c'.1 + k, _) hsep' (by assumption) N8 l8 hdat' (.cons (.int _ _) (.cons (.int _ _) (.cons (.int _ _) .nil))) (by (intro p hp; rw [List.mem_singleton.mp hp]; rfl)) ?_ (step_yes hP' hk0' (by assumption) (by assumption))
        kst_same
      all_goals
        (rename News _ _ _ _ => N8)
        refine bld_keep (c'.1 + k, _) hsep' (by assumption) N8 hdat' (by (intro p hp; rw [List.mem_singleton.mp hp]; rfl)) ?_ (step_no hP' hk0' (by omega))
        kst_same
    · (clear lF' lN'); intro c' vs' ds' nn' tl' u' h' tk' hoff' hdat' hP' kFr' kNews'
      dsimp only [kstB] at kFr'
      k_steps
      refine bld_more () hsep (by assumption) kNews' hoff' hdat' (fun _ h => nomatch h) ?_ (step_a hP hP'.1)
      kst_same
  · (clear lF' lN'); intro c vs ds nn tl u h tk hoff hdat hP kFr kNews
    dsimp only [kstB] at kFr
    k_steps
    subst hP
    exact hret _ _ _ _ _ _ (by k_asm) (by k_asm) (fun p hp => ⟨Nat.ne_of_lt (l1 p hp), fun q hq => hoff q hq p.1 (.tail _ (List.mem_map.mpr ⟨p, hp, rfl⟩))⟩) hdat
local macro_rules | `(tactic| walk_at "getMethod ref") => `(tactic| (k_here; k_dflt (refine' method_inst ?k1 ?k2 ?k3 ?k4 ?k5 ?k6 ?k7 ?_; (case k1 => k_asm); (case k2 => k_asm); (case k3 => k_inst); (case k4 => k_is); (case k5 => k_is); (case k6 => k_is); (case k7 => assumption); k_whole)))
local macro_rules | `(tactic| walk_at "binaryOp Mult ref int") => `(tactic| (k_here; (with_reducible show wpAny _ _ (binaryOp Operator.Mult (Value.ref _) (Value.int 3 _)) _ _ _); k_dflt (refine' KMa.mul ?F ?N ?l ?lo ?hi ?z ?e ?_; (case F => k_asm); (case N => k_asm); (case l => exact News.isList (by k_asm) (by k_mem)); (case lo => decide); (case hi => decide); (case z => exact Nat.le_of_ble_eq_true rfl); (case e => exact (show (List.replicate (Int.toNat 3) [_]).flatten = [_, _, _] from rfl)); k_whole); intro D' h' F' N' l1; (try k_lt l1)))
theorem told_spec {w : World} {mean : ExcName → Option Value} {mg mb : Str → Option Value} {news : List (Addr × Obj)} {r0 r1 r2 : Addr} {n0 n1 n2 : Nat} {a0 a1 b0 b1 g0 g1 : Int} {t0 t1 t2 t3 t4 t5 : Tok}
    (h0 : (r0, tupO [.int a0 t0, .int a1 t1] n0) ∈ news) (h1 : (r1, tupO [.int b0 t2, .int b1 t3] n1) ∈ news) (h2 : (r2, tupO [.int g0 t4, .int g1 t5] n2) ∈ news) (ha : a0 ≤ a1) (hb : b0 ≤ b1) (ba0 : -6 ≤ a0) (ba1 : a1 ≤ 6) (bb0 : -6 ≤ b0) (bb1 : b1 ≤ 6) (bg0 : -100 ≤ g0) (bg1 : g1 ≤ 100) (hg : g0 ≤ g1) :
    CtxT w mean mg mb 215 [.ref r0, .ref r1, .ref r2] news fun h₀ L m s Q =>
      ∀ h' tk', Fr h₀ L h' m → News h₀ L h' news → Q (.bool true) { s with heap := h', toks := tk' } := by
  unfold CtxT
  k_fill
  w_top off
  intro cn nm ig ic mo a ccd base h₀ L m s Q E B F X N T hret
  k_with_none
  k_with "pyIter ref" => (refine Halt.on ?_)
  k_with "call ref" => (refine Halt.on ?_)
  k_with "call type:enumerate" => (refine Halt.on ?_)
  k_with "CompSrc" => (refine Halt.on ?_)
  k_with "Exists" => exact ⟨_, _, rfl, rfl⟩
  k_with "InvEndN" => (refine Halt.on ?_)
  refine wpAny_call ?_
  k_dflt k_enter
  k_steps
  refine Halt.off ?_
  k_dflt (refine' times_spec  _ _ _ _ _ _ _ _ _ _ _ _ _ _ _ _  ?Bx1 ?Fx1 ?Xx1 ?Nx1 ?Tx1 ?retx1)
  case Fx1 => k_asm
  case Nx1 => k_asm
  case Bx1 => k_asm
  case Xx1 => k_asm
  case Tx1 => k_asm
  intro x d es nd h' tk' kF kN hfx hcb
  k_steps
  refine Halt.off ?_
  k_dflt (refine' table_spec ?p1x2 ?p2x2 ?p3x2 ?q1x2 ?q2x2 ?q3x2 ?q4x2 ?q5x2 ?q6x2 _ _ _ _ _ _ _ _ _ _ _ _ _ _ _ _ _  ?Bx2 ?Fx2 ?Xx2 ?Nx2 ?Tx2 rfl ?dx2 ?ux2 ?retx2)
  case Fx2 => k_asm
  case Nx2 => k_asm
  case Bx2 => k_asm
  case Xx2 => k_asm
  case Tx2 => k_asm
  case p1x2 => k_mem
  case p2x2 => k_mem
  case p3x2 => k_mem
  case q1x2 => exact ha
  case q2x2 => exact hb
  case q3x2 => exact ba0
  case q4x2 => exact ba1
  case q5x2 => exact bb0
  case q6x2 => exact bb1
  case dx2 => ((simp only [depth_deeper, depth_caller]); try decide)
  case ux2 => ((simp only [units_deeper, units_caller, cLine]); try decide)
  intro tl l vs nn h' tk' kF kN hfl hdat
  obtain ⟨led, kN, hl, hx, hd, hn, ht, hne⟩ := regroup kN hfx hfl (fun p hp => Nat.lt_succ_of_lt (by (rename ∀ (p : Addr × Obj), p ∈ news → p.1 < _ => l9); exact l9 p hp))
  replace hdat := DatAll.mono ht hdat
  replace h0 := hn _ h0
  replace h1 := hn _ h1
  replace h2 := hn _ h2
  clear hfx hfl ht
  k_steps
  (rename Fr _ _ _ _ => lF')
  with_unfolding_all refine' For_turns lF' ?_
  k_steps
  refine Halt.off ?_
  (rename News _ _ _ _ => N8)
  obtain ⟨led2, N9, hT, hlt, hD1, hD2, hls, hn2, hne2⟩ := regroup2 N8 hne (by omega) (by omega) (by omega) (by omega) (by omega) (by omega) (by omega)
  replace hdat := DatAll.mono hn2 hdat
  have hvs : vs.toArray.size ≤ sizeLine := by
    have h9 := rows_len' (b0 := b0) (b1 := b1) (g0 := g0) (g1 := g1) (pre := rangeKs a0 (a1 + 1 - a0).toNat) (by rw [rangeKs_length]; omega) bb0 bb1
    rw [List.size_toArray, hdat.length, List.length_map, PySem.sizeLine_eq]
    show (rowsOf a0 a1 b0 b1 g0 g1).length ≤ _
    exact Nat.le_trans h9 (by decide)
  replace h0 := hn2 _ h0
  replace h1 := hn2 _ h1
  replace h2 := hn2 _ h2
  replace hl := hn2 _ hl
  replace hx := hn2 _ hx
  replace hd := hn2 _ hd
  (rename Fr _ _ _ _ => F9)
  (rename (_ : Data) = _ => hcd)
  k_dflt (refine' enum_turns ["spot", "low", "high", "seen", "v", "told"] (by rfl) F9 N9 hT hne2 hcd ?_ ?_)
  · (repeat ((rename Fr _ _ _ _ => zz); clear zz))
    (repeat ((rename News _ _ _ _ => zz); clear zz))
    (repeat ((rename @LT.lt Nat _ _ ∧ _ => zz); clear zz))
    clear hn hn2 hne hne2 hcd
    intro i v hi I T t u co ov oe oi h tk hco hI hcI hneI hTup kF kN
    have hsplit : (i = 0 ∧ v = .ref r0) ∨ (i = 1 ∧ v = .ref r1) ∨ (i = 2 ∧ v = .ref r2) := by
      rcases i with _ | _ | _ | i <;> simp at hi <;> simp [hi]
    rcases hsplit with ⟨rfl, rfl⟩ | ⟨rfl, rfl⟩ | ⟨rfl, rfl⟩
    · replace hTup : IsTup h T #[.int 0 t, .ref r0] := hTup
      k_steps
      refine Halt.off ?_
      (rename News _ _ _ _ => N7); (rename Fr _ _ _ _ => F7)
      refine LCg.CompSrc.ledger (by rfl) (by k_asm) N7 (by k_mem) hvs ?_
      intro g
      refine comp_rows (fun r => r.1) hdat (.inr ⟨_, by k_mem, rfl, _, rfl⟩) ?_ ?_
      · (clear N7 F7); intro row T n t1 t2 t3 ys I oI C oC D m₂ h tk E' hT hC hx F N
        k_steps
      · (clear N7 F7); intro ys hys
        k_steps
        refine Halt.off ?_
        (rename Fr _ _ _ _ => lF'); (rename News _ _ _ _ => lN'); (rename IsRange _ _ _ _ _ _ _ _ => rgX)
        with_unfolding_all refine' srch_range ["told"] (fun _ => True) (by rfl) rgX (by omega) (by omega) (by omega) (by omega) lF' lN' ?_ ?_
        · intro pre k t u h tk own hk0 hk1 hoff kFr kNews
          dsimp only at kFr
          k_steps
          refine Halt.off ?_
          k_dflt (refine' can_be0 ?p1y00 ?p2y00 ?p3y00 ?p4y00 ?q1y00 ?q2y00 ?q3y00 _ _ _ _ _ _ _ _ _ _ _ _ _ _ _ _ _  ?By00 ?Fy00 ?Xy00 ?Ny00 ?Ty00 rfl ?dy00 ?uy00 ?rety00)
          case Fy00 => k_asm
          case Ny00 => k_asm
          case By00 => k_asm
          case Xy00 => k_asm
          case Ty00 => k_asm
          case p1y00 => k_mem
          case p2y00 => k_mem
          case p3y00 => k_mem
          case p4y00 => k_mem
          case q1y00 => omega
          case q2y00 => omega
          case q3y00 => omega
          case dy00 => ((simp only [depth_deeper, depth_caller]); try decide)
          case uy00 => ((simp only [units_deeper, units_caller, cLine]); try decide)
          intro cy00 hcy00 tkcy00 kFy00 kNy00 hsy00
          k_steps
          refine Halt.off ?_
          k_dflt (refine' can_be1 ?p1y01 ?p2y01 ?p3y01 ?p4y01 ?q1y01 ?q2y01 ?q3y01 _ _ _ _ _ _ _ _ _ _ _ _ _ _ _ _ _  ?By01 ?Fy01 ?Xy01 ?Ny01 ?Ty01 rfl ?dy01 ?uy01 ?rety01)
          case Fy01 => k_asm
          case Ny01 => k_asm
          case By01 => k_asm
          case Xy01 => k_asm
          case Ty01 => k_asm
          case p1y01 => k_mem
          case p2y01 => k_mem
          case p3y01 => k_mem
          case p4y01 => k_mem
          case q1y01 => omega
          case q2y01 => omega
          case q3y01 => omega
          case dy01 => ((simp only [depth_deeper, depth_caller]); try decide)
          case uy01 => ((simp only [units_deeper, units_caller, cLine]); try decide)
          intro cy01 hcy01 tkcy01 kFy01 kNy01 hsy01
          k_steps
          refine Halt.off ?_
          k_dflt (refine' can_be0 ?p1y02 ?p2y02 ?p3y02 ?p4y02 ?q1y02 ?q2y02 ?q3y02 _ _ _ _ _ _ _ _ _ _ _ _ _ _ _ _ _  ?By02 ?Fy02 ?Xy02 ?Ny02 ?Ty02 rfl ?dy02 ?uy02 ?rety02)
          case Fy02 => k_asm
          case Ny02 => k_asm
          case By02 => k_asm
          case Xy02 => k_asm
          case Ty02 => k_asm
          case p1y02 => k_mem
          case p2y02 => k_mem
          case p3y02 => k_mem
          case p4y02 => k_mem
          case q1y02 => omega
          case q2y02 => omega
          case q3y02 => omega
          case dy02 => ((simp only [depth_deeper, depth_caller]); try decide)
          case uy02 => ((simp only [units_deeper, units_caller, cLine]); try decide)
          intro cy02 hcy02 tkcy02 kFy02 kNy02 hsy02
          k_steps
          · refine Halt.off ?_
            exact srch_end (by k_asm) (by k_asm) (fun p hp => by k_mem) (by intro z hz1 hz2; simp only [if_neg hz1, if_neg (off_of hz2 _ (.head _)), hz2]; first | done | rfl | simp) (fun _ => trivial)
          · exfalso
            exact told_false (P := Fac b0 b1 g0 g1 k) (by assumption) hsy00 hsy01 (hsy02.trans fac_turn0) (seen0 (by omega) (by omega))
        · intro u h tk hnone kFr kNews
          dsimp only at kFr
          k_steps
          refine enum_end (by k_mem) hI hcI (by k_asm) (by k_asm) (fun p hp => .tail _ hp) (by assumption) ?_
          intro z hz
          have z1 := off_of hz "spot" (.head _)
          have z2 := off_of hz "low" (.tail _ (.head _))
          have z3 := off_of hz "high" (.tail _ (.tail _ (.head _)))
          have z4 := off_of hz "seen" (.tail _ (.tail _ (.tail _ (.head _))))
          have z5 := off_of hz "v" (.tail _ (.tail _ (.tail _ (.tail _ (.head _)))))
          have z6 := off_of hz "told" (.tail _ (.tail _ (.tail _ (.tail _ (.tail _ (.head _))))))
          have z7 : ([Str.ofString "told"] : List Str).contains z = false := by simp [List.contains_cons, z6]
          simp only [if_neg z5, if_neg z4, if_neg z3, if_neg z2, hz, z7, Bool.false_eq_true, if_false]
    · replace hTup : IsTup h T #[.int 1 t, .ref r1] := hTup
      k_steps
      refine Halt.off ?_
      (rename News _ _ _ _ => N7); (rename Fr _ _ _ _ => F7)
      refine LCg.CompSrc.ledger (by rfl) (by k_asm) N7 (by k_mem) hvs ?_
      intro g
      refine comp_rows (fun r => r.2.1) hdat (.inr ⟨_, by k_mem, rfl, _, rfl⟩) ?_ ?_
      · (clear N7 F7); intro row T n t1 t2 t3 ys I oI C oC D m₂ h tk E' hT hC hx F N
        k_steps
      · (clear N7 F7); intro ys hys
        k_steps
        refine Halt.off ?_
        (rename Fr _ _ _ _ => lF'); (rename News _ _ _ _ => lN'); (rename IsRange _ _ _ _ _ _ _ _ => rgX)
        with_unfolding_all refine' srch_range ["told"] (fun _ => True) (by rfl) rgX (by omega) (by omega) (by omega) (by omega) lF' lN' ?_ ?_
        · intro pre k t u h tk own hk0 hk1 hoff kFr kNews
          dsimp only at kFr
          k_steps
          refine Halt.off ?_
          k_dflt (refine' can_be1 ?p1y10 ?p2y10 ?p3y10 ?p4y10 ?q1y10 ?q2y10 ?q3y10 _ _ _ _ _ _ _ _ _ _ _ _ _ _ _ _ _  ?By10 ?Fy10 ?Xy10 ?Ny10 ?Ty10 rfl ?dy10 ?uy10 ?rety10)
          case Fy10 => k_asm
          case Ny10 => k_asm
          case By10 => k_asm
          case Xy10 => k_asm
          case Ty10 => k_asm
          case p1y10 => k_mem
          case p2y10 => k_mem
          case p3y10 => k_mem
          case p4y10 => k_mem
          case q1y10 => omega
          case q2y10 => omega
          case q3y10 => omega
          case dy10 => ((simp only [depth_deeper, depth_caller]); try decide)
          case uy10 => ((simp only [units_deeper, units_caller, cLine]); try decide)
          intro cy10 hcy10 tkcy10 kFy10 kNy10 hsy10
          k_steps
          refine Halt.off ?_
          k_dflt (refine' can_be0 ?p1y11 ?p2y11 ?p3y11 ?p4y11 ?q1y11 ?q2y11 ?q3y11 _ _ _ _ _ _ _ _ _ _ _ _ _ _ _ _ _  ?By11 ?Fy11 ?Xy11 ?Ny11 ?Ty11 rfl ?dy11 ?uy11 ?rety11)
          case Fy11 => k_asm
          case Ny11 => k_asm
          case By11 => k_asm
          case Xy11 => k_asm
          case Ty11 => k_asm
          case p1y11 => k_mem
          case p2y11 => k_mem
          case p3y11 => k_mem
          case p4y11 => k_mem
          case q1y11 => omega
          case q2y11 => omega
          case q3y11 => omega
          case dy11 => ((simp only [depth_deeper, depth_caller]); try decide)
          case uy11 => ((simp only [units_deeper, units_caller, cLine]); try decide)
          intro cy11 hcy11 tkcy11 kFy11 kNy11 hsy11
          k_steps
          refine Halt.off ?_
          k_dflt (refine' can_be1 ?p1y12 ?p2y12 ?p3y12 ?p4y12 ?q1y12 ?q2y12 ?q3y12 _ _ _ _ _ _ _ _ _ _ _ _ _ _ _ _ _  ?By12 ?Fy12 ?Xy12 ?Ny12 ?Ty12 rfl ?dy12 ?uy12 ?rety12)
          case Fy12 => k_asm
          case Ny12 => k_asm
          case By12 => k_asm
          case Xy12 => k_asm
          case Ty12 => k_asm
          case p1y12 => k_mem
          case p2y12 => k_mem
          case p3y12 => k_mem
          case p4y12 => k_mem
          case q1y12 => omega
          case q2y12 => omega
          case q3y12 => omega
          case dy12 => ((simp only [depth_deeper, depth_caller]); try decide)
          case uy12 => ((simp only [units_deeper, units_caller, cLine]); try decide)
          intro cy12 hcy12 tkcy12 kFy12 kNy12 hsy12
          k_steps
          · refine Halt.off ?_
            exact srch_end (by k_asm) (by k_asm) (fun p hp => by k_mem) (by intro z hz1 hz2; simp only [if_neg hz1, if_neg (off_of hz2 _ (.head _)), hz2]; first | done | rfl | simp) (fun _ => trivial)
          · exfalso
            exact told_false (P := Fac a0 a1 g0 g1 k) (by assumption) hsy10 hsy11 (hsy12.trans fac_turn1) (seen1 (by omega) (by omega))
        · intro u h tk hnone kFr kNews
          dsimp only at kFr
          k_steps
          refine enum_end (by k_mem) hI hcI (by k_asm) (by k_asm) (fun p hp => .tail _ hp) (by assumption) ?_
          intro z hz
          have z1 := off_of hz "spot" (.head _)
          have z2 := off_of hz "low" (.tail _ (.head _))
          have z3 := off_of hz "high" (.tail _ (.tail _ (.head _)))
          have z4 := off_of hz "seen" (.tail _ (.tail _ (.tail _ (.head _))))
          have z5 := off_of hz "v" (.tail _ (.tail _ (.tail _ (.tail _ (.head _)))))
          have z6 := off_of hz "told" (.tail _ (.tail _ (.tail _ (.tail _ (.tail _ (.head _))))))
          have z7 : ([Str.ofString "told"] : List Str).contains z = false := by simp [List.contains_cons, z6]
          simp only [if_neg z5, if_neg z4, if_neg z3, if_neg z2, hz, z7, Bool.false_eq_true, if_false]
    · replace hTup : IsTup h T #[.int 2 t, .ref r2] := hTup
      k_steps
      refine Halt.off ?_
      (rename News _ _ _ _ => N7); (rename Fr _ _ _ _ => F7)
      refine LCg.CompSrc.ledger (by rfl) (by k_asm) N7 (by k_mem) hvs ?_
      intro g
      refine comp_rows (fun r => r.2.2) hdat (.inr ⟨_, by k_mem, rfl, _, rfl⟩) ?_ ?_
      · (clear N7 F7); intro row T n t1 t2 t3 ys I oI C oC D m₂ h tk E' hT hC hx F N
        k_steps
      · (clear N7 F7); intro ys hys
        k_steps
        refine Halt.off ?_
        (rename Fr _ _ _ _ => lF'); (rename News _ _ _ _ => lN'); (rename IsRange _ _ _ _ _ _ _ _ => rgX)
        with_unfolding_all refine' srch_range ["told"] (fun _ => True) (by rfl) rgX (by omega) (by omega) (by omega) (by omega) lF' lN' ?_ ?_
        · intro pre k t u h tk own hk0 hk1 hoff kFr kNews
          dsimp only at kFr
          k_steps
          refine Halt.off ?_
          k_dflt (refine' can_be2 ?p1y20 ?p2y20 ?p3y20 ?q1y20 ?q2y20 ?q3y20 ?q4y20 ?q5y20 ?q6y20 _ _ _ _ _ _ _ _ _ _ _ _ _ _ _ _ _  ?By20 ?Fy20 ?Xy20 ?Ny20 ?Ty20 rfl ?dy20 ?uy20 ?rety20)
          case Fy20 => k_asm
          case Ny20 => k_asm
          case By20 => k_asm
          case Xy20 => k_asm
          case Ty20 => k_asm
          case p1y20 => k_mem
          case p2y20 => k_mem
          case p3y20 => k_mem
          case q1y20 => omega
          case q2y20 => omega
          case q3y20 => omega
          case q4y20 => omega
          case q5y20 => omega
          case q6y20 => omega
          case dy20 => ((simp only [depth_deeper, depth_caller]); try decide)
          case uy20 => ((simp only [units_deeper, units_caller, cLine]); try decide)
          intro cy20 hcy20 tkcy20 kFy20 kNy20 hsy20
          k_steps
          refine Halt.off ?_
          k_dflt (refine' can_be2 ?p1y21 ?p2y21 ?p3y21 ?q1y21 ?q2y21 ?q3y21 ?q4y21 ?q5y21 ?q6y21 _ _ _ _ _ _ _ _ _ _ _ _ _ _ _ _ _  ?By21 ?Fy21 ?Xy21 ?Ny21 ?Ty21 rfl ?dy21 ?uy21 ?rety21)
          case Fy21 => k_asm
          case Ny21 => k_asm
          case By21 => k_asm
          case Xy21 => k_asm
          case Ty21 => k_asm
          case p1y21 => k_mem
          case p2y21 => k_mem
          case p3y21 => k_mem
          case q1y21 => omega
          case q2y21 => omega
          case q3y21 => omega
          case q4y21 => omega
          case q5y21 => omega
          case q6y21 => omega
          case dy21 => ((simp only [depth_deeper, depth_caller]); try decide)
          case uy21 => ((simp only [units_deeper, units_caller, cLine]); try decide)
          intro cy21 hcy21 tkcy21 kFy21 kNy21 hsy21
          k_steps
          refine Halt.off ?_
          k_dflt (refine' can_be2 ?p1y22 ?p2y22 ?p3y22 ?q1y22 ?q2y22 ?q3y22 ?q4y22 ?q5y22 ?q6y22 _ _ _ _ _ _ _ _ _ _ _ _ _ _ _ _ _  ?By22 ?Fy22 ?Xy22 ?Ny22 ?Ty22 rfl ?dy22 ?uy22 ?rety22)
          case Fy22 => k_asm
          case Ny22 => k_asm
          case By22 => k_asm
          case Xy22 => k_asm
          case Ty22 => k_asm
          case p1y22 => k_mem
          case p2y22 => k_mem
          case p3y22 => k_mem
          case q1y22 => omega
          case q2y22 => omega
          case q3y22 => omega
          case q4y22 => omega
          case q5y22 => omega
          case q6y22 => omega
          case dy22 => ((simp only [depth_deeper, depth_caller]); try decide)
          case uy22 => ((simp only [units_deeper, units_caller, cLine]); try decide)
          intro cy22 hcy22 tkcy22 kFy22 kNy22 hsy22
          k_steps
          · refine Halt.off ?_
            exact srch_end (by k_asm) (by k_asm) (fun p hp => by k_mem) (by intro z hz1 hz2; simp only [if_neg hz1, if_neg (off_of hz2 _ (.head _)), hz2]; first | done | rfl | simp) (fun _ => trivial)
          · exfalso
            exact told_false (P := Prd a0 a1 b0 b1 k) (by assumption) hsy20 (hsy21.trans prd_swap) (hsy22.trans prd_turn) (seen2 (by omega) (by omega))
        · intro u h tk hnone kFr kNews
          dsimp only at kFr
          k_steps
          refine enum_end (by k_mem) hI hcI (by k_asm) (by k_asm) (fun p hp => .tail _ hp) (by assumption) ?_
          intro z hz
          have z1 := off_of hz "spot" (.head _)
          have z2 := off_of hz "low" (.tail _ (.head _))
          have z3 := off_of hz "high" (.tail _ (.tail _ (.head _)))
          have z4 := off_of hz "seen" (.tail _ (.tail _ (.tail _ (.head _))))
          have z5 := off_of hz "v" (.tail _ (.tail _ (.tail _ (.tail _ (.head _)))))
          have z6 := off_of hz "told" (.tail _ (.tail _ (.tail _ (.tail _ (.tail _ (.head _))))))
          have z7 : ([Str.ofString "told"] : List Str).contains z = false := by simp [List.contains_cons, z6]
          simp only [if_neg z5, if_neg z4, if_neg z3, if_neg z2, hz, z7, Bool.false_eq_true, if_false]
  · intro u co ov h tk hco kF kN
    k_steps
    exact hret _ _ (by k_asm) (cb_drop (by assumption) (fun p hp => .tail _ (hn2 _ (hn _ hp))))
theorem between_spec {w : World} {mean : ExcName → Option Value} {mg mb : Str → Option Value} {led : List (Addr × Obj)} {l : Addr} {n k : Int} {tn tkk : Tok} {nn : Nat} (hk0 : 0 ≤ k) (hk1 : k ≤ 100) (hne : ∀ p ∈ led, p.1 ≠ l) :
    CtxT w mean mg mb 203 [.ref l] ((l, bagO n tn k tkk nn) :: led) fun h₀ L m s Q =>
      ∀ T p q t1 t2 n' tn' tk' nn' h' tks, Fr h₀ L h' m → News h₀ L h' ((l, bagO n' tn' (k + 1 + 1) tk' nn') :: (T, tupO [.int p t1, .int q t2] 0) :: led) → T ≠ l → p ≤ q → -6 ≤ p → q ≤ 6 → Q (.ref T) { s with heap := h', toks := tks } := by
  unfold CtxT
  k_fill
  w_top off
  intro cn nm ig ic mo a ccd base h₀ L m s Q E B F X N T hret
  k_with_none
  refine wpAny_call ?_
  k_dflt k_enter
  k_steps
  (rename News _ _ _ _ => N9)
  exact hret _ _ _ _ _ _ _ _ _ _ _ (by k_asm) (btw_news N9) (btw_ne (by assumption)) (by assumption) (bd6 (by assumption)).1 (bd6 (by assumption)).2
end Mine
set_option maxRecDepth 100000 in
set_option maxHeartbeats 8000000 in
theorem PySem.Challenge.cw_ok0087_01_holds : PySem.Challenge.rw_ok0087_01.Holds := by
  k_with_none
  k_with "pyIter ref" => ((with_reducible show wpAny _ _ (pyIter (Value.ref _)) (fun it s₂ => LoopAtV _ _ _ _ _ _ _ _ _ it s₂) _ _); (rename IsRange _ _ _ _ _ _ _ _ => rgX); refine Halt.on ?_)
  k_with "pyIter ref" => k_state (fun _ n => 0 ≤ n) "number"
  k_with "state" => exact num_step (by assumption)
  k_with "call ref" => ((with_reducible show wpAny _ _ (call (Value.ref 203) _) _ _ _); refine Halt.on ?_)
  k_with "call ref" => ((with_reducible show wpAny _ _ (call (Value.ref 215) _) _ _ _); refine Halt.on ?_)
  refine Mine.hd ?_
  k_go0
  (all_goals try k_fold)
  k_steps
  refine Halt.off ?_
  (rename Fr _ _ _ _ => lF'); (rename News _ _ _ _ => lN'); (rename IsRange _ _ _ _ _ _ _ _ => rgX)
  with_unfolding_all refine' lap_range ["one", "other", "middle", "reach"] (by rfl) rgX (by decide) (by decide) lF' lN' (by k_all) ?_ ?_
  · intro pre i t u h tk own n tn k tkk nn hk0 hk1 hlen hne kFr kNews
    (try dsimp only at kFr)
    k_steps
    refine Halt.off ?_
    k_dflt (refine' between_spec ?p1z1 ?p2z1 ?p3z1 _ _ _ _ _ _ _ _ _ _ _ _ _ _  ?Bz1 ?Fz1 ?Xz1 ?Nz1 ?Tz1 ?retz1)
    case Fz1 => k_asm
    case Nz1 => k_asm
    case Bz1 => k_asm
    case Xz1 => k_asm
    case Tz1 => k_asm
    case p1z1 => omega
    case p2z1 => omega
    case p3z1 => exact hne
    intro Tz1 pz1 qz1 t1z1 t2z1 nz1 tnz1 tkz1 nnz1 hz1 tksz1 kFz1 kNz1 hTz1 hpqz1 hpz1 hqz1
    k_steps
    refine Halt.off ?_
    k_dflt (refine' between_spec ?p1z2 ?p2z2 ?p3z2 _ _ _ _ _ _ _ _ _ _ _ _ _ _  ?Bz2 ?Fz2 ?Xz2 ?Nz2 ?Tz2 ?retz2)
    case Fz2 => k_asm
    case Nz2 => k_asm
    case Bz2 => k_asm
    case Xz2 => k_asm
    case Tz2 => k_asm
    case p1z2 => omega
    case p2z2 => omega
    case p3z2 => exact List.forall_mem_cons.mpr ⟨hTz1, hne⟩
    intro Tz2 pz2 qz2 t1z2 t2z2 nz2 tnz2 tkz2 nnz2 hz2 tksz2 kFz2 kNz2 hTz2 hpqz2 hpz2 hqz2
    have hne3 : ∀ p ∈ (Tz2, tupO [.int pz2 t1z2, .int qz2 t2z2] 0) :: (Tz1, tupO [.int pz1 t1z1, .int qz1 t2z1] 0) :: (_ ++ own), p.1 ≠ _ := List.forall_mem_cons.mpr ⟨hTz2, List.forall_mem_cons.mpr ⟨hTz1, hne⟩⟩
    k_steps
    refine Halt.off ?_
    k_dflt (refine' told_spec ?p1z3 ?p2z3 ?p3z3 ?q1z3 ?q2z3 ?q3z3 ?q4z3 ?q5z3 ?q6z3 ?q7z3 ?q8z3 ?q9z3 _ _ _ _ _ _ _ _ _ _ _ _ _ _  ?Bz3 ?Fz3 ?Xz3 ?Nz3 ?Tz3 ?retz3)
    case Fz3 => k_asm
    case Nz3 => k_asm
    case Bz3 => k_asm
    case Xz3 => k_asm
    case Tz3 => k_asm
    case p1z3 => k_mem
    case p2z3 => k_mem
    case p3z3 => k_mem
    case q1z3 => exact hpqz1
    case q2z3 => exact hpqz2
    case q3z3 => exact hpz1
    case q4z3 => exact hqz1
    case q5z3 => exact hpz2
    case q6z3 => exact hqz2
    case q7z3 => exact bdg0
    case q8z3 => exact bdg1
    case q9z3 => exact bdg
    intro hz3 tkz3 kFz3 kNz3
    k_steps
    exact lap_end (by k_asm) (by k_asm) (by k_mem) (fun p hp => by k_mem) (fun z hz1 hz2 => by (have z1 := off_of hz2 "one" (.head _)); (have z2 := off_of hz2 "other" (.tail _ (.head _))); (have z3 := off_of hz2 "middle" (.tail _ (.tail _ (.head _)))); (have z4 := off_of hz2 "reach" (.tail _ (.tail _ (.tail _ (.head _))))); simp only [if_neg z1, if_neg z2, if_neg z3, if_neg z4, if_neg hz1, hz2, Bool.false_eq_true, if_false]) (by omega) (by (simp only [List.length_append, List.length_cons, List.length_nil]; omega))
  · intro u h tk nws kFr kNews
    k_steps
end
