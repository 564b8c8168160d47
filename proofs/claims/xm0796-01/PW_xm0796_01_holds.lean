import PyProof.Rows.All
import Wide.All
import OpenK.AllK
import Wide.FinOn
import PySem.Challenge.RW_xm0796_01
set_option Elab.async false

section PartPL
open PySem.W
namespace Mine
def lvl (i l m : Int) : Int := Int.fdiv (i * m + Int.fdiv (l - 1) 2) (l - 1)
def absI (x : Int) : Int := if x < 0 then -x else x
def stepN (v l m b i : Int) : Int := if absI (lvl i l m - v) < absI (lvl b l m - v) then i else b
def nearF (v l m : Int) : Int := (rangeKs 1 (l - 1).toNat).foldl (stepN v l m) 0
def dueS (l m : Int) : List Int := List.map (fun k' => (2 * k' * m + l - 1).fdiv (2 * l - 2)) (rangeKs 0 (l - 0).toNat)
def dueF (v l m : Int) : Int := (List.countP (fun p : Int × Int => decide (p.fst + p.snd < 2 * v)) ((dueS l m).zip (List.drop 1 (dueS l m))) : Nat)

theorem due_lvl {k l m : Int} (hl : 2 ≤ l) : (2 * k * m + l - 1).fdiv (2 * l - 2) = lvl k l m := by
  unfold lvl
  rw [Int.fdiv_eq_ediv_of_nonneg _ (by omega), Int.fdiv_eq_ediv_of_nonneg _ (by omega), Int.fdiv_eq_ediv_of_nonneg _ (by omega)]
  rw [show 2 * l - 2 = 2 * (l - 1) by omega, ← Int.ediv_ediv_of_nonneg (by omega)]
  congr 1
  rw [show 2 * k * m + l - 1 = (l - 1) + 2 * (k * m) by rw [Int.mul_assoc]; omega]
  rw [Int.add_mul_ediv_left _ _ (by omega)]
  omega

theorem lvl_succ {k l m : Int} (hl : 2 ≤ l) (hm : l ≤ m + 1) : lvl k l m + 1 ≤ lvl (k + 1) l m := by
  unfold lvl
  rw [Int.fdiv_eq_ediv_of_nonneg _ (by omega), Int.fdiv_eq_ediv_of_nonneg _ (by omega), Int.fdiv_eq_ediv_of_nonneg _ (by omega)]
  have e : (k * m + (l - 1) / 2) / (l - 1) + 1 = (k * m + (l - 1) / 2 + (l - 1) * 1) / (l - 1) := by
    rw [Int.add_mul_ediv_left _ _ (by omega)]
  rw [e]
  refine Int.ediv_le_ediv (by omega) ?_
  rw [Int.add_mul]
  omega

theorem mono_of {f : Nat → Int} (h : ∀ i, f i + 1 ≤ f (i + 1)) {i j : Nat} (hij : i ≤ j) : f i ≤ f j := by
  induction hij with
  | refl => exact Int.le_refl _
  | step _ ih => rename_i j _; have := h j; show f i ≤ f (j + 1); omega

/-- the nearest one, taken in order, is as many as there are middles below the value -/
theorem near_count {f : Nat → Int} (h : ∀ i, f i + 1 ≤ f (i + 1)) (v : Int) (n : Nat) :
    ∃ c : Nat, (List.range n).countP (fun i => decide (f i + f (i + 1) < 2 * v)) = c ∧
      (List.range n).foldl (fun (b : Nat) (i : Nat) => if absI (f (1 + i) - v) < absI (f b - v) then 1 + i else b) 0 = c ∧ c ≤ n ∧ (c < n → ¬ f c + f (c + 1) < 2 * v) := by
  induction n with
  | zero => exact ⟨0, rfl, rfl, Nat.le_refl _, fun h => absurd h (Nat.lt_irrefl _)⟩
  | succ n ih =>
    obtain ⟨c, e1, e2, hc, hn⟩ := ih
    rw [List.range_succ, List.countP_append, List.foldl_append, e1, e2]
    simp only [List.foldl_cons, List.foldl_nil, List.countP_cons, List.countP_nil, Nat.zero_add, decide_eq_true_eq]
    by_cases hlt : c < n
    · have hn' := hn hlt
      have m1 := mono_of h (Nat.le_of_lt hlt)
      have m2 := mono_of h (Nat.succ_le_succ (Nat.le_of_lt hlt))
      have s1 := h c
      have m3 : f (c + 1) ≤ f (1 + n) := by rw [Nat.add_comm 1 n]; exact m2
      rw [if_neg (by simp only [Nat.succ_eq_add_one] at m2; omega)]
      refine ⟨c, rfl, ?_, Nat.le_succ_of_le hc, fun _ => hn'⟩
      rw [if_neg]
      unfold absI
      split <;> split <;> omega
    · have : c = n := Nat.le_antisymm hc (Nat.not_lt.mp hlt)
      subst this
      have s1 := h c
      rw [Nat.add_comm 1 c]
      by_cases hp : f c + f (c + 1) < 2 * v
      · rw [if_pos hp]
        refine ⟨c + 1, rfl, ?_, Nat.le_refl _, fun h => absurd h (Nat.lt_irrefl _)⟩
        rw [if_pos]
        unfold absI
        split <;> split <;> omega
      · rw [if_neg hp]
        refine ⟨c, rfl, ?_, Nat.le_succ _, fun _ => hp⟩
        rw [if_neg]
        unfold absI
        split <;> split <;> omega

theorem zip_tail {f : Nat → Int} (n : Nat) : ((List.range (n + 1)).map f).zip (((List.range (n + 1)).map f).drop 1) = (List.range n).map fun i => (f i, f (i + 1)) := by
  apply List.ext_getElem
  · simp
  · intro i h1 h2
    simp

theorem near_due {v l m : Int} (hl : 2 ≤ l) (hm : l ≤ m + 1) : nearF v l m = dueF v l m := by
  obtain ⟨c, e1, e2, _, _⟩ := near_count (f := fun i => lvl (i : Int) l m) (fun i => by simpa using lvl_succ (k := (i : Int)) hl hm) v (l - 1).toNat
  have hs : dueS l m = (List.range ((l - 1).toNat + 1)).map fun (i : Nat) => lvl (i : Int) l m := by
    unfold dueS rangeKs
    rw [List.map_map, show (l - 0).toNat = (l - 1).toNat + 1 by omega]
    refine List.map_congr_left fun i _ => ?_
    simp only [Function.comp]
    rw [due_lvl hl, Int.zero_add]
  have h2 : dueF v l m = c := by
    unfold dueF
    rw [hs, zip_tail, List.countP_map]
    exact congrArg _ e1
  rw [h2, ← e2]
  unfold nearF rangeKs
  rw [List.foldl_map]
  suffices H : ∀ (L : List Nat) (b : Nat), L.foldl (fun (x : Int) (y : Nat) => stepN v l m x (1 + (y : Int))) (b : Int) = ((L.foldl (fun (b : Nat) (i : Nat) => if absI (lvl ((1 + i : Nat) : Int) l m - v) < absI (lvl (b : Int) l m - v) then 1 + i else b) b : Nat) : Int) from H _ 0
  intro L
  induction L with
  | nil => intro b; rfl
  | cons y r ih =>
    intro b
    rw [List.foldl_cons, List.foldl_cons, ← ih]
    congr 1
    unfold stepN
    rw [show ((1 + y : Nat) : Int) = 1 + (y : Int) by omega]
    split <;> simp
end Mine
end PartPL

section PartZC
open PySem PySem.W PyProof.Rows PySem.Calls PySem.Spec PyProof.Rows.LCg
namespace Mine

abbrev ZSt (z TI TO i1 i2 l1 l2 : Addr) (xs ys : Array Value) (i : Nat) (h : Heap) : Prop :=
  IsZip h z TI TO .none ∧ IsPair h TI (.ref i1) (.ref i2) ∧ (∃ a b, IsPair h TO a b) ∧ h.IsListIter i1 l1 i ∧ h.IsListIter i2 l2 i ∧ h.IsList l1 xs ∧ h.IsList l2 ys

/-- the comprehension's test and element, at one pair of ints, change nothing -/
def ZcTurn (prog : Program) (w : World) (A : Around) (h₀ : Heap) (L : Addr) (m : Str → Option Value) (env : Env) (c elt : PySem.Expr) (a b : Str) (scope : Scope) (cl : List (Str × Addr)) (news : List (Addr × Obj)) (s₁ : Shared) (T : Int → Int → Bool) : Prop :=
  ∀ (x y : Int) (tx ty : Tok) (C : Addr) (oC : Obj) (m₂ : Str → Option Value) (h : Heap) (tk : Nat) (E' : Value → Shared → Prop), NsObj oC m₂ → m₂ a = some (.int x tx) → m₂ b = some (.int y ty) → Fr h₀ L h m → News h₀ L h ((C, oC) :: news) →
    wpAny (model prog w) A (isTrue c (compEnvC scope cl C env) (eval c (compEnvC scope cl C env))) (fun ok s₃ => ok = T x y ∧ ∃ tk', s₃ = { s₁ with heap := h, toks := tk' }) E' { s₁ with heap := h, toks := tk }
    ∧ wpAny (model prog w) A (eval elt (compEnvC scope cl C env)) (fun v s₃ => (∃ t, v = .int 1 t) ∧ ∃ tk', s₃ = { s₁ with heap := h, toks := tk' }) E' { s₁ with heap := h, toks := tk }

def ZcSrc (prog : Program) (w : World) (A : Around) (h₀ : Heap) (L : Addr) (m : Str → Option Value) (env : Env) (c elt : PySem.Expr) (a b : Str) (scope : Scope) (cl : List (Str × Addr)) (Q : Value → Shared → Prop) (xv : Value) (s₁ : Shared) : Prop :=
  ∃ (z TI TO i1 i2 l1 l2 : Addr) (xs ys : List Value) (as bs : List Int) (news : List (Addr × Obj)) (T : Int → Int → Bool), xv = .ref z ∧ A.handled = none ∧ ZipApart z TI TO i1 i2 l1 l2 ∧ ZSt z TI TO i1 i2 l1 l2 xs.toArray ys.toArray 0 s₁.heap ∧
    IntsAre xs as ∧ IntsAre ys bs ∧ Fr h₀ L s₁.heap m ∧ News h₀ L s₁.heap news ∧ (∀ q ∈ [z, TO, i1, i2], L ≠ q ∧ h₀.get? q = none ∧ ∀ p ∈ news, p.1 ≠ q) ∧ as.length ≤ sizeLine ∧
    ZcTurn prog w A h₀ L m env c elt a b scope cl news s₁ T ∧
    (∀ D h tk ks, Fr h₀ L h m → News h₀ L h ((D, lst ks) :: news) → (∀ p ∈ news, p.1 < D) → IntsAre ks (List.replicate ((as.zip bs).countP fun p => T p.1 p.2) 1) → Q (.ref D) { s₁ with heap := h, toks := tk })

section
variable {prog : Program} {w : World} {A : Around} {E : Value → Shared → Prop} {s : Shared} {h₀ : Heap} {L : Addr} {m : Str → Option Value} {env : Env}

theorem cnt_succ {T : Int → Int → Bool} {l : List (Int × Int)} {i : Nat} {x y : Int} (e : l[i]? = some (x, y)) :
    (l.take (i + 1)).countP (fun p => T p.1 p.2) = (l.take i).countP (fun p => T p.1 p.2) + if T x y = true then 1 else 0 := by
  rw [List.take_add_one, e, List.countP_append]
  simp [List.countP_cons]

theorem zc_ListComp {elt iter c : PySem.Expr} {a b : Str} {pa pb tp : Pos} {kk : Nat} {scope : Scope} {cl : List (Str × Addr)} {pos : Pos} {Q : Value → Shared → Prop}
    (_F₀ : Fr h₀ L s.heap m) (hclos : closureFor scope env = pure cl) (hcell : ∀ y ∈ scope.names, y.2 ≠ .cell) (hkind : scope.kind = .function)
    (hnames : ∀ y ∈ scope.names, y.2 = .local → scope.names.lookup y.1 = some .local) (hxa : scope.names.lookup a = some .local) (hxb : scope.names.lookup b = some .local) (hab : ¬ a = b)
    (h : wpAny (model prog w) A (eval iter env) (ZcSrc prog w A h₀ L m env c elt a b scope cl Q) E s)
    (hs : ∀ x, foldedSetIterable iter env x = pure x := by intro _; rfl) :
    wpAny (model prog w) A (eval (.ListComp elt [⟨.Tuple [.Name a pa, .Name b pb] kk tp, iter, [c], 0⟩] scope pos) env) Q E s := by
  rw [eval_ListComp]
  refine wpAny_comprehension_free (use := none) rfl hs hclos hkind hnames (wpAny_mono h (fun xv s₁ h₁ => ?_) fun _ _ e => e)
  obtain ⟨z, TI, TO, i1, i2, l1, l2, xs, ys, as, bs, news, T, rfl, hh, D, st, hA, hB, F, N, fr, hsz, turn, fin⟩ := h₁
  have W := (WalksT.zip2 (prog := prog) (w := w) hh z TI TO i1 i2 l1 l2 D xs.toArray ys.toArray).toU
  refine W.self 0 _ _ _ st ?_
  refine wpAny_newObj_type (wpAny_newFunctionEnv hcell (by intro y hy; simp at hy) (fun h₁ hns₁ hsb₁ => ?_) hkind)
  dsimp only at hns₁ hsb₁ ⊢
  generalize hH2 : s₁.heap.push { cls := .type "list", dict := none, data := .seq ([] : List Value).toArray } = H2 at hns₁ hsb₁ ⊢
  have hC : H2.objs.size = s₁.heap.objs.size + 1 := by rw [← hH2, Heap.size_push]
  have hDC : s₁.heap.objs.size ≠ H2.objs.size := by rw [hC]; exact Nat.ne_of_lt (Nat.lt_succ_self _)
  have below : ∀ b, b < s₁.heap.objs.size → b ≠ H2.objs.size ∧ b ≠ s₁.heap.objs.size := fun b hb => ⟨by rw [hC]; exact Nat.ne_of_lt (Nat.lt_succ_of_lt hb), Nat.ne_of_lt hb⟩
  have old : ∀ b o, s₁.heap.get? b = some o → h₁.get? b = some o := fun b o e => hsb₁.extBut b o (below b (Heap.lt_size e)).1 (Heap.get?_push_of_some _ (hH2 ▸ Heap.get?_push_of_some _ e))
  have hacc : h₁.get? s₁.heap.objs.size = some (lst []) := hsb₁.extBut _ _ hDC (Heap.get?_push_of_some _ (hH2 ▸ Heap.get?_push_size _ rfl))
  have fresh₀ : ∀ a, s₁.heap.objs.size ≤ a → h₀.get? a = none := fun a ha => by
    cases e : h₀.get? a with
    | none => rfl
    | some o' => exact absurd (Heap.lt_size (F.keep a o' e)) (Nat.not_lt.mpr ha)
  have hD₀ : h₀.get? s₁.heap.objs.size = none := fresh₀ _ (Nat.le_refl _)
  have hC₀ : h₀.get? H2.objs.size = none := fresh₀ _ (by rw [hC]; exact Nat.le_succ _)
  have hLlt : L < s₁.heap.objs.size := F.ns.lt
  have hDL : s₁.heap.objs.size ≠ L := Ne.symm (below L hLlt).2
  have hCL : H2.objs.size ≠ L := Ne.symm (below L hLlt).1
  obtain ⟨stz, stTI, ⟨ta, tb, stTO⟩, st1, st2, stl1, stl2⟩ := st
  have ltz : z < s₁.heap.objs.size := Heap.lt_size stz
  have ltTI : TI < s₁.heap.objs.size := Heap.lt_size stTI
  have ltTO : TO < s₁.heap.objs.size := Heap.lt_size stTO
  have lt1 : i1 < s₁.heap.objs.size := by obtain ⟨_, e, _⟩ := st1; exact Heap.lt_size e
  have lt2 : i2 < s₁.heap.objs.size := by obtain ⟨_, e, _⟩ := st2; exact Heap.lt_size e
  have ltl1 : l1 < s₁.heap.objs.size := by obtain ⟨_, e, _⟩ := stl1; exact Heap.lt_size e
  have ltl2 : l2 < s₁.heap.objs.size := by obtain ⟨_, e, _⟩ := stl2; exact Heap.lt_size e
  have hfp : ∀ b ∈ [z, TI, TO, i1, i2, l1, l2], b < s₁.heap.objs.size := by
    intro b hb
    simp only [List.mem_cons, List.not_mem_nil, or_false] at hb
    rcases hb with rfl | rfl | rfl | rfl | rfl | rfl | rfl <;> assumption
  have hwr : ∀ b ∈ [z, TO, i1, i2], b < s₁.heap.objs.size := fun b hb => hfp b (W.sub b hb)
  have hCw : H2.objs.size ∉ [z, TO, i1, i2] := fun hm => by have := hwr _ hm; rw [hC] at this; exact Nat.lt_irrefl _ (Nat.lt_of_succ_lt this)
  have hDw : s₁.heap.objs.size ∉ [z, TO, i1, i2] := fun hm => Nat.lt_irrefl _ (hwr _ hm)
  have st₁ : ZSt z TI TO i1 i2 l1 l2 xs.toArray ys.toArray 0 h₁ := W.frame 0 _ _ ⟨stz, stTI, ⟨ta, tb, stTO⟩, st1, st2, stl1, stl2⟩ fun b _ o e => old b o e
  -- from what is kept: the frame and the ledger
  have frOf : ∀ h' : Heap, (∀ b o, b ∉ [z, TO, i1, i2] → s₁.heap.get? b = some o → h'.get? b = some o) → Fr h₀ L h' m := fun h' hk =>
    ⟨F.ns.at' fun o e => hk L o (fun hm => (fr L hm).1 rfl) e, fun b o e => hk b o (fun hm => by rw [(fr b hm).2.1] at e; cases e) (F.keep b o e), F.above⟩
  have newsOf : ∀ h' : Heap, (∀ b o, b ∉ [z, TO, i1, i2] → s₁.heap.get? b = some o → h'.get? b = some o) → News h₀ L h' news := fun h' hk p hp =>
    ⟨hk _ _ (fun hm => (fr p.1 hm).2.2 p hp rfl) (N p hp).1, (N p hp).2⟩
  have hlen : (as.zip bs).length = min xs.toArray.size ys.toArray.size := by simp [hA.length, hB.length]
  have loop : ∀ s₃ : Shared, s₃ = { s₁ with heap := h₁, toks := s₁.toks + ([] : List (Str × Value)).length } →
      codeAny (model prog w) A (.compLoop (.ListComp elt [⟨.Tuple [.Name a pa, .Name b pb] kk tp, iter, [c], 0⟩] scope pos) 0 (.ref z) (.ref s₁.heap.objs.size) (compEnvC scope cl H2.objs.size env))
        (compPost (model prog w) A E none Q (.ref s₁.heap.objs.size) H2.objs.size) s₃ := by
    rintro s₃ rfl
    refine kct_loop
      (fun k s' => ∃ h' tk i ks m', s' = { s₁ with heap := h', toks := tk } ∧ i ≤ min xs.toArray.size ys.toArray.size ∧ k = min xs.toArray.size ys.toArray.size + 1 - i ∧ ZSt z TI TO i1 i2 l1 l2 xs.toArray ys.toArray i h' ∧ h'.Ns H2.objs.size m' ∧
        h'.get? s₁.heap.objs.size = some (lst ks) ∧ IntsAre ks (List.replicate (((as.zip bs).take i).countP fun p => T p.1 p.2) 1) ∧ (∀ b o, b ∉ [z, TO, i1, i2] → s₁.heap.get? b = some o → h'.get? b = some o)) ?_ (min xs.toArray.size ys.toArray.size + 1)
      ⟨h₁, _, 0, [], _, rfl, Nat.zero_le _, rfl, st₁, hns₁, hacc, .nil, fun b o _ e => old b o e⟩
    rintro k s' ⟨h', tk, i, ks, m', rfl, hi, rfl, hst', hn', hD', hks, hkp⟩
    by_cases hlt : i < min xs.toArray.size ys.toArray.size
    · refine W.item i _ _ _ hlt hst' fun v vals h₂ tk₂ hPv hT hMd hk₂ => ?_
      refine W.go [.Name a pa, .Name b pb] kk tp i v _ _ _ hMd fun h₃ hst₃ hk₃ => ?_
      obtain ⟨x, y, hx, hy, rfl⟩ := hPv
      have hx' : xs[i]? = some x := by simpa using hx
      have hy' : ys[i]? = some y := by simpa using hy
      obtain ⟨nx, tx, rfl, hax⟩ := hA.at i x hx'
      obtain ⟨ny, ty, rfl, hby⟩ := hB.at i y hy'
      have hzip : (as.zip bs)[i]? = some (nx, ny) := by simp [List.getElem?_zip_eq_some, hax, hby]
      have hT₃ : h₃.IsTuple v #[.int nx tx, .int ny ty] := hT.at fun o e => hk₃ v o (W.apart i v _ hMd) e
      have up₃ : ∀ c o, c ∉ [z, TO, i1, i2] → h'.get? c = some o → h₃.get? c = some o := fun c o hc e => hk₃ c o hc (hk₂ c o hc e)
      refine kcp_assign (env := compEnvC scope cl H2.objs.size env) hh hT₃ (lookup_relabel_local hxa) (lookup_relabel_local hxb) (by simp [compEnvC, relabel, hkind]) (hn'.at' fun o e => up₃ _ o hCw e) fun h₄ tk₄ hn₄ hs₄ => ?_
      have up : ∀ c o, c ∉ [z, TO, i1, i2] → c ≠ H2.objs.size → h'.get? c = some o → h₄.get? c = some o := fun c o h1 h2 e => hs₄ c o h2 (up₃ c o h1 e)
      have hkp₄ : ∀ b o, b ∉ [z, TO, i1, i2] → s₁.heap.get? b = some o → h₄.get? b = some o := fun b o hb e => up b o hb (below b (Heap.lt_size e)).1 (hkp b o hb e)
      have hst₄ : ZSt z TI TO i1 i2 l1 l2 xs.toArray ys.toArray (i + 1) h₄ := W.frame _ _ _ hst₃ fun b hb o e => hs₄ b o (below b (hfp b hb)).1 e
      have hD₄ : h₄.get? s₁.heap.objs.size = some (lst ks) := up _ _ hDw hDC hD'
      obtain ⟨oC, heC, hoC⟩ := ns_obj hn₄
      have N₄ : News h₀ L h₄ ((H2.objs.size, oC) :: news) := fun q hq => by
        rcases List.mem_cons.mp hq with rfl | hq
        · exact ⟨heC, hCL, hC₀⟩
        · exact newsOf h₄ hkp₄ q hq
      have tu := fun tk E' => turn nx ny tx ty H2.objs.size oC _ h₄ tk E' hoC (by simp [hab]) (by simp) (frOf h₄ hkp₄) N₄
      have hcs := cnt_succ (T := T) hzip
      have hle : (((as.zip bs).take i).countP fun p => T p.1 p.2) ≤ i := Nat.le_trans List.countP_le_length (List.length_take_le _ _)
      have hksl : ks.length = (((as.zip bs).take i).countP fun p => T p.1 p.2) := by rw [hks.length, List.length_replicate]
      refine wpAny_mono ((tu _ _).1) (fun ok s₅ h₅ => ?_) fun _ _ e => e
      obtain ⟨hok, tk₅, rfl⟩ := h₅
      cases ok with
      | false =>
        simp only [Bool.false_eq_true, if_false]
        rw [← hok] at hcs
        simp only [Bool.false_eq_true, if_false, Nat.add_zero] at hcs
        exact ⟨min xs.toArray.size ys.toArray.size + 1 - (i + 1), by omega, h₄, tk₅, i + 1, ks, _, rfl, hlt, rfl, hst₄, hoC.ns heC, hD₄, by rw [hcs]; exact hks, hkp₄⟩
      | true =>
        simp only [if_true]
        rw [← hok] at hcs
        simp only [if_true] at hcs
        refine wpAny_mono ((tu _ _).2) (fun v₆ s₆ h₆ => ?_) fun _ _ e => e
        obtain ⟨⟨t₆, rfl⟩, tk₆, rfl⟩ := h₆
        refine append_at (hsz := by
          show ks.toArray.size ≤ sizeLine
          rw [List.size_toArray, hksl]
          refine Nat.le_trans hle (Nat.le_trans hi (Nat.le_trans (Nat.min_le_left _ _) ?_))
          rw [List.size_toArray, hA.length]; exact hsz) hD₄ fun h₅ hs₅ hD₅ => ?_
        refine ⟨min xs.toArray.size ys.toArray.size + 1 - (i + 1), by omega, h₅, tk₆, i + 1, ks ++ [.int 1 t₆], _, rfl, hlt, rfl, ?_, (hoC.ns heC).sameBut hs₅ (Ne.symm hDC), hD₅.trans (congrArg some (lst_snoc ks _)), ?_, ?_⟩
        · exact W.frame _ _ _ hst₄ fun b hb o e => hs₅.extBut b o (below b (hfp b hb)).2 e
        · rw [hcs, List.replicate_succ']
          exact hks.append (.cons 1 t₆ .nil)
        · exact fun b o hb e => hs₅.extBut b o (below b (Heap.lt_size e)).2 (hkp₄ b o hb e)
    · have hin : i = min xs.toArray.size ys.toArray.size := Nat.le_antisymm hi (Nat.not_lt.mp hlt)
      subst hin
      refine W.done _ _ _ hst' fun h₂ tk₂ hk₂ => ?_
      have hall : (as.zip bs).take (min xs.toArray.size ys.toArray.size) = as.zip bs := by rw [← hlen]; exact List.take_length
      rw [hall] at hks
      show ∃ mm, _ ∧ _
      refine ⟨m', hn'.at' fun o e => hk₂ _ o hCw e, fun h'' hs'' => ?_⟩
      have keep : ∀ b o, b ∉ [z, TO, i1, i2] → s₁.heap.get? b = some o → h''.get? b = some o := fun b o hb e => hs''.extBut b o (below b (Heap.lt_size e)).1 (hk₂ b o hb (hkp b o hb e))
      refine fin _ h'' tk₂ ks (frOf _ keep) (fun p hp => ?_) (fun p hp => Heap.lt_size (N p hp).1) hks
      rcases List.mem_cons.mp hp with rfl | hp
      · exact ⟨hs''.extBut _ _ hDC (hk₂ _ _ hDw hD'), hDL, hD₀⟩
      · exact newsOf _ keep p hp
  exact codeAny_compStart_list (loop _ rfl) (W.self 0 _ _ _ st₁ (loop _ rfl))

theorem zc_zip {c elt : PySem.Expr} {a b : Str} {scope : Scope} {cl : List (Str × Addr)} {Q : Value → Shared → Prop} {l1 l2 : Addr} {o1 o2 : Obj} {xs ys : List Value} {n1 n2 : Nat} {as bs : List Int} {news : List (Addr × Obj)} {T : Int → Int → Bool}
    (hh : A.handled = none) (F : Fr h₀ L s.heap m) (N : News h₀ L s.heap news) (h1 : (l1, o1) ∈ news) (c1 : o1.cls = .type "list") (d1 : o1.data = .seq xs.toArray n1) (h2 : (l2, o2) ∈ news) (c2 : o2.cls = .type "list") (d2 : o2.data = .seq ys.toArray n2)
    (hA : IntsAre xs as) (hB : IntsAre ys bs) (hsz : as.length ≤ sizeLine)
    (turn : ∀ g, ZcTurn prog w A h₀ L m env c elt a b scope cl news { s with heap := g } T)
    (fin : ∀ D h tk ks, Fr h₀ L h m → News h₀ L h ((D, lst ks) :: news) → (∀ p ∈ news, p.1 < D) → IntsAre ks (List.replicate ((as.zip bs).countP fun p => T p.1 p.2) 1) → Q (.ref D) { s with heap := h, toks := tk }) :
    wpAny (model prog w) A (call (.type "zip") [.ref l1, .ref l2]) (ZcSrc prog w A h₀ L m env c elt a b scope cl Q) E s := by
  have hl1 : s.heap.IsList l1 xs.toArray := ⟨o1, (N _ h1).1, c1, n1, d1⟩
  have hl2 : s.heap.IsList l2 ys.toArray := ⟨o2, (N _ h2).1, c2, n2, d2⟩
  refine zip_rows F hl1 hl2 fun h' z TI TO i1 i2 D st F' hk kz kTO k1 k2 kL => ?_
  refine ⟨z, TI, TO, i1, i2, l1, l2, xs, ys, as, bs, news, T, rfl, hh, D, st, hA, hB, F', fun p hp => ⟨hk _ _ (N p hp).1, (N p hp).2⟩, ?_, hsz, turn h', fun D h tk ks F N o i => fin D h tk ks F N o i⟩
  have one : ∀ q : Nat, s.heap.objs.size ≤ q → L ≠ q ∧ h₀.get? q = none ∧ ∀ p ∈ news, p.1 ≠ q := fun q hq => by
    refine ⟨Nat.ne_of_lt (Nat.lt_of_lt_of_le F.ns.lt hq), ?_, fun p hp => Nat.ne_of_lt (Nat.lt_of_lt_of_le (Heap.lt_size (N p hp).1) hq)⟩
    cases e : h₀.get? q with
    | none => rfl
    | some o' => exact absurd (Heap.lt_size (F.keep q o' e)) (Nat.not_lt.mpr hq)
  intro q hq
  simp only [List.mem_cons, List.not_mem_nil, or_false] at hq
  rcases hq with rfl | rfl | rfl | rfl
  · exact one _ kz
  · exact one _ kTO
  · exact one _ k1
  · exact one _ k2
end
end Mine
end PartZC

section PartEX
open PySem PySem.W PyProof.Rows PySem.Calls PySem.Spec
set_option maxRecDepth 100000
namespace Mine

/-- what a raise asks of the value that it was handed: an instance of a class of the text's own -/
def ORais (K : Frag) (C : Addr) (E : Value → Shared → Prop) (v : Value) (s₁ : Shared) : Prop :=
  ∃ a ob vs, v = .ref a ∧ K.In s₁.heap ∧ s₁.heap.get? a = some ob ∧ ob.cls = .ref C ∧ ob.data = .fields vs ∧ vs[1]? = some .none ∧ E (.ref a) s₁

theorem raise_own {M : Model} {A : Around} {env : Env} {E : Value → Shared → Prop} {s : Shared} {K : Frag} {C : Addr} {e : PySem.Expr} {pos : Pos} {Q : Flow → Shared → Prop} {h₀ : Heap} (_X : K.In h₀) (hh : A.handled = none)
    (hm : mroIn K C (.type "BaseException") = some true) (ht : typeIn K (.ref C) = some (.type "type"))
    (h : wpAny M A (eval e env) (ORais K C E) E s) : wpAny M A (exec (.Raise (some e) none pos) env) Q E s := by
  show wpAny M A (do standAt pos; raiseStmt env (some (do let v ← eval e env; standAt pos; pure v)) none) Q E s
  refine wpAny_bind (wpAny_standAt ?_)
  unfold raiseStmt
  dsimp only
  refine wpAny_bind (wpAny_bind (wpAny_mono h (fun v s₁ h₁ => wpAny_bind (wpAny_standAt (wpAny_pure ?_))) fun _ _ x => x))
  obtain ⟨a, ob, vs, rfl, X, ha, hcls, hd, h1, hE⟩ := h₁
  have notType : ∀ {Q' : Bool → Shared → Prop}, Q' false s₁ → wpAny M A (isType (.ref a)) Q' E s₁ := by
    intro Q' hq
    simp only [isType, loadHead]
    refine wpAny_bind (wpAny_loadPart ha ?_)
    rw [hd]; exact wpAny_pure hq
  have L1 : Looks M s₁.heap (typeOf (.ref a)) (.ref C) := hcls ▸ (Looks.ld ha).andThen .now
  have L2 : Looks M s₁.heap (isInstance (.ref a) (.type "BaseException")) true := L1.andThen (looks_mroIn X hm)
  have L3 : Looks M s₁.heap (typeOf (.ref C)) (.type "type") := looks_typeIn X ht
  refine wpAny_bind (wpAny_pure ?_)
  dsimp only
  refine wpAny_bind (wpAny_holding ?_)
  unfold excFromValue isExcClass
  refine wpAny_bind (wpAny_bind (notType ?_))
  simp only [Bool.false_eq_true, if_false]
  refine wpAny_pure ?_
  simp only [Bool.false_eq_true, if_false]
  refine wpAny_bind (L2.here ?_)
  simp only [if_true]
  refine wpAny_pure ?_
  refine wpAny_bind (notType ?_)
  simp only [Bool.false_eq_true, if_false]
  unfold raisedInstance
  refine wpAny_bind (wpAny_bind (L1.here (wpAny_bind (L3.here ?_))))
  rw [if_pos (by decide)]
  refine wpAny_pure ?_
  unfold setFlight raiseNew
  refine wpAny_bind (wpAny_bind (wpAny_field ha hd h1 ?_))
  rw [if_neg (by decide)]
  refine wpAny_pure (wpAny_bind (wpAny_handled ?_))
  rw [hh]
  first
    | exact wpAny_throw hE
    | exact wpAny_bind (wpAny_pure (wpAny_throw hE))

section
variable {M : Model} {A : Around} {E : Value → Shared → Prop} {h : Heap} {g : Array GenState} {d : Drawn} {t : Nat} {os : OsState}
variable {nm q : Str} {C N : Addr} {bs bm : List Value} {hdct : Bool} {sn : List Str} {sub : List Value} {ab : Bool} {col : Option Bool} {dd : Option Addr} {k0 k1 k2 k3 k5 : Option Value} {Bn newId inN : String} {bmN : List Value}
theorem new_check (Fn : ExcBaseFacts Bn newId inN bmN) (hB : (Value.ref C :: bm).contains (.type Bn) = true) {rest : List Value} {Q : Unit → Shared → Prop} (hC : h.get? C = some (excClassObj nm q C N bs bm hdct sn sub ab col dd k0 k1 k2 k3 k5 newId))
    (hq : Q () ⟨h, g, d, t, os⟩) : wpAny M A (checkBuiltinCall newId ⟨.ref C :: rest, []⟩) Q E ⟨h, g, d, t, os⟩ := by
  have hstar := Fn.noStar
  simp only [checkBuiltinCall, Fn.newKind, Fn.newSplit, Fn.newRow]
  repeat (first | refine wpAny_loadPart_at hC ?_ | (refine wpAny_isSubtype_exc hC ?_; rw [hB]) | refine wpAny_staticBase_exc hC ?_ | refine wpAny_madeBy_exc hC ?_ | simp only [bne_self_eq_false, Bool.false_eq_true, if_false] | wp_step)
  exact hq
end

abbrev excO (C t : Addr) (dx : Option Addr) : Obj := { cls := .ref C, dict := dx, data := .fields #[.ref t, .none, .none, .none, .bool false, .none] }
abbrev tupO (vs : List Value) : Obj := { cls := .type "tuple", data := .seq vs.toArray }

section
variable {prog : Program} {w : World} {A : Around} {R : Result → Shared → Prop} {E : Value → Shared → Prop} {h : Heap} {g : Array GenState} {d : Drawn} {t : Nat} {os : OsState}
variable {nm q : Str} {C N : Addr} {bs bm : List Value} {hdct : Bool} {sn : List Str} {sub : List Value} {ab : Bool} {col : Option Bool} {dd : Option Addr} {k0 k1 k2 k3 k5 : Option Value} {Bn newId inN : String} {bmN : List Value}

theorem new_code (Fn : ExcBaseFacts Bn newId inN bmN) (hB : (Value.ref C :: bm).contains (.type Bn) = true) (hA : (Value.ref C :: bm).contains (.type "AttributeError") = false) (hN : (Value.ref C :: bm).contains (.type "NameError") = false) {rest : List Value}
    (hC : h.get? C = some (excClassObj nm q C N bs bm hdct sn sub ab col dd k0 k1 k2 k3 k5 newId))
    (hq : R (.ok (.ret (.ref (h.objs.size + 1)))) ⟨(h.push (tupO rest)).push (excO C h.objs.size none), g, d, t, os⟩) (hrest : rest.length ≤ sizeLine) :
    codeAny (model prog w) A (.builtin newId ⟨.ref C :: rest, []⟩) R ⟨h, g, d, t, os⟩ := by
  have hends := Fn.ends
  refine codeAny_builtinAt Fn.entry ?_
  unfold Builtin.«BaseException.__new__»
  refine PySem.wpAt_bind ?_
  show PySem.wpAt _ _ _ (stack >>= _) _ _ _
  refine PySem.wpAt_bind (PySem.wpAt_stack fun p below => PySem.wpAt_of_wpAny ?_)
  wp_walk
  refine PySem.wpAt_of_wpAny ?_
  rw [Fn.owner]
  repeat (first | with_reducible refine wpAny_madeHere_exc Fn.canon hC ?_ | with_reducible refine wpAny_loadPart_at hC ?_ | (with_reducible refine wpAny_isSubtype_exc hC ?_; first | rw [hB] | rw [hA] | rw [hN]) | wp_step)
  show R _ _
  rw [Heap.size_push]
  exact hq

/-- a call of an exception class of the text's own, its __init__ a def of the text's, wherever it stands along the classes -/
theorem exc_make (Fn : ExcBaseFacts Bn newId inN bmN) (hB : (Value.ref C :: bm).contains (.type Bn) = true) (hA : (Value.ref C :: bm).contains (.type "AttributeError") = false) (hN : (Value.ref C :: bm).contains (.type "NameError") = false) {rest : List Value} {fI : Addr} {oI : Obj} {Q : Value → Shared → Prop}
    (hC : h.get? C = some (excClassObj nm q C N bs bm hdct sn sub ab col dd k0 k1 k2 k3 k5 newId))
    (hi : ∀ h' : Heap, (∀ b o, h.get? b = some o → h'.get? b = some o) → Looks (model prog w) h' (typeLookup (.ref C) "__init__") (some (.ref fI)))
    (hfI : h.get? fI = some oI) (hfc : oI.cls = .type "function") (hrest : rest.length ≤ sizeLine)
    (hq : wpAny (model prog w) (A.under (.builtin "type.__call__" ⟨.ref C :: rest, []⟩)) (call (.ref fI) (.ref (h.objs.size + 1) :: rest)) (fun r s' => r = .none ∧ Q (.ref (h.objs.size + 1)) s') E
      ⟨(h.push (tupO rest)).push (excO C h.objs.size none), g, d, t, os⟩) :
    wpAny (model prog w) A (call (.ref C) rest) Q E ⟨h, g, d, t, os⟩ := by
  have f1 := tc_lookup
  have f2 := tc_bind (.ref C)
  have hT : (⟨h, g, d, t, os⟩ : Shared).TypeIs (.ref C) "type" := ⟨_, hC, rfl⟩
  refine wpAny_call (codeAny_of_tree ?_)
  show wpAny _ _ (callAny (.ref C) _) _ _ _
  repeat (any_goals (first | assumption | with_reducible refine wpAny_loadPart_at hC ?_ | wp_step))
  refine ⟨rfl, ?_⟩
  refine codeAny_call_builtin_at (Code.quiet_builtin _ (by decide +kernel)) entry_typeCall (wpAny_check_type_call_sub hC ?_)
  repeat (first | with_reducible refine wpAny_loadPart_at hC ?_ | with_reducible refine wpAny_madeBy_exc hC ?_ | wp_step)
  refine codeAny_call_builtin_code (Code.quiet_builtin _ Fn.quiet) (new_check (rest := rest) Fn hB hC ?_)
  refine new_code (rest := rest) Fn hB hA hN hC ?_ hrest
  show wpAny _ _ _ _ _ _
  have kp : ∀ b o, h.get? b = some o → ((h.push (tupO rest)).push (excO C h.objs.size none)).get? b = some o := fun b o e => Heap.get?_push_of_some _ (Heap.get?_push_of_some _ e)
  have hC₁ := kp _ _ hC
  have hfI₁ := kp _ _ hfI
  have hget : ((h.push (tupO rest)).push (excO C h.objs.size none)).get? (h.objs.size + 1) = some { cls := .ref C, data := .fields #[.ref h.objs.size, .none, .none, .none, .bool false, .none] } := by heap_get
  have hcC : (Value.ref C :: bm).contains (.ref C) = true := by simp
  unfold isInstance
  repeat (first | with_reducible refine wpAny_loadPart_at hget ?_ | (with_reducible refine wpAny_isSubtype_exc hC₁ ?_; rw [hcC]) | wp_step)
  show wpAny _ _ (typeLookup (.ref C) _) _ _ _
  refine (hi _ kp).here ?_
  refine wpAny_holding (wpAny_bind ?_)
  unfold bindSpecial
  refine wpAny_bind (wpAny_typeOf (T := "function") ⟨_, hfI₁, hfc⟩ ?_)
  rw [if_pos (by decide)]
  refine wpAny_pure (wpAny_bind (wpAny_mono hq (fun r s' hr => ?_) fun _ _ x => x))
  obtain ⟨rfl, hQ⟩ := hr
  wp_walk
  exact hQ
end

section
variable {prog : Program} {w : World} {A : Around} {E : Value → Shared → Prop} {s : Shared} {K : Frag} {h₀ : Heap} {L : Addr} {m : Str → Option Value} {news : List (Addr × Obj)}
variable {nm q : Str} {C N : Addr} {bs bm : List Value} {hdct : Bool} {sn : List Str} {sub : List Value} {ab : Bool} {col : Option Bool} {dd : Option Addr} {k0 k1 k2 k3 k5 : Option Value} {Bn newId inN : String} {bmN : List Value}
theorem exc_make_K {rest : List Value} {fI : Addr} {Q : Value → Shared → Prop} (Fn : ExcBaseFacts Bn newId inN bmN) (F : Fr h₀ L s.heap m) (N' : News h₀ L s.heap news) (X : K.In h₀)
    (hC : K.lookup C = some (excClassObj nm q C N bs bm hdct sn sub ab col dd k0 k1 k2 k3 k5 newId)) (hi : findIn K (.ref C) "__init__" = some (some (.ref fI))) (hf : typeIn K (.ref fI) = some (.type "function"))
    (hB : (Value.ref C :: bm).contains (.type Bn) = true) (hA : (Value.ref C :: bm).contains (.type "AttributeError") = false) (hN : (Value.ref C :: bm).contains (.type "NameError") = false) (hrest : rest.length ≤ sizeLine)
    (h : ∀ e t h', Fr h₀ L h' m → News h₀ L h' ((e, excO C t none) :: (t, tupO rest) :: news) → (∀ p ∈ news, p.1 < t) → t < e →
      wpAny (model prog w) (A.under (.builtin "type.__call__" ⟨.ref C :: rest, []⟩)) (call (.ref fI) (.ref e :: rest)) (fun r s' => r = .none ∧ Q (.ref e) s') E { s with heap := h' }) :
    wpAny (model prog w) A (call (.ref C) rest) Q E s := by
  obtain ⟨hp, g, d, t, os⟩ := s
  have X' : K.In hp := X.keeps F.keep
  obtain ⟨oI, ho, hoc⟩ := Option.map_eq_some_iff.mp (show (K.lookup fI).map (·.cls) = some (.type "function") from hf)
  have N2 := (N'.push F (tupO rest)).push (F.push _) (excO C hp.objs.size none)
  rw [Heap.size_push] at N2
  exact exc_make Fn hB hA hN (X' _ _ hC) (fun h' k => looks_findIn (X'.keeps k) hi) (X' _ _ ho) hoc hrest (h _ _ _ ((F.push _).push _) N2 (fun p hp => Heap.lt_size (N' p hp).1) (Nat.lt_succ_self _))
end

theorem exc_meta : typeOf (.type "Exception") = pure (.type "type") := by kernel_rfl
section
variable {M : Model} {A : Around} {E : Value → Shared → Prop} {h : Heap} {g : Array GenState} {d : Drawn} {t : Nat} {os : OsState}
variable {nm q : Str} {C N : Addr} {bs bm : List Value} {hdct : Bool} {sn : List Str} {sub : List Value} {ab : Bool} {col : Option Bool} {dd : Option Addr} {k0 k1 k2 k3 k5 : Option Value} {B nid newId initId : String} {bmB : List Value}
theorem init_check (F : ExcBaseFacts B nid initId bmB) (hB : (Value.ref C :: bm).contains (.type B) = true) {e : Addr} {oe : Obj} {rest : List Value} {Q : Unit → Shared → Prop}
    (hC : h.get? C = some (excClassObj nm q C N bs bm hdct sn sub ab col dd k0 k1 k2 k3 k5 newId)) (he : h.get? e = some oe) (hcls : oe.cls = .ref C) (hq : Q () ⟨h, g, d, t, os⟩) :
    wpAny M A (checkBuiltinCall initId ⟨.ref e :: rest, []⟩) Q E ⟨h, g, d, t, os⟩ := by
  have hshort := F.noStar
  simp only [checkBuiltinCall, F.initKind, F.initSplit, F.initRow]
  repeat (first | (with_reducible refine wpAny_loadPart_at he ?_; rw [hcls]) | with_reducible refine wpAny_loadPart_at hC ?_ | (with_reducible refine wpAny_isSubtype_exc hC ?_; rw [hB]) | wp_step)
  refine wpAny_onRaise ?_
  rw [show ∀ (a b : String) (n : Nat), Bind.check ⟨.positional, "*", B, .self, [⟨"args", .varPos, false⟩]⟩ a b n (List.map (fun x => x.fst) ({ pos := Value.ref e :: rest } : Args).kw) = pure () from
    fun a b n => check_star_args _ _ _ _ _ _]
  exact wpAny_pure hq
end
section
variable {prog : Program} {w : World} {A : Around} {E : Value → Shared → Prop} {s : Shared} {K : Frag} {h₀ : Heap} {L : Addr} {m : Str → Option Value} {news : List (Addr × Obj)}
variable {nm q : Str} {C N : Addr} {bs bm : List Value} {hdct : Bool} {sn : List Str} {sub : List Value} {ab : Bool} {col : Option Bool} {dd : Option Addr} {k0 k1 k2 k3 k5 : Option Value} {B nid newId initId : String} {bmB : List Value}
theorem init_K {e t : Addr} {args : List Value} {Q : Value → Shared → Prop} (Fi : ExcBaseFacts B nid initId bmB) (F : Fr h₀ L s.heap m) (N' : News h₀ L s.heap ((e, excO C t none) :: news)) (X : K.In h₀)
    (hC : K.lookup C = some (excClassObj nm q C N bs bm hdct sn sub ab col dd k0 k1 k2 k3 k5 newId)) (hB : (Value.ref C :: bm).contains (.type B) = true) (hne : ∀ p ∈ news, p.1 ≠ e) (hrest : args.length ≤ sizeLine)
    (h : ∀ t' h', Fr h₀ L h' m → News h₀ L h' ((e, excO C t' none) :: (t', tupO args) :: news) → (∀ p ∈ (e, excO C t none) :: news, p.1 < t') → Q .none { s with heap := h' }) :
    wpAny (model prog w) A (call (.builtin initId) (.ref e :: args)) Q E s := by
  obtain ⟨hp, g, d, tk, os⟩ := s
  have X' : K.In hp := X.keeps F.keep
  have he : hp.get? e = some { cls := .ref C, data := .fields #[.ref t, .none, .none, .none, .bool false, .none] } := (N' _ List.mem_cons_self).1
  have hlt : e < hp.objs.size := Heap.lt_size he
  refine wpAny_call (codeAny_call_builtin Fi.init.plain Fi.initEntry (init_check Fi hB (X' _ _ hC) he rfl ?_))
  wp_walk
  have z := N' (e, excO C t none) List.mem_cons_self
  have hs : Heap.SameBut e (hp.push (tupO args)) ((hp.push (tupO args)).update e (Obj.mapFields fun x => x.setIfInBounds 0 (Value.ref hp.objs.size))) := Heap.SameBut.update ..
  have fresh : h₀.get? hp.objs.size = none := by
    cases q : h₀.get? hp.objs.size with
    | none => rfl
    | some o => exact absurd (Heap.lt_size (F.keep _ _ q)) (Nat.lt_irrefl _)
  refine h hp.objs.size _ ((F.push _).change hs z.2.1 z.2.2) (fun p hp' => ?_) (fun p hp' => Heap.lt_size (N' p hp').1)
  rcases List.mem_cons.mp hp' with rfl | hp'
  · refine ⟨?_, z.2.1, z.2.2⟩
    rw [Heap.get?_update_self _ (Heap.get?_push_of_some _ he) rfl]
    rfl
  · rcases List.mem_cons.mp hp' with rfl | hp'
    · exact ⟨hs.extBut _ _ (Nat.ne_of_gt hlt) (Heap.get?_push_size _ rfl), Nat.ne_of_gt F.ns.lt, fresh⟩
    · have y := N' p (List.mem_cons_of_mem _ hp')
      exact ⟨hs.extBut _ _ (hne p hp') (Heap.get?_push_of_some _ y.1), y.2⟩
end
end Mine
end PartEX

section PartEY
open PySem PySem.W PyProof.Rows PySem.Calls PySem.Spec
set_option maxRecDepth 100000
namespace Mine
theorem exc_passes (self : Value) : refuseLoop self "__setattr__" [.type "Exception", .type "BaseException", .type "object"] = pure () := by kernel_rfl
section
variable {prog : Program} {w : World} {A : Around} {E : Value → Shared → Prop} {s : Shared} {K : Frag} {h₀ : Heap} {L : Addr} {m : Str → Option Value} {news : List (Addr × Obj)}
variable {nm q : Str} {C P N : Addr} {bs : List Value} {sn : List Str} {sub : List Value} {ab : Bool} {col : Option Bool} {dd : Option Addr} {k0 k1 k2 k3 k5 : Option Value} {newId : String}
theorem setx_K {e t : Addr} {name : Str} {v : Value} {Q : Unit → Shared → Prop} (F : Fr h₀ L s.heap m) (N' : News h₀ L s.heap ((e, excO C t none) :: news)) (X : K.In h₀)
    (hC : K.lookup C = some (excClassObj nm q C N bs [.ref P, .type "Exception", .type "BaseException", .type "object"] true sn sub ab col dd k0 k1 k2 k3 k5 newId))
    (hs : findIn K (.ref C) "__setattr__" = some (some (.builtin "object.__setattr__"))) (ha : findIn K (.ref C) name = some none) (hne : ∀ p ∈ news, p.1 ≠ e)
    (h : ∀ d h' tk, Fr h₀ L h' m → News h₀ L h' ((e, excO C t (some d)) :: news) → Q () { s with heap := h', toks := tk }) :
    wpAny (model prog w) A (setAttr (.ref e) name v) Q E s := by
  obtain ⟨hp, g, dr, tk, os⟩ := s
  have X' : K.In hp := X.keeps F.keep
  have he : hp.get? e = some (excO C t none) := (N' _ List.mem_cons_self).1
  have I : PySem.W.InstAt hp e (excO C t none) C none := ⟨he, rfl, rfl, trivial⟩
  refine set_plain (s := ⟨hp, g, dr, tk, os⟩) X' I hs ?_
  have SF := PySem.F.store_object
  obtain ⟨cd, hc, hmro, hdi⟩ : ∃ cd, clsIn K C = some cd ∧ cd.mro = [.ref C, .ref P, .type "Exception", .type "BaseException", .type "object"] ∧ cd.hasDict = true := by
    refine ⟨{ name := nm, bases := bs, mro := [.ref C, .ref P, .type "Exception", .type "BaseException", .type "object"], ns := N, qualname := q, hasDict := true, slotNames := sn, subclasses := sub, abstract := ab, collection := col, hasDel := false }, ?_, rfl, rfl⟩
    unfold clsIn; rw [hC]
  have hm : Looks (model prog w) hp (mroOf (.ref C)) cd.mro := (looks_clsIn X' hc).andThen .now
  have sub' : Looks (model prog w) hp (isInstance (.ref e) (.type "object")) true := I.type.andThen (looks_mroIn X' (by unfold mroIn; rw [hc, Option.bind_some, hmro]; rfl))
  refine codeAny_call_builtin SF.slot.plain SF.entry (@check_slot (model prog w) _ _ ⟨hp, g, dr, tk + 1, os⟩ "object.__setattr__" "object" "__setattr__" (.ref e) [.str name tk, v] [] _ SF.kind SF.split sub' (SF.args (.ref e) (.str name tk) v) ?_)
  rw [osa_eq, refuse_eq]
  refine wpAny_bind (wpAny_bind (I.type.here (wpAny_bind (hm.here ?_))))
  rw [hmro, refuseLoop_ref, refuseLoop_ref, exc_passes]
  refine wpAny_pure (wpAny_bind (I.type.here (wpAny_bind ((looks_findIn X' ha).here (wpAny_bind ?_)))))
  refine wpAny_pure ?_
  refine wpAny_bind (wpAny_pure (wpAny_bind (wpAny_bind (wpAny_loadPart he (wpAny_bind ((looks_clsIn X' hc).here ?_))))))
  rw [hdi]
  show wpAny _ _ (alloc emptyDict >>= fun d => PySem.update e (fun o => { o with dict := some d }) >>= fun _ => dictMade (.ref C) e d) _ _ _
  have hlt : e < hp.objs.size := Heap.lt_size he
  have z := N' (e, excO C t none) List.mem_cons_self
  have he₁ : (hp.push emptyDict).get? e = some (excO C t none) := Heap.get?_push_of_some _ he
  have hd₁ : (hp.push emptyDict).get? hp.objs.size = some emptyDict := Heap.get?_push_size _ rfl
  refine wpAny_bind (wpAny_alloc (wpAny_bind (wpAny_update he₁ (wpAny_pure (a := some hp.objs.size) ?_))))
  have s1 : Heap.SameBut e (hp.push emptyDict) ((hp.push emptyDict).update e fun o => { o with dict := some hp.objs.size }) := Heap.SameBut.update ..
  generalize hH : (hp.push emptyDict).update e (fun o => { o with dict := some hp.objs.size }) = H1 at s1 ⊢
  have he₂ : H1.get? e = some (excO C t (some hp.objs.size)) := by
    rw [← hH, Heap.get?_update_self _ he₁ rfl]
  have hd₂ : H1.get? hp.objs.size = some emptyDict := s1.extBut _ _ (Nat.ne_of_gt hlt) hd₁
  have old : ∀ b o, b ≠ e → hp.get? b = some o → H1.get? b = some o := fun b o hb q => s1.extBut b o hb (Heap.get?_push_of_some _ q)
  refine wpAny_bind (wpAny_pure (wpAny_bind ?_))
  unfold nsSet
  refine wpAny_bind (wpAny_bind (wpAny_askSetting (wpAny_pure (wpAny_bind (wpAny_mkText (wpAny_bind (wpAny_loadPart hd₂ ?_)))))))
  have c : aRefKeyMayBeTheName name #[] = false := by rw [aRefKeyMayBeTheName_at]; simp
  dsimp only
  rw [if_neg (by rw [c]; decide)]
  refine wpAny_updatePart hd₂ ?_
  generalize hf : Obj.putName name _ _ v = f
  have hfe : ∃ en : DictEntry, f emptyDict = PySem.W.dictOf [en] 1 := by
    rw [← hf]
    exact ⟨_, putName_dict _ _ _ _ [] 0⟩
  obtain ⟨en, hfe⟩ := hfe
  have s2 : Heap.SameBut hp.objs.size H1 (H1.update hp.objs.size f) := Heap.SameBut.update ..
  have D' : (H1.update hp.objs.size f).get? hp.objs.size = some (PySem.W.dictOf [en] 1) := by
    rw [Heap.get?_update_self _ hd₂ (by rw [hfe]; rfl), hfe]
  refine wpAny_bind (wpAny_lookBehind D' (pastItsLine_dict (by rw [sizeLine_eq]; exact Nat.le_of_ble_eq_true rfl)) ?_)
  have fresh : h₀.get? hp.objs.size = none := by
    cases q : h₀.get? hp.objs.size with
    | none => rfl
    | some o => exact absurd (Heap.lt_size (F.keep _ _ q)) (Nat.lt_irrefl _)
  have F1 : Fr h₀ L H1 m := by
    have y := (F.push emptyDict).change (hH ▸ s1 : Heap.SameBut e (hp.push emptyDict) H1) z.2.1 z.2.2
    exact y
  refine wpAny_pure (h hp.objs.size _ _ (F1.change s2 (Nat.ne_of_gt F.ns.lt) fresh) fun p hp' => ?_)
  rcases List.mem_cons.mp hp' with rfl | hp'
  · exact ⟨s2.extBut _ _ (Nat.ne_of_lt hlt) he₂, z.2⟩
  · have y := N' p (List.mem_cons_of_mem _ hp')
    exact ⟨s2.extBut _ _ (Nat.ne_of_lt (Heap.lt_size y.1)) (old _ _ (hne p hp') y.1), y.2⟩
end
end Mine
end PartEY

section PartEZ
open PySem PySem.W PyProof.Rows PySem.Calls PySem.Spec
set_option maxRecDepth 100000
namespace Mine
theorem orais_K {K : Frag} {E : Value → Shared → Prop} {s : Shared} {h₀ : Heap} {L C e t : Addr} {dx : Option Addr} {m : Str → Option Value} {news : List (Addr × Obj)} (F : Fr h₀ L s.heap m) (N : News h₀ L s.heap news) (X : K.In h₀) (hm : (e, excO C t dx) ∈ news)
    (h : E (.ref e) s) : ORais K C E (.ref e) s := ⟨e, _, _, rfl, X.keeps F.keep, (N _ hm).1, rfl, rfl, rfl, h⟩
section
variable {M : Model} {A : Around} {E : Value → Shared → Prop} {s' : Shared} {base g : Heap} {outer : List Env} {L a e : Addr} {m : Str → Option Value} {name : Str} {scope : Scope} {cd : Value} {Q : Unit → Shared → Prop} {news : List (Addr × Obj)}
theorem leave_ownS {C t : Addr} {dx : Option Addr} (K : Below A base outer g) (F₀ : Fr g L s'.heap m) (N₀ : News g L s'.heap ((e, excO C t dx) :: news)) (hne : ∀ p ∈ news, p.1 ≠ e)
    (hQ : ∀ h', RaisedSN base g outer e (.ref C) news h' → RaisedN base outer e (.ref C) news h' → g.UpToSlots h' → Q () { s' with heap := h' }) (hk : scope.kind = .function := by rfl) :
    wpAny M (A.deeper (envOf name scope L a cd)) (leaving (envOf name scope L a cd) (.ref e)) Q E s' := by
  have z := N₀ _ List.mem_cons_self
  have he : s'.heap.get? e = some (excO C t dx) := z.1
  have hLe : L ≠ e := Ne.symm z.2.1
  -- the heap without the exception
  have sub : ∀ b o, (hideAll s'.heap [e]).get? b = some o → s'.heap.get? b = some o := fun b o q => of_hideAll _ q
  have sup : ∀ b o, b ≠ e → s'.heap.get? b = some o → (hideAll s'.heap [e]).get? b = some o := fun b o hb q => hideAll_get _ q (by simpa using hb)
  have hnew : (hideAll s'.heap [e]).get? e = none := hideAll_none _ (by simp)
  have F : Fr g L (hideAll s'.heap [e]) m := ⟨F₀.ns.at' fun o q => sup _ o hLe q, fun b o q => sup b o (fun y => by rw [y, z.2.2] at q; cases q) (F₀.keep b o q), F₀.above⟩
  have N : News g L (hideAll s'.heap [e]) news := fun q hq => by
    have y := N₀ q (List.mem_cons_of_mem _ hq)
    exact ⟨sup _ _ (hne q hq) y.1, y.2⟩
  generalize hideAll s'.heap [e] = h at sub sup hnew F N
  have K' := K.push (name := name) (a := a) (cd := cd) F hk
  have hin : ∀ env ∈ (envOf name scope L a cd :: outer), ∀ b, env.frame = some b → b ∈ (envOf name scope L a cd :: outer).filterMap (·.frame) := fun env he b hb => List.mem_filterMap.mpr ⟨env, he, hb⟩
  have st : base.StaysIn (hideAll h ((envOf name scope L a cd :: outer).filterMap (·.frame))) := fun b o q => hideAll_get _ (K'.stays b o q) fun hm => by
    rw [(K'.frames.mem hm).1] at q; cases q
  have sg : ∀ b o, g.get? b = some o → b ∉ outer.filterMap (·.frame) → (hideAll h ((envOf name scope L a cd :: outer).filterMap (·.frame))).get? b = some o := fun b o q nm => hideAll_get _ (F.keep b o q) fun hm => by
    rcases kts_mem hm with y | y
    · rw [y, kts_self F] at q
      cases q
    · exact nm y
  have hl : ∀ q ∈ news, (hideAll h ((envOf name scope L a cd :: outer).filterMap (·.frame))).get? q.1 = some q.2 ∧ g.get? q.1 = none ∧ base.get? q.1 = none := fun q hq => by
    refine ⟨hideAll_get _ (N q hq).1 fun hm => ?_, (N q hq).2.2, fresh_of_stays K.stays (N q hq).2.2⟩
    obtain ⟨env, he, hf⟩ := List.mem_filterMap.mp hm
    rcases List.mem_cons.mp he with rfl | he
    · exact (N q hq).2.1 (Option.some.inj hf).symm
    · obtain ⟨o, ho, _⟩ := (K.frames.mem (List.mem_filterMap.mpr ⟨env, he, hf⟩)).2
      rw [(N q hq).2.2] at ho; cases ho
  have hen : (hideAll h ((envOf name scope L a cd :: outer).filterMap (·.frame))).get? e = none := by
    cases q : (hideAll h ((envOf name scope L a cd :: outer).filterMap (·.frame))).get? e with
    | none => rfl
    | some o => have := of_hideAll _ q; rw [hnew] at this; cases this
  refine wpAny_leaving_firstW (a0 := .ref t) K'.stack ((funFrames_hide K'.frames hin).of_keeps fun b o hb _ => ⟨o, sub b o hb, rfl⟩) rfl he (fun b o hb => sub b o (of_hideAll _ hb)) hen rfl rfl rfl fun h' hL => ?_
  obtain ⟨k1, ⟨_, _, k2⟩, k3, k4⟩ := hL
  have R : RaisedSN base g outer e (.ref C) news h' := ⟨_, .ref t, st, sg, hl, k1, hen, k2, k3⟩
  exact hQ h' R R.toN ((Heap.UpToSlots.of_keeps F₀.keep).trans k4)
end
end Mine
end PartEZ

section PartHD
open PySem PySem.W PyProof.Rows
set_option maxRecDepth 100000
set_option maxHeartbeats 8000000
namespace Mine
open_top hd for PySem.Challenge.rw_xm0796_01
end Mine
end PartHD

section PartC1
open PySem PySem.W PyProof.Rows PySem.Calls PySem.Spec PyProof.Rows.LCg
namespace Mine

/-- a place where the walk halts -/
def Halt (P : Prop) : Prop := P
theorem halt {P : Prop} (h : Halt P) : P := h
theorem on {P : Prop} (h : P) : Halt P := h
theorem int_eq {x y : Int} {t : Tok} (h : x = y) : Value.int x t = Value.int y t := by rw [h]

/-- a call of the def at f, walked once: what it hands back and what it leaves of the ledger -/
def Cut (w : World) (mean : ExcName → Option Value) (mg mb : Str → Option Value) (f : Addr) (need : Nat) (news : List (Addr × Obj)) (vs : List Value) (post : Value → List (Addr × Obj) → Prop) : Prop :=
  ∀ (dp un : Nat) (gd : Option (List Code)) (cn : Str) (cs : Scope) (a : Addr) (ccd : Value) (cl : List (Str × Addr)) (outer : List Env) (A₀ : Around) (base h₀ : Heap) (L : Addr) (m : Str → Option Value) (s : Shared) (Q E : Value → Shared → Prop),
    Below A₀ base outer h₀ → Fr h₀ L s.heap m → (hd.heap_39 w.params).In h₀ → News h₀ L s.heap news → Top hd.view_39 (looseW hd.view_39 []) mean mg mb h₀ → cs.kind = .function → dp + need < recursionLimit → un + 8 * need < cLine →
    (∀ v news' h' tk', post v news' → Fr h₀ L h' m → News h₀ L h' news' → Q v { s with heap := h', toks := tk' }) →
    wpAny (model PySem.Challenge.rw_xm0796_01.row.prog w) (ktrTop dp un gd cn cs L a ccd cl outer) (call (.ref f) vs) Q E s

section
variable {w : World} {mean : ExcName → Option Value} {mg mb : Str → Option Value} {f : Addr} {need : Nat} {news : List (Addr × Obj)} {vs : List Value} {post : Value → List (Addr × Obj) → Prop}
  {dp un : Nat} {gd : Option (List Code)} {cn : Str} {cs : Scope} {a : Addr} {ccd : Value} {cl : List (Str × Addr)} {outer : List Env} {A₀ : Around} {base h₀ : Heap} {L : Addr} {m : Str → Option Value} {s : Shared} {Q E : Value → Shared → Prop}
theorem cut_use (B : Below A₀ base outer h₀) (F : Fr h₀ L s.heap m) (X : (hd.heap_39 w.params).In h₀) (N : News h₀ L s.heap news) (T : Top hd.view_39 (looseW hd.view_39 []) mean mg mb h₀) (hk : cs.kind = .function)
    (C : Cut w mean mg mb f need news vs post) (hd : dp + need < recursionLimit) (hu : un + 8 * need < cLine)
    (ret : ∀ v news' h' tk', post v news' → Fr h₀ L h' m → News h₀ L h' news' → Q v { s with heap := h', toks := tk' }) :
    wpAny (model PySem.Challenge.rw_xm0796_01.row.prog w) (ktrTop dp un gd cn cs L a ccd cl outer) (call (.ref f) vs) Q E s :=
  C _ _ _ _ _ _ _ _ _ _ _ _ _ _ _ _ _ B F X N T hk hd hu ret
end

abbrev IntPost (x : Int) (news : List (Addr × Obj)) : Value → List (Addr × Obj) → Prop := fun v news' => (∃ t, v = .int x t) ∧ news' = news

section
variable {w : World} {mean : ExcName → Option Value} {mg mb : Str → Option Value} {f : Addr} {need : Nat} {news : List (Addr × Obj)} {vs : List Value} {x : Int}
  {dp un : Nat} {gd : Option (List Code)} {cn : Str} {cs : Scope} {a : Addr} {ccd : Value} {cl : List (Str × Addr)} {outer : List Env} {A₀ : Around} {base h₀ : Heap} {L : Addr} {m : Str → Option Value} {s : Shared} {Q E : Value → Shared → Prop}
theorem int_use (B : Below A₀ base outer h₀) (F : Fr h₀ L s.heap m) (X : (hd.heap_39 w.params).In h₀) (N : News h₀ L s.heap news) (T : Top hd.view_39 (looseW hd.view_39 []) mean mg mb h₀) (hk : cs.kind = .function)
    (C : Cut w mean mg mb f need news vs (IntPost x news)) (hd : dp + need < recursionLimit) (hu : un + 8 * need < cLine)
    (ret : ∀ t h' tk', Fr h₀ L h' m → News h₀ L h' news → Q (.int x t) { s with heap := h', toks := tk' }) :
    wpAny (model PySem.Challenge.rw_xm0796_01.row.prog w) (ktrTop dp un gd cn cs L a ccd cl outer) (call (.ref f) vs) Q E s :=
  C _ _ _ _ _ _ _ _ _ _ _ _ _ _ _ _ _ B F X N T hk hd hu (fun v news' h' tk' p F' N' => by
    obtain ⟨⟨t, e⟩, e'⟩ := p
    subst e
    subst e'
    exact ret t h' tk' F' N')
end

set_option maxRecDepth 100000 in
set_option maxHeartbeats 8000000 in
theorem lvl_cut (w : World) (mean : ExcName → Option Value) (mg mb : Str → Option Value) (news : List (Addr × Obj)) (i l m : Int) (ti tl tm : Tok) (h1 : 0 ≤ i) (h2 : i ≤ 12) (h3 : 2 ≤ l) (h4 : l ≤ 12) (h5 : 0 ≤ m) (h6 : m ≤ 255) :
    Cut w mean mg mb 53 1 news [.int i ti, .int l tl, .int m tm] (IntPost (lvl i l m) news) := by
  unfold Cut
  k_fill
  intro dp un gd cn cs a ccd cl outer A₀ base h₀ L mm s Q E B F X N T hk hd hu hret
  refine wpAny_call ?_
  k_dflt cell_enter
  k_steps
  exact hret _ _ _ _ ⟨⟨_, rfl⟩, rfl⟩ (by assumption) (by assumption)

theorem near_turn_lt {v l m b k : Int} {pre : List Int} (_e : b = pre.foldl (stepN v l m) 0) (hk : k = 1 + (pre.length : Int)) (hlt : pre.length < (l - 1).toNat) (h4 : l ≤ 12)
    (hc : (if lvl k l m - v < 0 then -(lvl k l m - v) else lvl k l m - v) < if lvl b l m - v < 0 then -(lvl b l m - v) else lvl b l m - v) :
    k = (pre ++ [k]).foldl (stepN v l m) 0 ∧ 0 ≤ k ∧ k ≤ 12 := by
  refine ⟨?_, by omega, by omega⟩
  rw [List.foldl_append, ← _e]
  show k = stepN v l m b k
  unfold stepN absI
  rw [if_pos hc]
theorem near_turn_ge {v l m b k : Int} {pre : List Int} (e : b = pre.foldl (stepN v l m) 0) (h0 : 0 ≤ b) (h1 : b ≤ 12)
    (hc : ¬ (if lvl k l m - v < 0 then -(lvl k l m - v) else lvl k l m - v) < if lvl b l m - v < 0 then -(lvl b l m - v) else lvl b l m - v) :
    b = (pre ++ [k]).foldl (stepN v l m) 0 ∧ 0 ≤ b ∧ b ≤ 12 := by
  refine ⟨?_, h0, h1⟩
  rw [List.foldl_append, ← e]
  show b = stepN v l m b k
  unfold stepN absI
  rw [if_neg hc]

section
local macro_rules | `(tactic| walk_at "call ref") => `(tactic| (k_here; (with_reducible show wpAny _ _ (call (Value.ref 53) _) _ _ _); k_dflt (refine' int_use ?k1 ?k2 ?k3 ?k4 ?k5 ?kK (lvl_cut _ _ _ _ _ _ _ _ _ _ _ ?ka ?kb ?kc ?kd ?ke ?kf) ?kg ?kh ?_; (case k1 => k_asm); (case k2 => k_asm); (case k3 => k_asm); (case k4 => k_asm); (case k5 => k_asm); (case kK => first | exact rfl | assumption); (case ka => l_fact); (case kb => l_fact); (case kc => l_fact); (case kd => l_fact); (case ke => l_fact); (case kf => l_fact); (case kg => ktr_room); (case kh => ktr_units)); intro t9 h9 tk9 F9 N9; (try dsimp only); (try k_fold)))
set_option maxRecDepth 100000 in
set_option maxHeartbeats 2000000 in
theorem near_cut (w : World) (mean : ExcName → Option Value) (mg mb : Str → Option Value) (news : List (Addr × Obj)) (v l m : Int) (tv tl tm : Tok) (h3 : 2 ≤ l) (h4 : l ≤ 12) (h5 : 0 ≤ m) (h6 : m ≤ 255) :
    Cut w mean mg mb 60 2 news [.int v tv, .int l tl, .int m tm] (IntPost (nearF v l m) news) := by
  unfold Cut
  k_fill
  intro dp un gd cn cs a ccd cl outer A₀ base h₀ L mm s Q E B F X N T hk hd hu hret
  refine wpAny_call ?_
  k_dflt cell_enter
  k_with "pyIter ref" => k_state (fun pre b => b = pre.foldl (stepN v l m) 0 ∧ 0 ≤ b ∧ b ≤ 12) "best"
  k_with "state" => first | exact near_turn_lt (by assumption) (by assumption) (by assumption) (by assumption) (by assumption) | exact near_turn_ge (by assumption) (by assumption) (by assumption) (by assumption)
  k_steps
  k_with_none
  exact hret _ _ _ _ ⟨⟨_, int_eq (by assumption)⟩, rfl⟩ (by assumption) (by assumption)
end

section
local macro_rules | `(tactic| k_room) => `(tactic| ktr_room)
local macro_rules | `(tactic| walk_at "eval ListComp") => `(tactic| (k_here; (k_dflt (refine zc_ListComp (by k_asm) (by with_unfolding_all rfl) (by decide) (by rfl) (by decide) (by rfl) (by rfl) (by decide) ?_)); walk_say "ZC"))
local macro_rules | `(tactic| walk_at "call type:zip") => `(tactic| refine halt ?_)
set_option maxRecDepth 100000 in
set_option maxHeartbeats 2000000 in
theorem due_cut (w : World) (mean : ExcName → Option Value) (mg mb : Str → Option Value) (news : List (Addr × Obj)) (v l m : Int) (tv tl tm : Tok) (h3 : 2 ≤ l) (h4 : l ≤ 12) (h5 : 0 ≤ m) (h6 : m ≤ 255) :
    Cut w mean mg mb 93 2 news [.int v tv, .int l tl, .int m tm] (IntPost (dueF v l m) news) := by
  unfold Cut
  k_fill
  intro dp un gd cn cs a ccd cl outer A₀ base h₀ L mm s Q E B F X N T hk hd hu hret
  obtain ⟨ck, c1, c2, c3, c4⟩ := cs
  have hk' : ck = ScopeKind.function := hk
  subst hk'
  refine wpAny_call ?_
  k_dflt k_enter
  k_steps
  refine on ?_
  k_dflt (refine zc_zip (T := fun x y => decide (x + y < 2 * v)) (by rfl) (by k_asm) (by k_asm) (by k_mem) (by rfl) (by rfl) (by k_mem) (by rfl) (by rfl) (by assumption) (by assumption) ?hsz ?turn ?fin)
  case hsz =>
    rw [List.length_map, rangeKs_length]
    show (l - 0).toNat ≤ sizeLine
    rw [sizeLine_eq]; omega
  case turn =>
    intro g x y tx ty C oC m₂ h tk E' hC' ha' hb' F' N'
    refine ⟨?_, ?_⟩
    · k_steps
    · k_steps
  case fin =>
    intro D h tk ks F' N' o' hks
    have hlen := hks.length
    rw [List.length_replicate] at hlen
    have hle : ks.length ≤ 12 := by
      rw [hlen]
      refine Nat.le_trans List.countP_le_length ?_
      rw [List.length_zip, List.length_map, rangeKs_length]
      omega
    replace o' := allLt_of o'
    simp only [AllLt] at o'
    k_with "call builtin:len" => (refine PyProof.Rows.len_list (News.isList N' (by k_mem)) (by rw [List.size_toArray]; omega) ?_)
    k_steps
    k_with_none
    exact hret _ _ _ _ ⟨⟨_, int_eq (by rw [List.size_toArray, hlen]; rfl)⟩, rfl⟩ (by assumption) (cb_drop (by assumption) (fun p hp => by first | assumption | simp [hp]))
end
end Mine
end PartC1

section PartC2
open PySem PySem.W PyProof.Rows PySem.Calls PySem.Spec PyProof.Rows.LCg
namespace Mine
abbrev pairO (a : Int) (ta : Tok) (b : Int) (tb : Tok) : Obj := PySem.W.listOf [Value.int a ta, Value.int b tb].toArray 0
def TakePost (src : Addr) (top : Int) (rest : List (Addr × Obj)) (v : Value) (news' : List (Addr × Obj)) : Prop :=
  ∃ (r : Int) (t : Tok) (a : Int) (ta : Tok) (b : Int) (tb : Tok), v = .int r t ∧ 0 ≤ r ∧ r < top ∧ 0 ≤ a ∧ 0 ≤ b ∧ b < 2147483647 ∧ news' = (src, pairO a ta b tb) :: rest
theorem fm_lo {x k : Int} (h : 0 < k) : 0 ≤ x.fmod k := by rw [Int.fmod_eq_emod_of_nonneg _ (Int.le_of_lt h)]; exact Int.emod_nonneg _ (Int.ne_of_gt h)
theorem fm_hi {x k : Int} (h : 0 < k) : x.fmod k < k := by rw [Int.fmod_eq_emod_of_nonneg _ (Int.le_of_lt h)]; exact Int.emod_lt_of_pos _ h
theorem fd_lo {x k : Int} (h : 0 < k) (hx : 0 ≤ x) : 0 ≤ x.fdiv k := by rw [Int.fdiv_eq_ediv_of_nonneg _ (Int.le_of_lt h)]; exact Int.ediv_nonneg hx (Int.le_of_lt h)
theorem sq_ok {a c d : Int} : PySem.IntMulOk ([a, Int.fmod c 2147483647].getD (Int.toNat 1) 0) d := PySem.IntMulOk.of_left (by
  show Builtin.Int.intBits (Int.fmod c 2147483647) ≤ 64
  have h1 := fm_lo (x := c) (k := 2147483647) (by decide)
  have h2 := fm_hi (x := c) (k := 2147483647) (by decide)
  exact PySem.intBits_le_64 (by omega) (by omega))
section
local macro_rules | `(tactic| mul_fits) => `(tactic| exact sq_ok)
local macro_rules | `(tactic| k_all) => `(tactic| assumption)
set_option maxRecDepth 100000 in
set_option maxHeartbeats 1500000 in
theorem take_cut (w : World) (mean : ExcName → Option Value) (mg mb : Str → Option Value) (src : Addr) (rest : List (Addr × Obj)) (hr : ∀ p ∈ rest, p.1 ≠ src) (a b top : Int) (ta tb tt : Tok) (h1 : 0 ≤ a) (h2 : 0 ≤ b) (h3 : b < 2147483647) (h4 : 0 < top) (h5 : top ≤ 1000) :
    Cut w mean mg mb 81 1 ((src, PySem.W.listOf [Value.int a ta, Value.int b tb].toArray 0) :: rest) [.ref src, .int top tt] (TakePost src top rest) := by
  unfold Cut
  k_fill
  intro dp un gd cn cs a1 ccd cl outer A₀ base h₀ L mm s Q E B F X N T hk hd hu hret
  refine wpAny_call ?_
  k_dflt cell_enter
  k_steps
  · exact hret _ _ _ _ ⟨_, _, _, _, _, _, rfl, fm_lo h4, fm_hi h4, fd_lo h4 h1, h2, h3, rfl⟩ (by assumption) (by assumption)
  · exact hret _ _ _ _ ⟨_, _, _, _, _, _, rfl, fm_lo h4, fm_hi h4, h1, fm_lo (by decide), fm_hi (by decide), rfl⟩ (by assumption) (by assumption)
end
end Mine
end PartC2

section PartC4
open PySem PySem.W PyProof.Rows PySem.Calls PySem.Spec PyProof.Rows.LCg
namespace Mine
section
variable {w : World} {mean : ExcName → Option Value} {mg mb : Str → Option Value} {src : Addr} {r1 r2 : List (Addr × Obj)} {a b top : Int} {ta tb tt : Tok}
  {dp un : Nat} {gd : Option (List Code)} {cn : Str} {cs : Scope} {ad : Addr} {ccd : Value} {cl : List (Str × Addr)} {outer : List Env} {A₀ : Around} {base h₀ : Heap} {L : Addr} {m : Str → Option Value} {s : Shared} {Q E : Value → Shared → Prop}
theorem take_use {news : List (Addr × Obj)} (B : Below A₀ base outer h₀) (F : Fr h₀ L s.heap m) (X : (hd.heap_39 w.params).In h₀) (N : News h₀ L s.heap news) (T : Top hd.view_39 (looseW hd.view_39 []) mean mg mb h₀) (hk : cs.kind = .function)
    (e : news = r1 ++ (src, PySem.W.listOf [Value.int a ta, Value.int b tb].toArray 0) :: r2) (d1 : ∀ p ∈ r1, p.1 ≠ src) (d2 : ∀ p ∈ r2, p.1 ≠ src) (h1 : 0 ≤ a) (h2 : 0 ≤ b) (h3 : b < 2147483647) (h4 : 0 < top) (h5 : top ≤ 1000)
    (hd : dp + 1 < recursionLimit) (hu : un + 8 * 1 < cLine)
    (ret : ∀ r t a' ta' b' tb' h' tk', 0 ≤ r → r < top → 0 ≤ a' → 0 ≤ b' → b' < 2147483647 → Fr h₀ L h' m → News h₀ L h' (r1 ++ (src, PySem.W.listOf [Value.int a' ta', Value.int b' tb'].toArray 0) :: r2) → Q (.int r t) { s with heap := h', toks := tk' }) :
    wpAny (model PySem.Challenge.rw_xm0796_01.row.prog w) (ktrTop dp un gd cn cs L ad ccd cl outer) (call (.ref 81) [.ref src, .int top tt]) Q E s := by
  subst e
  refine take_cut w mean mg mb src (r1 ++ r2) (fun p hp => (List.mem_append.mp hp).elim (d1 p) (d2 p)) a b top ta tb tt h1 h2 h3 h4 h5 _ _ _ _ _ _ _ _ _ _ _ _ _ _ _ _ _ B F X (fun p hp => N p ?_) T hk hd hu ?_
  · rcases List.mem_cons.mp hp with rfl | hp
    · simp
    · rcases List.mem_append.mp hp with hp | hp
      · exact List.mem_append_left _ hp
      · exact List.mem_append_right _ (List.mem_cons_of_mem _ hp)
  · intro v news' h' tk' post F' N'
    obtain ⟨r, t, a', ta', b', tb', rfl, p1, p2, p3, p4, p5, rfl⟩ := post
    refine ret r t a' ta' b' tb' h' tk' p1 p2 p3 p4 p5 F' fun p hp => N' p ?_
    rcases List.mem_append.mp hp with hp | hp
    · exact List.mem_cons_of_mem _ (List.mem_append_left _ hp)
    · rcases List.mem_cons.mp hp with rfl | hp
      · exact List.mem_cons_self
      · exact List.mem_cons_of_mem _ (List.mem_append_right _ hp)
end
theorem near_cut2 (w : World) (mean : ExcName → Option Value) (mg mb : Str → Option Value) (news : List (Addr × Obj)) (v l m : Int) (tv tl tm : Tok) (h3 : 2 ≤ l) (h4 : l ≤ 12) (h5 : 0 ≤ m) (h6 : m ≤ 255) (h7 : l ≤ m + 1) :
    Cut w mean mg mb 60 2 news [.int v tv, .int l tl, .int m tm] (IntPost (dueF v l m) news) := by
  rw [← near_due h3 h7]
  exact near_cut w mean mg mb news v l m tv tl tm h3 h4 h5 h6
end Mine
end PartC4

section PartC5
open PySem PySem.W PyProof.Rows PySem.Calls PySem.Spec PyProof.Rows.LCg
namespace Mine
theorem near_one (w : World) (mean : ExcName → Option Value) (mg mb : Str → Option Value) (news : List (Addr × Obj)) (tv tl tm : Tok) : Cut w mean mg mb 60 2 news [.int 1 tv, .int 2 tl, .int 2 tm] (IntPost 0 news) :=
  near_cut w mean mg mb news 1 2 2 tv tl tm (by decide) (by decide) (by decide) (by decide)
theorem near_two (w : World) (mean : ExcName → Option Value) (mg mb : Str → Option Value) (news : List (Addr × Obj)) (tv tl tm : Tok) : Cut w mean mg mb 60 2 news [.int 2 tv, .int 2 tl, .int 2 tm] (IntPost 1 news) :=
  near_cut w mean mg mb news 2 2 2 tv tl tm (by decide) (by decide) (by decide) (by decide)
theorem pool_lo (c : Int) (p : Prop) [Decidable p] : 0 ≤ (if -1 - c > c then -1 - c else c) * (if p then 1 else 0) := by
  refine Int.mul_nonneg ?_ ?_
  · split <;> omega
  · split <;> omega
section
local macro_rules | `(tactic| k_room) => `(tactic| ktr_room)
set_option maxRecDepth 100000 in
set_option maxHeartbeats 1500000 in
theorem pool_cut {w : World} {mean : ExcName → Option Value} {mg mb : Str → Option Value} {news : List (Addr × Obj)} {l : Addr} {vs : List Value} {ns : List Int}
  {dp un : Nat} {gd : Option (List Code)} {cn : Str} {cs : Scope} {ad : Addr} {ccd : Value} {cl : List (Str × Addr)} {outer : List Env} {A₀ : Around} {base h₀ : Heap} {L : Addr} {m : Str → Option Value} {s : Shared} {Q E : Value → Shared → Prop}
    (B : Below A₀ base outer h₀) (F : Fr h₀ L s.heap m) (X : (hd.heap_39 w.params).In h₀) (N : News h₀ L s.heap news) (T : Top hd.view_39 (looseW hd.view_39 []) mean mg mb h₀) (hk : cs.kind = .function)
    (hl : base.IsList l vs.toArray) (hi : IntsAre vs ns) (hfit : ns.length < 2 ^ 62)
    (hd : dp + 1 < recursionLimit) (hu : un + 8 * 1 < cLine)
    (ret : ∀ src a ta b tb h' tk', 0 ≤ a → 0 ≤ b → b < 2147483647 → Fr h₀ L h' m → News h₀ L h' ((src, PySem.W.listOf [Value.int a ta, Value.int b tb].toArray 0) :: news) → (∀ p ∈ news, p.1 < src) → Q (.ref src) { s with heap := h', toks := tk' }) :
    wpAny (model PySem.Challenge.rw_xm0796_01.row.prog w) (ktrTop dp un gd cn cs L ad ccd cl outer) (call (.ref 74) [.ref l]) Q E s := by
  revert X; k_fill; intro X
  obtain ⟨ck, c1, c2, c3, c4⟩ := cs
  have hk' : ck = ScopeKind.function := hk
  subst hk'
  refine wpAny_call ?_
  k_dflt k_enter
  k_steps
  all_goals exact ret _ _ _ _ _ _ _ (pool_lo _ _) (fm_lo (by decide)) (fm_hi (by decide)) (by assumption) (by assumption) (by assumption)
end
end Mine
end PartC5

section PartC6
open PySem PySem.W PyProof.Rows PySem.Calls PySem.Spec PyProof.Rows.LCg
namespace Mine
section
variable {M : Model} {A : Around} {env : Env} {x : Str} {t : Tok} {Q : Unit → Shared → Prop} {E : Value → Shared → Prop} {s : Shared}
theorem four {r : Int} (h0 : 0 ≤ r) (h1 : r < 4) {P : Nat → Prop} (p0 : P 0) (p1 : P 1) (p2 : P 2) (p3 : P 3) : P r.toNat := by
  obtain h | h | h | h : r.toNat = 0 ∨ r.toNat = 1 ∨ r.toNat = 2 ∨ r.toNat = 3 := by omega
  all_goals (rw [h]; assumption)
theorem gen_most {r : Int} (h0 : 0 ≤ r) (h1 : r < 4) (h : ∀ y : Int, 1 ≤ y → y ≤ 255 → wpAny M A (storeName env x (.int y t)) Q E s) :
    wpAny M A (storeName env x (.int (([255, 15, 3, 1] : List Int).getD r.toNat 0) t)) Q E s :=
  h _ (four (P := fun i => (1 : Int) ≤ ([255, 15, 3, 1] : List Int).getD i 0) h0 h1 (by decide) (by decide) (by decide) (by decide)) (four (P := fun i => ([255, 15, 3, 1] : List Int).getD i 0 ≤ 255) h0 h1 (by decide) (by decide) (by decide) (by decide))
theorem gen_levels {r m : Int} (h0 : 0 ≤ r) (h1 : r < if m < 11 then m else 11) (h : ∀ y : Int, 2 ≤ y → y ≤ 12 → y ≤ m + 1 → wpAny M A (storeName env x (.int y t)) Q E s) :
    wpAny M A (storeName env x (.int (2 + r) t)) Q E s :=
  h _ (by omega) (by split at h1 <;> omega) (by split at h1 <;> omega)
theorem gen_wrong {r m k : Int} (h0 : 0 ≤ r) (h1 : r < 5) (hm : 1 ≤ m) (hk : 0 ≤ k) (h : ∀ y : Int, (y < 2 ∨ m + 1 < y) → wpAny M A (storeName env x (.int y t)) Q E s) :
    wpAny M A (storeName env x (.int (([1, 0, -1, m + 2, m + 2 + k] : List Int).getD r.toNat 0) t)) Q E s := by
  refine h _ ?_
  obtain h | h | h | h | h : r.toNat = 0 ∨ r.toNat = 1 ∨ r.toNat = 2 ∨ r.toNat = 3 ∨ r.toNat = 4 := by omega
  all_goals (rw [h]; simp; try omega)
end
end Mine
end PartC6

section PartC7
open PySem PySem.W PyProof.Rows PySem.Calls PySem.Spec PyProof.Rows.LCg
namespace Mine
theorem ne_rest {news : List (Addr × Obj)} {t e : Addr} {o : Obj} (l : ∀ p ∈ news, p.1 < t) (m : t < e) : ∀ p ∈ (t, o) :: news, p.1 ≠ e :=
  List.forall_mem_cons.mpr ⟨Nat.ne_of_lt m, fun p hp => Nat.ne_of_lt (Nat.lt_trans (l p hp) m)⟩
theorem ne_rest2 {news r : List (Addr × Obj)} {t t' e : Addr} {o o' o'' : Obj} (l : ∀ p ∈ news, p.1 < t) (m : t < e) (k : ∀ p ∈ (e, o) :: r, p.1 < t') : ∀ p ∈ (t', o') :: (t, o'') :: news, p.1 ≠ e :=
  List.forall_mem_cons.mpr ⟨Nat.ne_of_gt (k _ List.mem_cons_self), ne_rest l m⟩
section
local macro_rules | `(tactic| k_room) => `(tactic| ktr_room)
local macro_rules | `(tactic| walk_at "exec Raise some none") => `(tactic| (k_here; (with_reducible show wpAny _ _ (exec (Stmt.Raise (some (Expr.Call (Expr.Name (Str.ofString "RangeError") _) _ _ _)) none _) _) _ _ _); k_dflt (refine' raise_own (C := 44) ?kX ?k1 ?k2 ?k3 ?_; (case kX => k_asm); (case k1 => rfl); (case k2 => k_is); (case k3 => k_is))))
local macro_rules | `(tactic| walk_at "call ref") => `(tactic| (k_here; (with_reducible show wpAny _ _ (call (Value.ref 44) _) _ _ _); k_dflt (refine' exc_make_K PySem.F.excBase_Exception ?k1 ?k2 ?k3 ?k4 ?k5 ?k6 ?k7 ?k8 ?k9 ?kA ?_; (case k1 => k_asm); (case k2 => k_asm); (case k3 => k_asm); (case k4 => k_is); (case k5 => k_is); (case k6 => k_is); (case k7 => decide); (case k8 => decide); (case k9 => decide); (case kA => size_fits)); intro e9 t9 h9 F9 N9 l9 m9; (try k_sweep); (try dsimp only); (try k_fold)))
local macro_rules | `(tactic| walk_at "getMethod type:Exception") => `(tactic| (k_here; refine' method_type ?F ?X exc_meta (by decide +kernel) ?e ?h ?_; (case F => k_asm); (case X => k_asm); (case e => k_dflt k_is); (case h => k_handed)))
local macro_rules | `(tactic| walk_at "call builtin:Exception.__init__") => `(tactic| (k_here; k_dflt (refine' init_K (C := 44) PySem.F.excBase_Exception ?k1 ?k2 ?k3 ?k4 ?k5 ?k6 ?k7 ?_; (case k1 => k_asm); (case k2 => k_asm); (case k3 => k_asm); (case k4 => k_is); (case k5 => decide); (case k6 => exact ne_rest (by assumption) (by assumption)); (case k7 => size_fits)); intro t9 h9 F9 N9 l9; (try k_sweep)))
local macro_rules | `(tactic| walk_at "setAttr ref") => `(tactic| (k_here; k_dflt (refine' setx_K (C := 44) ?k1 ?k2 ?k3 ?k4 ?k5 ?k6 ?k7 ?_; (case k1 => k_asm); (case k2 => k_asm); (case k3 => k_asm); (case k4 => k_is); (case k5 => k_is); (case k6 => k_is); (case k7 => exact ne_rest2 (by assumption) (by assumption) (by assumption))); intro d9 h9 tk9 F9 N9; (try k_sweep)))
local macro_rules | `(tactic| walk_at "And") => `(tactic| ((with_reducible show _ ∧ ORais _ _ _ _ _); refine ⟨rfl, ?_⟩))
local macro_rules | `(tactic| walk_at "ORais") => `(tactic| (refine' orais_K ?F ?N ?X ?m ?_; (case F => k_asm); (case N => k_asm); (case X => k_asm); (case m => k_mem)))
local macro_rules | `(tactic| walk_at "leaving ref") => `(tactic| (k_here; k_dflt (refine' leave_ownS ?k1 ?k2 ?k3 ?k4 ?_; (case k1 => assumption); (case k2 => assumption); (case k3 => assumption); (case k4 => exact ne_rest2 (by assumption) (by assumption) (by assumption))); intro h9 R9 S9 U9; (try dsimp only at R9 S9 U9 ⊢)))
set_option maxRecDepth 100000 in
set_option maxHeartbeats 1000000 in
theorem let_F {w : World} {mean : ExcName → Option Value} {mg mb : Str → Option Value} {news : List (Addr × Obj)} {l m : Int} {tl tm : Tok}
  {dp un : Nat} {gd : Option (List Code)} {cn : Str} {cs : Scope} {ad : Addr} {ccd : Value} {A₀ : Around} {h₀ : Heap} {L : Addr} {mm : Str → Option Value} {s : Shared} {Q E : Value → Shared → Prop}
    (B : Below A₀ h₀ [] h₀) (F : Fr h₀ L s.heap mm) (X : (hd.heap_39 w.params).In h₀) (N : News h₀ L s.heap news) (T : Top hd.view_39 (looseW hd.view_39 []) mean mg mb h₀) (hk : cs.kind = .function)
    (hc : l < 2 ∨ m + 1 < l) (hd : dp + 6 < recursionLimit) (hu : un + 60 < cLine)
    (ret : ∀ h' tk', Fr h₀ L h' mm → News h₀ L h' news → Q (.bool false) { s with heap := h', toks := tk' }) :
    wpAny (model PySem.Challenge.rw_xm0796_01.row.prog w) (ktrTop dp un gd cn cs L ad ccd [] []) (call (.ref 100) [.int l tl, .int m tm]) Q E s := by
  revert X; k_fill; intro X
  obtain ⟨ck, c1, c2, c3, c4⟩ := cs
  have hk' : ck = ScopeKind.function := hk
  subst hk'
  k_steps
  all_goals exact ret _ _ (by assumption) (cb_drop (by assumption) (fun p hp => by first | assumption | simp [hp]))
end
end Mine
end PartC7

section PartC8
open PySem PySem.W PyProof.Rows PySem.Calls PySem.Spec PyProof.Rows.LCg
namespace Mine
section
local macro_rules | `(tactic| k_room) => `(tactic| ktr_room)
set_option maxRecDepth 100000 in
set_option maxHeartbeats 1000000 in
theorem let_T {w : World} {mean : ExcName → Option Value} {mg mb : Str → Option Value} {news : List (Addr × Obj)} {l m : Int} {tl tm : Tok}
  {dp un : Nat} {gd : Option (List Code)} {cn : Str} {cs : Scope} {ad : Addr} {ccd : Value} {A₀ : Around} {h₀ : Heap} {L : Addr} {mm : Str → Option Value} {s : Shared} {Q E : Value → Shared → Prop}
    (B : Below A₀ h₀ [] h₀) (F : Fr h₀ L s.heap mm) (X : (hd.heap_39 w.params).In h₀) (N : News h₀ L s.heap news) (T : Top hd.view_39 (looseW hd.view_39 []) mean mg mb h₀) (hk : cs.kind = .function)
    (h1 : 2 ≤ l) (h2 : l ≤ m + 1) (hd : dp + 6 < recursionLimit)
    (ret : ∀ h' tk', Fr h₀ L h' mm → News h₀ L h' news → Q (.bool true) { s with heap := h', toks := tk' }) :
    wpAny (model PySem.Challenge.rw_xm0796_01.row.prog w) (ktrTop dp un gd cn cs L ad ccd [] []) (call (.ref 100) [.int l tl, .int m tm]) Q E s := by
  revert X; k_fill; intro X
  obtain ⟨ck, c1, c2, c3, c4⟩ := cs
  have hk' : ck = ScopeKind.function := hk
  subst hk'
  k_steps
  exact ret _ _ (by assumption) (by assumption)
end
end Mine
end PartC8

open PySem PySem.W PyProof.Rows PySem.Calls PySem.Spec PyProof.Rows.LCg
local macro_rules | `(tactic| walk_at "call ref") => `(tactic| (k_here; (with_reducible show wpAny _ _ (call (Value.ref 81) _) _ _ _); k_dflt (first
  | (refine' Mine.take_use (r1 := []) ?k1 ?k2 ?k3 ?k4 ?k5 ?kK ?ke ?kp ?kq ?ka ?kb ?kc ?kd ?kf ?kg ?kh ?_; (case k4 => k_asm); (case ke => exact rfl); (case k1 => k_asm); (case k2 => k_asm); (case k3 => k_asm); (case k5 => k_asm); (case kK => exact rfl); (case kp => k_all); (case kq => k_all); (case ka => k_asm); (case kb => k_asm); (case kc => k_asm); (case kd => first | omega | l_fact); (case kf => first | omega | l_fact); (case kg => ktr_room); (case kh => ktr_units))
  | (refine' Mine.take_use (r1 := [_]) ?k1 ?k2 ?k3 ?k4 ?k5 ?kK ?ke ?kp ?kq ?ka ?kb ?kc ?kd ?kf ?kg ?kh ?_; (case k4 => k_asm); (case ke => exact rfl); (case k1 => k_asm); (case k2 => k_asm); (case k3 => k_asm); (case k5 => k_asm); (case kK => exact rfl); (case kp => k_all); (case kq => k_all); (case ka => k_asm); (case kb => k_asm); (case kc => k_asm); (case kd => first | omega | l_fact); (case kf => first | omega | l_fact); (case kg => ktr_room); (case kh => ktr_units))
  | (refine' Mine.take_use (r1 := [_, _]) ?k1 ?k2 ?k3 ?k4 ?k5 ?kK ?ke ?kp ?kq ?ka ?kb ?kc ?kd ?kf ?kg ?kh ?_; (case k4 => k_asm); (case ke => exact rfl); (case k1 => k_asm); (case k2 => k_asm); (case k3 => k_asm); (case k5 => k_asm); (case kK => exact rfl); (case kp => k_all); (case kq => k_all); (case ka => k_asm); (case kb => k_asm); (case kc => k_asm); (case kd => first | omega | l_fact); (case kf => first | omega | l_fact); (case kg => ktr_room); (case kh => ktr_units))
  | (refine' Mine.take_use (r1 := [_, _, _]) ?k1 ?k2 ?k3 ?k4 ?k5 ?kK ?ke ?kp ?kq ?ka ?kb ?kc ?kd ?kf ?kg ?kh ?_; (case k4 => k_asm); (case ke => exact rfl); (case k1 => k_asm); (case k2 => k_asm); (case k3 => k_asm); (case k5 => k_asm); (case kK => exact rfl); (case kp => k_all); (case kq => k_all); (case ka => k_asm); (case kb => k_asm); (case kc => k_asm); (case kd => first | omega | l_fact); (case kf => first | omega | l_fact); (case kg => ktr_room); (case kh => ktr_units))
  | (refine' Mine.take_use (r1 := [_, _, _, _]) ?k1 ?k2 ?k3 ?k4 ?k5 ?kK ?ke ?kp ?kq ?ka ?kb ?kc ?kd ?kf ?kg ?kh ?_; (case k4 => k_asm); (case ke => exact rfl); (case k1 => k_asm); (case k2 => k_asm); (case k3 => k_asm); (case k5 => k_asm); (case kK => exact rfl); (case kp => k_all); (case kq => k_all); (case ka => k_asm); (case kb => k_asm); (case kc => k_asm); (case kd => first | omega | l_fact); (case kf => first | omega | l_fact); (case kg => ktr_room); (case kh => ktr_units))
  | (refine' Mine.take_use (r1 := [_, _, _, _, _]) ?k1 ?k2 ?k3 ?k4 ?k5 ?kK ?ke ?kp ?kq ?ka ?kb ?kc ?kd ?kf ?kg ?kh ?_; (case k4 => k_asm); (case ke => exact rfl); (case k1 => k_asm); (case k2 => k_asm); (case k3 => k_asm); (case k5 => k_asm); (case kK => exact rfl); (case kp => k_all); (case kq => k_all); (case ka => k_asm); (case kb => k_asm); (case kc => k_asm); (case kd => first | omega | l_fact); (case kf => first | omega | l_fact); (case kg => ktr_room); (case kh => ktr_units))
  | (refine' Mine.take_use (r1 := [_, _, _, _, _, _]) ?k1 ?k2 ?k3 ?k4 ?k5 ?kK ?ke ?kp ?kq ?ka ?kb ?kc ?kd ?kf ?kg ?kh ?_; (case k4 => k_asm); (case ke => exact rfl); (case k1 => k_asm); (case k2 => k_asm); (case k3 => k_asm); (case k5 => k_asm); (case kK => exact rfl); (case kp => k_all); (case kq => k_all); (case ka => k_asm); (case kb => k_asm); (case kc => k_asm); (case kd => first | omega | l_fact); (case kf => first | omega | l_fact); (case kg => ktr_room); (case kh => ktr_units))
  | (refine' Mine.take_use (r1 := [_, _, _, _, _, _, _]) ?k1 ?k2 ?k3 ?k4 ?k5 ?kK ?ke ?kp ?kq ?ka ?kb ?kc ?kd ?kf ?kg ?kh ?_; (case k4 => k_asm); (case ke => exact rfl); (case k1 => k_asm); (case k2 => k_asm); (case k3 => k_asm); (case k5 => k_asm); (case kK => exact rfl); (case kp => k_all); (case kq => k_all); (case ka => k_asm); (case kb => k_asm); (case kc => k_asm); (case kd => first | omega | l_fact); (case kf => first | omega | l_fact); (case kg => ktr_room); (case kh => ktr_units))
  | (refine' Mine.take_use (r1 := [_, _, _, _, _, _, _, _]) ?k1 ?k2 ?k3 ?k4 ?k5 ?kK ?ke ?kp ?kq ?ka ?kb ?kc ?kd ?kf ?kg ?kh ?_; (case k4 => k_asm); (case ke => exact rfl); (case k1 => k_asm); (case k2 => k_asm); (case k3 => k_asm); (case k5 => k_asm); (case kK => exact rfl); (case kp => k_all); (case kq => k_all); (case ka => k_asm); (case kb => k_asm); (case kc => k_asm); (case kd => first | omega | l_fact); (case kf => first | omega | l_fact); (case kg => ktr_room); (case kh => ktr_units))
  | (refine' Mine.take_use (r1 := [_, _, _, _, _, _, _, _, _]) ?k1 ?k2 ?k3 ?k4 ?k5 ?kK ?ke ?kp ?kq ?ka ?kb ?kc ?kd ?kf ?kg ?kh ?_; (case k4 => k_asm); (case ke => exact rfl); (case k1 => k_asm); (case k2 => k_asm); (case k3 => k_asm); (case k5 => k_asm); (case kK => exact rfl); (case kp => k_all); (case kq => k_all); (case ka => k_asm); (case kb => k_asm); (case kc => k_asm); (case kd => first | omega | l_fact); (case kf => first | omega | l_fact); (case kg => ktr_room); (case kh => ktr_units))
  | (refine' Mine.take_use (r1 := [_, _, _, _, _, _, _, _, _, _]) ?k1 ?k2 ?k3 ?k4 ?k5 ?kK ?ke ?kp ?kq ?ka ?kb ?kc ?kd ?kf ?kg ?kh ?_; (case k4 => k_asm); (case ke => exact rfl); (case k1 => k_asm); (case k2 => k_asm); (case k3 => k_asm); (case k5 => k_asm); (case kK => exact rfl); (case kp => k_all); (case kq => k_all); (case ka => k_asm); (case kb => k_asm); (case kc => k_asm); (case kd => first | omega | l_fact); (case kf => first | omega | l_fact); (case kg => ktr_room); (case kh => ktr_units))
  | (refine' Mine.take_use (r1 := [_, _, _, _, _, _, _, _, _, _, _]) ?k1 ?k2 ?k3 ?k4 ?k5 ?kK ?ke ?kp ?kq ?ka ?kb ?kc ?kd ?kf ?kg ?kh ?_; (case k4 => k_asm); (case ke => exact rfl); (case k1 => k_asm); (case k2 => k_asm); (case k3 => k_asm); (case k5 => k_asm); (case kK => exact rfl); (case kp => k_all); (case kq => k_all); (case ka => k_asm); (case kb => k_asm); (case kc => k_asm); (case kd => first | omega | l_fact); (case kf => first | omega | l_fact); (case kg => ktr_room); (case kh => ktr_units))
  | (refine' Mine.take_use (r1 := [_, _, _, _, _, _, _, _, _, _, _, _]) ?k1 ?k2 ?k3 ?k4 ?k5 ?kK ?ke ?kp ?kq ?ka ?kb ?kc ?kd ?kf ?kg ?kh ?_; (case k4 => k_asm); (case ke => exact rfl); (case k1 => k_asm); (case k2 => k_asm); (case k3 => k_asm); (case k5 => k_asm); (case kK => exact rfl); (case kp => k_all); (case kq => k_all); (case ka => k_asm); (case kb => k_asm); (case kc => k_asm); (case kd => first | omega | l_fact); (case kf => first | omega | l_fact); (case kg => ktr_room); (case kh => ktr_units))); intro r9 t9 a9 ta9 b9 tb9 h9 tk9 p9 o9 q9 u9 v9 F9 N9; (try simp only [List.nil_append, List.cons_append] at N9); (try k_sweep); (try dsimp only); (try k_fold)))
local macro_rules | `(tactic| walk_at "call ref") => `(tactic| (k_here; (with_reducible show wpAny _ _ (call (Value.ref 60) [Value.int 1 _, _, _]) _ _ _); k_dflt (refine' Mine.int_use ?k1 ?k2 ?k3 ?k4 ?k5 ?kK (Mine.near_one _ _ _ _ _ _ _ _) ?kg ?kh ?_; (case k1 => k_asm); (case k2 => k_asm); (case k3 => k_asm); (case k4 => k_asm); (case k5 => k_asm); (case kK => exact rfl); (case kg => ktr_room); (case kh => ktr_units)); intro t9 h9 tk9 F9 N9; (try k_sweep); (try dsimp only); (try k_fold)))
local macro_rules | `(tactic| walk_at "call ref") => `(tactic| (k_here; (with_reducible show wpAny _ _ (call (Value.ref 60) [Value.int 2 _, _, _]) _ _ _); k_dflt (refine' Mine.int_use ?k1 ?k2 ?k3 ?k4 ?k5 ?kK (Mine.near_two _ _ _ _ _ _ _ _) ?kg ?kh ?_; (case k1 => k_asm); (case k2 => k_asm); (case k3 => k_asm); (case k4 => k_asm); (case k5 => k_asm); (case kK => exact rfl); (case kg => ktr_room); (case kh => ktr_units)); intro t9 h9 tk9 F9 N9; (try k_sweep); (try dsimp only); (try k_fold)))
local macro_rules | `(tactic| walk_at "call ref") => `(tactic| (k_here; (with_reducible show wpAny _ _ (call (Value.ref 74) _) _ _ _); k_dflt (refine' Mine.pool_cut ?k1 ?k2 ?k3 ?k4 ?k5 ?kK ?kl ?ki ?kt ?kg ?kh ?_; (case k1 => k_asm); (case k2 => k_asm); (case k3 => k_asm); (case k4 => k_asm); (case k5 => k_asm); (case kK => exact rfl); (case kl => k_asm); (case ki => l_ints); (case kt => l_fit); (case kg => ktr_room); (case kh => ktr_units)); intro src9 a9 ta9 b9 tb9 h9 tk9 p9 q9 r9 F9 N9 l9; (try k_lt l9); (try k_sweep); (try dsimp only); (try k_fold)))
local macro_rules | `(tactic| walk_at "storeName") => `(tactic| (k_here; k_dflt (first
  | (refine' Mine.gen_most ?ka ?kb ?_; (case ka => k_asm); (case kb => first | k_asm | omega | l_fact))
  | (refine' Mine.gen_levels ?ka ?kb ?_; (case ka => k_asm); (case kb => k_asm))
  | (refine' Mine.gen_wrong ?ka ?kb ?kc ?kd ?_; (case ka => k_asm); (case kb => first | k_asm | omega | l_fact); (case kc => k_asm); (case kd => k_asm))); intros))
local macro_rules | `(tactic| walk_at "call ref") => `(tactic| (k_here; (with_reducible show wpAny _ _ (call (Value.ref 60) [Value.int _ _, Value.int _ _, Value.int _ _]) _ _ _); (fail_if_success (with_reducible show wpAny _ _ (call (Value.ref 60) [_, Value.int 2 _, _]) _ _ _)); k_dflt (refine' Mine.int_use ?k1 ?k2 ?k3 ?k4 ?k5 ?kK (Mine.near_cut2 _ _ _ _ _ _ _ _ _ _ _ ?ka ?kb ?kc ?kd ?ke) ?kg ?kh ?_; (case k1 => k_asm); (case k2 => k_asm); (case k3 => k_asm); (case k4 => k_asm); (case k5 => k_asm); (case kK => exact rfl); (case ka => k_asm); (case kb => k_asm); (case kc => omega); (case kd => k_asm); (case ke => k_asm); (case kg => ktr_room); (case kh => ktr_units)); intro t9 h9 tk9 F9 N9; (try k_sweep); (try dsimp only); (try k_fold)))
local macro_rules | `(tactic| walk_at "call ref") => `(tactic| (k_here; (with_reducible show wpAny _ _ (call (Value.ref 93) [Value.int _ _, Value.int _ _, Value.int _ _]) _ _ _); k_dflt (refine' Mine.int_use ?k1 ?k2 ?k3 ?k4 ?k5 ?kK (Mine.due_cut _ _ _ _ _ _ _ _ _ _ _ ?ka ?kb ?kc ?kd) ?kg ?kh ?_; (case k1 => k_asm); (case k2 => k_asm); (case k3 => k_asm); (case k4 => k_asm); (case k5 => k_asm); (case kK => exact rfl); (case ka => k_asm); (case kb => k_asm); (case kc => omega); (case kd => k_asm); (case kg => ktr_room); (case kh => ktr_units)); intro t9 h9 tk9 F9 N9; (try k_sweep); (try dsimp only); (try k_fold)))
local macro_rules | `(tactic| walk_at "call ref") => `(tactic| (k_here; (with_reducible show wpAny _ _ (call (Value.ref 100) _) _ _ _); k_dflt (first
  | (refine' Mine.let_T ?k1 ?k2 ?k3 ?k4 ?k5 ?kK ?ka ?kb ?kg ?_; (case k1 => k_asm); (case k2 => k_asm); (case k3 => k_asm); (case k4 => k_asm); (case k5 => k_asm); (case kK => exact rfl); (case ka => first | assumption | omega); (case kb => first | assumption | omega); (case kg => ktr_room))
  | (refine' Mine.let_F ?k1 ?k2 ?k3 ?k4 ?k5 ?kK ?ka ?kg ?kh ?_; (case k1 => k_asm); (case k2 => k_asm); (case k3 => k_asm); (case k4 => k_asm); (case k5 => k_asm); (case kK => exact rfl); (case ka => assumption); (case kg => ktr_room); (case kh => ktr_units))); intro h9 tk9 F9 N9; (try k_sweep); (try dsimp only); (try k_fold)))
set_option maxRecDepth 100000 in
set_option maxHeartbeats 4000000 in
theorem PySem.Challenge.cw_xm0796_01_holds : PySem.Challenge.rw_xm0796_01.Holds := by
  refine Mine.hd ?_
  k_go0
  all_goals (try k_fold)
  k_steps
